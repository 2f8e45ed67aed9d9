import PyProof.Rows.All
import HandS.List
import HandS.Comp
import HandS.Iter
import HandS.Exc
import HandS.TryOnly
import HandS.ExcOwn
import HandS.Words
import HandS.Ends
import HandS.Lambda
import PyProof.ReprReads
import PyProof.EqLayable
import PyProof.Rows.RuleB_pow
import HandS.IsInst
import PyProof.ReprRoads
import PyProof.CallFns
import HandS.TupAny
import HandS.TupMul
import HandS.EndTab
import KE.KTryMore
import HandS.ExcIs
import HandS.Dict
import HandS.Style
import PyProof.Rows.RegStrFacts
import PySem.Challenge.RW_hollowrise_k01_fractions
import KE.KLam
import KE.KNestM
set_option Elab.async false
set_option linter.all false
set_option autoImplicit false
set_option maxRecDepth 100000
set_option maxHeartbeats 4000000
/-! D3: readings of data. Values are plain data (PyData) where HandS speaks of addresses. -/
namespace D3
open PySem PySem.Spec PyProof.Rows L2

/-! ### what never changes -/
inductive Fz : HO → Prop where
  | tup (xs : List V) : Fz (.tup xs)
  | frz (o : Obj) (u : HO) : Fz (.frz o u)
  | ext (φ : Heap → Prop) : Fz (.ext φ)
  | xd (fs : List (Str × V)) : Fz (.xd fs)
def Mono (H H' : Hp) : Prop := ∀ b o, Fz o → H b = some o → H' b = some o
theorem Mono.rfl {H : Hp} : Mono H H := fun _ _ _ h => h
theorem Mono.tr {H H1 H2 : Hp} (a : Mono H H1) (b : Mono H1 H2) : Mono H H2 := fun c o z h => b c o z (a c o z h)
theorem Mono.new {H : Hp} {p : Addr} {o : HO} (h : H p = none) : Mono H (upd H p o) := fun b u _ e => by
  rw [upd_ne (ne_of_none e h)]
  exact e
theorem Mono.at_ {H : Hp} {p : Addr} {o u : HO} (h : H p = some u) (n : ¬ Fz u) : Mono H (upd H p o) := fun b v z e => by
  have hb : b ≠ p := fun q => by
    subst q
    have r := e.symm.trans h
    exact n (Option.some.inj r ▸ z)
  rw [upd_ne hb]
  exact e
theorem nfz_lst {xs : List V} : ¬ Fz (.lst xs) := fun z => nomatch z

/-! ### data in the heap: lists frozen (or written by the top), tuples -/
def FzL (K : PySem.W.Frag) (H : Hp) (a : Addr) (xs : List V) : Prop := (∃ o, H a = some (.frz o (.lst xs))) ∨
  ∃ (its : Array Value) (n : Nat), K.lookup a = some { cls := .type "list", data := .seq its n } ∧ its.size ≤ sizeLine ∧ Vals xs its.toList
theorem FzL.sq {K : PySem.W.Frag} {H : Hp} {a : Addr} {xs : List V} (h : FzL K H a xs) : SqL K H a xs := by
  rcases h with h | ⟨its, n, h1, h2, h3⟩
  · exact .inl (.inr h)
  · exact .inr ⟨_, its, n, h1, rfl, rfl, rfl, h2, h3⟩
theorem FzL.mono {K : PySem.W.Frag} {H H' : Hp} (m : Mono H H') {a : Addr} {xs : List V} (h : FzL K H a xs) : FzL K H' a xs := by
  rcases h with ⟨o, h⟩ | h
  · exact .inl ⟨o, m _ _ (.frz _ _) h⟩
  · exact .inr h
theorem FzL.at_ {X : Cx} {pins : List (Addr × Obj)} {s : Shared} {σ : L2.St} {H : Hp} {a : Addr} {vs : List V} (I : Inv X pins σ H s) (h : FzL X.K H a vs) :
    vs.length ≤ sizeLine ∧ ∃ (its : List Value) (n : Nat), Vals vs its ∧ s.heap.get? a = some { cls := .type "list", data := .seq its.toArray n } := by
  rcases h with ⟨o, h⟩ | ⟨its, n, h1, h2, h3⟩
  · obtain ⟨_, z, its, n, r, e⟩ := I.hok a _ h
    exact ⟨z, its, n, r, e⟩
  · have l := h3.length
    simp only [Array.length_toList] at l
    exact ⟨by omega, its.toList, n, h3, I.kIn a _ h1⟩
mutual
inductive Dz (K : PySem.W.Frag) (H : Hp) : V → PyData → Prop
  | non : Dz K H .non .none
  | bl (b : Bool) : Dz K H (.bl b) (.bool b)
  | int (i : Int) : Dz K H (.int i) (.int i)
  | str (x : Str) : Dz K H (.str x) (.str x)
  | lst {a : Addr} {xs : List V} {ds : List PyData} : FzL K H a xs → DzA K H xs ds → Dz K H (.ref a) (.list ds)
  | tup {a : Addr} {xs : List V} {ds : List PyData} : SqT K H a xs → DzA K H xs ds → Dz K H (.ref a) (.tuple ds)
  | dct0 {a : Addr} {o : Obj} : H a = some (.frz o (.dK [])) → Dz K H (.ref a) (.dict [])
inductive DzA (K : PySem.W.Frag) (H : Hp) : List V → List PyData → Prop
  | nil : DzA K H [] []
  | cons {v : V} {vs : List V} {d : PyData} {ds : List PyData} : Dz K H v d → DzA K H vs ds → DzA K H (v :: vs) (d :: ds)
end
section
variable {K : PySem.W.Frag} {H H' : Hp}
theorem sqT_mono (m : Mono H H') {a : Addr} {xs : List V} (h : SqT K H a xs) : SqT K H' a xs := by
  rcases h with (h | ⟨o, h⟩) | h
  · exact .inl (.inl (m _ _ (.tup _) h))
  · exact .inl (.inr ⟨o, m _ _ (.frz _ _) h⟩)
  · exact .inr h
mutual
theorem Dz.mono (m : Mono H H') : ∀ (d : PyData) (v : V), Dz K H v d → Dz K H' v d
  | .none, _, h => by cases h; exact .non
  | .bool b, _, h => by cases h; exact .bl b
  | .int i, _, h => by cases h; exact .int i
  | .str x, _, h => by cases h; exact .str x
  | .list ds, _, h => by
    cases h with
    | lst h1 h2 => exact .lst (h1.mono m) (DzA.mono m ds _ h2)
  | .tuple ds, _, h => by
    cases h with
    | tup h1 h2 => exact .tup (sqT_mono m h1) (DzA.mono m ds _ h2)
  | .dict _, _, h => by
    cases h with
    | dct0 h1 => exact .dct0 (m _ _ (.frz _ _) h1)
theorem DzA.mono (m : Mono H H') : ∀ (ds : List PyData) (vs : List V), DzA K H vs ds → DzA K H' vs ds
  | [], _, h => by cases h; exact .nil
  | d :: ds, _, h => by
    cases h with
    | cons h1 h2 => exact .cons (Dz.mono m d _ h1) (DzA.mono m ds _ h2)
end
mutual
theorem lay_noDict : ∀ d : PyData, d.canLay0 = true → d.hasDict = false
  | .none, _ => by simp [PyData.hasDict]
  | .bool _, _ => by simp [PyData.hasDict]
  | .int _, _ => by simp [PyData.hasDict]
  | .str _, _ => by simp [PyData.hasDict]
  | .list ds, h => by
    have z := lay_noDictAll ds (by simpa [PyData.canLay0] using h)
    simpa [PyData.hasDict] using z
  | .tuple ds, h => by
    have z := lay_noDictAll ds (by simpa [PyData.canLay0] using h)
    simpa [PyData.hasDict] using z
  | .dict _, h => by simp [PyData.canLay0] at h
theorem lay_noDictAll : ∀ ds : List PyData, PyData.canLayAll0 ds = true → PyData.hasDictAll ds = false
  | [], _ => by simp [PyData.hasDictAll]
  | d :: ds, h => by
    have z : d.canLay0 = true ∧ PyData.canLayAll0 ds = true := by simpa [PyData.canLayAll0] using h
    simp [PyData.hasDictAll, lay_noDict d z.1, lay_noDictAll ds z.2]
end
mutual
theorem Dz.dp : ∀ (d : PyData) (v : V), d.hasDict = false → Dz K H v d → Dp K H v d
  | .none, _, _, h => by cases h; exact .non
  | .bool b, _, _, h => by cases h; exact .bl b
  | .int i, _, _, h => by cases h; exact .int i
  | .str x, _, _, h => by cases h; exact .str x
  | .list ds, _, n, h => by
    cases h with
    | lst h1 h2 => exact .lst h1.sq (DzA.dp ds _ (by simpa [PyData.hasDict] using n) h2)
  | .tuple ds, _, n, h => by
    cases h with
    | tup h1 h2 => exact .tup h1 (DzA.dp ds _ (by simpa [PyData.hasDict] using n) h2)
  | .dict _, _, n, h => by simp [PyData.hasDict] at n
theorem DzA.dp : ∀ (ds : List PyData) (vs : List V), PyData.hasDictAll ds = false → DzA K H vs ds → DpAll K H vs ds
  | [], _, _, h => by cases h; exact .nil
  | d :: ds, _, n, h => by
    have z : d.hasDict = false ∧ PyData.hasDictAll ds = false := by simpa [PyData.hasDictAll] using n
    cases h with
    | cons h1 h2 => exact .cons (Dz.dp d _ z.1 h1) (DzA.dp ds _ z.2 h2)
end
theorem DzA.len : ∀ {vs : List V} {ds : List PyData}, DzA K H vs ds → vs.length = ds.length
  | _, _, .nil => rfl
  | _, _, .cons _ h => by rw [List.length_cons, List.length_cons, DzA.len h]
theorem DzA.get : ∀ {vs : List V} {ds : List PyData} {i : Nat} {d : PyData}, DzA K H vs ds → ds[i]? = some d → ∃ v, vs[i]? = some v ∧ Dz K H v d
  | _, _, i, d, .nil, e => by simp at e
  | _, _, 0, d, .cons h _, e => by
    simp only [List.getElem?_cons_zero, Option.some.injEq] at e
    subst e
    exact ⟨_, by simp, h⟩
  | _, _, i + 1, d, .cons _ h, e => by
    obtain ⟨v, h1, h2⟩ := DzA.get (i := i) (d := d) h (by simpa using e)
    exact ⟨v, by simpa using h1, h2⟩
theorem DzA.getV : ∀ {vs : List V} {ds : List PyData} {i : Nat} {v : V}, DzA K H vs ds → vs[i]? = some v → ∃ d, ds[i]? = some d ∧ Dz K H v d
  | _, _, i, d, .nil, e => by simp at e
  | _, _, 0, d, .cons h _, e => by
    simp only [List.getElem?_cons_zero, Option.some.injEq] at e
    subst e
    exact ⟨_, by simp, h⟩
  | _, _, i + 1, d, .cons _ h, e => by
    obtain ⟨v, h1, h2⟩ := DzA.getV (i := i) (v := d) h (by simpa using e)
    exact ⟨v, by simpa using h1, h2⟩
theorem DzA.app : ∀ {vs ws : List V} {ds es : List PyData}, DzA K H vs ds → DzA K H ws es → DzA K H (vs ++ ws) (ds ++ es)
  | _, _, _, _, .nil, h => h
  | _, _, _, _, .cons a b, h => .cons a (DzA.app b h)
theorem DzA.drop : ∀ {vs : List V} {ds : List PyData} (n : Nat), DzA K H vs ds → DzA K H (vs.drop n) (ds.drop n)
  | _, _, 0, h => h
  | _, _, _ + 1, .nil => .nil
  | _, _, n + 1, .cons _ h => DzA.drop n h
theorem DzA.take : ∀ {vs : List V} {ds : List PyData} (n : Nat), DzA K H vs ds → DzA K H (vs.take n) (ds.take n)
  | _, _, 0, _ => .nil
  | _, _, _ + 1, .nil => .nil
  | _, _, n + 1, .cons a h => .cons a (DzA.take n h)
theorem DzA.set : ∀ {vs : List V} {ds : List PyData} (n : Nat) {v : V} {d : PyData}, DzA K H vs ds → Dz K H v d → DzA K H (vs.set n v) (ds.set n d)
  | _, _, _, _, _, .nil, _ => .nil
  | _, _, 0, _, _, .cons _ h, z => .cons z h
  | _, _, n + 1, _, _, .cons a h, z => .cons a (DzA.set n h z)
theorem DzA.one {v : V} {d : PyData} (h : Dz K H v d) : DzA K H [v] [d] := .cons h .nil
theorem DzA.ints : ∀ {vs : List V} {ns : List Int}, DzA K H vs (ns.map .int) → vs = ns.map .int
  | _, [], h => by cases h; rfl
  | _, n :: ns, h => by
    cases h with
    | cons h1 h2 =>
      cases h1
      rw [DzA.ints h2]
      rfl
end

/-! ### the state -/
inductive SV where
  | d (x : PyData)
  | own (xs : List PyData)
  | cell (n : Nat)
  | raw (v : V)
  | exc (C : Addr) (fs : List (Str × PyData))
  | thk (f c : Addr) (q : Str) (H : Hp) (ms : List Addr)
structure S3 where
  G : List (Option SV)
  C : List (List PyData)
/-- the entry's heap, the cells -/
structure B3 where
  H0 : Hp
  ms : List Addr
/-- an exception that a name holds: its class, its fields -/
def ExcAt (K : PySem.W.Frag) (H : Hp) (a C : Addr) (fs : List (Str × PyData)) : Prop :=
  ∃ (d : Option Addr), H a = some (.ext fun h => ∃ oe, h.get? a = some oe ∧ (oe.cls = .ref C ∧ oe.dict = d) ∧ ∃ vs, oe.data = .fields vs) ∧
    (fs = [] → d = none) ∧ (fs ≠ [] → ∃ dd vs, d = some dd ∧ H dd = some (.xd vs) ∧ ∀ f x, fs.lookup f = some x → ∃ v, vs.lookup f = some v ∧ Dz K H v x)
def SR (K : PySem.W.Frag) (B : B3) (H : Hp) : SV → V → Prop
  | .d x, v => Dz K H v x
  | .own xs, v => ∃ a vs, v = .ref a ∧ H a = some (.lst vs) ∧ DzA K H vs xs ∧ B.H0 a = none ∧ a ∉ B.ms
  | .cell n, v => ∃ a, B.ms[n]? = some a ∧ v = .ref a
  | .raw u, v => v = u
  | .exc C fs, v => ∃ a, v = .ref a ∧ ExcAt K H a C fs
  | .thk f c q H1 ms, v => v = .ref f ∧ H c = some (LamX.CodeO c q) ∧ B.ms = ms ∧ Mono H1 H
/-- what an expression gives: no list of its own -/
def RR (K : PySem.W.Frag) (B : B3) (H : Hp) : SV → V → Prop
  | .own _, _ => False
  | r, v => SR K B H r v
/-- the tables of code objects that lambdas are made from -/
class Tb where
  T : List (Addr × Str)
/-- an object stays, or it is a table -/
def Kp (o o' : HO) : Prop := o' = o ∨ ∃ p q, o = .tbl p ∧ o' = .tbl q
theorem Kp.rfl {o : HO} : Kp o o := .inl _root_.rfl
theorem Kp.tr {a b c : HO} (h : Kp a b) (k : Kp b c) : Kp a c := by
  rcases h with h | ⟨p, q, h1, h2⟩
  · rw [← h]
    exact k
  · rcases k with k | ⟨p', q', k1, k2⟩
    · rw [k]
      exact .inr ⟨p, q, h1, h2⟩
    · exact .inr ⟨p, q', h1, k2⟩
theorem Kp.eq {o o' : HO} (h : Kp o o') (n : ∀ p, o ≠ .tbl p) : o' = o := h.elim id fun ⟨p, _, e, _⟩ => absurd e (n p)
theorem Fz.ntbl {o : HO} (h : Fz o) (p : Array Value) : o ≠ .tbl p := fun e => by
  subst e
  cases h
theorem tabs_new {T : List (Addr × Str)} {H : Hp} {p : Addr} {o : HO} (t : LamX.Tabs T H) (hp : H p = none) : LamX.Tabs T (upd H p o) := t.ext fun b u e => by
  rw [upd_ne (ne_of_none e hp)]
  exact e
/-- a list is written or frozen: the tables stay -/
theorem tabs_at {T : List (Addr × Str)} {H : Hp} {p : Addr} {o : HO} {vs : List V} (t : LamX.Tabs T H) (hp : H p = some (.lst vs)) : LamX.Tabs T (upd H p o) := fun q hq => by
  obtain ⟨ps, h1, h2, h3⟩ := t q hq
  have n1 : q.1 ≠ p := fun z => by
    rw [z, hp] at h1
    cases h1
  refine ⟨ps, by rw [upd_ne n1]; exact h1, h2, fun pos cv hc => ?_⟩
  obtain ⟨c, e1, e2⟩ := h3 pos cv hc
  have n2 : c ≠ p := fun z => by
    rw [z, hp] at e2
    unfold LamX.CodeO at e2
    cases e2
  exact ⟨c, e1, by rw [upd_ne n2]; exact e2⟩
section
variable [Tb]
structure RS (K : PySem.W.Frag) (B : B3) (σ : L2.St) (H : Hp) (S : S3) : Prop where
  slot : ∀ (i : Nat) (r : SV), S.G[i]? = some (some r) → ∃ v, σ[i]? = some (some v) ∧ SR K B H r v
  sep : ∀ (i j : Nat) (xs ys : List PyData) (v : V), i ≠ j → S.G[i]? = some (some (.own xs)) → S.G[j]? = some (some (.own ys)) → σ[i]? = some (some v) → σ[j]? = some (some v) → False
  cn : B.ms.length = S.C.length
  nd : B.ms.Nodup
  cell : ∀ (n : Nat) (a : Addr) (xs : List PyData), B.ms[n]? = some a → S.C[n]? = some xs → ∃ vs, H a = some (.lst vs) ∧ DzA K H vs xs
  keep : ∀ b o, B.H0 b = some o → b ∉ B.ms → ∃ o', H b = some o' ∧ Kp o o'
  len : S.G.length = σ.length
  tabs : LamX.Tabs Tb.T H
end
theorem SR.mono {K : PySem.W.Frag} {B : B3} {H H' : Hp} (m : Mono H H') : ∀ {r : SV} {v : V}, SR K B H r v → (∀ xs, r ≠ .own xs) → SR K B H' r v
  | .d x, v, h, _ => Dz.mono m x v h
  | .own xs, _, _, n => absurd rfl (n xs)
  | .cell _, _, h, _ => h
  | .raw _, _, h, _ => h
  | .thk _ _ _ _ _, _, ⟨h1, h2, h3, h4⟩, _ => ⟨h1, m _ _ (.ext _) h2, h3, h4.tr m⟩
  | .exc C fs, v, ⟨a, e, d, h1, h2, h3⟩, _ => ⟨a, e, d, m _ _ (.ext _) h1, h2, fun hn => by
      obtain ⟨dd, vs, e1, e2, e3⟩ := h3 hn
      exact ⟨dd, vs, e1, m _ _ (.xd _) e2, fun f x hx => let ⟨v, a, b⟩ := e3 f x hx; ⟨v, a, Dz.mono m _ _ b⟩⟩⟩
theorem RR.sr {K : PySem.W.Frag} {B : B3} {H : Hp} : ∀ {r : SV} {v : V}, RR K B H r v → SR K B H r v
  | .d _, _, h => h
  | .own _, _, h => h.elim
  | .cell _, _, h => h
  | .raw _, _, h => h
  | .exc _ _, _, h => h
  | .thk _ _ _ _ _, _, h => h
theorem RR.of {K : PySem.W.Frag} {B : B3} {H : Hp} : ∀ {r : SV} {v : V}, SR K B H r v → (∀ xs, r ≠ .own xs) → RR K B H r v
  | .d _, _, h, _ => h
  | .own xs, _, _, n => absurd rfl (n xs)
  | .cell _, _, h, _ => h
  | .raw _, _, h, _ => h
  | .exc _ _, _, h, _ => h
  | .thk _ _ _ _ _, _, h, _ => h
theorem RR.no {K : PySem.W.Frag} {B : B3} {H : Hp} {r : SV} {v : V} (h : RR K B H r v) : ∀ xs, r ≠ .own xs := fun xs e => by
  subst e
  exact h
theorem RR.mono {K : PySem.W.Frag} {B : B3} {H H' : Hp} (m : Mono H H') {r : SV} {v : V} (h : RR K B H r v) : RR K B H' r v := .of (.mono m h.sr h.no) h.no
section
variable [Tb] {K : PySem.W.Frag} {B : B3} {σ : L2.St} {H : Hp} {S : S3}
/-- a new object -/
theorem RS.new (R : RS K B σ H S) {p : Addr} {o : HO} (hp : H p = none) : RS K B σ (upd H p o) S := by
  have m : Mono H (upd H p o) := .new hp
  refine ⟨fun i r e => ?_, R.sep, R.cn, R.nd, fun n a xs e1 e2 => ?_, fun b u e1 e2 => ?_, R.len, tabs_new R.tabs hp⟩
  · obtain ⟨v, h1, h2⟩ := R.slot i r e
    refine ⟨v, h1, ?_⟩
    cases r with
    | own xs =>
      obtain ⟨a, vs, q1, q2, q3, q4⟩ := h2
      exact ⟨a, vs, q1, by rw [upd_ne (ne_of_none q2 hp)]; exact q2, q3.mono m, q4⟩
    | _ => exact h2.mono m (fun _ z => nomatch z)
  · obtain ⟨vs, q1, q2⟩ := R.cell n a xs e1 e2
    exact ⟨vs, by rw [upd_ne (ne_of_none q1 hp)]; exact q1, q2.mono m⟩
  · obtain ⟨u', q, z⟩ := R.keep b u e1 e2
    exact ⟨u', by rw [upd_ne (ne_of_none q hp)]; exact q, z⟩
/-- an address that is new to the entry -/
theorem RS.fresh0 (R : RS K B σ H S) {p : Addr} (hp : H p = none) : B.H0 p = none ∧ p ∉ B.ms := by
  have n : p ∉ B.ms := fun hm => by
    obtain ⟨n, e⟩ := List.getElem?_of_mem hm
    have hl : n < S.C.length := by
      rw [← R.cn]
      exact (List.getElem?_eq_some_iff.mp e).1
    obtain ⟨vs, q, _⟩ := R.cell n p _ e (List.getElem?_eq_getElem hl)
    rw [hp] at q
    cases q
  refine ⟨?_, n⟩
  cases e : B.H0 p with
  | none => rfl
  | some o =>
    obtain ⟨_, q, _⟩ := R.keep p o e n
    rw [hp] at q
    cases q
theorem set_get {α : Type} {l : List α} {i j : Nat} {x y : α} (h : (l.set i x)[j]? = some y) : (i = j ∧ y = x ∧ i < l.length) ∨ (i ≠ j ∧ l[j]? = some y) := by
  by_cases e : i = j
  · subst e
    by_cases hl : i < l.length
    · rw [List.getElem?_set_self hl] at h
      exact .inl ⟨rfl, (Option.some.inj h).symm, hl⟩
    · rw [List.getElem?_eq_none (by rw [List.length_set]; omega)] at h
      cases h
  · rw [List.getElem?_set_ne e] at h
    exact .inr ⟨e, h⟩
/-- a slot is set to a value that is no list of its own -/
theorem RS.setD (R : RS K B σ H S) {i : Nat} {r : SV} {v : V} (h : RR K B H r v) : RS K B (σ.set i (some v)) H { S with G := S.G.set i (some r) } := by
  refine ⟨fun j q e => ?_, fun j k xs ys u ne e1 e2 e3 e4 => ?_, R.cn, R.nd, R.cell, R.keep, by simp [R.len], R.tabs⟩
  · rcases set_get e with ⟨rfl, e, hl⟩ | ⟨ne, e⟩
    · cases e
      exact ⟨v, by rw [List.getElem?_set_self (by rw [← R.len]; exact hl)], h.sr⟩
    · obtain ⟨w, h1, h2⟩ := R.slot j q e
      exact ⟨w, by rw [List.getElem?_set_ne ne]; exact h1, h2⟩
  · rcases set_get e1 with ⟨_, e, _⟩ | ⟨n1, e1⟩
    · cases e
      exact h
    · rcases set_get e2 with ⟨_, e, _⟩ | ⟨n2, e2⟩
      · cases e
        exact h
      · rw [List.getElem?_set_ne n1] at e3
        rw [List.getElem?_set_ne n2] at e4
        exact R.sep j k xs ys u ne e1 e2 e3 e4
/-- a slot is forgotten -/
theorem RS.forget (R : RS K B σ H S) {i : Nat} {o : Option V} : RS K B (σ.set i o) H { S with G := S.G.set i none } := by
  refine ⟨fun j q e => ?_, fun j k xs ys u ne e1 e2 e3 e4 => ?_, R.cn, R.nd, R.cell, R.keep, by simp [R.len], R.tabs⟩
  · rcases set_get e with ⟨rfl, e, hl⟩ | ⟨ne, e⟩
    · cases e
    · obtain ⟨w, h1, h2⟩ := R.slot j q e
      exact ⟨w, by rw [List.getElem?_set_ne ne]; exact h1, h2⟩
  · rcases set_get e1 with ⟨_, e, _⟩ | ⟨n1, e1⟩
    · cases e
    · rcases set_get e2 with ⟨_, e, _⟩ | ⟨n2, e2⟩
      · cases e
      · rw [List.getElem?_set_ne n1] at e3
        rw [List.getElem?_set_ne n2] at e4
        exact R.sep j k xs ys u ne e1 e2 e3 e4
end
end D3
/-! D3b: the judgements over data; names, constants, operators, tests, tuples. -/
namespace D3
open PySem PySem.Spec PyProof.Rows L2
section
variable [Tb]

structure Xd where
  C : Addr
  fs : List (Str × PyData)
def XR (K : PySem.W.Frag) (H : Hp) (x : Xd) (cls : Value) (d : Option Addr) : Prop :=
  cls = .ref x.C ∧ (x.fs = [] → d = none) ∧ (x.fs ≠ [] → ∃ dd vs, d = some dd ∧ H dd = some (.xd vs) ∧ ∀ f y, x.fs.lookup f = some y → ∃ v, vs.lookup f = some v ∧ Dz K H v y)
abbrev ED := Xd → S3 → Prop
/-- readings over data -/
abbrev DTE := S3 → (SV → S3 → Prop) → ED → Prop
abbrev DTT := S3 → (Bool → S3 → Prop) → ED → Prop
abbrev DTA := S3 → (List SV → S3 → Prop) → ED → Prop
abbrev DTL := S3 → (List PyData → S3 → Prop) → ED → Prop
structure DEnds where
  nx : S3 → Prop
  rt : SV → S3 → Prop
  bk : S3 → Prop := fun _ => False
  ct : S3 → Prop := fun _ => False
abbrev DTS := DEnds → S3 → ED → Prop
/-- an exception of the data's reading reaches what is wanted -/
def HX (K : PySem.W.Frag) (W : WX) (B : B3) (e : ED) : Prop := ∀ x S' σ' cls d H', RS K B σ' H' S' → XR K H' x cls d → e x S' → W cls d σ' H'
/-- the wanted end of an expression -/
def KD (K : PySem.W.Frag) (B : B3) (σ : L2.St) (H : Hp) (k : SV → S3 → Prop) : VK := fun v H' => ∃ r S', RS K B σ H' S' ∧ Mono H H' ∧ RR K B H' r v ∧ k r S'
def KT (K : PySem.W.Frag) (B : B3) (σ : L2.St) (H : Hp) (k : Bool → S3 → Prop) : Bool → Hp → Prop := fun b H' => ∃ S', RS K B σ H' S' ∧ Mono H H' ∧ k b S'
def RRs (K : PySem.W.Frag) (B : B3) (H : Hp) : List SV → List V → Prop := Paired (RR K B H)
def KA (K : PySem.W.Frag) (B : B3) (σ : L2.St) (H : Hp) (k : List SV → S3 → Prop) : List V → Hp → Prop := fun vs H' => ∃ rs S', RS K B σ H' S' ∧ Mono H H' ∧ RRs K B H' rs vs ∧ k rs S'
/-- a new list that nothing else holds -/
def RL (K : PySem.W.Frag) (B : B3) (σ : L2.St) (S : S3) (H : Hp) (xs : List PyData) (v : V) : Prop :=
  ∃ a vs, v = .ref a ∧ H a = some (.lst vs) ∧ DzA K H vs xs ∧ B.H0 a = none ∧ a ∉ B.ms ∧ ∀ (i : Nat) ys, S.G[i]? = some (some (.own ys)) → σ[i]? ≠ some (some (.ref a))
def KL (K : PySem.W.Frag) (B : B3) (σ : L2.St) (H : Hp) (k : List PyData → S3 → Prop) : VK := fun v H' => ∃ xs S', RS K B σ H' S' ∧ Mono H H' ∧ RL K B σ S' H' xs v ∧ k xs S'
def KS (K : PySem.W.Frag) (B : B3) (H : Hp) (D : DEnds) : Ends :=
  { nx := fun σ' H' => ∃ S', RS K B σ' H' S' ∧ Mono H H' ∧ D.nx S', rt := fun v H' => ∃ r S' σ', RS K B σ' H' S' ∧ RR K B H' r v ∧ D.rt r S', bk := fun σ' H' => ∃ S', RS K B σ' H' S' ∧ Mono H H' ∧ D.bk S', ct := fun σ' H' => ∃ S', RS K B σ' H' S' ∧ Mono H H' ∧ D.ct S' }
def liftE (K : PySem.W.Frag) (W : WX) (t : DTE) : TE := fun σ H Q => ∃ B S k e, RS K B σ H S ∧ t S k e ∧ HX K W B e ∧ ∀ v H', KD K B σ H k v H' → Q v H'
def liftT (K : PySem.W.Frag) (W : WX) (t : DTT) : TT := fun σ H Q => ∃ B S k e, RS K B σ H S ∧ t S k e ∧ HX K W B e ∧ ∀ v H', KT K B σ H k v H' → Q v H'
def liftA (K : PySem.W.Frag) (W : WX) (t : DTA) : TA := fun σ H Q => ∃ B S k e, RS K B σ H S ∧ t S k e ∧ HX K W B e ∧ ∀ v H', KA K B σ H k v H' → Q v H'
def liftL (K : PySem.W.Frag) (W : WX) (t : DTL) : TE := fun σ H Q => ∃ B S k e, RS K B σ H S ∧ t S k e ∧ HX K W B e ∧ ∀ v H', KL K B σ H k v H' → Q v H'
def liftS (K : PySem.W.Frag) (W : WX) (t : DTS) : TS := fun D σ H => ∃ B S DD e, RS K B σ H S ∧ t DD S e ∧ HX K W B e ∧
  (∀ σ' H', (KS K B H DD).nx σ' H' → D.nx σ' H') ∧ (∀ v H', (KS K B H DD).rt v H' → D.rt v H') ∧ (∀ σ' H', (KS K B H DD).bk σ' H' → D.bk σ' H') ∧ ∀ σ' H', (KS K B H DD).ct σ' H' → D.ct σ' H'
def DE (X : Cx) (W : WX) (e : Expr) (t : DTE) : Prop := PE X e (liftE X.K W t)
def DL (X : Cx) (W : WX) (e : Expr) (t : DTL) : Prop := PE X e (liftL X.K W t)
def DT (X : Cx) (W : WX) (e : Expr) (t : DTT) : Prop := PT X e (liftT X.K W t)
def DW (X : Cx) (W : WX) (e : Expr) (t : DTT) : Prop := PW X e (liftT X.K W t)
def DA (X : Cx) (W : WX) (es : List Expr) (t : DTA) : Prop := PA X es (liftA X.K W t)
def DS (X : Cx) (W : WX) (st : Stmt) (t : DTS) : Prop := PS X st (liftS X.K W t)
def DSs (X : Cx) (W : WX) (st : List Stmt) (t : DTS) : Prop := PSs X st (liftS X.K W t)
section
variable {X : Cx} {W : WX} {e : Expr} {pins : List (Addr × Obj)} {s : Shared} {σ : L2.St} {H : Hp} {B : B3} {S : S3}
theorem DE.go {t : DTE} (h : DE X W e t) (I : Inv X pins σ H s) (R : RS X.K B σ H S) {k : SV → S3 → Prop} {er : ED} (q : t S k er) (hx : HX X.K W B er) :
    wpAny (model X.prog X.w) X.A (eval e X.env) (EP X pins σ (KD X.K B σ H k)) X.xe s := h.run pins s σ H _ I ⟨B, S, k, er, R, q, hx, fun _ _ z => z⟩
theorem DE.mk {t : DTE} (h : ∀ pins s σ H B S k er, Inv X pins σ H s → RS X.K B σ H S → t S k er → HX X.K W B er → wpAny (model X.prog X.w) X.A (eval e X.env) (EP X pins σ (KD X.K B σ H k)) X.xe s) : DE X W e t :=
  ⟨fun pins s σ H Q I ⟨B, S, k, er, R, q, hx, f⟩ => thn (h pins s σ H B S k er I R q hx) fun u s1 ⟨v, H1, I1, r1, q1⟩ => ⟨v, H1, I1, r1, f v H1 q1⟩⟩
theorem DE.of {t : DTE} {t' : TE} (h : PE X e t') (f : ∀ σ H B S k er, RS X.K B σ H S → t S k er → HX X.K W B er → t' σ H (KD X.K B σ H k)) : DE X W e t :=
  .mk fun pins s σ H B S k er I R q hx => h.run pins s σ H _ I (f σ H B S k er R q hx)
theorem DL.go {t : DTL} (h : DL X W e t) (I : Inv X pins σ H s) (R : RS X.K B σ H S) {k : List PyData → S3 → Prop} {er : ED} (q : t S k er) (hx : HX X.K W B er) :
    wpAny (model X.prog X.w) X.A (eval e X.env) (EP X pins σ (KL X.K B σ H k)) X.xe s := h.run pins s σ H _ I ⟨B, S, k, er, R, q, hx, fun _ _ z => z⟩
theorem DL.mk {t : DTL} (h : ∀ pins s σ H B S k er, Inv X pins σ H s → RS X.K B σ H S → t S k er → HX X.K W B er → wpAny (model X.prog X.w) X.A (eval e X.env) (EP X pins σ (KL X.K B σ H k)) X.xe s) : DL X W e t :=
  ⟨fun pins s σ H Q I ⟨B, S, k, er, R, q, hx, f⟩ => thn (h pins s σ H B S k er I R q hx) fun u s1 ⟨v, H1, I1, r1, q1⟩ => ⟨v, H1, I1, r1, f v H1 q1⟩⟩
theorem DL.of {t : DTL} {t' : TE} (h : PE X e t') (f : ∀ σ H B S k er, RS X.K B σ H S → t S k er → HX X.K W B er → t' σ H (KL X.K B σ H k)) : DL X W e t :=
  .mk fun pins s σ H B S k er I R q hx => h.run pins s σ H _ I (f σ H B S k er R q hx)
theorem DT.go {t : DTT} (h : DT X W e t) (I : Inv X pins σ H s) (R : RS X.K B σ H S) {k : Bool → S3 → Prop} {er : ED} (q : t S k er) (hx : HX X.K W B er) :
    wpAny (model X.prog X.w) X.A (isTrue e X.env (eval e X.env)) (TP X pins σ (KT X.K B σ H k)) X.xe s := h.run pins s σ H _ I ⟨B, S, k, er, R, q, hx, fun _ _ z => z⟩
theorem DT.mk {t : DTT} (h : ∀ pins s σ H B S k er, Inv X pins σ H s → RS X.K B σ H S → t S k er → HX X.K W B er → wpAny (model X.prog X.w) X.A (isTrue e X.env (eval e X.env)) (TP X pins σ (KT X.K B σ H k)) X.xe s) : DT X W e t :=
  ⟨fun pins s σ H Q I ⟨B, S, k, er, R, q, hx, f⟩ => thn (h pins s σ H B S k er I R q hx) fun b s1 ⟨H1, I1, q1⟩ => ⟨H1, I1, f b H1 q1⟩⟩
theorem DT.of {t : DTT} {t' : TT} (h : PT X e t') (f : ∀ σ H B S k er, RS X.K B σ H S → t S k er → HX X.K W B er → t' σ H (KT X.K B σ H k)) : DT X W e t :=
  .mk fun pins s σ H B S k er I R q hx => h.run pins s σ H _ I (f σ H B S k er R q hx)
theorem DW.of {t : DTT} {t' : TT} (h : PW X e t') (f : ∀ σ H B S k er, RS X.K B σ H S → t S k er → HX X.K W B er → t' σ H (KT X.K B σ H k)) : DW X W e t :=
  ⟨fun wh pins s σ H Q I ⟨B, S, k, er, R, q, hx, g⟩ => thn (h.run wh pins s σ H _ I (f σ H B S k er R q hx)) fun b s1 ⟨H1, I1, q1⟩ => ⟨H1, I1, g b H1 q1⟩⟩
theorem DA.of {es : List Expr} {t : DTA} {t' : TA} (h : PA X es t') (f : ∀ σ H B S k er, RS X.K B σ H S → t S k er → HX X.K W B er → t' σ H (KA X.K B σ H k)) : DA X W es t :=
  ⟨fun pos pins s σ H Q I ⟨B, S, k, er, R, q, hx, g⟩ => thn (h.run pos pins s σ H _ I (f σ H B S k er R q hx)) fun us s1 ⟨vs, H1, I1, r1, q1⟩ => ⟨vs, H1, I1, r1, g vs H1 q1⟩⟩
theorem DA.go {es : List Expr} {t : DTA} (h : DA X W es t) {pos : Pos} (I : Inv X pins σ H s) (R : RS X.K B σ H S) {k : List SV → S3 → Prop} {er : ED} (q : t S k er) (hx : HX X.K W B er) :
    wpAny (model X.prog X.w) X.A (spliced (backTo pos (starEach es X.env))) (AP X pins σ (KA X.K B σ H k)) X.xe s := h.run pos pins s σ H _ I ⟨B, S, k, er, R, q, hx, fun _ _ z => z⟩
end
/-- within a rule's reading: what a part gives -/
theorem liftE.in {K : PySem.W.Frag} {W : WX} {t : DTE} {σ : L2.St} {H : Hp} {B : B3} {S : S3} (R : RS K B σ H S) {k : SV → S3 → Prop} {er : ED} (q : t S k er) (hx : HX K W B er) {Q : VK} (f : ∀ v H1 r S1, RS K B σ H1 S1 → Mono H H1 → RR K B H1 r v → k r S1 → Q v H1) : liftE K W t σ H Q :=
  ⟨B, S, k, er, R, q, hx, fun v H1 ⟨r, S1, a, b, c, d⟩ => f v H1 r S1 a b c d⟩
theorem liftT.in {K : PySem.W.Frag} {W : WX} {t : DTT} {σ : L2.St} {H : Hp} {B : B3} {S : S3} (R : RS K B σ H S) {k : Bool → S3 → Prop} {er : ED} (q : t S k er) (hx : HX K W B er) {Q : Bool → Hp → Prop} (f : ∀ b H1 S1, RS K B σ H1 S1 → Mono H H1 → k b S1 → Q b H1) : liftT K W t σ H Q :=
  ⟨B, S, k, er, R, q, hx, fun v H1 ⟨S1, a, b, d⟩ => f v H1 S1 a b d⟩
theorem liftA.in {K : PySem.W.Frag} {W : WX} {t : DTA} {σ : L2.St} {H : Hp} {B : B3} {S : S3} (R : RS K B σ H S) {k : List SV → S3 → Prop} {er : ED} (q : t S k er) (hx : HX K W B er) {Q : List V → Hp → Prop} (f : ∀ v H1 r S1, RS K B σ H1 S1 → Mono H H1 → RRs K B H1 r v → k r S1 → Q v H1) : liftA K W t σ H Q :=
  ⟨B, S, k, er, R, q, hx, fun v H1 ⟨r, S1, a, b, c, d⟩ => f v H1 r S1 a b c d⟩
theorem liftL.in {K : PySem.W.Frag} {W : WX} {t : DTL} {σ : L2.St} {H : Hp} {B : B3} {S : S3} (R : RS K B σ H S) {k : List PyData → S3 → Prop} {er : ED} (q : t S k er) (hx : HX K W B er) {Q : VK} (f : ∀ v H1 xs S1, RS K B σ H1 S1 → Mono H H1 → RL K B σ S1 H1 xs v → k xs S1 → Q v H1) : liftL K W t σ H Q :=
  ⟨B, S, k, er, R, q, hx, fun v H1 ⟨r, S1, a, b, c, d⟩ => f v H1 r S1 a b c d⟩
theorem KD.of {K : PySem.W.Frag} {B : B3} {σ : L2.St} {H H1 H2 : Hp} {k : SV → S3 → Prop} {v : V} (m : Mono H H1) (h : KD K B σ H1 k v H2) : KD K B σ H k v H2 := let ⟨r, S', a, b, c, d⟩ := h; ⟨r, S', a, m.tr b, c, d⟩
theorem KT.of {K : PySem.W.Frag} {B : B3} {σ : L2.St} {H H1 H2 : Hp} {k : Bool → S3 → Prop} {v : Bool} (m : Mono H H1) (h : KT K B σ H1 k v H2) : KT K B σ H k v H2 := let ⟨S', a, b, d⟩ := h; ⟨S', a, m.tr b, d⟩
theorem KL.of {K : PySem.W.Frag} {B : B3} {σ : L2.St} {H H1 H2 : Hp} {k : List PyData → S3 → Prop} {v : V} (m : Mono H H1) (h : KL K B σ H1 k v H2) : KL K B σ H k v H2 := let ⟨r, S', a, b, c, d⟩ := h; ⟨r, S', a, m.tr b, c, d⟩

/-! ### names and constants -/
def dC (r : SV) : DTE := fun S k _ => k r S
def dVar (i : Nat) : DTE := fun S k _ => match S.G[i]? with
  | some (some (.own xs)) => k (.d (.list xs)) { S with G := S.G.set i (some (.d (.list xs))) }
  | some (some r) => k r S
  | _ => False
/-- a slot's own list is frozen -/
theorem RS.freeze {K : PySem.W.Frag} {B : B3} {σ : L2.St} {H : Hp} {S : S3} {i : Nat} {xs : List PyData} {a : Addr} {vs : List V} {o : Obj} (R : RS K B σ H S) (e : S.G[i]? = some (some (.own xs))) (ea : σ[i]? = some (some (.ref a))) (h : H a = some (.lst vs)) (hd : DzA K H vs xs) (h0 : B.H0 a = none) (hm : a ∉ B.ms) :
    RS K B σ (upd H a (.frz o (.lst vs))) { S with G := S.G.set i (some (.d (.list xs))) } ∧ Mono H (upd H a (.frz o (.lst vs))) ∧ Dz K (upd H a (.frz o (.lst vs))) (.ref a) (.list xs) := by
  have m : Mono H (upd H a (.frz o (.lst vs))) := .at_ h nfz_lst
  have z : Dz K (upd H a (.frz o (.lst vs))) (.ref a) (.list xs) := .lst (.inl ⟨_, upd_same⟩) (hd.mono m)
  refine ⟨⟨fun j r q => ?_, fun j k ys zs v ne e1 e2 e3 e4 => ?_, R.cn, R.nd, fun n b ys e1 e2 => ?_, fun b u e1 e2 => ?_, by simp [R.len], tabs_at R.tabs h⟩, m, z⟩
  · rcases set_get q with ⟨rfl, q, _⟩ | ⟨ne, q⟩
    · cases q
      exact ⟨_, ea, z⟩
    · obtain ⟨v, h1, h2⟩ := R.slot j r q
      refine ⟨v, h1, ?_⟩
      cases r with
      | own ys =>
        obtain ⟨b, ws, q1, q2, q3, q4⟩ := h2
        have hb : b ≠ a := fun z => by
          subst z
          exact R.sep i j _ _ _ ne e q ea (by rw [h1, q1])
        exact ⟨b, ws, q1, by rw [upd_ne hb]; exact q2, q3.mono m, q4⟩
      | _ => exact h2.mono m (fun _ z => nomatch z)
  · rcases set_get e1 with ⟨_, q, _⟩ | ⟨n1, e1⟩
    · cases q
    · rcases set_get e2 with ⟨_, q, _⟩ | ⟨n2, e2⟩
      · cases q
      · exact R.sep j k ys zs v ne e1 e2 e3 e4
  · obtain ⟨ws, q1, q2⟩ := R.cell n b ys e1 e2
    have hb : b ≠ a := fun z => hm (by rw [← z]; exact List.mem_of_getElem? e1)
    exact ⟨ws, by rw [upd_ne hb]; exact q1, q2.mono m⟩
  · have hb : b ≠ a := fun z => by
      subst z
      rw [h0] at e1
      cases e1
    rw [upd_ne hb]
    exact R.keep b u e1 e2
section
variable {X : Cx} {W : WX}
theorem d_var {i : Nat} {x : Str} {pos : Pos} (hN : X.N[i]? = some x) (hv : Vis X.env.scope x) (hd : (x == ("__debug__" : Str)) = false := by decide) (hcd : (x == ("__classdict__" : Str)) = false := by decide) : DE X W (.Name x pos) (dVar i) := by
  refine .mk fun pins s σ H B S k er I R q hx => ?_
  have run := (pe_var (pos := pos) (i := i) hN hv hd hcd).run pins s σ H
  unfold dVar at q
  split at q
  · rename_i xs e
    obtain ⟨v, hσ, a, vs, rfl, h1, h2, h3, h4⟩ := R.slot i _ e
    refine thn (run (fun u H' => u = .ref a ∧ H' = H) I ⟨_, hσ, rfl, rfl⟩) fun u s1 ⟨v, H1, I1, r1, ev, eH⟩ => ?_
    subst ev eH
    obtain ⟨od, I2⟩ := I1.lock h1 trivial
    obtain ⟨R2, m, z⟩ := R.freeze (o := od) e hσ h1 h2 h3 h4
    exact ⟨.ref a, _, I2, r1, .d (.list xs), _, R2, m, z, q⟩
  · rename_i r hn e
    obtain ⟨v, hσ, h1⟩ := R.slot i _ e
    exact run _ I ⟨v, hσ, r, S, R, .rfl, .of h1 (fun xs z => hn xs (by rw [z])), q⟩
  · exact q.elim
theorem d_int {i : Int} {j : Nat} {pos : Pos} : DE X W (.Constant (.int i) j pos) (dC (.d (.int i))) := .of pe_int fun σ H B S k er R q hx => ⟨.d (.int i), S, R, .rfl, Dz.int i, q⟩
theorem d_bl {b : Bool} {j : Nat} {pos : Pos} : DE X W (.Constant (.bool b) j pos) (dC (.d (.bool b))) := .of pe_bl fun σ H B S k er R q hx => ⟨.d (.bool b), S, R, .rfl, Dz.bl b, q⟩
theorem d_non {j : Nat} {pos : Pos} : DE X W (.Constant .none j pos) (dC (.d .none)) := .of pe_non fun σ H B S k er R q hx => ⟨.d .none, S, R, .rfl, Dz.non, q⟩
theorem d_str {x : Str} {j : Nat} {pos : Pos} : DE X W (.Constant (.str x) j pos) (dC (.d (.str x))) := .of pe_str fun σ H B S k er R q hx => ⟨.d (.str x), S, R, .rfl, Dz.str x, q⟩
/-- a module's name -/
theorem d_glob {x : Str} {r : SV} {v : V} {u : Value} {pos : Pos} (hg : Gl X x) (hm : X.mg x = some u) (rv : RelV v u) (hr : ∀ B H, RR X.K B H r v) (hd : (x == ("__debug__" : Str)) = false := by decide) : DE X W (.Name x pos) (dC r) :=
  .of (pe_glob hg hm rv hd) fun σ H B S k er R q hx => ⟨r, S, R, .rfl, hr B H, q⟩
theorem d_bltn {x : Str} {v : V} {u : Value} {pos : Pos} (hg : Gl X x) (hm : X.mg x = none) (hv : bootBuiltins x = some u) (rv : RelV v u) (hn : x ≠ "__name__" := by decide) (hd : (x == ("__debug__" : Str)) = false := by decide) : DE X W (.Name x pos) (dC (.raw v)) :=
  .of (pe_bltn hg hm hv rv hn hd) fun σ H B S k er R q hx => ⟨.raw v, S, R, .rfl, (rfl : v = v), q⟩

/-! ### two operands -/
def dBin (g : SV → SV → (SV → Prop) → Prop) (ta tb : DTE) : DTE := fun S k e => ta S (fun x S1 => tb S1 (fun y S2 => g x y fun r => k r S2) e) e
/-- an operation by data -/
def OpD (X : Cx) (f : Value → Value → Sem Value) (g : SV → SV → (SV → Prop) → Prop) : Prop :=
  ∀ pins s σ H B S (x y : SV) (vx vy : V) (v u : Value) (k : SV → Prop), Inv X pins σ H s → RS X.K B σ H S → RR X.K B H x vx → RelV vx v → RR X.K B H y vy → RelV vy u → g x y k →
    wpAny (model X.prog X.w) X.A (f v u) (EP X pins σ (KD X.K B σ H fun r S' => S' = S ∧ k r)) X.xe s
theorem OpD.of {f : Value → Value → Sem Value} {r : R2} {g : SV → SV → (SV → Prop) → Prop} (ho : OpR X f r)
    (h : ∀ σ H B S x y vx vy k, RS X.K B σ H S → RR X.K B H x vx → RR X.K B H y vy → g x y k → r vx vy H (KD X.K B σ H fun r S' => S' = S ∧ k r)) : OpD X f g :=
  fun pins s σ H B S x y vx vy v u k I R a b c d q => ho pins s σ H vx vy v u _ I b d (h σ H B S x y vx vy k R a c q)
theorem OpD.or {f : Value → Value → Sem Value} {g g' : SV → SV → (SV → Prop) → Prop} (h : OpD X f g) (h' : OpD X f g') : OpD X f (fun x y k => g x y k ∨ g' x y k) :=
  fun pins s σ H B S x y vx vy v u k I R a b c d q => q.elim (h pins s σ H B S x y vx vy v u k I R a b c d) (h' pins s σ H B S x y vx vy v u k I R a b c d)
theorem OpD.imp {f : Value → Value → Sem Value} {g g' : SV → SV → (SV → Prop) → Prop} (h : OpD X f g) (i : ∀ x y k, g' x y k → g x y k) : OpD X f g' :=
  fun pins s σ H B S x y vx vy v u k I R a b c d q => h pins s σ H B S x y vx vy v u k I R a b c d (i x y k q)
section
variable {a b : Expr} {ta tb : DTE} {pos : Pos}
theorem d_two (ha : DE X W a ta) (hb : DE X W b tb) {pins : List (Addr × Obj)} {s : Shared} {σ : L2.St} {H : Hp} {B : B3} {S : S3} (I : Inv X pins σ H s) (R : RS X.K B σ H S) {k2 : SV → SV → S3 → Prop} {er : ED}
    (q : ta S (fun x S1 => tb S1 (fun y S2 => k2 x y S2) er) er) (hx : HX X.K W B er) {α : Type} {Q : α → Shared → Prop} {f : Value → Value → Sem α}
    (hf : ∀ v u s2 x y vx vy H2 S2, Inv X pins σ H2 s2 → RS X.K B σ H2 S2 → Mono H H2 → RR X.K B H2 x vx → RelV vx v → RR X.K B H2 y vy → RelV vy u → k2 x y S2 → wpAny (model X.prog X.w) X.A (f v u) Q X.xe s2) :
    wpAny (model X.prog X.w) X.A (eval a X.env) (fun v s₁ => wpAny (model X.prog X.w) X.A (eval b X.env) (fun u s₂ => wpAny (model X.prog X.w) X.A (f v u) Q X.xe s₂) X.xe s₁) X.xe s := by
  refine thn (ha.go I R q hx) fun v s1 ⟨vx, H1, I1, r1, x, S1, R1, m1, x1, q1⟩ => ?_
  refine thn (hb.go I1 R1 q1 hx) fun u s2 ⟨vy, H2, I2, r2, y, S2, R2, m2, y2, q2⟩ => ?_
  exact hf v u s2 x y vx vy H2 S2 I2 R2 (m1.tr m2) (x1.mono m2) r1 y2 r2 q2
theorem EP.kd {pins : List (Addr × Obj)} {s : Shared} {σ : L2.St} {H H2 : Hp} {B : B3} {S2 : S3} {k : SV → S3 → Prop} {w : Value} (m : Mono H H2) (h : EP X pins σ (KD X.K B σ H2 fun r S' => S' = S2 ∧ k r S2) w s) : EP X pins σ (KD X.K B σ H k) w s := by
  obtain ⟨v, H3, I3, r3, r, S', R3, m3, rr, e, q⟩ := h
  subst e
  exact ⟨v, H3, I3, r3, r, _, R3, m.tr m3, rr, q⟩
theorem d_op {op : Operator} {g : SV → SV → (SV → Prop) → Prop} (ho : OpD X (binaryOp op) g) (ha : DE X W a ta) (hb : DE X W b tb) : DE X W (.BinOp a op b pos) (dBin g ta tb) := by
  refine .mk fun pins s σ H B S k er I R q hx => ?_
  exact wpAny_BinOp (d_two ha hb I R q hx fun v u s2 x y vx vy H2 S2 I2 R2 m a b c d q2 => thn (ho pins s2 σ H2 B S2 x y vx vy v u _ I2 R2 a b c d q2) fun w s3 h => EP.kd m h)
theorem d_cmp {op : CmpOp} {g : SV → SV → (SV → Prop) → Prop} (ho : OpD X (compareOp op) g) (ha : DE X W a ta) (hb : DE X W b tb) (hm : behindInMarks op b = false) : DE X W (.Compare a [op] [b] pos) (dBin g ta tb) := by
  refine .mk fun pins s σ H B S k er I R q hx => ?_
  exact wpAny_Compare1 (d_two ha hb I R q hx fun v u s2 x y vx vy H2 S2 I2 R2 m a b c d q2 => thn (ho pins s2 σ H2 B S2 x y vx vy v u _ I2 R2 a b c d q2) fun w s3 h => EP.kd m h) hm
/-- a comparison as a test -/
def dTst (t : DTE) : DTT := fun S k e => t S (fun r S1 => match r with | .d (.bool b) => k b S1 | _ => False) e
theorem RR.bool {K : PySem.W.Frag} {B : B3} {H : Hp} {b : Bool} {v : V} (h : RR K B H (.d (.bool b)) v) : v = .bl b := by
  cases (show Dz K H v (.bool b) from h)
  rfl
theorem d_cmpT {op : CmpOp} {g : SV → SV → (SV → Prop) → Prop} (ho : OpD X (compareOp op) g) (ha : DE X W a ta) (hb : DE X W b tb) (hm : behindInMarks op b = false) : DT X W (.Compare a [op] [b] pos) (dTst (dBin g ta tb)) := by
  refine .mk fun pins s σ H B S k er I R q hx => ?_
  refine wpAny_isTrue_Compare1 (d_two ha hb I R q hx fun v u s2 x y vx vy H2 S2 I2 R2 m a b c d q2 => thn (ho pins s2 σ H2 B S2 x y vx vy v u _ I2 R2 a b c d q2) fun w s3 h => ?_) hm
  obtain ⟨v, H3, I3, r3, r, S', R3, m3, rr, e, q3⟩ := h
  subst e
  match r, rr, q3 with
  | .d (.bool z), rr, q3 =>
    have e := RR.bool rr
    subst e
    cases r3
    exact wpAny_truthy_bool ⟨H3, I3, S', R3, m.tr m3, q3⟩
end

/-! ### ints -/
def gI (C : Int → Int → Prop) (f : Int → Int → PyData) : SV → SV → (SV → Prop) → Prop := fun x y k => match x, y with
  | .d (.int i), .d (.int j) => C i j ∧ k (.d (f i j))
  | _, _ => False
theorem opI_of {f : Value → Value → Sem Value} {C : Int → Int → Prop} {g : Int → Int → V} {d : Int → Int → PyData} (ho : OpR X f (rI C g)) (hd : ∀ i j K H, Dz K H (g i j) (d i j)) : OpD X f (gI C d) :=
  .of ho fun σ H B S x y vx vy k R a b q => by
    unfold gI at q
    split at q
    · cases (show Dz _ _ _ _ from a)
      cases (show Dz _ _ _ _ from b)
      exact ⟨_, _, rfl, rfl, q.1, .d _, S, R, .rfl, hd _ _ _ _, rfl, q.2⟩
    · exact q.elim
theorem rI0_rI {f : Value → Value → Sem Value} {g : Int → Int → V} (h : OpR X f (rI0 g)) : OpR X f (rI (fun _ _ => True) g) := by
  intro pins s σ H x y v u Q I rx ry q
  obtain ⟨i, j, e1, e2, _, q⟩ := q
  exact h pins s σ H x y v u Q I rx ry ⟨i, j, e1, e2, q⟩
def gAddI := gI (fun _ _ => True) fun i j => .int (i + j)
def gSubI := gI (fun _ _ => True) fun i j => .int (i - j)
theorem oAddI : OpD X (binaryOp .Add) gAddI := opI_of (rI0_rI op_add) fun _ _ _ _ => .int _
theorem oSub : OpD X (binaryOp .Sub) gSubI := opI_of (rI0_rI op_sub) fun _ _ _ _ => .int _
/-- both factors together below a million bits -/
def MulOk (i j : Int) : Prop := i.natAbs.log2 + j.natAbs.log2 < 1000000
theorem MulOk.ok {i j : Int} (h : MulOk i j) : IntMulOk i j := by
  have b : ∀ x : Int, Builtin.Int.intBits x ≤ x.natAbs.log2 + 1 := fun x => by
    unfold Builtin.Int.intBits
    split
    · omega
    · omega
  have h1 := b i
  have h2 := b j
  have h3 : i.natAbs.log2 + j.natAbs.log2 < 1000000 := h
  have e : bitsLine = 134217728 := by decide
  unfold IntMulOk
  intro z
  rw [Bool.and_eq_true] at z
  have z3 := of_decide_eq_true (show decide _ = true from z.2)
  rw [e] at z3
  omega
def gMulI := gI MulOk fun i j => .int (i * j)
theorem oMulI : OpD X (binaryOp .Mult) gMulI := opI_of (opI fun _ _ _ _ _ _ _ hc q => mul_int q (MulOk.ok hc)) fun _ _ _ _ => .int _
def DivOk (_ j : Int) : Prop := j ≠ 0 ∧ j.natAbs.log2 < 9000
def gDiv := gI DivOk fun i j => .int (i.fdiv j)
theorem oDiv : OpD X (binaryOp .FloorDiv) gDiv := opI_of (C := DivOk) (opI fun i j _ _ _ _ _ hc q => floordiv_int hc.1 q (.inl (PyProof.noPylong_of_log2 hc.2))) fun _ _ _ _ => .int _
def gMod := gI (fun _ j => j ≠ 0) fun i j => .int (i.fmod j)
theorem oMod : OpD X (binaryOp .Mod) gMod := opI_of op_modN fun _ _ _ _ => .int _
/-- a power below 2 ^ 27 bits -/
def PowOk (i j : Int) : Prop := 0 ≤ j ∧ ((i.natAbs.log2 + 1 : Nat) : Int) * j ≤ 134217728
def gPow := gI PowOk fun i j => .int (i ^ j.toNat)
theorem PowOk.bits {i j : Int} (h : PowOk i j) : (Builtin.Int.intBits i : Int) * j ≤ 2 ^ 27 := by
  have b : Builtin.Int.intBits i ≤ i.natAbs.log2 + 1 := by
    unfold Builtin.Int.intBits
    split
    · omega
    · omega
  have z : (Builtin.Int.intBits i : Int) * j ≤ ((i.natAbs.log2 + 1 : Nat) : Int) * j := Int.mul_le_mul_of_nonneg_right (by omega) h.1
  have e : (2 : Int) ^ 27 = 134217728 := by decide
  rw [e]
  exact Int.le_trans z h.2
theorem oPow : OpD X (binaryOp .Pow) gPow := opI_of (opI fun _ _ _ _ _ _ _ hc q => PyProof.Rows.pow_int hc.1 hc.bits q) fun _ _ _ _ => .int _
def gLt := gI (fun _ _ => True) fun i j => .bool (decide (i < j))
def gLe := gI (fun _ _ => True) fun i j => .bool (decide (i ≤ j))
def gGt := gI (fun _ _ => True) fun i j => .bool (decide (j < i))
def gGe := gI (fun _ _ => True) fun i j => .bool (decide (j ≤ i))
theorem oLt : OpD X (compareOp .Lt) gLt := opI_of (rI0_rI op_lt) fun _ _ _ _ => .bl _
theorem oLe : OpD X (compareOp .LtE) gLe := opI_of (rI0_rI op_le) fun _ _ _ _ => .bl _
theorem oGt : OpD X (compareOp .Gt) gGt := opI_of (rI0_rI op_gt) fun _ _ _ _ => .bl _
theorem oGe : OpD X (compareOp .GtE) gGe := opI_of (rI0_rI op_ge) fun _ _ _ _ => .bl _
/-- == of data -/
def gEq : SV → SV → (SV → Prop) → Prop := fun x y k => match x, y with
  | .d (.str a), .d (.str b) => k (.d (.bool (a == b)))
  | .d a, .d b => SeqAt.shaped a = true ∧ SeqAt.shaped b = true ∧ k (.d (.bool (PyData.eqv a b)))
  | _, _ => False
def gNe : SV → SV → (SV → Prop) → Prop := fun x y k => match x, y with
  | .d (.str a), .d (.str b) => k (.d (.bool (!(a == b))))
  | .d a, .d b => SeqAt.shaped a = true ∧ SeqAt.shaped b = true ∧ k (.d (.bool (!PyData.eqv a b)))
  | _, _ => False
theorem str_eq {a b : Str} : decide (V.str a = V.str b) = (a == b) := by
  by_cases h : a = b
  · subst h
    simp
  · rw [decide_eq_false (fun z => h (V.str.inj z)), beq_eq_false_iff_ne.mpr h]
theorem oEq (hu : X.A.units + 64 < cLine) : OpD X (compareOp .Eq) gEq := by
  intro pins s σ H B S x y vx vy v u k I R a rx b ry q
  unfold gEq at q
  split at q
  · rename_i p r
    cases (show Dz _ _ _ _ from a)
    cases (show Dz _ _ _ _ from b)
    refine op_eq pins s σ H _ _ v u _ I rx ry ⟨rfl, ?_⟩
    rw [str_eq]
    exact ⟨.d _, S, R, .rfl, Dz.bl _, rfl, q⟩
  · exact op_eqD hu pins s σ H _ _ v u _ I rx ry ⟨_, _, Dz.dp _ _ (lay_noDict _ (SeqAt.canLay_of_shaped q.1)) a, Dz.dp _ _ (lay_noDict _ (SeqAt.canLay_of_shaped q.2.1)) b, q.1, q.2.1, .d _, S, R, .rfl, Dz.bl _, rfl, q.2.2⟩
  · exact q.elim
theorem oNe (hu : X.A.units + 64 < cLine) : OpD X (compareOp .NotEq) gNe := by
  intro pins s σ H B S x y vx vy v u k I R a rx b ry q
  unfold gNe at q
  split at q
  · rename_i p r
    cases (show Dz _ _ _ _ from a)
    cases (show Dz _ _ _ _ from b)
    refine op_ne pins s σ H _ _ v u _ I rx ry ⟨rfl, ?_⟩
    rw [str_eq]
    exact ⟨.d _, S, R, .rfl, Dz.bl _, rfl, q⟩
  · exact op_neD hu pins s σ H _ _ v u _ I rx ry ⟨_, _, Dz.dp _ _ (lay_noDict _ (SeqAt.canLay_of_shaped q.1)) a, Dz.dp _ _ (lay_noDict _ (SeqAt.canLay_of_shaped q.2.1)) b, q.1, q.2.1, .d _, S, R, .rfl, Dz.bl _, rfl, q.2.2⟩
  · exact q.elim
/-- is None, is not None -/
def isNone : SV → Option Bool
  | .d .none => some true
  | .d _ => some false
  | .exc _ _ => some false
  | .cell _ => some false
  | _ => none
theorem isNone_v {K : PySem.W.Frag} {B : B3} {H : Hp} {x : SV} {v : V} {b : Bool} (h : RR K B H x v) (e : isNone x = some b) : decide (v = .non) = b := by
  cases x with
  | d x =>
    have h' : Dz K H v x := h
    cases x <;> cases h' <;> cases e <;> rfl
  | cell n =>
    obtain ⟨a, _, rfl⟩ := h
    cases e
    rfl
  | exc C fs =>
    obtain ⟨a, rfl, _⟩ := h
    cases e
    rfl
  | own _ => cases e
  | raw _ => cases e
  | thk _ _ _ _ _ => cases e
def gIs : SV → SV → (SV → Prop) → Prop := fun x y k => match y with
  | .d .none => ∃ b, isNone x = some b ∧ k (.d (.bool b))
  | _ => False
def gIsN : SV → SV → (SV → Prop) → Prop := fun x y k => match y with
  | .d .none => ∃ b, isNone x = some b ∧ k (.d (.bool (!b)))
  | _ => False
theorem oIs : OpD X (compareOp .Is) gIs := .of op_isN fun σ H B S x y vx vy k R a b q => by
  unfold gIs at q
  split at q
  · cases (show Dz _ _ _ _ from b)
    obtain ⟨z, e, q⟩ := q
    refine ⟨rfl, ?_⟩
    rw [isNone_v a e]
    exact ⟨.d _, S, R, .rfl, Dz.bl _, rfl, q⟩
  · exact q.elim
theorem oIsN : OpD X (compareOp .IsNot) gIsN := .of op_notN fun σ H B S x y vx vy k R a b q => by
  unfold gIsN at q
  split at q
  · cases (show Dz _ _ _ _ from b)
    obtain ⟨z, e, q⟩ := q
    refine ⟨rfl, ?_⟩
    rw [isNone_v a e]
    exact ⟨.d _, S, R, .rfl, Dz.bl _, rfl, q⟩
  · exact q.elim
end
end
end D3
/-! D3c: truth, displays, calls, statements, loops. -/
namespace D3
open PySem PySem.Spec PyProof.Rows L2
section
variable [Tb]

def iteB (b : Bool) (p q : Prop) : Prop := match b with
  | true => p
  | false => q
theorem iteB_true {p q : Prop} : iteB true p q = p := rfl
theorem iteB_false {p q : Prop} : iteB false p q = q := rfl
theorem iteB_of {b : Bool} {p q : Prop} (h1 : b = true → p) (h2 : b = false → q) : iteB b p q := by
  cases b
  · exact h2 rfl
  · exact h1 rfl
theorem iteB_if {b : Bool} {p q : Prop} (h : iteB b p q) : if b = true then p else q := by
  cases b
  · exact h
  · exact h

/-! ### truth -/
def truthD (x : PyData) (k : Bool → Prop) : Prop := match x with
  | .none => k false
  | .bool b => k b
  | .int i => k (i != 0)
  | .str s => s.length ≤ sizeLine ∧ k ((s.length : Int) != 0)
  | .list xs => k (!xs.isEmpty)
  | .tuple xs => k (!xs.isEmpty)
  | .dict _ => False
def dTruth (t : DTE) : DTT := fun S k e => t S (fun r S1 => match r with
  | .d x => truthD x fun b => k b S1
  | _ => False) e
theorem DzA.emp {K : PySem.W.Frag} {H : Hp} {vs : List V} {ds : List PyData} (h : DzA K H vs ds) : (!vs.isEmpty) = !ds.isEmpty := by
  cases h with
  | nil => rfl
  | cons _ _ => rfl
section
variable {X : Cx} {W : WX} {a b c e : Expr} {ta tb : DTE} {tA tB : DTT} {rest es : List Expr} {pos : Pos}
theorem d_truth (ha : DE X W a ta) (he : ∀ whole, isTrue a X.env whole = (do let v ← whole; standAt a.pos; holding [v] (truthy v)) := by intro _; rfl) : DT X W a (dTruth ta) :=
  .of (pt_truth ha he) fun σ H B S k er R q hx => liftE.in (t := ta) R q hx fun v H1 r S1 R1 m1 rr q1 => by
    match r, rr, q1 with
    | .d x, rr, q1 =>
      have rr : Dz X.K H1 v x := rr
      unfold truthD at q1
      cases x with
      | none => cases rr; exact ⟨_, rfl, S1, R1, m1, q1⟩
      | bool b => cases rr; exact ⟨_, rfl, S1, R1, m1, q1⟩
      | int i => cases rr; exact ⟨_, rfl, S1, R1, m1, q1⟩
      | str s => cases rr; exact ⟨_, ⟨q1.1, rfl⟩, S1, R1, m1, q1.2⟩
      | list xs =>
        cases rr with
        | lst h1 h2 => exact ⟨_, .inl ⟨_, h1.sq, rfl⟩, S1, R1, m1, by rw [h2.emp]; exact q1⟩
      | tuple xs =>
        cases rr with
        | tup h1 h2 => exact ⟨_, .inr (.inl ⟨_, h1, rfl⟩), S1, R1, m1, by rw [h2.emp]; exact q1⟩
      | dict _ => exact q1.elim
def dAnd (t u : DTT) : DTT := fun S k e => t S (fun b S1 => iteB b (u S1 k e) (k false S1)) e
def dOr (t u : DTT) : DTT := fun S k e => t S (fun b S1 => iteB b (k true S1) (u S1 k e)) e
def dNot (t : DTT) : DTT := fun S k e => t S (fun b S1 => k (!b) S1) e
theorem dw_and1 (ha : DT X W a tA) : DW X W (.BoolOp .And [a] pos) tA := pw_and1 ha
theorem dw_or1 (ha : DT X W a tA) : DW X W (.BoolOp .Or [a] pos) tA := pw_or1 ha
theorem dw_and (ha : DT X W a tA) (hb : DW X W (.BoolOp .And (b :: rest) pos) tB) : DW X W (.BoolOp .And (a :: b :: rest) pos) (dAnd tA tB) :=
  .of (pw_and ha hb) fun σ H B S k er R q hx => liftT.in (t := tA) R q hx fun z H1 S1 R1 m1 q1 => by
    cases z with
    | true => exact liftT.in (t := tB) R1 q1 hx fun z H2 S2 R2 m2 q2 => ⟨S2, R2, m1.tr m2, q2⟩
    | false => exact ⟨S1, R1, m1, q1⟩
theorem dw_or (ha : DT X W a tA) (hb : DW X W (.BoolOp .Or (b :: rest) pos) tB) : DW X W (.BoolOp .Or (a :: b :: rest) pos) (dOr tA tB) :=
  .of (pw_or ha hb) fun σ H B S k er R q hx => liftT.in (t := tA) R q hx fun z H1 S1 R1 m1 q1 => by
    cases z with
    | false => exact liftT.in (t := tB) R1 q1 hx fun z H2 S2 R2 m2 q2 => ⟨S2, R2, m1.tr m2, q2⟩
    | true => exact ⟨S1, R1, m1, q1⟩
theorem DW.dt (h : DW X W a tA) : DT X W a tA := PW.pt h
theorem d_not (ha : DT X W a tA) : DT X W (.UnaryOp .Not a pos) (dNot tA) :=
  .of (pt_not ha) fun σ H B S k er R q hx => liftT.in (t := tA) R q hx fun z H1 S1 R1 m1 q1 => ⟨S1, R1, m1, q1⟩
/-- as values: bools -/
def dAndV (t u : DTE) : DTE := fun S k e => t S (fun r S1 => match r with
  | .d (.bool true) => u S1 k e
  | .d (.bool false) => k (.d (.bool false)) S1
  | _ => False) e
def dOrV (t u : DTE) : DTE := fun S k e => t S (fun r S1 => match r with
  | .d (.bool true) => k (.d (.bool true)) S1
  | .d (.bool false) => u S1 k e
  | _ => False) e
def dNotV (t : DTE) : DTE := fun S k e => t S (fun r S1 => match r with
  | .d (.bool b) => k (.d (.bool (!b))) S1
  | _ => False) e
theorem d_one {op : BoolOp} (h : DE X W a ta) : DE X W (.BoolOp op [a] pos) ta := pe_one h
theorem d_andV (ha : DE X W a ta) (hb : DE X W (.BoolOp .And (b :: rest) pos) tb) : DE X W (.BoolOp .And (a :: b :: rest) pos) (dAndV ta tb) :=
  .of (pe_and ha hb) fun σ H B S k er R q hx => liftE.in (t := ta) R q hx fun v H1 r S1 R1 m1 rr q1 => by
    match r, rr, q1 with
    | .d (.bool true), rr, q1 =>
      have e := RR.bool rr
      subst e
      exact ⟨true, rfl, liftE.in (t := tb) R1 q1 hx fun v H2 r S2 R2 m2 rr q2 => ⟨r, S2, R2, m1.tr m2, rr, q2⟩⟩
    | .d (.bool false), rr, q1 =>
      have e := RR.bool rr
      subst e
      exact ⟨false, rfl, .d (.bool false), S1, R1, m1, Dz.bl _, q1⟩
theorem d_orV (ha : DE X W a ta) (hb : DE X W (.BoolOp .Or (b :: rest) pos) tb) : DE X W (.BoolOp .Or (a :: b :: rest) pos) (dOrV ta tb) :=
  .of (pe_or ha hb) fun σ H B S k er R q hx => liftE.in (t := ta) R q hx fun v H1 r S1 R1 m1 rr q1 => by
    match r, rr, q1 with
    | .d (.bool false), rr, q1 =>
      have e := RR.bool rr
      subst e
      exact ⟨false, rfl, liftE.in (t := tb) R1 q1 hx fun v H2 r S2 R2 m2 rr q2 => ⟨r, S2, R2, m1.tr m2, rr, q2⟩⟩
    | .d (.bool true), rr, q1 =>
      have e := RR.bool rr
      subst e
      exact ⟨true, rfl, .d (.bool true), S1, R1, m1, Dz.bl _, q1⟩
theorem d_notV (ha : DE X W a ta) : DE X W (.UnaryOp .Not a pos) (dNotV ta) :=
  .of (pe_not ha) fun σ H B S k er R q hx => liftE.in (t := ta) R q hx fun v H1 r S1 R1 m1 rr q1 => by
    match r, rr, q1 with
    | .d (.bool z), rr, q1 =>
      have e := RR.bool rr
      subst e
      exact ⟨z, rfl, .d (.bool !z), S1, R1, m1, Dz.bl _, q1⟩
def dIfE (c : DTT) (t u : DTE) : DTE := fun S k e => c S (fun b S1 => iteB b (t S1 k e) (u S1 k e)) e
theorem d_ifE (hc : DT X W c tA) (ha : DE X W a ta) (hb : DE X W b tb) : DE X W (.IfExp c a b pos) (dIfE tA ta tb) :=
  .of (pe_ifExp hc ha hb) fun σ H B S k er R q hx => liftT.in (t := tA) R q hx fun z H1 S1 R1 m1 q1 => by
    cases z with
    | true => exact liftE.in (t := ta) R1 q1 hx fun v H2 r S2 R2 m2 rr q2 => ⟨r, S2, R2, m1.tr m2, rr, q2⟩
    | false => exact liftE.in (t := tb) R1 q1 hx fun v H2 r S2 R2 m2 rr q2 => ⟨r, S2, R2, m1.tr m2, rr, q2⟩
/-- -a of an int -/
def dNeg (t : DTE) : DTE := fun S k e => t S (fun r S1 => match r with
  | .d (.int i) => k (.d (.int (-i))) S1
  | _ => False) e
theorem d_neg (ha : DE X W a ta) : DE X W (.UnaryOp .USub a pos) (dNeg ta) :=
  .of (pe_un un_neg ha) fun σ H B S k er R q hx => liftE.in (t := ta) R q hx fun v H1 r S1 R1 m1 rr q1 => by
    match r, rr, q1 with
    | .d (.int z), rr, q1 =>
      cases (show Dz _ _ _ _ from rr)
      exact ⟨z, rfl, .d (.int (-z)), S1, R1, m1, Dz.int _, q1⟩

/-! ### arguments, displays -/
def dNil : DTA := fun S k _ => k [] S
def dCons (t : DTE) (u : DTA) : DTA := fun S k e => t S (fun r S1 => u S1 (fun rs S2 => k (r :: rs) S2) e) e
theorem RRs.mono {K : PySem.W.Frag} {B : B3} {H H' : Hp} (m : Mono H H') {rs : List SV} {vs : List V} (h : RRs K B H rs vs) : RRs K B H' rs vs := Paired.mapP h fun _ _ z => z.mono m
theorem da_nil : DA X W [] dNil := .of pa_nil fun σ H B S k er R q hx => ⟨[], S, R, .rfl, .nil, q⟩
theorem da_cons {t : DTA} (ha : DE X W e ta) (hr : DA X W es t) (hs : starEach (e :: es) X.env = (false, eval e X.env) :: starEach es X.env := by rfl) : DA X W (e :: es) (dCons ta t) :=
  .of (pa_cons ha hr hs) fun σ H B S k er R q hx => liftE.in (t := ta) R q hx fun v H1 r S1 R1 m1 rr q1 =>
    liftA.in (t := t) R1 q1 hx fun vs H2 rs S2 R2 m2 rrs q2 => ⟨r :: rs, S2, R2, m1.tr m2, .cons (rr.mono m2) rrs, q2⟩
def allD : List SV → Option (List PyData)
  | [] => some []
  | .d x :: r => match allD r with
    | some xs => some (x :: xs)
    | none => none
  | _ :: _ => none
theorem allD_dz {K : PySem.W.Frag} {B : B3} {H : Hp} : ∀ {rs : List SV} {vs : List V} {ds : List PyData}, RRs K B H rs vs → allD rs = some ds → DzA K H vs ds
  | _, _, _, .nil, e => by
    cases e
    exact .nil
  | .d x :: rs, _, ds, .cons h t, e => by
    unfold allD at e
    split at e
    · rename_i xs e2
      cases e
      exact .cons h (allD_dz t e2)
    · cases e
  | .own _ :: _, _, _, .cons h _, _ => h.elim
  | .cell _ :: _, _, _, .cons _ _, e => nomatch e
  | .raw _ :: _, _, _, .cons _ _, e => nomatch e
  | .exc _ _ :: _, _, _, .cons _ _, e => nomatch e
  | .thk _ _ _ _ _ :: _, _, _, .cons _ _, e => nomatch e
def dTup (t : DTA) : DTE := fun S k e => t S (fun rs S1 => match allD rs with
  | some ds => ds.length ≤ sizeLine ∧ k (.d (.tuple ds)) S1
  | none => False) e
theorem d_tup {n : Nat} {t : DTA} (h : DA X W es t) : DE X W (.Tuple es n pos) (dTup t) :=
  .of (pe_tup h) fun σ H B S k er R q hx => liftA.in (t := t) R q hx fun vs H1 rs S1 R1 m1 rrs q1 => by
    split at q1
    · rename_i ds e
      have z := allD_dz rrs e
      refine ⟨by rw [z.len]; exact q1.1, fun p hp => ⟨.d (.tuple ds), S1, R1.new hp, m1.tr (.new hp), ?_, q1.2⟩⟩
      exact Dz.tup (.of upd_same) (z.mono (.new hp))
    · exact q1.elim
def dLst (t : DTA) : DTL := fun S k e => t S (fun rs S1 => match allD rs with
  | some ds => ds.length ≤ sizeLine ∧ k ds S1
  | none => False) e
/-- a list that was just made -/
theorem RL.new {K : PySem.W.Frag} {B : B3} {σ : L2.St} {S : S3} {H : Hp} {p : Addr} {vs : List V} {ds : List PyData} (R : RS K B σ H S) (hp : H p = none) (z : DzA K H vs ds) : RL K B σ S (upd H p (.lst vs)) ds (.ref p) := by
  obtain ⟨h0, hm⟩ := R.fresh0 hp
  refine ⟨p, vs, rfl, upd_same, z.mono (.new hp), h0, hm, fun i ys e1 e2 => ?_⟩
  obtain ⟨v, e3, a, ws, e4, e5, _⟩ := R.slot i _ e1
  rw [e2] at e3
  have e6 : V.ref p = v := Option.some.inj (Option.some.inj e3)
  rw [e4] at e6
  cases e6
  rw [hp] at e5
  cases e5
theorem d_lst {t : DTA} (h : DA X W es t) : DL X W (.List es pos) (dLst t) :=
  .of (pe_lst h) fun σ H B S k er R q hx => liftA.in (t := t) R q hx fun vs H1 rs S1 R1 m1 rrs q1 => by
    split at q1
    · rename_i ds e
      have z := allD_dz rrs e
      exact ⟨by rw [z.len]; exact q1.1, fun p hp => ⟨ds, S1, R1.new hp, m1.tr (.new hp), .new R1 hp z, q1.2⟩⟩
    · exact q1.elim
/-- a list of nobody's is frozen -/
theorem RS.frzNew {K : PySem.W.Frag} {B : B3} {σ : L2.St} {H : Hp} {S : S3} {xs : List PyData} {v : V} (R : RS K B σ H S) (h : RL K B σ S H xs v) :
    ∃ a vs, v = .ref a ∧ H a = some (.lst vs) ∧ ∀ o, RS K B σ (upd H a (.frz o (.lst vs))) S ∧ Mono H (upd H a (.frz o (.lst vs))) ∧ Dz K (upd H a (.frz o (.lst vs))) (.ref a) (.list xs) := by
  obtain ⟨a, vs, rfl, h1, h2, h3, h4, h5⟩ := h
  refine ⟨a, vs, rfl, h1, fun o => ?_⟩
  have m : Mono H (upd H a (.frz o (.lst vs))) := .at_ h1 nfz_lst
  refine ⟨⟨fun j r q => ?_, R.sep, R.cn, R.nd, fun n b ys e1 e2 => ?_, fun b u e1 e2 => ?_, R.len, tabs_at R.tabs h1⟩, m, .lst (.inl ⟨_, upd_same⟩) (h2.mono m)⟩
  · obtain ⟨w, q1, q2⟩ := R.slot j r q
    refine ⟨w, q1, ?_⟩
    cases r with
    | own ys =>
      obtain ⟨b, ws, r1, r2, r3, r4⟩ := q2
      have hb : b ≠ a := fun z => by
        subst z
        exact h5 j ys q (by rw [q1, r1])
      exact ⟨b, ws, r1, by rw [upd_ne hb]; exact r2, r3.mono m, r4⟩
    | _ => exact q2.mono m (fun _ z => nomatch z)
  · obtain ⟨ws, q1, q2⟩ := R.cell n b ys e1 e2
    have hb : b ≠ a := fun z => h4 (by rw [← z]; exact List.mem_of_getElem? e1)
    exact ⟨ws, by rw [upd_ne hb]; exact q1, q2.mono m⟩
  · have hb : b ≠ a := fun z => by
      subst z
      rw [h3] at e1
      cases e1
    rw [upd_ne hb]
    exact R.keep b u e1 e2
def dFz (t : DTL) : DTE := fun S k e => t S (fun xs S1 => k (.d (.list xs)) S1) e
theorem d_fz {t : DTL} (h : DL X W e t) : DE X W e (dFz t) := by
  refine .mk fun pins s σ H B S k er I R q hx => ?_
  refine thn (h.go I R q hx) fun u s1 ⟨v, H1, I1, r1, xs, S1, R1, m1, rl, q1⟩ => ?_
  obtain ⟨a, vs, rfl, h1, f⟩ := R1.frzNew rl
  obtain ⟨od, I2⟩ := I1.lock h1 trivial
  obtain ⟨R2, m2, z⟩ := f od
  exact ⟨.ref a, _, I2, r1, .d (.list xs), S1, R2, m1.tr m2, z, q1⟩
end

/-! ### calls of one's own defs -/
abbrev DP := List SV → List (List PyData) → (SV → List (List PyData) → Prop) → (Xd → List (List PyData) → Prop) → Prop
structure RC (K : PySem.W.Frag) (ms : List Addr) (H : Hp) (C : List (List PyData)) : Prop where
  cn : ms.length = C.length
  nd : ms.Nodup
  cell : ∀ (n : Nat) (a : Addr) (xs : List PyData), ms[n]? = some a → C[n]? = some xs → ∃ vs, H a = some (.lst vs) ∧ DzA K H vs xs
  tabs : LamX.Tabs Tb.T H
def Kept (ms : List Addr) (H H' : Hp) : Prop := ∀ b o, H b = some o → b ∉ ms → ∃ o', H' b = some o' ∧ Kp o o'
theorem Kept.at_ {ms : List Addr} {H H' : Hp} (k : Kept ms H H') {b : Addr} {o : HO} (e : H b = some o) (n : b ∉ ms) (nt : ∀ p, o ≠ .tbl p) : H' b = some o := by
  obtain ⟨o', q, z⟩ := k b o e n
  rw [q, z.eq nt]
def spD (K : PySem.W.Frag) (n : Nat) (P : DP) : Sp := fun vs H Q E => vs.length = n ∧ ∃ ms rs C k e, RRs K ⟨H, ms⟩ H rs vs ∧ RC K ms H C ∧ P rs C k e ∧
  (∀ r v C' H', RC K ms H' C' → Kept ms H H' → RR K ⟨H, ms⟩ H' r v → k r C' → Q v H') ∧ ∀ x C' cls d H', RC K ms H' C' → Kept ms H H' → XR K H' x cls d → e x C' → E cls d H'
theorem RS.rc {K : PySem.W.Frag} {B : B3} {σ : L2.St} {H : Hp} {S : S3} (R : RS K B σ H S) : RC K B.ms H S.C := ⟨R.cn, R.nd, R.cell, R.tabs⟩
theorem RC.mono {K : PySem.W.Frag} {ms : List Addr} {H H' : Hp} {C : List (List PyData)} (R : RC K ms H C) (k : Kept ms H H') : Mono H H' := fun b o z e => by
  refine k.at_ e (fun hm => ?_) z.ntbl
  obtain ⟨n, h1⟩ := List.getElem?_of_mem hm
  have hl : n < C.length := by
    rw [← R.cn]
    exact (List.getElem?_eq_some_iff.mp h1).1
  obtain ⟨vs, q, _⟩ := R.cell n b _ h1 (List.getElem?_eq_getElem hl)
  rw [q] at e
  cases e
  exact nfz_lst z
theorem RR.base {K : PySem.W.Frag} {B B' : B3} {H : Hp} (e : B.ms = B'.ms) : ∀ {r : SV} {v : V}, RR K B H r v → RR K B' H r v
  | .d _, _, h => h
  | .own _, _, h => h.elim
  | .cell _, _, ⟨a, h1, h2⟩ => ⟨a, by rw [← e]; exact h1, h2⟩
  | .raw _, _, h => h
  | .exc _ _, _, h => h
  | .thk _ _ _ _ _, _, ⟨h1, h2, h3, h4⟩ => ⟨h1, h2, e.symm.trans h3, h4⟩
theorem RS.after {K : PySem.W.Frag} {B : B3} {σ : L2.St} {H H' : Hp} {S : S3} {C' : List (List PyData)} (R : RS K B σ H S) (k : Kept B.ms H H') (rc : RC K B.ms H' C') : RS K B σ H' { S with C := C' } := by
  have m := R.rc.mono k
  refine ⟨fun i r e => ?_, R.sep, rc.cn, rc.nd, rc.cell, fun b o e1 e2 => by obtain ⟨o1, q1, z1⟩ := R.keep b o e1 e2; obtain ⟨o2, q2, z2⟩ := k b o1 q1 e2; exact ⟨o2, q2, z1.tr z2⟩, R.len, rc.tabs⟩
  obtain ⟨v, h1, h2⟩ := R.slot i r e
  refine ⟨v, h1, ?_⟩
  cases r with
  | own xs =>
    obtain ⟨a, vs, q1, q2, q3, q4, q5⟩ := h2
    exact ⟨a, vs, q1, k.at_ q2 q5 (fun p z => nomatch z), q3.mono m, q4, q5⟩
  | _ => exact h2.mono m (fun _ z => nomatch z)
def dCall (P : DP) (ta : DTA) : DTE := fun S k e => ta S (fun rs S1 => P rs S1.C (fun r C' => k r { S1 with C := C' }) fun x C' => e x { S1 with C := C' }) e
/-- a promise, met in the caller's state -/
theorem spD.meet {K : PySem.W.Frag} {W : WX} {B : B3} {σ : L2.St} {H H1 : Hp} {S1 : S3} {n : Nat} {P : DP} {rs : List SV} {vs : List V} {k : SV → S3 → Prop} {er : ED} (R : RS K B σ H1 S1) (m : Mono H H1) (hn : vs.length = n) (rr : RRs K B H1 rs vs)
    (q : P rs S1.C (fun r C' => k r { S1 with C := C' }) fun x C' => er x { S1 with C := C' }) (hx : HX K W B er) : spD K n P vs H1 (KD K B σ H k) (WE W σ) := by
  refine ⟨hn, B.ms, rs, S1.C, _, _, Paired.mapP rr fun _ _ z => RR.base (B := B) (B' := ⟨H1, B.ms⟩) rfl z, R.rc, q, fun r v C' H' rc kp r2 q2 => ?_, fun x C' cls d H' rc kp xr q2 => ?_⟩
  · exact ⟨r, _, R.after kp rc, m.tr (R.rc.mono kp), RR.base (B := ⟨H1, B.ms⟩) (B' := B) rfl r2, q2⟩
  · exact hx x _ σ cls d H' (R.after kp rc) xr q2
section
variable {X : Cx} {W : WX} {kk n : Nat} {f : Addr} {fd : FuncData} {ps : List Str} {P : DP} {x : Str} {p pos : Pos} {e : Expr} {es : List Expr} {t : DTA}
theorem RRs.len {K : PySem.W.Frag} {B : B3} {H : Hp} {rs : List SV} {vs : List V} (h : RRs K B H rs vs) : rs.length = vs.length := Paired.length h
end
/-! ### a def's promise, where no repr is under way -/
structure FnG (P : Program) (w : World) (K : PySem.W.Frag) (mg : Str → Option Value) (base : Heap) (k : Nat) (f : Addr) (fd : FuncData) (ps : List Str) (sp : Sp) : Prop where
  len : ∀ vs H Q E, sp vs H Q E → vs.length = ps.length
  run : ∀ (A : Around) (outer : List Env) (s : Shared) (H : Hp) (args : Args) (us : List Value) (vs : List V) (Q : VK) (E : XK), Room k A → A.guards = some [] →
    Env0 P w K mg base A outer s H → BindsTo s fd args (ps.zip us) → Vals vs us → sp vs H Q E →
    codeAny (model P w) A (.call (.ref f) args) (CR (L2.CX P w) outer P w H s Q E) s
theorem FnG.mono {P : Program} {w : World} {K : PySem.W.Frag} {mg : Str → Option Value} {base : Heap} {j k : Nat} {f : Addr} {fd : FuncData} {ps : List Str} {sp : Sp} (F : FnG P w K mg base j f fd ps sp) (h : j ≤ k) : FnG P w K mg base k f fd ps sp :=
  ⟨F.len, fun A outer s H args us vs Q E hr => F.run A outer s H args us vs Q E (hr.mono h)⟩
section
variable {X : Cx} {W : WX} {kk n : Nat} {f : Addr} {fd : FuncData} {ps : List Str} {P : DP} {sp : Sp} {x : Str} {p pos : Pos} {e : Expr} {es : List Expr} {t : DTA}
theorem endG {pins : List (Addr × Obj)} {σ : L2.St} {H : Hp} {s : Shared} {Q : VK} {E : XK} (hx : PassesAt (L2.CX X.prog X.w) X σ E) (I : Inv X pins σ H s) {r : Result} {s' : Shared} (hq : CR (L2.CX X.prog X.w) X.stack X.prog X.w H s Q E r s') :
    (match r with
      | .ok (.ret u) => EP X pins σ Q u s'
      | .ok _ => False
      | .error e => X.xe e s') := by
  cases r with
  | error ev => exact hx pins H s ev s' I hq
  | ok fl =>
    cases fl with
    | ret u => exact I.after hq
    | _ => exact hq
/-- the callee runs, its arguments bound by whatever call -/
theorem run_fnG {pins : List (Addr × Obj)} {σ : L2.St} {H : Hp} {s : Shared} {Q : VK} {E : XK} {us : List Value} {vs : List V} (F : FnG X.prog X.w X.K X.mg X.base kk f fd ps sp) (hr : Room kk X.A) (hgd : X.A.guards = some []) (hb : Binds X.K fd ps [])
    (hx : PassesAt (L2.CX X.prog X.w) X σ E) (I : Inv X pins σ H s) (rv : Vals vs us) (h : sp vs H Q E) : wpAny (model X.prog X.w) X.A (call (.ref f) us) (EP X pins σ Q) X.xe s := by
  have hl : us.length = ps.length := rv.length ▸ F.len _ _ _ _ h
  have b := hb s us I.kIn (by simpa using hl)
  simp only [List.append_nil] at b
  refine wpAny_call (codeAny_mono (F.run X.A X.stack s H ⟨us, []⟩ us vs Q E hr hgd I.env0 b rv h) fun r s' hq => ?_)
  have z := endG hx I hq
  cases r with
  | error ev => exact z
  | ok fl =>
    cases fl with
    | ret u => exact z
    | _ => exact z.elim
/-- f(..), every parameter given by its place -/
theorem d_call (F : FnG X.prog X.w X.K X.mg X.base kk f fd ps (spD X.K n P)) (hr : Room kk X.A) (hgd : X.A.guards = some []) (hg : Gl X x) (hm : X.mg x = some (.ref f)) (hk : PySem.W.keepIn X.K (.ref f) = true) (hb : Binds X.K fd ps []) (tk : Takes X W)
    (ha : DA X W (e :: es) t) (hl : ∀ rs C k er, P rs C k er → rs.length = n) (hdb : (x == ("__debug__" : Str)) = false := by decide) (he : starEach (e :: es) X.env = (false, eval e X.env) :: starEach es X.env := by rfl) (hpl : (backTo pos (starEach es X.env)).any (·.1) = false := by rfl) :
    DE X W (.Call (.Name x p) (e :: es) [] pos) (dCall P t) := by
  refine .mk fun pins s σ H B S k er I R q hx => ?_
  refine wpAny_Call_Name_kw (ld_glob I hg hm ?_ hdb)
  refine PySem.W.callWith_K (h₀ := X.base) I.ok.mod.kin hk (thn (ha.go I R q hx) fun us s1 ⟨vs, H1, I1, rv, rs, S1, R1, m1, rr, q1⟩ => ⟨I1.kIn, ?_⟩) he hpl
  exact run_fnG F hr hgd hb (passAt tk σ) I1 rv (spD.meet R1 m1 (by rw [← rr.len]; exact hl _ _ _ _ q1) rr q1 hx)
/-- f(), a def without parameters -/
theorem d_call0 (F : FnG X.prog X.w X.K X.mg X.base kk f fd ps (spD X.K 0 P)) (hr : Room kk X.A) (hgd : X.A.guards = some []) (hg : Gl X x) (hm : X.mg x = some (.ref f)) (hk : PySem.W.keepIn X.K (.ref f) = true) (hb : Binds X.K fd ps []) (tk : Takes X W)
    (hdb : (x == ("__debug__" : Str)) = false := by decide) : DE X W (.Call (.Name x p) [] [] pos) (dCall P dNil) := by
  refine .mk fun pins s σ H B S k er I R q hx => ?_
  refine wpAny_Call_Name_kw (ld_glob I hg hm ?_ hdb)
  exact PySem.W.callWith_K0 I.kIn hk (run_fnG (us := []) F hr hgd hb (passAt tk σ) I .nil (spD.meet (rs := []) R .rfl rfl .nil q hx))
end
end
end D3
/-! D3d: statements and loops. -/
namespace D3
open PySem PySem.Spec PyProof.Rows L2
section
variable [Tb]
section
variable {X : Cx} {W : WX} {st : Stmt} {rest : List Stmt} {e : Expr} {te : DTE} {t u : DTS} {pos : Pos} {pins : List (Addr × Obj)} {s : Shared} {σ : L2.St} {H : Hp} {B : B3} {S : S3}
theorem DS.go (h : DS X W st t) (I : Inv X pins σ H s) (R : RS X.K B σ H S) {D : DEnds} {er : ED} (q : t D S er) (hx : HX X.K W B er) :
    wpAny (model X.prog X.w) X.A (exec st X.env) (SP X pins (KS X.K B H D)) X.xe s := h.run pins s σ H _ I ⟨B, S, D, er, R, q, hx, fun _ _ z => z, fun _ _ z => z, fun _ _ z => z, fun _ _ z => z⟩
theorem SP.imp {D D' : Ends} {f : Flow} (h : SP X pins D f s) (h1 : ∀ σ' H', D.nx σ' H' → D'.nx σ' H') (h2 : ∀ v H', D.rt v H' → D'.rt v H') (h3 : ∀ σ' H', D.bk σ' H' → D'.bk σ' H') (h4 : ∀ σ' H', D.ct σ' H' → D'.ct σ' H') : SP X pins D' f s := by
  cases f with
  | next => obtain ⟨a, b, c, d⟩ := h; exact ⟨a, b, c, h1 _ _ d⟩
  | brk => obtain ⟨a, b, c, d⟩ := h; exact ⟨a, b, c, h3 _ _ d⟩
  | cont => obtain ⟨a, b, c, d⟩ := h; exact ⟨a, b, c, h4 _ _ d⟩
  | ret u => obtain ⟨v, a, b, c, r, d⟩ := h; exact ⟨v, a, b, c, r, h2 _ _ d⟩
theorem DS.mk (h : ∀ pins s σ H B S D er, Inv X pins σ H s → RS X.K B σ H S → t D S er → HX X.K W B er → wpAny (model X.prog X.w) X.A (exec st X.env) (SP X pins (KS X.K B H D)) X.xe s) : DS X W st t :=
  ⟨fun pins s σ H D I ⟨B, S, DD, er, R, q, hx, f1, f2, f3, f4⟩ => thn (h pins s σ H B S DD er I R q hx) fun f s1 z => SP.imp z f1 f2 f3 f4⟩
theorem DS.of {t' : TS} (h : PS X st t') (f : ∀ σ H B S D er, RS X.K B σ H S → t D S er → HX X.K W B er → t' (KS X.K B H D) σ H) : DS X W st t :=
  .mk fun pins s σ H B S D er I R q hx => h.run pins s σ H _ I (f σ H B S D er R q hx)
theorem DSs.of {sts : List Stmt} {t' : TS} (h : PSs X sts t') (f : ∀ σ H B S D er, RS X.K B σ H S → t D S er → HX X.K W B er → t' (KS X.K B H D) σ H) : DSs X W sts t :=
  ⟨fun pins s σ H D I ⟨B, S, DD, er, R, q, hx, f1, f2, f3, f4⟩ => thn (h.run pins s σ H _ I (f σ H B S DD er R q hx)) fun f s1 z => SP.imp z f1 f2 f3 f4⟩
/-- a statement's reading, met -/
theorem liftS.in {K : PySem.W.Frag} (R : RS K B σ H S) {D : DEnds} {er : ED} (q : t D S er) (hx : HX K W B er) {D' : Ends} (h1 : ∀ σ' H', (KS K B H D).nx σ' H' → D'.nx σ' H') (h2 : ∀ v H', (KS K B H D).rt v H' → D'.rt v H')
    (h3 : ∀ σ' H', (KS K B H D).bk σ' H' → D'.bk σ' H') (h4 : ∀ σ' H', (KS K B H D).ct σ' H' → D'.ct σ' H') : liftS K W t D' σ H := ⟨B, S, D, er, R, q, hx, h1, h2, h3, h4⟩
theorem KS.tn {K : PySem.W.Frag} {B : B3} {H H1 : Hp} {D : DEnds} (m : Mono H H1) : ∀ σ' H', (KS K B H1 D).nx σ' H' → (KS K B H D).nx σ' H' := fun σ' H' ⟨S', a, b, c⟩ => ⟨S', a, m.tr b, c⟩
theorem KS.tb {K : PySem.W.Frag} {B : B3} {H H1 : Hp} {D : DEnds} (m : Mono H H1) : ∀ σ' H', (KS K B H1 D).bk σ' H' → (KS K B H D).bk σ' H' := fun σ' H' ⟨S', a, b, c⟩ => ⟨S', a, m.tr b, c⟩
theorem KS.tc {K : PySem.W.Frag} {B : B3} {H H1 : Hp} {D : DEnds} (m : Mono H H1) : ∀ σ' H', (KS K B H1 D).ct σ' H' → (KS K B H D).ct σ' H' := fun σ' H' ⟨S', a, b, c⟩ => ⟨S', a, m.tr b, c⟩
/-- a statement's reading behind what has run -/
theorem liftS.on {K : PySem.W.Frag} {H1 : Hp} {σ1 : L2.St} {S1 : S3} (m : Mono H H1) (R : RS K B σ1 H1 S1) {D : DEnds} {er : ED} (q : t D S1 er) (hx : HX K W B er) : liftS K W t (KS K B H D) σ1 H1 :=
  ⟨B, S1, D, er, R, q, hx, KS.tn m, fun _ _ z => z, KS.tb m, KS.tc m⟩
def dNext : DTS := fun D S _ => D.nx S
def dSeq (t u : DTS) : DTS := fun D S e => t { D with nx := fun S1 => u D S1 e } S e
theorem ds_nil : DSs X W [] dNext := .of pss_nil fun σ H B S D er R q hx => ⟨S, R, .rfl, q⟩
theorem ds_cons (h1 : DS X W st t) (h2 : DSs X W rest u) : DSs X W (st :: rest) (dSeq t u) :=
  .of (pss_cons h1 h2) fun σ H B S D er R q hx => liftS.in (t := t) R q hx (fun σ' H' ⟨S', R', m', q'⟩ => liftS.on (t := u) m' R' q' hx) (fun _ _ z => z) (fun _ _ z => z) (fun _ _ z => z)
theorem ds_one (h1 : DS X W st t) : DSs X W [st] t := pss_one h1
def dBrk : DTS := fun D S _ => D.bk S
def dCont : DTS := fun D S _ => D.ct S
theorem ds_pass : DS X W (.Pass pos) dNext := .of ps_pass fun σ H B S D er R q hx => ⟨S, R, .rfl, q⟩
theorem ds_brk : DS X W (.Break pos) dBrk := .of ps_break fun σ H B S D er R q hx => ⟨S, R, .rfl, q⟩
theorem ds_cont : DS X W (.Continue pos) dCont := .of ps_continue fun σ H B S D er R q hx => ⟨S, R, .rfl, q⟩
def dDrop (te : DTE) : DTS := fun D S e => te S (fun _ S1 => D.nx S1) e
theorem ds_expr (he : DE X W e te) (hs : swapsWith e none pos.line X.env = pure false := by rfl) : DS X W (.Expr e pos) (dDrop te) :=
  .of (ps_expr he hs) fun σ H B S D er R q hx => liftE.in (t := te) R q hx fun v H1 r S1 R1 m1 rr q1 => ⟨S1, R1, m1, q1⟩
def dRet (te : DTE) : DTS := fun D S e => te S D.rt e
theorem ds_ret (he : DE X W e te) : DS X W (.Return (some e) pos) (dRet te) :=
  .of (ps_ret he) fun σ H B S D er R q hx => liftE.in (t := te) R q hx fun v H1 r S1 R1 m1 rr q1 => ⟨r, S1, σ, R1, rr, q1⟩
def dRetN : DTS := fun D S _ => D.rt (.d .none) S
theorem ds_retN : DS X W (.Return none pos) dRetN := .of ps_retN fun σ H B S D er R q hx => ⟨.d .none, S, σ, R, Dz.non, q⟩
def dIf (c : DTT) (t u : DTS) : DTS := fun D S e => c S (fun b S1 => iteB b (t D S1 e) (u D S1 e)) e
theorem ds_if {c : Expr} {a b : List Stmt} {tc : DTT} (hc : DT X W c tc) (ha : DSs X W a t) (hb : DSs X W b u) : DS X W (.If c a b pos) (dIf tc t u) :=
  .of (ps_if hc ha hb) fun σ H B S D er R q hx => liftT.in (t := tc) R q hx fun z H1 S1 R1 m1 q1 => by
    cases z with
    | true => exact liftS.on (t := t) m1 R1 q1 hx
    | false => exact liftS.on (t := u) m1 R1 q1 hx
def dNever : DTS := fun _ _ _ => False
theorem ds_never : DS X W st dNever := .mk fun _ _ _ _ _ _ _ _ _ _ q _ => q.elim
theorem dss_never {sts : List Stmt} : DSs X W sts dNever := .of pss_never fun σ H B S D er R q hx => q

/-! ### stores -/
def dSet (i : Nat) (te : DTE) : DTS := fun D S e => te S (fun r S1 => D.nx { S1 with G := S1.G.set i (some r) }) e
theorem ds_set {i : Nat} {x : Str} {pos' : Pos} (hN : X.N.Nodup) (hi : X.N[i]? = some x) (hx : Loc X.env.scope x) (he : DE X W e te) (hs : swapsWith e (some (.Name x pos')) pos.line X.env = pure false := by rfl)
    (hf : X.fn x = true ∨ X.env.scope.names.lookup x = some .local := by first | exact .inl rfl | exact .inr rfl | assumption) : DS X W (.Assign [.Name x pos'] e pos) (dSet i te) :=
  .of (ps_set hN hi hx he hs hf) fun σ H B S D er R q hx => liftE.in (t := te) R q hx fun v H1 r S1 R1 m1 rr q1 => ⟨_, R1.setD rr, m1, q1⟩
/-- a slot takes a new list as its own -/
theorem RS.setO {K : PySem.W.Frag} (R : RS K B σ H S) {i : Nat} {xs : List PyData} {v : V} (h : RL K B σ S H xs v) : RS K B (σ.set i (some v)) H { S with G := S.G.set i (some (.own xs)) } := by
  obtain ⟨a, vs, rfl, h1, h2, h3, h4, h5⟩ := h
  refine ⟨fun j q e => ?_, fun j k ys zs u ne e1 e2 e3 e4 => ?_, R.cn, R.nd, R.cell, R.keep, by simp [R.len], R.tabs⟩
  · rcases set_get e with ⟨rfl, e, hl⟩ | ⟨ne, e⟩
    · cases e
      exact ⟨_, by rw [List.getElem?_set_self (by rw [← R.len]; exact hl)], a, vs, rfl, h1, h2, h3, h4⟩
    · obtain ⟨w, h1, h2⟩ := R.slot j q e
      exact ⟨w, by rw [List.getElem?_set_ne ne]; exact h1, h2⟩
  · rcases set_get e1 with ⟨r1, e, l1⟩ | ⟨n1, e1⟩
    · rcases set_get e2 with ⟨r2, _, _⟩ | ⟨n2, e2⟩
      · exact ne (r1.symm.trans r2)
      · subst r1
        rw [List.getElem?_set_self (by rw [← R.len]; exact l1)] at e3
        rw [List.getElem?_set_ne n2] at e4
        cases e3
        exact h5 k _ e2 e4
    · rcases set_get e2 with ⟨r2, e, l2⟩ | ⟨n2, e2⟩
      · subst r2
        rw [List.getElem?_set_self (by rw [← R.len]; exact l2)] at e4
        rw [List.getElem?_set_ne n1] at e3
        cases e4
        exact h5 j _ e1 e3
      · rw [List.getElem?_set_ne n1] at e3
        rw [List.getElem?_set_ne n2] at e4
        exact R.sep j k ys zs u ne e1 e2 e3 e4
def dOwn (i : Nat) (te : DTL) : DTS := fun D S e => te S (fun xs S1 => D.nx { S1 with G := S1.G.set i (some (.own xs)) }) e
theorem ds_own {i : Nat} {x : Str} {tl : DTL} {pos' : Pos} (hN : X.N.Nodup) (hi : X.N[i]? = some x) (hx : Loc X.env.scope x) (he : DL X W e tl) (hs : swapsWith e (some (.Name x pos')) pos.line X.env = pure false := by rfl)
    (hf : X.fn x = true ∨ X.env.scope.names.lookup x = some .local := by first | exact .inl rfl | exact .inr rfl | assumption) : DS X W (.Assign [.Name x pos'] e pos) (dOwn i tl) :=
  .of (ps_set hN hi hx he hs hf) fun σ H B S D er R q hx => liftL.in (t := tl) R q hx fun v H1 xs S1 R1 m1 rl q1 => ⟨_, R1.setO rl, m1, q1⟩
/-- a, b = x, y: both sides written, plain local names -/
def dPar (i j : Nat) (ta tb : DTE) : DTS := fun D S e => ta S (fun r S1 => tb S1 (fun q S2 => D.nx { S2 with G := (S2.G.set i (some r)).set j (some q) }) e) e
theorem ds_par {i j : Nat} {x y : Str} {a b : Expr} {ta tb : DTE} {px py pt : Pos} {kt k2 : Nat} {pt2 : Pos} (hc : X.calm = true) (hN : X.N.Nodup) (hi : X.N[i]? = some x) (hj : X.N[j]? = some y) (hij : i ≠ j)
    (hx : X.env.scope.names.lookup x = some .local) (hy : X.env.scope.names.lookup y = some .local) (ha : DE X W a ta) (hb : DE X W b tb)
    (hw : swappedStores [.Tuple [.Name x px, .Name y py] kt pt] (.Tuple [a, b] k2 pt2) X.env = pure (some [x, y]))
    (hs : swapsWithSole [.Tuple [.Name x px, .Name y py] kt pt] (.Tuple [a, b] k2 pt2) pos.line X.env = pure false := by rfl)
    (hA : starEach [a, b] X.env = (false, eval a X.env) :: starEach [b] X.env := by rfl) (hB : starEach [b] X.env = (false, eval b X.env) :: starEach [] X.env := by rfl) :
    DS X W (.Assign [.Tuple [.Name x px, .Name y py] kt pt] (.Tuple [a, b] k2 pt2) pos) (dPar i j ta tb) :=
  .of (ps_par hc hN hi hj hij hx hy (da_cons ha (da_cons hb da_nil hB) hA) hw hs) fun σ H B S D er R q hx =>
    liftA.in (t := dCons ta (dCons tb dNil)) (k := fun rs S1 => ∃ r p, rs = [r, p] ∧ D.nx { S1 with G := (S1.G.set i (some r)).set j (some p) }) R (by
      show ta S (fun r S1 => tb S1 (fun p S2 => ∃ r' p', [r, p] = [r', p'] ∧ D.nx { S2 with G := (S2.G.set i (some r')).set j (some p') }) er) er
      have e : ∀ (r p : SV) (S2 : S3), (∃ r' p', [r, p] = [r', p'] ∧ D.nx { S2 with G := (S2.G.set i (some r')).set j (some p') }) = D.nx { S2 with G := (S2.G.set i (some r)).set j (some p) } := fun r p S2 => propext ⟨fun ⟨r', p', h, z⟩ => by cases h; exact z, fun z => ⟨r, p, rfl, z⟩⟩
      simp only [e]
      exact q) hx fun vs H1 rs S1 R1 m1 rrs q1 => by
      obtain ⟨r, p, rfl, q1⟩ := q1
      cases rrs with
      | cons r1 rr =>
        cases rr with
        | cons r2 rr =>
          cases rr
          exact ⟨_, _, rfl, _, (R1.setD r1).setD r2, m1, q1⟩
/-! ### targets of data -/
abbrev DTG := PyData → S3 → (S3 → Prop) → Prop
theorem wipe_get {σ : L2.St} {j : Nat} : ∀ {vs : List Nat}, (wipe σ vs)[j]? = if j ∈ vs then (σ[j]?).map (fun _ => none) else σ[j]?
  | [] => by simp [wipe]
  | v :: vs => by
    unfold wipe
    by_cases e : v = j
    · subst e
      by_cases h : v < (wipe σ vs).length
      · rw [List.getElem?_set_self h, if_pos (by simp)]
        rw [wipe_length] at h
        rw [List.getElem?_eq_getElem h]
        rfl
      · rw [List.getElem?_eq_none (by simpa using h), if_pos (by simp)]
        rw [wipe_length] at h
        rw [List.getElem?_eq_none (by omega)]
        rfl
    · rw [List.getElem?_set_ne e, wipe_get]
      by_cases q : j ∈ vs
      · rw [if_pos q, if_pos (by simp [q])]
      · rw [if_neg q, if_neg (by simp [q]; exact fun z => e z.symm)]
theorem wipe_set {σ : L2.St} {i : Nat} {o : Option V} {vs : List Nat} (h : i ∈ vs) : wipe (σ.set i o) vs = wipe σ vs := by
  apply List.ext_getElem?
  intro j
  rw [wipe_get, wipe_get]
  by_cases q : j ∈ vs
  · rw [if_pos q, if_pos q]
    by_cases e : i = j
    · subst e
      by_cases hl : i < σ.length
      · rw [List.getElem?_set_self hl, List.getElem?_eq_getElem hl]
        rfl
      · rw [List.getElem?_eq_none (by simpa using hl), List.getElem?_eq_none (by simpa using hl)]
    · rw [List.getElem?_set_ne e]
  · rw [if_neg q, if_neg q, List.getElem?_set_ne (fun e : i = j => q (e ▸ h))]
/-- what a target leaves: only the slots ts have changed -/
def Left (ts : List Nat) (σ σ' : L2.St) : Prop := ∀ vs : List Nat, (∀ i ∈ ts, i ∈ vs) → wipe σ' vs = wipe σ vs
def liftG (K : PySem.W.Frag) (ts : List Nat) (g : DTG) : TG := fun v σ H Q => ∃ B S x k, RS K B σ H S ∧ Dz K H v x ∧ g x S k ∧ ∀ σ' H' S', RS K B σ' H' S' → Mono H H' → Left ts σ σ' → (∀ b o, H b = some o → H' b = some o) → k S' → Q σ' H'
def DG (X : Cx) (tg : Expr) (ts : List Nat) (g : DTG) : Prop := PG X tg (liftG X.K ts g)
def gSet (i : Nat) : DTG := fun x S k => k { S with G := S.G.set i (some (.d x)) }
theorem dg_name {i : Nat} {x : Str} (hN : X.N.Nodup) (hi : X.N[i]? = some x) (hx : Loc X.env.scope x) (hf : X.fn x = true ∨ X.env.scope.names.lookup x = some .local := by first | exact .inl rfl | exact .inr rfl | assumption) : DG X (.Name x pos) [i] (gSet i) := by
  refine ⟨fun pins s σ H v u Q I r ⟨B, S, d, k, R, z, q, f⟩ => ?_⟩
  exact (pg_name hN hi hx hf).run pins s σ H v u Q I r (f _ _ _ (R.setD (r := .d d) z) .rfl (fun vs h => wipe_set (h i (by simp))) (fun _ _ z => z) q)
abbrev DTGs := List PyData → S3 → (S3 → Prop) → Prop
def liftGs (K : PySem.W.Frag) (ts : List Nat) (g : DTGs) : TGs := fun vs σ H Q => ∃ B S xs k, RS K B σ H S ∧ DzA K H vs xs ∧ g xs S k ∧ ∀ σ' H' S', RS K B σ' H' S' → Mono H H' → Left ts σ σ' → (∀ b o, H b = some o → H' b = some o) → k S' → Q σ' H'
def DGs (X : Cx) (ts : List Expr) (us : List Nat) (g : DTGs) : Prop := PGs X ts (liftGs X.K us g)
def gsNil : DTGs := fun xs S k => match xs with
  | [] => k S
  | _ => False
def gsCons (g : DTG) (h : DTGs) : DTGs := fun xs S k => match xs with
  | x :: r => g x S fun S1 => h r S1 k
  | [] => False
theorem dgs_nil : DGs X [] [] gsNil := by
  refine ⟨fun pins s σ H vs us Q I r ⟨B, S, xs, k, R, z, q, f⟩ => ?_⟩
  cases z with
  | nil => exact pgs_nil.run pins s σ H _ _ Q I r ⟨rfl, f _ _ _ R .rfl (fun _ _ => rfl) (fun _ _ z => z) q⟩
  | cons _ _ => exact q.elim
theorem dgs_cons {es : List Expr} {us vs' : List Nat} {g : DTG} {h : DTGs} (h1 : DG X e us g) (h2 : DGs X es vs' h) (hs : (assignEach (e :: es) X.env).map (·.2) = assign e X.env :: (assignEach es X.env).map (·.2) := by rfl) : DGs X (e :: es) (us ++ vs') (gsCons g h) := by
  refine ⟨fun pins s σ H vs ws Q I r ⟨B, S, xs, k, R, z, q, f⟩ => ?_⟩
  cases z with
  | nil => exact q.elim
  | cons z1 z2 =>
    refine (pgs_cons h1 h2 hs).run pins s σ H _ _ Q I r ⟨_, _, rfl, B, S, _, _, R, z1, q, fun σ1 H1 S1 R1 m1 l1 c1 q1 => ?_⟩
    exact ⟨B, S1, _, k, R1, z2.mono m1, q1, fun σ' H' S' R' m' l' c' q' => f σ' H' S' R' (m1.tr m') (fun vs hv => (l' vs fun i hi => hv i (by simp [hi])).trans (l1 vs fun i hi => hv i (by simp [hi]))) (fun b o e => c' b o (c1 b o e)) q'⟩
def gTup3 (h : DTGs) (n : Nat) : DTG := fun x S k => match x with
  | .tuple xs => xs.length = n ∧ h xs S k
  | _ => False
theorem dg_tup {es : List Expr} {us : List Nat} {k0 : Nat} {h : DTGs} {n : Nat} (hc : X.calm = true) (hg : DGs X es us h) (hn : (assignEach es X.env).length = n := by rfl) (hst : (assignEach es X.env).findIdx? (·.1) = none := by rfl) : DG X (.Tuple es k0 pos) us (gTup3 h n) := by
  refine ⟨fun pins s σ H v u Q I r ⟨B, S, x, k, R, z, q, f⟩ => ?_⟩
  cases z with
  | tup h1 h2 => exact (pg_tup hc hg hn hst).run pins s σ H _ u Q I r ⟨_, _, rfl, h1, by rw [h2.len]; exact q.1, B, S, _, k, R, h2, q.2, f⟩
  | _ => exact q.elim
/-- (a, b) = e, e a tuple -/
def dAsg (te : DTE) (g : DTG) : DTS := fun D S e => te S (fun r S1 => match r with
  | .d x => g x S1 D.nx
  | _ => False) e
theorem ds_asg {tg : Expr} {us : List Nat} {g : DTG} (he : DE X W e te) (hg : DG X tg us g) (hs : swapsWithSole [tg] e pos.line X.env = pure false := by rfl) (hw : swappedStores [tg] e X.env = pure none := by rfl)
    (h1 : (assignEach [tg] X.env).map (·.2) = [assign tg X.env] := by rfl) : DS X W (.Assign [tg] e pos) (dAsg te g) :=
  .of (ps_asg he hg hs hw h1) fun σ H B S D er R q hx => liftE.in (t := te) R q hx fun v H1 r S1 R1 m1 rr q1 => by
    match r, rr, q1 with
    | .d x, rr, q1 => exact ⟨B, S1, x, _, R1, rr, q1, fun σ' H' S' R' m' _ _ q' => ⟨S', R', m1.tr m', q'⟩⟩

/-! ### while -/
def dWhile (tc : DTT) (tb : DTS) : DTS := fun D S e => ∃ I : Nat → S3 → Prop, (∃ m, I m S) ∧ ∀ m S, I m S →
  tc S (fun b S1 => iteB b (tb { D with nx := fun S2 => ∃ m', m' < m ∧ I m' S2, ct := fun S2 => ∃ m', m' < m ∧ I m' S2, bk := D.nx } S1 e) (D.nx S1)) e
theorem ds_while {c : Expr} {body : List Stmt} {tc : DTT} (hp : PassesOwn (model X.prog X.w) X.A X.env X.xe) (hc : DT X W c tc) (hb : DSs X W body t) : DS X W (.While c body [] pos) (dWhile tc t) :=
  .of (ps_while hp hc hb) fun σ H B S D er R q hx => by
    obtain ⟨I, ⟨m0, i0⟩, turn⟩ := q
    refine ⟨fun m σ2 H2 => ∃ S, RS X.K B σ2 H2 S ∧ Mono H H2 ∧ I m S, ⟨m0, S, R, .rfl, i0⟩, ?_⟩
    rintro m σ1 H1 ⟨S1, R1, m1, i1⟩
    refine liftT.in (t := tc) R1 (turn m S1 i1) hx fun z H2 S2 R2 m2 q2 => ?_
    cases z with
    | true =>
      refine ⟨fun σ' H' => ∃ m', m' < m ∧ ∃ S, RS X.K B σ' H' S ∧ Mono H H' ∧ I m' S, fun σ' H' ⟨m', l, z⟩ => ⟨m', l, z⟩, ?_⟩
      exact liftS.in (t := t) R2 q2 hx (fun σ' H' ⟨S', R', k', m', l, z⟩ => ⟨m', l, S', R', (m1.tr m2).tr k', z⟩) (fun _ _ z => z) (fun σ' H' ⟨S', R', k', z⟩ => ⟨S', R', (m1.tr m2).tr k', z⟩) (fun σ' H' ⟨S', R', k', m', l, z⟩ => ⟨m', l, S', R', (m1.tr m2).tr k', z⟩)
    | false => exact ⟨S2, R2, m1.tr m2, q2⟩

/-! ### for over data -/
def dLoop (g : DTG) (tb : DTS) (D : DEnds) (e : ED) : List PyData → S3 → Prop
  | [], S => D.nx S
  | x :: xs, S => g x S fun S1 => tb { D with nx := dLoop g tb D e xs, ct := dLoop g tb D e xs, bk := D.nx } S1 e
theorem dLoop_nil {g : DTG} {tb : DTS} {D : DEnds} {e : ED} {S : S3} : dLoop g tb D e [] S = D.nx S := rfl
theorem dLoop_cons {g : DTG} {tb : DTS} {D : DEnds} {e : ED} {x : PyData} {xs : List PyData} {S : S3} : dLoop g tb D e (x :: xs) S = g x S fun S1 => tb { D with nx := dLoop g tb D e xs, ct := dLoop g tb D e xs, bk := D.nx } S1 e := rfl
/-- the turn of a loop, begun at Hb -/
theorem loop_turn {K : PySem.W.Frag} {Hb : Hp} {us : List Nat} {g : DTG} {t : DTS} {D : DEnds} {er : ED} {x : PyData} {xs : List PyData} (hx : HX K W B er) {v : V} (mb : Mono Hb H) (R : RS K B σ H S) (z : Dz K H v x) (q : dLoop g t D er (x :: xs) S) {N : L2.St → Hp → Prop} (hN : ∀ σ' H' S', RS K B σ' H' S' → Mono H H' → dLoop g t D er xs S' → N σ' H') :
    liftG K us g v σ H fun σ2 H2 => liftS K W t { KS K B Hb D with nx := N, ct := N, bk := (KS K B Hb D).nx } σ2 H2 := by
  refine ⟨B, S, x, _, R, z, q, fun σ' H' S' R' m' _ _ q' => ?_⟩
  exact liftS.in (t := t) R' q' hx (fun σ2 H2 ⟨S2, R2, k2, z2⟩ => hN σ2 H2 S2 R2 (m'.tr k2) z2) (fun _ _ z => z) (fun σ2 H2 ⟨S2, R2, k2, z2⟩ => ⟨S2, R2, (mb.tr m').tr k2, z2⟩) (fun σ2 H2 ⟨S2, R2, k2, z2⟩ => hN σ2 H2 S2 R2 (m'.tr k2) z2)
end
end
end D3
/-! D3e: for over data and ranges; subscripts; built-ins. -/
namespace D3
open PySem PySem.Spec PyProof.Rows L2
section
variable [Tb]
section
variable {X : Cx} {W : WX} {us : List Nat} {st : Stmt} {e a b tg : Expr} {es : List Expr} {body : List Stmt} {te ta tb : DTE} {t : DTS} {g : DTG} {pos p p2 : Pos} {x : Str}

/-! ### for -/
def itemsD : PyData → Option (List PyData)
  | .list xs => some xs
  | .tuple xs => some xs
  | _ => none
def dFor (te : DTE) (g : DTG) (tb : DTS) : DTS := fun D S e => te S (fun r S1 => match r with
  | .d (.list xs) => dLoop g tb D e xs S1
  | .d (.tuple xs) => dLoop g tb D e xs S1
  | _ => False) e
/-- what a walk over a list or a tuple asks -/
def iSeq (K : PySem.W.Frag) (tl : TE) : TI := fun σ H R => tl σ H fun x H1 => ∃ a, x = .ref a ∧ (((∃ xs, SqL K H1 a xs) ∧ R (Itl K a) H1) ∨ ((∃ xs, SqT K H1 a xs) ∧ R (Itt K a) H1))
theorem pi_seq {l : Expr} {tl : TE} (hl : PE X l tl) : PI X tg l (iSeq X.K tl) := by
  refine ⟨fun pins s σ H R I h => thn (hl.run pins s σ H _ I h) fun v s1 ⟨y, H1, I1, r1, adr, e1, q⟩ => ?_⟩
  subst e1
  cases r1
  have it0 : ∀ {o : Obj}, (∀ c u, s1.heap.get? c = some u → (s1.heap.push o).get? c = some u) := fun c u z => Heap.get?_push_of_some _ z
  have fresh : ∀ {o : Obj}, ∀ c ∈ [s1.heap.objs.size], FpOk X pins H1 c := fun c hc => by
    cases List.mem_singleton.mp hc
    exact I1.fpOk (Nat.le_refl _) (I1.hok.fresh (Nat.le_refl _))
  rcases q with ⟨⟨xs, hq⟩, q⟩ | ⟨⟨xs, hq⟩, q⟩
  · obtain ⟨its, rv, pl, _⟩ := I1.list hq
    exact wpAny_pyIter_list pl.isList ⟨_, [s1.heap.objs.size], _, _, H1, rfl, I1.kept (t' := s1.toks) it0, turn_list adr _, ⟨_, Heap.get?_push_size _ rfl, rfl, rfl⟩, fresh (o := default), q⟩
  · obtain ⟨its, rv, pl, _⟩ := I1.tuple hq
    exact wpAny_pyIter_tuple (show s1.heap.IsTuple adr its.toArray from pl) ⟨_, [s1.heap.objs.size], _, _, H1, rfl, I1.kept (t' := s1.toks) it0, turn_tuple adr _, ⟨_, Heap.get?_push_size _ rfl, rfl, rfl⟩, fresh (o := default), q⟩
theorem sqL_mono {K : PySem.W.Frag} {H H' : Hp} (m : Mono H H') {a : Addr} {xs : List V} (h : FzL K H a xs) : SqL K H' a xs := (h.mono m).sq
theorem drop_of {α : Type} {xs : List α} {i : Nat} {x : α} (h : xs[i]? = some x) : xs.drop i = x :: xs.drop (i + 1) := by
  obtain ⟨hl, e⟩ := List.getElem?_eq_some_iff.mp h
  rw [← e]
  exact List.drop_eq_getElem_cons hl
/-- the walk's invariant: from the turn i on these items are left -/
def LoopI (K : PySem.W.Frag) (B : B3) (g : DTG) (t : DTS) (D : DEnds) (er : ED) (H1 : Hp) (xs : List PyData) (i : Nat) (σ2 : L2.St) (H2 : Hp) : Prop := ∃ S2, RS K B σ2 H2 S2 ∧ Mono H1 H2 ∧ dLoop g t D er (xs.drop i) S2
theorem loop_step {K : PySem.W.Frag} {B : B3} {D : DEnds} {er : ED} {Hb H1 : Hp} {xs : List PyData} (hx : HX K W B er) (m : Mono Hb H1) {i : Nat} {v : V} {σ2 : L2.St} {H2 : Hp} {x : PyData} (e : xs[i]? = some x) (z : ∀ H2, Mono H1 H2 → Dz K H2 v x) (h : LoopI K B g t D er H1 xs i σ2 H2) :
    liftG K us g v σ2 H2 fun σ3 H3 => liftS K W t { KS K B Hb D with nx := LoopI K B g t D er H1 xs (i + 1), ct := LoopI K B g t D er H1 xs (i + 1), bk := (KS K B Hb D).nx } σ3 H3 := by
  obtain ⟨S2, R2, m2, q2⟩ := h
  rw [drop_of e] at q2
  exact loop_turn hx (m.tr m2) R2 (z _ m2) q2 fun σ' H' S' R' m' q' => ⟨S', R', m2.tr m', q'⟩
theorem loop_done {K : PySem.W.Frag} {B : B3} {D : DEnds} {er : ED} {Hb H1 : Hp} {xs : List PyData} (m : Mono Hb H1) {n : Nat} (hn : n = xs.length) {σ2 : L2.St} {H2 : Hp} (h : LoopI K B g t D er H1 xs n σ2 H2) : (KS K B Hb D).nx σ2 H2 := by
  obtain ⟨S2, R2, m2, q2⟩ := h
  subst hn
  rw [List.drop_length] at q2
  exact ⟨S2, R2, m.tr m2, q2⟩
theorem ds_for (hp : PassesOwn (model X.prog X.w) X.A X.env X.xe) (hc : X.calm = true) (he : DE X W e te) (hg : DG X tg us g) (hb : DSs X W body t) (hs : ∀ x, foldedSetIterable e X.env x = pure x := by intro _; rfl) : DS X W (.For tg e body [] pos) (dFor te g t) :=
  .of (ps_for hp hc (pi_seq he) hg hb hs) fun σ H B S D er R q hx => liftE.in (t := te) R q hx fun v H1 r S1 R1 m1 rr q1 => by
    match r, rr, q1 with
    | .d (.list xs), rr, q1 =>
      cases (show Dz _ _ _ _ from rr) with
      | @lst a vs ds h1 h2 =>
        refine ⟨a, rfl, .inl ⟨⟨vs, sqL_mono .rfl h1⟩, for_list (K := X.K) (a := a) (xs := vs) (LoopI X.K B g t D er H1 xs) ⟨S1, R1, .rfl, q1⟩ (fun i σ2 H2 _ ⟨_, _, m2, _⟩ => sqL_mono m2 h1) (fun i v σ2 H2 e h => ?_) fun σ2 H2 h => loop_done m1 h2.len h⟩⟩
        obtain ⟨d, e2, z⟩ := h2.getV e
        exact loop_step hx m1 e2 (fun H2 m2 => Dz.mono m2 _ _ z) h
    | .d (.tuple xs), rr, q1 =>
      cases (show Dz _ _ _ _ from rr) with
      | @tup a vs ds h1 h2 =>
        refine ⟨a, rfl, .inr ⟨⟨vs, h1⟩, for_tup (K := X.K) (a := a) (xs := vs) (LoopI X.K B g t D er H1 xs) ⟨S1, R1, .rfl, q1⟩ (fun i σ2 H2 _ ⟨_, _, m2, _⟩ => sqT_mono m2 h1) (fun i v σ2 H2 e h => ?_) fun σ2 H2 h => loop_done m1 h2.len h⟩⟩
        obtain ⟨d, e2, z⟩ := h2.getV e
        exact loop_step hx m1 e2 (fun H2 m2 => Dz.mono m2 _ _ z) h
/-- lo, lo + 1, .. -/
def rangeD (lo : Int) : Nat → List PyData
  | 0 => []
  | n + 1 => .int lo :: rangeD (lo + 1) n
theorem rangeD_len (n : Nat) : ∀ lo : Int, (rangeD lo n).length = n := by
  induction n with
  | zero => intro lo; rfl
  | succ n ih => intro lo; rw [rangeD, List.length_cons, ih]
theorem rangeD_get (n : Nat) : ∀ (lo : Int) (i : Nat), i < n → (rangeD lo n)[i]? = some (.int (lo + i)) := by
  induction n with
  | zero => intro lo i h; omega
  | succ n ih =>
    intro lo i h
    cases i with
    | zero => simp [rangeD]
    | succ i =>
      rw [rangeD, List.getElem?_cons_succ, ih (lo + 1) i (by omega)]
      simp only [Option.some.injEq, PyData.int.injEq]
      omega
def inR (j : Int) : Prop := -(2 ^ 62) ≤ j ∧ j < 2 ^ 62
def dForR1 (ta : DTE) (g : DTG) (tb : DTS) : DTS := fun D S e => ta S (fun r S1 => match r with
  | .d (.int j) => inR j ∧ dLoop g tb D e (rangeD 0 j.toNat) S1
  | _ => False) e
def dForR2 (ta tb' : DTE) (g : DTG) (tb : DTS) : DTS := fun D S e => ta S (fun r S1 => tb' S1 (fun r' S2 => match r, r' with
  | .d (.int i), .d (.int j) => inR i ∧ inR j ∧ dLoop g tb D e (rangeD i (j - i).toNat) S2
  | _, _ => False) e) e
theorem ds_forR1 (hp : PassesOwn (model X.prog X.w) X.A X.env X.xe) (hc : X.calm = true) (hgl : Gl X "range") (hm : X.mg "range" = none) (ha : DE X W a ta) (hg : DG X tg us g) (hb : DSs X W body t)
    (hA : starEach [a] X.env = (false, eval a X.env) :: starEach [] X.env := by rfl) (hA2 : starEach [a] X.env = [(false, eval a X.env)] := by rfl)
    (hs : ∀ x, foldedSetIterable (.Call (.Name "range" p) [a] [] p2) X.env x = pure x := by intro _; rfl) : DS X W (.For tg (.Call (.Name "range" p) [a] [] p2) body [] pos) (dForR1 ta g t) :=
  .of (ps_for hp hc (pi_range1 hgl hm (da_cons (W := W) ha da_nil hA) hA2) hg hb hs) fun σ H B S D er R q hx =>
    liftA.in (t := dCons ta dNil) (k := fun rs S1 => ∃ j, rs = [.d (.int j)] ∧ inR j ∧ dLoop g t D er (rangeD 0 j.toNat) S1) R (by
      show ta S (fun r S1 => ∃ j, [r] = [SV.d (.int j)] ∧ inR j ∧ dLoop g t D er (rangeD 0 j.toNat) S1) er
      refine cast (congrArg (fun k => ta S k er) (funext fun r => funext fun S1 => propext ?_)) q
      constructor
      · intro z
        match r, z with
        | .d (.int j), z => exact ⟨j, rfl, z⟩
      · rintro ⟨j, e, z⟩
        cases e
        exact z) hx fun vs H1 rs S1 R1 m1 rrs q1 => by
      obtain ⟨j, rfl, ⟨j1, j2⟩, q1⟩ := q1
      cases rrs with
      | cons r1 rr =>
        cases rr
        cases (show Dz _ _ _ _ from r1)
        refine ⟨j, rfl, j1, j2, for_range (lo := 0) (n := j.toNat) (LoopI X.K B g t D er H1 (rangeD 0 j.toNat)) ⟨S1, R1, .rfl, q1⟩ (fun i σ2 H2 hi h => ?_) fun σ2 H2 h => loop_done m1 (rangeD_len _ _).symm h⟩
        exact loop_step hx m1 (rangeD_get _ _ _ hi) (fun _ _ => Dz.int _) h
theorem ds_forR2 (hp : PassesOwn (model X.prog X.w) X.A X.env X.xe) (hc : X.calm = true) (hgl : Gl X "range") (hm : X.mg "range" = none) (ha : DE X W a ta) (hb' : DE X W b tb) (hg : DG X tg us g) (hb : DSs X W body t)
    (hA : starEach [a, b] X.env = (false, eval a X.env) :: starEach [b] X.env := by rfl) (hB : starEach [b] X.env = (false, eval b X.env) :: starEach [] X.env := by rfl) (hA2 : starEach [a, b] X.env = [(false, eval a X.env), (false, eval b X.env)] := by rfl) (hB2 : starEach [b] X.env = [(false, eval b X.env)] := by rfl)
    (hs : ∀ x, foldedSetIterable (.Call (.Name "range" p) [a, b] [] p2) X.env x = pure x := by intro _; rfl) : DS X W (.For tg (.Call (.Name "range" p) [a, b] [] p2) body [] pos) (dForR2 ta tb g t) :=
  .of (ps_for hp hc (pi_range2 hgl hm (da_cons (W := W) ha (da_cons hb' da_nil hB) hA) hA2 hB2) hg hb hs) fun σ H B S D er R q hx =>
    liftA.in (t := dCons ta (dCons tb dNil)) (k := fun rs S1 => ∃ i j, rs = [.d (.int i), .d (.int j)] ∧ inR i ∧ inR j ∧ dLoop g t D er (rangeD i (j - i).toNat) S1) R (by
      show ta S (fun r S1 => tb S1 (fun r' S2 => ∃ i j, [r, r'] = [SV.d (.int i), SV.d (.int j)] ∧ inR i ∧ inR j ∧ dLoop g t D er (rangeD i (j - i).toNat) S2) er) er
      refine cast (congrArg (fun k => ta S k er) (funext fun r => funext fun S1 => congrArg (fun k => tb S1 k er) (funext fun r' => funext fun S2 => propext ?_))) q
      constructor
      · intro z
        match r, r', z with
        | .d (.int i), .d (.int j), z => exact ⟨i, j, rfl, z⟩
      · rintro ⟨i, j, e, z⟩
        cases e
        exact z) hx fun vs H1 rs S1 R1 m1 rrs q1 => by
      obtain ⟨i, j, rfl, ⟨i1, i2⟩, ⟨j1, j2⟩, q1⟩ := q1
      cases rrs with
      | cons r1 rr =>
        cases rr with
        | cons r2 rr =>
          cases rr
          cases (show Dz _ _ _ _ from r1)
          cases (show Dz _ _ _ _ from r2)
          refine ⟨i, j, rfl, ⟨i1, i2, j1, j2⟩, for_range (lo := i) (n := (j - i).toNat) (LoopI X.K B g t D er H1 (rangeD i (j - i).toNat)) ⟨S1, R1, .rfl, q1⟩ (fun n σ2 H2 hi h => ?_) fun σ2 H2 h => loop_done m1 (rangeD_len _ _).symm h⟩
          exact loop_step hx m1 (rangeD_get _ _ _ hi) (fun _ _ => Dz.int _) h

/-! ### a[i] -/
def atK (xs : List PyData) (i : Int) (k : SV → Prop) : Prop := match atI xs i with
  | some d => k (.d d)
  | none => False
def gIx : SV → SV → (SV → Prop) → Prop := fun x y k => match x, y with
  | .d (.list xs), .d (.int i) => atK xs i k
  | .d (.tuple xs), .d (.int i) => atK xs i k
  | _, _ => False
theorem atI_len {α β : Type} {xs : List α} {ys : List β} (h : xs.length = ys.length) {i : Int} {x : α} (e : atI xs i = some x) : ∃ j : Nat, xs[j]? = some x ∧ ∀ y, ys[j]? = some y → atI ys i = some y := by
  unfold atI at e
  cases q : ixN xs.length i with
  | none => rw [q] at e; cases e
  | some j =>
    rw [q] at e
    exact ⟨j, e, fun y z => by unfold atI; rw [← h, q]; exact z⟩
theorem oIx {value slice : Expr} {pins : List (Addr × Obj)} {s : Shared} {σ : L2.St} {H : Hp} {B : B3} {S : S3} {x y : SV} {vx vy : V} {v u : Value} {k : SV → Prop} (I : Inv X pins σ H s) (R : RS X.K B σ H S) (a : RR X.K B H x vx) (rx : RelV vx v) (b : RR X.K B H y vy) (ry : RelV vy u)
    (q : gIx x y k) (hs : subscripted slice false v u = operate [v, u] (getItem v u)) : wpAny (model X.prog X.w) X.A (subscriptTail value slice v u) (EP X pins σ (KD X.K B σ H fun r S' => S' = S ∧ k r)) X.xe s := by
  match x, y, a, b, q with
  | .d (.list xs), .d (.int i), a, b, q =>
    cases (show Dz _ _ _ _ from b)
    cases (show Dz _ _ _ _ from a) with
    | lst h1 h2 =>
      have q : atK xs i k := q
      unfold atK at q
      split at q
      · rename_i d e
        obtain ⟨j, e1, e2⟩ := atI_len (ys := _) h2.len.symm e
        obtain ⟨w, e3, z⟩ := h2.get e1
        exact ix_list value slice pins s σ H _ _ v u _ I rx ry ⟨_, _, _, w, rfl, rfl, h1.sq, e2 w e3, .d d, S, R, .rfl, z, rfl, q⟩ hs
      · exact q.elim
  | .d (.tuple xs), .d (.int i), a, b, q =>
    cases (show Dz _ _ _ _ from b)
    cases (show Dz _ _ _ _ from a) with
    | tup h1 h2 =>
      have q : atK xs i k := q
      unfold atK at q
      split at q
      · rename_i d e
        obtain ⟨j, e1, e2⟩ := atI_len (ys := _) h2.len.symm e
        obtain ⟨w, e3, z⟩ := h2.get e1
        exact ix_tup value slice pins s σ H _ _ v u _ I rx ry ⟨_, _, _, w, rfl, rfl, h1, e2 w e3, .d d, S, R, .rfl, z, rfl, q⟩ hs
      · exact q.elim
theorem d_ix (ha : DE X W a ta) (hb : DE X W b tb) (hs : PlainIx b) : DE X W (.Subscript a b pos) (dBin gIx ta tb) := by
  refine .mk fun pins s σ H B S k er I R q hx => ?_
  exact Subscript_ (d_two ha hb I R q hx fun v u s2 x y vx vy H2 S2 I2 R2 m c d e f q2 => thn (oIx I2 R2 c d e f q2 (hs _ _)) fun w s3 h => EP.kd m h)
/-- x[i], x a name that holds data, a list of its own, or a cell -/
def hasG (S : S3) (i : Nat) : Prop := match S.G[i]? with
  | some (some _) => True
  | _ => False
def dIxV (i : Nat) (tb : DTE) : DTE := fun S k e => hasG S i ∧ tb S (fun r S1 => match S1.G[i]?, r with
  | some (some (.own xs)), .d (.int j) => atK xs j fun r => k r S1
  | some (some (.cell n)), .d (.int j) => match S1.C[n]? with
    | some xs => atK xs j fun r => k r S1
    | none => False
  | some (some (.d (.list xs))), .d (.int j) => atK xs j fun r => k r S1
  | some (some (.d (.tuple xs))), .d (.int j) => atK xs j fun r => k r S1
  | _, _ => False) e
theorem atK_ix {K : PySem.W.Frag} {H : Hp} {B : B3} {σ : L2.St} {S : S3} {H0 : Hp} {xs : List PyData} {vs : List V} {j : Int} {k : SV → S3 → Prop} (R : RS K B σ H S) (m : Mono H0 H) (z : DzA K H vs xs) (q : atK xs j fun r => k r S) : ∃ w, atI vs j = some w ∧ KD K B σ H0 k w H := by
  unfold atK at q
  split at q
  · rename_i d e
    obtain ⟨n, e1, e2⟩ := atI_len (ys := vs) z.len.symm e
    obtain ⟨w, e3, z1⟩ := z.get e1
    exact ⟨w, e2 w e3, .d d, S, R, m, z1, q⟩
  · exact q.elim
theorem d_ixV {i : Nat} (hN : X.N[i]? = some x) (hv : Vis X.env.scope x) (hb : DE X W b tb) (hs : PlainIx b) (hd : (x == ("__debug__" : Str)) = false := by decide) (hcd : (x == ("__classdict__" : Str)) = false := by decide) : DE X W (.Subscript (.Name x p) b pos) (dIxV i tb) := by
  refine .of (pe_ix (ix_list.or ix_tup) (pe_var (i := i) hN hv hd hcd) hb hs) fun σ H B S k er R q hx => ?_
  obtain ⟨hg, q⟩ := q
  obtain ⟨vx, hσ⟩ : ∃ vx, σ[i]? = some (some vx) := by
    unfold hasG at hg
    split at hg
    · rename_i r e
      obtain ⟨v, h, _⟩ := R.slot i r e
      exact ⟨v, h⟩
    · exact hg.elim
  refine ⟨vx, hσ, liftE.in (t := tb) R q hx fun v H1 r S1 R1 m1 rr q1 => ?_⟩
  have slot : ∀ r, S1.G[i]? = some (some r) → SR X.K B H1 r vx := fun r e => by
    obtain ⟨w, h1, h2⟩ := R1.slot i r e
    rw [hσ] at h1
    cases h1
    exact h2
  split at q1
  · rename_i xs j e
    cases (show Dz _ _ _ _ from rr)
    obtain ⟨a, vs, e1, h1, z, _⟩ := slot _ e
    obtain ⟨w, e2, kd⟩ := atK_ix R1 m1 z q1
    exact .inl ⟨a, vs, j, w, e1, rfl, .of h1, e2, kd⟩
  · rename_i n j e
    cases (show Dz _ _ _ _ from rr)
    obtain ⟨a, e1, e2⟩ := slot _ e
    split at q1
    · rename_i xs e3
      obtain ⟨vs, h1, z⟩ := R1.cell n a xs e1 e3
      obtain ⟨w, e4, kd⟩ := atK_ix R1 m1 z q1
      exact .inl ⟨a, vs, j, w, e2, rfl, .of h1, e4, kd⟩
    · exact q1.elim
  · rename_i xs j e
    cases (show Dz _ _ _ _ from rr)
    cases (show Dz _ _ _ _ from slot _ e) with
    | lst h1 z =>
      obtain ⟨w, e2, kd⟩ := atK_ix R1 m1 z q1
      exact .inl ⟨_, _, j, w, rfl, rfl, h1.sq, e2, kd⟩
  · rename_i xs j e
    cases (show Dz _ _ _ _ from rr)
    cases (show Dz _ _ _ _ from slot _ e) with
    | tup h1 z =>
      obtain ⟨w, e2, kd⟩ := atK_ix R1 m1 z q1
      exact .inr ⟨_, _, j, w, rfl, rfl, h1, e2, kd⟩
  · exact q1.elim

/-! ### built-ins by data -/
def CallD (X : Cx) (f : Value) (g : List SV → (SV → Prop) → Prop) : Prop :=
  ∀ pins s σ H B S (rs : List SV) (vs : List V) (us : List Value) (k : SV → Prop), Inv X pins σ H s → RS X.K B σ H S → RRs X.K B H rs vs → Vals vs us → g rs k →
    wpAny (model X.prog X.w) X.A (call f us) (EP X pins σ (KD X.K B σ H fun r S' => S' = S ∧ k r)) X.xe s
theorem CallD.of {f : Value} {r : List V → Hp → VK → Prop} {g : List SV → (SV → Prop) → Prop} (ho : CallR X f r)
    (h : ∀ σ H B S rs vs k, RS X.K B σ H S → RRs X.K B H rs vs → g rs k → r vs H (KD X.K B σ H fun r S' => S' = S ∧ k r)) : CallD X f g :=
  fun pins s σ H B S rs vs us k I R a b q => ho pins s σ H vs us _ I b (h σ H B S rs vs k R a q)
def dB (g : List SV → (SV → Prop) → Prop) (ta : DTA) : DTE := fun S k e => ta S (fun rs S1 => g rs fun r => k r S1) e
theorem d_callB {id : String} {g : List SV → (SV → Prop) → Prop} {ta : DTA} (hc : CallD X (.builtin id) g) (hg : Gl X x) (hm : X.mg x = none) (hv : bootBuiltins x = some (.builtin id)) (ha : DA X W (e :: es) ta) (hn : x ≠ "__name__" := by decide) (hdb : (x == ("__debug__" : Str)) = false := by decide)
    (he : starEach (e :: es) X.env = (false, eval e X.env) :: starEach es X.env := by rfl) (hpl : (backTo pos (starEach es X.env)).any (·.1) = false := by rfl) : DE X W (.Call (.Name x p) (e :: es) [] pos) (dB g ta) := by
  refine .mk fun pins s σ H B S k er I R q hx => ?_
  refine wpAny_Call_Name_kw (ld_blt I hg hm hv ?_ hn hdb)
  exact PyProof.Rows.callWith_builtin1 (thn (ha.go I R q hx) fun us s1 ⟨vs, H1, I1, rv, rs, S1, R1, m1, rr, q1⟩ => thn (hc pins s1 σ H1 B S1 rs vs us _ I1 R1 rr rv q1) fun w s3 h => EP.kd m1 h) he hpl
theorem d_callTy {T : String} {g : List SV → (SV → Prop) → Prop} {ta : DTA} (hc : CallD X (.type T) g) (hg : Gl X x) (hm : X.mg x = none) (hv : bootBuiltins x = some (.type T)) (ha : DA X W (e :: es) ta) (hn : x ≠ "__name__" := by decide) (hdb : (x == ("__debug__" : Str)) = false := by decide)
    (he : starEach (e :: es) X.env = (false, eval e X.env) :: starEach es X.env := by rfl) (hpl : (backTo pos (starEach es X.env)).any (·.1) = false := by rfl) : DE X W (.Call (.Name x p) (e :: es) [] pos) (dB g ta) := by
  refine .mk fun pins s σ H B S k er I R q hx => ?_
  refine wpAny_Call_Name_kw (ld_blt I hg hm hv ?_ hn hdb)
  exact PyProof.Rows.callWith_type1 (thn (ha.go I R q hx) fun us s1 ⟨vs, H1, I1, rv, rs, S1, R1, m1, rr, q1⟩ => thn (hc pins s1 σ H1 B S1 rs vs us _ I1 R1 rr rv q1) fun w s3 h => EP.kd m1 h) he hpl
theorem RRs.one {K : PySem.W.Frag} {B : B3} {H : Hp} {r : SV} {vs : List V} (h : RRs K B H [r] vs) : ∃ v, vs = [v] ∧ RR K B H r v := by
  cases h with
  | cons a t =>
    cases t
    exact ⟨_, rfl, a⟩
theorem RRs.two {K : PySem.W.Frag} {B : B3} {H : Hp} {r q : SV} {vs : List V} (h : RRs K B H [r, q] vs) : ∃ v w, vs = [v, w] ∧ RR K B H r v ∧ RR K B H q w := by
  cases h with
  | cons a t =>
    cases t with
    | cons b t =>
      cases t
      exact ⟨_, _, rfl, a, b⟩
/-- abs -/
def gAbs : List SV → (SV → Prop) → Prop := fun rs k => match rs with
  | [.d (.int i)] => k (.d (.int (if i < 0 then -i else i)))
  | _ => False
theorem cAbs : CallD X (.builtin "abs") gAbs := .of call_abs fun σ H B S rs vs k R a q => by
  unfold gAbs at q
  split at q
  · obtain ⟨v, rfl, z⟩ := a.one
    cases (show Dz _ _ _ _ from z)
    exact ⟨_, rfl, .d (.int _), S, R, .rfl, Dz.int _, rfl, q⟩
  · exact q.elim
/-- len -/
def gLen : List SV → (SV → Prop) → Prop := fun rs k => match rs with
  | [.d (.list xs)] => k (.d (.int xs.length))
  | [.d (.tuple xs)] => k (.d (.int xs.length))
  | [.d (.str z)] => z.length ≤ sizeLine ∧ k (.d (.int z.length))
  | _ => False
theorem cLen : CallD X (.builtin "len") gLen := .of call_len fun σ H B S rs vs k R a q => by
  unfold gLen at q
  split at q
  · obtain ⟨v, rfl, z⟩ := a.one
    cases (show Dz _ _ _ _ from z) with
    | lst h1 h2 => exact ⟨_, _, rfl, .inl ⟨_, h1.sq, rfl⟩, .d (.int _), S, R, .rfl, by rw [h2.len]; exact Dz.int _, rfl, q⟩
  · obtain ⟨v, rfl, z⟩ := a.one
    cases (show Dz _ _ _ _ from z) with
    | tup h1 h2 => exact ⟨_, _, rfl, .inr ⟨_, h1, rfl⟩, .d (.int _), S, R, .rfl, by rw [h2.len]; exact Dz.int _, rfl, q⟩
  · obtain ⟨v, rfl, z⟩ := a.one
    cases (show Dz _ _ _ _ from z)
    exact ⟨_, _, rfl, ⟨q.1, rfl⟩, .d (.int _), S, R, .rfl, Dz.int _, rfl, q.2⟩
  · exact q.elim
/-- max, min of two ints -/
def gMax2 : List SV → (SV → Prop) → Prop := fun rs k => match rs with
  | [.d (.int i), .d (.int j)] => k (.d (.int (if j > i then j else i)))
  | _ => False
def gMin2 : List SV → (SV → Prop) → Prop := fun rs k => match rs with
  | [.d (.int i), .d (.int j)] => k (.d (.int (if j < i then j else i)))
  | _ => False
theorem cMax2 (hc : X.calm = true) : CallD X (.builtin "max") gMax2 := .of (call_max2 hc) fun σ H B S rs vs k R a q => by
  unfold gMax2 at q
  split at q
  · obtain ⟨v, w, rfl, z, z'⟩ := a.two
    cases (show Dz _ _ _ _ from z)
    cases (show Dz _ _ _ _ from z')
    exact ⟨_, _, rfl, .d (.int _), S, R, .rfl, Dz.int _, rfl, q⟩
  · exact q.elim
theorem cMin2 (hc : X.calm = true) : CallD X (.builtin "min") gMin2 := .of (call_min2 hc) fun σ H B S rs vs k R a q => by
  unfold gMin2 at q
  split at q
  · obtain ⟨v, w, rfl, z, z'⟩ := a.two
    cases (show Dz _ _ _ _ from z)
    cases (show Dz _ _ _ _ from z')
    exact ⟨_, _, rfl, .d (.int _), S, R, .rfl, Dz.int _, rfl, q⟩
  · exact q.elim
/-- int(b), int(n) -/
def gInt : List SV → (SV → Prop) → Prop := fun rs k => match rs with
  | [.d (.int i)] => k (.d (.int i))
  | [.d (.bool b)] => k (.d (.int (if b then 1 else 0)))
  | _ => False
theorem cInt : CallD X (.type "int") gInt := .of call_int1 fun σ H B S rs vs k R a q => by
  unfold gInt at q
  split at q
  · obtain ⟨v, rfl, z⟩ := a.one
    cases (show Dz _ _ _ _ from z)
    exact .inl ⟨_, rfl, .d (.int _), S, R, .rfl, Dz.int _, rfl, q⟩
  · obtain ⟨v, rfl, z⟩ := a.one
    cases (show Dz _ _ _ _ from z)
    exact .inr ⟨_, rfl, .d (.int _), S, R, .rfl, Dz.int _, rfl, q⟩
  · exact q.elim
/-- str(n) -/
def gStrI : List SV → (SV → Prop) → Prop := fun rs k => match rs with
  | [.d (.int i)] => i.natAbs.log2 < 1920 ∧ k (.d (.str (toString i)))
  | _ => False
theorem cStrI : CallD X (.type "str") gStrI := .of call_str_int fun σ H B S rs vs k R a q => by
  unfold gStrI at q
  split at q
  · obtain ⟨v, rfl, z⟩ := a.one
    cases (show Dz _ _ _ _ from z)
    exact ⟨_, rfl, q.1, .d (.str _), S, R, .rfl, Dz.str _, rfl, q.2⟩
  · exact q.elim
/-- all, any, sum of data -/
def boolsD : List PyData → Option (List Bool)
  | [] => some []
  | .bool b :: r => match boolsD r with
    | some bs => some (b :: bs)
    | none => none
  | _ :: _ => none
theorem boolsD_v {K : PySem.W.Frag} {H : Hp} : ∀ {xs : List PyData} {vs : List V} {bs : List Bool}, DzA K H vs xs → boolsD xs = some bs → vs = bs.map V.bl
  | [], _, _, h, e => by
    cases h
    cases e
    rfl
  | .bool b :: r, _, bs, h, e => by
    cases h with
    | cons h1 h2 =>
      cases h1
      unfold boolsD at e
      split at e
      · rename_i bs' e2
        cases e
        rw [boolsD_v h2 e2]
        rfl
      · cases e
  | .none :: _, _, _, _, e => nomatch e
  | .int _ :: _, _, _, _, e => nomatch e
  | .str _ :: _, _, _, _, e => nomatch e
  | .list _ :: _, _, _, _, e => nomatch e
  | .tuple _ :: _, _, _, _, e => nomatch e
  | .dict _ :: _, _, _, _, e => nomatch e
theorem boolsD_map (bs : List Bool) : boolsD (bs.map .bool) = some bs := by
  induction bs with
  | nil => rfl
  | cons b r ih => simp [boolsD, ih]
def intsD : List PyData → Option (List Int)
  | [] => some []
  | .int b :: r => match intsD r with
    | some bs => some (b :: bs)
    | none => none
  | _ :: _ => none
theorem intsD_v {K : PySem.W.Frag} {H : Hp} : ∀ {xs : List PyData} {vs : List V} {bs : List Int}, DzA K H vs xs → intsD xs = some bs → vs = bs.map V.int
  | [], _, _, h, e => by
    cases h
    cases e
    rfl
  | .int b :: r, _, bs, h, e => by
    cases h with
    | cons h1 h2 =>
      cases h1
      unfold intsD at e
      split at e
      · rename_i bs' e2
        cases e
        rw [intsD_v h2 e2]
        rfl
      · cases e
  | .none :: _, _, _, _, e => nomatch e
  | .bool _ :: _, _, _, _, e => nomatch e
  | .str _ :: _, _, _, _, e => nomatch e
  | .list _ :: _, _, _, _, e => nomatch e
  | .tuple _ :: _, _, _, _, e => nomatch e
  | .dict _ :: _, _, _, _, e => nomatch e
theorem intsD_map (bs : List Int) : intsD (bs.map .int) = some bs := by
  induction bs with
  | nil => rfl
  | cons b r ih => simp [intsD, ih]
def gAll : List SV → (SV → Prop) → Prop := fun rs k => match rs with
  | [.d (.list xs)] => ∃ bs, boolsD xs = some bs ∧ k (.d (.bool (bs.all id)))
  | _ => False
theorem cAll (hc : X.calm = true) : CallD X (.builtin "all") gAll := .of (cr_all hc) fun σ H B S rs vs k R a q => by
  unfold gAll at q
  split at q
  · obtain ⟨v, rfl, z⟩ := a.one
    obtain ⟨bs, e, q⟩ := q
    cases (show Dz _ _ _ _ from z) with
    | lst h1 h2 => exact ⟨_, bs, rfl, by rw [← boolsD_v h2 e]; exact h1.sq, .d (.bool _), S, R, .rfl, Dz.bl _, rfl, q⟩
  · exact q.elim
def gSum : List SV → (SV → Prop) → Prop := fun rs k => match rs with
  | [.d (.list xs)] => ∃ bs, intsD xs = some bs ∧ k (.d (.int bs.sum))
  | _ => False
theorem cSum (hc : X.calm = true) : CallD X (.builtin "sum") gSum := .of (cr_sum hc) fun σ H B S rs vs k R a q => by
  unfold gSum at q
  split at q
  · obtain ⟨v, rfl, z⟩ := a.one
    obtain ⟨bs, e, q⟩ := q
    cases (show Dz _ _ _ _ from z) with
    | lst h1 h2 => exact ⟨_, bs, rfl, by rw [← intsD_v h2 e]; exact h1.sq, .d (.int _), S, R, .rfl, Dz.int _, rfl, q⟩
  · exact q.elim
/-- tuple(xs) -/
def gTupOf : List SV → (SV → Prop) → Prop := fun rs k => match rs with
  | [.d (.list xs)] => k (.d (.tuple xs))
  | [.d (.tuple xs)] => k (.d (.tuple xs))
  | _ => False
theorem cTupOf : CallD X (.type "tuple") gTupOf := .of call_tuple_of fun σ H B S rs vs k R a q => by
  unfold gTupOf at q
  split at q
  · obtain ⟨v, rfl, z⟩ := a.one
    cases (show Dz _ _ _ _ from z) with
    | lst h1 h2 => exact ⟨_, _, rfl, .inl ⟨h1.sq, fun l hl => ⟨.d (.tuple _), S, R.new hl, .new hl, Dz.tup (.of upd_same) (h2.mono (.new hl)), rfl, q⟩⟩⟩
  · obtain ⟨v, rfl, z⟩ := a.one
    cases (show Dz _ _ _ _ from z) with
    | tup h1 h2 => exact ⟨_, _, rfl, .inr ⟨h1, .d (.tuple _), S, R, .rfl, Dz.tup h1 h2, rfl, q⟩⟩
  · exact q.elim
end
end
end D3
/-! D3f: comprehensions; lists and tuples put together, cut; stores into a list of one's own or a cell. -/
namespace D3
open PySem PySem.Spec PyProof.Rows L2
section
variable [Tb]
section
variable {K : PySem.W.Frag} {B : B3} {σ : L2.St} {H : Hp} {S : S3}
/-- a thing at D is set beside, as if it had stood ahead of the entry -/
theorem RS.push (R : RS K B σ H S) {D : Addr} {u : HO} (hD : H D = some u) (hm : D ∉ B.ms) (ho : ∀ (i : Nat) ys, S.G[i]? = some (some (.own ys)) → σ[i]? ≠ some (some (.ref D))) : RS K ⟨upd B.H0 D u, B.ms⟩ σ H S := by
  refine ⟨fun i r e => ?_, R.sep, R.cn, R.nd, R.cell, fun b o e1 e2 => ?_, R.len, R.tabs⟩
  · obtain ⟨v, h1, h2⟩ := R.slot i r e
    refine ⟨v, h1, ?_⟩
    cases r with
    | own xs =>
      obtain ⟨a, vs, q1, q2, q3, q4, q5⟩ := h2
      have ha : a ≠ D := fun z => ho i xs e (by rw [h1, q1, z])
      exact ⟨a, vs, q1, q2, q3, (upd_ne ha).trans q4, q5⟩
    | _ => exact h2
  · by_cases hb : b = D
    · subst hb
      rw [show (⟨upd B.H0 b u, B.ms⟩ : B3).H0 b = some u from upd_same] at e1
      exact ⟨u, hD, by cases e1; exact .rfl⟩
    · exact R.keep b o ((upd_ne hb).symm.trans e1) e2
theorem RS.pop {D : Addr} {u : HO} (R : RS K ⟨upd B.H0 D u, B.ms⟩ σ H S) (h0 : B.H0 D = none) (hm : D ∉ B.ms) (nt : ∀ p, u ≠ .tbl p := by intro p z; cases z) : RS K B σ H S ∧ H D = some u ∧ ∀ (i : Nat) ys, S.G[i]? = some (some (.own ys)) → σ[i]? ≠ some (some (.ref D)) := by
  have own : ∀ (i : Nat) ys, S.G[i]? = some (some (.own ys)) → ∃ a vs, σ[i]? = some (some (.ref a)) ∧ H a = some (.lst vs) ∧ DzA K H vs ys ∧ a ≠ D ∧ B.H0 a = none ∧ a ∉ B.ms := fun i ys e => by
    obtain ⟨v, h1, a, vs, q1, q2, q3, q4, q5⟩ := R.slot i _ e
    have ha : a ≠ D := fun z => by
      subst z
      have z2 : upd B.H0 a u a = none := q4
      rw [upd_same] at z2
      cases z2
    exact ⟨a, vs, by rw [h1, q1], q2, q3, ha, (upd_ne ha).symm.trans q4, q5⟩
  refine ⟨⟨fun i r e => ?_, R.sep, R.cn, R.nd, R.cell, fun b o e1 e2 => ?_, R.len, R.tabs⟩, (show H D = some u from by obtain ⟨o', q, z⟩ := R.keep D u upd_same hm; rw [q, z.eq nt]), fun i ys e z => ?_⟩
  · cases r with
    | own ys =>
      obtain ⟨a, vs, q0, q1, q2, q3, q4, q5⟩ := own i ys e
      exact ⟨_, q0, a, vs, rfl, q1, q2, q4, q5⟩
    | _ =>
      obtain ⟨v, h1, h2⟩ := R.slot i _ e
      exact ⟨v, h1, h2⟩
  · refine R.keep b o ?_ e2
    have hb : b ≠ D := fun z => by
      subst z
      rw [h0] at e1
      cases e1
    exact (upd_ne hb).trans e1
  · obtain ⟨a, vs, q0, q1, q2, q3, q4, q5⟩ := own i ys e
    rw [q0] at z
    cases z
    exact q3 rfl
/-- the slots vs are forgotten -/
def wipeG (G : List (Option SV)) : List Nat → List (Option SV)
  | [] => G
  | v :: vs => (wipeG G vs).set v none
theorem wipeG_len (G : List (Option SV)) : ∀ vs : List Nat, (wipeG G vs).length = G.length
  | [] => rfl
  | v :: vs => by rw [wipeG, List.length_set, wipeG_len G vs]
theorem wipeG_some {G : List (Option SV)} {i : Nat} {x : SV} : ∀ {vs : List Nat}, (wipeG G vs)[i]? = some (some x) → G[i]? = some (some x) ∧ i ∉ vs
  | [], h => ⟨h, by simp⟩
  | v :: vs, h => by
    rw [wipeG] at h
    rcases set_get h with ⟨_, e, _⟩ | ⟨ne, e⟩
    · cases e
    · obtain ⟨h1, h2⟩ := wipeG_some e
      exact ⟨h1, by simp only [List.mem_cons, not_or]; exact ⟨fun z => ne z.symm, h2⟩⟩
def S3.wipe (S : S3) (vs : List Nat) : S3 := { S with G := wipeG S.G vs }
/-- from a frame to one that agrees with it but at vs -/
theorem RS.wiped (R : RS K B σ H S) {σ' : L2.St} {vs : List Nat} (e : L2.wipe σ' vs = L2.wipe σ vs) : RS K B σ' H (S.wipe vs) := by
  have same : ∀ i : Nat, i ∉ vs → σ'[i]? = σ[i]? := fun i hi => by
    have z := congrArg (fun l : L2.St => l[i]?) e
    simpa only [wipe_get, if_neg hi] using z
  have hl : σ'.length = σ.length := by
    have z := congrArg List.length e
    simpa only [L2.wipe_length] using z
  refine ⟨fun i r q => ?_, fun i j xs ys v ne e1 e2 e3 e4 => ?_, R.cn, R.nd, R.cell, R.keep, ?_, R.tabs⟩
  · obtain ⟨q1, q2⟩ := wipeG_some q
    obtain ⟨v, h1, h2⟩ := R.slot i r q1
    exact ⟨v, by rw [same i q2]; exact h1, h2⟩
  · obtain ⟨q1, n1⟩ := wipeG_some e1
    obtain ⟨q2, n2⟩ := wipeG_some e2
    rw [same i n1] at e3
    rw [same j n2] at e4
    exact R.sep i j xs ys v ne q1 q2 e3 e4
  · show (wipeG S.G vs).length = _
    rw [wipeG_len, R.len, hl]
theorem wipe_idem {vs : List Nat} : L2.wipe (L2.wipe σ vs) vs = L2.wipe σ vs := by
  apply List.ext_getElem?
  intro j
  simp only [wipe_get]
  by_cases q : j ∈ vs
  · simp only [if_pos q]
    cases σ[j]? <;> rfl
  · simp only [if_neg q]
end
/-! ### comprehensions -/
def noE : ED := fun _ _ => False
def noW : WX := fun _ _ _ _ => False
theorem HX.no {K : PySem.W.Frag} {B : B3} : HX K noW B noE := fun _ _ _ _ _ _ _ _ h => h
/-- the tests of a clause -/
def dYes : DTT := fun S k _ => k true S
def DPs (X : Cx) (ifs : List Expr) (t : DTT) : Prop := PTs X ifs (liftT X.K noW t)
section
variable {X : Cx} {e : Expr} {t : DTT}
theorem dps_nil : DPs X [] dYes := ⟨fun pins s σ H Q I ⟨B, S, k, er, R, q, hx, f⟩ => pts_nil.run pins s σ H Q I (f true H ⟨S, R, .rfl, q⟩)⟩
theorem dps_one (h : DT X noW e t) : DPs X [e] t := pts_one h
end
def dComp (vs : List Nat) (g : DTG) (tt : DTT) (te : DTE) (k : List PyData → S3 → Prop) : List PyData → List PyData → S3 → Prop
  | [], acc, S => k acc (S.wipe vs)
  | x :: xs, acc, S => g x S fun S1 => tt S1 (fun b S2 => iteB b (te S2 (fun r S3 => match r with
      | .d y => acc.length < sizeLine ∧ dComp vs g tt te k xs (acc ++ [y]) (S3.wipe vs)
      | _ => False) noE) (dComp vs g tt te k xs acc (S2.wipe vs))) noE
def dLc (vs : List Nat) (ti : DTE) (g : DTG) (tt : DTT) (te : DTE) : DTL := fun S k e => ti S (fun r S1 => match r with
  | .d (.list xs) => dComp vs g tt te k xs [] (S1.wipe vs)
  | .d (.tuple xs) => dComp vs g tt te k xs [] (S1.wipe vs)
  | _ => False) e
section
variable {X : Cx} {W : WX} {us : List Nat} {K : PySem.W.Frag} {B : B3} {g : DTG} {tt : DTT} {te : DTE} {k : List PyData → S3 → Prop} {vs : List Nat} {xs : List PyData} {σ : L2.St} {H1 : Hp} {D : Addr}
/-- between two turns: the list at D holds what was made -/
def CompI (K : PySem.W.Frag) (B : B3) (vs : List Nat) (g : DTG) (tt : DTT) (te : DTE) (k : List PyData → S3 → Prop) (xs : List PyData) (σ : L2.St) (H1 : Hp) (D : Addr) (i : Nat) (H2 : Hp) : Prop :=
  ∃ S2 accV acc, RS K B (L2.wipe σ vs) H2 S2 ∧ Mono H1 H2 ∧ H2 D = some (.lst accV) ∧ DzA K H2 accV acc ∧ (∀ (i : Nat) ys, S2.G[i]? = some (some (.own ys)) → (L2.wipe σ vs)[i]? ≠ some (some (.ref D))) ∧ dComp vs g tt te k (xs.drop i) acc S2
theorem comp_start {S1 : S3} (R : RS K B σ H1 S1) (hD : H1 D = none) (q : dComp vs g tt te k xs [] (S1.wipe vs)) : CompI K B vs g tt te k xs σ H1 D 0 (upd H1 D (.lst [])) := by
  have R2 : RS K B (L2.wipe σ vs) H1 (S1.wipe vs) := R.wiped wipe_idem
  obtain ⟨a, ws, e, _, _, _, _, h⟩ := RL.new (vs := []) (ds := []) R2 hD .nil
  cases e
  exact ⟨S1.wipe vs, [], [], R2.new hD, .new hD, upd_same, .nil, h, q⟩
theorem comp_step (h0 : B.H0 D = none) (hm : D ∉ B.ms) (hus : ∀ i ∈ us, i ∈ vs) {i : Nat} {v : V} {H2 : Hp} {x : PyData} (e : xs[i]? = some x) (z : ∀ H2, Mono H1 H2 → Dz K H2 v x) (h : CompI K B vs g tt te k xs σ H1 D i H2) :
    liftG K us g v (L2.wipe σ vs) H2 fun σ3 H3 => L2.wipe σ3 vs = L2.wipe σ vs ∧ liftT K noW tt σ3 H3 fun b H4 =>
      if b = true then liftE K noW te σ3 H4 fun y H5 => ∃ acc, H5 D = some (.lst acc) ∧ acc.length < sizeLine ∧ CompI K B vs g tt te k xs σ H1 D (i + 1) (upd H5 D (.lst (acc ++ [y]))) else CompI K B vs g tt te k xs σ H1 D (i + 1) H4 := by
  obtain ⟨S2, accV, acc, R2, m2, hD, za, ho, q⟩ := h
  rw [drop_of e] at q
  refine ⟨⟨upd B.H0 D (.lst accV), B.ms⟩, S2, x, _, R2.push hD hm ho, z _ m2, q, fun σ3 H3 S3 R3 m3 l3 _ q3 => ?_⟩
  have ew : L2.wipe σ3 vs = L2.wipe σ vs := (l3 vs hus).trans wipe_idem
  refine ⟨ew, liftT.in (t := tt) R3 q3 HX.no fun b H4 S4 R4 m4 q4 => ?_⟩
  cases b with
  | false =>
    rw [if_neg Bool.false_ne_true]
    obtain ⟨R5, hD4, ho4⟩ := RS.pop (R4.wiped (σ' := L2.wipe σ vs) (vs := vs) (wipe_idem.trans ew.symm)) h0 hm
    exact ⟨_, accV, acc, R5, (m2.tr m3).tr m4, hD4, za.mono (m3.tr m4), ho4, q4⟩
  | true =>
    rw [if_pos rfl]
    refine liftE.in (t := te) R4 q4 HX.no fun y H5 r S5 R5 m5 rr q5 => ?_
    match r, rr, q5 with
    | .d w, rr, q5 =>
      obtain ⟨R6, hD5, ho5⟩ := RS.pop (R5.wiped (σ' := L2.wipe σ vs) (vs := vs) (wipe_idem.trans ew.symm)) h0 hm
      have zacc := za.mono ((m3.tr m4).tr m5)
      refine ⟨accV, hD5, by rw [zacc.len]; exact q5.1, S5.wipe vs, accV ++ [y], acc ++ [w], ?_, (((m2.tr m3).tr m4).tr m5).tr (.at_ hD5 nfz_lst), upd_same, (zacc.app (.one rr)).mono (.at_ hD5 nfz_lst), ho5, q5.2⟩
      refine ⟨fun j r2 e2 => ?_, R6.sep, R6.cn, R6.nd, fun n a ys e1 e2 => ?_, fun b o e1 e2 => ?_, R6.len, tabs_at R6.tabs hD5⟩
      · obtain ⟨u, h1, h2⟩ := R6.slot j r2 e2
        refine ⟨u, h1, ?_⟩
        cases r2 with
        | own ys =>
          obtain ⟨a, ws, q1, q2, q3, q4⟩ := h2
          have ha : a ≠ D := fun zz => ho5 j ys e2 (by rw [h1, q1, zz])
          exact ⟨a, ws, q1, by rw [upd_ne ha]; exact q2, q3.mono (.at_ hD5 nfz_lst), q4⟩
        | _ => exact h2.mono (.at_ hD5 nfz_lst) (fun _ z => nomatch z)
      · obtain ⟨ws, q1, q2⟩ := R6.cell n a ys e1 e2
        have ha : a ≠ D := fun zz => hm (by rw [← zz]; exact List.mem_of_getElem? e1)
        exact ⟨ws, by rw [upd_ne ha]; exact q1, q2.mono (.at_ hD5 nfz_lst)⟩
      · have hb : b ≠ D := fun zz => by
          subst zz
          rw [h0] at e1
          cases e1
        rw [upd_ne hb]
        exact R6.keep b o e1 e2
theorem comp_done (h0 : B.H0 D = none) (hm : D ∉ B.ms) {Hs : Hp} (m : Mono Hs H1) {n : Nat} (hn : n = xs.length) {H2 : Hp} (h : CompI K B vs g tt te k xs σ H1 D n H2) : KL K B σ Hs k (.ref D) H2 := by
  obtain ⟨S2, accV, acc, R2, m2, hD, za, ho, q⟩ := h
  subst hn
  rw [List.drop_length] at q
  have R3 : RS K B σ H2 (S2.wipe vs) := R2.wiped wipe_idem.symm
  refine ⟨acc, S2.wipe vs, R3, m.tr m2, ⟨D, accV, rfl, hD, za, h0, hm, fun i ys e1 e2 => ?_⟩, q⟩
  obtain ⟨q1, q2⟩ := wipeG_some e1
  refine ho i ys q1 ?_
  rw [wipe_get, if_neg q2]
  exact e2
end
section
variable {X : Cx} {W : WX} {us : List Nat} {e elt tg a b : Expr} {ifs : List Expr} {ti te ta tb : DTE} {g : DTG} {tt : DTT} {scope : Scope} {own : List (Str × Nat)} {pos p p2 : Pos}
theorem d_lc (hc : X.calm = true) (hN : X.N.Nodup) (hi : DE X W e ti) (ok : BlkOk X.N X.env.scope scope own) (hus : ∀ i ∈ us, i ∈ own.map (·.2))
    (hg : ∀ (s : Shared) (H : Hp) (C : Addr) (cl : List (Str × Addr)) (fp : List Addr), DG (X.blk s H scope (compEnvC scope cl C X.env) fp) tg us g)
    (ht : ∀ (s : Shared) (H : Hp) (C : Addr) (cl : List (Str × Addr)) (fp : List Addr), DPs (X.blk s H scope (compEnvC scope cl C X.env) fp) ifs tt)
    (he : ∀ (s : Shared) (H : Hp) (C : Addr) (cl : List (Str × Addr)) (fp : List Addr), DE (X.blk s H scope (compEnvC scope cl C X.env) fp) noW elt te) (hs : ∀ x, foldedSetIterable e X.env x = pure x := by intro _; rfl) :
    DL X W (.ListComp elt [⟨tg, e, ifs, 0⟩] scope pos) (dLc (own.map (·.2)) ti g tt te) :=
  .of (pe_lc (g := liftG X.K us g) (tt := liftT X.K noW tt) (te := liftE X.K noW te) hc hN (pi_seq hi) ok hg ht he hs) fun σ H B S k er R q hx => liftE.in (t := ti) R q hx fun v H1 r S1 R1 m1 rr q1 => by
    match r, rr, q1 with
    | .d (.list xs), rr, q1 =>
      cases (show Dz _ _ _ _ from rr) with
      | @lst a vs ds h1 h2 =>
        refine ⟨a, rfl, .inl ⟨⟨vs, sqL_mono .rfl h1⟩, fun D hD => ?_⟩⟩
        obtain ⟨h0, hm⟩ := R1.fresh0 hD
        refine lc_list (K := X.K) (a := a) (xs := vs) (CompI X.K B (own.map (·.2)) g tt te k xs σ H1 D) (comp_start R1 hD q1) (fun i H2 _ ⟨_, _, _, _, m2, _⟩ => sqL_mono m2 h1) (fun i v H2 e h => ?_) fun H2 h => comp_done h0 hm m1 h2.len h
        obtain ⟨d, e2, z⟩ := h2.getV e
        exact comp_step h0 hm hus e2 (fun H2 m2 => Dz.mono m2 _ _ z) h
    | .d (.tuple xs), rr, q1 =>
      cases (show Dz _ _ _ _ from rr) with
      | @tup a vs ds h1 h2 =>
        refine ⟨a, rfl, .inr ⟨⟨vs, h1⟩, fun D hD => ?_⟩⟩
        obtain ⟨h0, hm⟩ := R1.fresh0 hD
        refine lc_tup (K := X.K) (a := a) (xs := vs) (CompI X.K B (own.map (·.2)) g tt te k xs σ H1 D) (comp_start R1 hD q1) (fun i H2 _ ⟨_, _, _, _, m2, _⟩ => sqT_mono m2 h1) (fun i v H2 e h => ?_) fun H2 h => comp_done h0 hm m1 h2.len h
        obtain ⟨d, e2, z⟩ := h2.getV e
        exact comp_step h0 hm hus e2 (fun H2 m2 => Dz.mono m2 _ _ z) h
/-- [e for i in range(n)] -/
def dLcR (vs : List Nat) (ta : DTE) (g : DTG) (tt : DTT) (te : DTE) : DTL := fun S k e => ta S (fun r S1 => match r with
  | .d (.int j) => inR j ∧ dComp vs g tt te k (rangeD 0 j.toNat) [] (S1.wipe vs)
  | _ => False) e
theorem one_arg {t : DTE} {S : S3} {k : SV → S3 → Prop} {er : ED} {P : SV → S3 → Prop} (q : t S k er) (h : ∀ r S1, k r S1 ↔ P r S1) : t S P er := cast (congrArg (fun k => t S k er) (funext fun r => funext fun S1 => propext (h r S1))) q
theorem d_lcR (hc : X.calm = true) (hN : X.N.Nodup) (hgl : Gl X "range") (hm : X.mg "range" = none) (ha : DE X W a ta) (ok : BlkOk X.N X.env.scope scope own) (hus : ∀ i ∈ us, i ∈ own.map (·.2))
    (hg : ∀ (s : Shared) (H : Hp) (C : Addr) (cl : List (Str × Addr)) (fp : List Addr), DG (X.blk s H scope (compEnvC scope cl C X.env) fp) tg us g)
    (ht : ∀ (s : Shared) (H : Hp) (C : Addr) (cl : List (Str × Addr)) (fp : List Addr), DPs (X.blk s H scope (compEnvC scope cl C X.env) fp) ifs tt)
    (he : ∀ (s : Shared) (H : Hp) (C : Addr) (cl : List (Str × Addr)) (fp : List Addr), DE (X.blk s H scope (compEnvC scope cl C X.env) fp) noW elt te)
    (hA : starEach [a] X.env = (false, eval a X.env) :: starEach [] X.env := by rfl) (hA2 : starEach [a] X.env = [(false, eval a X.env)] := by rfl)
    (hs : ∀ x, foldedSetIterable (.Call (.Name "range" p) [a] [] p2) X.env x = pure x := by intro _; rfl) :
    DL X W (.ListComp elt [⟨tg, .Call (.Name "range" p) [a] [] p2, ifs, 0⟩] scope pos) (dLcR (own.map (·.2)) ta g tt te) :=
  .of (pe_lc (g := liftG X.K us g) (tt := liftT X.K noW tt) (te := liftE X.K noW te) hc hN (pi_range1 hgl hm (da_cons (W := W) ha da_nil hA) hA2) ok hg ht he hs) fun σ H B S k er R q hx =>
    liftA.in (t := dCons ta dNil) (k := fun rs S1 => ∃ j, rs = [.d (.int j)] ∧ inR j ∧ dComp (own.map (·.2)) g tt te k (rangeD 0 j.toNat) [] (S1.wipe (own.map (·.2)))) R (by
      refine one_arg (P := fun r S1 => ∃ j, [r] = [SV.d (.int j)] ∧ inR j ∧ dComp (own.map (·.2)) g tt te k (rangeD 0 j.toNat) [] (S1.wipe (own.map (·.2)))) q fun r S1 => ?_
      constructor
      · intro z
        match r, z with
        | .d (.int j), z => exact ⟨j, rfl, z⟩
      · rintro ⟨j, e, z⟩
        cases e
        exact z) hx fun vs H1 rs S1 R1 m1 rrs q1 => by
      obtain ⟨j, rfl, ⟨j1, j2⟩, q1⟩ := q1
      cases rrs with
      | cons r1 rr =>
        cases rr
        cases (show Dz _ _ _ _ from r1)
        refine ⟨j, rfl, j1, j2, fun D hD => ?_⟩
        obtain ⟨h0, hm2⟩ := R1.fresh0 hD
        refine lc_range (lo := 0) (n := j.toNat) (CompI X.K B (own.map (·.2)) g tt te k (rangeD 0 j.toNat) σ H1 D) (comp_start R1 hD q1) (fun i H2 hi h => ?_) fun H2 h => comp_done h0 hm2 m1 (rangeD_len _ _).symm h
        exact comp_step h0 hm2 hus (rangeD_get _ _ _ hi) (fun _ _ => Dz.int _) h
/-- y = [..] written on one line, y a local: the store is the comprehension's own -/
def dSetFz (i : Nat) (t : DTL) : DTS := fun D S e => t S (fun xs S1 => D.nx { S1 with G := S1.G.set i (some (.own xs)) }) e
theorem ds_setLc {i : Nat} {y : Str} {py spos : Pos} (hc : X.calm = true) (hN : X.N.Nodup) (hy : X.N[i]? = some y) (hyl : X.env.scope.names.lookup y = some .local) (hsw : swapsWith (.ListComp elt [⟨tg, e, ifs, 0⟩] scope pos) (some (.Name y py)) spos.line X.env = pure true)
    (hi : DE X W e ti) (ok : BlkOk X.N X.env.scope scope own) (hus : ∀ i ∈ us, i ∈ own.map (·.2))
    (hg : ∀ (s : Shared) (H : Hp) (C : Addr) (cl : List (Str × Addr)) (fp : List Addr), DG (X.blk s H scope (compEnvC scope cl C X.env) fp) tg us g)
    (ht : ∀ (s : Shared) (H : Hp) (C : Addr) (cl : List (Str × Addr)) (fp : List Addr), DPs (X.blk s H scope (compEnvC scope cl C X.env) fp) ifs tt)
    (he : ∀ (s : Shared) (H : Hp) (C : Addr) (cl : List (Str × Addr)) (fp : List Addr), DE (X.blk s H scope (compEnvC scope cl C X.env) fp) noW elt te) (hs : ∀ x, foldedSetIterable e X.env x = pure x := by intro _; rfl) :
    DS X W (.Assign [.Name y py] (.ListComp elt [⟨tg, e, ifs, 0⟩] scope pos) spos) (dSetFz i (dLc (own.map (·.2)) ti g tt te)) :=
  .of (ps_setLc (g := liftG X.K us g) (tt := liftT X.K noW tt) (te := liftE X.K noW te) hc hN hy hyl hsw (pi_seq hi) ok hg ht he hs) fun σ H B S D er R q hx => liftE.in (t := ti) R q hx fun v H1 r S1 R1 m1 rr q1 => by
    have fin : ∀ {A : Addr} {H2 : Hp}, KL X.K B σ H (fun xs S1 => D.nx { S1 with G := S1.G.set i (some (.own xs)) }) (.ref A) H2 → (KS X.K B H D).nx (σ.set i (some (.ref A))) H2 := fun ⟨xs, S', R', m', rl, q'⟩ => ⟨_, R'.setO rl, m', q'⟩
    match r, rr, q1 with
    | .d (.list xs), rr, q1 =>
      cases (show Dz _ _ _ _ from rr) with
      | @lst a vs ds h1 h2 =>
        refine ⟨a, rfl, .inl ⟨⟨vs, sqL_mono .rfl h1⟩, fun A hA => ?_⟩⟩
        obtain ⟨h0, hm⟩ := R1.fresh0 hA
        refine lc_list (K := X.K) (a := a) (xs := vs) (CompI X.K B (own.map (·.2)) g tt te _ xs σ H1 A) (comp_start R1 hA q1) (fun i H2 _ ⟨_, _, _, _, m2, _⟩ => sqL_mono m2 h1) (fun i v H2 e h => ?_) fun H2 h => fin (comp_done h0 hm m1 h2.len h)
        obtain ⟨d, e2, z⟩ := h2.getV e
        exact comp_step h0 hm hus e2 (fun H2 m2 => Dz.mono m2 _ _ z) h
    | .d (.tuple xs), rr, q1 =>
      cases (show Dz _ _ _ _ from rr) with
      | @tup a vs ds h1 h2 =>
        refine ⟨a, rfl, .inr ⟨⟨vs, h1⟩, fun A hA => ?_⟩⟩
        obtain ⟨h0, hm⟩ := R1.fresh0 hA
        refine lc_tup (K := X.K) (a := a) (xs := vs) (CompI X.K B (own.map (·.2)) g tt te _ xs σ H1 A) (comp_start R1 hA q1) (fun i H2 _ ⟨_, _, _, _, m2, _⟩ => sqT_mono m2 h1) (fun i v H2 e h => ?_) fun H2 h => fin (comp_done h0 hm m1 h2.len h)
        obtain ⟨d, e2, z⟩ := h2.getV e
        exact comp_step h0 hm hus e2 (fun H2 m2 => Dz.mono m2 _ _ z) h
end

/-! ### + of data: ints, texts, tuples, lists (frozen) -/
section
variable {X : Cx} {W : WX} {a b : Expr} {ta tb : DTE} {pos : Pos}
def gAdd : SV → SV → (SV → Prop) → Prop := fun x y k => match x, y with
  | .d (.int i), .d (.int j) => k (.d (.int (i + j)))
  | .d (.tuple xs), .d (.tuple ys) => xs.length + ys.length ≤ sizeLine ∧ k (.d (.tuple (xs ++ ys)))
  | .d (.list xs), .d (.list ys) => xs.length + ys.length ≤ sizeLine ∧ k (.d (.list (xs ++ ys)))
  | _, _ => False
theorem list_cat {pins : List (Addr × Obj)} {s : Shared} {σ : L2.St} {H : Hp} {a b : Addr} {vs ws : List V} {Q : VK} (I : Inv X pins σ H s) (h1 : FzL X.K H a vs) (h2 : FzL X.K H b ws) (hz : vs.length + ws.length ≤ sizeLine)
    (q : ∀ p, H p = none → Q (.ref p) (upd H p (.lst (vs ++ ws)))) : wpAny (model X.prog X.w) X.A (binaryOp .Add (.ref a) (.ref b)) (EP X pins σ Q) X.xe s := by
  obtain ⟨_, its, n, r, e⟩ := h1.at_ I
  obtain ⟨_, its', n', r', e'⟩ := h2.at_ I
  have l1 := r.length
  have l2 := r'.length
  refine PySem.P.add_list e e' ?_ (by simp only [List.size_toArray]; omega)
  rw [show its.toArray ++ its'.toArray = (its ++ its').toArray by simp]
  exact ⟨.ref s.heap.objs.size, _, I.lnew (t' := s.toks) (Vals.append r r') (by simp only [List.length_append]; omega), rfl, q _ I.fresh⟩
theorem oAdd : OpD X (binaryOp .Add) gAdd := by
  intro pins s σ H B S x y vx vy v u k I R a rx b ry q
  match x, y, a, b, q with
  | .d (.int i), .d (.int j), a, b, q => exact oAddI pins s σ H B S _ _ vx vy v u k I R a rx b ry ⟨trivial, q⟩
  | .d (.tuple xs), .d (.tuple ys), a, b, q =>
    cases (show Dz _ _ _ _ from a) with
    | tup h1 h2 =>
      cases (show Dz _ _ _ _ from b) with
      | tup h3 h4 =>
        have hl : ∀ {vs : List V} {ds : List PyData}, DzA X.K H vs ds → vs = [] → ds = [] := fun z e => by
          subst e
          cases z
          rfl
        refine op_catA pins s σ H _ _ v u _ I rx ry ⟨_, _, _, _, rfl, rfl, h1, h3, by rw [h2.len, h4.len]; exact q.1, fun e => ?_, fun _ e => ?_, fun _ _ p hp => ?_⟩
        · have e2 := hl h2 e
          subst e2
          exact ⟨.d (.tuple ys), S, R, .rfl, Dz.tup h3 h4, rfl, q.2⟩
        · have e2 := hl h4 e
          subst e2
          exact ⟨.d (.tuple xs), S, R, .rfl, Dz.tup h1 h2, rfl, by have z := q.2; rw [List.append_nil] at z; exact z⟩
        · exact ⟨.d (.tuple (xs ++ ys)), S, R.new hp, .new hp, Dz.tup (.of upd_same) ((h2.app h4).mono (.new hp)), rfl, q.2⟩
  | .d (.list xs), .d (.list ys), a, b, q =>
    cases (show Dz _ _ _ _ from a) with
    | lst h1 h2 =>
      cases (show Dz _ _ _ _ from b) with
      | lst h3 h4 =>
        cases (show v = _ from rx)
        cases (show u = _ from ry)
        refine thn (list_cat (Q := KL X.K B σ H fun zs S' => S' = S ∧ zs = xs ++ ys) I h1 h3 (by rw [h2.len, h4.len]; exact q.1) fun p hp => ⟨_, S, R.new hp, .new hp, .new R hp (h2.app h4), rfl, rfl⟩) fun w s1 ⟨vw, H1, I1, r1, zs, S', R1, m1, rl, e1, e2⟩ => ?_
        subst e1 e2
        obtain ⟨p, vs, rfl, h5, f⟩ := R1.frzNew rl
        obtain ⟨od, I2⟩ := I1.lock h5 trivial
        obtain ⟨R2, m2, z⟩ := f od
        exact ⟨.ref p, _, I2, r1, .d (.list (xs ++ ys)), _, R2, m1.tr m2, z, rfl, q.2⟩
/-- a list put together, nobody's yet -/
def dAddL (ta tb : DTE) : DTL := fun S k e => ta S (fun x S1 => tb S1 (fun y S2 => match x, y with
  | .d (.list xs), .d (.list ys) => xs.length + ys.length ≤ sizeLine ∧ k (xs ++ ys) S2
  | _, _ => False) e) e
theorem d_addL (ha : DE X W a ta) (hb : DE X W b tb) : DL X W (.BinOp a .Add b pos) (dAddL ta tb) := by
  refine .mk fun pins s σ H B S k er I R q hx => ?_
  refine wpAny_BinOp (d_two ha hb I R q hx fun v u s2 x y vx vy H2 S2 I2 R2 m c rx d ry q2 => ?_)
  match x, y, c, d, q2 with
  | .d (.list xs), .d (.list ys), c, d, q2 =>
    cases (show Dz _ _ _ _ from c) with
    | lst h1 h2 =>
      cases (show Dz _ _ _ _ from d) with
      | lst h3 h4 =>
        cases (show v = _ from rx)
        cases (show u = _ from ry)
        exact list_cat I2 h1 h3 (by rw [h2.len, h4.len]; exact q2.1) fun p hp => ⟨_, S2, R2.new hp, m.tr (.new hp), .new R2 hp (h2.app h4), q2.2⟩
end
end
end D3
/-! D3g: a def by its body; the law's end. -/
namespace D3
open PySem PySem.Spec PyProof.Rows L2
section
variable [Tb]
/-- the parameters' values, then nothing -/
def start3 (n : Nat) (rs : List SV) : List (Option SV) := rs.map some ++ List.replicate (n - rs.length) none
theorem RRs.get {K : PySem.W.Frag} {B : B3} {H : Hp} : ∀ {rs : List SV} {vs : List V} {i : Nat} {r : SV}, RRs K B H rs vs → rs[i]? = some r → ∃ v, vs[i]? = some v ∧ RR K B H r v
  | _, _, _, _, .nil, e => by simp at e
  | _, _, 0, _, .cons a _, e => by
    simp only [List.getElem?_cons_zero, Option.some.injEq] at e
    subst e
    exact ⟨_, by simp, a⟩
  | _, _, i + 1, _, .cons _ t, e => by
    obtain ⟨v, h1, h2⟩ := RRs.get (i := i) t (by simpa using e)
    exact ⟨v, by simpa using h1, h2⟩
theorem start3_get {n : Nat} {rs : List SV} {i : Nat} {r : SV} (h : (start3 n rs)[i]? = some (some r)) : rs[i]? = some r := by
  unfold start3 at h
  by_cases hi : i < rs.length
  · rw [List.getElem?_append_left (by simpa using hi), List.getElem?_map] at h
    cases e : rs[i]? with
    | none => rw [e] at h; cases h
    | some q => rw [e] at h; cases h; rfl
  · rw [List.getElem?_append_right (by simpa using hi), List.getElem?_replicate] at h
    split at h
    · cases h
    · cases h
theorem start_get {N : List Str} {vs : List V} {i : Nat} {v : V} (h : vs[i]? = some v) : (L2.start N vs)[i]? = some (some v) := by
  have hi : i < vs.length := (List.getElem?_eq_some_iff.mp h).1
  unfold L2.start
  rw [List.getElem?_append_left (by simpa using hi), List.getElem?_map, h]
  rfl
theorem RS.begin {K : PySem.W.Frag} {ms : List Addr} {H : Hp} {N : List Str} {rs : List SV} {vs : List V} {C : List (List PyData)} (a : RRs K ⟨H, ms⟩ H rs vs) (rc : RC K ms H C) : RS K ⟨H, ms⟩ (L2.start N vs) H ⟨start3 N.length rs, C⟩ := by
  refine ⟨fun i r e => ?_, fun i j xs ys v _ e1 _ _ _ => ?_, rc.cn, rc.nd, rc.cell, fun b o e _ => ⟨o, e, .rfl⟩, ?_, rc.tabs⟩
  · obtain ⟨v, h1, h2⟩ := a.get (start3_get e)
    exact ⟨v, start_get h1, h2.sr⟩
  · obtain ⟨v, _, h2⟩ := a.get (start3_get e1)
    exact h2
  · have l := a.len
    unfold start3 L2.start
    simp only [List.length_append, List.length_map, List.length_replicate]
    omega
/-- what a def's end gives -/
def defEnds (k : SV → List (List PyData) → Prop) : DEnds := { nx := fun S => k (.d .none) S.C, rt := fun r S => k r S.C }
def defExc (e : Xd → List (List PyData) → Prop) : ED := fun x S => e x S.C
/-- the code object of a def -/
def codeOf (K : PySem.W.Frag) (f : Addr) : Option Value := match K.lookup f with
  | some ⟨_, _, .func fd, _⟩ => some fd.code
  | _ => none
theorem fnG_def {P : Program} {w : World} {K : PySem.W.Frag} {mg : Str → Option Value} {base : Heap} {x qual : Str} {st : Stmt} {f : Addr} {fd : FuncData} {N ps : List Str} {kk : Nat} {p : DP} {t : DTS} (F : Fun K x qual st f fd) (S : FnScope N ps (defScope st))
    (hb : ∀ (cdv : Value) (A : Around) (outer : List Env) (s : Shared) (H : Hp) (E : XK), codeOf K f = some cdv → Room kk (A.deeper (envOfC qual (defScope st) s.heap.objs.size f cdv)) → A.guards = some [] →
      DSs (cxOf (L2.CX P w) P w K mg base N qual (defScope st) f cdv A outer s H E) (fun cls d _ H' => E cls d H') (defBody st) t)
    (hP : ∀ rs C k e, p rs C k e → rs.length = ps.length ∧ t (defEnds k) ⟨start3 N.length rs, C⟩ (defExc e)) : FnG P w K mg base (kk + 1) f fd ps (spD K ps.length p) := by
  obtain ⟨oc, od, kV, doc, pm, an, cdv, ct, osl, rfl, lk, hcd⟩ := F.ex
  refine ⟨fun vs H Q E h => h.1, fun A outer s H args us vs Q E hr hgd e0 hbd rv h => ?_⟩
  refine LamX.run_ofS lk hcd S hr e0 hbd rv h.1 fun hr' => ⟨_, hb cdv A outer s H E (by unfold codeOf; rw [lk]) hr' hgd, ?_⟩
  obtain ⟨_, ms, rs, C, k, e, ra, rc, q, fin, exc⟩ := h
  refine ⟨⟨H, ms⟩, _, _, _, RS.begin ra rc, (hP rs C k e q).2, fun x S' σ' cls d H' R xr z => exc x _ cls d H' R.rc R.keep xr z, fun σ' H' ⟨S', R, m, z⟩ => ?_, fun v H' ⟨r, S', σ', R, rr, z⟩ => ?_, fun _ _ ⟨_, _, _, z⟩ => z, fun _ _ ⟨_, _, _, z⟩ => z⟩
  · exact fin (.d .none) .non _ H' R.rc R.keep Dz.non z
  · exact fin r v _ H' R.rc R.keep rr z
/-- a weaker promise -/
theorem FnG.imp {P : Program} {w : World} {K : PySem.W.Frag} {mg : Str → Option Value} {base : Heap} {k n : Nat} {f : Addr} {fd : FuncData} {ps : List Str} {p p' : DP} (F : FnG P w K mg base k f fd ps (spD K n p)) (h : ∀ rs C k e, p' rs C k e → p rs C k e) : FnG P w K mg base k f fd ps (spD K n p') := by
  have g : ∀ vs H Q E, spD K n p' vs H Q E → spD K n p vs H Q E := fun vs H Q E ⟨h0, ms, rs, C, k, e, h1, h2, h3, h4, h5⟩ => ⟨h0, ms, rs, C, k, e, h1, h2, h _ _ _ _ h3, h4, h5⟩
  exact ⟨fun vs H Q E q => F.len vs H Q E (g _ _ _ _ q), fun A outer s H args us vs Q E hr hg he hb hv hs => F.run A outer s H args us vs Q E hr hg he hb hv (g _ _ _ _ hs)⟩
end
end D3
/-! D3h: the law's call behind the top, with tables of code objects. -/
namespace D3
open PySem PySem.Spec PyProof.Rows L2
/-- what a law promises: True for every script of at most 63 ints -/
def lawP : DP := fun rs C k _ => (∃ ns : List Int, ns.length ≤ 63 ∧ (∀ z ∈ ns, Builtin.Int.intBits z ≤ 1048576) ∧ rs = [.d (.list (ns.map .int))]) ∧ C = [] ∧ ∀ C', k (.d (.bool true)) C'
theorem DzA.ofInts {K : PySem.W.Frag} {H : Hp} : ∀ ns : List Int, DzA K H (ns.map V.int) (ns.map .int)
  | [] => .nil
  | n :: ns => .cons (.int n) (DzA.ofInts ns)
abbrev emptyTab : Obj := { cls := .none, data := .fields #[] }
section
variable [Tb] {P : Program} {w : World} {K : PySem.W.Frag} {mg mb : Str → Option Value} {k : Nat} {fa a : Addr} {fd : FuncData} {x : Str} {s1 : Shared} {vs : List Value} {ns : List Int}
/-- the call itself, from an abstract heap that knows the script and the tables at most -/
theorem law_run {H : Hp} {ts : List Addr} (hkb : K.In (hidT s1.heap H)) (hmod : Mod K mg (hidT s1.heap H)) (hg : s1.gens = #[]) (hr : Room k callerA) (F : FnG P w K mg (hidT s1.heap H) k fa fd [x] (spD K 1 lawP)) (hbind : BindsTo s1 fd ⟨[.ref a], []⟩ [(x, .ref a)])
    (hok : HOk P w H s1.heap) (hs : FzL K H a (ns.map V.int)) (hn : ns.length ≤ 63) (hbits : ∀ z ∈ ns, Builtin.Int.intBits z ≤ 1048576) (hO : ∀ b u, H b = some u → b ∈ ts ∨ ∃ o xs, u = .frz o (.lst xs)) (hT : ∀ p ∈ Tb.T, H p.1 = some (.tbl #[]))
    (hts : ∀ b ∈ ts, H b = some (.tbl #[]) ∧ s1.heap.get? b = some emptyTab ∧ ∃ c, PySem.W.CodeHd s1.heap c b) :
    codeAny (model P w) callerA (.call (.ref fa) ⟨[.ref a], []⟩) (fun r s' => r = .ok (.ret (.bool true)) ∧ OldK s1.heap s'.heap ∧ s'.os = s1.os ∧ AllBare s'.gens) s1 := by
  have env : Env0 P w K mg (hidT s1.heap H) callerA [] s1 H :=
    { frames := rfl, mod := hmod, bs := fun b o q => of_hidT q, bsz := Nat.le_of_eq (hidT_size _ _), funs := trivial, frf := fun b hb => absurd hb (List.not_mem_nil), hok := hok, bare := .of_eq hg }
  have promise : spD K 1 lawP [.ref a] H (fun v _ => v = .bl true) fun _ _ _ => False :=
    ⟨rfl, [], [.d (.list (ns.map .int))], [], fun r _ => r = .d (.bool true), fun _ _ => False, .cons (Dz.lst hs (.ofInts ns)) .nil, ⟨rfl, .nil, (fun n b xs e _ => by simp at e), fun p hp => .nil (hT p hp)⟩, ⟨⟨ns, hn, hbits, rfl⟩, rfl, fun _ => rfl⟩,
      fun r v C' H' _ _ rr e => by subst e; exact RR.bool rr, fun _ _ _ _ _ _ _ _ z => z⟩
  refine codeAny_mono (F.run callerA [] s1 H ⟨[.ref a], []⟩ [.ref a] [.ref a] _ _ hr rfl env hbind (.cons rfl .nil) promise) fun r s' h => ?_
  match r, h with
  | .error ev, h =>
    obtain ⟨_, _, _, _, _, _, _, _, _, _, _, _, z⟩ := h
    exact z.elim
  | .ok (.ret u), h =>
    obtain ⟨v, H', os, bare, un, hok', rv, e⟩ := h
    subst e
    cases (show u = Value.bool true from rv)
    have stays : ∀ b o, b ∉ ts → s1.heap.get? b = some o → s'.heap.get? b = some o := fun b o nb q => by
      match hb : H b with
      | none => exact un.keep b o q hb (List.not_mem_nil) (List.not_mem_nil)
      | some u' =>
        rcases hO b u' hb with z | ⟨ob, xs, z⟩
        · exact absurd z nb
        · subst z
          obtain ⟨e1, _⟩ := hok b _ hb
          obtain ⟨e2, _⟩ := hok' b _ (un.frzs b ob _ hb)
          cases q.symm.trans e1
          exact e2
    have grows : ∀ b ∈ ts, ∃ more : Array Value, s'.heap.get? b = some { cls := .none, data := .fields more } := fun b hb => by
      obtain ⟨more, z⟩ := un.tbls b #[] (hts b hb).1
      exact ⟨_, hok' b _ z⟩
    refine ⟨rfl, ⟨fun b o q => ?_, fun b o q => ?_⟩, os, bare⟩
    · by_cases hb : b ∈ ts
      · obtain ⟨more, hm⟩ := grows b hb
        obtain ⟨_, h2, c, h3⟩ := hts b hb
        cases q.symm.trans h2
        exact .inr (.inl ⟨(h3.tab h2).isCodeTable, rfl, #[], more, rfl, by rw [Array.empty_append]; exact hm⟩)
      · exact .inl (stays b o hb q)
    · by_cases hb : b ∈ ts
      · obtain ⟨more, hm⟩ := grows b hb
        exact ⟨_, hm⟩
      · exact ⟨o, stays b o hb q⟩
/-- what K knows of the heap stands also where the script and the tables are set apart -/
theorem law_any {cs : List (Addr × Addr)} (KX : K.In s1.heap) (hns : s1.heap.Ns mainGlobals mg) (hb : s1.heap.Ns builtinsNs mb) (hbb : ∀ y : Str, y ≠ "__name__" → mb y = bootBuiltins y) (hlim : s1.heap.NoLimit) (hg : s1.gens = #[])
    (hT : ∀ p ∈ cs, s1.heap.get? p.2 = some emptyTab) (nT : ∀ p ∈ cs, K.lookup p.2 = none) (hC : ∀ p ∈ cs, PySem.W.CodeHd s1.heap p.1 p.2) (hTb : ∀ p ∈ Tb.T, ∃ c, (c, p.1) ∈ cs)
    (hbm : ∃ (bm : Addr) (ob : Obj), mg "__builtins__" = some (.ref bm) ∧ bm ≠ builtinsNs ∧ s1.heap.get? bm = some ob ∧ ob.cls = .type "module" ∧ ob.dict = some builtinsNs ∧ ob.data = .plain)
    (ha : s1.heap.get? a = some { cls := .type "list", data := .seq vs.toArray }) (hi : IntsAre vs ns) (hn : ns.length ≤ 63) (hbits : ∀ z ∈ ns, Builtin.Int.intBits z ≤ 1048576) (hr : Room k callerA)
    (F : ∀ base : Heap, K.In base → base.Ns mainGlobals mg → (∀ p ∈ cs, LamX.TabB base mg p.1 p.2) → FnG P w K mg base k fa fd [x] (spD K 1 lawP)) (hbind : BindsTo s1 fd ⟨[.ref a], []⟩ [(x, .ref a)]) :
    codeAny (model P w) callerA (.call (.ref fa) ⟨[.ref a], []⟩) (fun r s' => r = .ok (.ret (.bool true)) ∧ OldK s1.heap s'.heap ∧ s'.os = s1.os ∧ AllBare s'.gens) s1 := by
  have hv : Vals (ns.map V.int) vs := vals_ints hi
  have hz : vs.length ≤ sizeLine := by
    have l := hv.length
    rw [List.length_map] at l
    rw [sizeLine_eq]
    omega
  have inTs : ∀ p ∈ cs, p.2 ∈ cs.map (·.2) := fun p hp => List.mem_map.mpr ⟨p, hp, rfl⟩
  have ofTs : ∀ b ∈ cs.map (·.2), ∃ c, (c, b) ∈ cs := fun b hb => by
    obtain ⟨⟨c, b'⟩, hp, e⟩ := List.mem_map.mp hb
    subst e
    exact ⟨c, hp⟩
  have aT : a ∉ cs.map (·.2) := fun z => by
    obtain ⟨c, hc⟩ := ofTs a z
    have q := ha.symm.trans (hT _ hc)
    cases q
  -- the heap's other part, for an H that tracks the script and the tables
  have go : ∀ H : Hp, (∀ b u, H b = some u → (b ∈ cs.map (·.2) ∧ u = .tbl #[]) ∨ (b = a ∧ K.lookup a = none ∧ ∃ o xs, u = .frz o (.lst xs))) → (∀ b ∈ cs.map (·.2), H b = some (.tbl #[])) → HOk P w H s1.heap → FzL K H a (ns.map V.int) →
      codeAny (model P w) callerA (.call (.ref fa) ⟨[.ref a], []⟩) (fun r s' => r = .ok (.ret (.bool true)) ∧ OldK s1.heap s'.heap ∧ s'.os = s1.os ∧ AllBare s'.gens) s1 := by
    intro H at_ hTs hok hs
    have stays : ∀ {b : Addr} {o : Obj}, s1.heap.get? b = some o → b ≠ a ∨ K.lookup a ≠ none → o ≠ emptyTab → (hidT s1.heap H).get? b = some o := fun {b o} q h1 h2 => by
      refine hidT_get q ?_
      match hb : H b with
      | none => rfl
      | some u =>
        rcases at_ b u hb with ⟨z, _⟩ | ⟨z1, z2, _⟩
        · obtain ⟨c, hc⟩ := ofTs b z
          have e := q.symm.trans (hT _ hc)
          exact absurd (Option.some.inj e) h2
        · exact (h1.elim (fun n => n z1) (fun n => n z2)).elim
    have ns_ : ∀ {b : Addr} {m : Str → Option Value}, s1.heap.Ns b m → (hidT s1.heap H).Ns b m := by
      rintro b m ⟨o, es, ep, q, dt, r⟩
      refine ⟨o, es, ep, stays q (.inl fun e => ?_) (fun e => ?_), dt, r⟩
      · subst e
        cases ha.symm.trans q
        cases dt
      · subst e
        cases dt
    have kb : K.In (hidT s1.heap H) := by
      intro b o q
      refine hidT_get (KX b o q) ?_
      match hb : H b with
      | none => rfl
      | some u =>
        rcases at_ b u hb with ⟨z, _⟩ | ⟨rfl, z2, _⟩
        · obtain ⟨c, hc⟩ := ofTs b z
          have e := q.symm.trans (nT _ hc)
          cases e
        · cases z2.symm.trans q
    have TB : ∀ p ∈ cs, LamX.TabB (hidT s1.heap H) mg p.1 p.2 := fun p hp => by
      have hTp := hT p hp
      refine ⟨?_, ?_, fun z => ?_⟩
      · obtain ⟨o, us, file, tf, flags, tg, inF, text, tt, e1, r1, r2, r3, r4, r5, r6, r7, r8, hne⟩ := hC p hp
        refine ⟨o, us, file, tf, flags, tg, inF, text, tt, stays e1 (.inl fun e => ?_) (fun e => ?_), r1, r2, r3, r4, r5, r6, r7, r8, hne⟩
        · rw [e] at e1
          cases ha.symm.trans e1
          cases r2
        · subst e
          cases r1
      · obtain ⟨bm, ob, b1, b2, b3, b4, b5, b6⟩ := hbm
        have nG : bm ≠ mainGlobals := fun q => by
          obtain ⟨o, es, ep, e, hd, _⟩ := hns
          rw [q] at b3
          cases b3.symm.trans e
          cases b6.symm.trans hd
        have nP : bm ≠ p.2 := fun q => by
          rw [q] at b3
          cases b3.symm.trans hTp
          cases b6
        refine ⟨bm, ob, b1, b2, nG, nP, stays b3 (.inl fun e => ?_) (fun e => ?_), b4, b5, b6⟩
        · rw [e] at b3
          cases ha.symm.trans b3
          cases b6
        · subst e
          cases b6
      · obtain ⟨o, es, ep, e, hd, _⟩ := hns
        rw [z] at e
        cases e.symm.trans hTp
        cases hd
    obtain ⟨mc, l1, l2⟩ := hlim
    refine law_run (ts := cs.map (·.2)) kb ⟨kb, ns_ hns, ⟨mb, ns_ hb, hbb⟩, ⟨mc, ns_ l1, l2⟩⟩ hg hr (F _ kb (ns_ hns) TB) hbind hok hs hn hbits (fun b u hb => (at_ b u hb).elim (fun z => .inl z.1) (fun z => .inr z.2.2)) (fun p hp => ?_) fun b hb => ?_
    · obtain ⟨c, hc⟩ := hTb p hp
      exact hTs _ (inTs _ hc)
    · obtain ⟨c, hc⟩ := ofTs b hb
      exact ⟨hTs b hb, hT _ hc, c, hC _ hc⟩
  have tabOk : ∀ b ∈ cs.map (·.2), s1.heap.get? b = some emptyTab := fun b hb => by
    obtain ⟨c, hc⟩ := ofTs b hb
    exact hT _ hc
  match hk : K.lookup a with
  | some o =>
    cases ha.symm.trans (KX a o hk)
    have own : ∀ b u, (fun b => if b ∈ cs.map (·.2) then some (HO.tbl #[]) else none) b = some u → b ∈ cs.map (·.2) ∧ u = .tbl #[] := fun b u z => by
      by_cases hb : b ∈ cs.map (·.2)
      · cases (if_pos hb).symm.trans z
        exact ⟨hb, rfl⟩
      · cases (if_neg hb).symm.trans z
    refine go (fun b => if b ∈ cs.map (·.2) then some (.tbl #[]) else none) (fun b u z => .inl (own b u z)) (fun b hb => if_pos hb) (fun b u z => ?_) (.inr ⟨vs.toArray, _, hk, by simpa using hz, by simpa using hv⟩)
    obtain ⟨h1, rfl⟩ := own b u z
    exact tabOk b h1
  | none =>
    have own : ∀ b u, (fun b => if b = a then some (HO.frz { cls := .type "list", data := .seq vs.toArray } (.lst (ns.map V.int))) else if b ∈ cs.map (·.2) then some (HO.tbl #[]) else none) b = some u → (b ∈ cs.map (·.2) ∧ u = .tbl #[]) ∨ (b = a ∧ u = .frz { cls := .type "list", data := .seq vs.toArray } (.lst (ns.map V.int))) := fun b u z => by
      by_cases hb : b = a
      · cases (if_pos hb).symm.trans z
        exact .inr ⟨hb, rfl⟩
      · have z1 := (if_neg hb).symm.trans z
        by_cases hb2 : b ∈ cs.map (·.2)
        · cases (if_pos hb2).symm.trans z1
          exact .inl ⟨hb2, rfl⟩
        · cases (if_neg hb2).symm.trans z1
    refine go (fun b => if b = a then some (.frz { cls := .type "list", data := .seq vs.toArray } (.lst (ns.map V.int))) else if b ∈ cs.map (·.2) then some (.tbl #[]) else none) (fun b u z => (own b u z).imp id fun ⟨e1, e2⟩ => ⟨e1, hk, _, _, e2⟩)
      (fun b hb => (if_neg (show ¬ b = a from fun z => aT (z ▸ hb))).trans (if_pos hb)) (fun b u z => ?_) (.inl ⟨_, if_pos rfl⟩)
    rcases own b u z with ⟨h1, rfl⟩ | ⟨rfl, rfl⟩
    · exact tabOk b h1
    · exact ⟨ha, by rw [List.length_map]; have l := hv.length; rw [List.length_map] at l; rw [sizeLine_eq]; omega, vs, _, hv, ha⟩
end
/-- what is known of the law's promise at the heap h -/
def LawG (l : PySem.W.OpenLaw) (w : World) (K : PySem.W.Frag) (k : Nat) (x : Str) (mg : Str → Option Value) (fa : Addr) (h : Heap) : Prop :=
  ∃ (fd : FuncData) (T : Tb) (cs : List (Addr × Addr)), (∀ p ∈ cs, h.get? p.2 = some emptyTab) ∧ (∀ p ∈ cs, K.lookup p.2 = none) ∧ (∀ p ∈ cs, PySem.W.CodeHd h p.1 p.2) ∧ (∀ p ∈ T.T, ∃ c, (c, p.1) ∈ cs) ∧ (∀ (s : Shared) (u : Value), BindsTo s fd ⟨[u], []⟩ [(x, u)]) ∧
    ∀ base : Heap, K.In base → base.Ns mainGlobals mg → (∀ p ∈ cs, LamX.TabB base mg p.1 p.2) → FnG l.prog w K mg base k fa fd [x] (spD K 1 lawP)
/-- the goal that k_head leaves, from the law's promise -/
theorem walkG {l : PySem.W.OpenLaw} {k : Nat} {q : Program} {loose : List Str} {XP : (Str → Option Value) → Heap → Prop} {YP : World → Heap → Prop} {d : DefRec} {K : Params → PySem.W.Frag} {x : Str}
    (hn : l.most = some 63) (hdf : d.params.defaults = []) (hr : Room k callerA) (hY : ∀ (w : World) (h : Heap), YP w h → (K w.params).In h)
    (F : ∀ (w : World) (mg : Str → Option Value) (fa : Addr) (h : Heap), YP w h → (K w.params).In h → h.Ns mainGlobals mg → mg d.name = some (.ref fa) → LawG l w (K w.params) k x mg fa h) :
    PySem.W.WalkO q loose XP YP l.row.toRowW d [] (fun f vs => PySem.call f vs) := by
  refine Att.attach_callB hn hdf fun w s0 s1 mg mb fa o pm cd doc a vs ns G Y _ _ _ hmg hobj hints hlen hbits hg => ?_
  obtain ⟨fd, T, cs, c1, c2, c3, c4, hb, hF⟩ := F w mg fa _ Y (hY w _ Y) G.T.g hmg
  exact law_any (hY w _ Y) G.T.g G.T.b G.T.builtins G.T.nolimit hg c1 c2 c3 c4 G.T.bmain hobj hints hlen hbits hr hF (hb s1 _)
end D3
/-! D3i: stores into lists; slices; isinstance; repr. -/
namespace D3
open PySem PySem.Spec PyProof.Rows L2
section
variable [Tb]
section
variable {K : PySem.W.Frag} {B : B3} {σ : L2.St} {H : Hp} {S : S3}
/-- a slot's own list is written -/
theorem RS.putO (R : RS K B σ H S) {i : Nat} {xs ys : List PyData} {a : Addr} {vs ws : List V} (e : S.G[i]? = some (some (.own xs))) (ea : σ[i]? = some (some (.ref a))) (h : H a = some (.lst vs)) (h0 : B.H0 a = none) (hm : a ∉ B.ms) (z : DzA K H ws ys) :
    RS K B σ (upd H a (.lst ws)) { S with G := S.G.set i (some (.own ys)) } ∧ Mono H (upd H a (.lst ws)) := by
  have m : Mono H (upd H a (.lst ws)) := .at_ h nfz_lst
  have hi : i < S.G.length := (List.getElem?_eq_some_iff.mp e).1
  refine ⟨⟨fun j r q => ?_, fun j k p q v ne e1 e2 e3 e4 => ?_, R.cn, R.nd, fun n b p e1 e2 => ?_, fun b u e1 e2 => ?_, by simp [R.len], tabs_at R.tabs h⟩, m⟩
  · rcases set_get q with ⟨rfl, q, _⟩ | ⟨ne, q⟩
    · cases q
      exact ⟨_, ea, a, ws, rfl, upd_same, z.mono m, h0, hm⟩
    · obtain ⟨v, h1, h2⟩ := R.slot j r q
      refine ⟨v, h1, ?_⟩
      cases r with
      | own p =>
        obtain ⟨b, us, q1, q2, q3, q4⟩ := h2
        have hb : b ≠ a := fun zz => by
          subst zz
          exact R.sep i j _ _ _ ne e q ea (by rw [h1, q1])
        exact ⟨b, us, q1, by rw [upd_ne hb]; exact q2, q3.mono m, q4⟩
      | _ => exact h2.mono m (fun _ z => nomatch z)
  · have back : ∀ {j : Nat} {p : List PyData}, (S.G.set i (some (.own ys)))[j]? = some (some (.own p)) → ∃ p', S.G[j]? = some (some (.own p')) := fun {j p} q => by
      rcases set_get q with ⟨rfl, _, _⟩ | ⟨_, q⟩
      · exact ⟨xs, e⟩
      · exact ⟨p, q⟩
    obtain ⟨p1, f1⟩ := back e1
    obtain ⟨p2, f2⟩ := back e2
    exact R.sep j k p1 p2 v ne f1 f2 e3 e4
  · obtain ⟨us, q1, q2⟩ := R.cell n b p e1 e2
    have hb : b ≠ a := fun zz => hm (by rw [← zz]; exact List.mem_of_getElem? e1)
    exact ⟨us, by rw [upd_ne hb]; exact q1, q2.mono m⟩
  · have hb : b ≠ a := fun zz => by
      subst zz
      rw [h0] at e1
      cases e1
    rw [upd_ne hb]
    exact R.keep b u e1 e2
/-- a cell is written -/
theorem RS.putC (R : RS K B σ H S) {n : Nat} {ys : List PyData} {a : Addr} {vs ws : List V} (e : B.ms[n]? = some a) (h : H a = some (.lst vs)) (z : DzA K H ws ys) :
    RS K B σ (upd H a (.lst ws)) { S with C := S.C.set n ys } ∧ Mono H (upd H a (.lst ws)) := by
  have m : Mono H (upd H a (.lst ws)) := .at_ h nfz_lst
  have ha : a ∈ B.ms := List.mem_of_getElem? e
  refine ⟨⟨fun j r q => ?_, R.sep, by simpa using R.cn, R.nd, fun n' b p e1 e2 => ?_, fun b u e1 e2 => ?_, R.len, tabs_at R.tabs h⟩, m⟩
  · obtain ⟨v, h1, h2⟩ := R.slot j r q
    refine ⟨v, h1, ?_⟩
    cases r with
    | own p =>
      obtain ⟨b, us, q1, q2, q3, q4, q5⟩ := h2
      have hb : b ≠ a := fun zz => q5 (zz ▸ ha)
      exact ⟨b, us, q1, by rw [upd_ne hb]; exact q2, q3.mono m, q4, q5⟩
    | _ => exact h2.mono m (fun _ z => nomatch z)
  · by_cases hb : b = a
    · subst hb
      have en : n' = n := by
        obtain ⟨l1, g1⟩ := List.getElem?_eq_some_iff.mp e1
        obtain ⟨l2, g2⟩ := List.getElem?_eq_some_iff.mp e
        exact (List.getElem_inj R.nd).mp (g1.trans g2.symm)
      subst en
      have hl : n' < S.C.length := by
        have := (List.getElem?_eq_some_iff.mp e2).1
        simpa using this
      rw [List.getElem?_set_self hl] at e2
      cases e2
      exact ⟨ws, upd_same, z.mono m⟩
    · have en : n ≠ n' := fun zz => by
        subst zz
        rw [e] at e1
        exact hb (Option.some.inj e1).symm
      rw [List.getElem?_set_ne en] at e2
      obtain ⟨us, q1, q2⟩ := R.cell n' b p e1 e2
      exact ⟨us, by rw [upd_ne hb]; exact q1, q2.mono m⟩
  · have hb : b ≠ a := fun zz => e2 (zz ▸ ha)
    rw [upd_ne hb]
    exact R.keep b u e1 e2
end
section
variable {X : Cx} {W : WX} {e ix : Expr} {es : List Expr} {te ti ta tb : DTE} {x : Str} {i : Nat} {pos p p2 p3 p4 : Pos}
/-- x.append(e), x a list of one's own -/
def dApp (i : Nat) (te : DTE) : DTS := fun D S er => (∃ xs, S.G[i]? = some (some (.own xs))) ∧ te S (fun r S1 => match S1.G[i]?, r with
  | some (some (.own xs)), .d y => xs.length < sizeLine ∧ D.nx { S1 with G := S1.G.set i (some (.own (xs ++ [y]))) }
  | _, _ => False) er
theorem ds_app {c : Expr} (hc : c = .Call (.Attribute (.Name x p) "append" p2) [e] [] p3) (hN : X.N[i]? = some x) (hv : Vis X.env.scope x) (he : DE X W e te) (hs : swapsWith c none pos.line X.env = pure false)
    (hbase : attributeBase (.Name x p) "append" X.env (eval (.Name x p) X.env) = eval (.Name x p) X.env)
    (hfew : ((backTo p3 (starEach (e :: []) X.env)).all (fun x => !x.1) && (backToKw p3 (keywordEach [] X.env)).all (fun x => x.1.isSome) && decide ((e :: []).length + ([] : List Keyword).length + (if ([] : List Keyword).isEmpty then 0 else 1) < 30)) = true)
    (hline : (p2.endLine == p3.line) = true) (h1 : starEach (e :: []) X.env = (false, eval e X.env) :: starEach [] X.env) (hplain : (backTo p3 (starEach [] X.env)).any (·.1) = false)
    (hd : (x == ("__debug__" : Str)) = false) (hcd : (x == ("__classdict__" : Str)) = false) : DS X W (.Expr c pos) (dApp i te) := by
  subst hc
  refine .of (ps_expr (pe_bm PySem.F.plainAttrs_list PySem.F.slot_list_append PySem.F.type_list_append mt_append (pe_var (i := i) hN hv hd hcd) (da_cons (W := W) he da_nil h1) hbase hfew hline h1 hplain) hs) fun σ H B S D er R q hx => ?_
  obtain ⟨⟨xs, e0⟩, q⟩ := q
  obtain ⟨v, hσ, a, vs, rfl, g1, g2, g3, g4⟩ := R.slot i _ e0
  refine ⟨.ref a, hσ, .inl ⟨rfl, _, .of g1⟩, liftA.in (t := dCons te dNil) (k := fun rs S1 => ∃ r, rs = [r] ∧ (match S1.G[i]?, r with
    | some (some (.own xs)), .d y => xs.length < sizeLine ∧ D.nx { S1 with G := S1.G.set i (some (.own (xs ++ [y]))) }
    | _, _ => False)) R (one_arg q fun r S1 => ⟨fun z => ⟨r, rfl, z⟩, fun ⟨r', e', z⟩ => by cases e'; exact z⟩) hx fun us H1 rs S1 R1 m1 rrs q1 => ?_⟩
  obtain ⟨r, rfl, q1⟩ := q1
  obtain ⟨w, rfl, rr⟩ := rrs.one
  split at q1
  · rename_i ys y e1
    obtain ⟨v, hσ', a', vs', rfl, g1, g2, g3, g4⟩ := R1.slot i _ e1
    rw [hσ] at hσ'
    cases hσ'
    obtain ⟨R2, m2⟩ := R1.putO e1 hσ g1 g3 g4 (g2.app (.one rr))
    exact ⟨a, _, w, rfl, rfl, g1, by rw [g2.len]; exact q1.1, _, R2, m1.tr m2, q1.2⟩
  · exact q1.elim
/-- x[j] = e, x a list of one's own or a cell -/
def dPut (i : Nat) (ti te : DTE) : DTS := fun D S er => te S (fun r S1 => hasG S1 i ∧ ti S1 (fun q S2 => match S2.G[i]?, q, r with
  | some (some (.own xs)), .d (.int j), .d y => (match ixN xs.length j with
    | some n => D.nx { S2 with G := S2.G.set i (some (.own (xs.set n y))) }
    | none => False)
  | some (some (.cell c)), .d (.int j), .d y => (match S2.C[c]? with
    | some xs => (match ixN xs.length j with
      | some n => D.nx { S2 with C := S2.C.set c (xs.set n y) }
      | none => False)
    | none => False)
  | _, _, _ => False) er) er
theorem hasG.at_ {K : PySem.W.Frag} {B : B3} {σ : L2.St} {H : Hp} {S : S3} (R : RS K B σ H S) (h : hasG S i) : ∃ v, σ[i]? = some (some v) := by
  unfold hasG at h
  split at h
  · rename_i r e
    obtain ⟨v, q, _⟩ := R.slot i r e
    exact ⟨v, q⟩
  · exact h.elim
theorem ds_put (hN : X.N[i]? = some x) (hv : Vis X.env.scope x) (he : DE X W e te) (hi : DE X W ix ti)
    (hs : swapsWithSole [.Subscript (.Name x p) ix p2] e pos.line X.env = pure false := by rfl) (hw : swappedStores [.Subscript (.Name x p) ix p2] e X.env = pure none := by rfl)
    (h1 : (assignEach [.Subscript (.Name x p) ix p2] X.env).map (·.2) = [assign (.Subscript (.Name x p) ix p2) X.env] := by rfl)
    (ha : ∀ v, assign (.Subscript (.Name x p) ix p2) X.env v = (do
      let ov ← holding [v] (eval (.Name x p) X.env)
      let iv ← holding [v, ov] (eval ix X.env)
      standAt p2
      holding [v, ov, iv] (setItem ov iv v)
      release [v, ov, iv] []) := by intro _; rfl)
    (hd : (x == ("__debug__" : Str)) = false := by decide) (hcd : (x == ("__classdict__" : Str)) = false := by decide) :
    DS X W (.Assign [.Subscript (.Name x p) ix p2] e pos) (dPut i ti te) := by
  refine .of (ps_asg he (pg_sub (pe_var (i := i) hN hv hd hcd) hi set_list ha) hs hw h1) fun σ H B S D er R q hx => liftE.in (t := te) R q hx fun w H1 r S1 R1 m1 rr q1 => ?_
  obtain ⟨hg, q1⟩ := q1
  obtain ⟨v, hσ⟩ := hg.at_ R1
  refine ⟨v, hσ, liftE.in (t := ti) R1 q1 hx fun u H2 y S2 R2 m2 ry q2 => ?_⟩
  replace rr := rr.mono m2
  split at q2
  · rename_i xs j d e1
    cases (show Dz _ _ _ _ from ry)
    obtain ⟨v', hσ', a, vs, rfl, g1, g2, g3, g4⟩ := R2.slot i _ e1
    rw [hσ] at hσ'
    cases hσ'
    split at q2
    · rename_i n en
      obtain ⟨R3, m3⟩ := R2.putO e1 hσ g1 g3 g4 (g2.set n rr)
      exact ⟨a, _, j, n, rfl, rfl, g1, by rw [g2.len]; exact en, _, R3, (m1.tr m2).tr m3, q2⟩
    · exact q2.elim
  · rename_i c j d e1
    cases (show Dz _ _ _ _ from ry)
    obtain ⟨v', hσ', a, ea, rfl⟩ := R2.slot i _ e1
    rw [hσ] at hσ'
    cases hσ'
    split at q2
    · rename_i xs e2
      obtain ⟨vs, g1, g2⟩ := R2.cell c a xs ea e2
      split at q2
      · rename_i n en
        obtain ⟨R3, m3⟩ := R2.putC ea g1 (g2.set n rr)
        exact ⟨a, _, j, n, rfl, rfl, g1, by rw [g2.len]; exact en, _, R3, (m1.tr m2).tr m3, q2⟩
      · exact q2.elim
    · exact q2.elim
  · exact q2.elim

/-! ### isinstance -/
def tyD : PyData → String
  | .none => "NoneType"
  | .bool _ => "bool"
  | .int _ => "int"
  | .str _ => "str"
  | .list _ => "list"
  | .tuple _ => "tuple"
  | .dict _ => "dict"
theorem FzL.ty {K : PySem.W.Frag} {H : Hp} {a : Addr} {xs : List V} (h : FzL K H a xs) : TyX K H (.ref a) (.type "list") := by
  rcases h with ⟨o, h⟩ | ⟨its, n, h, _⟩
  · exact .base (.frz h)
  · exact .kList h rfl
theorem tyD_x {K : PySem.W.Frag} {H : Hp} : ∀ {x : PyData} {v : V}, Dz K H v x → TyX K H v (.type (tyD x))
  | .none, _, h => by cases h; exact .base .non
  | .bool b, _, h => by cases h; exact .base (.bl b)
  | .int i, _, h => by cases h; exact .base (.int i)
  | .str x, _, h => by cases h; exact .base (.str x)
  | .list ds, _, h => by
    cases h with
    | lst h1 _ => exact h1.ty
  | .tuple ds, _, h => by
    cases h with
    | tup h1 _ =>
      rcases h1 with (h1 | ⟨o, h1⟩) | ⟨o, its, n, h1, h2, _⟩
      · exact .base (.tup h1)
      · exact .fTuple h1
      · exact .kTuple h1 h2
  | .dict _, _, h => by
    cases h with
    | dct0 h1 => exact .fDict h1
def gIsi : List SV → (SV → Prop) → Prop := fun rs k => match rs with
  | [.d x, .raw (.ty n)] => (match kitB (tyD x) n with
    | some b => k (.d (.bool b))
    | none => False)
  | _ => False
theorem cIsi : CallD X (.builtin "isinstance") gIsi := .of call_isi fun σ H B S rs vs k R a q => by
  unfold gIsi at q
  split at q
  · obtain ⟨v, w, rfl, z, z'⟩ := a.two
    cases (show w = _ from z')
    split at q
    · rename_i b e
      exact ⟨_, _, _, _, b, rfl, .ty _, tyD_x z, kit_ty e, .d (.bool b), S, R, .rfl, Dz.bl b, rfl, q⟩
    · exact q.elim
  · exact q.elim

/-! ### repr -/
def gRepr : List SV → (SV → Prop) → Prop := fun rs k => match rs with
  | [.d x] => x.hasDict = false ∧ x.showable = true ∧ x.shown.length ≤ sizeLine ∧ x.depth ≤ 60 ∧ k (.d (.str x.shown))
  | _ => False
theorem cRepr (hgd : X.A.guards = some []) (hu : X.A.units + 64 < cLine) : CallD X (.builtin "repr") gRepr := by
  intro pins s σ H B S rs vs us k I R a rv q
  unfold gRepr at q
  split at q
  · rename_i x
    obtain ⟨hno, hs, hz, hd, q⟩ := q
    obtain ⟨v, rfl, z⟩ := a.one
    have z : Dz X.K H v x := z
    obtain ⟨u, rfl, ru⟩ := vals1 rv
    have fin : ∀ (h' : Heap) (u' : Tok) (tk : Nat), (∀ b o, s.heap.get? b = some o → h'.get? b = some o) → EP X pins σ (KD X.K B σ H fun r S' => S' = S ∧ k r) (.str x.shown u') { s with heap := h', toks := tk } := fun h' u' tk kp =>
      ⟨.str x.shown, H, I.kept kp, ⟨_, rfl⟩, .d (.str _), S, R, .rfl, Dz.str _, rfl, q⟩
    have ref : ∀ p, u = .ref p → wpAny (model X.prog X.w) X.A (call (.builtin "repr") [u]) (EP X pins σ (KD X.K B σ H fun r S' => S' = S ∧ k r)) X.xe s := by
      intro p e
      subst e
      obtain ⟨as, rd⟩ := Dp.reads I x v _ (Dz.dp _ _ hno z) ru
      exact PySem.repr_of_reads' rd hs (fun hh => absurd (hno.symm.trans hh) (by decide)) hgd (by omega) (fun b o e => e) (fun h' u' tk kp => fin h' u' tk kp) hz
    cases x with
    | none =>
      cases z
      cases (show u = _ from ru)
      refine PySem.P.repr_of_none ?_
      simpa [PyData.shown] using fin s.heap s.toks (s.toks + 1) fun _ _ e => e
    | bool b =>
      cases z
      cases (show u = _ from ru)
      refine PySem.P.repr_of_bool ?_
      simpa [PyData.shown] using fin s.heap s.toks (s.toks + 1) fun _ _ e => e
    | int i =>
      cases z
      obtain ⟨t, rfl⟩ := (show ∃ t, u = Value.int i t from ru)
      refine PySem.P.repr_of_int (by simpa [PyData.showable] using hs) ?_
      simpa [PyData.shown] using fin s.heap s.toks (s.toks + 1) fun _ _ e => e
    | str y =>
      cases z
      obtain ⟨t, rfl⟩ := (show ∃ t, u = Value.str y t from ru)
      refine PySem.P.repr_of_str ?_ (by simpa [PyData.shown] using hz)
      simpa [PyData.shown] using fin s.heap s.toks (s.toks + 1) fun _ _ e => e
    | list xs =>
      cases z with
      | lst h1 h2 => exact ref _ ru
    | tuple xs =>
      cases z with
      | tup h1 h2 => exact ref _ ru
    | dict kvs => simp [PyData.hasDict] at hno
  · exact q.elim
end
end
end D3
/-! D3j: raise; try with one clause that keeps the exception by a name. -/
namespace D3
open PySem PySem.Spec PyProof.Rows L2
section
variable [Tb]
/-! ### an object that was not tracked is tracked from now on -/
theorem trackInv {X : Cx} {pins : List (Addr × Obj)} {σ : L2.St} {H : Hp} {s : Shared} (I : Inv X pins σ H s) {a : Addr} {o : HO} (na : H a = none) (n0 : X.s_0.heap.get? a = none) (nL : a ≠ X.env.locals) (nC : ∀ x c, X.env.cells.lookup x = some c → c ≠ a)
    (np : ∀ p ∈ X.pn ++ pins, p.1 ≠ a) (new : ObjOk X.prog X.w (upd H a o) s.heap a o) : Inv X pins σ (upd H a o) s := by
  have old : ∀ {b : Addr} {u : HO}, H b = some u → upd H a o b = some u := fun {b u} e => by
    rw [upd_ne (ne_of_none e na)]
    exact e
  refine ⟨I.ok, I.os, I.bare, ⟨I.base.keep, I.base.slot, fun b u e n hx => ?_, I.base.there, fun b xs e => old (I.base.tups b xs e), fun b u v e => old (I.base.frzs b u v e), fun b ps e => ?_⟩, I.loc, I.cell, (upd_ne (Ne.symm nL)).trans I.free, fun x c e => (upd_ne (nC x c e)).trans (I.freeC x c e), fun p hp => ?_, fun b u e => ?_, I.len⟩
  · have hb : b ≠ a := fun z => by
      subst z
      rw [n0] at e
      cases e
    rw [upd_ne hb]
    exact I.base.free b u e n hx
  · obtain ⟨m, q⟩ := I.base.tbls b ps e
    exact ⟨m, old q⟩
  · obtain ⟨h1, h2, h3, h4, h5⟩ := I.pin p hp
    exact ⟨h1, (upd_ne (np p hp)).trans h2, h3, h4, h5⟩
  · by_cases hb : b = a
    · subst hb
      rw [upd_same] at e
      cases e
      exact new
    · rw [upd_ne hb] at e
      exact (I.hok b u e).stay (fun _ _ _ q => q) (fun c q => old q) fun c xs q => old q
/-- what is known of an exception that a name holds -/
abbrev excHO (a : Addr) (cls : Value) (d : Option Addr) : HO := .ext fun h => ∃ oe, h.get? a = some oe ∧ (oe.cls = cls ∧ oe.dict = d) ∧ ∃ vs, oe.data = .fields vs
/-- the class expression of a clause: what it names catches every exception whose class is good -/
def ClauseOk (X : Cx) (ce : Expr) (good : Addr → Prop) : Prop :=
  ∀ (a : Addr) (oe : Obj) (pn : List (Addr × Obj)) (σ : L2.St) (H : Hp) (s : Shared) (C : Addr) (Q : Value → Shared → Prop) (E : Value → Shared → Prop), Inv (X.suite a ((a, oe) :: pn)) [] σ H s → s.heap.get? a = some oe → oe.cls = .ref C → good C →
    (∀ c h', (∀ b o, s.heap.get? b = some o → h'.get? b = some o) → PySem.W.Looks (model X.prog X.w) h' (excMatches (.ref a) c) true → Q c { s with heap := h' }) →
    wpAny (model X.prog X.w) (X.A.mark (some (.ref a))) (eval ce X.env) Q E s
theorem clause_one {X : Cx} {x : Str} {D : Addr} {p : Pos} {good : Addr → Prop} (hg : Gl X x) (hm : X.mg x = some (.ref D)) (h : ∀ C, good C → PySem.W.exmOne X.K (.ref C) (.ref D) = some true) (hd : (x == ("__debug__" : Str)) = false := by decide) : ClauseOk X (.Name x p) good :=
  fun a oe pn σ H s C Q E I e hc g q => ld_glob (X := X.suite a ((a, oe) :: pn)) I hg hm (q _ s.heap (fun _ _ z => z) (PySem.W.exm_one I.kIn (fun A Q E s1 k z => wpAny_typeOf_ref (k _ _ e) (by rw [hc]; exact z)) (h C g))) hd
theorem clause_two {X : Cx} {x y : Str} {D D2 : Addr} {p p2 p3 : Pos} {n : Nat} {good : Addr → Prop} (hg : Gl X x) (hm : X.mg x = some (.ref D)) (hg2 : Gl X y) (hm2 : X.mg y = some (.ref D2))
    (h : ∀ C, good C → PySem.W.exmAny X.K (.ref C) [.ref D, .ref D2] = some true) (hd : (x == ("__debug__" : Str)) = false := by decide) (hd2 : (y == ("__debug__" : Str)) = false := by decide) :
    ClauseOk X (.Tuple [.Name x p, .Name y p2] n p3) good := by
  intro a oe pn σ H s C Q E I e hc g q
  refine Tuple_ ?_
  show wpAny _ _ (spliced [(false, eval (.Name x p) X.env), (false, eval (.Name y p2) X.env)]) _ _ s
  refine Calls.spliced_cons (ld_glob (X := X.suite a ((a, oe) :: pn)) I hg hm ?_ hd)
  refine Calls.spliced_cons (ld_glob (X := X.suite a ((a, oe) :: pn)) I hg2 hm2 ?_ hd2)
  refine Calls.spliced_nil (wpAny_newObj_type ?_ (by show 2 ≤ sizeLine; decide))
  have kp : ∀ b o, s.heap.get? b = some o → (s.heap.push { cls := .type "tuple", data := .seq [Value.ref D, .ref D2].toArray }).get? b = some o := fun b o z => Heap.get?_push_of_some _ z
  exact q _ _ kp (PySem.W.exm_tup2 (I.kIn.keeps kp) (fun A Q E s1 k z => wpAny_typeOf_ref (k _ _ (kp _ _ e)) (by rw [hc]; exact z)) (Heap.get?_push_size _ rfl) (h C g))
theorem clause_three {X : Cx} {x y z : Str} {D D2 D4 : Addr} {p p2 p3 p4 : Pos} {n : Nat} {good : Addr → Prop} (hg : Gl X x) (hm : X.mg x = some (.ref D)) (hg2 : Gl X y) (hm2 : X.mg y = some (.ref D2)) (hg3 : Gl X z) (hm3 : X.mg z = some (.ref D4))
    (h : ∀ C, good C → PySem.W.exmAny X.K (.ref C) [.ref D, .ref D2, .ref D4] = some true) (hd : (x == ("__debug__" : Str)) = false := by decide) (hd2 : (y == ("__debug__" : Str)) = false := by decide) (hd3 : (z == ("__debug__" : Str)) = false := by decide) :
    ClauseOk X (.Tuple [.Name x p, .Name y p2, .Name z p3] n p4) good := by
  intro a oe pn σ H s C Q E I e hc g q
  refine Tuple_ ?_
  show wpAny _ _ (spliced [(false, eval (.Name x p) X.env), (false, eval (.Name y p2) X.env), (false, eval (.Name z p3) X.env)]) _ _ s
  refine Calls.spliced_cons (ld_glob (X := X.suite a ((a, oe) :: pn)) I hg hm ?_ hd)
  refine Calls.spliced_cons (ld_glob (X := X.suite a ((a, oe) :: pn)) I hg2 hm2 ?_ hd2)
  refine Calls.spliced_cons (ld_glob (X := X.suite a ((a, oe) :: pn)) I hg3 hm3 ?_ hd3)
  refine Calls.spliced_nil (wpAny_newObj_type ?_ (by show 3 ≤ sizeLine; decide))
  have kp : ∀ b o, s.heap.get? b = some o → (s.heap.push { cls := .type "tuple", data := .seq [Value.ref D, .ref D2, .ref D4].toArray }).get? b = some o := fun b o z => Heap.get?_push_of_some _ z
  exact q _ _ kp (PySem.W.exm_tup3 (I.kIn.keeps kp) (fun A Q E s1 k z => wpAny_typeOf_ref (k _ _ (kp _ _ e)) (by rw [hc]; exact z)) (Heap.get?_push_size _ rfl) (h C g))
theorem flying_keeps {B : Heap} {l : List Env} {a : Addr} {Z : Obj → Prop} {h h' : Heap} (f : HandSPX.FlyingZ B l a Z h) (k : ∀ b o, h.get? b = some o → h'.get? b = some o) : HandSPX.FlyingZ B l a Z h' := by
  obtain ⟨f1, f2, f3, oe, vs, T, oT, ts, g1, g2, g3, g4, g5, g6, g7, g8, g9⟩ := f
  exact ⟨fun b o e => k b o (f1 b o e), f2, Heap.FunFrames.of_keeps (fun b o e _ => ⟨o, k b o e, rfl⟩) f3, oe, vs, T, oT, ts, k _ _ g1, g2, g3, g4, g5, g6, k _ _ g7, g8, g9⟩
/-- what is wanted of an exception of the body: it is caught, and the name x holds it behind the clause -/
def wLaw (good : Addr → Prop) (i j : Nat) (D : Ends) : WX := fun cls d σ H => (∃ C, cls = .ref C ∧ good C) ∧ ∀ a, H a = none → D.nx (((σ.set i (some (.ref a))).set j (some (.ref a))).set i none) (upd H a (excHO a cls d))
section
variable {X : Cx} {n x : Str} {i j : Nat} {body : List Stmt} {ce : Expr} {p1 p2 p3 p4 p5 : Pos} {good : Addr → Prop}
theorem ps_try_law {tb : WX → TS} (hex : X.ex = []) (hs : X.stack = X.env :: X.outer) (hf : X.env.frame = some X.env.locals) (hN : X.N.Nodup) (hi : X.N[i]? = some n) (hj : X.N[j]? = some x) (hn : X.env.scope.names.lookup n = some .local) (hx : Loc X.env.scope x) (hfx : X.fn x = true ∨ X.env.scope.names.lookup x = some .local)
    (hcl : ClauseOk X ce good) (hd : (n == ("__debug__" : Str)) = false) (hcd : (n == ("__classdict__" : Str)) = false) (hsw : swapsWith (.Name n p2) (some (.Name x p1)) p3.line X.env = pure false)
    (hb : ∀ (W : WX) (pn : List (Addr × Obj)) (xe : Value → Shared → Prop), Takes (X.tr pn xe) W → PassesOwn (model X.prog X.w) X.A X.env xe → PSs (X.tr pn xe) body (tb W)) :
    PS X (.Try body [.ExceptHandler (some ce) (some n) [.Assign [.Name x p1] (.Name n p2) p3] p4] [] [] p5) (fun D σ H => tb (wLaw good i j D) D σ H) := by
  refine ⟨fun pins s σ H D I h => wpAny_Try_except ?_⟩
  have ok := I.ok
  refine wpAny_mono ((hb (wLaw good i j D) (X.pn ++ pins) _ (fun u s' air => ?air) PassesOwn.looking).run [] s σ H D (I.toTry _) h) (fun f s1 hsp => ?fine) (fun e s1 he => he)
  case fine =>
    match f, hsp with
    | .next, ⟨σ1, H1, J, q⟩ => exact wpAny_execs_nil ⟨σ1, H1, J.ofTry ok, q⟩
    | .brk, ⟨σ1, H1, J, q⟩ => exact ⟨σ1, H1, J.ofTry ok, q⟩
    | .cont, ⟨σ1, H1, J, q⟩ => exact ⟨σ1, H1, J.ofTry ok, q⟩
    | .ret v, ⟨w, σ1, H1, J, r, q⟩ => exact ⟨w, σ1, H1, J.ofTry ok, r, q⟩
  case air =>
    obtain ⟨a, G, sI, pins', σ1, H1, cls, d, rfl, J', nG, up, sky, na, os, ag, ⟨C, rfl, gC⟩, want⟩ := air
    have J : Inv X pins σ1 H1 sI := J'.ofTry ok
    have frames : X.A.frames = some (X.env :: X.outer) := ok.frames.trans (by rw [hs])
    show wpAny (model X.prog X.w) X.A (noteFrame (.ref a) X.env) _ _ _
    refine Sky.land Zc.steady frames hf (hs ▸ sky) fun h1 fly1 up1 => ?_
    -- the exception's address is new to the frames, to the state ahead of it, to the entry
    obtain ⟨oe1, vs1, e1, z1, d1⟩ := fly1.there
    have nfr : a ∉ frs (X.env :: X.outer) := fun hm => by
      obtain ⟨_, o', e', hnf⟩ := fly1.2.2.1.mem hm
      cases e1.symm.trans e'
      exact hnf _ d1
    have nL : a ≠ X.env.locals := fun z => nfr (List.mem_filterMap.mpr ⟨X.env, by simp, by rw [hf, z]⟩)
    have nF : a ∉ X.fs := fun hm => by
      obtain ⟨en, h2, h3⟩ := List.mem_filterMap.mp hm
      exact nfr (List.mem_filterMap.mpr ⟨en, by simp [h2], h3⟩)
    have nI : sI.heap.get? a = none := by
      cases q : sI.heap.get? a with
      | none => rfl
      | some o =>
        have q2 := nG a o q (by rw [hs]; exact nfr)
        rw [fly1.2.1] at q2
        cases q2
    have n0 : X.s_0.heap.get? a = none := by
      cases q : X.s_0.heap.get? a with
      | none => rfl
      | some o =>
        obtain ⟨o', q2⟩ := J.base.there a o q (by rw [hex]; exact List.not_mem_nil)
        rw [nI] at q2
        cases q2
    have J1 : Inv X pins σ1 H1 { s' with heap := h1 } := J.landed nG fly1.1 (up.trans up1) os ag
    have S1 := J1.suite e1 d1 na nL nF
    refine wpAny_handleBy_cons (codeAny_handlers_test ?_) (fun q => nomatch q)
    refine hcl a oe1 _ σ1 H1 _ C _ _ S1 e1 z1.1 gC fun c h2 kp lk => lk.here ?_
    have fly2 := flying_keeps fly1 kp
    refine codeAny_handlers_suite_as (HandSPX.lands_againZ fly2 fun h3 fly3 up3 => ?_)
    obtain ⟨oe3, vs3, e3, z3, d3⟩ := fly3.there
    have J3 : Inv X pins σ1 H1 { s' with heap := h3 } := J.landed nG fly3.1 (((up.trans up1).trans (Heap.UpToSlots.of_keeps kp)).trans up3) os ag
    have S3 := J3.suite e3 d3 na nL nF
    refine store_ok (X := X.suite a ((a, oe3) :: (X.pn ++ pins))) (v := .ref a) S3 hN hi (.inl hn) rfl (fun s4 S4 => ?_) (.inr hn)
    -- the suite: x = n
    have suite : PSs (X.suite a ((a, oe3) :: (X.pn ++ pins))) [.Assign [.Name x p1] (.Name n p2) p3] (tAsg (tVar i) (gName j)) :=
      pss_one (ps_set (X := X.suite a ((a, oe3) :: (X.pn ++ pins))) hN hj hx (pe_var (X := X.suite a ((a, oe3) :: (X.pn ++ pins))) hi (.inl hn) hd hcd) hsw hfx)
    have hl : i < σ1.length := by
      rw [J.len]
      exact (List.getElem?_eq_some_iff.mp hi).1
    refine wpAny_mono (suite.run [] s4 _ H1 { nx := fun σ' H' => σ' = (σ1.set i (some (.ref a))).set j (some (.ref a)) ∧ H' = H1, rt := fun _ _ => False } S4 ⟨.ref a, by rw [List.getElem?_set_self hl], rfl, rfl⟩) (fun f s5 hsp => ?_) (fun _ _ z => z.elim)
    match f, hsp with
    | .brk, ⟨_, _, _, q⟩ => exact q.elim
    | .cont, ⟨_, _, _, q⟩ => exact q.elim
    | .ret v, ⟨_, _, _, _, _, q⟩ => exact q.elim
    | .next, ⟨σ5, H5, S5, q1, q2⟩ =>
      subst q1 q2
      have pin5 := S5.pin (a, oe3) (by simp)
      have J5 : Inv X ((a, oe3) :: pins) _ H5 s5 := (S5.unsuite ok).pins_of fun p hp => by
        rcases List.mem_cons.mp hp with z | z
        · rw [z]
          exact ⟨pin5.1, pin5.2.1, nL, nF, pin5.2.2.2.2⟩
        · exact (S5.unsuite ok).pin p (List.mem_append_right _ z)
      refine gone_ok J5 hN hi hn fun s6 J6 => ?_
      have e6 := (J6.pin (a, oe3) (by simp)).1
      have J7 : Inv X pins _ H5 s6 := J6.pins_of fun p hp => J6.pin p (List.mem_append_right _ (List.mem_cons_of_mem _ hp))
      refine ⟨_, _, trackInv (o := excHO a (.ref C) d) J7 na n0 nL (fun y c ec z => ?_) (fun p hp z => ?_) ⟨⟨oe3, e6, z3, vs3, d3⟩, ⟨oe3, e6⟩, fun h8 h9 ⟨o, g1, g2, g3⟩ k => ⟨o, k _ g1, g2, g3⟩⟩, want a na⟩
      · obtain ⟨v, o, ho, _⟩ := J.cell y c ec
        rw [z, nI] at ho
        cases ho
      · have hp' := (J.pin p hp).1
        rw [z, nI] at hp'
        cases hp'
end
end
end D3
/-! D3k: try, raise, isinstance of what was caught; {}; pairs stored by captured names. -/
namespace D3
open PySem PySem.Spec PyProof.Rows L2
section
variable [Tb]
/-! ### a base that holds all that never changes -/
open Classical in
/-- the base, and all of H that never changes -/
noncomputable def B3.fz (B : B3) (H : Hp) : B3 := ⟨fun b => if (∃ o, H b = some o ∧ Fz o) then H b else B.H0 b, B.ms⟩
section
variable {K : PySem.W.Frag} {B : B3} {σ σ' : L2.St} {H H' : Hp} {S S' : S3}
theorem fz_none {a : Addr} (h : (B.fz H).H0 a = none) : B.H0 a = none := by
  unfold B3.fz at h
  simp only at h
  split at h
  · rename_i e
    obtain ⟨o, e1, _⟩ := e
    rw [e1] at h
    cases h
  · exact h
theorem fz_of {a : Addr} {o : HO} (h : H a = some o) (n : ¬ Fz o) : (B.fz H).H0 a = B.H0 a := by
  unfold B3.fz
  simp only
  split
  · rename_i e
    obtain ⟨o', e1, z⟩ := e
    rw [h] at e1
    cases e1
    exact absurd z n
  · rfl
theorem fz_at {a : Addr} {o : HO} (h : H a = some o) (z : Fz o) : (B.fz H).H0 a = some o := by
  unfold B3.fz
  simp only
  rw [if_pos ⟨o, h, z⟩]
  exact h
theorem RS.pushF (R : RS K B σ H S) : RS K (B.fz H) σ H S := by
  refine ⟨fun i r e => ?_, R.sep, R.cn, R.nd, R.cell, fun b o e1 e2 => ?_, R.len, R.tabs⟩
  · obtain ⟨v, h1, h2⟩ := R.slot i r e
    refine ⟨v, h1, ?_⟩
    cases r with
    | own xs =>
      obtain ⟨a, vs, q1, q2, q3, q4, q5⟩ := h2
      exact ⟨a, vs, q1, q2, q3, (fz_of q2 nfz_lst).trans q4, q5⟩
    | _ => exact h2
  · by_cases z : ∃ o, H b = some o ∧ Fz o
    · obtain ⟨o', q, f⟩ := z
      exact ⟨o', q, .inl (Option.some.inj ((fz_at q f).symm.trans e1))⟩
    · refine R.keep b o ?_ e2
      unfold B3.fz at e1
      simp only at e1
      rw [if_neg z] at e1
      exact e1
theorem RS.popF (R0 : RS K B σ H S) (R : RS K (B.fz H) σ' H' S') : RS K B σ' H' S' ∧ Mono H H' := by
  have m : Mono H H' := fun b o z e => by
    have nb : b ∉ B.ms := fun hm => by
      obtain ⟨n, h1⟩ := List.getElem?_of_mem hm
      have hl : n < S.C.length := by
        rw [← R0.cn]
        exact (List.getElem?_eq_some_iff.mp h1).1
      obtain ⟨vs, q, _⟩ := R0.cell n b _ h1 (List.getElem?_eq_getElem hl)
      rw [q] at e
      cases e
      exact nfz_lst z
    obtain ⟨o', q, k⟩ := R.keep b o (fz_at e z) nb
    rw [q, k.eq z.ntbl]
  refine ⟨⟨fun i r e => ?_, R.sep, R.cn, R.nd, R.cell, fun b o e1 e2 => ?_, R.len, R.tabs⟩, m⟩
  · obtain ⟨v, h1, h2⟩ := R.slot i r e
    refine ⟨v, h1, ?_⟩
    cases r with
    | own xs =>
      obtain ⟨a, vs, q1, q2, q3, q4, q5⟩ := h2
      exact ⟨a, vs, q1, q2, q3, fz_none q4, q5⟩
    | _ => exact h2
  · obtain ⟨o1, q1, k1⟩ := R0.keep b o e1 e2
    by_cases z : Fz o1
    · exact ⟨o1, m b o1 z q1, k1⟩
    · exact R.keep b o ((fz_of q1 z).trans e1) e2
end
/-! ### try: .. except (..) as n: x = n -/
def dTryLaw (good : Addr → Prop) (i j : Nat) (t : DTS) : DTS := fun D S _ => t D S fun x S1 => good x.C ∧ D.nx { S1 with G := ((S1.G.set i none).set j (some (.exc x.C x.fs))).set i none }
section
variable {X : Cx} {W : WX} {n x : Str} {i j : Nat} {body : List Stmt} {ce : Expr} {p1 p2 p3 p4 p5 : Pos} {good : Addr → Prop} {t : DTS}
theorem ds_try_law (hex : X.ex = []) (hs : X.stack = X.env :: X.outer) (hf : X.env.frame = some X.env.locals) (hN : X.N.Nodup) (hi : X.N[i]? = some n) (hj : X.N[j]? = some x) (hn : X.env.scope.names.lookup n = some .local) (hx : Loc X.env.scope x) (hfx : X.fn x = true ∨ X.env.scope.names.lookup x = some .local)
    (hcl : ClauseOk X ce good) (hd : (n == ("__debug__" : Str)) = false) (hcd : (n == ("__classdict__" : Str)) = false) (hsw : swapsWith (.Name n p2) (some (.Name x p1)) p3.line X.env = pure false)
    (hb : ∀ (W : WX) (pn : List (Addr × Obj)) (xe : Value → Shared → Prop), Takes (X.tr pn xe) W → PassesOwn (model X.prog X.w) X.A X.env xe → DSs (X.tr pn xe) W body t) :
    DS X W (.Try body [.ExceptHandler (some ce) (some n) [.Assign [.Name x p1] (.Name n p2) p3] p4] [] [] p5) (dTryLaw good i j t) := by
  refine .of (ps_try_law (tb := fun W => liftS X.K W t) hex hs hf hN hi hj hn hx hfx hcl hd hcd hsw hb) fun σ H B S D er R q _ => ?_
  refine ⟨B.fz H, S, D, fun x S1 => good x.C ∧ D.nx { S1 with G := ((S1.G.set i none).set j (some (.exc x.C x.fs))).set i none }, R.pushF, q, fun x S1 σ1 cls d H1 R1 xr q1 => ?_, fun σ1 H1 ⟨S1, R1, _, z⟩ => ?_, fun v H1 ⟨r, S1, σ1, R1, rr, z⟩ => ?_, fun σ1 H1 ⟨S1, R1, _, z⟩ => ?_, fun σ1 H1 ⟨S1, R1, _, z⟩ => ?_⟩
  · obtain ⟨R2, m⟩ := R.popF R1
    refine ⟨⟨x.C, xr.1, q1.1⟩, fun a ha => ?_⟩
    have m2 : Mono H1 (upd H1 a (excHO a cls d)) := .new ha
    obtain ⟨e1, e2, e3⟩ := xr
    subst e1
    refine ⟨_, (((R2.new ha).forget (i := i) (o := some (.ref a))).setD (i := j) (r := .exc x.C x.fs) (v := .ref a) ?_).forget (i := i) (o := none), m.tr m2, q1.2⟩
    refine ⟨a, rfl, d, upd_same, e2, fun hn => ?_⟩
    obtain ⟨dd, vs, f1, f2, f3⟩ := e3 hn
    exact ⟨dd, vs, f1, m2 _ _ (.xd _) f2, fun f y hy => let ⟨v, a, b⟩ := f3 f y hy; ⟨v, a, Dz.mono m2 _ _ b⟩⟩
  · obtain ⟨R2, m⟩ := R.popF R1
    exact ⟨S1, R2, m, z⟩
  · obtain ⟨R2, m⟩ := R.popF R1
    exact ⟨r, S1, σ1, R2, RR.base (B := B.fz H) (B' := B) rfl rr, z⟩
  · obtain ⟨R2, m⟩ := R.popF R1
    exact ⟨S1, R2, m, z⟩
  · obtain ⟨R2, m⟩ := R.popF R1
    exact ⟨S1, R2, m, z⟩
end
/-! ### raise C('..') -/
def dRaise (C : Addr) : DTS := fun _ S e => e ⟨C, []⟩ S
section
variable {X : Cx} {W : WX} {newId initId : String} {bmB : List Value} {Bn : String} {C : Addr} {x m : Str} {j : Nat} {p p2 p3 pos : Pos}
theorem ds_raise (hc : X.calm = true) (tk : Takes X W) (F : ExcBaseFacts Bn newId initId bmB) (q : PySem.W.excIn X.K C bmB newId = true) (gC : X.mg x = some (.ref C)) (kC : PySem.W.keepIn X.K (.ref C) = true) (r : Raises X (.ref C)) (hg : Gl X x)
    (hdb : (x == ("__debug__" : Str)) = false := by decide) : DS X W (.Raise (some (.Call (.Name x p) [.Constant (.str m) j p2] [] pos)) none p3) (dRaise C) :=
  .of (ps_raise hc tk (pmk_own F q gC kC r hg hdb)) fun σ H B S D er R q hx => hx ⟨C, []⟩ S σ (.ref C) none H R ⟨rfl, fun _ => rfl, fun z => absurd rfl z⟩ q
end
/-! ### isinstance of what was caught -/
def gIsiX (K : PySem.W.Frag) : List SV → (SV → Prop) → Prop := fun rs k => match rs with
  | [.exc C [], .raw (.ref D)] => ExcC K C ∧ ∃ b, PySem.W.kitOne K (.ref C) (.ref D) = some b ∧ k (.d (.bool b))
  | [.exc C [], .raw (.ty n)] => ExcC K C ∧ ∃ b, PySem.W.kitOne K (.ref C) (.type n) = some b ∧ k (.d (.bool b))
  | [.d .none, .raw (.ref D)] => ∃ b, PySem.W.kitOne K (.type "NoneType") (.ref D) = some b ∧ k (.d (.bool b))
  | [.d x, .raw (.ty n)] => (match kitB (tyD x) n with
    | some b => k (.d (.bool b))
    | none => False)
  | _ => False
theorem isi_exc {X : Cx} {pins : List (Addr × Obj)} {σ : L2.St} {H : Hp} {s : Shared} {B : B3} {S : S3} {C : Addr} {v : V} {u c : Value} {b : Bool} {k : SV → Prop} (I : Inv X pins σ H s) (R : RS X.K B σ H S) (h : RR X.K B H (.exc C []) v) (ru : RelV v u) (F : ExcC X.K C) (e : PySem.W.kitOne X.K (.ref C) c = some b) (q : k (.d (.bool b))) :
    wpAny (model X.prog X.w) X.A (call (.builtin "isinstance") [u, c]) (EP X pins σ (KD X.K B σ H fun r S' => S' = S ∧ k r)) X.xe s := by
  obtain ⟨a, rfl, d, h1, h2, _⟩ := h
  cases (show u = Value.ref a from ru)
  obtain ⟨⟨oe, g1, ⟨g2, g3⟩, vs, g4⟩, _⟩ := (show ObjOk X.prog X.w H s.heap a (.ext _) from I.hok a _ h1)
  have hd := h2 rfl
  subst hd
  have J : PySem.W.InstAt s.heap a oe C none := by
    obtain ⟨oc, od, oda, osl⟩ := oe
    dsimp only at g2 g3 g4
    subst g2 g3 g4
    exact ⟨g1, rfl, rfl, trivial⟩
  exact PySem.W.kia_one (PySem.W.handS_kitx_exc F.hg F.hk F.hs F.hd F.ha F.hn F.ht F.hm) I.kIn J e (fun z => nomatch z) fun tk => ⟨.bl b, H, I.kept (t' := tk) fun _ _ z => z, rfl, .d (.bool b), S, R, .rfl, Dz.bl b, rfl, q⟩
theorem cIsiX {X : Cx} : CallD X (.builtin "isinstance") (gIsiX X.K) := by
  intro pins s σ H B S rs vs us k I R a rv q
  unfold gIsiX at q
  split at q
  · rename_i C D
    obtain ⟨F, b, e, q⟩ := q
    obtain ⟨v, w, rfl, z, z'⟩ := a.two
    cases (show w = _ from z')
    obtain ⟨u1, u2, rfl, r1, r2⟩ := vals2 rv
    cases (show u2 = Value.ref D from r2)
    exact isi_exc I R z r1 F e q
  · rename_i C n
    obtain ⟨F, b, e, q⟩ := q
    obtain ⟨v, w, rfl, z, z'⟩ := a.two
    cases (show w = _ from z')
    obtain ⟨u1, u2, rfl, r1, r2⟩ := vals2 rv
    cases (show u2 = Value.type n from r2)
    exact isi_exc I R z r1 F e q
  · rename_i D
    obtain ⟨b, e, q⟩ := q
    obtain ⟨v, w, rfl, z, z'⟩ := a.two
    cases (show w = _ from z')
    cases (show Dz _ _ _ _ from z)
    exact call_isi pins s σ H _ us _ I rv ⟨_, _, _, _, b, rfl, .own D, .base .non, e, .d (.bool b), S, R, .rfl, Dz.bl b, rfl, q⟩
  · rename_i x n
    exact cIsi pins s σ H B S _ vs us k I R a rv (by unfold gIsi; exact q)
  · exact q.elim
/-! ### {} -/
def dDct0 : DTE := fun S k _ => k (.d (.dict [])) S
theorem d_dct0 {X : Cx} {W : WX} {pos : Pos} : DE X W (.Dict [] [] pos) dDct0 := by
  refine .mk fun pins s σ H B S k er I R q hx => ?_
  refine thn (pe_dnewK.run pins s σ H (fun v H' => ∃ p, v = .ref p ∧ H p = none ∧ H' = upd H p (.dK [])) I fun p hp => ⟨p, rfl, hp, rfl⟩) fun u s1 ⟨v, H1, I1, rv, p, ev, hp, eH⟩ => ?_
  subst ev eH
  obtain ⟨od, I2⟩ := I1.lock (u := .dK []) upd_same trivial
  have e : upd (upd H p (.dK [])) p (.frz od (.dK [])) = upd H p (.frz od (.dK [])) := by
    funext b
    by_cases hb : b = p
    · subst hb
      rw [upd_same, upd_same]
    · rw [upd_ne hb, upd_ne hb, upd_ne hb]
  rw [e] at I2
  exact ⟨.ref p, _, I2, rv, .d (.dict []), S, R.new hp, .new hp, Dz.dct0 (o := od) upd_same, q⟩
end
end D3
/-! D3l: x(lambda: body), the lambda called once or more in x. -/
namespace D3
open PySem PySem.Spec PyProof.Rows L2
section
variable [Tb]
/-- what changes from H to H' is tables alone -/
def ExtK (H H' : Hp) : Prop := ∀ b o, H b = some o → ∃ o', H' b = some o' ∧ Kp o o'
theorem ExtK.rfl {H : Hp} : ExtK H H := fun _ o e => ⟨o, e, .rfl⟩
theorem ExtK.mono {H H' : Hp} (k : ExtK H H') : Mono H H' := fun b o z e => by
  obtain ⟨o', q, h⟩ := k b o e
  rw [q, h.eq z.ntbl]
theorem ExtK.at_ {H H' : Hp} (k : ExtK H H') {b : Addr} {vs : List V} (e : H b = some (.lst vs)) : H' b = some (.lst vs) := by
  obtain ⟨o', q, h⟩ := k b _ e
  rw [q, h.eq fun p z => nomatch z]
theorem RS.ext {K : PySem.W.Frag} {B : B3} {σ : L2.St} {H H' : Hp} {S : S3} (R : RS K B σ H S) (k : ExtK H H') (t : LamX.Tabs Tb.T H') : RS K B σ H' S := by
  refine ⟨fun i r e => ?_, R.sep, R.cn, R.nd, fun n a xs e1 e2 => ?_, fun b o e1 e2 => ?_, R.len, t⟩
  · obtain ⟨v, h1, h2⟩ := R.slot i r e
    refine ⟨v, h1, ?_⟩
    cases r with
    | own xs =>
      obtain ⟨a, vs, q1, q2, q3, q4⟩ := h2
      exact ⟨a, vs, q1, k.at_ q2, q3.mono k.mono, q4⟩
    | _ => exact h2.mono k.mono (fun _ z => nomatch z)
  · obtain ⟨vs, q1, q2⟩ := R.cell n a xs e1 e2
    exact ⟨vs, k.at_ q1, q2.mono k.mono⟩
  · obtain ⟨o1, q1, k1⟩ := R.keep b o e1 e2
    obtain ⟨o2, q2, k2⟩ := k b o1 q1
    exact ⟨o2, q2, k1.tr k2⟩
section
variable {X : Cx} {pins : List (Addr × Obj)} {σ : L2.St} {H : Hp} {s : Shared}
/-- a lambda is made: its code object is new, or the table tells it; all but tables stays -/
theorem lam_made {c P : Addr} {params : Arguments} {body : Expr} {scope : Scope} {pos : Pos} {E : Value → Shared → Prop} {Q : Value → Shared → Prop} (I : Inv X pins σ H s) (TB : LamX.TabB X.base X.mg c P) (hcode : X.env.code = .ref c)
    (hm : (P, X.env.qual ++ "<lambda>") ∈ Tb.T) (hu : ∀ p ∈ Tb.T, p.1 = P → p.2 = X.env.qual ++ "<lambda>") (hT : LamX.Tabs Tb.T H) (hdef : defaultsOf params X.env = ([], [])) (hfree : ∀ y ∈ scope.names, y.2 = .free → ∃ c, X.env.cells.lookup y.1 = some c)
    (h : ∀ (f co : Addr) (pm ctv : Value) (H1 : Hp) (s1 : Shared), Inv X pins σ H1 s1 → ExtK H H1 → LamX.Tabs Tb.T H1 →
      s1.heap.get? f = some (PySem.W.kla_obj "<lambda>" (X.env.qual ++ "<lambda>") params body scope (cloFrom X.env.cells scope.names []) pm co ctv) → H1 f = none → f ∉ frs X.stack → H1 co = some (LamX.CodeO co (X.env.qual ++ "<lambda>")) → Q (.ref f) s1) :
    wpAny (model X.prog X.w) X.A (eval (.Lambda params body scope pos) X.env) Q E s := by
  obtain ⟨ts, tP, tk3, among⟩ := hT _ hm
  refine PySem.W.kla_eval hdef ?_
  have blt : s.heap.BuiltinsAt X.mg P := TB.bm.keeps I.bk
  have objP : s.heap.get? P = some { cls := .none, data := .fields ts } := I.hok P _ tP
  have offStack : ∀ f, s.heap.objs.size ≤ f → f ∉ frs X.stack := fun f hf z => by
    rcases List.mem_cons.mp (I.stkSub _ z) with e | e
    · have lt1 := I.lt
      rw [← e] at lt1
      exact Nat.lt_irrefl _ (Nat.lt_of_lt_of_le lt1 hf)
    · exact I.nofs hf e
  cases am : codeAmong pos ts.toList with
  | none =>
    refine PySem.W.kla_makeFunction (mg := X.mg) (c := c) (P := P) (ps := ts) (closure_ok hfree) I.ok.glob (I.mod.glob.keeps I.bk) hcode (TB.code.keeps I.bk) objP tk3 am TB.gP blt fun co ctv hp tk same newC ltC rec there => ?_
    obtain ⟨co', oc, flds, tt, e2, hoc, dt, nm⟩ := rec
    cases e2
    have sz : s.heap.objs.size ≤ hp.objs.size := Nat.le_trans newC (Nat.le_of_lt ltC)
    have nC : H co = none := I.hok.fresh newC
    have nPC : P ≠ co := ne_of_none tP nC
    have I1 := LamX.inv_table (t' := tk) (more := #[rawInt pos.line, rawInt pos.col, .ref co]) (h' := hp.push (PySem.W.kla_obj "<lambda>" (X.env.qual ++ "<lambda>") params body scope (cloFrom X.env.cells scope.names []) ((X.mg "__name__").getD .none) co ctv)) I tP
      (fun b o hb e => Heap.get?_push_of_some _ (same b o hb e)) (Heap.get?_push_of_some _ there) newC ⟨oc, flds, tt, Heap.get?_push_of_some _ hoc, dt, nm⟩
    have stays : ∀ b o, H b = some o → (∀ p, o ≠ .tbl p) → upd (upd H P (.tbl (ts ++ #[rawInt pos.line, rawInt pos.col, .ref co]))) co (LamX.CodeO co (X.env.qual ++ "<lambda>")) b = some o := fun b o e n => by
      have nb : b ≠ P := fun z => n ts (Option.some.inj (e.symm.trans (by rw [z]; exact tP)))
      rw [upd_ne (ne_of_none e nC), upd_ne nb]
      exact e
    have lst : (ts ++ #[rawInt pos.line, rawInt pos.col, .ref co]).toList = ts.toList ++ [rawInt pos.line, rawInt pos.col, .ref co] := by simp
    refine h hp.objs.size co ((X.mg "__name__").getD .none) ctv _ _ I1 (fun b o e => ?_) (fun p inT => ?_) (Heap.get?_push_size _ rfl) ?_ (offStack _ sz) upd_same
    · by_cases hb : b = P
      · subst hb
        cases tP.symm.trans e
        exact ⟨_, by rw [upd_ne nPC, upd_same], .inr ⟨_, _, rfl, rfl⟩⟩
      · exact ⟨o, by rw [upd_ne (ne_of_none e nC), upd_ne hb]; exact e, .rfl⟩
    · by_cases hb : p.1 = P
      · rw [hu p inT hb, hb]
        refine ⟨_, by rw [upd_ne nPC, upd_same], by rw [lst]; exact PySem.TriplesOk_snoc _ _ _ _ tk3, fun at_ cv told => ?_⟩
        rw [lst] at told
        rcases LamX.among_app _ tk3 told with z | z
        · obtain ⟨c0, e1, e2⟩ := among at_ cv z
          exact ⟨c0, e1, stays _ _ e2 LamX.codeO_ne⟩
        · exact ⟨co, z, upd_same⟩
      · obtain ⟨ts', a1, a2, a3⟩ := hT p inT
        refine ⟨ts', by rw [upd_ne (ne_of_none a1 nC), upd_ne hb]; exact a1, a2, fun at_ cv told => ?_⟩
        obtain ⟨c0, e1, e2⟩ := a3 at_ cv told
        exact ⟨c0, e1, stays _ _ e2 LamX.codeO_ne⟩
    · have n2 : hp.objs.size ≠ P := Nat.ne_of_gt (Nat.lt_of_lt_of_le (Heap.lt_size objP) sz)
      rw [upd_ne (Nat.ne_of_gt ltC), upd_ne n2]
      exact I.hok.fresh sz
  | some cv =>
    obtain ⟨co, e, hco⟩ := among pos cv am
    subst e
    refine PySem.W.kla_makeFunctionHit (mg := X.mg) (c := c) (P := P) (ps := ts) (closure_ok hfree) I.ok.glob (I.mod.glob.keeps I.bk) hcode (TB.code.keeps I.bk) objP tk3 am blt fun ctv hp tk same sz => ?_
    have I1 : Inv X pins σ H { s with heap := hp.push (PySem.W.kla_obj "<lambda>" (X.env.qual ++ "<lambda>") params body scope (cloFrom X.env.cells scope.names []) ((X.mg "__name__").getD .none) co ctv), toks := tk } := I.kept fun b o e => Heap.get?_push_of_some _ (same b o e)
    exact h hp.objs.size co ((X.mg "__name__").getD .none) ctv H _ I1 .rfl hT (Heap.get?_push_size _ rfl) (I.hok.fresh sz) (offStack _ sz) hco
end
/-! ### the promise of a thing called without arguments -/
abbrev TP := List (List PyData) → (SV → List (List PyData) → Prop) → (Xd → List (List PyData) → Prop) → Prop
def hideOwn (G : List (Option SV)) : List (Option SV) := G.map fun o => match o with
  | some (.own _) => none
  | o => o
theorem hideOwn_get {G : List (Option SV)} {i : Nat} {r : SV} (h : (hideOwn G)[i]? = some (some r)) : G[i]? = some (some r) ∧ ∀ xs, r ≠ .own xs := by
  unfold hideOwn at h
  rw [List.getElem?_map] at h
  cases e : G[i]? with
  | none => rw [e] at h; cases h
  | some o =>
    rw [e] at h
    cases o with
    | none => cases h
    | some q =>
      cases q with
      | own xs => cases h
      | _ => cases h; exact ⟨rfl, fun xs z => nomatch z⟩
/-- the promise of the body te in the state S of the def that made it -/
def thP (S : S3) (te : DTE) : TP := fun C k e => te ⟨hideOwn S.G, C⟩ (fun r S2 => k r S2.C) fun x S2 => e x S2.C
/-- the call of the slot's thing -/
def dThk (T : SV) (P : TP) : DTE := fun S k e => S.G[0]? = some (some T) ∧ P S.C (fun r C' => k r { S with C := C' }) fun x C' => e x { S with C := C' }
/-- slots whose lists are frozen -/
def frz1 (i : Nat) (S : S3) : S3 := match S.G[i]? with
  | some (some (.own xs)) => { S with G := S.G.set i (some (.d (.list xs))) }
  | _ => S
def frzG : List Nat → S3 → S3
  | [], S => S
  | i :: r, S => frzG r (frz1 i S)
theorem frz_run {X : Cx} {pins : List (Addr × Obj)} {σ : L2.St} {s : Shared} {B : B3} : ∀ (fz : List Nat) {H : Hp} {S : S3}, Inv X pins σ H s → RS X.K B σ H S → ∃ H', Inv X pins σ H' s ∧ RS X.K B σ H' (frzG fz S) ∧ Mono H H'
  | [], H, S, I, R => ⟨H, I, R, .rfl⟩
  | i :: r, H, S, I, R => by
    have one : ∃ H', Inv X pins σ H' s ∧ RS X.K B σ H' (frz1 i S) ∧ Mono H H' := by
      unfold frz1
      split
      · rename_i xs e
        obtain ⟨v, hσ, a, vs, rfl, h1, h2, h3, h4⟩ := R.slot i _ e
        obtain ⟨od, I2⟩ := I.lock h1 trivial
        obtain ⟨R2, m, _⟩ := R.freeze (o := od) e hσ h1 h2 h3 h4
        exact ⟨_, I2, R2, m⟩
      · exact ⟨H, I, R, .rfl⟩
    obtain ⟨H1, I1, R1, m1⟩ := one
    obtain ⟨H2, I2, R2, m2⟩ := frz_run r I1 R1
    exact ⟨H2, I2, R2, m1.tr m2⟩
/-- the state of the lambda's maker, seen while the other def runs -/
theorem RS.seen {K : PySem.W.Frag} {B Bz : B3} {σ σz : L2.St} {H HZ : Hp} {S Sz : S3} (R : RS K B σ H S) (Rz : RS K Bz σz HZ Sz) (em : Bz.ms = B.ms) (m : Mono H HZ) : RS K ⟨HZ, B.ms⟩ σ HZ ⟨hideOwn S.G, Sz.C⟩ := by
  refine ⟨fun i r e => ?_, fun i j xs ys v ne e1 _ _ _ => absurd rfl ((hideOwn_get e1).2 xs), ?_, R.nd, fun n a xs e1 e2 => ?_, fun b o e _ => ⟨o, e, .rfl⟩, by simp [hideOwn, R.len], Rz.tabs⟩
  · obtain ⟨q, n⟩ := hideOwn_get e
    obtain ⟨v, h1, h2⟩ := R.slot i r q
    exact ⟨v, h1, (RR.base (B := B) (B' := ⟨HZ, B.ms⟩) rfl (.of (h2.mono m n) n)).sr⟩
  · rw [show (⟨HZ, B.ms⟩ : B3).ms = Bz.ms from em.symm]
    exact Rz.cn
  · refine Rz.cell n a xs ?_ e2
    rw [em]
    exact e1
section
variable {X : Cx} {pins : List (Addr × Obj)} {σ : L2.St} {H : Hp} {s : Shared} {B : B3} {S : S3}
/-- the lambda, called in the def that got it -/
theorem d_act {Eg : XK} {Ng : List Str} {qg : Str} {sg : Scope} {g f co : Addr} {cdg pm ctv : Value} {params : Arguments} {body : Expr} {scope : Scope} {k : Nat} {a : Str} {te : DTE}
    (I : Inv X pins σ H s) (R : RS X.K B σ H S) (L : LamX.LamS X.env.scope scope) (hf : s.heap.get? f = some (PySem.W.kla_obj "<lambda>" (X.env.qual ++ "<lambda>") params body scope (cloFrom X.env.cells scope.names []) pm co ctv)) (hfn : H f = none) (hfr : f ∉ frs X.stack)
    (hbind : bindArgs (PySem.W.kla_fn "<lambda>" (X.env.qual ++ "<lambda>") params body scope (cloFrom X.env.cells scope.names []) pm (.ref co) ctv) ⟨[], []⟩ = pure []) (hr : Room (k + 1) (X.A.deeper (envOfC qg sg s.heap.objs.size g cdg))) (hgd : X.A.guards = some [])
    (hbody : ∀ (A : Around) (outer : List Env) (s : Shared) (H : Hp) (E : XK), Room k (A.deeper (LamX.lamEnv X scope s.heap.objs.size f co)) → A.guards = some [] → DE (LamX.lamCx X A outer s H E scope f co) (fun cls d _ H' => E cls d H') body te)
    (hN : Ng[0]? = some a) (hv : Vis sg a) (hd : (a == ("__debug__" : Str)) = false) (hcd : (a == ("__classdict__" : Str)) = false) {W : WX} {pn : List (Addr × Obj)} {xe : Value → Shared → Prop} {p1 p2 : Pos}
    (tk : Takes ((cxOf (L2.CX X.prog X.w) X.prog X.w X.K X.mg X.base Ng qg sg g cdg X.A X.stack s H Eg).tr pn xe) W) :
    DE ((cxOf (L2.CX X.prog X.w) X.prog X.w X.K X.mg X.base Ng qg sg g cdg X.A X.stack s H Eg).tr pn xe) W (.Call (.Name a p1) [] [] p2) (dThk (.thk f co (X.env.qual ++ "<lambda>") H B.ms) (thP S te)) := by
  refine .mk fun pinsZ sZ σZ HZ Bz Sz kz er IZ RZ q hx => ?_
  obtain ⟨q0, q⟩ := q
  obtain ⟨v, hs, ev, hc, em, mz⟩ := RZ.slot 0 _ q0
  subst ev
  refine wpAny_Call_Name_kw (thn ((pe_var (pos := p1) (i := 0) hN hv hd hcd).run pinsZ sZ σZ HZ (fun v H2 => v = .ref f ∧ H2 = HZ) IZ ⟨.ref f, hs, rfl, rfl⟩) fun u s1 ⟨v, H2, I1, r1, ev, eH⟩ => ?_)
  subst ev eH
  cases (show u = Value.ref f from r1)
  have objF := I1.base.keep f _ hf hfn hfr (fun z => nomatch (show f ∈ ([] : List Addr) from z))
  refine PySem.W.callWith_F0 ⟨_, _, _, _, objF⟩ ?_
  have un : Un (frs X.stack) [] H H2 s.heap s1.heap := I1.base
  obtain ⟨⟨oc, flds, tt, hoc, dt, nm⟩, _, _⟩ := I1.hok co _ hc
  have rc : codeAny (model X.prog X.w) (X.A.deeper (envOfC qg sg s.heap.objs.size g cdg)) (.call (.ref f) ⟨[], []⟩) (CR (L2.CX X.prog X.w) (envOfC qg sg s.heap.objs.size g cdg :: X.stack) X.prog X.w H2 s1 (KD X.K Bz σZ H2 kz) (WE W σZ)) s1 := by
    refine PySem.W.kla_callFunE hr.depth objF rfl L.co L.gen rfl ⟨co, oc, flds, tt, rfl, hoc, dt, nm⟩ ?_
    rw [hbind]
    refine wpAny_pure (wpAny_newFunctionEnv (fun y hy => (L.own y hy).2) (fun y hy => absurd hy (by simp)) (fun hp hns hsb => ⟨I1.nolimit.fresh _ hsb, ?_⟩) L.kind)
    show codeAny _ _ (.expr body (LamX.lamEnv X scope s1.heap.objs.size f co)) _ _
    have kp : ∀ b o, s1.heap.get? b = some o → hp.get? b = some o := fun b o e => hsb.extBut b o (Nat.ne_of_lt (Heap.lt_size e)) (Heap.get?_push_of_some _ e)
    have J : Inv (LamX.lamCx X (X.A.deeper (envOfC qg sg s.heap.objs.size g cdg)) (envOfC qg sg s.heap.objs.size g cdg :: X.stack) s1 H2 (WE W σZ) scope f co) [] σ H2 { s1 with heap := hp, toks := s1.toks + ([] : List (Str × Value)).length } :=
      LamX.lam_start2 I L I1.env0 hr.hd un hns kp
    have RP : RS X.K ⟨H2, B.ms⟩ σ H2 ⟨hideOwn S.G, Sz.C⟩ := R.seen RZ em mz
    have back : ∀ {σ' : L2.St} {H' : Hp} {S' : S3}, RS X.K ⟨H2, B.ms⟩ σ' H' S' → RS X.K Bz σZ H' { Sz with C := S'.C } ∧ Mono H2 H' := fun {σ' H' S'} R' => by
      have kp' : Kept Bz.ms H2 H' := by
        rw [em]
        exact R'.keep
      have rc' : RC X.K Bz.ms H' S'.C := by
        rw [em]
        exact R'.rc
      exact ⟨RZ.after kp' rc', RZ.rc.mono kp'⟩
    refine PySem.W.kla_codeExpr (wpAny_mono ((hbody _ _ s1 H2 (WE W σZ) (hr.deeper _) hgd).go J RP q fun x S' σ' cls d H' R' xr z => ?_) (fun v s' hq => ?_) fun e s' hq => hq)
    · obtain ⟨RB, _⟩ := back R'
      exact hx x _ σZ cls d H' RB xr z
    · obtain ⟨w', H', J', rv, r, S', R', m', rr, z⟩ := hq
      obtain ⟨RB, _⟩ := back R'
      exact ⟨w', H', J'.os, J'.bare, J'.base, J'.hok, rv, r, _, RB, m', RR.base (B := ⟨H2, B.ms⟩) (B' := Bz) em.symm rr, z⟩
  refine wpAny_call (codeAny_mono rc fun r s' hq => ?_)
  have z := endG (passAt tk σZ) I1 hq
  cases r with
  | error e => exact z
  | ok fl =>
    cases fl with
    | ret u => exact z
    | _ => exact z.elim
end
/-! ### x(lambda: body) -/
/-- what a def makes of a thing that it calls -/
abbrev PT1 := TP → DP
def dLamCall (fz : List Nat) (PG : TP → List (List PyData) → (SV → List (List PyData) → Prop) → (Xd → List (List PyData) → Prop) → Prop) (te : DTE) : DTE := fun S k e =>
  PG (thP (frzG fz S) te) (frzG fz S).C (fun r C' => k r { frzG fz S with C := C' }) fun x C' => e x { frzG fz S with C := C' }
section
variable {X : Cx} {W : WX}
theorem d_lamcall {fz : List Nat} {PG : TP → List (List PyData) → (SV → List (List PyData) → Prop) → (Xd → List (List PyData) → Prop) → Prop} {tg : SV → TP → DTS} {x a : Str} {st : Stmt} {g c P : Addr} {gd : FuncData} {k : Nat} {Ng : List Str}
    {params : Arguments} {body : Expr} {scope : Scope} {te : DTE} {p lpos pos : Pos} (hg : Gl X x) (hm : X.mg x = some (.ref g)) (F : Fun X.K x x st g gd) (hb : Binds X.K gd [a] []) (Sg : FnScope Ng [a] (defScope st)) (hNg : Ng[0]? = some a) (hva : Vis (defScope st) a)
    (hG : ∀ (cdv : Value) (s : Shared) (H1 : Hp) (E : XK) (T : SV) (Pt : TP), Room (k + 1) (X.A.deeper (envOfC x (defScope st) s.heap.objs.size g cdv)) → X.A.guards = some [] →
      (∀ (W : WX) (pn : List (Addr × Obj)) (xe : Value → Shared → Prop) (p1 p2 : Pos), Takes ((cxOf (L2.CX X.prog X.w) X.prog X.w X.K X.mg X.base Ng x (defScope st) g cdv X.A X.stack s H1 E).tr pn xe) W →
        DE ((cxOf (L2.CX X.prog X.w) X.prog X.w X.K X.mg X.base Ng x (defScope st) g cdv X.A X.stack s H1 E).tr pn xe) W (.Call (.Name a p1) [] [] p2) (dThk T Pt)) →
      DSs (cxOf (L2.CX X.prog X.w) X.prog X.w X.K X.mg X.base Ng x (defScope st) g cdv X.A X.stack s H1 E) (fun cls d _ H' => E cls d H') (defBody st) (tg T Pt))
    (hP : ∀ Pt C k e T, PG Pt C k e → tg T Pt (defEnds k) ⟨start3 Ng.length [T], C⟩ (defExc e))
    (TB : LamX.TabB X.base X.mg c P) (hcode : X.env.code = .ref c) (hmT : (P, X.env.qual ++ "<lambda>") ∈ Tb.T) (hu : ∀ p ∈ Tb.T, p.1 = P → p.2 = X.env.qual ++ "<lambda>") (hr : Room (k + 2) X.A) (hgd : X.A.guards = some []) (tk : Takes X W)
    (L : LamX.LamS X.env.scope scope) (hdef : defaultsOf params X.env = ([], []))
    (hbind : ∀ (q : Str) (cl : List (Str × Addr)) (pm cv ctv : Value), bindArgs (PySem.W.kla_fn "<lambda>" q params body scope cl pm cv ctv) ⟨[], []⟩ = pure [])
    (hbody : ∀ (A : Around) (outer : List Env) (s : Shared) (H : Hp) (E : XK) (f co : Addr), Room k (A.deeper (LamX.lamEnv X scope s.heap.objs.size f co)) → A.guards = some [] → DE (LamX.lamCx X A outer s H E scope f co) (fun cls d _ H' => E cls d H') body te)
    (hdb : (x == ("__debug__" : Str)) = false := by decide) (hd : (a == ("__debug__" : Str)) = false := by decide) (hcd : (a == ("__classdict__" : Str)) = false := by decide) :
    DE X W (.Call (.Name x p) [.Lambda params body scope lpos] [] pos) (dLamCall fz PG te) := by
  refine .mk fun pins s σ H B S kk er I R q hx => ?_
  obtain ⟨Hf, If, Rf, mf⟩ := frz_run fz I R
  obtain ⟨oc, od, kV, doc, pm, an, cdv, ct, osl, rfl, lk, hcg⟩ := F.ex
  refine wpAny_Call_Name_kw (ld_glob If hg hm ?_ hdb)
  refine PySem.W.callWith_K (h₀ := X.base) If.ok.mod.kin F.kp ?_ (by rfl) (by rfl)
  show wpAny _ _ (spliced ((false, eval (.Lambda params body scope lpos) X.env) :: backTo pos (starEach [] X.env))) _ _ s
  refine Calls.spliced_cons (lam_made If TB hcode hmT hu Rf.tabs hdef (L.has If.ok) fun f co pmv ctv H1 s1 I1 eK T1 hf hfn hfr hco => ?_)
  refine Calls.spliced_nil ⟨I1.kIn, ?_⟩
  have R1 : RS X.K B σ H1 (frzG fz S) := Rf.ext eK T1
  have rc : codeAny (model X.prog X.w) X.A (.call (.ref g) ⟨[.ref f], []⟩) (CR (L2.CX X.prog X.w) X.stack X.prog X.w H1 s1 (KD X.K B σ H kk) (WE W σ)) s1 := by
    refine LamX.run_ofS (N := Ng) (ps := [a]) (us := [.ref f]) (vs := [.ref f]) lk hcg Sg hr I1.env0 (hb s1 [.ref f] I1.kIn rfl) (.cons rfl .nil) rfl fun hr2 => ?_
    refine ⟨_, hG cdv s1 H1 (WE W σ) (.thk f co (X.env.qual ++ "<lambda>") H1 B.ms) (thP (frzG fz S) te) hr2 hgd (fun W2 pn xe p1 p2 tk2 => d_act I1 R1 L hf hfn hfr (hbind _ _ _ _ _) hr2 hgd (fun A outer s H E hr3 hg3 => hbody A outer s H E f co hr3 hg3) hNg hva hd hcd tk2), ?_⟩
    have begin_ : RS X.K ⟨H1, B.ms⟩ (L2.start Ng [.ref f]) H1 ⟨start3 Ng.length [.thk f co (X.env.qual ++ "<lambda>") H1 B.ms], (frzG fz S).C⟩ :=
      RS.begin (.cons (show RR X.K ⟨H1, B.ms⟩ H1 (.thk f co (X.env.qual ++ "<lambda>") H1 B.ms) (.ref f) from ⟨rfl, hco, rfl, .rfl⟩) .nil) R1.rc
    refine ⟨⟨H1, B.ms⟩, _, _, _, begin_, hP _ _ _ _ _ q, fun y S2 σ2 cls d H2 R2 xr z => ?_, fun σ2 H2 ⟨S2, R2, m2, z⟩ => ?_, fun v H2 ⟨r, S2, σ2, R2, rr, z⟩ => ?_, fun _ _ ⟨_, _, _, z⟩ => z, fun _ _ ⟨_, _, _, z⟩ => z⟩
    · exact hx y _ σ cls d H2 (R1.after R2.keep R2.rc) xr z
    · exact ⟨.d .none, _, R1.after R2.keep R2.rc, (mf.tr eK.mono).tr m2, Dz.non, z⟩
    · exact ⟨r, _, R1.after R2.keep R2.rc, (mf.tr eK.mono).tr (R1.rc.mono R2.keep), RR.base (B := ⟨H1, B.ms⟩) (B' := B) rfl rr, z⟩
  refine wpAny_call (codeAny_mono rc fun r s2 hq => ?_)
  have z := endG (passAt tk σ) I1 hq
  cases r with
  | error e => exact z
  | ok fl =>
    cases fl with
    | ret u => exact z
    | _ => exact z.elim
end
end
end D3
/-! D3m: slices; the law's shared cells. -/
namespace D3
open PySem PySem.Spec PyProof.Rows L2
section
variable [Tb]
/-! ### slices -/
def pickL {α : Type} (xs : List α) (lo hi st : Option Int) : List α := (sliceRange (sliceBounds lo hi st xs.length).1 (sliceBounds lo hi st xs.length).2.1 (sliceBounds lo hi st xs.length).2.2).filterMap (xs[·]?)
def cutL {α : Type} (xs : List α) (lo hi : Option Int) : List α := (xs.drop (HT.sIx xs.length 0 lo)).take (HT.sIx xs.length xs.length hi - HT.sIx xs.length 0 lo)
def slD (xs : List PyData) (lo hi st : Option Int) : List PyData := match st with
  | none => cutL xs lo hi
  | some c => pickL xs lo hi (some c)
theorem fm_vals {vs : List V} {its : List Value} (h : Vals vs its) : ∀ is : List Nat, Vals (is.filterMap (vs[·]?)) (is.filterMap (its[·]?))
  | [] => .nil
  | i :: r => by
    have l := h.length
    by_cases hi : i < vs.length
    · have e1 : vs[i]? = some vs[i] := List.getElem?_eq_getElem hi
      have e2 : its[i]? = some its[i] := List.getElem?_eq_getElem (by omega)
      simp only [List.filterMap_cons, e1, e2]
      obtain ⟨u, e3, z⟩ := h.get e1
      rw [e2] at e3
      cases e3
      exact .cons z (fm_vals h r)
    · have e1 : vs[i]? = none := List.getElem?_eq_none (by omega)
      have e2 : its[i]? = none := List.getElem?_eq_none (by omega)
      simp only [List.filterMap_cons, e1, e2]
      exact fm_vals h r
theorem fm_dz {K : PySem.W.Frag} {H : Hp} {vs : List V} {ds : List PyData} (h : DzA K H vs ds) : ∀ is : List Nat, DzA K H (is.filterMap (vs[·]?)) (is.filterMap (ds[·]?))
  | [] => .nil
  | i :: r => by
    cases e2 : ds[i]? with
    | some d =>
      obtain ⟨v, e1, z⟩ := h.get e2
      simp only [List.filterMap_cons, e1, e2]
      exact .cons z (fm_dz h r)
    | none =>
      have e1 : vs[i]? = none := by
        rw [List.getElem?_eq_none_iff] at e2 ⊢
        rw [h.len]
        exact e2
      simp only [List.filterMap_cons, e1, e2]
      exact fm_dz h r
theorem pickL_dz {K : PySem.W.Frag} {H : Hp} {vs : List V} {ds : List PyData} (h : DzA K H vs ds) (lo hi st : Option Int) : DzA K H (pickL vs lo hi st) (pickL ds lo hi st) := by
  unfold pickL
  rw [h.len]
  exact fm_dz h _
theorem cutL_dz {K : PySem.W.Frag} {H : Hp} {vs : List V} {ds : List PyData} (h : DzA K H vs ds) (lo hi : Option Int) : DzA K H (cutL vs lo hi) (cutL ds lo hi) := by
  unfold cutL
  rw [h.len]
  exact (h.drop _).take _
theorem pickL_le {α : Type} (xs : List α) (lo hi st : Option Int) : (pickL xs lo hi st).length ≤ xs.length := by
  have z := slicePick_size_le (List.replicate xs.length Value.none).toArray lo hi st
  unfold slicePick at z
  simp only [List.size_toArray, List.length_replicate, List.getElem?_toArray] at z
  have e : ∀ is : List Nat, (is.filterMap (xs[·]?)).length = (is.filterMap ((List.replicate xs.length Value.none)[·]?)).length := fun is => by
    induction is with
    | nil => rfl
    | cons i r ih =>
      by_cases hi : i < xs.length
      · have e1 : xs[i]? = some xs[i] := List.getElem?_eq_getElem hi
        have e2 : (List.replicate xs.length Value.none)[i]? = some Value.none := by simp [hi]
        simp only [List.filterMap_cons, e1, e2, List.length_cons, ih]
      · have e1 : xs[i]? = none := List.getElem?_eq_none (by omega)
        have e2 : (List.replicate xs.length Value.none)[i]? = none := by simp; omega
        simp only [List.filterMap_cons, e1, e2, ih]
  unfold pickL
  rw [e]
  exact z
abbrev DTO := S3 → (Option Int → S3 → Prop) → ED → Prop
def KO (K : PySem.W.Frag) (B : B3) (σ : L2.St) (H : Hp) (k : Option Int → S3 → Prop) : Option Int → Hp → Prop := fun o H' => ∃ S', RS K B σ H' S' ∧ Mono H H' ∧ k o S'
def liftO (K : PySem.W.Frag) (W : WX) (t : DTO) : TO := fun σ H Q => ∃ B S k e, RS K B σ H S ∧ t S k e ∧ HX K W B e ∧ ∀ o H', KO K B σ H k o H' → Q o H'
def DO (X : Cx) (W : WX) (e : Option Expr) (t : DTO) : Prop := PO X e (liftO X.K W t)
def dNoPart : DTO := fun S k _ => k none S
def dPart (te : DTE) : DTO := fun S k e => te S (fun r S1 => match r with
  | .d (.int i) => k (some i) S1
  | _ => False) e
section
variable {X : Cx} {W : WX} {e : Expr} {lo hi st : Option Expr} {te : DTE} {tl th ts : DTO} {pos p2 : Pos}
theorem do_none : DO X W none dNoPart := ⟨fun pins s σ H Q I ⟨B, S, k, er, R, q, hx, f⟩ => po_none.run pins s σ H Q I (f none H ⟨S, R, .rfl, q⟩)⟩
theorem do_some (h : DE X W e te) : DO X W (some e) (dPart te) := ⟨fun pins s σ H Q I ⟨B, S, k, er, R, q, hx, f⟩ =>
  (po_some h).run pins s σ H Q I (liftE.in (t := te) R q hx fun v H1 r S1 R1 m1 rr q1 => by
    match r, rr, q1 with
    | .d (.int i), rr, q1 =>
      cases (show Dz _ _ _ _ from rr)
      exact ⟨i, rfl, f (some i) H1 ⟨S1, R1, m1, q1⟩⟩)⟩
theorem DO.go (h : DO X W lo tl) {pins : List (Addr × Obj)} {s : Shared} {σ : L2.St} {H : Hp} {B : B3} {S : S3} (I : Inv X pins σ H s) (R : RS X.K B σ H S) {k : Option Int → S3 → Prop} {er : ED} (q : tl S k er) (hx : HX X.K W B er) :
    wpAny (model X.prog X.w) X.A (evalPart lo X.env) (fun u s1 => ∃ o H1, Inv X pins σ H1 s1 ∧ IsPart u o ∧ KO X.K B σ H k o H1) X.xe s := h.run pins s σ H _ I ⟨B, S, k, er, R, q, hx, fun _ _ z => z⟩
/-- the four parts of e[lo:hi:st], then f -/
theorem slice_parts (he : DE X W e te) (hl : DO X W lo tl) (hh : DO X W hi th) (hs : DO X W st ts) {pins : List (Addr × Obj)} {s : Shared} {σ : L2.St} {H : Hp} {B : B3} {S : S3} (I : Inv X pins σ H s) (R : RS X.K B σ H S) {k4 : SV → Option Int → Option Int → Option Int → S3 → Prop} {er : ED}
    (q : te S (fun r S1 => tl S1 (fun a S2 => th S2 (fun b S3 => ts S3 (fun c S4 => k4 r a b c S4) er) er) er) er) (hx : HX X.K W B er) {Q : Value → Shared → Prop}
    (hf : ∀ (v vl vu vs : Value) (s4 : Shared) (r : SV) (x : V) (a b c : Option Int) (H4 : Hp) (S4 : S3), Inv X pins σ H4 { s4 with heap := s4.heap.push { cls := .type "slice", data := .fields #[vl, vu, vs] } } → RS X.K B σ H4 S4 → Mono H H4 → RR X.K B H4 r x → RelV x v → IsPart vl a → IsPart vu b → IsPart vs c → k4 r a b c S4 →
      wpAny (model X.prog X.w) X.A (subscriptTail e (.Slice lo hi st p2) v (.ref s4.heap.objs.size)) Q X.xe { s4 with heap := s4.heap.push { cls := .type "slice", data := .fields #[vl, vu, vs] } }) :
    wpAny (model X.prog X.w) X.A (eval (.Subscript e (.Slice lo hi st p2) pos) X.env) Q X.xe s := by
  refine Subscript_ (thn (he.go I R q hx) fun v s1 ⟨x, H1, I1, r1, r, S1, R1, m1, rr, q1⟩ => ?_)
  refine wpAny_Slice (thn (hl.go I1 R1 q1 hx) fun vl s2 ⟨a, H2, I2, pl, S2, R2, m2, q2⟩ => thn (hh.go I2 R2 q2 hx) fun vu s3 ⟨b, H3, I3, pu, S3, R3, m3, q3⟩ => thn (hs.go I3 R3 q3 hx) fun vs s4 ⟨c, H4, I4, ps, S4, R4, m4, q4⟩ => ?_)
  exact hf v vl vu vs s4 r x a b c H4 S4 (I4.kept (t' := s4.toks) fun b ob q => Heap.get?_push_of_some _ q) R4 (((m1.tr m2).tr m3).tr m4) (rr.mono ((m2.tr m3).tr m4)) r1 pl pu ps q4
theorem sub_ops (o i : Value) : ∃ ops, subscripted (.Slice lo hi st p2) false o i = operate ops (getItem o i) := by
  cases st with
  | none => exact ⟨_, rfl⟩
  | some c => exact ⟨_, rfl⟩
/-- xs[lo:hi:st], a list -/
theorem list_cut {pins : List (Addr × Obj)} {s4 : Shared} {σ : L2.St} {H4 : Hp} {adr : Addr} {vs : List V} {vl vu vt : Value} {a b c : Option Int} {Q : VK} (I : Inv X pins σ H4 { s4 with heap := s4.heap.push { cls := .type "slice", data := .fields #[vl, vu, vt] } }) (h1 : SqL X.K H4 adr vs)
    (pl : IsPart vl a) (pu : IsPart vu b) (ps : IsPart vt c) (hc : c ≠ some 0) (q : ∀ p, H4 p = none → Q (.ref p) (upd H4 p (.lst (pickL vs a b c)))) :
    wpAny (model X.prog X.w) X.A (subscriptTail e (.Slice lo hi st p2) (.ref adr) (.ref s4.heap.objs.size)) (EP X pins σ Q) X.xe { s4 with heap := s4.heap.push { cls := .type "slice", data := .fields #[vl, vu, vt] } } := by
  obtain ⟨its, rv, pl1, hz⟩ := I.list h1
  have hlen := rv.length
  obtain ⟨ops, hop⟩ := sub_ops (lo := lo) (hi := hi) (st := st) (p2 := p2) (.ref adr) (.ref s4.heap.objs.size)
  refine tail_any (ops := ops) pl1.isList.typeIs (PySem.slot_list_getitem.lookup) ?_ hop
  refine wpAny_getItem_list_slice pl1.isList (Heap.IsSliceOf.new _ vl vu vt) pl pu ps hc ?_ (by rw [List.size_toArray]; omega)
  have ep : (slicePick its.toArray a b c) = (pickL its a b c).toArray := by
    unfold slicePick pickL
    simp only [List.size_toArray, List.getElem?_toArray]
  rw [ep]
  refine ⟨.ref _, _, I.laid (t' := s4.toks) (o := .lst (pickL vs a b c)) (fun b ob q => Heap.get?_push_of_some _ q) (Nat.le_refl _) ?_, rfl, q _ (I.hok.fresh (Nat.le_refl _))⟩
  have lp := pickL_le vs a b c
  refine ⟨by omega, _, 0, ?_, Heap.get?_push_size _ rfl⟩
  unfold pickL
  rw [hlen]
  exact fm_vals rv _
theorem pick_cut {α : Type} (xs : List α) (lo hi : Option Int) : pickL xs lo hi none = cutL xs lo hi := by
  obtain ⟨h1, h2, h3⟩ := slice_bounds lo hi xs.length
  have z := pick_run xs.toArray (HT.sIx xs.length 0 lo) (HT.sIx xs.length xs.length hi - HT.sIx xs.length 0 lo)
  simp only [List.getElem?_toArray] at z
  unfold pickL cutL
  rw [h1, h2, h3, sliceRange_one, z]
/-- xs[lo:hi:st] of a list: a new list -/
def dSlL (te : DTE) (tl th ts : DTO) : DTL := fun S k er => te S (fun r S1 => tl S1 (fun a S2 => th S2 (fun b S3 => ts S3 (fun c S4 => match r with
  | .d (.list xs) => c ≠ some 0 ∧ k (pickL xs a b c) S4
  | _ => False) er) er) er) er
theorem d_slL (he : DE X W e te) (hl : DO X W lo tl) (hh : DO X W hi th) (hs : DO X W st ts) : DL X W (.Subscript e (.Slice lo hi st p2) pos) (dSlL te tl th ts) := by
  refine .mk fun pins s σ H B S k er I R q hx => ?_
  refine slice_parts he hl hh hs I R q hx fun v vl vu vs s4 r x a b c H4 S4 I4 R4 m rr rx pl pu ps q4 => ?_
  match r, rr, q4 with
  | .d (.list xs), rr, q4 =>
    cases (show Dz _ _ _ _ from rr) with
    | lst h1 h2 =>
      cases (show v = _ from rx)
      exact list_cut I4 h1.sq pl pu ps q4.1 fun p hp => ⟨_, S4, R4.new hp, m.tr (.new hp), .new R4 hp (pickL_dz h2 a b c), q4.2⟩
/-- x[lo:hi] of a tuple or a text -/
def dSlT (te : DTE) (tl th : DTO) : DTE := fun S k er => te S (fun r S1 => tl S1 (fun a S2 => th S2 (fun b S3 => match r with
  | .d (.tuple xs) => k (.d (.tuple (cutL xs a b))) S3
  | .d (.str z) => z.length ≤ sizeLine ∧ k (.d (.str (cutS z a b))) S3
  | _ => False) er) er) er
theorem none_part {pins : List (Addr × Obj)} {s : Shared} {Q : Value → Shared → Prop} {E : Value → Shared → Prop} (h : Q .none s) : wpAny (model X.prog X.w) X.A (evalPart none X.env) Q E s := by
  rw [evalPart_none]
  exact wpAny_pure h
theorem d_slT (he : DE X W e te) (hl : DO X W lo tl) (hh : DO X W hi th) : DE X W (.Subscript e (.Slice lo hi none p2) pos) (dSlT te tl th) := by
  refine .of (pe_slice (sl_tupA.or sl_str) he hl hh) fun σ H B S k er R q hx => liftE.in (t := te) R q hx fun v H1 r S1 R1 m1 rr q1 => ?_
  refine ⟨B, S1, _, er, R1, q1, hx, fun a H2 ⟨S2, R2, m2, q2⟩ => ?_⟩
  refine ⟨B, S2, _, er, R2, q2, hx, fun b H3 ⟨S3, R3, m3, q3⟩ => ?_⟩
  replace rr := rr.mono (m2.tr m3)
  match r, rr, q3 with
  | .d (.tuple xs), rr, q3 =>
    cases (show Dz _ _ _ _ from rr) with
    | @tup adr vs ds h1 h2 =>
      refine .inl ⟨adr, vs, rfl, h1, fun w => ?_, fun _ p hp => ?_⟩
      · have e : cutL xs a b = xs := by
          unfold cutL
          rw [← h2.len, w.1, w.2]
          simp [h2.len]
        have q3 : k (.d (.tuple (cutL xs a b))) S3 := q3
        rw [e] at q3
        exact ⟨.d (.tuple xs), S3, R3, (m1.tr m2).tr m3, Dz.tup h1 h2, q3⟩
      · exact ⟨.d (.tuple (cutL xs a b)), S3, R3.new hp, ((m1.tr m2).tr m3).tr (.new hp), Dz.tup (.of upd_same) ((cutL_dz h2 a b).mono (.new hp)), q3⟩
  | .d (.str z), rr, q3 =>
    cases (show Dz _ _ _ _ from rr)
    exact .inr ⟨z, rfl, q3.1, .d (.str (cutS z a b)), S3, R3, (m1.tr m2).tr m3, Dz.str _, q3.2⟩
end
/-! ### a shared list is made -/
def noThk (G : List (Option SV)) : List (Option SV) := G.map fun o => match o with
  | some (.thk _ _ _ _ _) => none
  | o => o
theorem noThk_get {G : List (Option SV)} {i : Nat} {r : SV} (h : (noThk G)[i]? = some (some r)) : G[i]? = some (some r) ∧ ∀ f c q H ms, r ≠ .thk f c q H ms := by
  unfold noThk at h
  rw [List.getElem?_map] at h
  cases e : G[i]? with
  | none => rw [e] at h; cases h
  | some o =>
    rw [e] at h
    cases o with
    | none => cases h
    | some q =>
      cases q with
      | thk _ _ _ _ _ => cases h
      | _ => cases h; exact ⟨rfl, fun _ _ _ _ _ z => nomatch z⟩
/-- x = [e, ..], from now on a cell, to the def's end -/
def dCell (i : Nat) (t : DTL) (rest : DTS) : DTS := fun D S e => t S (fun xs S1 => rest { nx := fun _ => False, rt := fun r S2 => (∃ x, r = .d x) ∧ D.rt r { G := S2.G.map fun _ => none, C := S2.C.take S1.C.length } }
  { G := (noThk S1.G).set i (some (.cell S1.C.length)), C := S1.C ++ [xs] } fun _ _ => False) e
section
variable {X : Cx} {W : WX} {e : Expr} {rest : List Stmt} {pos pos' : Pos} {x : Str}
theorem dss_cell {i : Nat} {tl : DTL} {tr : DTS} (hN : X.N.Nodup) (hi : X.N[i]? = some x) (hx : Loc X.env.scope x) (he : DL X W e tl) (hr : DSs X W rest tr) (hs : swapsWith e (some (.Name x pos')) pos.line X.env = pure false := by rfl)
    (hf : X.fn x = true ∨ X.env.scope.names.lookup x = some .local := by first | exact .inl rfl | exact .inr rfl | assumption) : DSs X W (.Assign [.Name x pos'] e pos :: rest) (dCell i tl tr) := by
  refine .of (pss_cons (ps_set hN hi hx he hs hf) hr) fun σ H B S D er R q hx => liftL.in (t := tl) R q hx fun v H1 xs S1 R1 m1 rl q1 => ?_
  obtain ⟨p, vs, rfl, h1, h2, h3, h4, h5⟩ := rl
  have hlen : B.ms.length = S1.C.length := R1.cn
  refine ⟨⟨B.H0, B.ms ++ [p]⟩, _, _, _, ?_, q1, fun _ _ _ _ _ _ _ _ z => z.elim, fun _ _ ⟨_, _, _, z⟩ => z.elim, fun v H2 ⟨r, S2, σ2, R2, rr, ⟨y, ey⟩, z⟩ => ?_, fun _ _ ⟨_, _, _, z⟩ => z.elim, fun _ _ ⟨_, _, _, z⟩ => z.elim⟩
  · have old : ∀ {n : Nat} {a : Addr}, B.ms[n]? = some a → (B.ms ++ [p])[n]? = some a := fun {n a} q => by
      have hl := (List.getElem?_eq_some_iff.mp q).1
      rw [List.getElem?_append_left hl]
      exact q
    have len1 : σ.length = S1.G.length := R1.len.symm
    refine ⟨fun j r q => ?_, fun j k ys zs u ne e1 e2 e3 e4 => ?_, by simp [hlen], ?_, fun n a ys e1 e2 => ?_, fun b o e1 e2 => R1.keep b o e1 (fun z => e2 (by simp [show b ∈ B.ms from z])), by simp [noThk, R1.len], R1.tabs⟩
    · rcases set_get q with ⟨rfl, q, hl⟩ | ⟨ne, q⟩
      · cases q
        have hl2 : i < σ.length := by
          rw [len1]
          simpa [noThk] using hl
        refine ⟨.ref p, by rw [List.getElem?_set_self hl2], p, ?_, rfl⟩
        show (B.ms ++ [p])[S1.C.length]? = some p
        rw [← hlen]
        simp
      · obtain ⟨q, nt⟩ := noThk_get q
        obtain ⟨w, g1, g2⟩ := R1.slot j r q
        refine ⟨w, by rw [List.getElem?_set_ne ne]; exact g1, ?_⟩
        cases r with
        | own ys =>
          obtain ⟨a, ws, q1, q2, q3, q4, q5⟩ := g2
          have ha : a ≠ p := fun zz => h5 j ys q (by rw [g1, q1, zz])
          exact ⟨a, ws, q1, q2, q3, q4, fun z => (List.mem_append.mp z).elim q5 (fun z => ha (List.mem_singleton.mp z))⟩
        | cell n =>
          obtain ⟨a, q1, q2⟩ := g2
          exact ⟨a, old q1, q2⟩
        | thk f c t H3 ms => exact absurd rfl (nt f c t H3 ms)
        | _ => exact g2
    · rcases set_get e1 with ⟨_, q, _⟩ | ⟨n1, e1⟩
      · cases q
      · rcases set_get e2 with ⟨_, q, _⟩ | ⟨n2, e2⟩
        · cases q
        · rw [List.getElem?_set_ne n1] at e3
          rw [List.getElem?_set_ne n2] at e4
          exact R1.sep j k ys zs u ne (noThk_get e1).1 (noThk_get e2).1 e3 e4
    · rw [List.nodup_append]
      exact ⟨R1.nd, by simp, fun a ha b hb => by
        cases List.mem_singleton.mp hb
        exact fun z => h4 (z ▸ ha)⟩
    · by_cases hn : n < B.ms.length
      · rw [show (⟨B.H0, B.ms ++ [p]⟩ : B3).ms = B.ms ++ [p] from rfl, List.getElem?_append_left hn] at e1
        rw [show ({ G := (noThk S1.G).set i (some (.cell S1.C.length)), C := S1.C ++ [xs] } : S3).C = S1.C ++ [xs] from rfl, List.getElem?_append_left (by omega)] at e2
        exact R1.cell n a ys e1 e2
      · have en : n = B.ms.length := by
          have := (List.getElem?_eq_some_iff.mp e1).1
          simp at this
          omega
        subst en
        have ea : p = a := by simpa using e1
        have ex : xs = ys := by
          have z : (S1.C ++ [xs])[B.ms.length]? = some ys := e2
          rw [hlen] at z
          simpa using z
        subst ea ex
        exact ⟨vs, h1, h2⟩
  · subst ey
    refine ⟨.d y, _, σ2, ?_, rr, z⟩
    refine ⟨fun j r q => ?_, fun j k ys zs u ne e1 _ _ _ => ?_, ?_, R1.nd, fun n a ys e1 e2 => ?_, fun b o e1 e2 => ?_, by simp [R2.len], R2.tabs⟩
    · simp at q
    · simp at e1
    · have z2 := R2.cn
      simp at z2
      simp only [List.length_take]
      omega
    · have hn : n < B.ms.length := (List.getElem?_eq_some_iff.mp e1).1
      refine R2.cell n a ys ?_ ?_
      · show (B.ms ++ [p])[n]? = some a
        rw [List.getElem?_append_left hn]
        exact e1
      · have e2 : (S2.C.take S1.C.length)[n]? = some ys := e2
        rw [List.getElem?_take] at e2
        split at e2
        · exact e2
        · cases e2
    · refine R2.keep b o e1 fun zz => ?_
      rcases List.mem_append.mp zz with zz | zz
      · exact e2 zz
      · cases List.mem_singleton.mp zz
        rw [h3] at e1
        cases e1
end
end
end D3
/-! D3n: how readings are computed. -/
namespace D3
open PySem PySem.Spec PyProof.Rows L2
theorem seq_abs {t u : DTS} {D : DEnds} {S : S3} {e : ED} (h : ∀ v : DTS, v = u → t { D with nx := fun S1 => v D S1 e } S e) : dSeq t u D S e := h u rfl
theorem ends_nx {k : SV → List (List PyData) → Prop} {S : S3} : (defEnds k).nx S = k (.d .none) S.C := rfl
theorem ends_rt {k : SV → List (List PyData) → Prop} {r : SV} {S : S3} : (defEnds k).rt r S = k r S.C := rfl
theorem exc_at {e : Xd → List (List PyData) → Prop} {x : Xd} {S : S3} : defExc e x S = e x S.C := rfl
theorem iteB_iff {b : Bool} {P Q : Prop} : iteB b P Q ↔ (b = true → P) ∧ (b = false → Q) := by
  cases b
  · exact ⟨fun h => ⟨nofun, fun _ => h⟩, fun h => h.2 rfl⟩
  · exact ⟨fun h => ⟨fun _ => h, nofun⟩, fun h => h.1 rfl⟩
theorem sh_int {i : Int} : SeqAt.shaped (.int i) = true := by simp [SeqAt.shaped, PyData.canLay0, PyData.depth]
theorem sh_bool {b : Bool} : SeqAt.shaped (.bool b) = true := by simp [SeqAt.shaped, PyData.canLay0, PyData.depth]
theorem sh_none : SeqAt.shaped .none = true := by simp [SeqAt.shaped, PyData.canLay0, PyData.depth]
theorem eqv_int {i j : Int} : PyData.eqv (.int i) (.int j) = (i == j) := by simp [PyData.eqv]
theorem eqv_bool {i j : Bool} : PyData.eqv (.bool i) (.bool j) = (i == j) := by simp [PyData.eqv]
theorem eqv_str {i j : Str} : PyData.eqv (.str i) (.str j) = (i == j) := by simp [PyData.eqv]
theorem eqv_list {i j : List PyData} : PyData.eqv (.list i) (.list j) = PyData.eqvAll i j := by simp [PyData.eqv]
theorem eqv_tuple {i j : List PyData} : PyData.eqv (.tuple i) (.tuple j) = PyData.eqvAll i j := by simp [PyData.eqv]
theorem eqv_nil : PyData.eqvAll [] [] = true := by simp [PyData.eqvAll]
theorem eqv_cons {a b : PyData} {r s : List PyData} : PyData.eqvAll (a :: r) (b :: s) = (PyData.eqv a b && PyData.eqvAll r s) := by simp [PyData.eqvAll]
mutual
theorem eqv_refl : ∀ d : PyData, d.hasDict = false → PyData.eqv d d = true
  | .none, _ => by simp [PyData.eqv]
  | .bool _, _ => by simp [PyData.eqv]
  | .int _, _ => by simp [PyData.eqv]
  | .str _, _ => by simp [PyData.eqv]
  | .list xs, h => by
    rw [eqv_list]
    exact eqv_reflAll xs (by simpa [PyData.hasDict] using h)
  | .tuple xs, h => by
    rw [eqv_tuple]
    exact eqv_reflAll xs (by simpa [PyData.hasDict] using h)
  | .dict _, h => by simp [PyData.hasDict] at h
theorem eqv_reflAll : ∀ ds : List PyData, PyData.hasDictAll ds = false → PyData.eqvAll ds ds = true
  | [], _ => by simp [PyData.eqvAll]
  | d :: r, h => by
    have z : d.hasDict = false ∧ PyData.hasDictAll r = false := by simpa [PyData.hasDictAll] using h
    rw [eqv_cons, eqv_refl d z.1, eqv_reflAll r z.2]
    rfl
end
theorem szl : sizeLine = 16777216 := sizeLine_eq
/-! ### isinstance of data -/
def qInt : PyData → Bool
  | .int _ => true
  | .bool _ => true
  | _ => false
def qBool : PyData → Bool
  | .bool _ => true
  | _ => false
def qStr : PyData → Bool
  | .str _ => true
  | _ => false
def qLst : PyData → Bool
  | .list _ => true
  | _ => false
def qTup : PyData → Bool
  | .tuple _ => true
  | _ => false
def qDct : PyData → Bool
  | .dict _ => true
  | _ => false
theorem kb_int (y : PyData) : kitB (tyD y) "int" = some (qInt y) := by cases y <;> simp only [tyD, qInt] <;> decide +kernel
theorem kb_bool (y : PyData) : kitB (tyD y) "bool" = some (qBool y) := by cases y <;> simp only [tyD, qBool] <;> decide +kernel
theorem kb_str (y : PyData) : kitB (tyD y) "str" = some (qStr y) := by cases y <;> simp only [tyD, qStr] <;> decide +kernel
theorem kb_list (y : PyData) : kitB (tyD y) "list" = some (qLst y) := by cases y <;> simp only [tyD, qLst] <;> decide +kernel
theorem kb_tuple (y : PyData) : kitB (tyD y) "tuple" = some (qTup y) := by cases y <;> simp only [tyD, qTup] <;> decide +kernel
theorem kb_dict (y : PyData) : kitB (tyD y) "dict" = some (qDct y) := by cases y <;> simp only [tyD, qDct] <;> decide +kernel
theorem isi_ty {K : PySem.W.Frag} {x : PyData} {n : String} {k : SV → Prop} {b : Bool} (h : kitB (tyD x) n = some b) : gIsiX K [.d x, .raw (.ty n)] k ↔ k (.d (.bool b)) := by
  cases x <;> simp only [gIsiX] <;> simp only [h]
theorem is_int {K : PySem.W.Frag} {x : PyData} {k : SV → Prop} : gIsiX K [.d x, .raw (.ty "int")] k ↔ k (.d (.bool (qInt x))) := isi_ty (kb_int x)
theorem is_bool {K : PySem.W.Frag} {x : PyData} {k : SV → Prop} : gIsiX K [.d x, .raw (.ty "bool")] k ↔ k (.d (.bool (qBool x))) := isi_ty (kb_bool x)
theorem is_str {K : PySem.W.Frag} {x : PyData} {k : SV → Prop} : gIsiX K [.d x, .raw (.ty "str")] k ↔ k (.d (.bool (qStr x))) := isi_ty (kb_str x)
theorem is_list {K : PySem.W.Frag} {x : PyData} {k : SV → Prop} : gIsiX K [.d x, .raw (.ty "list")] k ↔ k (.d (.bool (qLst x))) := isi_ty (kb_list x)
theorem is_tuple {K : PySem.W.Frag} {x : PyData} {k : SV → Prop} : gIsiX K [.d x, .raw (.ty "tuple")] k ↔ k (.d (.bool (qTup x))) := isi_ty (kb_tuple x)
theorem is_dict {K : PySem.W.Frag} {x : PyData} {k : SV → Prop} : gIsiX K [.d x, .raw (.ty "dict")] k ↔ k (.d (.bool (qDct x))) := isi_ty (kb_dict x)
/-- and, or of bools -/
theorem andV_iff {b : Bool} {P : Prop} {Q : SV → S3 → Prop} {S : S3} : (match (SV.d (.bool b)) with
  | .d (.bool true) => P
  | .d (.bool false) => Q (.d (.bool false)) S
  | _ => False) ↔ iteB b P (Q (.d (.bool false)) S) := by cases b <;> rfl
theorem dAndV_eq {t u : DTE} {S : S3} {k : SV → S3 → Prop} {e : ED} : dAndV t u S k e = t S (fun r S1 => match r with
  | .d (.bool b) => iteB b (u S1 k e) (k (.d (.bool false)) S1)
  | _ => False) e := by
  unfold dAndV
  congr 1
  funext r S1
  cases r with
  | d x =>
    cases x with
    | bool b => cases b <;> rfl
    | _ => rfl
  | _ => rfl
theorem dOrV_eq {t u : DTE} {S : S3} {k : SV → S3 → Prop} {e : ED} : dOrV t u S k e = t S (fun r S1 => match r with
  | .d (.bool b) => iteB b (k (.d (.bool true)) S1) (u S1 k e)
  | _ => False) e := by
  unfold dOrV
  congr 1
  funext r S1
  cases r with
  | d x =>
    cases x with
    | bool b => cases b <;> rfl
    | _ => rfl
  | _ => rfl
/-! ### sizes -/
theorem log2_of {n a : Nat} (h : n < 2 ^ a) : n.log2 < a ∨ n = 0 := by
  by_cases z : n = 0
  · exact .inr z
  · exact .inl ((Nat.log2_lt z).mpr h)
theorem log2_le_of {n a : Nat} (h : n < 2 ^ (a + 1)) : n.log2 ≤ a := by
  rcases log2_of h with z | z
  · omega
  · subst z
    simp
theorem mulOk {i j : Int} {a b : Nat} (h1 : i.natAbs < 2 ^ (a + 1)) (h2 : j.natAbs < 2 ^ (b + 1)) (h : a + b < 1000000) : MulOk i j := by
  have l1 := log2_le_of h1
  have l2 := log2_le_of h2
  unfold MulOk
  omega
theorem divOk {i j : Int} {a : Nat} (h0 : j ≠ 0) (h1 : j.natAbs < 2 ^ (a + 1)) (h : a < 9000) : DivOk i j := by
  have l1 := log2_le_of h1
  exact ⟨h0, by omega⟩
theorem powOk {i j : Int} {a : Nat} (h0 : 0 ≤ j) (h1 : i.natAbs < 2 ^ (a + 1)) (h : ((a + 1 : Nat) : Int) * j ≤ 134217728) : PowOk i j := by
  have l1 := log2_le_of h1
  refine ⟨h0, Int.le_trans (Int.mul_le_mul_of_nonneg_right (by omega) h0) h⟩
/-! ### loops -/
theorem loop_all {g : DTG} {tb : DTS} {D : DEnds} {e : ED} (I : List PyData → S3 → Prop) (h0 : ∀ S, I [] S → D.nx S) (hs : ∀ x xs S (N : S3 → Prop), I (x :: xs) S → (∀ S1, I xs S1 → N S1) → g x S fun S1 => tb { D with nx := N, ct := N, bk := D.nx } S1 e) : ∀ xs S, I xs S → dLoop g tb D e xs S
  | [], S, h => h0 S h
  | x :: xs, S, h => hs x xs S _ h (loop_all I h0 hs xs)
theorem while_of {tc : DTT} {tb : DTS} {D : DEnds} {S : S3} {e : ED} (I : Nat → S3 → Prop) (m : Nat) (h : I m S) (hs : ∀ m S (N : S3 → Prop), I m S → (∀ S1 m1, m1 < m → I m1 S1 → N S1) →
    tc S (fun b S1 => iteB b (tb { D with nx := N, ct := N, bk := D.nx } S1 e) (D.nx S1)) e) : dWhile tc tb D S e :=
  ⟨I, ⟨m, h⟩, fun m S i => hs m S _ i fun S1 m1 l z => ⟨m1, l, z⟩⟩
theorem set_nn {α : Type} {l : List α} {n : Nat} {x y : α} : (l.set n x).set n y = l.set n y := by simp
/-- an item by its place, from the left -/
theorem atK_nat {xs : List PyData} {i : Int} {n : Nat} {d : PyData} {k : SV → Prop} (hi : i = (n : Int)) (h : xs[n]? = some d) (q : k (.d d)) : atK xs i k := by
  have hn : n < xs.length := (List.getElem?_eq_some_iff.mp h).1
  have e : atI xs i = some d := by
    subst hi
    exact atI_nat h
  unfold atK
  rw [e]
  exact q
theorem at_iff {xs : List PyData} {i : Int} {n : Nat} {d : PyData} {k : SV → Prop} (hi : i = (n : Int)) (h : xs[n]? = some d) : atK xs i k ↔ k (.d d) := by
  have e : atI xs i = some d := by
    subst hi
    exact atI_nat h
  unfold atK
  rw [e]
theorem at_0 {a0 : PyData} {r : List PyData} {k : SV → Prop} : atK (a0 :: r) 0 k ↔ k (.d a0) := at_iff (n := 0) rfl rfl
theorem at_1 {a0 a1 : PyData} {r : List PyData} {k : SV → Prop} : atK (a0 :: a1 :: r) 1 k ↔ k (.d a1) := at_iff (n := 1) rfl rfl
theorem at_2 {a0 a1 a2 : PyData} {r : List PyData} {k : SV → Prop} : atK (a0 :: a1 :: a2 :: r) 2 k ↔ k (.d a2) := at_iff (n := 2) rfl rfl
theorem at_3 {a0 a1 a2 a3 : PyData} {r : List PyData} {k : SV → Prop} : atK (a0 :: a1 :: a2 :: a3 :: r) 3 k ↔ k (.d a3) := at_iff (n := 3) rfl rfl
theorem at_4 {a0 a1 a2 a3 a4 : PyData} {r : List PyData} {k : SV → Prop} : atK (a0 :: a1 :: a2 :: a3 :: a4 :: r) 4 k ↔ k (.d a4) := at_iff (n := 4) rfl rfl
theorem at_5 {a0 a1 a2 a3 a4 a5 : PyData} {r : List PyData} {k : SV → Prop} : atK (a0 :: a1 :: a2 :: a3 :: a4 :: a5 :: r) 5 k ↔ k (.d a5) := at_iff (n := 5) rfl rfl
theorem at_6 {a0 a1 a2 a3 a4 a5 a6 : PyData} {r : List PyData} {k : SV → Prop} : atK (a0 :: a1 :: a2 :: a3 :: a4 :: a5 :: a6 :: r) 6 k ↔ k (.d a6) := at_iff (n := 6) rfl rfl
theorem at_7 {a0 a1 a2 a3 a4 a5 a6 a7 : PyData} {r : List PyData} {k : SV → Prop} : atK (a0 :: a1 :: a2 :: a3 :: a4 :: a5 :: a6 :: a7 :: r) 7 k ↔ k (.d a7) := at_iff (n := 7) rfl rfl
theorem ix_10 : ixN 1 0 = some 0 := by decide
theorem at_map {ns : List Int} {i : Int} {k : SV → Prop} (h0 : 0 ≤ i) (h1 : i < (ns.length : Int)) (hk : ∀ z ∈ ns, k (.d (.int z))) : atK (ns.map .int) i k := by
  have hn : i.toNat < ns.length := by omega
  refine atK_nat (n := i.toNat) (d := .int ns[i.toNat]) (by omega) ?_ (hk _ (List.getElem_mem hn))
  rw [List.getElem?_map, List.getElem?_eq_getElem hn]
  rfl
end D3
/-! D3o: repr of data without texts and dicts. -/
namespace D3
open PySem PySem.Spec PyProof.Rows L2
mutual
def rOk : PyData → Prop
  | .none => True
  | .bool _ => True
  | .int i => i.natAbs.log2 < 1920
  | .str _ => False
  | .list xs => rOkAll xs
  | .tuple xs => rOkAll xs
  | .dict _ => False
def rOkAll : List PyData → Prop
  | [] => True
  | x :: xs => rOk x ∧ rOkAll xs
end
mutual
def szR : PyData → Nat
  | .none => 4
  | .bool _ => 5
  | .int _ => 1921
  | .str _ => 0
  | .list xs => 2 + szRAll xs
  | .tuple xs => 4 + szRAll xs
  | .dict _ => 0
def szRAll : List PyData → Nat
  | [] => 0
  | x :: xs => szR x + 2 + szRAll xs
end
theorem from_le : ∀ (ts : List Str) (k : Nat) (acc : Str), (textFrom k acc ts).length ≤ acc.length + (ts.map fun t => t.length + 2).sum
  | [], k, acc => by
    show acc.length ≤ _
    simp
  | t :: r, k, acc => by
    have ih := from_le r (k + 1) (acc ++ (if k > 0 then ", " else "" : String) ++ t)
    show (textFrom (k + 1) (acc ++ (if k > 0 then ", " else "" : String) ++ t) r).length ≤ _
    have e1 : (Str.ofString (if k > 0 then ", " else "" : String)).length ≤ 2 := by split <;> decide
    have e : (acc ++ (if k > 0 then ", " else "" : String) ++ t).length ≤ acc.length + 2 + t.length := by
      rw [Str.length_append, Str.length_append]
      omega
    simp only [List.map_cons, List.sum_cons]
    omega
theorem join_le : ∀ ts : List Str, (Str.join ", " ts).length ≤ (ts.map fun t => t.length + 2).sum
  | [] => by
    show (Str.join ", " []).length ≤ 0
    exact Nat.le_of_eq rfl
  | [x] => by
    show x.length ≤ _
    simp
  | x :: y :: r => by
    have ih := join_le (y :: r)
    show (x ++ ", " ++ Str.join ", " (y :: r)).length ≤ _
    have e2 : ((", " : String) : Str).length = 2 := rfl
    rw [Str.length_append, Str.length_append, e2]
    rw [List.map_cons, List.sum_cons]
    omega
mutual
theorem shown_le : ∀ d : PyData, rOk d → d.shown.length ≤ szR d
  | .none, _ => by
    simp only [PyData.shown, szR]
    decide
  | .bool b, _ => by
    simp only [PyData.shown, szR]
    cases b <;> decide
  | .int i, h => by
    simp only [rOk] at h
    simp only [PyData.shown, szR]
    exact int_text_len_1921 h
  | .str _, h => by simp only [rOk] at h
  | .dict _, h => by simp only [rOk] at h
  | .list xs, h => by
    simp only [rOk] at h
    have z := shownAll_le xs h
    simp only [PyData.shown, szR]
    unfold listText
    have f := from_le (PyData.shownAll xs) 0 "["
    have e1 : ((("[" : String) : Str)).length = 1 := rfl
    have e2 : ((("]" : String) : Str)).length = 1 := rfl
    rw [Str.length_append, e2]
    omega
  | .tuple xs, h => by
    simp only [rOk] at h
    have z := shownAll_le xs h
    simp only [PyData.shown, szR]
    unfold tupleText
    have f := join_le (PyData.shownAll xs)
    have e1 : ((("(" : String) : Str)).length = 1 := rfl
    have e2 : (Str.ofString (if (PyData.shownAll xs).length == 1 then ",)" else ")" : String)).length ≤ 2 := by split <;> decide
    rw [Str.length_append, Str.length_append, e1]
    omega
theorem shownAll_le : ∀ ds : List PyData, rOkAll ds → ((PyData.shownAll ds).map fun t => t.length + 2).sum ≤ szRAll ds
  | [], _ => by simp [PyData.shownAll, szRAll]
  | d :: r, h => by
    simp only [rOkAll] at h
    have a := shown_le d h.1
    have b := shownAll_le r h.2
    simp only [PyData.shownAll, szRAll, List.map_cons, List.sum_cons]
    omega
end
mutual
theorem rOk_show : ∀ d : PyData, rOk d → d.showable = true ∧ d.hasDict = false
  | .none, _ => by simp [PyData.showable, PyData.hasDict]
  | .bool _, _ => by simp [PyData.showable, PyData.hasDict]
  | .int i, h => by
    simp only [rOk] at h
    simp [PyData.showable, PyData.hasDict, h]
  | .str _, h => by simp only [rOk] at h
  | .dict _, h => by simp only [rOk] at h
  | .list xs, h => by
    simp only [rOk] at h
    have z := rOk_showAll xs h
    simp [PyData.showable, PyData.hasDict, z.1, z.2]
  | .tuple xs, h => by
    simp only [rOk] at h
    have z := rOk_showAll xs h
    simp [PyData.showable, PyData.hasDict, z.1, z.2]
theorem rOk_showAll : ∀ ds : List PyData, rOkAll ds → PyData.showableAll ds = true ∧ PyData.hasDictAll ds = false
  | [], _ => by simp [PyData.showableAll, PyData.hasDictAll]
  | d :: r, h => by
    simp only [rOkAll] at h
    have a := rOk_show d h.1
    have b := rOk_showAll r h.2
    simp [PyData.showableAll, PyData.hasDictAll, a.1, a.2, b.1, b.2]
end
theorem repr_of {d : PyData} {k : SV → Prop} (h : rOk d) (hs : szR d ≤ 16777216) (hd : d.depth ≤ 60) (q : k (.d (.str d.shown))) : gRepr [.d d] k := by
  have z := rOk_show d h
  have l := shown_le d h
  exact ⟨z.2, z.1, by rw [sizeLine_eq]; omega, hd, q⟩
/-- nothing is asked, nothing promised -/
theorem fnG_none [Tb] {P : Program} {w : World} {K : PySem.W.Frag} {mg : Str → Option Value} {base : Heap} {k n : Nat} {f : Addr} {fd : FuncData} {ps : List Str} (h : ps.length = n) : FnG P w K mg base k f fd ps (spD K n (fun _ _ _ _ => False)) := by
  have no : ∀ vs H Q E, ¬ spD K n (fun _ _ _ _ => False) vs H Q E := fun vs H Q E ⟨_, _, _, _, _, _, _, _, z, _⟩ => z
  exact ⟨fun vs H Q E z => (no vs H Q E z).elim, fun A outer s H args us vs Q E _ _ _ _ _ z => (no vs H Q E z).elim⟩
end D3
namespace GX
open PySem PySem.Spec PyProof.Rows L2 D3
def top (i : Nat) : Stmt := PySem.Challenge.pw_hollowrise_k01_fractions.main.body.getD i (.Pass ⟨0, 0, 0, 0⟩)
abbrev s_p_is_whole : Stmt := top 7
abbrev s_p_own_common : Stmt := top 8
abbrev s_p_is_fraction : Stmt := top 9
abbrev s_p_fraction : Stmt := top 10
abbrev s_p_plus : Stmt := top 11
abbrev s_p_less : Stmt := top 12
abbrev s_p_times : Stmt := top 13
abbrev s_p_by : Stmt := top 14
abbrev s_p_own_often : Stmt := top 15
abbrev s_p_power : Stmt := top 16
abbrev s_u_law_cell : Stmt := top 18
abbrev s_u_law_low : Stmt := top 19
abbrev s_u_law_plus : Stmt := top 20
abbrev s_u_law_times : Stmt := top 21
abbrev s_u_law_by : Stmt := top 22
abbrev s_u_law_number : Stmt := top 23
abbrev s_u_law_power : Stmt := top 24
abbrev s_u_law_refused : Stmt := top 25
abbrev s_u_law_is_one : Stmt := top 26
abbrev s_u_law_things : Stmt := top 27
abbrev s_u_law_pair_right : Stmt := top 28
abbrev s_p_law : Stmt := top 29
structure Adr where
  f_p_is_whole : Addr
  d_p_is_whole : FuncData
  f_p_own_common : Addr
  d_p_own_common : FuncData
  f_p_is_fraction : Addr
  d_p_is_fraction : FuncData
  f_p_fraction : Addr
  d_p_fraction : FuncData
  f_p_plus : Addr
  d_p_plus : FuncData
  f_p_less : Addr
  d_p_less : FuncData
  f_p_times : Addr
  d_p_times : FuncData
  f_p_by : Addr
  d_p_by : FuncData
  f_p_own_often : Addr
  d_p_own_often : FuncData
  f_p_power : Addr
  d_p_power : FuncData
  f_u_law_cell : Addr
  d_u_law_cell : FuncData
  f_u_law_low : Addr
  d_u_law_low : FuncData
  f_u_law_plus : Addr
  d_u_law_plus : FuncData
  f_u_law_times : Addr
  d_u_law_times : FuncData
  f_u_law_by : Addr
  d_u_law_by : FuncData
  f_u_law_number : Addr
  d_u_law_number : FuncData
  f_u_law_power : Addr
  d_u_law_power : FuncData
  f_u_law_refused : Addr
  d_u_law_refused : FuncData
  f_u_law_is_one : Addr
  d_u_law_is_one : FuncData
  f_u_law_things : Addr
  d_u_law_things : FuncData
  f_u_law_pair_right : Addr
  d_u_law_pair_right : FuncData
  f_p_law : Addr
  d_p_law : FuncData
  k_u_law_pair_right : Addr
  t_u_law_pair_right : Addr
  k_p_law : Addr
  t_p_law : Addr
  c_BadFraction : Addr
  c_BadRule : Addr
  c_BookError : Addr
  c_DeedError : Addr
  c_HollowError : Addr
theorem sc_p_is_whole : FnScope ["thing"] ["thing"] (defScope s_p_is_whole) := ⟨rfl, rfl, rfl, by decide +kernel, rfl, by decide +kernel, by decide +kernel⟩
theorem sc_p_own_common : FnScope ["one", "other"] ["one", "other"] (defScope s_p_own_common) := ⟨rfl, rfl, rfl, by decide +kernel, rfl, by decide +kernel, by decide +kernel⟩
theorem sc_p_is_fraction : FnScope ["thing", "part"] ["thing"] (defScope s_p_is_fraction) := ⟨rfl, rfl, rfl, by decide +kernel, rfl, by decide +kernel, by decide +kernel⟩
theorem sc_p_fraction : FnScope ["above", "below", "part"] ["above", "below"] (defScope s_p_fraction) := ⟨rfl, rfl, rfl, by decide +kernel, rfl, by decide +kernel, by decide +kernel⟩
theorem sc_p_plus : FnScope ["one", "other"] ["one", "other"] (defScope s_p_plus) := ⟨rfl, rfl, rfl, by decide +kernel, rfl, by decide +kernel, by decide +kernel⟩
theorem sc_p_less : FnScope ["one", "other"] ["one", "other"] (defScope s_p_less) := ⟨rfl, rfl, rfl, by decide +kernel, rfl, by decide +kernel, by decide +kernel⟩
theorem sc_p_times : FnScope ["one", "other"] ["one", "other"] (defScope s_p_times) := ⟨rfl, rfl, rfl, by decide +kernel, rfl, by decide +kernel, by decide +kernel⟩
theorem sc_p_by : FnScope ["one", "other"] ["one", "other"] (defScope s_p_by) := ⟨rfl, rfl, rfl, by decide +kernel, rfl, by decide +kernel, by decide +kernel⟩
theorem sc_p_own_often : FnScope ["one", "number", "found", "step"] ["one", "number"] (defScope s_p_own_often) := ⟨rfl, rfl, rfl, by decide +kernel, rfl, by decide +kernel, by decide +kernel⟩
theorem sc_p_power : FnScope ["one", "number"] ["one", "number"] (defScope s_p_power) := ⟨rfl, rfl, rfl, by decide +kernel, rfl, by decide +kernel, by decide +kernel⟩
theorem sc_u_law_cell : FnScope ["_law_cells", "_law_spot", "_law_k", "_law_base", "_law_own", "_law_turn"] ["_law_cells", "_law_spot"] (defScope s_u_law_cell) := ⟨rfl, rfl, rfl, by decide +kernel, rfl, by decide +kernel, by decide +kernel⟩
theorem sc_u_law_low : FnScope ["_law_above", "_law_below", "_law_one", "_law_other", "_law_part"] ["_law_above", "_law_below"] (defScope s_u_law_low) := ⟨rfl, rfl, rfl, by decide +kernel, rfl, by decide +kernel, by decide +kernel⟩
theorem sc_u_law_plus : FnScope ["_law_one", "_law_other"] ["_law_one", "_law_other"] (defScope s_u_law_plus) := ⟨rfl, rfl, rfl, by decide +kernel, rfl, by decide +kernel, by decide +kernel⟩
theorem sc_u_law_times : FnScope ["_law_one", "_law_other"] ["_law_one", "_law_other"] (defScope s_u_law_times) := ⟨rfl, rfl, rfl, by decide +kernel, rfl, by decide +kernel, by decide +kernel⟩
theorem sc_u_law_by : FnScope ["_law_one", "_law_other"] ["_law_one", "_law_other"] (defScope s_u_law_by) := ⟨rfl, rfl, rfl, by decide +kernel, rfl, by decide +kernel, by decide +kernel⟩
theorem sc_u_law_number : FnScope ["_law_cells", "_law_spot", "_law_n", "_law_far", "_law_great"] ["_law_cells", "_law_spot"] (defScope s_u_law_number) := ⟨rfl, rfl, rfl, by decide +kernel, rfl, by decide +kernel, by decide +kernel⟩
theorem sc_u_law_power : FnScope ["_law_one", "_law_number_here", "_law_found", "_law_turn"] ["_law_one", "_law_number_here"] (defScope s_u_law_power) := ⟨rfl, rfl, rfl, by decide +kernel, rfl, by decide +kernel, by decide +kernel⟩
theorem sc_u_law_refused : FnScope ["_law_deed", "_law_wrong", "error", "_law_kinds"] ["_law_deed"] (defScope s_u_law_refused) := ⟨rfl, rfl, rfl, by decide +kernel, rfl, by decide +kernel, by decide +kernel⟩
theorem sc_u_law_is_one : FnScope ["_law_thing", "_law_part"] ["_law_thing"] (defScope s_u_law_is_one) := ⟨rfl, rfl, rfl, by decide +kernel, rfl, by decide +kernel, by decide +kernel⟩
theorem sc_u_law_things : FnScope ["_law_one", "_law_n", "_law_above", "_law_below", "_law_some"] ["_law_one", "_law_n"] (defScope s_u_law_things) := ⟨rfl, rfl, rfl, by decide +kernel, rfl, by decide +kernel, by decide +kernel⟩
theorem sc_u_law_pair_right : FnScope ["_law_one", "_law_other", "_law_number_here", "_law_told", "_law_size", "_law_due", "_law_is_by"] ["_law_one", "_law_other", "_law_number_here"] (defScope s_u_law_pair_right) := ⟨rfl, rfl, rfl, by decide +kernel, rfl, by decide +kernel, by decide +kernel⟩
theorem sc_p_law : FnScope ["_law_script", "_law_spot", "_law_turn", "_law_a", "_law_b", "_law_c", "_law_d", "_law_n", "_law_one", "_law_other", "_law_thing", "_law_told"] ["_law_script"] (defScope s_p_law) := ⟨rfl, rfl, rfl, by decide +kernel, rfl, by decide +kernel, by decide +kernel⟩
structure Fct (K : PySem.W.Frag) (mg : Str → Option Value) (A : Adr) : Prop where
  m_p_is_whole : mg "is_whole" = some (.ref A.f_p_is_whole)
  f_p_is_whole : Fun K "is_whole" "is_whole" s_p_is_whole A.f_p_is_whole A.d_p_is_whole
  b_p_is_whole : Binds K A.d_p_is_whole ["thing"] []
  m_p_own_common : mg "own_common" = some (.ref A.f_p_own_common)
  f_p_own_common : Fun K "own_common" "own_common" s_p_own_common A.f_p_own_common A.d_p_own_common
  b_p_own_common : Binds K A.d_p_own_common ["one", "other"] []
  m_p_is_fraction : mg "is_fraction" = some (.ref A.f_p_is_fraction)
  f_p_is_fraction : Fun K "is_fraction" "is_fraction" s_p_is_fraction A.f_p_is_fraction A.d_p_is_fraction
  b_p_is_fraction : Binds K A.d_p_is_fraction ["thing"] []
  m_p_fraction : mg "fraction" = some (.ref A.f_p_fraction)
  f_p_fraction : Fun K "fraction" "fraction" s_p_fraction A.f_p_fraction A.d_p_fraction
  b_p_fraction : Binds K A.d_p_fraction ["above", "below"] []
  m_p_plus : mg "plus" = some (.ref A.f_p_plus)
  f_p_plus : Fun K "plus" "plus" s_p_plus A.f_p_plus A.d_p_plus
  b_p_plus : Binds K A.d_p_plus ["one", "other"] []
  m_p_less : mg "less" = some (.ref A.f_p_less)
  f_p_less : Fun K "less" "less" s_p_less A.f_p_less A.d_p_less
  b_p_less : Binds K A.d_p_less ["one", "other"] []
  m_p_times : mg "times" = some (.ref A.f_p_times)
  f_p_times : Fun K "times" "times" s_p_times A.f_p_times A.d_p_times
  b_p_times : Binds K A.d_p_times ["one", "other"] []
  m_p_by : mg "by" = some (.ref A.f_p_by)
  f_p_by : Fun K "by" "by" s_p_by A.f_p_by A.d_p_by
  b_p_by : Binds K A.d_p_by ["one", "other"] []
  m_p_own_often : mg "own_often" = some (.ref A.f_p_own_often)
  f_p_own_often : Fun K "own_often" "own_often" s_p_own_often A.f_p_own_often A.d_p_own_often
  b_p_own_often : Binds K A.d_p_own_often ["one", "number"] []
  m_p_power : mg "power" = some (.ref A.f_p_power)
  f_p_power : Fun K "power" "power" s_p_power A.f_p_power A.d_p_power
  b_p_power : Binds K A.d_p_power ["one", "number"] []
  m_u_law_cell : mg "_law_cell" = some (.ref A.f_u_law_cell)
  f_u_law_cell : Fun K "_law_cell" "_law_cell" s_u_law_cell A.f_u_law_cell A.d_u_law_cell
  b_u_law_cell : Binds K A.d_u_law_cell ["_law_cells", "_law_spot"] []
  m_u_law_low : mg "_law_low" = some (.ref A.f_u_law_low)
  f_u_law_low : Fun K "_law_low" "_law_low" s_u_law_low A.f_u_law_low A.d_u_law_low
  b_u_law_low : Binds K A.d_u_law_low ["_law_above", "_law_below"] []
  m_u_law_plus : mg "_law_plus" = some (.ref A.f_u_law_plus)
  f_u_law_plus : Fun K "_law_plus" "_law_plus" s_u_law_plus A.f_u_law_plus A.d_u_law_plus
  b_u_law_plus : Binds K A.d_u_law_plus ["_law_one", "_law_other"] []
  m_u_law_times : mg "_law_times" = some (.ref A.f_u_law_times)
  f_u_law_times : Fun K "_law_times" "_law_times" s_u_law_times A.f_u_law_times A.d_u_law_times
  b_u_law_times : Binds K A.d_u_law_times ["_law_one", "_law_other"] []
  m_u_law_by : mg "_law_by" = some (.ref A.f_u_law_by)
  f_u_law_by : Fun K "_law_by" "_law_by" s_u_law_by A.f_u_law_by A.d_u_law_by
  b_u_law_by : Binds K A.d_u_law_by ["_law_one", "_law_other"] []
  m_u_law_number : mg "_law_number" = some (.ref A.f_u_law_number)
  f_u_law_number : Fun K "_law_number" "_law_number" s_u_law_number A.f_u_law_number A.d_u_law_number
  b_u_law_number : Binds K A.d_u_law_number ["_law_cells", "_law_spot"] []
  m_u_law_power : mg "_law_power" = some (.ref A.f_u_law_power)
  f_u_law_power : Fun K "_law_power" "_law_power" s_u_law_power A.f_u_law_power A.d_u_law_power
  b_u_law_power : Binds K A.d_u_law_power ["_law_one", "_law_number_here"] []
  m_u_law_refused : mg "_law_refused" = some (.ref A.f_u_law_refused)
  f_u_law_refused : Fun K "_law_refused" "_law_refused" s_u_law_refused A.f_u_law_refused A.d_u_law_refused
  b_u_law_refused : Binds K A.d_u_law_refused ["_law_deed"] []
  m_u_law_is_one : mg "_law_is_one" = some (.ref A.f_u_law_is_one)
  f_u_law_is_one : Fun K "_law_is_one" "_law_is_one" s_u_law_is_one A.f_u_law_is_one A.d_u_law_is_one
  b_u_law_is_one : Binds K A.d_u_law_is_one ["_law_thing"] []
  m_u_law_things : mg "_law_things" = some (.ref A.f_u_law_things)
  f_u_law_things : Fun K "_law_things" "_law_things" s_u_law_things A.f_u_law_things A.d_u_law_things
  b_u_law_things : Binds K A.d_u_law_things ["_law_one", "_law_n"] []
  m_u_law_pair_right : mg "_law_pair_right" = some (.ref A.f_u_law_pair_right)
  f_u_law_pair_right : Fun K "_law_pair_right" "_law_pair_right" s_u_law_pair_right A.f_u_law_pair_right A.d_u_law_pair_right
  b_u_law_pair_right : Binds K A.d_u_law_pair_right ["_law_one", "_law_other", "_law_number_here"] []
  m_p_law : mg "law" = some (.ref A.f_p_law)
  f_p_law : Fun K "law" "law" s_p_law A.f_p_law A.d_p_law
  b_p_law : Binds K A.d_p_law ["_law_script"] []
  q_u_law_pair_right : codeOf K A.f_u_law_pair_right = some (.ref A.k_u_law_pair_right)
  q_p_law : codeOf K A.f_p_law = some (.ref A.k_p_law)
  z_ValueError : mg "ValueError" = none
  z_abs : mg "abs" = none
  z_all : mg "all" = none
  z_bool : mg "bool" = none
  z_int : mg "int" = none
  z_isinstance : mg "isinstance" = none
  z_len : mg "len" = none
  z_min : mg "min" = none
  z_range : mg "range" = none
  z_repr : mg "repr" = none
  z_str : mg "str" = none
  z_tuple : mg "tuple" = none
  mc_BadFraction : mg "BadFraction" = some (.ref A.c_BadFraction)
  mc_BadRule : mg "BadRule" = some (.ref A.c_BadRule)
  mc_BookError : mg "BookError" = some (.ref A.c_BookError)
  mc_DeedError : mg "DeedError" = some (.ref A.c_DeedError)
  mc_HollowError : mg "HollowError" = some (.ref A.c_HollowError)
  x_BadFraction : PySem.W.excIn K A.c_BadFraction [.type "ValueError", .type "Exception", .type "BaseException", .type "object"] "ValueError.__new__" = true
  kc_BadFraction : PySem.W.keepIn K (.ref A.c_BadFraction) = true
  sb_BadFraction : PySem.W.subIn K (.ref A.c_BadFraction) (.type "BaseException") = some true
  ty_BadFraction : PySem.W.typeIn K (.ref A.c_BadFraction) = some (.type "type")
  ec_BadFraction : ExcC K A.c_BadFraction
  i_BadFraction_BadFraction : PySem.W.kitOne K (.ref A.c_BadFraction) (.ref A.c_BadFraction) = some true
  i_BadFraction_BadRule : PySem.W.kitOne K (.ref A.c_BadFraction) (.ref A.c_BadRule) = some false
  i_BadFraction_ValueError : PySem.W.kitOne K (.ref A.c_BadFraction) (.type "ValueError") = some true
  e_BadFraction_HollowError_DeedError_BookError : PySem.W.exmAny K (.ref A.c_BadFraction) [.ref A.c_HollowError, .ref A.c_DeedError, .ref A.c_BookError] = some true
  in_BadFraction : PySem.W.kitOne K (.type "NoneType") (.ref A.c_BadFraction) = some false
  in_BadRule : PySem.W.kitOne K (.type "NoneType") (.ref A.c_BadRule) = some false
theorem hu64 {A : Around} {k : Nat} (hr : Room k A) : A.units + 64 < cLine := by have := hr.un; omega
def visB (sc : Scope) (x : Str) : Bool := match sc.names.lookup x with
  | some .local => true
  | some .cell => true
  | some .free => true
  | _ => false
def blkB (N : List Str) (sc scope : Scope) (own : List (Str × Nat)) : Bool :=
  decide (scope.kind = .function) && scope.names.all (fun y => decide (scope.names.lookup y.1 = some y.2)) && own.all (fun p => decide (N[p.2]? = some p.1)) &&
    scope.names.all (fun y => !decide (y.2 = .free) || (decide (sc.names.lookup y.1 = some .cell) || decide (sc.names.lookup y.1 = some .free))) &&
    scope.names.all (fun y => !(decide (y.2 = .local) || decide (y.2 = .cell)) || ((own.map (·.1)).any (· == y.1) || !N.any (· == y.1)))
theorem blk_by {N : List Str} {sc scope : Scope} {own : List (Str × Nat)} (h : blkB N sc scope own = true) : BlkOk N sc scope own := by
  unfold blkB at h
  simp only [Bool.and_eq_true, List.all_eq_true, decide_eq_true_eq, Bool.or_eq_true, Bool.not_eq_true', decide_eq_false_iff_not] at h
  obtain ⟨⟨⟨⟨h1, h2⟩, h3⟩, h4⟩, h5⟩ := h
  refine ⟨h1, h2, h3, fun y hy e => (h4 y hy).elim (fun z => absurd e z) id, fun y hy e => ?_⟩
  rcases h5 y hy with z | z | z
  · rw [Bool.or_eq_false_iff] at z
    rcases e with e | e
    · exact absurd e (of_decide_eq_false z.1)
    · exact absurd e (of_decide_eq_false z.2)
  · left
    obtain ⟨q, hq, e⟩ := List.any_eq_true.mp z
    exact beq_iff_eq.mp e ▸ hq
  · right
    intro hm
    have z2 : N.any (· == y.1) = true := List.any_eq_true.mpr ⟨y.1, hm, by simp⟩
    rw [z2] at z
    cases z
theorem takes_lam {X : Cx} {A : Around} {outer : List Env} {s : Shared} {H : Hp} {E : XK} {scope : Scope} {f co : Addr} : Takes (LamX.lamCx X A outer s H E scope f co) (fun cls d _ H' => E cls d H') := takes_of rfl rfl rfl rfl
theorem vis_by {sc : Scope} {x : Str} (h : visB sc x = true) : Vis sc x := by
  unfold visB at h
  unfold Vis
  split at h
  · rename_i e; exact .inl e
  · rename_i e; exact .inr (.inl e)
  · rename_i e; exact .inr (.inr e)
  · cases h
def locB (sc : Scope) (x : Str) : Bool := match sc.names.lookup x with
  | some .local => true
  | some .cell => true
  | _ => false
theorem loc_by {sc : Scope} {x : Str} (h : locB sc x = true) : L2.Loc sc x := by
  unfold locB at h
  unfold L2.Loc
  split at h
  · rename_i e; exact .inl e
  · rename_i e; exact .inr e
  · cases h
theorem bt_ValueError : bootBuiltins "ValueError" = some (.type "ValueError") := by decide +kernel
theorem bt_abs : bootBuiltins "abs" = some (.builtin "abs") := by decide +kernel
theorem bt_all : bootBuiltins "all" = some (.builtin "all") := by decide +kernel
theorem bt_bool : bootBuiltins "bool" = some (.type "bool") := by decide +kernel
theorem bt_int : bootBuiltins "int" = some (.type "int") := by decide +kernel
theorem bt_isinstance : bootBuiltins "isinstance" = some (.builtin "isinstance") := by decide +kernel
theorem bt_len : bootBuiltins "len" = some (.builtin "len") := by decide +kernel
theorem bt_min : bootBuiltins "min" = some (.builtin "min") := by decide +kernel
theorem bt_range : bootBuiltins "range" = some (.type "range") := by decide +kernel
theorem bt_repr : bootBuiltins "repr" = some (.builtin "repr") := by decide +kernel
theorem bt_str : bootBuiltins "str" = some (.type "str") := by decide +kernel
theorem bt_tuple : bootBuiltins "tuple" = some (.type "tuple") := by decide +kernel
/-- is_whole -/
def sem_p_is_whole (K : PySem.W.Frag) (A : Adr)   : DTS :=
  (dRet (dAndV (dB (gIsiX K) (dCons (dVar 0) (dCons (dC (.raw (.ty "int"))) dNil))) (dNotV (dB (gIsiX K) (dCons (dVar 0) (dCons (dC (.raw (.ty "bool"))) dNil))))))
/-- own_common -/
def sem_p_own_common (K : PySem.W.Frag) (A : Adr)   : DTS :=
  (dSeq (dWhile (dTst (dBin gNe (dVar 1) (dC (.d (.int 0))))) (dPar 0 1 (dVar 1) (dBin gMod (dVar 0) (dVar 1)))) (dRet (dVar 0)))
/-- is_fraction -/
def sem_p_is_fraction (K : PySem.W.Frag) (A : Adr) (P_p_is_whole : DP) (P_p_own_common : DP)  : DTS :=
  (dSeq (dIf (dOr (dNot (dTruth (dB (gIsiX K) (dCons (dVar 0) (dCons (dC (.raw (.ty "tuple"))) dNil))))) (dOr (dTst (dBin gNe (dB gLen (dCons (dVar 0) dNil)) (dC (.d (.int 2))))) (dNot (dTruth (dB gAll (dCons (dFz (dLc [1] (dVar 0) (gSet 1) dYes (dCall P_p_is_whole (dCons (dVar 1) dNil)))) dNil)))))) (dRet (dC (.d (.bool false)))) dNext) (dRet (dAndV (dBin gGt (dIxV 0 (dC (.d (.int 1)))) (dC (.d (.int 0)))) (dBin gEq (dCall P_p_own_common (dCons (dB gAbs (dCons (dIxV 0 (dC (.d (.int 0)))) dNil)) (dCons (dIxV 0 (dC (.d (.int 1)))) dNil))) (dC (.d (.int 1)))))))
/-- fraction -/
def sem_p_fraction (K : PySem.W.Frag) (A : Adr) (P_p_own_common : DP)  : DTS :=
  (dSeq (dIf (dTst (dBin gEq (dVar 1) (dC (.d (.int 0))))) (dRaise A.c_BadFraction) dNext) (dSeq (dSet 2 (dCall P_p_own_common (dCons (dB gAbs (dCons (dVar 0) dNil)) (dCons (dB gAbs (dCons (dVar 1) dNil)) dNil)))) (dSeq (dIf (dTst (dBin gLt (dVar 1) (dC (.d (.int 0))))) (dSet 2 (dNeg (dVar 2))) dNext) (dRet (dTup (dCons (dBin gDiv (dVar 0) (dVar 2)) (dCons (dBin gDiv (dVar 1) (dVar 2)) dNil)))))))
/-- plus -/
def sem_p_plus (K : PySem.W.Frag) (A : Adr) (P_p_fraction : DP)  : DTS :=
  (dRet (dCall P_p_fraction (dCons (dBin gAdd (dBin gMulI (dIxV 0 (dC (.d (.int 0)))) (dIxV 1 (dC (.d (.int 1))))) (dBin gMulI (dIxV 1 (dC (.d (.int 0)))) (dIxV 0 (dC (.d (.int 1)))))) (dCons (dBin gMulI (dIxV 0 (dC (.d (.int 1)))) (dIxV 1 (dC (.d (.int 1))))) dNil))))
/-- less -/
def sem_p_less (K : PySem.W.Frag) (A : Adr) (P_p_fraction : DP)  : DTS :=
  (dRet (dCall P_p_fraction (dCons (dBin gSubI (dBin gMulI (dIxV 0 (dC (.d (.int 0)))) (dIxV 1 (dC (.d (.int 1))))) (dBin gMulI (dIxV 1 (dC (.d (.int 0)))) (dIxV 0 (dC (.d (.int 1)))))) (dCons (dBin gMulI (dIxV 0 (dC (.d (.int 1)))) (dIxV 1 (dC (.d (.int 1))))) dNil))))
/-- times -/
def sem_p_times (K : PySem.W.Frag) (A : Adr) (P_p_fraction : DP)  : DTS :=
  (dRet (dCall P_p_fraction (dCons (dBin gMulI (dIxV 0 (dC (.d (.int 0)))) (dIxV 1 (dC (.d (.int 0))))) (dCons (dBin gMulI (dIxV 0 (dC (.d (.int 1)))) (dIxV 1 (dC (.d (.int 1))))) dNil))))
/-- by -/
def sem_p_by (K : PySem.W.Frag) (A : Adr) (P_p_fraction : DP)  : DTS :=
  (dRet (dCall P_p_fraction (dCons (dBin gMulI (dIxV 0 (dC (.d (.int 0)))) (dIxV 1 (dC (.d (.int 1))))) (dCons (dBin gMulI (dIxV 0 (dC (.d (.int 1)))) (dIxV 1 (dC (.d (.int 0))))) dNil))))
/-- own_often -/
def sem_p_own_often (K : PySem.W.Frag) (A : Adr)   : DTS :=
  (dSeq (dPar 2 3 (dC (.d (.int 1))) (dVar 0)) (dSeq (dWhile (dTst (dBin gGt (dVar 1) (dC (.d (.int 0))))) (dSeq (dIf (dTst (dBin gEq (dBin gMod (dVar 1) (dC (.d (.int 2)))) (dC (.d (.int 1))))) (dSet 2 (dBin gMulI (dVar 2) (dVar 3))) dNext) (dSeq (dSet 1 (dBin gDiv (dVar 1) (dC (.d (.int 2))))) (dIf (dTst (dBin gGt (dVar 1) (dC (.d (.int 0))))) (dSet 3 (dBin gMulI (dVar 3) (dVar 3))) dNext)))) (dRet (dVar 2))))
/-- power -/
def sem_p_power (K : PySem.W.Frag) (A : Adr) (P_p_power : DP) (P_p_by : DP) (P_p_own_often : DP)  : DTS :=
  (dSeq (dIf (dTst (dBin gLt (dVar 1) (dC (.d (.int 0))))) (dRet (dCall P_p_power (dCons (dCall P_p_by (dCons (dTup (dCons (dC (.d (.int 1))) (dCons (dC (.d (.int 1))) dNil))) (dCons (dVar 0) dNil))) (dCons (dNeg (dVar 1)) dNil)))) dNext) (dRet (dTup (dCons (dCall P_p_own_often (dCons (dIxV 0 (dC (.d (.int 0)))) (dCons (dVar 1) dNil))) (dCons (dCall P_p_own_often (dCons (dIxV 0 (dC (.d (.int 1)))) (dCons (dVar 1) dNil))) dNil)))))
/-- _law_cell -/
def sem_u_law_cell (K : PySem.W.Frag) (A : Adr)   : DTS :=
  (dSeq (dPut 1 (dC (.d (.int 0))) (dBin gAdd (dIxV 1 (dC (.d (.int 0)))) (dC (.d (.int 1))))) (dSeq (dSet 2 (dIxV 1 (dC (.d (.int 0))))) (dSeq (dSet 3 (dBin gAdd (dBin gMulI (dBin gMulI (dC (.d (.int 31))) (dVar 2)) (dVar 2)) (dBin gMulI (dC (.d (.int 7919))) (dVar 2)))) (dSeq (dIf (dAnd (dTst (dBin gGt (dB gLen (dCons (dVar 0) dNil)) (dC (.d (.int 0))))) (dAnd (dTst (dBin gGe (dIxV 0 (dBin gMod (dVar 2) (dB gLen (dCons (dVar 0) dNil)))) (dBin gPow (dC (.d (.int 10))) (dC (.d (.int 18)))))) (dTst (dBin gLt (dBin gDiv (dVar 2) (dB gLen (dCons (dVar 0) dNil))) (dC (.d (.int 60))))))) (dSeq (dSet 4 (dIxV 0 (dBin gMod (dVar 2) (dB gLen (dCons (dVar 0) dNil))))) (dSeq (dForR1 (dBin gDiv (dVar 2) (dB gLen (dCons (dVar 0) dNil))) (gSet 5) (dSet 4 (dBin gDiv (dVar 4) (dC (.d (.int 306783379)))))) (dIf (dTst (dBin gGt (dVar 4) (dC (.d (.int 0))))) (dRet (dBin gMod (dVar 4) (dC (.d (.int 306783379))))) dNext))) dNext) (dSeq (dIf (dTst (dBin gGt (dB gLen (dCons (dVar 0) dNil)) (dC (.d (.int 0))))) (dSet 3 (dBin gAdd (dVar 3) (dBin gMulI (dBin gMod (dIxV 0 (dBin gMod (dVar 2) (dB gLen (dCons (dVar 0) dNil)))) (dC (.d (.int 2147483629)))) (dBin gAdd (dC (.d (.int 1))) (dBin gDiv (dVar 2) (dB gLen (dCons (dVar 0) dNil))))))) dNext) (dRet (dBin gDiv (dBin gMod (dBin gPow (dBin gMod (dVar 3) (dC (.d (.int 2147483647)))) (dC (.d (.int 5)))) (dC (.d (.int 2147483647)))) (dC (.d (.int 7))))))))))
/-- _law_low -/
def sem_u_law_low (K : PySem.W.Frag) (A : Adr)   : DTS :=
  (dSeq (dPar 2 3 (dB gAbs (dCons (dVar 0) dNil)) (dB gAbs (dCons (dVar 1) dNil))) (dSeq (dWhile (dTst (dBin gNe (dVar 3) (dC (.d (.int 0))))) (dPar 2 3 (dVar 3) (dBin gMod (dVar 2) (dVar 3)))) (dSeq (dSet 4 (dIfE (dTst (dBin gGt (dVar 1) (dC (.d (.int 0))))) (dVar 2) (dBin gSubI (dC (.d (.int 0))) (dVar 2)))) (dRet (dTup (dCons (dBin gDiv (dVar 0) (dVar 4)) (dCons (dBin gDiv (dVar 1) (dVar 4)) dNil)))))))
/-- _law_plus -/
def sem_u_law_plus (K : PySem.W.Frag) (A : Adr) (P_u_law_low : DP)  : DTS :=
  (dRet (dCall P_u_law_low (dCons (dBin gAdd (dBin gMulI (dIxV 0 (dC (.d (.int 0)))) (dIxV 1 (dC (.d (.int 1))))) (dBin gMulI (dIxV 1 (dC (.d (.int 0)))) (dIxV 0 (dC (.d (.int 1)))))) (dCons (dBin gMulI (dIxV 0 (dC (.d (.int 1)))) (dIxV 1 (dC (.d (.int 1))))) dNil))))
/-- _law_times -/
def sem_u_law_times (K : PySem.W.Frag) (A : Adr) (P_u_law_low : DP)  : DTS :=
  (dRet (dCall P_u_law_low (dCons (dBin gMulI (dIxV 0 (dC (.d (.int 0)))) (dIxV 1 (dC (.d (.int 0))))) (dCons (dBin gMulI (dIxV 0 (dC (.d (.int 1)))) (dIxV 1 (dC (.d (.int 1))))) dNil))))
/-- _law_by -/
def sem_u_law_by (K : PySem.W.Frag) (A : Adr) (P_u_law_low : DP)  : DTS :=
  (dRet (dCall P_u_law_low (dCons (dBin gMulI (dIxV 0 (dC (.d (.int 0)))) (dIxV 1 (dC (.d (.int 1))))) (dCons (dBin gMulI (dIxV 0 (dC (.d (.int 1)))) (dIxV 1 (dC (.d (.int 0))))) dNil))))
/-- _law_number -/
def sem_u_law_number (K : PySem.W.Frag) (A : Adr) (P_u_law_cell : DP)  : DTS :=
  (dSeq (dSet 2 (dCall P_u_law_cell (dCons (dVar 0) (dCons (dVar 1) dNil)))) (dSeq (dSet 3 (dBin gSubI (dC (.d (.int 1))) (dBin gMulI (dBin gMod (dBin gDiv (dVar 2) (dC (.d (.int 7)))) (dC (.d (.int 2)))) (dC (.d (.int 2)))))) (dSeq (dSet 4 (dBin gAdd (dBin gMulI (dVar 2) (dCall P_u_law_cell (dCons (dVar 0) (dCons (dVar 1) dNil)))) (dC (.d (.int 1))))) (dRet (dBin gMulI (dBin gIx (dFz (dLst (dCons (dBin gMod (dVar 2) (dC (.d (.int 10)))) (dCons (dBin gMod (dVar 2) (dC (.d (.int 1000)))) (dCons (dVar 2) (dCons (dVar 4) (dCons (dBin gPow (dVar 4) (dC (.d (.int 3)))) (dCons (dC (.d (.int 0))) (dCons (dC (.d (.int 1))) dNil))))))))) (dBin gMod (dVar 2) (dC (.d (.int 7))))) (dVar 3))))))
/-- _law_power -/
def sem_u_law_power (K : PySem.W.Frag) (A : Adr) (P_u_law_times : DP) (P_u_law_by : DP)  : DTS :=
  (dSeq (dSet 2 (dTup (dCons (dC (.d (.int 1))) (dCons (dC (.d (.int 1))) dNil)))) (dSeq (dForR1 (dB gAbs (dCons (dVar 1) dNil)) (gSet 3) (dSet 2 (dCall P_u_law_times (dCons (dVar 2) (dCons (dVar 0) dNil))))) (dRet (dIfE (dTst (dBin gLt (dVar 1) (dC (.d (.int 0))))) (dCall P_u_law_by (dCons (dTup (dCons (dC (.d (.int 1))) (dCons (dC (.d (.int 1))) dNil))) (dCons (dVar 2) dNil))) (dVar 2)))))
/-- _law_refused -/
def sem_u_law_refused (K : PySem.W.Frag) (A : Adr)   (TT : SV) (Pt : TP) : DTS :=
  (dSeq (dSet 1 (dC (.d .none))) (dSeq (dTryLaw (fun C => PySem.W.exmAny K (.ref C) [.ref A.c_HollowError, .ref A.c_DeedError, .ref A.c_BookError] = some true) 2 1 (dDrop (dThk TT Pt))) (dSeq (dOwn 3 (dLst (dCons (dB (gIsiX K) (dCons (dVar 1) (dCons (dC (.raw (.ref A.c_BadFraction))) dNil))) (dCons (dB (gIsiX K) (dCons (dVar 1) (dCons (dC (.raw (.ty "ValueError"))) dNil))) dNil)))) (dRet (dAndV (dBin gEq (dVar 3) (dFz (dLst (dCons (dC (.d (.bool true))) (dCons (dC (.d (.bool true))) dNil))))) (dNotV (dB (gIsiX K) (dCons (dVar 1) (dCons (dC (.raw (.ref A.c_BadRule))) dNil)))))))))
/-- _law_is_one -/
def sem_u_law_is_one (K : PySem.W.Frag) (A : Adr) (P_u_law_low : DP)  : DTS :=
  (dSeq (dIf (dOr (dNot (dTruth (dB (gIsiX K) (dCons (dVar 0) (dCons (dC (.raw (.ty "tuple"))) dNil))))) (dTst (dBin gNe (dB gLen (dCons (dVar 0) dNil)) (dC (.d (.int 2)))))) (dRet (dC (.d (.bool false)))) dNext) (dSeq (dFor (dVar 0) (gSet 1) (dIf (dOr (dNot (dTruth (dB (gIsiX K) (dCons (dVar 1) (dCons (dC (.raw (.ty "int"))) dNil))))) (dTruth (dB (gIsiX K) (dCons (dVar 1) (dCons (dC (.raw (.ty "bool"))) dNil))))) (dRet (dC (.d (.bool false)))) dNext)) (dRet (dAndV (dBin gGt (dIxV 0 (dC (.d (.int 1)))) (dC (.d (.int 0)))) (dBin gEq (dCall P_u_law_low (dCons (dIxV 0 (dC (.d (.int 0)))) (dCons (dIxV 0 (dC (.d (.int 1)))) dNil))) (dVar 0))))))
/-- _law_things -/
def sem_u_law_things (K : PySem.W.Frag) (A : Adr)   : DTS :=
  (dSeq (dAsg (dVar 0) (gTup3 (gsCons (gSet 2) (gsCons (gSet 3) gsNil)) 2)) (dSeq (dOwn 4 (dLst (dCons (dVar 0) (dCons (dTup (dCons (dVar 2) (dCons (dBin gAdd (dVar 3) (dC (.d (.int 1)))) dNil))) (dCons (dTup (dCons (dBin gAdd (dVar 2) (dC (.d (.int 1)))) (dCons (dVar 3) dNil))) (dCons (dTup (dCons (dBin gMulI (dC (.d (.int 2))) (dVar 2)) (dCons (dBin gMulI (dC (.d (.int 2))) (dVar 3)) dNil))) dNil)))))) (dSeq (dOwn 4 (dAddL (dVar 4) (dFz (dLst (dCons (dTup (dCons (dBin gSubI (dC (.d (.int 0))) (dVar 2)) (dCons (dBin gSubI (dC (.d (.int 0))) (dVar 3)) dNil))) (dCons (dTup (dCons (dVar 2) (dCons (dC (.d (.int 0))) dNil))) (dCons (dTup (dCons (dVar 2) dNil)) dNil))))))) (dSeq (dOwn 4 (dAddL (dVar 4) (dFz (dLst (dCons (dTup (dCons (dVar 2) (dCons (dVar 3) (dCons (dC (.d (.int 1))) dNil)))) (dCons (dFz (dLst (dCons (dVar 2) (dCons (dVar 3) dNil)))) (dCons (dVar 2) dNil))))))) (dSeq (dOwn 4 (dAddL (dVar 4) (dFz (dLst (dCons (dTup (dCons (dB gStrI (dCons (dVar 2) dNil)) (dCons (dVar 3) dNil))) (dCons (dTup (dCons (dVar 2) (dCons (dB gStrI (dCons (dVar 3) dNil)) dNil))) dNil)))))) (dSeq (dOwn 4 (dAddL (dVar 4) (dFz (dLst (dCons (dTup (dCons (dC (.d (.bool true))) (dCons (dC (.d (.int 1))) dNil))) (dCons (dTup (dCons (dC (.d (.int 1))) (dCons (dC (.d (.bool true))) dNil))) (dCons (dTup (dCons (dC (.d (.bool false))) (dCons (dC (.d (.int 1))) dNil))) (dCons (dTup (dCons (dC (.d (.int 0))) (dCons (dC (.d (.int 1))) dNil))) (dCons (dTup (dCons (dC (.d (.int 0))) (dCons (dC (.d (.int 2))) dNil))) (dCons (dTup (dCons (dC (.d (.int 0))) (dCons (dC (.d (.int 0))) dNil))) (dCons (dC (.d .none)) (dCons (dC (.d (.str "1/2"))) dNil)))))))))))) (dSeq (dOwn 4 (dAddL (dVar 4) (dFz (dLst (dCons dDct0 (dCons (dTup dNil) (dCons (dTup (dCons (dTup (dCons (dC (.d (.int 1))) (dCons (dC (.d (.int 1))) dNil))) (dCons (dC (.d (.int 1))) dNil))) (dCons (dTup (dCons (dC (.d .none)) (dCons (dC (.d (.int 1))) dNil))) dNil)))))))) (dRet (dFz (dAddL (dFz (dSlL (dVar 4) (dPart (dBin gMod (dVar 1) (dC (.d (.int 5))))) dNoPart (dPart (dC (.d (.int 5)))))) (dFz (dSlL (dVar 4) dNoPart (dPart (dC (.d (.int 3)))) dNoPart))))))))))))
/-- _law_pair_right -/
def sem_u_law_pair_right (K : PySem.W.Frag) (A : Adr) (P_p_times : DP) (P_p_less : DP) (P_p_plus : DP) (P_u_law_plus : DP) (P_u_law_power : DP) (P_u_law_times : DP) (P_p_power : DP) (P_p_by : DP) (P_u_law_by : DP) (PG_u_law_refused : TP → List (List PyData) → (SV → List (List PyData) → Prop) → (Xd → List (List PyData) → Prop) → Prop) : DTS :=
  (dSeq (dOwn 3 (dLst (dCons (dCall P_p_plus (dCons (dVar 0) (dCons (dVar 1) dNil))) (dCons (dCall P_p_less (dCons (dVar 0) (dCons (dVar 1) dNil))) (dCons (dCall P_p_times (dCons (dVar 0) (dCons (dVar 1) dNil))) dNil))))) (dSeq (dSet 4 (dB gAbs (dCons (dVar 2) dNil))) (dSeq (dOwn 5 (dLst (dCons (dCall P_u_law_plus (dCons (dVar 0) (dCons (dVar 1) dNil))) (dCons (dCall P_u_law_plus (dCons (dVar 0) (dCons (dTup (dCons (dBin gSubI (dC (.d (.int 0))) (dIxV 1 (dC (.d (.int 0))))) (dCons (dIxV 1 (dC (.d (.int 1)))) dNil))) dNil))) dNil)))) (dSeq (dOwn 5 (dAddL (dVar 5) (dFz (dLst (dCons (dCall P_u_law_times (dCons (dVar 0) (dCons (dVar 1) dNil))) (dCons (dCall P_u_law_power (dCons (dVar 0) (dCons (dVar 4) dNil))) dNil)))))) (dSeq (dApp 3 (dCall P_p_power (dCons (dVar 0) (dCons (dVar 4) dNil)))) (dSeq (dIf (dTst (dBin gNe (dB gRepr (dCons (dVar 3) dNil)) (dB gRepr (dCons (dVar 5) dNil)))) (dRet (dC (.d (.bool false)))) dNext) (dSeq (dIf (dTst (dBin gEq (dIxV 1 (dC (.d (.int 0)))) (dC (.d (.int 0))))) (dSeq (dSet 6 (dLamCall [0, 1] PG_u_law_refused (dCall P_p_by (dCons (dVar 0) (dCons (dVar 1) dNil))))) (dRet (dAndV (dVar 6) (dLamCall [1, 4] PG_u_law_refused (dCall P_p_power (dCons (dVar 1) (dCons (dBin gSubI (dBin gSubI (dC (.d (.int 0))) (dC (.d (.int 1)))) (dVar 4)) dNil))))))) dNext) (dSeq (dOwn 3 (dLst (dCons (dCall P_p_by (dCons (dVar 0) (dCons (dVar 1) dNil))) (dCons (dCall P_p_power (dCons (dVar 1) (dCons (dVar 2) dNil))) dNil)))) (dRet (dBin gEq (dB gRepr (dCons (dVar 3) dNil)) (dB gRepr (dCons (dFz (dLst (dCons (dCall P_u_law_by (dCons (dVar 0) (dCons (dVar 1) dNil))) (dCons (dCall P_u_law_power (dCons (dVar 1) (dCons (dVar 2) dNil))) dNil)))) dNil))))))))))))
/-- law -/
def sem_p_law (K : PySem.W.Frag) (A : Adr) (P_u_law_number : DP) (P_u_law_cell : DP) (P_p_fraction : DP) (P_u_law_low : DP) (P_u_law_pair_right : DP) (P_p_is_fraction : DP) (P_u_law_is_one : DP) (P_u_law_things : DP) (P_p_power : DP) (PG_u_law_refused : TP → List (List PyData) → (SV → List (List PyData) → Prop) → (Xd → List (List PyData) → Prop) → Prop) : DTS :=
  (dCell 1 (dLst (dCons (dC (.d (.int 0))) dNil)) (dSeq (dForR1 (dBin gAdd (dC (.d (.int 3))) (dB gMin2 (dCons (dC (.d (.int 9))) (dCons (dB gLen (dCons (dVar 0) dNil)) dNil)))) (gSet 2) (dSeq (dAsg (dTup (dCons (dCall P_u_law_number (dCons (dVar 0) (dCons (dVar 1) dNil))) (dCons (dCall P_u_law_number (dCons (dVar 0) (dCons (dVar 1) dNil))) dNil))) (gTup3 (gsCons (gSet 3) (gsCons (gSet 4) gsNil)) 2)) (dSeq (dPar 5 6 (dCall P_u_law_number (dCons (dVar 0) (dCons (dVar 1) dNil))) (dCall P_u_law_number (dCons (dVar 0) (dCons (dVar 1) dNil)))) (dSeq (dSet 7 (dCall P_u_law_cell (dCons (dVar 0) (dCons (dVar 1) dNil)))) (dSeq (dIf (dNot (dTruth (dLamCall [3] PG_u_law_refused (dCall P_p_fraction (dCons (dVar 3) (dCons (dC (.d (.int 0))) dNil)))))) (dRet (dC (.d (.bool false)))) dNext) (dSeq (dPar 4 6 (dBin gAdd (dVar 4) (dB gInt (dCons (dBin gEq (dVar 4) (dC (.d (.int 0)))) dNil))) (dBin gAdd (dVar 6) (dB gInt (dCons (dBin gEq (dVar 6) (dC (.d (.int 0)))) dNil)))) (dSeq (dPar 8 9 (dCall P_u_law_low (dCons (dVar 3) (dCons (dVar 4) dNil))) (dCall P_u_law_low (dCons (dVar 5) (dCons (dVar 6) dNil)))) (dSeq (dIf (dTst (dBin gNe (dB gRepr (dCons (dFz (dLst (dCons (dCall P_p_fraction (dCons (dVar 3) (dCons (dVar 4) dNil))) (dCons (dCall P_p_fraction (dCons (dVar 5) (dCons (dVar 6) dNil))) dNil)))) dNil)) (dB gRepr (dCons (dFz (dLst (dCons (dVar 8) (dCons (dVar 9) dNil)))) dNil)))) (dRet (dC (.d (.bool false)))) dNext) (dSeq (dIf (dNot (dTruth (dCall P_u_law_pair_right (dCons (dVar 8) (dCons (dVar 9) (dCons (dBin gSubI (dBin gMod (dVar 7) (dC (.d (.int 13)))) (dC (.d (.int 6)))) dNil)))))) (dRet (dC (.d (.bool false)))) dNext) (dSeq (dIf (dNot (dTruth (dCall P_u_law_pair_right (dCons (dVar 9) (dCons (dVar 8) (dCons (dBin gMod (dBin gDiv (dVar 7) (dC (.d (.int 13)))) (dC (.d (.int 3)))) dNil)))))) (dRet (dC (.d (.bool false)))) dNext) (dFor (dCall P_u_law_things (dCons (dVar 8) (dCons (dVar 7) dNil))) (gSet 10) (dIf (dTst (dBin gNe (dB gRepr (dCons (dCall P_p_is_fraction (dCons (dVar 10) dNil)) dNil)) (dB gRepr (dCons (dCall P_u_law_is_one (dCons (dVar 10) dNil)) dNil)))) (dRet (dC (.d (.bool false)))) dNext)))))))))))) (dSeq (dOwn 11 (dLst (dCons (dCall P_p_power (dCons (dTup (dCons (dC (.d (.int 0))) (dCons (dC (.d (.int 1))) dNil))) (dCons (dC (.d (.int 0))) dNil))) (dCons (dCall P_p_power (dCons (dTup (dCons (dC (.d (.int 0))) (dCons (dC (.d (.int 1))) dNil))) (dCons (dC (.d (.int 3))) dNil))) (dCons (dCall P_p_power (dCons (dTup (dCons (dC (.d (.int 2))) (dCons (dC (.d (.int 3))) dNil))) (dCons (dC (.d (.int 200))) dNil))) (dCons (dCall P_p_power (dCons (dTup (dCons (dC (.d (.int 2))) (dCons (dC (.d (.int 3))) dNil))) (dCons (dNeg (dC (.d (.int 200)))) dNil))) dNil)))))) (dRet (dBin gEq (dB gRepr (dCons (dVar 11) dNil)) (dB gRepr (dCons (dFz (dLst (dCons (dTup (dCons (dC (.d (.int 1))) (dCons (dC (.d (.int 1))) dNil))) (dCons (dTup (dCons (dC (.d (.int 0))) (dCons (dC (.d (.int 1))) dNil))) (dCons (dTup (dCons (dBin gPow (dBin gPow (dC (.d (.int 2))) (dC (.d (.int 50)))) (dC (.d (.int 4)))) (dCons (dBin gPow (dBin gPow (dC (.d (.int 3))) (dC (.d (.int 50)))) (dC (.d (.int 4)))) dNil))) (dCons (dTup (dCons (dBin gPow (dBin gPow (dC (.d (.int 3))) (dC (.d (.int 50)))) (dC (.d (.int 4)))) (dCons (dBin gPow (dBin gPow (dC (.d (.int 2))) (dC (.d (.int 50)))) (dC (.d (.int 4)))) dNil))) dNil)))))) dNil)))))))
theorem l_any : True := trivial
section
variable [Tb] {P : Program} {w : World} {K : PySem.W.Frag} {mg : Str → Option Value} {base : Heap} {A : Adr}
theorem ok_p_is_whole (F : Fct K mg A)     {p : DP} (hP : ∀ rs C k e, p rs C k e → rs.length = 1 ∧ sem_p_is_whole K A   (defEnds k) ⟨start3 1 rs, C⟩ (defExc e)) :
    FnG P w K mg base 1 A.f_p_is_whole A.d_p_is_whole ["thing"] (spD K 1 p) := by
  refine fnG_def F.f_p_is_whole sc_p_is_whole (fun cdv Ar outer s H E hcd hr hgd => ?_) hP
  have tk : Takes (cxOf (L2.CX P w) P w K mg base ["thing"] "is_whole" (defScope s_p_is_whole) A.f_p_is_whole cdv Ar outer s H E) (fun cls d _ H2 => E cls d H2) := takes_of rfl rfl rfl rfl
  have po : PassesOwn (model P w) (cxOf (L2.CX P w) P w K mg base ["thing"] "is_whole" (defScope s_p_is_whole) A.f_p_is_whole cdv Ar outer s H E).A (cxOf (L2.CX P w) P w K mg base ["thing"] "is_whole" (defScope s_p_is_whole) A.f_p_is_whole cdv Ar outer s H E).env (cxOf (L2.CX P w) P w K mg base ["thing"] "is_whole" (defScope s_p_is_whole) A.f_p_is_whole cdv Ar outer s H E).xe := passes_of rfl
  unfold sem_p_is_whole
  exact (ds_one (ds_ret (d_andV (d_callB cIsiX rfl F.z_isinstance bt_isinstance (da_cons (d_var (i := 0) rfl (vis_by rfl)) (da_cons (d_bltn rfl F.z_int bt_int rfl) da_nil))) (d_one (d_notV (d_callB cIsiX rfl F.z_isinstance bt_isinstance (da_cons (d_var (i := 0) rfl (vis_by rfl)) (da_cons (d_bltn rfl F.z_bool bt_bool rfl) da_nil))))))))
theorem ok_p_own_common (F : Fct K mg A)     {p : DP} (hP : ∀ rs C k e, p rs C k e → rs.length = 2 ∧ sem_p_own_common K A   (defEnds k) ⟨start3 2 rs, C⟩ (defExc e)) :
    FnG P w K mg base 1 A.f_p_own_common A.d_p_own_common ["one", "other"] (spD K 2 p) := by
  refine fnG_def F.f_p_own_common sc_p_own_common (fun cdv Ar outer s H E hcd hr hgd => ?_) hP
  have tk : Takes (cxOf (L2.CX P w) P w K mg base ["one", "other"] "own_common" (defScope s_p_own_common) A.f_p_own_common cdv Ar outer s H E) (fun cls d _ H2 => E cls d H2) := takes_of rfl rfl rfl rfl
  have po : PassesOwn (model P w) (cxOf (L2.CX P w) P w K mg base ["one", "other"] "own_common" (defScope s_p_own_common) A.f_p_own_common cdv Ar outer s H E).A (cxOf (L2.CX P w) P w K mg base ["one", "other"] "own_common" (defScope s_p_own_common) A.f_p_own_common cdv Ar outer s H E).env (cxOf (L2.CX P w) P w K mg base ["one", "other"] "own_common" (defScope s_p_own_common) A.f_p_own_common cdv Ar outer s H E).xe := passes_of rfl
  unfold sem_p_own_common
  exact (ds_cons (ds_while po (d_cmpT (oNe (hu64 hr)) (d_var (i := 1) rfl (vis_by rfl)) d_int (nomark _)) (ds_one (ds_par (i := 0) (j := 1) rfl sc_p_own_common.nd rfl rfl (by decide) rfl rfl (d_var (i := 1) rfl (vis_by rfl)) (d_op oMod (d_var (i := 0) rfl (vis_by rfl)) (d_var (i := 1) rfl (vis_by rfl))) rfl))) (ds_one (ds_ret (d_var (i := 0) rfl (vis_by rfl)))))
theorem ok_p_is_fraction (F : Fct K mg A) {P_p_is_whole : DP} (G_p_is_whole : FnG P w K mg base 1 A.f_p_is_whole A.d_p_is_whole ["thing"] (spD K 1 P_p_is_whole)) (l_p_is_whole : ∀ rs C k e, P_p_is_whole rs C k e → rs.length = 1) {P_p_own_common : DP} (G_p_own_common : FnG P w K mg base 1 A.f_p_own_common A.d_p_own_common ["one", "other"] (spD K 2 P_p_own_common)) (l_p_own_common : ∀ rs C k e, P_p_own_common rs C k e → rs.length = 2)    {p : DP} (hP : ∀ rs C k e, p rs C k e → rs.length = 1 ∧ sem_p_is_fraction K A P_p_is_whole P_p_own_common  (defEnds k) ⟨start3 2 rs, C⟩ (defExc e)) :
    FnG P w K mg base 2 A.f_p_is_fraction A.d_p_is_fraction ["thing"] (spD K 1 p) := by
  refine fnG_def F.f_p_is_fraction sc_p_is_fraction (fun cdv Ar outer s H E hcd hr hgd => ?_) hP
  have tk : Takes (cxOf (L2.CX P w) P w K mg base ["thing", "part"] "is_fraction" (defScope s_p_is_fraction) A.f_p_is_fraction cdv Ar outer s H E) (fun cls d _ H2 => E cls d H2) := takes_of rfl rfl rfl rfl
  have po : PassesOwn (model P w) (cxOf (L2.CX P w) P w K mg base ["thing", "part"] "is_fraction" (defScope s_p_is_fraction) A.f_p_is_fraction cdv Ar outer s H E).A (cxOf (L2.CX P w) P w K mg base ["thing", "part"] "is_fraction" (defScope s_p_is_fraction) A.f_p_is_fraction cdv Ar outer s H E).env (cxOf (L2.CX P w) P w K mg base ["thing", "part"] "is_fraction" (defScope s_p_is_fraction) A.f_p_is_fraction cdv Ar outer s H E).xe := passes_of rfl
  unfold sem_p_is_fraction
  exact (ds_cons (ds_if (DW.dt (dw_or (d_not (d_truth (d_callB cIsiX rfl F.z_isinstance bt_isinstance (da_cons (d_var (i := 0) rfl (vis_by rfl)) (da_cons (d_bltn rfl F.z_tuple bt_tuple rfl) da_nil))))) (dw_or (d_cmpT (oNe (hu64 hr)) (d_callB cLen rfl F.z_len bt_len (da_cons (d_var (i := 0) rfl (vis_by rfl)) da_nil)) d_int (nomark _)) (dw_or1 (d_not (d_truth (d_callB (cAll rfl) rfl F.z_all bt_all (da_cons (d_fz (d_lc (own := [("part", 1)]) rfl sc_p_is_fraction.nd (d_var (i := 0) rfl (vis_by rfl)) (blk_by rfl) (by decide) (fun _ _ _ _ _ => (dg_name (i := 1) sc_p_is_fraction.nd rfl (loc_by rfl))) (fun _ _ _ _ _ => dps_nil) (fun _ _ _ _ _ => (d_call (kk := 1) G_p_is_whole (hr.mono (by omega)) hgd rfl F.m_p_is_whole F.f_p_is_whole.kp F.b_p_is_whole LamX.takes0 (da_cons (d_var (i := 1) rfl (vis_by rfl)) da_nil) l_p_is_whole)))) da_nil)))))))) (ds_one (ds_ret d_bl)) ds_nil) (ds_one (ds_ret (d_andV (d_cmp oGt (d_ixV (i := 0) rfl (vis_by rfl) d_int (fun _ _ => rfl)) d_int (nomark _)) (d_one (d_cmp (oEq (hu64 hr)) (d_call (kk := 1) G_p_own_common (hr.mono (by omega)) hgd rfl F.m_p_own_common F.f_p_own_common.kp F.b_p_own_common tk (da_cons (d_callB cAbs rfl F.z_abs bt_abs (da_cons (d_ixV (i := 0) rfl (vis_by rfl) d_int (fun _ _ => rfl)) da_nil)) (da_cons (d_ixV (i := 0) rfl (vis_by rfl) d_int (fun _ _ => rfl)) da_nil)) l_p_own_common) d_int (nomark _)))))))
theorem ok_p_fraction (F : Fct K mg A) {P_p_own_common : DP} (G_p_own_common : FnG P w K mg base 1 A.f_p_own_common A.d_p_own_common ["one", "other"] (spD K 2 P_p_own_common)) (l_p_own_common : ∀ rs C k e, P_p_own_common rs C k e → rs.length = 2)    {p : DP} (hP : ∀ rs C k e, p rs C k e → rs.length = 2 ∧ sem_p_fraction K A P_p_own_common  (defEnds k) ⟨start3 3 rs, C⟩ (defExc e)) :
    FnG P w K mg base 2 A.f_p_fraction A.d_p_fraction ["above", "below"] (spD K 2 p) := by
  refine fnG_def F.f_p_fraction sc_p_fraction (fun cdv Ar outer s H E hcd hr hgd => ?_) hP
  have tk : Takes (cxOf (L2.CX P w) P w K mg base ["above", "below", "part"] "fraction" (defScope s_p_fraction) A.f_p_fraction cdv Ar outer s H E) (fun cls d _ H2 => E cls d H2) := takes_of rfl rfl rfl rfl
  have po : PassesOwn (model P w) (cxOf (L2.CX P w) P w K mg base ["above", "below", "part"] "fraction" (defScope s_p_fraction) A.f_p_fraction cdv Ar outer s H E).A (cxOf (L2.CX P w) P w K mg base ["above", "below", "part"] "fraction" (defScope s_p_fraction) A.f_p_fraction cdv Ar outer s H E).env (cxOf (L2.CX P w) P w K mg base ["above", "below", "part"] "fraction" (defScope s_p_fraction) A.f_p_fraction cdv Ar outer s H E).xe := passes_of rfl
  unfold sem_p_fraction
  exact (ds_cons (ds_if (d_cmpT (oEq (hu64 hr)) (d_var (i := 1) rfl (vis_by rfl)) d_int (nomark _)) (ds_one (ds_raise rfl tk PySem.F.excBase_ValueError F.x_BadFraction F.mc_BadFraction F.kc_BadFraction (raises_own F.sb_BadFraction F.ty_BadFraction) rfl)) ds_nil) (ds_cons (ds_set (i := 2) sc_p_fraction.nd rfl (loc_by rfl) (d_call (kk := 1) G_p_own_common (hr.mono (by omega)) hgd rfl F.m_p_own_common F.f_p_own_common.kp F.b_p_own_common tk (da_cons (d_callB cAbs rfl F.z_abs bt_abs (da_cons (d_var (i := 0) rfl (vis_by rfl)) da_nil)) (da_cons (d_callB cAbs rfl F.z_abs bt_abs (da_cons (d_var (i := 1) rfl (vis_by rfl)) da_nil)) da_nil)) l_p_own_common)) (ds_cons (ds_if (d_cmpT oLt (d_var (i := 1) rfl (vis_by rfl)) d_int (nomark _)) (ds_one (ds_set (i := 2) sc_p_fraction.nd rfl (loc_by rfl) (d_neg (d_var (i := 2) rfl (vis_by rfl))))) ds_nil) (ds_one (ds_ret (d_tup (da_cons (d_op oDiv (d_var (i := 0) rfl (vis_by rfl)) (d_var (i := 2) rfl (vis_by rfl))) (da_cons (d_op oDiv (d_var (i := 1) rfl (vis_by rfl)) (d_var (i := 2) rfl (vis_by rfl))) da_nil))))))))
theorem ok_p_plus (F : Fct K mg A) {P_p_fraction : DP} (G_p_fraction : FnG P w K mg base 2 A.f_p_fraction A.d_p_fraction ["above", "below"] (spD K 2 P_p_fraction)) (l_p_fraction : ∀ rs C k e, P_p_fraction rs C k e → rs.length = 2)    {p : DP} (hP : ∀ rs C k e, p rs C k e → rs.length = 2 ∧ sem_p_plus K A P_p_fraction  (defEnds k) ⟨start3 2 rs, C⟩ (defExc e)) :
    FnG P w K mg base 3 A.f_p_plus A.d_p_plus ["one", "other"] (spD K 2 p) := by
  refine fnG_def F.f_p_plus sc_p_plus (fun cdv Ar outer s H E hcd hr hgd => ?_) hP
  have tk : Takes (cxOf (L2.CX P w) P w K mg base ["one", "other"] "plus" (defScope s_p_plus) A.f_p_plus cdv Ar outer s H E) (fun cls d _ H2 => E cls d H2) := takes_of rfl rfl rfl rfl
  have po : PassesOwn (model P w) (cxOf (L2.CX P w) P w K mg base ["one", "other"] "plus" (defScope s_p_plus) A.f_p_plus cdv Ar outer s H E).A (cxOf (L2.CX P w) P w K mg base ["one", "other"] "plus" (defScope s_p_plus) A.f_p_plus cdv Ar outer s H E).env (cxOf (L2.CX P w) P w K mg base ["one", "other"] "plus" (defScope s_p_plus) A.f_p_plus cdv Ar outer s H E).xe := passes_of rfl
  unfold sem_p_plus
  exact (ds_one (ds_ret (d_call (kk := 2) G_p_fraction (hr.mono (by omega)) hgd rfl F.m_p_fraction F.f_p_fraction.kp F.b_p_fraction tk (da_cons (d_op oAdd (d_op oMulI (d_ixV (i := 0) rfl (vis_by rfl) d_int (fun _ _ => rfl)) (d_ixV (i := 1) rfl (vis_by rfl) d_int (fun _ _ => rfl))) (d_op oMulI (d_ixV (i := 1) rfl (vis_by rfl) d_int (fun _ _ => rfl)) (d_ixV (i := 0) rfl (vis_by rfl) d_int (fun _ _ => rfl)))) (da_cons (d_op oMulI (d_ixV (i := 0) rfl (vis_by rfl) d_int (fun _ _ => rfl)) (d_ixV (i := 1) rfl (vis_by rfl) d_int (fun _ _ => rfl))) da_nil)) l_p_fraction)))
theorem ok_p_less (F : Fct K mg A) {P_p_fraction : DP} (G_p_fraction : FnG P w K mg base 2 A.f_p_fraction A.d_p_fraction ["above", "below"] (spD K 2 P_p_fraction)) (l_p_fraction : ∀ rs C k e, P_p_fraction rs C k e → rs.length = 2)    {p : DP} (hP : ∀ rs C k e, p rs C k e → rs.length = 2 ∧ sem_p_less K A P_p_fraction  (defEnds k) ⟨start3 2 rs, C⟩ (defExc e)) :
    FnG P w K mg base 3 A.f_p_less A.d_p_less ["one", "other"] (spD K 2 p) := by
  refine fnG_def F.f_p_less sc_p_less (fun cdv Ar outer s H E hcd hr hgd => ?_) hP
  have tk : Takes (cxOf (L2.CX P w) P w K mg base ["one", "other"] "less" (defScope s_p_less) A.f_p_less cdv Ar outer s H E) (fun cls d _ H2 => E cls d H2) := takes_of rfl rfl rfl rfl
  have po : PassesOwn (model P w) (cxOf (L2.CX P w) P w K mg base ["one", "other"] "less" (defScope s_p_less) A.f_p_less cdv Ar outer s H E).A (cxOf (L2.CX P w) P w K mg base ["one", "other"] "less" (defScope s_p_less) A.f_p_less cdv Ar outer s H E).env (cxOf (L2.CX P w) P w K mg base ["one", "other"] "less" (defScope s_p_less) A.f_p_less cdv Ar outer s H E).xe := passes_of rfl
  unfold sem_p_less
  exact (ds_one (ds_ret (d_call (kk := 2) G_p_fraction (hr.mono (by omega)) hgd rfl F.m_p_fraction F.f_p_fraction.kp F.b_p_fraction tk (da_cons (d_op oSub (d_op oMulI (d_ixV (i := 0) rfl (vis_by rfl) d_int (fun _ _ => rfl)) (d_ixV (i := 1) rfl (vis_by rfl) d_int (fun _ _ => rfl))) (d_op oMulI (d_ixV (i := 1) rfl (vis_by rfl) d_int (fun _ _ => rfl)) (d_ixV (i := 0) rfl (vis_by rfl) d_int (fun _ _ => rfl)))) (da_cons (d_op oMulI (d_ixV (i := 0) rfl (vis_by rfl) d_int (fun _ _ => rfl)) (d_ixV (i := 1) rfl (vis_by rfl) d_int (fun _ _ => rfl))) da_nil)) l_p_fraction)))
theorem ok_p_times (F : Fct K mg A) {P_p_fraction : DP} (G_p_fraction : FnG P w K mg base 2 A.f_p_fraction A.d_p_fraction ["above", "below"] (spD K 2 P_p_fraction)) (l_p_fraction : ∀ rs C k e, P_p_fraction rs C k e → rs.length = 2)    {p : DP} (hP : ∀ rs C k e, p rs C k e → rs.length = 2 ∧ sem_p_times K A P_p_fraction  (defEnds k) ⟨start3 2 rs, C⟩ (defExc e)) :
    FnG P w K mg base 3 A.f_p_times A.d_p_times ["one", "other"] (spD K 2 p) := by
  refine fnG_def F.f_p_times sc_p_times (fun cdv Ar outer s H E hcd hr hgd => ?_) hP
  have tk : Takes (cxOf (L2.CX P w) P w K mg base ["one", "other"] "times" (defScope s_p_times) A.f_p_times cdv Ar outer s H E) (fun cls d _ H2 => E cls d H2) := takes_of rfl rfl rfl rfl
  have po : PassesOwn (model P w) (cxOf (L2.CX P w) P w K mg base ["one", "other"] "times" (defScope s_p_times) A.f_p_times cdv Ar outer s H E).A (cxOf (L2.CX P w) P w K mg base ["one", "other"] "times" (defScope s_p_times) A.f_p_times cdv Ar outer s H E).env (cxOf (L2.CX P w) P w K mg base ["one", "other"] "times" (defScope s_p_times) A.f_p_times cdv Ar outer s H E).xe := passes_of rfl
  unfold sem_p_times
  exact (ds_one (ds_ret (d_call (kk := 2) G_p_fraction (hr.mono (by omega)) hgd rfl F.m_p_fraction F.f_p_fraction.kp F.b_p_fraction tk (da_cons (d_op oMulI (d_ixV (i := 0) rfl (vis_by rfl) d_int (fun _ _ => rfl)) (d_ixV (i := 1) rfl (vis_by rfl) d_int (fun _ _ => rfl))) (da_cons (d_op oMulI (d_ixV (i := 0) rfl (vis_by rfl) d_int (fun _ _ => rfl)) (d_ixV (i := 1) rfl (vis_by rfl) d_int (fun _ _ => rfl))) da_nil)) l_p_fraction)))
theorem ok_p_by (F : Fct K mg A) {P_p_fraction : DP} (G_p_fraction : FnG P w K mg base 2 A.f_p_fraction A.d_p_fraction ["above", "below"] (spD K 2 P_p_fraction)) (l_p_fraction : ∀ rs C k e, P_p_fraction rs C k e → rs.length = 2)    {p : DP} (hP : ∀ rs C k e, p rs C k e → rs.length = 2 ∧ sem_p_by K A P_p_fraction  (defEnds k) ⟨start3 2 rs, C⟩ (defExc e)) :
    FnG P w K mg base 3 A.f_p_by A.d_p_by ["one", "other"] (spD K 2 p) := by
  refine fnG_def F.f_p_by sc_p_by (fun cdv Ar outer s H E hcd hr hgd => ?_) hP
  have tk : Takes (cxOf (L2.CX P w) P w K mg base ["one", "other"] "by" (defScope s_p_by) A.f_p_by cdv Ar outer s H E) (fun cls d _ H2 => E cls d H2) := takes_of rfl rfl rfl rfl
  have po : PassesOwn (model P w) (cxOf (L2.CX P w) P w K mg base ["one", "other"] "by" (defScope s_p_by) A.f_p_by cdv Ar outer s H E).A (cxOf (L2.CX P w) P w K mg base ["one", "other"] "by" (defScope s_p_by) A.f_p_by cdv Ar outer s H E).env (cxOf (L2.CX P w) P w K mg base ["one", "other"] "by" (defScope s_p_by) A.f_p_by cdv Ar outer s H E).xe := passes_of rfl
  unfold sem_p_by
  exact (ds_one (ds_ret (d_call (kk := 2) G_p_fraction (hr.mono (by omega)) hgd rfl F.m_p_fraction F.f_p_fraction.kp F.b_p_fraction tk (da_cons (d_op oMulI (d_ixV (i := 0) rfl (vis_by rfl) d_int (fun _ _ => rfl)) (d_ixV (i := 1) rfl (vis_by rfl) d_int (fun _ _ => rfl))) (da_cons (d_op oMulI (d_ixV (i := 0) rfl (vis_by rfl) d_int (fun _ _ => rfl)) (d_ixV (i := 1) rfl (vis_by rfl) d_int (fun _ _ => rfl))) da_nil)) l_p_fraction)))
theorem ok_p_own_often (F : Fct K mg A)     {p : DP} (hP : ∀ rs C k e, p rs C k e → rs.length = 2 ∧ sem_p_own_often K A   (defEnds k) ⟨start3 4 rs, C⟩ (defExc e)) :
    FnG P w K mg base 1 A.f_p_own_often A.d_p_own_often ["one", "number"] (spD K 2 p) := by
  refine fnG_def F.f_p_own_often sc_p_own_often (fun cdv Ar outer s H E hcd hr hgd => ?_) hP
  have tk : Takes (cxOf (L2.CX P w) P w K mg base ["one", "number", "found", "step"] "own_often" (defScope s_p_own_often) A.f_p_own_often cdv Ar outer s H E) (fun cls d _ H2 => E cls d H2) := takes_of rfl rfl rfl rfl
  have po : PassesOwn (model P w) (cxOf (L2.CX P w) P w K mg base ["one", "number", "found", "step"] "own_often" (defScope s_p_own_often) A.f_p_own_often cdv Ar outer s H E).A (cxOf (L2.CX P w) P w K mg base ["one", "number", "found", "step"] "own_often" (defScope s_p_own_often) A.f_p_own_often cdv Ar outer s H E).env (cxOf (L2.CX P w) P w K mg base ["one", "number", "found", "step"] "own_often" (defScope s_p_own_often) A.f_p_own_often cdv Ar outer s H E).xe := passes_of rfl
  unfold sem_p_own_often
  exact (ds_cons (ds_par (i := 2) (j := 3) rfl sc_p_own_often.nd rfl rfl (by decide) rfl rfl d_int (d_var (i := 0) rfl (vis_by rfl)) rfl) (ds_cons (ds_while po (d_cmpT oGt (d_var (i := 1) rfl (vis_by rfl)) d_int (nomark _)) (ds_cons (ds_if (d_cmpT (oEq (hu64 hr)) (d_op oMod (d_var (i := 1) rfl (vis_by rfl)) d_int) d_int (nomark _)) (ds_one (ds_set (i := 2) sc_p_own_often.nd rfl (loc_by rfl) (d_op oMulI (d_var (i := 2) rfl (vis_by rfl)) (d_var (i := 3) rfl (vis_by rfl))))) ds_nil) (ds_cons (ds_set (i := 1) sc_p_own_often.nd rfl (loc_by rfl) (d_op oDiv (d_var (i := 1) rfl (vis_by rfl)) d_int)) (ds_one (ds_if (d_cmpT oGt (d_var (i := 1) rfl (vis_by rfl)) d_int (nomark _)) (ds_one (ds_set (i := 3) sc_p_own_often.nd rfl (loc_by rfl) (d_op oMulI (d_var (i := 3) rfl (vis_by rfl)) (d_var (i := 3) rfl (vis_by rfl))))) ds_nil))))) (ds_one (ds_ret (d_var (i := 2) rfl (vis_by rfl))))))
theorem ok_p_power (F : Fct K mg A) {P_p_by : DP} (G_p_by : FnG P w K mg base 3 A.f_p_by A.d_p_by ["one", "other"] (spD K 2 P_p_by)) (l_p_by : ∀ rs C k e, P_p_by rs C k e → rs.length = 2) {P_p_own_often : DP} (G_p_own_often : FnG P w K mg base 1 A.f_p_own_often A.d_p_own_often ["one", "number"] (spD K 2 P_p_own_often)) (l_p_own_often : ∀ rs C k e, P_p_own_often rs C k e → rs.length = 2) {P_p_power : DP} {kk : Nat} (hkk : 3 ≤ kk) (G_p_power : FnG P w K mg base kk A.f_p_power A.d_p_power ["one", "number"] (spD K 2 P_p_power)) (l_p_power : ∀ rs C k e, P_p_power rs C k e → rs.length = 2)   {p : DP} (hP : ∀ rs C k e, p rs C k e → rs.length = 2 ∧ sem_p_power K A P_p_power P_p_by P_p_own_often  (defEnds k) ⟨start3 2 rs, C⟩ (defExc e)) :
    FnG P w K mg base (kk + 1) A.f_p_power A.d_p_power ["one", "number"] (spD K 2 p) := by
  refine fnG_def F.f_p_power sc_p_power (fun cdv Ar outer s H E hcd hr hgd => ?_) hP
  have tk : Takes (cxOf (L2.CX P w) P w K mg base ["one", "number"] "power" (defScope s_p_power) A.f_p_power cdv Ar outer s H E) (fun cls d _ H2 => E cls d H2) := takes_of rfl rfl rfl rfl
  have po : PassesOwn (model P w) (cxOf (L2.CX P w) P w K mg base ["one", "number"] "power" (defScope s_p_power) A.f_p_power cdv Ar outer s H E).A (cxOf (L2.CX P w) P w K mg base ["one", "number"] "power" (defScope s_p_power) A.f_p_power cdv Ar outer s H E).env (cxOf (L2.CX P w) P w K mg base ["one", "number"] "power" (defScope s_p_power) A.f_p_power cdv Ar outer s H E).xe := passes_of rfl
  unfold sem_p_power
  exact (ds_cons (ds_if (d_cmpT oLt (d_var (i := 1) rfl (vis_by rfl)) d_int (nomark _)) (ds_one (ds_ret (d_call (kk := kk) G_p_power (hr.mono (by omega)) hgd rfl F.m_p_power F.f_p_power.kp F.b_p_power tk (da_cons (d_call (kk := 3) G_p_by (hr.mono (by omega)) hgd rfl F.m_p_by F.f_p_by.kp F.b_p_by tk (da_cons (d_tup (da_cons d_int (da_cons d_int da_nil))) (da_cons (d_var (i := 0) rfl (vis_by rfl)) da_nil)) l_p_by) (da_cons (d_neg (d_var (i := 1) rfl (vis_by rfl))) da_nil)) l_p_power))) ds_nil) (ds_one (ds_ret (d_tup (da_cons (d_call (kk := 1) G_p_own_often (hr.mono (by omega)) hgd rfl F.m_p_own_often F.f_p_own_often.kp F.b_p_own_often tk (da_cons (d_ixV (i := 0) rfl (vis_by rfl) d_int (fun _ _ => rfl)) (da_cons (d_var (i := 1) rfl (vis_by rfl)) da_nil)) l_p_own_often) (da_cons (d_call (kk := 1) G_p_own_often (hr.mono (by omega)) hgd rfl F.m_p_own_often F.f_p_own_often.kp F.b_p_own_often tk (da_cons (d_ixV (i := 0) rfl (vis_by rfl) d_int (fun _ _ => rfl)) (da_cons (d_var (i := 1) rfl (vis_by rfl)) da_nil)) l_p_own_often) da_nil))))))
theorem ok_u_law_cell (F : Fct K mg A)     {p : DP} (hP : ∀ rs C k e, p rs C k e → rs.length = 2 ∧ sem_u_law_cell K A   (defEnds k) ⟨start3 6 rs, C⟩ (defExc e)) :
    FnG P w K mg base 1 A.f_u_law_cell A.d_u_law_cell ["_law_cells", "_law_spot"] (spD K 2 p) := by
  refine fnG_def F.f_u_law_cell sc_u_law_cell (fun cdv Ar outer s H E hcd hr hgd => ?_) hP
  have tk : Takes (cxOf (L2.CX P w) P w K mg base ["_law_cells", "_law_spot", "_law_k", "_law_base", "_law_own", "_law_turn"] "_law_cell" (defScope s_u_law_cell) A.f_u_law_cell cdv Ar outer s H E) (fun cls d _ H2 => E cls d H2) := takes_of rfl rfl rfl rfl
  have po : PassesOwn (model P w) (cxOf (L2.CX P w) P w K mg base ["_law_cells", "_law_spot", "_law_k", "_law_base", "_law_own", "_law_turn"] "_law_cell" (defScope s_u_law_cell) A.f_u_law_cell cdv Ar outer s H E).A (cxOf (L2.CX P w) P w K mg base ["_law_cells", "_law_spot", "_law_k", "_law_base", "_law_own", "_law_turn"] "_law_cell" (defScope s_u_law_cell) A.f_u_law_cell cdv Ar outer s H E).env (cxOf (L2.CX P w) P w K mg base ["_law_cells", "_law_spot", "_law_k", "_law_base", "_law_own", "_law_turn"] "_law_cell" (defScope s_u_law_cell) A.f_u_law_cell cdv Ar outer s H E).xe := passes_of rfl
  unfold sem_u_law_cell
  exact (ds_cons (ds_put (i := 1) rfl (vis_by rfl) (d_op oAdd (d_ixV (i := 1) rfl (vis_by rfl) d_int (fun _ _ => rfl)) d_int) d_int) (ds_cons (ds_set (i := 2) sc_u_law_cell.nd rfl (loc_by rfl) (d_ixV (i := 1) rfl (vis_by rfl) d_int (fun _ _ => rfl))) (ds_cons (ds_set (i := 3) sc_u_law_cell.nd rfl (loc_by rfl) (d_op oAdd (d_op oMulI (d_op oMulI d_int (d_var (i := 2) rfl (vis_by rfl))) (d_var (i := 2) rfl (vis_by rfl))) (d_op oMulI d_int (d_var (i := 2) rfl (vis_by rfl))))) (ds_cons (ds_if (DW.dt (dw_and (d_cmpT oGt (d_callB cLen rfl F.z_len bt_len (da_cons (d_var (i := 0) rfl (vis_by rfl)) da_nil)) d_int (nomark _)) (dw_and (d_cmpT oGe (d_ixV (i := 0) rfl (vis_by rfl) (d_op oMod (d_var (i := 2) rfl (vis_by rfl)) (d_callB cLen rfl F.z_len bt_len (da_cons (d_var (i := 0) rfl (vis_by rfl)) da_nil))) (fun _ _ => rfl)) (d_op oPow d_int d_int) (nomark _)) (dw_and1 (d_cmpT oLt (d_op oDiv (d_var (i := 2) rfl (vis_by rfl)) (d_callB cLen rfl F.z_len bt_len (da_cons (d_var (i := 0) rfl (vis_by rfl)) da_nil))) d_int (nomark _)))))) (ds_cons (ds_set (i := 4) sc_u_law_cell.nd rfl (loc_by rfl) (d_ixV (i := 0) rfl (vis_by rfl) (d_op oMod (d_var (i := 2) rfl (vis_by rfl)) (d_callB cLen rfl F.z_len bt_len (da_cons (d_var (i := 0) rfl (vis_by rfl)) da_nil))) (fun _ _ => rfl))) (ds_cons (ds_forR1 po rfl rfl F.z_range (d_op oDiv (d_var (i := 2) rfl (vis_by rfl)) (d_callB cLen rfl F.z_len bt_len (da_cons (d_var (i := 0) rfl (vis_by rfl)) da_nil))) (dg_name (i := 5) sc_u_law_cell.nd rfl (loc_by rfl)) (ds_one (ds_set (i := 4) sc_u_law_cell.nd rfl (loc_by rfl) (d_op oDiv (d_var (i := 4) rfl (vis_by rfl)) d_int)))) (ds_one (ds_if (d_cmpT oGt (d_var (i := 4) rfl (vis_by rfl)) d_int (nomark _)) (ds_one (ds_ret (d_op oMod (d_var (i := 4) rfl (vis_by rfl)) d_int))) ds_nil)))) ds_nil) (ds_cons (ds_if (d_cmpT oGt (d_callB cLen rfl F.z_len bt_len (da_cons (d_var (i := 0) rfl (vis_by rfl)) da_nil)) d_int (nomark _)) (ds_one (ds_set (i := 3) sc_u_law_cell.nd rfl (loc_by rfl) (d_op oAdd (d_var (i := 3) rfl (vis_by rfl)) (d_op oMulI (d_op oMod (d_ixV (i := 0) rfl (vis_by rfl) (d_op oMod (d_var (i := 2) rfl (vis_by rfl)) (d_callB cLen rfl F.z_len bt_len (da_cons (d_var (i := 0) rfl (vis_by rfl)) da_nil))) (fun _ _ => rfl)) d_int) (d_op oAdd d_int (d_op oDiv (d_var (i := 2) rfl (vis_by rfl)) (d_callB cLen rfl F.z_len bt_len (da_cons (d_var (i := 0) rfl (vis_by rfl)) da_nil)))))))) ds_nil) (ds_one (ds_ret (d_op oDiv (d_op oMod (d_op oPow (d_op oMod (d_var (i := 3) rfl (vis_by rfl)) d_int) d_int) d_int) d_int))))))))
theorem ok_u_law_low (F : Fct K mg A)     {p : DP} (hP : ∀ rs C k e, p rs C k e → rs.length = 2 ∧ sem_u_law_low K A   (defEnds k) ⟨start3 5 rs, C⟩ (defExc e)) :
    FnG P w K mg base 1 A.f_u_law_low A.d_u_law_low ["_law_above", "_law_below"] (spD K 2 p) := by
  refine fnG_def F.f_u_law_low sc_u_law_low (fun cdv Ar outer s H E hcd hr hgd => ?_) hP
  have tk : Takes (cxOf (L2.CX P w) P w K mg base ["_law_above", "_law_below", "_law_one", "_law_other", "_law_part"] "_law_low" (defScope s_u_law_low) A.f_u_law_low cdv Ar outer s H E) (fun cls d _ H2 => E cls d H2) := takes_of rfl rfl rfl rfl
  have po : PassesOwn (model P w) (cxOf (L2.CX P w) P w K mg base ["_law_above", "_law_below", "_law_one", "_law_other", "_law_part"] "_law_low" (defScope s_u_law_low) A.f_u_law_low cdv Ar outer s H E).A (cxOf (L2.CX P w) P w K mg base ["_law_above", "_law_below", "_law_one", "_law_other", "_law_part"] "_law_low" (defScope s_u_law_low) A.f_u_law_low cdv Ar outer s H E).env (cxOf (L2.CX P w) P w K mg base ["_law_above", "_law_below", "_law_one", "_law_other", "_law_part"] "_law_low" (defScope s_u_law_low) A.f_u_law_low cdv Ar outer s H E).xe := passes_of rfl
  unfold sem_u_law_low
  exact (ds_cons (ds_par (i := 2) (j := 3) rfl sc_u_law_low.nd rfl rfl (by decide) rfl rfl (d_callB cAbs rfl F.z_abs bt_abs (da_cons (d_var (i := 0) rfl (vis_by rfl)) da_nil)) (d_callB cAbs rfl F.z_abs bt_abs (da_cons (d_var (i := 1) rfl (vis_by rfl)) da_nil)) rfl) (ds_cons (ds_while po (d_cmpT (oNe (hu64 hr)) (d_var (i := 3) rfl (vis_by rfl)) d_int (nomark _)) (ds_one (ds_par (i := 2) (j := 3) rfl sc_u_law_low.nd rfl rfl (by decide) rfl rfl (d_var (i := 3) rfl (vis_by rfl)) (d_op oMod (d_var (i := 2) rfl (vis_by rfl)) (d_var (i := 3) rfl (vis_by rfl))) rfl))) (ds_cons (ds_set (i := 4) sc_u_law_low.nd rfl (loc_by rfl) (d_ifE (d_cmpT oGt (d_var (i := 1) rfl (vis_by rfl)) d_int (nomark _)) (d_var (i := 2) rfl (vis_by rfl)) (d_op oSub d_int (d_var (i := 2) rfl (vis_by rfl))))) (ds_one (ds_ret (d_tup (da_cons (d_op oDiv (d_var (i := 0) rfl (vis_by rfl)) (d_var (i := 4) rfl (vis_by rfl))) (da_cons (d_op oDiv (d_var (i := 1) rfl (vis_by rfl)) (d_var (i := 4) rfl (vis_by rfl))) da_nil))))))))
theorem ok_u_law_plus (F : Fct K mg A) {P_u_law_low : DP} (G_u_law_low : FnG P w K mg base 1 A.f_u_law_low A.d_u_law_low ["_law_above", "_law_below"] (spD K 2 P_u_law_low)) (l_u_law_low : ∀ rs C k e, P_u_law_low rs C k e → rs.length = 2)    {p : DP} (hP : ∀ rs C k e, p rs C k e → rs.length = 2 ∧ sem_u_law_plus K A P_u_law_low  (defEnds k) ⟨start3 2 rs, C⟩ (defExc e)) :
    FnG P w K mg base 2 A.f_u_law_plus A.d_u_law_plus ["_law_one", "_law_other"] (spD K 2 p) := by
  refine fnG_def F.f_u_law_plus sc_u_law_plus (fun cdv Ar outer s H E hcd hr hgd => ?_) hP
  have tk : Takes (cxOf (L2.CX P w) P w K mg base ["_law_one", "_law_other"] "_law_plus" (defScope s_u_law_plus) A.f_u_law_plus cdv Ar outer s H E) (fun cls d _ H2 => E cls d H2) := takes_of rfl rfl rfl rfl
  have po : PassesOwn (model P w) (cxOf (L2.CX P w) P w K mg base ["_law_one", "_law_other"] "_law_plus" (defScope s_u_law_plus) A.f_u_law_plus cdv Ar outer s H E).A (cxOf (L2.CX P w) P w K mg base ["_law_one", "_law_other"] "_law_plus" (defScope s_u_law_plus) A.f_u_law_plus cdv Ar outer s H E).env (cxOf (L2.CX P w) P w K mg base ["_law_one", "_law_other"] "_law_plus" (defScope s_u_law_plus) A.f_u_law_plus cdv Ar outer s H E).xe := passes_of rfl
  unfold sem_u_law_plus
  exact (ds_one (ds_ret (d_call (kk := 1) G_u_law_low (hr.mono (by omega)) hgd rfl F.m_u_law_low F.f_u_law_low.kp F.b_u_law_low tk (da_cons (d_op oAdd (d_op oMulI (d_ixV (i := 0) rfl (vis_by rfl) d_int (fun _ _ => rfl)) (d_ixV (i := 1) rfl (vis_by rfl) d_int (fun _ _ => rfl))) (d_op oMulI (d_ixV (i := 1) rfl (vis_by rfl) d_int (fun _ _ => rfl)) (d_ixV (i := 0) rfl (vis_by rfl) d_int (fun _ _ => rfl)))) (da_cons (d_op oMulI (d_ixV (i := 0) rfl (vis_by rfl) d_int (fun _ _ => rfl)) (d_ixV (i := 1) rfl (vis_by rfl) d_int (fun _ _ => rfl))) da_nil)) l_u_law_low)))
theorem ok_u_law_times (F : Fct K mg A) {P_u_law_low : DP} (G_u_law_low : FnG P w K mg base 1 A.f_u_law_low A.d_u_law_low ["_law_above", "_law_below"] (spD K 2 P_u_law_low)) (l_u_law_low : ∀ rs C k e, P_u_law_low rs C k e → rs.length = 2)    {p : DP} (hP : ∀ rs C k e, p rs C k e → rs.length = 2 ∧ sem_u_law_times K A P_u_law_low  (defEnds k) ⟨start3 2 rs, C⟩ (defExc e)) :
    FnG P w K mg base 2 A.f_u_law_times A.d_u_law_times ["_law_one", "_law_other"] (spD K 2 p) := by
  refine fnG_def F.f_u_law_times sc_u_law_times (fun cdv Ar outer s H E hcd hr hgd => ?_) hP
  have tk : Takes (cxOf (L2.CX P w) P w K mg base ["_law_one", "_law_other"] "_law_times" (defScope s_u_law_times) A.f_u_law_times cdv Ar outer s H E) (fun cls d _ H2 => E cls d H2) := takes_of rfl rfl rfl rfl
  have po : PassesOwn (model P w) (cxOf (L2.CX P w) P w K mg base ["_law_one", "_law_other"] "_law_times" (defScope s_u_law_times) A.f_u_law_times cdv Ar outer s H E).A (cxOf (L2.CX P w) P w K mg base ["_law_one", "_law_other"] "_law_times" (defScope s_u_law_times) A.f_u_law_times cdv Ar outer s H E).env (cxOf (L2.CX P w) P w K mg base ["_law_one", "_law_other"] "_law_times" (defScope s_u_law_times) A.f_u_law_times cdv Ar outer s H E).xe := passes_of rfl
  unfold sem_u_law_times
  exact (ds_one (ds_ret (d_call (kk := 1) G_u_law_low (hr.mono (by omega)) hgd rfl F.m_u_law_low F.f_u_law_low.kp F.b_u_law_low tk (da_cons (d_op oMulI (d_ixV (i := 0) rfl (vis_by rfl) d_int (fun _ _ => rfl)) (d_ixV (i := 1) rfl (vis_by rfl) d_int (fun _ _ => rfl))) (da_cons (d_op oMulI (d_ixV (i := 0) rfl (vis_by rfl) d_int (fun _ _ => rfl)) (d_ixV (i := 1) rfl (vis_by rfl) d_int (fun _ _ => rfl))) da_nil)) l_u_law_low)))
theorem ok_u_law_by (F : Fct K mg A) {P_u_law_low : DP} (G_u_law_low : FnG P w K mg base 1 A.f_u_law_low A.d_u_law_low ["_law_above", "_law_below"] (spD K 2 P_u_law_low)) (l_u_law_low : ∀ rs C k e, P_u_law_low rs C k e → rs.length = 2)    {p : DP} (hP : ∀ rs C k e, p rs C k e → rs.length = 2 ∧ sem_u_law_by K A P_u_law_low  (defEnds k) ⟨start3 2 rs, C⟩ (defExc e)) :
    FnG P w K mg base 2 A.f_u_law_by A.d_u_law_by ["_law_one", "_law_other"] (spD K 2 p) := by
  refine fnG_def F.f_u_law_by sc_u_law_by (fun cdv Ar outer s H E hcd hr hgd => ?_) hP
  have tk : Takes (cxOf (L2.CX P w) P w K mg base ["_law_one", "_law_other"] "_law_by" (defScope s_u_law_by) A.f_u_law_by cdv Ar outer s H E) (fun cls d _ H2 => E cls d H2) := takes_of rfl rfl rfl rfl
  have po : PassesOwn (model P w) (cxOf (L2.CX P w) P w K mg base ["_law_one", "_law_other"] "_law_by" (defScope s_u_law_by) A.f_u_law_by cdv Ar outer s H E).A (cxOf (L2.CX P w) P w K mg base ["_law_one", "_law_other"] "_law_by" (defScope s_u_law_by) A.f_u_law_by cdv Ar outer s H E).env (cxOf (L2.CX P w) P w K mg base ["_law_one", "_law_other"] "_law_by" (defScope s_u_law_by) A.f_u_law_by cdv Ar outer s H E).xe := passes_of rfl
  unfold sem_u_law_by
  exact (ds_one (ds_ret (d_call (kk := 1) G_u_law_low (hr.mono (by omega)) hgd rfl F.m_u_law_low F.f_u_law_low.kp F.b_u_law_low tk (da_cons (d_op oMulI (d_ixV (i := 0) rfl (vis_by rfl) d_int (fun _ _ => rfl)) (d_ixV (i := 1) rfl (vis_by rfl) d_int (fun _ _ => rfl))) (da_cons (d_op oMulI (d_ixV (i := 0) rfl (vis_by rfl) d_int (fun _ _ => rfl)) (d_ixV (i := 1) rfl (vis_by rfl) d_int (fun _ _ => rfl))) da_nil)) l_u_law_low)))
theorem ok_u_law_number (F : Fct K mg A) {P_u_law_cell : DP} (G_u_law_cell : FnG P w K mg base 1 A.f_u_law_cell A.d_u_law_cell ["_law_cells", "_law_spot"] (spD K 2 P_u_law_cell)) (l_u_law_cell : ∀ rs C k e, P_u_law_cell rs C k e → rs.length = 2)    {p : DP} (hP : ∀ rs C k e, p rs C k e → rs.length = 2 ∧ sem_u_law_number K A P_u_law_cell  (defEnds k) ⟨start3 5 rs, C⟩ (defExc e)) :
    FnG P w K mg base 2 A.f_u_law_number A.d_u_law_number ["_law_cells", "_law_spot"] (spD K 2 p) := by
  refine fnG_def F.f_u_law_number sc_u_law_number (fun cdv Ar outer s H E hcd hr hgd => ?_) hP
  have tk : Takes (cxOf (L2.CX P w) P w K mg base ["_law_cells", "_law_spot", "_law_n", "_law_far", "_law_great"] "_law_number" (defScope s_u_law_number) A.f_u_law_number cdv Ar outer s H E) (fun cls d _ H2 => E cls d H2) := takes_of rfl rfl rfl rfl
  have po : PassesOwn (model P w) (cxOf (L2.CX P w) P w K mg base ["_law_cells", "_law_spot", "_law_n", "_law_far", "_law_great"] "_law_number" (defScope s_u_law_number) A.f_u_law_number cdv Ar outer s H E).A (cxOf (L2.CX P w) P w K mg base ["_law_cells", "_law_spot", "_law_n", "_law_far", "_law_great"] "_law_number" (defScope s_u_law_number) A.f_u_law_number cdv Ar outer s H E).env (cxOf (L2.CX P w) P w K mg base ["_law_cells", "_law_spot", "_law_n", "_law_far", "_law_great"] "_law_number" (defScope s_u_law_number) A.f_u_law_number cdv Ar outer s H E).xe := passes_of rfl
  unfold sem_u_law_number
  exact (ds_cons (ds_set (i := 2) sc_u_law_number.nd rfl (loc_by rfl) (d_call (kk := 1) G_u_law_cell (hr.mono (by omega)) hgd rfl F.m_u_law_cell F.f_u_law_cell.kp F.b_u_law_cell tk (da_cons (d_var (i := 0) rfl (vis_by rfl)) (da_cons (d_var (i := 1) rfl (vis_by rfl)) da_nil)) l_u_law_cell)) (ds_cons (ds_set (i := 3) sc_u_law_number.nd rfl (loc_by rfl) (d_op oSub d_int (d_op oMulI (d_op oMod (d_op oDiv (d_var (i := 2) rfl (vis_by rfl)) d_int) d_int) d_int))) (ds_cons (ds_set (i := 4) sc_u_law_number.nd rfl (loc_by rfl) (d_op oAdd (d_op oMulI (d_var (i := 2) rfl (vis_by rfl)) (d_call (kk := 1) G_u_law_cell (hr.mono (by omega)) hgd rfl F.m_u_law_cell F.f_u_law_cell.kp F.b_u_law_cell tk (da_cons (d_var (i := 0) rfl (vis_by rfl)) (da_cons (d_var (i := 1) rfl (vis_by rfl)) da_nil)) l_u_law_cell)) d_int)) (ds_one (ds_ret (d_op oMulI (d_ix (d_fz (d_lst (da_cons (d_op oMod (d_var (i := 2) rfl (vis_by rfl)) d_int) (da_cons (d_op oMod (d_var (i := 2) rfl (vis_by rfl)) d_int) (da_cons (d_var (i := 2) rfl (vis_by rfl)) (da_cons (d_var (i := 4) rfl (vis_by rfl)) (da_cons (d_op oPow (d_var (i := 4) rfl (vis_by rfl)) d_int) (da_cons d_int (da_cons d_int da_nil))))))))) (d_op oMod (d_var (i := 2) rfl (vis_by rfl)) d_int) (fun _ _ => rfl)) (d_var (i := 3) rfl (vis_by rfl))))))))
theorem ok_u_law_power (F : Fct K mg A) {P_u_law_times : DP} (G_u_law_times : FnG P w K mg base 2 A.f_u_law_times A.d_u_law_times ["_law_one", "_law_other"] (spD K 2 P_u_law_times)) (l_u_law_times : ∀ rs C k e, P_u_law_times rs C k e → rs.length = 2) {P_u_law_by : DP} (G_u_law_by : FnG P w K mg base 2 A.f_u_law_by A.d_u_law_by ["_law_one", "_law_other"] (spD K 2 P_u_law_by)) (l_u_law_by : ∀ rs C k e, P_u_law_by rs C k e → rs.length = 2)    {p : DP} (hP : ∀ rs C k e, p rs C k e → rs.length = 2 ∧ sem_u_law_power K A P_u_law_times P_u_law_by  (defEnds k) ⟨start3 4 rs, C⟩ (defExc e)) :
    FnG P w K mg base 3 A.f_u_law_power A.d_u_law_power ["_law_one", "_law_number_here"] (spD K 2 p) := by
  refine fnG_def F.f_u_law_power sc_u_law_power (fun cdv Ar outer s H E hcd hr hgd => ?_) hP
  have tk : Takes (cxOf (L2.CX P w) P w K mg base ["_law_one", "_law_number_here", "_law_found", "_law_turn"] "_law_power" (defScope s_u_law_power) A.f_u_law_power cdv Ar outer s H E) (fun cls d _ H2 => E cls d H2) := takes_of rfl rfl rfl rfl
  have po : PassesOwn (model P w) (cxOf (L2.CX P w) P w K mg base ["_law_one", "_law_number_here", "_law_found", "_law_turn"] "_law_power" (defScope s_u_law_power) A.f_u_law_power cdv Ar outer s H E).A (cxOf (L2.CX P w) P w K mg base ["_law_one", "_law_number_here", "_law_found", "_law_turn"] "_law_power" (defScope s_u_law_power) A.f_u_law_power cdv Ar outer s H E).env (cxOf (L2.CX P w) P w K mg base ["_law_one", "_law_number_here", "_law_found", "_law_turn"] "_law_power" (defScope s_u_law_power) A.f_u_law_power cdv Ar outer s H E).xe := passes_of rfl
  unfold sem_u_law_power
  exact (ds_cons (ds_set (i := 2) sc_u_law_power.nd rfl (loc_by rfl) (d_tup (da_cons d_int (da_cons d_int da_nil)))) (ds_cons (ds_forR1 po rfl rfl F.z_range (d_callB cAbs rfl F.z_abs bt_abs (da_cons (d_var (i := 1) rfl (vis_by rfl)) da_nil)) (dg_name (i := 3) sc_u_law_power.nd rfl (loc_by rfl)) (ds_one (ds_set (i := 2) sc_u_law_power.nd rfl (loc_by rfl) (d_call (kk := 2) G_u_law_times (hr.mono (by omega)) hgd rfl F.m_u_law_times F.f_u_law_times.kp F.b_u_law_times tk (da_cons (d_var (i := 2) rfl (vis_by rfl)) (da_cons (d_var (i := 0) rfl (vis_by rfl)) da_nil)) l_u_law_times)))) (ds_one (ds_ret (d_ifE (d_cmpT oLt (d_var (i := 1) rfl (vis_by rfl)) d_int (nomark _)) (d_call (kk := 2) G_u_law_by (hr.mono (by omega)) hgd rfl F.m_u_law_by F.f_u_law_by.kp F.b_u_law_by tk (da_cons (d_tup (da_cons d_int (da_cons d_int da_nil))) (da_cons (d_var (i := 2) rfl (vis_by rfl)) da_nil)) l_u_law_by) (d_var (i := 2) rfl (vis_by rfl)))))))
theorem body_u_law_refused (F : Fct K mg A)  (cdv : Value) {Ar : Around} {outer : List Env} {s : Shared} {H : Hp} {E : XK} {TT : SV} {Pt : TP} {kr : Nat} (hr0 : Room kr (Ar.deeper (envOfC "_law_refused" (defScope s_u_law_refused) s.heap.objs.size A.f_u_law_refused cdv))) (hkr : 0 ≤ kr) (hgd : Ar.guards = some [])
    (hthk : ∀ (W : WX) (pn : List (Addr × Obj)) (xe : Value → Shared → Prop) (p1 p2 : Pos), Takes ((cxOf (L2.CX P w) P w K mg base ["_law_deed", "_law_wrong", "error", "_law_kinds"] "_law_refused" (defScope s_u_law_refused) A.f_u_law_refused cdv Ar outer s H E).tr pn xe) W → DE ((cxOf (L2.CX P w) P w K mg base ["_law_deed", "_law_wrong", "error", "_law_kinds"] "_law_refused" (defScope s_u_law_refused) A.f_u_law_refused cdv Ar outer s H E).tr pn xe) W (.Call (.Name "_law_deed" p1) [] [] p2) (dThk TT Pt)) :
    DSs (cxOf (L2.CX P w) P w K mg base ["_law_deed", "_law_wrong", "error", "_law_kinds"] "_law_refused" (defScope s_u_law_refused) A.f_u_law_refused cdv Ar outer s H E) (fun cls d _ H2 => E cls d H2) (defBody s_u_law_refused) (sem_u_law_refused K A   TT Pt) := by
  have hr := hr0.mono hkr
  have tk : Takes (cxOf (L2.CX P w) P w K mg base ["_law_deed", "_law_wrong", "error", "_law_kinds"] "_law_refused" (defScope s_u_law_refused) A.f_u_law_refused cdv Ar outer s H E) (fun cls d _ H2 => E cls d H2) := takes_of rfl rfl rfl rfl
  have po : PassesOwn (model P w) (cxOf (L2.CX P w) P w K mg base ["_law_deed", "_law_wrong", "error", "_law_kinds"] "_law_refused" (defScope s_u_law_refused) A.f_u_law_refused cdv Ar outer s H E).A (cxOf (L2.CX P w) P w K mg base ["_law_deed", "_law_wrong", "error", "_law_kinds"] "_law_refused" (defScope s_u_law_refused) A.f_u_law_refused cdv Ar outer s H E).env (cxOf (L2.CX P w) P w K mg base ["_law_deed", "_law_wrong", "error", "_law_kinds"] "_law_refused" (defScope s_u_law_refused) A.f_u_law_refused cdv Ar outer s H E).xe := passes_of rfl
  unfold sem_u_law_refused
  exact (ds_cons (ds_set (i := 1) sc_u_law_refused.nd rfl (loc_by rfl) d_non) (ds_cons (ds_try_law (good := (fun C => PySem.W.exmAny K (.ref C) [.ref A.c_HollowError, .ref A.c_DeedError, .ref A.c_BookError] = some true)) (i := 2) (j := 1) rfl rfl rfl sc_u_law_refused.nd rfl rfl rfl (loc_by rfl) (.inl rfl) (clause_three rfl F.mc_HollowError rfl F.mc_DeedError rfl F.mc_BookError (fun _ h => h)) rfl rfl rfl (fun W pn xe tk po => (ds_one (ds_expr (hthk _ _ _ _ _ tk))))) (ds_cons (ds_own (i := 3) sc_u_law_refused.nd rfl (loc_by rfl) (d_lst (da_cons (d_callB cIsiX rfl F.z_isinstance bt_isinstance (da_cons (d_var (i := 1) rfl (vis_by rfl)) (da_cons (d_glob (v := .ref A.c_BadFraction) rfl F.mc_BadFraction rfl (fun _ _ => rfl)) da_nil))) (da_cons (d_callB cIsiX rfl F.z_isinstance bt_isinstance (da_cons (d_var (i := 1) rfl (vis_by rfl)) (da_cons (d_bltn rfl F.z_ValueError bt_ValueError rfl) da_nil))) da_nil)))) (ds_one (ds_ret (d_andV (d_cmp (oEq (hu64 hr)) (d_var (i := 3) rfl (vis_by rfl)) (d_fz (d_lst (da_cons d_bl (da_cons d_bl da_nil)))) (nomark _)) (d_one (d_notV (d_callB cIsiX rfl F.z_isinstance bt_isinstance (da_cons (d_var (i := 1) rfl (vis_by rfl)) (da_cons (d_glob (v := .ref A.c_BadRule) rfl F.mc_BadRule rfl (fun _ _ => rfl)) da_nil)))))))))))
theorem ok_u_law_is_one (F : Fct K mg A) {P_u_law_low : DP} (G_u_law_low : FnG P w K mg base 1 A.f_u_law_low A.d_u_law_low ["_law_above", "_law_below"] (spD K 2 P_u_law_low)) (l_u_law_low : ∀ rs C k e, P_u_law_low rs C k e → rs.length = 2)    {p : DP} (hP : ∀ rs C k e, p rs C k e → rs.length = 1 ∧ sem_u_law_is_one K A P_u_law_low  (defEnds k) ⟨start3 2 rs, C⟩ (defExc e)) :
    FnG P w K mg base 2 A.f_u_law_is_one A.d_u_law_is_one ["_law_thing"] (spD K 1 p) := by
  refine fnG_def F.f_u_law_is_one sc_u_law_is_one (fun cdv Ar outer s H E hcd hr hgd => ?_) hP
  have tk : Takes (cxOf (L2.CX P w) P w K mg base ["_law_thing", "_law_part"] "_law_is_one" (defScope s_u_law_is_one) A.f_u_law_is_one cdv Ar outer s H E) (fun cls d _ H2 => E cls d H2) := takes_of rfl rfl rfl rfl
  have po : PassesOwn (model P w) (cxOf (L2.CX P w) P w K mg base ["_law_thing", "_law_part"] "_law_is_one" (defScope s_u_law_is_one) A.f_u_law_is_one cdv Ar outer s H E).A (cxOf (L2.CX P w) P w K mg base ["_law_thing", "_law_part"] "_law_is_one" (defScope s_u_law_is_one) A.f_u_law_is_one cdv Ar outer s H E).env (cxOf (L2.CX P w) P w K mg base ["_law_thing", "_law_part"] "_law_is_one" (defScope s_u_law_is_one) A.f_u_law_is_one cdv Ar outer s H E).xe := passes_of rfl
  unfold sem_u_law_is_one
  exact (ds_cons (ds_if (DW.dt (dw_or (d_not (d_truth (d_callB cIsiX rfl F.z_isinstance bt_isinstance (da_cons (d_var (i := 0) rfl (vis_by rfl)) (da_cons (d_bltn rfl F.z_tuple bt_tuple rfl) da_nil))))) (dw_or1 (d_cmpT (oNe (hu64 hr)) (d_callB cLen rfl F.z_len bt_len (da_cons (d_var (i := 0) rfl (vis_by rfl)) da_nil)) d_int (nomark _))))) (ds_one (ds_ret d_bl)) ds_nil) (ds_cons (ds_for po rfl (d_var (i := 0) rfl (vis_by rfl)) (dg_name (i := 1) sc_u_law_is_one.nd rfl (loc_by rfl)) (ds_one (ds_if (DW.dt (dw_or (d_not (d_truth (d_callB cIsiX rfl F.z_isinstance bt_isinstance (da_cons (d_var (i := 1) rfl (vis_by rfl)) (da_cons (d_bltn rfl F.z_int bt_int rfl) da_nil))))) (dw_or1 (d_truth (d_callB cIsiX rfl F.z_isinstance bt_isinstance (da_cons (d_var (i := 1) rfl (vis_by rfl)) (da_cons (d_bltn rfl F.z_bool bt_bool rfl) da_nil))))))) (ds_one (ds_ret d_bl)) ds_nil))) (ds_one (ds_ret (d_andV (d_cmp oGt (d_ixV (i := 0) rfl (vis_by rfl) d_int (fun _ _ => rfl)) d_int (nomark _)) (d_one (d_cmp (oEq (hu64 hr)) (d_call (kk := 1) G_u_law_low (hr.mono (by omega)) hgd rfl F.m_u_law_low F.f_u_law_low.kp F.b_u_law_low tk (da_cons (d_ixV (i := 0) rfl (vis_by rfl) d_int (fun _ _ => rfl)) (da_cons (d_ixV (i := 0) rfl (vis_by rfl) d_int (fun _ _ => rfl)) da_nil)) l_u_law_low) (d_var (i := 0) rfl (vis_by rfl)) (nomark _))))))))
theorem ok_u_law_things (F : Fct K mg A)     {p : DP} (hP : ∀ rs C k e, p rs C k e → rs.length = 2 ∧ sem_u_law_things K A   (defEnds k) ⟨start3 5 rs, C⟩ (defExc e)) :
    FnG P w K mg base 1 A.f_u_law_things A.d_u_law_things ["_law_one", "_law_n"] (spD K 2 p) := by
  refine fnG_def F.f_u_law_things sc_u_law_things (fun cdv Ar outer s H E hcd hr hgd => ?_) hP
  have tk : Takes (cxOf (L2.CX P w) P w K mg base ["_law_one", "_law_n", "_law_above", "_law_below", "_law_some"] "_law_things" (defScope s_u_law_things) A.f_u_law_things cdv Ar outer s H E) (fun cls d _ H2 => E cls d H2) := takes_of rfl rfl rfl rfl
  have po : PassesOwn (model P w) (cxOf (L2.CX P w) P w K mg base ["_law_one", "_law_n", "_law_above", "_law_below", "_law_some"] "_law_things" (defScope s_u_law_things) A.f_u_law_things cdv Ar outer s H E).A (cxOf (L2.CX P w) P w K mg base ["_law_one", "_law_n", "_law_above", "_law_below", "_law_some"] "_law_things" (defScope s_u_law_things) A.f_u_law_things cdv Ar outer s H E).env (cxOf (L2.CX P w) P w K mg base ["_law_one", "_law_n", "_law_above", "_law_below", "_law_some"] "_law_things" (defScope s_u_law_things) A.f_u_law_things cdv Ar outer s H E).xe := passes_of rfl
  unfold sem_u_law_things
  exact (ds_cons (ds_asg (d_var (i := 0) rfl (vis_by rfl)) (dg_tup rfl (dgs_cons (dg_name (i := 2) sc_u_law_things.nd rfl (loc_by rfl)) (dgs_cons (dg_name (i := 3) sc_u_law_things.nd rfl (loc_by rfl)) dgs_nil)))) (ds_cons (ds_own (i := 4) sc_u_law_things.nd rfl (loc_by rfl) (d_lst (da_cons (d_var (i := 0) rfl (vis_by rfl)) (da_cons (d_tup (da_cons (d_var (i := 2) rfl (vis_by rfl)) (da_cons (d_op oAdd (d_var (i := 3) rfl (vis_by rfl)) d_int) da_nil))) (da_cons (d_tup (da_cons (d_op oAdd (d_var (i := 2) rfl (vis_by rfl)) d_int) (da_cons (d_var (i := 3) rfl (vis_by rfl)) da_nil))) (da_cons (d_tup (da_cons (d_op oMulI d_int (d_var (i := 2) rfl (vis_by rfl))) (da_cons (d_op oMulI d_int (d_var (i := 3) rfl (vis_by rfl))) da_nil))) da_nil)))))) (ds_cons (ds_own (i := 4) sc_u_law_things.nd rfl (loc_by rfl) (d_addL (d_var (i := 4) rfl (vis_by rfl)) (d_fz (d_lst (da_cons (d_tup (da_cons (d_op oSub d_int (d_var (i := 2) rfl (vis_by rfl))) (da_cons (d_op oSub d_int (d_var (i := 3) rfl (vis_by rfl))) da_nil))) (da_cons (d_tup (da_cons (d_var (i := 2) rfl (vis_by rfl)) (da_cons d_int da_nil))) (da_cons (d_tup (da_cons (d_var (i := 2) rfl (vis_by rfl)) da_nil)) da_nil))))))) (ds_cons (ds_own (i := 4) sc_u_law_things.nd rfl (loc_by rfl) (d_addL (d_var (i := 4) rfl (vis_by rfl)) (d_fz (d_lst (da_cons (d_tup (da_cons (d_var (i := 2) rfl (vis_by rfl)) (da_cons (d_var (i := 3) rfl (vis_by rfl)) (da_cons d_int da_nil)))) (da_cons (d_fz (d_lst (da_cons (d_var (i := 2) rfl (vis_by rfl)) (da_cons (d_var (i := 3) rfl (vis_by rfl)) da_nil)))) (da_cons (d_var (i := 2) rfl (vis_by rfl)) da_nil))))))) (ds_cons (ds_own (i := 4) sc_u_law_things.nd rfl (loc_by rfl) (d_addL (d_var (i := 4) rfl (vis_by rfl)) (d_fz (d_lst (da_cons (d_tup (da_cons (d_callTy cStrI rfl F.z_str bt_str (da_cons (d_var (i := 2) rfl (vis_by rfl)) da_nil)) (da_cons (d_var (i := 3) rfl (vis_by rfl)) da_nil))) (da_cons (d_tup (da_cons (d_var (i := 2) rfl (vis_by rfl)) (da_cons (d_callTy cStrI rfl F.z_str bt_str (da_cons (d_var (i := 3) rfl (vis_by rfl)) da_nil)) da_nil))) da_nil)))))) (ds_cons (ds_own (i := 4) sc_u_law_things.nd rfl (loc_by rfl) (d_addL (d_var (i := 4) rfl (vis_by rfl)) (d_fz (d_lst (da_cons (d_tup (da_cons d_bl (da_cons d_int da_nil))) (da_cons (d_tup (da_cons d_int (da_cons d_bl da_nil))) (da_cons (d_tup (da_cons d_bl (da_cons d_int da_nil))) (da_cons (d_tup (da_cons d_int (da_cons d_int da_nil))) (da_cons (d_tup (da_cons d_int (da_cons d_int da_nil))) (da_cons (d_tup (da_cons d_int (da_cons d_int da_nil))) (da_cons d_non (da_cons d_str da_nil)))))))))))) (ds_cons (ds_own (i := 4) sc_u_law_things.nd rfl (loc_by rfl) (d_addL (d_var (i := 4) rfl (vis_by rfl)) (d_fz (d_lst (da_cons d_dct0 (da_cons (d_tup da_nil) (da_cons (d_tup (da_cons (d_tup (da_cons d_int (da_cons d_int da_nil))) (da_cons d_int da_nil))) (da_cons (d_tup (da_cons d_non (da_cons d_int da_nil))) da_nil)))))))) (ds_one (ds_ret (d_fz (d_addL (d_fz (d_slL (d_var (i := 4) rfl (vis_by rfl)) (do_some (d_op oMod (d_var (i := 1) rfl (vis_by rfl)) d_int)) do_none (do_some d_int))) (d_fz (d_slL (d_var (i := 4) rfl (vis_by rfl)) do_none (do_some d_int) do_none)))))))))))))
theorem ok_u_law_pair_right (F : Fct K mg A) {P_p_times : DP} (G_p_times : FnG P w K mg base 3 A.f_p_times A.d_p_times ["one", "other"] (spD K 2 P_p_times)) (l_p_times : ∀ rs C k e, P_p_times rs C k e → rs.length = 2) {P_p_less : DP} (G_p_less : FnG P w K mg base 3 A.f_p_less A.d_p_less ["one", "other"] (spD K 2 P_p_less)) (l_p_less : ∀ rs C k e, P_p_less rs C k e → rs.length = 2) {P_p_plus : DP} (G_p_plus : FnG P w K mg base 3 A.f_p_plus A.d_p_plus ["one", "other"] (spD K 2 P_p_plus)) (l_p_plus : ∀ rs C k e, P_p_plus rs C k e → rs.length = 2) {P_u_law_plus : DP} (G_u_law_plus : FnG P w K mg base 2 A.f_u_law_plus A.d_u_law_plus ["_law_one", "_law_other"] (spD K 2 P_u_law_plus)) (l_u_law_plus : ∀ rs C k e, P_u_law_plus rs C k e → rs.length = 2) {P_u_law_power : DP} (G_u_law_power : FnG P w K mg base 3 A.f_u_law_power A.d_u_law_power ["_law_one", "_law_number_here"] (spD K 2 P_u_law_power)) (l_u_law_power : ∀ rs C k e, P_u_law_power rs C k e → rs.length = 2) {P_u_law_times : DP} (G_u_law_times : FnG P w K mg base 2 A.f_u_law_times A.d_u_law_times ["_law_one", "_law_other"] (spD K 2 P_u_law_times)) (l_u_law_times : ∀ rs C k e, P_u_law_times rs C k e → rs.length = 2) {P_p_power : DP} (G_p_power : FnG P w K mg base 5 A.f_p_power A.d_p_power ["one", "number"] (spD K 2 P_p_power)) (l_p_power : ∀ rs C k e, P_p_power rs C k e → rs.length = 2) {P_p_by : DP} (G_p_by : FnG P w K mg base 3 A.f_p_by A.d_p_by ["one", "other"] (spD K 2 P_p_by)) (l_p_by : ∀ rs C k e, P_p_by rs C k e → rs.length = 2) {P_u_law_by : DP} (G_u_law_by : FnG P w K mg base 2 A.f_u_law_by A.d_u_law_by ["_law_one", "_law_other"] (spD K 2 P_u_law_by)) (l_u_law_by : ∀ rs C k e, P_u_law_by rs C k e → rs.length = 2)  {PG_u_law_refused : TP → List (List PyData) → (SV → List (List PyData) → Prop) → (Xd → List (List PyData) → Prop) → Prop} (hPG_u_law_refused : ∀ Pt C k e T, PG_u_law_refused Pt C k e → sem_u_law_refused K A  T Pt (defEnds k) ⟨start3 4 [T], C⟩ (defExc e)) (TB : LamX.TabB base mg A.k_u_law_pair_right A.t_u_law_pair_right) (hT : (A.t_u_law_pair_right, ("_law_pair_right" : Str) ++ ".<locals>." ++ "<lambda>") ∈ Tb.T) (hU : ∀ p ∈ Tb.T, p.1 = A.t_u_law_pair_right → p.2 = ("_law_pair_right" : Str) ++ ".<locals>." ++ "<lambda>") {p : DP} (hP : ∀ rs C k e, p rs C k e → rs.length = 3 ∧ sem_u_law_pair_right K A P_p_times P_p_less P_p_plus P_u_law_plus P_u_law_power P_u_law_times P_p_power P_p_by P_u_law_by PG_u_law_refused (defEnds k) ⟨start3 7 rs, C⟩ (defExc e)) :
    FnG P w K mg base 8 A.f_u_law_pair_right A.d_u_law_pair_right ["_law_one", "_law_other", "_law_number_here"] (spD K 3 p) := by
  refine fnG_def F.f_u_law_pair_right sc_u_law_pair_right (fun cdv Ar outer s H E hcd hr hgd => ?_) hP
  have tk : Takes (cxOf (L2.CX P w) P w K mg base ["_law_one", "_law_other", "_law_number_here", "_law_told", "_law_size", "_law_due", "_law_is_by"] "_law_pair_right" (defScope s_u_law_pair_right) A.f_u_law_pair_right cdv Ar outer s H E) (fun cls d _ H2 => E cls d H2) := takes_of rfl rfl rfl rfl
  have po : PassesOwn (model P w) (cxOf (L2.CX P w) P w K mg base ["_law_one", "_law_other", "_law_number_here", "_law_told", "_law_size", "_law_due", "_law_is_by"] "_law_pair_right" (defScope s_u_law_pair_right) A.f_u_law_pair_right cdv Ar outer s H E).A (cxOf (L2.CX P w) P w K mg base ["_law_one", "_law_other", "_law_number_here", "_law_told", "_law_size", "_law_due", "_law_is_by"] "_law_pair_right" (defScope s_u_law_pair_right) A.f_u_law_pair_right cdv Ar outer s H E).env (cxOf (L2.CX P w) P w K mg base ["_law_one", "_law_other", "_law_number_here", "_law_told", "_law_size", "_law_due", "_law_is_by"] "_law_pair_right" (defScope s_u_law_pair_right) A.f_u_law_pair_right cdv Ar outer s H E).xe := passes_of rfl
  have hcd := Option.some.inj (hcd.symm.trans F.q_u_law_pair_right)
  unfold sem_u_law_pair_right
  exact (ds_cons (ds_own (i := 3) sc_u_law_pair_right.nd rfl (loc_by rfl) (d_lst (da_cons (d_call (kk := 3) G_p_plus (hr.mono (by omega)) hgd rfl F.m_p_plus F.f_p_plus.kp F.b_p_plus tk (da_cons (d_var (i := 0) rfl (vis_by rfl)) (da_cons (d_var (i := 1) rfl (vis_by rfl)) da_nil)) l_p_plus) (da_cons (d_call (kk := 3) G_p_less (hr.mono (by omega)) hgd rfl F.m_p_less F.f_p_less.kp F.b_p_less tk (da_cons (d_var (i := 0) rfl (vis_by rfl)) (da_cons (d_var (i := 1) rfl (vis_by rfl)) da_nil)) l_p_less) (da_cons (d_call (kk := 3) G_p_times (hr.mono (by omega)) hgd rfl F.m_p_times F.f_p_times.kp F.b_p_times tk (da_cons (d_var (i := 0) rfl (vis_by rfl)) (da_cons (d_var (i := 1) rfl (vis_by rfl)) da_nil)) l_p_times) da_nil))))) (ds_cons (ds_set (i := 4) sc_u_law_pair_right.nd rfl (loc_by rfl) (d_callB cAbs rfl F.z_abs bt_abs (da_cons (d_var (i := 2) rfl (vis_by rfl)) da_nil))) (ds_cons (ds_own (i := 5) sc_u_law_pair_right.nd rfl (loc_by rfl) (d_lst (da_cons (d_call (kk := 2) G_u_law_plus (hr.mono (by omega)) hgd rfl F.m_u_law_plus F.f_u_law_plus.kp F.b_u_law_plus tk (da_cons (d_var (i := 0) rfl (vis_by rfl)) (da_cons (d_var (i := 1) rfl (vis_by rfl)) da_nil)) l_u_law_plus) (da_cons (d_call (kk := 2) G_u_law_plus (hr.mono (by omega)) hgd rfl F.m_u_law_plus F.f_u_law_plus.kp F.b_u_law_plus tk (da_cons (d_var (i := 0) rfl (vis_by rfl)) (da_cons (d_tup (da_cons (d_op oSub d_int (d_ixV (i := 1) rfl (vis_by rfl) d_int (fun _ _ => rfl))) (da_cons (d_ixV (i := 1) rfl (vis_by rfl) d_int (fun _ _ => rfl)) da_nil))) da_nil)) l_u_law_plus) da_nil)))) (ds_cons (ds_own (i := 5) sc_u_law_pair_right.nd rfl (loc_by rfl) (d_addL (d_var (i := 5) rfl (vis_by rfl)) (d_fz (d_lst (da_cons (d_call (kk := 2) G_u_law_times (hr.mono (by omega)) hgd rfl F.m_u_law_times F.f_u_law_times.kp F.b_u_law_times tk (da_cons (d_var (i := 0) rfl (vis_by rfl)) (da_cons (d_var (i := 1) rfl (vis_by rfl)) da_nil)) l_u_law_times) (da_cons (d_call (kk := 3) G_u_law_power (hr.mono (by omega)) hgd rfl F.m_u_law_power F.f_u_law_power.kp F.b_u_law_power tk (da_cons (d_var (i := 0) rfl (vis_by rfl)) (da_cons (d_var (i := 4) rfl (vis_by rfl)) da_nil)) l_u_law_power) da_nil)))))) (ds_cons (ds_app (i := 3) rfl rfl (vis_by rfl) (d_call (kk := 5) G_p_power (hr.mono (by omega)) hgd rfl F.m_p_power F.f_p_power.kp F.b_p_power tk (da_cons (d_var (i := 0) rfl (vis_by rfl)) (da_cons (d_var (i := 4) rfl (vis_by rfl)) da_nil)) l_p_power) rfl rfl rfl rfl rfl rfl rfl rfl) (ds_cons (ds_if (d_cmpT (oNe (hu64 hr)) (d_callB (cRepr hgd (hu64 hr)) rfl F.z_repr bt_repr (da_cons (d_var (i := 3) rfl (vis_by rfl)) da_nil)) (d_callB (cRepr hgd (hu64 hr)) rfl F.z_repr bt_repr (da_cons (d_var (i := 5) rfl (vis_by rfl)) da_nil)) (nomark _)) (ds_one (ds_ret d_bl)) ds_nil) (ds_cons (ds_if (d_cmpT (oEq (hu64 hr)) (d_ixV (i := 1) rfl (vis_by rfl) d_int (fun _ _ => rfl)) d_int (nomark _)) (ds_cons (ds_set (i := 6) sc_u_law_pair_right.nd rfl (loc_by rfl) (d_lamcall (fz := [0, 1]) (PG := PG_u_law_refused) (tg := fun T Pt => sem_u_law_refused K A  T Pt) (k := 5) rfl F.m_u_law_refused F.f_u_law_refused F.b_u_law_refused sc_u_law_refused rfl (vis_by rfl) (fun cdv s H1 E T Pt hr2 hg2 hth => body_u_law_refused F  cdv hr2 (by omega) hg2 hth) hPG_u_law_refused TB hcd hT hU (hr.mono (by omega)) hgd tk (LamX.lamS_by rfl) rfl (fun _ _ _ _ _ => rfl) (fun A2 outer2 s2 H2 E2 f2 co2 hr hgd => (d_call (kk := 3) G_p_by (hr.mono (by omega)) hgd rfl F.m_p_by F.f_p_by.kp F.b_p_by takes_lam (da_cons (d_var (i := 0) rfl (vis_by rfl)) (da_cons (d_var (i := 1) rfl (vis_by rfl)) da_nil)) l_p_by)))) (ds_one (ds_ret (d_andV (d_var (i := 6) rfl (vis_by rfl)) (d_one (d_lamcall (fz := [1, 4]) (PG := PG_u_law_refused) (tg := fun T Pt => sem_u_law_refused K A  T Pt) (k := 5) rfl F.m_u_law_refused F.f_u_law_refused F.b_u_law_refused sc_u_law_refused rfl (vis_by rfl) (fun cdv s H1 E T Pt hr2 hg2 hth => body_u_law_refused F  cdv hr2 (by omega) hg2 hth) hPG_u_law_refused TB hcd hT hU (hr.mono (by omega)) hgd tk (LamX.lamS_by rfl) rfl (fun _ _ _ _ _ => rfl) (fun A2 outer2 s2 H2 E2 f2 co2 hr hgd => (d_call (kk := 5) G_p_power (hr.mono (by omega)) hgd rfl F.m_p_power F.f_p_power.kp F.b_p_power takes_lam (da_cons (d_var (i := 1) rfl (vis_by rfl)) (da_cons (d_op oSub (d_op oSub d_int d_int) (d_var (i := 4) rfl (vis_by rfl))) da_nil)) l_p_power)))))))) ds_nil) (ds_cons (ds_own (i := 3) sc_u_law_pair_right.nd rfl (loc_by rfl) (d_lst (da_cons (d_call (kk := 3) G_p_by (hr.mono (by omega)) hgd rfl F.m_p_by F.f_p_by.kp F.b_p_by tk (da_cons (d_var (i := 0) rfl (vis_by rfl)) (da_cons (d_var (i := 1) rfl (vis_by rfl)) da_nil)) l_p_by) (da_cons (d_call (kk := 5) G_p_power (hr.mono (by omega)) hgd rfl F.m_p_power F.f_p_power.kp F.b_p_power tk (da_cons (d_var (i := 1) rfl (vis_by rfl)) (da_cons (d_var (i := 2) rfl (vis_by rfl)) da_nil)) l_p_power) da_nil)))) (ds_one (ds_ret (d_cmp (oEq (hu64 hr)) (d_callB (cRepr hgd (hu64 hr)) rfl F.z_repr bt_repr (da_cons (d_var (i := 3) rfl (vis_by rfl)) da_nil)) (d_callB (cRepr hgd (hu64 hr)) rfl F.z_repr bt_repr (da_cons (d_fz (d_lst (da_cons (d_call (kk := 2) G_u_law_by (hr.mono (by omega)) hgd rfl F.m_u_law_by F.f_u_law_by.kp F.b_u_law_by tk (da_cons (d_var (i := 0) rfl (vis_by rfl)) (da_cons (d_var (i := 1) rfl (vis_by rfl)) da_nil)) l_u_law_by) (da_cons (d_call (kk := 3) G_u_law_power (hr.mono (by omega)) hgd rfl F.m_u_law_power F.f_u_law_power.kp F.b_u_law_power tk (da_cons (d_var (i := 1) rfl (vis_by rfl)) (da_cons (d_var (i := 2) rfl (vis_by rfl)) da_nil)) l_u_law_power) da_nil)))) da_nil)) (nomark _))))))))))))
theorem ok_p_law (F : Fct K mg A) {P_u_law_number : DP} (G_u_law_number : FnG P w K mg base 2 A.f_u_law_number A.d_u_law_number ["_law_cells", "_law_spot"] (spD K 2 P_u_law_number)) (l_u_law_number : ∀ rs C k e, P_u_law_number rs C k e → rs.length = 2) {P_u_law_cell : DP} (G_u_law_cell : FnG P w K mg base 1 A.f_u_law_cell A.d_u_law_cell ["_law_cells", "_law_spot"] (spD K 2 P_u_law_cell)) (l_u_law_cell : ∀ rs C k e, P_u_law_cell rs C k e → rs.length = 2) {P_p_fraction : DP} (G_p_fraction : FnG P w K mg base 2 A.f_p_fraction A.d_p_fraction ["above", "below"] (spD K 2 P_p_fraction)) (l_p_fraction : ∀ rs C k e, P_p_fraction rs C k e → rs.length = 2) {P_u_law_low : DP} (G_u_law_low : FnG P w K mg base 1 A.f_u_law_low A.d_u_law_low ["_law_above", "_law_below"] (spD K 2 P_u_law_low)) (l_u_law_low : ∀ rs C k e, P_u_law_low rs C k e → rs.length = 2) {P_u_law_pair_right : DP} (G_u_law_pair_right : FnG P w K mg base 8 A.f_u_law_pair_right A.d_u_law_pair_right ["_law_one", "_law_other", "_law_number_here"] (spD K 3 P_u_law_pair_right)) (l_u_law_pair_right : ∀ rs C k e, P_u_law_pair_right rs C k e → rs.length = 3) {P_p_is_fraction : DP} (G_p_is_fraction : FnG P w K mg base 2 A.f_p_is_fraction A.d_p_is_fraction ["thing"] (spD K 1 P_p_is_fraction)) (l_p_is_fraction : ∀ rs C k e, P_p_is_fraction rs C k e → rs.length = 1) {P_u_law_is_one : DP} (G_u_law_is_one : FnG P w K mg base 2 A.f_u_law_is_one A.d_u_law_is_one ["_law_thing"] (spD K 1 P_u_law_is_one)) (l_u_law_is_one : ∀ rs C k e, P_u_law_is_one rs C k e → rs.length = 1) {P_u_law_things : DP} (G_u_law_things : FnG P w K mg base 1 A.f_u_law_things A.d_u_law_things ["_law_one", "_law_n"] (spD K 2 P_u_law_things)) (l_u_law_things : ∀ rs C k e, P_u_law_things rs C k e → rs.length = 2) {P_p_power : DP} (G_p_power : FnG P w K mg base 5 A.f_p_power A.d_p_power ["one", "number"] (spD K 2 P_p_power)) (l_p_power : ∀ rs C k e, P_p_power rs C k e → rs.length = 2)  {PG_u_law_refused : TP → List (List PyData) → (SV → List (List PyData) → Prop) → (Xd → List (List PyData) → Prop) → Prop} (hPG_u_law_refused : ∀ Pt C k e T, PG_u_law_refused Pt C k e → sem_u_law_refused K A  T Pt (defEnds k) ⟨start3 4 [T], C⟩ (defExc e)) (TB : LamX.TabB base mg A.k_p_law A.t_p_law) (hT : (A.t_p_law, ("law" : Str) ++ ".<locals>." ++ "<lambda>") ∈ Tb.T) (hU : ∀ p ∈ Tb.T, p.1 = A.t_p_law → p.2 = ("law" : Str) ++ ".<locals>." ++ "<lambda>") {p : DP} (hP : ∀ rs C k e, p rs C k e → rs.length = 1 ∧ sem_p_law K A P_u_law_number P_u_law_cell P_p_fraction P_u_law_low P_u_law_pair_right P_p_is_fraction P_u_law_is_one P_u_law_things P_p_power PG_u_law_refused (defEnds k) ⟨start3 12 rs, C⟩ (defExc e)) :
    FnG P w K mg base 11 A.f_p_law A.d_p_law ["_law_script"] (spD K 1 p) := by
  refine fnG_def F.f_p_law sc_p_law (fun cdv Ar outer s H E hcd hr hgd => ?_) hP
  have tk : Takes (cxOf (L2.CX P w) P w K mg base ["_law_script", "_law_spot", "_law_turn", "_law_a", "_law_b", "_law_c", "_law_d", "_law_n", "_law_one", "_law_other", "_law_thing", "_law_told"] "law" (defScope s_p_law) A.f_p_law cdv Ar outer s H E) (fun cls d _ H2 => E cls d H2) := takes_of rfl rfl rfl rfl
  have po : PassesOwn (model P w) (cxOf (L2.CX P w) P w K mg base ["_law_script", "_law_spot", "_law_turn", "_law_a", "_law_b", "_law_c", "_law_d", "_law_n", "_law_one", "_law_other", "_law_thing", "_law_told"] "law" (defScope s_p_law) A.f_p_law cdv Ar outer s H E).A (cxOf (L2.CX P w) P w K mg base ["_law_script", "_law_spot", "_law_turn", "_law_a", "_law_b", "_law_c", "_law_d", "_law_n", "_law_one", "_law_other", "_law_thing", "_law_told"] "law" (defScope s_p_law) A.f_p_law cdv Ar outer s H E).env (cxOf (L2.CX P w) P w K mg base ["_law_script", "_law_spot", "_law_turn", "_law_a", "_law_b", "_law_c", "_law_d", "_law_n", "_law_one", "_law_other", "_law_thing", "_law_told"] "law" (defScope s_p_law) A.f_p_law cdv Ar outer s H E).xe := passes_of rfl
  have hcd := Option.some.inj (hcd.symm.trans F.q_p_law)
  unfold sem_p_law
  exact (dss_cell (i := 1) sc_p_law.nd rfl (loc_by rfl) (d_lst (da_cons d_int da_nil)) (ds_cons (ds_forR1 po rfl rfl F.z_range (d_op oAdd d_int (d_callB (cMin2 rfl) rfl F.z_min bt_min (da_cons d_int (da_cons (d_callB cLen rfl F.z_len bt_len (da_cons (d_var (i := 0) rfl (vis_by rfl)) da_nil)) da_nil)))) (dg_name (i := 2) sc_p_law.nd rfl (loc_by rfl)) (ds_cons (ds_asg (d_tup (da_cons (d_call (kk := 2) G_u_law_number (hr.mono (by omega)) hgd rfl F.m_u_law_number F.f_u_law_number.kp F.b_u_law_number tk (da_cons (d_var (i := 0) rfl (vis_by rfl)) (da_cons (d_var (i := 1) rfl (vis_by rfl)) da_nil)) l_u_law_number) (da_cons (d_call (kk := 2) G_u_law_number (hr.mono (by omega)) hgd rfl F.m_u_law_number F.f_u_law_number.kp F.b_u_law_number tk (da_cons (d_var (i := 0) rfl (vis_by rfl)) (da_cons (d_var (i := 1) rfl (vis_by rfl)) da_nil)) l_u_law_number) da_nil))) (dg_tup rfl (dgs_cons (dg_name (i := 3) sc_p_law.nd rfl (loc_by rfl)) (dgs_cons (dg_name (i := 4) sc_p_law.nd rfl (loc_by rfl)) dgs_nil)))) (ds_cons (ds_par (i := 5) (j := 6) rfl sc_p_law.nd rfl rfl (by decide) rfl rfl (d_call (kk := 2) G_u_law_number (hr.mono (by omega)) hgd rfl F.m_u_law_number F.f_u_law_number.kp F.b_u_law_number tk (da_cons (d_var (i := 0) rfl (vis_by rfl)) (da_cons (d_var (i := 1) rfl (vis_by rfl)) da_nil)) l_u_law_number) (d_call (kk := 2) G_u_law_number (hr.mono (by omega)) hgd rfl F.m_u_law_number F.f_u_law_number.kp F.b_u_law_number tk (da_cons (d_var (i := 0) rfl (vis_by rfl)) (da_cons (d_var (i := 1) rfl (vis_by rfl)) da_nil)) l_u_law_number) rfl) (ds_cons (ds_set (i := 7) sc_p_law.nd rfl (loc_by rfl) (d_call (kk := 1) G_u_law_cell (hr.mono (by omega)) hgd rfl F.m_u_law_cell F.f_u_law_cell.kp F.b_u_law_cell tk (da_cons (d_var (i := 0) rfl (vis_by rfl)) (da_cons (d_var (i := 1) rfl (vis_by rfl)) da_nil)) l_u_law_cell)) (ds_cons (ds_if (d_not (d_truth (d_lamcall (fz := [3]) (PG := PG_u_law_refused) (tg := fun T Pt => sem_u_law_refused K A  T Pt) (k := 8) rfl F.m_u_law_refused F.f_u_law_refused F.b_u_law_refused sc_u_law_refused rfl (vis_by rfl) (fun cdv s H1 E T Pt hr2 hg2 hth => body_u_law_refused F  cdv hr2 (by omega) hg2 hth) hPG_u_law_refused TB hcd hT hU (hr.mono (by omega)) hgd tk (LamX.lamS_by rfl) rfl (fun _ _ _ _ _ => rfl) (fun A2 outer2 s2 H2 E2 f2 co2 hr hgd => (d_call (kk := 2) G_p_fraction (hr.mono (by omega)) hgd rfl F.m_p_fraction F.f_p_fraction.kp F.b_p_fraction takes_lam (da_cons (d_var (i := 3) rfl (vis_by rfl)) (da_cons d_int da_nil)) l_p_fraction))))) (ds_one (ds_ret d_bl)) ds_nil) (ds_cons (ds_par (i := 4) (j := 6) rfl sc_p_law.nd rfl rfl (by decide) rfl rfl (d_op oAdd (d_var (i := 4) rfl (vis_by rfl)) (d_callTy cInt rfl F.z_int bt_int (da_cons (d_cmp (oEq (hu64 hr)) (d_var (i := 4) rfl (vis_by rfl)) d_int (nomark _)) da_nil))) (d_op oAdd (d_var (i := 6) rfl (vis_by rfl)) (d_callTy cInt rfl F.z_int bt_int (da_cons (d_cmp (oEq (hu64 hr)) (d_var (i := 6) rfl (vis_by rfl)) d_int (nomark _)) da_nil))) rfl) (ds_cons (ds_par (i := 8) (j := 9) rfl sc_p_law.nd rfl rfl (by decide) rfl rfl (d_call (kk := 1) G_u_law_low (hr.mono (by omega)) hgd rfl F.m_u_law_low F.f_u_law_low.kp F.b_u_law_low tk (da_cons (d_var (i := 3) rfl (vis_by rfl)) (da_cons (d_var (i := 4) rfl (vis_by rfl)) da_nil)) l_u_law_low) (d_call (kk := 1) G_u_law_low (hr.mono (by omega)) hgd rfl F.m_u_law_low F.f_u_law_low.kp F.b_u_law_low tk (da_cons (d_var (i := 5) rfl (vis_by rfl)) (da_cons (d_var (i := 6) rfl (vis_by rfl)) da_nil)) l_u_law_low) rfl) (ds_cons (ds_if (d_cmpT (oNe (hu64 hr)) (d_callB (cRepr hgd (hu64 hr)) rfl F.z_repr bt_repr (da_cons (d_fz (d_lst (da_cons (d_call (kk := 2) G_p_fraction (hr.mono (by omega)) hgd rfl F.m_p_fraction F.f_p_fraction.kp F.b_p_fraction tk (da_cons (d_var (i := 3) rfl (vis_by rfl)) (da_cons (d_var (i := 4) rfl (vis_by rfl)) da_nil)) l_p_fraction) (da_cons (d_call (kk := 2) G_p_fraction (hr.mono (by omega)) hgd rfl F.m_p_fraction F.f_p_fraction.kp F.b_p_fraction tk (da_cons (d_var (i := 5) rfl (vis_by rfl)) (da_cons (d_var (i := 6) rfl (vis_by rfl)) da_nil)) l_p_fraction) da_nil)))) da_nil)) (d_callB (cRepr hgd (hu64 hr)) rfl F.z_repr bt_repr (da_cons (d_fz (d_lst (da_cons (d_var (i := 8) rfl (vis_by rfl)) (da_cons (d_var (i := 9) rfl (vis_by rfl)) da_nil)))) da_nil)) (nomark _)) (ds_one (ds_ret d_bl)) ds_nil) (ds_cons (ds_if (d_not (d_truth (d_call (kk := 8) G_u_law_pair_right (hr.mono (by omega)) hgd rfl F.m_u_law_pair_right F.f_u_law_pair_right.kp F.b_u_law_pair_right tk (da_cons (d_var (i := 8) rfl (vis_by rfl)) (da_cons (d_var (i := 9) rfl (vis_by rfl)) (da_cons (d_op oSub (d_op oMod (d_var (i := 7) rfl (vis_by rfl)) d_int) d_int) da_nil))) l_u_law_pair_right))) (ds_one (ds_ret d_bl)) ds_nil) (ds_cons (ds_if (d_not (d_truth (d_call (kk := 8) G_u_law_pair_right (hr.mono (by omega)) hgd rfl F.m_u_law_pair_right F.f_u_law_pair_right.kp F.b_u_law_pair_right tk (da_cons (d_var (i := 9) rfl (vis_by rfl)) (da_cons (d_var (i := 8) rfl (vis_by rfl)) (da_cons (d_op oMod (d_op oDiv (d_var (i := 7) rfl (vis_by rfl)) d_int) d_int) da_nil))) l_u_law_pair_right))) (ds_one (ds_ret d_bl)) ds_nil) (ds_one (ds_for po rfl (d_call (kk := 1) G_u_law_things (hr.mono (by omega)) hgd rfl F.m_u_law_things F.f_u_law_things.kp F.b_u_law_things tk (da_cons (d_var (i := 8) rfl (vis_by rfl)) (da_cons (d_var (i := 7) rfl (vis_by rfl)) da_nil)) l_u_law_things) (dg_name (i := 10) sc_p_law.nd rfl (loc_by rfl)) (ds_one (ds_if (d_cmpT (oNe (hu64 hr)) (d_callB (cRepr hgd (hu64 hr)) rfl F.z_repr bt_repr (da_cons (d_call (kk := 2) G_p_is_fraction (hr.mono (by omega)) hgd rfl F.m_p_is_fraction F.f_p_is_fraction.kp F.b_p_is_fraction tk (da_cons (d_var (i := 10) rfl (vis_by rfl)) da_nil) l_p_is_fraction) da_nil)) (d_callB (cRepr hgd (hu64 hr)) rfl F.z_repr bt_repr (da_cons (d_call (kk := 2) G_u_law_is_one (hr.mono (by omega)) hgd rfl F.m_u_law_is_one F.f_u_law_is_one.kp F.b_u_law_is_one tk (da_cons (d_var (i := 10) rfl (vis_by rfl)) da_nil) l_u_law_is_one) da_nil)) (nomark _)) (ds_one (ds_ret d_bl)) ds_nil)))))))))))))) (ds_cons (ds_own (i := 11) sc_p_law.nd rfl (loc_by rfl) (d_lst (da_cons (d_call (kk := 5) G_p_power (hr.mono (by omega)) hgd rfl F.m_p_power F.f_p_power.kp F.b_p_power tk (da_cons (d_tup (da_cons d_int (da_cons d_int da_nil))) (da_cons d_int da_nil)) l_p_power) (da_cons (d_call (kk := 5) G_p_power (hr.mono (by omega)) hgd rfl F.m_p_power F.f_p_power.kp F.b_p_power tk (da_cons (d_tup (da_cons d_int (da_cons d_int da_nil))) (da_cons d_int da_nil)) l_p_power) (da_cons (d_call (kk := 5) G_p_power (hr.mono (by omega)) hgd rfl F.m_p_power F.f_p_power.kp F.b_p_power tk (da_cons (d_tup (da_cons d_int (da_cons d_int da_nil))) (da_cons d_int da_nil)) l_p_power) (da_cons (d_call (kk := 5) G_p_power (hr.mono (by omega)) hgd rfl F.m_p_power F.f_p_power.kp F.b_p_power tk (da_cons (d_tup (da_cons d_int (da_cons d_int da_nil))) (da_cons (d_neg d_int) da_nil)) l_p_power) da_nil)))))) (ds_one (ds_ret (d_cmp (oEq (hu64 hr)) (d_callB (cRepr hgd (hu64 hr)) rfl F.z_repr bt_repr (da_cons (d_var (i := 11) rfl (vis_by rfl)) da_nil)) (d_callB (cRepr hgd (hu64 hr)) rfl F.z_repr bt_repr (da_cons (d_fz (d_lst (da_cons (d_tup (da_cons d_int (da_cons d_int da_nil))) (da_cons (d_tup (da_cons d_int (da_cons d_int da_nil))) (da_cons (d_tup (da_cons (d_op oPow (d_op oPow d_int d_int) d_int) (da_cons (d_op oPow (d_op oPow d_int d_int) d_int) da_nil))) (da_cons (d_tup (da_cons (d_op oPow (d_op oPow d_int d_int) d_int) (da_cons (d_op oPow (d_op oPow d_int d_int) d_int) da_nil))) da_nil)))))) da_nil)) (nomark _)))))))
end
end GX
namespace GX
open PySem PySem.Spec PyProof.Rows L2 D3
local macro_rules | `(tactic| walk_at "d3") => `(tactic| simp only [dSeq, dNext, dIf, dRet, dRetN, dSet, dOwn, dPar, dAsg, dVar, dC, dBin, dTst, gI, gAdd, gAddI, gSubI, gMulI, gDiv, gMod, gPow, gLt, gLe, gGt, gGe, gEq, gNe, gIs, gIsN, isNone, dTruth, truthD, dAnd, dOr, dNot, dAndV_eq, dOrV_eq, is_int, D3.is_bool, is_str, is_list, is_tuple, is_dict, dNotV, dIfE, dNeg, dNil, dCons, dTup, dLst, dFz, allD, dCall, dDrop, dB, gAbs, gLen, gInt, gMin2, gMax2, gIx, dIxV, dPut, hasG, dRaise, ends_nx, ends_rt, exc_at, start3, List.map_cons, List.map_nil, List.length_cons, List.length_nil, List.replicate, List.cons_append, List.nil_append, List.getElem?_cons_zero, List.getElem?_cons_succ, List.getElem?_nil, List.set_cons_zero, List.set_cons_succ, List.set_nil, Nat.zero_add, Nat.reduceAdd, Nat.reduceSub, true_and, and_true, iteB_true, iteB_false, iteB_iff, eq_self, true_implies, false_implies, implies_true, reduceCtorEq, not_true_eq_false, Bool.true_eq_false, Bool.false_eq_true, Int.reduceEq, Int.reduceLT, Int.reduceLE, Int.reduceAdd, Int.reduceSub, Int.reduceMul, Nat.reduceLT, Int.cast_ofNat_Int, Bool.not_true, Bool.not_false, and_self, false_and, and_false, List.all_cons, List.all_nil, id, sh_int, sh_bool, sh_none, eqv_int, eqv_bool, beq_iff_eq, beq_eq_false_iff_ne, decide_eq_true_eq, decide_eq_false_iff_not, Bool.not_eq_true', Bool.not_eq_false', bne_iff_ne, ne_eq, not_false_eq_true, szl, Nat.reduceLeDiff, ix_10, List.length_map, at_0, at_1, at_2, at_3, at_4, at_5, at_6, at_7, dAddL, dSlL, dSlT, dPart, dNoPart, gStrI, dDct0, dApp, dSetFz, gSet, qInt, qBool, qStr, qLst, qTup, qDct, dLc, dLcR, dComp, dYes, S3.wipe, wipeG, boolsD, intsD, gTup3, gsCons, gsNil, set_nn, Nat.succ_eq_add_one])
theorem absif (a : Int) : (if a < 0 then -a else a) = (a.natAbs : Int) := by split <;> omega
def P_own_common : DP := fun rs C k _ => match rs with
  | [.d (.int a), .d (.int b)] => 0 ≤ a ∧ 0 ≤ b ∧ k (.d (.int (Int.gcd a b))) C
  | _ => False
theorem gcd_step {x y : Int} (hx : 0 ≤ x) (hy : 0 ≤ y) : Int.gcd y (x % y) = Int.gcd x y := by
  obtain ⟨m, rfl⟩ := Int.eq_ofNat_of_zero_le hx
  obtain ⟨n, rfl⟩ := Int.eq_ofNat_of_zero_le hy
  have e : ((m : Int) % (n : Int)) = ((m % n : Nat) : Int) := by omega
  rw [e, Int.gcd_natCast_natCast, Int.gcd_natCast_natCast, Nat.gcd_comm m n, Nat.gcd_rec n m, Nat.gcd_comm]
theorem gcd_end {x : Int} (hx : 0 ≤ x) : ((Int.gcd x 0 : Nat) : Int) = x := by
  rw [Int.gcd_zero_right]
  omega
/-- the loop of Euclid -/
theorem euclid {D : DEnds} {e : ED} {a b : Int} {C : List (List PyData)} {G : Int → Int → List (Option SV)} (tc : DTT) (tb : DTS) (ha : 0 ≤ a) (hb : 0 ≤ b)
    (h1 : ∀ (x y : Int) (k : Bool → S3 → Prop), 0 ≤ x → 0 ≤ y → k (decide (y ≠ 0)) ⟨G x y, C⟩ → tc ⟨G x y, C⟩ k e)
    (h2 : ∀ (x y : Int) (N M : S3 → Prop), 0 ≤ x → 0 < y → N ⟨G y (x.fmod y), C⟩ → tb { D with nx := N, ct := N, bk := M } ⟨G x y, C⟩ e)
    (h3 : D.nx ⟨G (Int.gcd a b) 0, C⟩) : dWhile tc tb D ⟨G a b, C⟩ e := by
  refine while_of (fun m S => ∃ x y : Int, S = ⟨G x y, C⟩ ∧ 0 ≤ x ∧ 0 ≤ y ∧ Int.gcd x y = Int.gcd a b ∧ y.toNat = m) b.toNat ⟨a, b, rfl, ha, hb, rfl, rfl⟩ fun m S N ⟨x, y, e1, hx, hy, hg, hm⟩ hN => ?_
  subst e1
  refine h1 x y _ hx hy ?_
  rw [iteB_iff]
  refine ⟨fun h => ?_, fun h => ?_⟩
  · have h : y ≠ 0 := of_decide_eq_true h
    have hp : 0 < y := by omega
    refine h2 x y _ _ hx hp ?_
    rw [Int.fmod_eq_emod_of_nonneg _ hy]
    have g1 := Int.emod_nonneg x h
    have g2 := Int.emod_lt_of_pos x hp
    exact hN _ (x % y).toNat (by omega) ⟨y, x % y, rfl, hy, g1, (gcd_step hx hy).trans hg, rfl⟩
  · have h : ¬ y ≠ 0 := of_decide_eq_false h
    have h : y = 0 := by omega
    subst h
    have z := gcd_end hx
    rw [hg] at z
    rw [← z]
    exact h3
theorem h_own_common (K : PySem.W.Frag) (A : Adr) : ∀ rs C k e, P_own_common rs C k e → rs.length = 2 ∧ sem_p_own_common K A (defEnds k) ⟨start3 2 rs, C⟩ (defExc e) := by
  intro rs C k e h
  unfold P_own_common at h
  split at h
  · rename_i a b
    obtain ⟨ha, hb, hk⟩ := h
    refine ⟨rfl, ?_⟩
    unfold sem_p_own_common
    refine seq_abs fun v hv => ?_
    refine euclid (G := fun x y => [some (.d (.int x)), some (.d (.int y))]) _ _ ha hb (fun x y k hx hy h => ?_) (fun x y N M hx hy h => ?_) ?_
    · walk_at "d3"
      have e : (!(y == 0)) = decide (y ≠ 0) := by
        by_cases z : y = 0 <;> simp [z]
      rw [e]
      exact h
    · walk_at "d3"
      exact ⟨by omega, h⟩
    · subst hv
      walk_at "d3"
      exact hk
  · exact h.elim
/-- whole numbers among data -/
def isInt : PyData → Bool
  | .int _ => true
  | _ => false
def P_is_whole : DP := fun rs C k _ => match rs with
  | [.d x] => k (.d (.bool (isInt x))) C
  | _ => False
theorem h_is_whole (K : PySem.W.Frag) (A : Adr) : ∀ rs C k e, P_is_whole rs C k e → rs.length = 1 ∧ sem_p_is_whole K A (defEnds k) ⟨start3 1 rs, C⟩ (defExc e) := by
  intro rs C k e h
  unfold P_is_whole at h
  split at h
  · rename_i x
    refine ⟨rfl, ?_⟩
    unfold sem_p_is_whole
    walk_at "d3"
    cases x <;> simp only [qInt, qBool, isInt] at h ⊢ <;> simp [h]
  · exact h.elim
def isFrac : PyData → Bool
  | .tuple [.int a, .int b] => decide (0 < b) && (Int.gcd a b == 1)
  | _ => false
def P_is_fraction : DP := fun rs C k _ => match rs with
  | [.d x] => k (.d (.bool (isFrac x))) C
  | _ => False
theorem gcd_abs {a b : Int} : Int.gcd (a.natAbs : Int) b = Int.gcd a b := by simp [Int.gcd]
theorem gcd_two {a b : Int} : Int.gcd (a.natAbs : Int) (b.natAbs : Int) = Int.gcd a b := by simp [Int.gcd]
theorem h_is_fraction (K : PySem.W.Frag) (A : Adr) : ∀ rs C k e, P_is_fraction rs C k e → rs.length = 1 ∧ sem_p_is_fraction K A P_is_whole P_own_common (defEnds k) ⟨start3 2 rs, C⟩ (defExc e) := by
  intro rs C k e h
  unfold P_is_fraction at h
  split at h
  · rename_i x
    refine ⟨rfl, ?_⟩
    unfold sem_p_is_fraction
    refine seq_abs fun v hv => ?_
    cases x with
    | tuple xs =>
      match xs, h with
      | [], h =>
        walk_at "d3"
        simp [isFrac] at h ⊢
        exact h
      | [a], h =>
        walk_at "d3"
        simp [isFrac] at h ⊢
        exact h
      | [a, b], h =>
        walk_at "d3"
        simp only [P_is_whole, gAll, boolsD]
        try walk_at "d3"
        refine ⟨_, rfl, fun z => ?_, fun z => ?_⟩
        · cases a <;> cases b <;> simp only [isInt, isFrac, List.all_cons, List.all_nil, id] at h z <;> first | exact h | cases z
        · subst hv
          cases a <;> cases b <;> simp only [isInt, List.all_cons, List.all_nil, id] at z <;> first | cases z | skip
          rename_i a b
          simp only [isFrac] at h
          walk_at "d3"
          simp only [P_own_common, absif, gcd_abs]
          try walk_at "d3"
          refine ⟨fun z => ?_, fun z => ?_⟩
          · refine ⟨by omega, by omega, ?_⟩
            have e2 : decide (0 < b) = true := decide_eq_true z
            have e3 : (((Int.gcd a b : Nat) : Int) == 1) = (Int.gcd a b == 1) := by
              by_cases q : Int.gcd a b = 1
              · rw [q]
                rfl
              · have q2 : ¬ ((Int.gcd a b : Nat) : Int) = 1 := by omega
                rw [beq_eq_false_iff_ne.mpr q, beq_eq_false_iff_ne.mpr q2]
            rw [e2, Bool.true_and] at h
            rw [e3]
            exact h
          · have e2 : decide (0 < b) = false := decide_eq_false (by omega)
            rw [e2, Bool.false_and] at h
            exact h
      | a :: b :: c :: r, h =>
        walk_at "d3"
        simp only [isFrac] at h
        exact ⟨fun _ => h, fun z => absurd z (by omega)⟩
    | _ =>
      walk_at "d3"
      simp [isFrac] at h ⊢
      exact h
  · exact h.elim
/-- a fraction in its lowest terms -/
def sgc (a b : Int) : Int := if b < 0 then -(Int.gcd a b : Int) else (Int.gcd a b : Int)
def nfD (a b : Int) : PyData := .tuple [.int (a.fdiv (sgc a b)), .int (b.fdiv (sgc a b))]
theorem sgc_ne {a b : Int} (hb : b ≠ 0) : sgc a b ≠ 0 := by
  have h : (Int.gcd a b : Int) ≠ 0 := by
    intro z
    have z : Int.gcd a b = 0 := by omega
    exact hb (Int.gcd_eq_zero_iff.mp z).2
  unfold sgc
  split <;> omega
theorem sgc_abs {a b : Int} : (sgc a b).natAbs = Int.gcd a b := by
  unfold sgc
  split <;> omega
theorem gcd_le {a b : Int} (hb : b ≠ 0) : Int.gcd a b ≤ b.natAbs := by
  have h : Int.gcd a b ∣ b.natAbs := Int.gcd_dvd_natAbs_right a b
  exact Nat.le_of_dvd (by omega) h
theorem sgc_div {x a b : Int} {m : Nat} (hb : b ≠ 0) (h : b.natAbs < 2 ^ (m + 1)) (hm : m < 9000) : DivOk x (sgc a b) := divOk (a := m) (sgc_ne hb) (by rw [sgc_abs]; exact Nat.lt_of_le_of_lt (gcd_le hb) h) hm
def P_fraction (cBad : Addr) : DP := fun rs C k e => match rs with
  | [.d (.int a), .d (.int b)] => (b = 0 → e ⟨cBad, []⟩ C) ∧ (b ≠ 0 → b.natAbs < 2 ^ 8001 ∧ k (.d (nfD a b)) C)
  | _ => False
theorem h_fraction (K : PySem.W.Frag) (A : Adr) : ∀ rs C k e, P_fraction A.c_BadFraction rs C k e → rs.length = 2 ∧ sem_p_fraction K A P_own_common (defEnds k) ⟨start3 3 rs, C⟩ (defExc e) := by
  intro rs C k e h
  unfold P_fraction at h
  split at h
  · rename_i a b
    refine ⟨rfl, ?_⟩
    obtain ⟨h0, h1⟩ := h
    unfold sem_p_fraction
    refine seq_abs fun v hv => ?_
    walk_at "d3"
    refine ⟨h0, fun hb => ?_⟩
    obtain ⟨hs, hk⟩ := h1 hb
    subst hv
    refine seq_abs fun v hv => ?_
    walk_at "d3"
    simp only [P_own_common, absif, gcd_two]
    refine ⟨by omega, by omega, ?_⟩
    subst hv
    refine seq_abs fun v hv => ?_
    walk_at "d3"
    have e1 : ∀ {p : Int}, p = sgc a b → v (defEnds k) ⟨[some (.d (.int a)), some (.d (.int b)), some (.d (.int p))], C⟩ (defExc e) := fun {p} hp => by
      subst hp hv
      walk_at "d3"
      exact ⟨sgc_div (m := 8000) hb hs (by decide), sgc_div (m := 8000) hb hs (by decide), hk⟩
    refine ⟨fun z => e1 (by unfold sgc; rw [if_pos z]), fun z => e1 (by unfold sgc; rw [if_neg z])⟩
  · exact h.elim
/-- two fractions into one -/
def P_two (cBad : Addr) (f g : Int → Int → Int → Int → Int) : DP := fun rs C k e => match rs with
  | [.d (.tuple [.int a, .int b]), .d (.tuple [.int c, .int d])] => a.natAbs < 2 ^ 2000 ∧ b.natAbs < 2 ^ 2000 ∧ c.natAbs < 2 ^ 2000 ∧ d.natAbs < 2 ^ 2000 ∧ (g a b c d = 0 → e ⟨cBad, []⟩ C) ∧ (g a b c d ≠ 0 → k (.d (nfD (f a b c d) (g a b c d))) C)
  | _ => False
theorem mul2 {a b : Int} (ha : a.natAbs < 2 ^ 2000) (hb : b.natAbs < 2 ^ 2000) : MulOk a b := mulOk (a := 1999) (b := 1999) ha hb (by decide)
theorem mul_lt {a b : Int} (ha : a.natAbs < 2 ^ 2000) (hb : b.natAbs < 2 ^ 2000) : (a * b).natAbs < 2 ^ 8001 := by
  rw [Int.natAbs_mul]
  have h : a.natAbs * b.natAbs < 2 ^ 2000 * 2 ^ 2000 := by
    by_cases z : b.natAbs = 0
    · rw [z, Nat.mul_zero]
      exact Nat.mul_pos (Nat.two_pow_pos _) (Nat.two_pow_pos _)
    · exact Nat.mul_lt_mul_of_lt_of_le ha (Nat.le_of_lt hb) (Nat.two_pow_pos _)
  rw [← Nat.pow_add] at h
  exact Nat.lt_of_lt_of_le h (Nat.pow_le_pow_right (by decide) (by decide))
theorem h_plus (K : PySem.W.Frag) (A : Adr) : ∀ rs C k e, P_two A.c_BadFraction (fun a b c d => a * d + c * b) (fun a b c d => b * d) rs C k e → rs.length = 2 ∧ sem_p_plus K A (P_fraction A.c_BadFraction) (defEnds k) ⟨start3 2 rs, C⟩ (defExc e) := by
  intro rs C k e h
  unfold P_two at h
  split at h
  · rename_i a b c d
    refine ⟨rfl, ?_⟩
    obtain ⟨ha, hb, hc, hd, h0, h1⟩ := h
    unfold sem_p_plus
    walk_at "d3"
    exact ⟨mul2 ha hd, mul2 hc hb, mul2 hb hd, h0, fun z => ⟨mul_lt hb hd, h1 z⟩⟩
  · exact h.elim
theorem h_less (K : PySem.W.Frag) (A : Adr) : ∀ rs C k e, P_two A.c_BadFraction (fun a b c d => a * d - c * b) (fun a b c d => b * d) rs C k e → rs.length = 2 ∧ sem_p_less K A (P_fraction A.c_BadFraction) (defEnds k) ⟨start3 2 rs, C⟩ (defExc e) := by
  intro rs C k e h
  unfold P_two at h
  split at h
  · rename_i a b c d
    refine ⟨rfl, ?_⟩
    obtain ⟨ha, hb, hc, hd, h0, h1⟩ := h
    unfold sem_p_less
    walk_at "d3"
    exact ⟨mul2 ha hd, mul2 hc hb, mul2 hb hd, h0, fun z => ⟨mul_lt hb hd, h1 z⟩⟩
  · exact h.elim
theorem h_times (K : PySem.W.Frag) (A : Adr) : ∀ rs C k e, P_two A.c_BadFraction (fun a b c d => a * c) (fun a b c d => b * d) rs C k e → rs.length = 2 ∧ sem_p_times K A (P_fraction A.c_BadFraction) (defEnds k) ⟨start3 2 rs, C⟩ (defExc e) := by
  intro rs C k e h
  unfold P_two at h
  split at h
  · rename_i a b c d
    refine ⟨rfl, ?_⟩
    obtain ⟨ha, hb, hc, hd, h0, h1⟩ := h
    unfold sem_p_times
    walk_at "d3"
    exact ⟨mul2 ha hc, mul2 hb hd, h0, fun z => ⟨mul_lt hb hd, h1 z⟩⟩
  · exact h.elim
theorem h_by (K : PySem.W.Frag) (A : Adr) : ∀ rs C k e, P_two A.c_BadFraction (fun a b c d => a * d) (fun a b c d => b * c) rs C k e → rs.length = 2 ∧ sem_p_by K A (P_fraction A.c_BadFraction) (defEnds k) ⟨start3 2 rs, C⟩ (defExc e) := by
  intro rs C k e h
  unfold P_two at h
  split at h
  · rename_i a b c d
    refine ⟨rfl, ?_⟩
    obtain ⟨ha, hb, hc, hd, h0, h1⟩ := h
    unfold sem_p_by
    walk_at "d3"
    exact ⟨mul2 ha hd, mul2 hb hc, h0, fun z => ⟨mul_lt hb hc, h1 z⟩⟩
  · exact h.elim
/-- the law's own, below never 0 -/
def P_low : DP := fun rs C k _ => match rs with
  | [.d (.int a), .d (.int b)] => b ≠ 0 ∧ b.natAbs < 2 ^ 8001 ∧ k (.d (nfD a b)) C
  | _ => False
theorem h_low (K : PySem.W.Frag) (A : Adr) : ∀ rs C k e, P_low rs C k e → rs.length = 2 ∧ sem_u_law_low K A (defEnds k) ⟨start3 5 rs, C⟩ (defExc e) := by
  intro rs C k e h
  unfold P_low at h
  split at h
  · rename_i a b
    refine ⟨rfl, ?_⟩
    obtain ⟨hb, hs, hk⟩ := h
    unfold sem_u_law_low
    refine seq_abs fun v hv => ?_
    walk_at "d3"
    simp only [absif]
    subst hv
    refine seq_abs fun v hv => ?_
    refine euclid (G := fun x y => [some (.d (.int a)), some (.d (.int b)), some (.d (.int x)), some (.d (.int y)), none]) _ _ (by omega) (by omega) (fun x y k hx hy h => ?_) (fun x y N M hx hy h => ?_) ?_
    · walk_at "d3"
      have e : (!(y == 0)) = decide (y ≠ 0) := by
        by_cases z : y = 0 <;> simp [z]
      rw [e]
      exact h
    · walk_at "d3"
      exact ⟨by omega, h⟩
    · subst hv
      rw [gcd_two]
      dsimp only
      refine seq_abs fun v hv => ?_
      walk_at "d3"
      have e1 : ∀ {p : Int}, p = sgc a b → v (defEnds k) ⟨[some (.d (.int a)), some (.d (.int b)), some (.d (.int (Int.gcd a b))), some (.d (.int 0)), some (.d (.int p))], C⟩ (defExc e) := fun {p} hp => by
        subst hp hv
        walk_at "d3"
        exact ⟨sgc_div (m := 8000) hb hs (by decide), sgc_div (m := 8000) hb hs (by decide), hk⟩
      refine ⟨fun z => e1 (by unfold sgc; rw [if_neg (by omega)]), fun z => e1 (by unfold sgc; rw [if_pos (by omega), Int.zero_sub])⟩
  · exact h.elim
def P_two' (f g : Int → Int → Int → Int → Int) : DP := fun rs C k _ => match rs with
  | [.d (.tuple [.int a, .int b]), .d (.tuple [.int c, .int d])] => a.natAbs < 2 ^ 2000 ∧ b.natAbs < 2 ^ 2000 ∧ c.natAbs < 2 ^ 2000 ∧ d.natAbs < 2 ^ 2000 ∧ g a b c d ≠ 0 ∧ k (.d (nfD (f a b c d) (g a b c d))) C
  | _ => False
theorem h_lplus (K : PySem.W.Frag) (A : Adr) : ∀ rs C k e, P_two' (fun a b c d => a * d + c * b) (fun a b c d => b * d) rs C k e → rs.length = 2 ∧ sem_u_law_plus K A P_low (defEnds k) ⟨start3 2 rs, C⟩ (defExc e) := by
  intro rs C k e h
  unfold P_two' at h
  split at h
  · rename_i a b c d
    refine ⟨rfl, ?_⟩
    obtain ⟨ha, hb, hc, hd, h0, h1⟩ := h
    unfold sem_u_law_plus
    walk_at "d3"
    exact ⟨mul2 ha hd, mul2 hc hb, mul2 hb hd, h0, mul_lt hb hd, h1⟩
  · exact h.elim
theorem h_ltimes (K : PySem.W.Frag) (A : Adr) : ∀ rs C k e, P_two' (fun a b c d => a * c) (fun a b c d => b * d) rs C k e → rs.length = 2 ∧ sem_u_law_times K A P_low (defEnds k) ⟨start3 2 rs, C⟩ (defExc e) := by
  intro rs C k e h
  unfold P_two' at h
  split at h
  · rename_i a b c d
    refine ⟨rfl, ?_⟩
    obtain ⟨ha, hb, hc, hd, h0, h1⟩ := h
    unfold sem_u_law_times
    walk_at "d3"
    exact ⟨mul2 ha hc, mul2 hb hd, h0, mul_lt hb hd, h1⟩
  · exact h.elim
theorem h_lby (K : PySem.W.Frag) (A : Adr) : ∀ rs C k e, P_two' (fun a b c d => a * d) (fun a b c d => b * c) rs C k e → rs.length = 2 ∧ sem_u_law_by K A P_low (defEnds k) ⟨start3 2 rs, C⟩ (defExc e) := by
  intro rs C k e h
  unfold P_two' at h
  split at h
  · rename_i a b c d
    refine ⟨rfl, ?_⟩
    obtain ⟨ha, hb, hc, hd, h0, h1⟩ := h
    unfold sem_u_law_by
    walk_at "d3"
    exact ⟨mul2 ha hd, mul2 hb hc, h0, mul_lt hb hc, h1⟩
  · exact h.elim
/-- a power's size -/
theorem pow_size {a : Int} {n m s : Nat} (ha : a.natAbs < 2 ^ s) (hn : n ≤ m) : (a ^ n).natAbs < 2 ^ (s * m + 1) := by
  rw [Int.natAbs_pow]
  have h1 : a.natAbs ^ n ≤ (2 ^ s) ^ n := Nat.pow_le_pow_left (Nat.le_of_lt ha) n
  rw [← Nat.pow_mul] at h1
  have h2 : s * n ≤ s * m := Nat.mul_le_mul_left s hn
  exact Nat.lt_of_le_of_lt h1 (Nat.pow_lt_pow_right (by decide) (by omega))
def P_own_often : DP := fun rs C k _ => match rs with
  | [.d (.int a), .d (.int n)] => 0 ≤ n ∧ (∃ s : Nat, a.natAbs < 2 ^ s ∧ s * n.toNat < 400000) ∧ k (.d (.int (a ^ n.toNat))) C
  | _ => False
theorem half_nat {n : Int} (h : 0 < n) : (n.fdiv 2).toNat = n.toNat / 2 ∧ (n.fmod 2).toNat = n.toNat % 2 ∧ 0 ≤ n.fdiv 2 ∧ 0 ≤ n.fmod 2 := by
  rw [Int.fdiv_eq_ediv_of_nonneg _ (by decide), Int.fmod_eq_emod_of_nonneg _ (by decide)]
  omega
theorem h_own_often (K : PySem.W.Frag) (A : Adr) : ∀ rs C k e, P_own_often rs C k e → rs.length = 2 ∧ sem_p_own_often K A (defEnds k) ⟨start3 4 rs, C⟩ (defExc e) := by
  intro rs C k e h
  unfold P_own_often at h
  split at h
  · rename_i a n
    refine ⟨rfl, ?_⟩
    obtain ⟨hn, ⟨s, ha, hs⟩, hk⟩ := h
    unfold sem_p_own_often
    refine seq_abs fun v hv => ?_
    walk_at "d3"
    subst hv
    refine seq_abs fun v hv => ?_
    -- found * step ^ number is the answer; step is a ^ t
    refine while_of (fun m S => ∃ (p f t : Nat), S = ⟨[some (.d (.int a)), some (.d (.int m)), some (.d (.int (a ^ f))), some (.d (.int (a ^ t)))], C⟩ ∧ f + t * m = n.toNat ∧ (m ≠ 0 → t ≤ n.toNat)) n.toNat ⟨0, 0, 1, ?_, by omega, fun h => by omega⟩ fun m S N ⟨p, f, t, e1, hf, ht⟩ hN => ?_
    · have e : ((n.toNat : Nat) : Int) = n := by omega
      rw [e]
      simp [Int.pow_succ]
    · subst e1
      walk_at "d3"
      refine ⟨fun hm => ?_, fun hm => ?_⟩
      · have sz : ∀ {j : Nat}, j ≤ n.toNat → (a ^ j).natAbs < 2 ^ (s * n.toNat + 1) := fun hj => pow_size ha hj
        have ft : f ≤ n.toNat := by omega
        have tt := ht (by omega)
        have d2 : ∀ x : Int, DivOk x 2 := fun x => divOk (a := 1) (by decide) (by decide) (by decide)
        have ef : ((m : Int).fdiv 2) = ((m / 2 : Nat) : Int) := by
          rw [Int.fdiv_eq_ediv_of_nonneg _ (by decide)]
          omega
        have em : ((m : Int).fmod 2) = ((m % 2 : Nat) : Int) := by
          rw [Int.fmod_eq_emod_of_nonneg _ (by decide)]
          omega
        rw [ef, em, ← Int.pow_add, ← Int.pow_add]
        have m1 : MulOk (a ^ f) (a ^ t) := mulOk (a := s * n.toNat) (b := s * n.toNat) (sz ft) (sz tt) (by omega)
        have m2 : MulOk (a ^ t) (a ^ t) := mulOk (a := s * n.toNat) (b := s * n.toNat) (sz tt) (sz tt) (by omega)
        have split_ : t * m = 2 * (t * (m / 2)) + t * (m % 2) := by
          have q : m = 2 * (m / 2) + m % 2 := by omega
          have e2 : t * m = t * (2 * (m / 2) + m % 2) := by rw [← q]
          rw [e2, Nat.mul_add, Nat.mul_left_comm]
        have two : (t + t) * (m / 2) = 2 * (t * (m / 2)) := by rw [Nat.add_mul]; omega
        have ge : m / 2 ≠ 0 → t ≤ t * (m / 2) := fun z => Nat.le_mul_of_pos_right t (by omega)
        refine ⟨fun o => ⟨m1, d2 _, fun z => ⟨m2, hN _ (m / 2) (by omega) ⟨p, f + t, t + t, rfl, ?_, ?_⟩⟩, fun z => hN _ (m / 2) (by omega) ⟨p, f + t, t, rfl, ?_, ?_⟩⟩, fun o => ⟨d2 _, fun z => ⟨m2, hN _ (m / 2) (by omega) ⟨p, f, t + t, rfl, ?_, ?_⟩⟩, fun z => hN _ (m / 2) (by omega) ⟨p, f, t, rfl, ?_, ?_⟩⟩⟩
        · have o2 : m % 2 = 1 := by omega
          rw [two]
          rw [o2, Nat.mul_one] at split_
          omega
        · intro z2
          have := ge z2
          have o2 : m % 2 = 1 := by omega
          rw [o2, Nat.mul_one] at split_
          omega
        · have o2 : m % 2 = 1 := by omega
          have z2 : m / 2 = 0 := by omega
          rw [z2, Nat.mul_zero]
          rw [o2, z2, Nat.mul_one, Nat.mul_zero] at split_
          omega
        · intro _
          exact tt
        · have o2 : m % 2 = 0 := by omega
          rw [two]
          rw [o2, Nat.mul_zero] at split_
          omega
        · intro z2
          have := ge z2
          have o2 : m % 2 = 0 := by omega
          rw [o2, Nat.mul_zero] at split_
          omega
        · exfalso
          omega
        · exfalso
          omega
      · subst hv
        walk_at "d3"
        have e2 : m = 0 := by omega
        subst e2
        have e3 : f = n.toNat := by omega
        rw [e3]
        exact hk
  · exact h.elim
/-- one ^ number, a fraction's -/
def P_power (cBad : Addr) : DP := fun rs C k e => match rs with
  | [.d (.tuple [.int a, .int b]), .d (.int n)] => (∃ s : Nat, a.natAbs < 2 ^ s ∧ b.natAbs < 2 ^ s ∧ s ≤ 2000 ∧ (s + 1) * n.natAbs < 400000) ∧
      (0 ≤ n → k (.d (.tuple [.int (a ^ n.toNat), .int (b ^ n.toNat)])) C) ∧
      (n < 0 → (a = 0 → e ⟨cBad, []⟩ C) ∧ (a ≠ 0 → k (.d (.tuple [.int (b.fdiv (sgc b a) ^ (-n).toNat), .int (a.fdiv (sgc b a) ^ (-n).toNat)])) C))
  | _ => False
/-- .. of a number that is not below 0 -/
def P_power0 (cBad : Addr) : DP := fun rs C k e => (∃ x n, rs = [x, .d (.int n)] ∧ 0 ≤ n) ∧ P_power cBad rs C k e
theorem sgc_dvd {a b : Int} : sgc a b ∣ a ∧ sgc a b ∣ b := by
  unfold sgc
  split
  · exact ⟨Int.neg_dvd.mpr (Int.gcd_dvd_left ..), Int.neg_dvd.mpr (Int.gcd_dvd_right ..)⟩
  · exact ⟨Int.gcd_dvd_left .., Int.gcd_dvd_right ..⟩
theorem fdiv_le {x g : Int} (h : g ≠ 0) (hd : g ∣ x) : (x.fdiv g).natAbs ≤ x.natAbs := by
  obtain ⟨q, rfl⟩ := hd
  rw [Int.mul_fdiv_cancel_left _ h, Int.natAbs_mul]
  exact Nat.le_mul_of_pos_left _ (by omega)
theorem h_power0 (K : PySem.W.Frag) (A : Adr) {P1 P2 : DP} : ∀ rs C k e, P_power0 A.c_BadFraction rs C k e → rs.length = 2 ∧ sem_p_power K A P1 P2 P_own_often (defEnds k) ⟨start3 2 rs, C⟩ (defExc e) := by
  rintro rs C k e ⟨⟨x, n, rfl, hn⟩, h⟩
  unfold P_power at h
  split at h
  · rename_i a b n' ee
    cases ee
    refine ⟨rfl, ?_⟩
    obtain ⟨⟨s, ha, hb, hs, hq⟩, h0, _⟩ := h
    unfold sem_p_power
    walk_at "d3"
    refine ⟨fun z => by omega, fun _ => ?_⟩
    have sn : s * n.toNat < 400000 := by
      have e1 : (s + 1) * n.natAbs = s * n.natAbs + n.natAbs := by rw [Nat.add_mul, Nat.one_mul]
      have e2 : n.natAbs = n.toNat := by omega
      rw [e1, e2] at hq
      omega
    simp only [P_own_often]
    refine ⟨hn, ⟨s, ha, sn⟩, hn, ⟨s, hb, sn⟩, ?_⟩
    walk_at "d3"
    exact h0 hn
  · exact h.elim
theorem h_power (K : PySem.W.Frag) (A : Adr) : ∀ rs C k e, P_power A.c_BadFraction rs C k e → rs.length = 2 ∧ sem_p_power K A (P_power0 A.c_BadFraction) (P_two A.c_BadFraction (fun a b c d => a * d) (fun a b c d => b * c)) P_own_often (defEnds k) ⟨start3 2 rs, C⟩ (defExc e) := by
  intro rs C k e h
  unfold P_power at h
  split at h
  · rename_i a b n
    refine ⟨rfl, ?_⟩
    obtain ⟨⟨s, ha, hb, hs, hq⟩, h0, h1⟩ := h
    unfold sem_p_power
    walk_at "d3"
    have big : ∀ {x : Int}, x.natAbs < 2 ^ s → x.natAbs < 2 ^ 2000 := fun h => Nat.lt_of_lt_of_le h (Nat.pow_le_pow_right (by decide) hs)
    refine ⟨fun z => ?_, fun z => ?_⟩
    · obtain ⟨h2, h3⟩ := h1 z
      simp only [P_two, Int.one_mul]
      refine ⟨?_, ?_, ?_, ?_, ?_, ?_⟩
      all_goals first | exact Nat.one_lt_two_pow (by decide) | exact big ha | exact big hb | skip
      · exact h2
      · intro ha0
        have g0 := sgc_ne (a := b) ha0
        have sm : ∀ {x : Int}, x.natAbs < 2 ^ s → sgc b a ∣ x → (x.fdiv (sgc b a)).natAbs < 2 ^ s := fun hx hd => Nat.lt_of_le_of_lt (fdiv_le g0 hd) hx
        unfold nfD P_power0 P_power
        refine ⟨⟨_, _, rfl, by omega⟩, ⟨s, sm hb sgc_dvd.1, sm ha sgc_dvd.2, hs, by rw [Int.natAbs_neg]; exact hq⟩, fun _ => h3 ha0, fun z => by omega⟩
    · have hn : 0 ≤ n := by omega
      have sn : s * n.toNat < 400000 := by
        have e1 : (s + 1) * n.natAbs = s * n.natAbs + n.natAbs := by rw [Nat.add_mul, Nat.one_mul]
        have e2 : n.natAbs = n.toNat := by omega
        rw [e1, e2] at hq
        omega
      simp only [P_own_often]
      refine ⟨hn, ⟨s, ha, sn⟩, hn, ⟨s, hb, sn⟩, ?_⟩
      walk_at "d3"
      exact h0 hn
  · exact h.elim
/-- the law's next number -/
def P_cell : DP := fun rs C k _ => match rs, C with
  | [.d (.list xs), .cell 0], [[.int j]] => (∃ ns : List Int, xs = ns.map .int ∧ ns.length ≤ 63) ∧ 0 ≤ j ∧ j < 1000000 ∧ ∀ n : Int, 0 ≤ n → n < 306783379 → k (.d (.int n)) [[.int (j + 1)]]
  | _, _ => False
theorem fm_of {x y : Int} (h : 0 < y) : 0 ≤ x.fmod y ∧ x.fmod y < y := by
  rw [Int.fmod_eq_emod_of_nonneg _ (by omega)]
  exact ⟨Int.emod_nonneg _ (by omega), Int.emod_lt_of_pos _ h⟩
theorem fd_of {x y : Int} (hx : 0 ≤ x) (h : 0 < y) : 0 ≤ x.fdiv y ∧ x.fdiv y ≤ x := by
  rw [Int.fdiv_eq_ediv_of_nonneg _ (by omega)]
  refine ⟨Int.ediv_nonneg hx (by omega), Int.ediv_le_self _ hx⟩
theorem h_cell (K : PySem.W.Frag) (A : Adr) : ∀ rs C k e, P_cell rs C k e → rs.length = 2 ∧ sem_u_law_cell K A (defEnds k) ⟨start3 6 rs, C⟩ (defExc e) := by
  intro rs C k e h
  unfold P_cell at h
  split at h
  · rename_i xs j
    obtain ⟨⟨ns, rfl, hl⟩, h0, h1, hk⟩ := h
    refine ⟨rfl, ?_⟩
    unfold sem_u_law_cell
    refine seq_abs fun v hv => ?_
    walk_at "d3"
    subst hv
    refine seq_abs fun v hv => ?_
    walk_at "d3"
    subst hv
    refine seq_abs fun v hv => ?_
    walk_at "d3"
    have j1 : (j + 1).natAbs < 2 ^ 21 := by omega
    have m1 : D3.MulOk 31 (j + 1) := mulOk (a := 5) (b := 20) (by decide) j1 (by decide)
    have m2 : D3.MulOk (31 * (j + 1)) (j + 1) := mulOk (a := 24) (b := 20) (by omega) j1 (by decide)
    have m3 : D3.MulOk 7919 (j + 1) := mulOk (a := 13) (b := 20) (by decide) j1 (by decide)
    refine ⟨m1, m2, m3, ?_⟩
    generalize 31 * (j + 1) * (j + 1) + 7919 * (j + 1) = base
    subst hv
    refine seq_abs fun v hv => ?_
    -- the way without a great cell
    have usual : ∀ g4 g5 : Option SV, v (defEnds k) ⟨[some (.d (.list (ns.map .int))), some (.cell 0), some (.d (.int (j + 1))), some (.d (.int base)), g4, g5], [[.int (j + 1)]]⟩ (defExc e) := fun g4 g5 => by
      subst hv
      refine seq_abs fun v hv => ?_
      walk_at "d3"
      have last : ∀ b : Int, v (defEnds k) ⟨[some (.d (.list (ns.map .int))), some (.cell 0), some (.d (.int (j + 1))), some (.d (.int b)), g4, g5], [[.int (j + 1)]]⟩ (defExc e) := fun b => by
        subst hv
        walk_at "d3"
        obtain ⟨b0, b1⟩ := fm_of (x := b) (y := 2147483647) (by decide)
        generalize b.fmod 2147483647 = c at b0 b1
        obtain ⟨c0, c1⟩ := fm_of (x := c ^ Int.toNat 5) (y := 2147483647) (by decide)
        generalize (c ^ Int.toNat 5).fmod 2147483647 = d at c0 c1
        refine ⟨powOk (a := 31) (by decide) (by omega) (by decide), divOk (a := 3) (by decide) (by decide) (by decide), hk _ ?_ ?_⟩
        · exact (fd_of c0 (by decide)).1
        · rw [Int.fdiv_eq_ediv_of_nonneg _ (by decide)]
          omega
      refine ⟨fun z => ⟨by omega, ?_⟩, fun _ => last base⟩
      obtain ⟨q0, q1⟩ := fm_of (x := j + 1) (y := (ns.length : Int)) z
      refine at_map q0 q1 fun c hc => ?_
      walk_at "d3"
      obtain ⟨r0, r1⟩ := fm_of (x := c) (y := 2147483629) (by decide)
      obtain ⟨s0, s1⟩ := fd_of (x := j + 1) (y := (ns.length : Int)) (by omega) z
      generalize c.fmod 2147483629 = r at r0 r1 ⊢
      generalize (j + 1).fdiv (ns.length : Int) = s at s0 s1 ⊢
      refine ⟨divOk (a := 6) (by omega) (by omega) (by decide), mulOk (a := 31) (b := 20) (by omega) (by omega) (by decide), last _⟩
    walk_at "d3"
    have all : ∀ P : Prop, (0 < (ns.length : Int) → P) → (¬ 0 < (ns.length : Int) → v (defEnds k) ⟨[some (.d (.list (ns.map .int))), some (.cell 0), some (.d (.int (j + 1))), some (.d (.int base)), none, none], [[.int (j + 1)]]⟩ (defExc e)) →
      (0 < (ns.length : Int) → P) ∧ (¬ 0 < (ns.length : Int) → v (defEnds k) ⟨[some (.d (.list (ns.map .int))), some (.cell 0), some (.d (.int (j + 1))), some (.d (.int base)), none, none], [[.int (j + 1)]]⟩ (defExc e)) := fun P a b => ⟨a, b⟩
    refine all _ (fun z => ⟨by omega, ?_⟩) fun _ => usual _ _
    obtain ⟨q0, q1⟩ := fm_of (x := j + 1) (y := (ns.length : Int)) z
    refine at_map q0 q1 fun c hc => ⟨powOk (a := 3) (by decide) (by decide) (by decide), ?_⟩
    dsimp only
    refine ⟨fun _ => ⟨divOk (a := 6) (by omega) (by omega) (by decide), fun few => ⟨by omega, at_map q0 q1 fun c hc => ?_⟩, fun _ => usual _ _⟩, fun _ => usual _ _⟩
    obtain ⟨s0, s1⟩ := fd_of (x := j + 1) (y := (ns.length : Int)) (by omega) z
    simp only [dForR1, dBin, gI, dVar, dB, gLen, dCons, dNil, List.getElem?_cons_zero, List.getElem?_cons_succ, List.length_map]
    refine ⟨divOk (a := 6) (by omega) (by omega) (by decide), ⟨by omega, by omega⟩, ?_⟩
    refine loop_all (fun xs S => (∀ x ∈ xs, ∃ i : Int, x = .int i) ∧ ∃ (o : Int) (g5 : Option SV), S = ⟨[some (.d (.list (ns.map .int))), some (.cell 0), some (.d (.int (j + 1))), some (.d (.int base)), some (.d (.int o)), g5], [[.int (j + 1)]]⟩) ?_ ?_ _ _ ?_
    · rintro S ⟨_, o, g5, rfl⟩
      dsimp only [List.getElem?_cons_zero, List.getElem?_cons_succ]
      refine ⟨fun _ => ⟨by decide, ?_⟩, fun _ => usual _ _⟩
      obtain ⟨c0, c1⟩ := fm_of (x := o) (y := 306783379) (by decide)
      exact hk _ c0 c1
    · rintro x xs S N ⟨hx, o, g5, rfl⟩ hN
      walk_at "d3"
      exact ⟨divOk (a := 28) (by decide) (by decide) (by decide), hN _ ⟨fun y hy => hx y (List.mem_cons_of_mem _ hy), _, _, rfl⟩⟩
    · letI : Tb := ⟨[]⟩
      refine ⟨fun x hx => ?_, _, _, rfl⟩
      obtain ⟨i, hi, e1⟩ := List.getElem_of_mem hx
      rw [rangeD_len] at hi
      have z1 := rangeD_get _ 0 i hi
      rw [List.getElem?_eq_getElem (by rw [rangeD_len]; exact hi), e1] at z1
      exact ⟨_, Option.some.inj z1⟩
  · exact h.elim
def P_number : DP := fun rs C k _ => match rs, C with
  | [.d (.list xs), .cell 0], [[.int j]] => (∃ ns : List Int, xs = ns.map .int ∧ ns.length ≤ 63) ∧ 0 ≤ j ∧ j < 900000 ∧ ∀ n : Int, n.natAbs < 2 ^ 175 → k (.d (.int n)) [[.int (j + 2)]]
  | _, _ => False
theorem mul_lt2 {a b : Int} {s t : Nat} (ha : a.natAbs < 2 ^ s) (hb : b.natAbs < 2 ^ t) : (a * b).natAbs < 2 ^ (s + t) := by
  rw [Int.natAbs_mul, Nat.pow_add]
  by_cases z : b.natAbs = 0
  · rw [z, Nat.mul_zero]
    exact Nat.mul_pos (Nat.two_pow_pos _) (Nat.two_pow_pos _)
  · exact Nat.mul_lt_mul_of_lt_of_le ha (Nat.le_of_lt hb) (Nat.two_pow_pos _)
theorem up {a : Int} {s t : Nat} (h : a.natAbs < 2 ^ s) (l : s ≤ t) : a.natAbs < 2 ^ t := Nat.lt_of_lt_of_le h (Nat.pow_le_pow_right (by decide) l)
theorem h_number (K : PySem.W.Frag) (A : Adr) : ∀ rs C k e, P_number rs C k e → rs.length = 2 ∧ sem_u_law_number K A P_cell (defEnds k) ⟨start3 5 rs, C⟩ (defExc e) := by
  intro rs C k e h
  unfold P_number at h
  split at h
  · rename_i xs j
    obtain ⟨⟨ns, rfl, hl⟩, h0, h1, hk⟩ := h
    refine ⟨rfl, ?_⟩
    unfold sem_u_law_number
    refine seq_abs fun v hv => ?_
    walk_at "d3"
    simp only [P_cell]
    refine ⟨⟨ns, rfl, hl⟩, h0, by omega, fun n n0 n1 => ?_⟩
    subst hv
    refine seq_abs fun v hv => ?_
    walk_at "d3"
    obtain ⟨f0, f1⟩ := fm_of (x := n.fdiv 7) (y := 2) (by decide)
    have d7 : ∀ x : Int, DivOk x 7 := fun x => divOk (a := 3) (by decide) (by decide) (by decide)
    generalize (n.fdiv 7).fmod 2 = f at f0 f1
    refine ⟨d7 _, mulOk (a := 2) (b := 2) (by omega) (by decide) (by decide), ?_⟩
    subst hv
    refine seq_abs fun v hv => ?_
    walk_at "d3"
    simp only [P_cell]
    refine ⟨⟨ns, rfl, hl⟩, by omega, by omega, fun m m0 m1 => ?_⟩
    try walk_at "d3"
    refine ⟨mulOk (a := 28) (b := 28) (by omega) (by omega) (by decide), ?_⟩
    have g0 : (n * m + 1).natAbs < 2 ^ 58 := by
      have q : n * m ≤ 306783379 * 306783379 := Int.mul_le_mul (by omega) (by omega) m0 (by omega)
      have q0 : 0 ≤ n * m := Int.mul_nonneg n0 m0
      omega
    generalize n * m + 1 = g at g0
    subst hv
    walk_at "d3"
    refine ⟨powOk (a := 57) (by decide) g0 (by decide), ?_⟩
    obtain ⟨r0, r1⟩ := fm_of (x := n) (y := 7) (by decide)
    obtain ⟨s0, s1⟩ := fm_of (x := n) (y := 10) (by decide)
    obtain ⟨t0, t1⟩ := fm_of (x := n) (y := 1000) (by decide)
    have g3 : (g ^ Int.toNat 3).natAbs < 2 ^ 174 := by
      have e1 : g ^ Int.toNat 3 = g * g * g := by
        show g ^ 3 = g * g * g
        rw [Int.pow_succ, Int.pow_succ, Int.pow_succ, Int.pow_zero, Int.one_mul]
      rw [e1]
      exact mul_lt2 (s := 116) (t := 58) (mul_lt2 (s := 58) (t := 58) g0 g0) g0
    generalize g ^ Int.toNat 3 = g3v at g3
    have fin : ∀ x : Int, x.natAbs < 2 ^ 174 → D3.MulOk x (1 - f * 2) ∧ k (.d (.int (x * (1 - f * 2)))) [[.int (j + 1 + 1)]] := fun x hx => by
      have ff : (1 - f * 2).natAbs < 2 ^ 1 := by omega
      refine ⟨mulOk (a := 173) (b := 0) hx ff (by decide), ?_⟩
      rw [show j + 1 + 1 = j + 2 by omega]
      exact hk _ (mul_lt2 (s := 174) (t := 1) hx ff)
    have w : ∀ {x : Int}, x.natAbs < 2 ^ 58 → x.natAbs < 2 ^ 174 := fun h => up h (by decide)
    generalize n.fmod 7 = r at r0 r1
    have c : r = 0 ∨ r = 1 ∨ r = 2 ∨ r = 3 ∨ r = 4 ∨ r = 5 ∨ r = 6 := by omega
    rcases c with rfl | rfl | rfl | rfl | rfl | rfl | rfl <;> simp only [at_0, at_1, at_2, at_3, at_4, at_5, at_6]
    · exact fin _ (w (by omega))
    · exact fin _ (w (by omega))
    · exact fin _ (w (by omega))
    · exact fin _ (w g0)
    · exact fin _ g3
    · exact fin _ (by decide)
    · exact fin _ (by decide)
  · exact h.elim
/-- lowest terms -/
theorem nf_low {x y : Int} (h : Int.gcd x y = 1) (hy : 0 < y) : nfD x y = .tuple [.int x, .int y] := by
  have e : sgc x y = 1 := by
    unfold sgc
    rw [if_neg (by omega), h]
    rfl
  unfold nfD
  rw [e, Int.fdiv_one, Int.fdiv_one]
theorem pow_pos_ {b : Int} (hb : 0 < b) (n : Nat) : 0 < b ^ n := Int.pow_pos hb
theorem gcd_pow {a b : Int} (h : Int.gcd a b = 1) (n : Nat) : Int.gcd (a ^ n) (b ^ n) = 1 := by
  unfold Int.gcd at h ⊢
  rw [Int.natAbs_pow, Int.natAbs_pow]
  exact Nat.Coprime.pow n n h
theorem pow_lt {a : Int} {s n m : Nat} (ha : a.natAbs < 2 ^ s) (h : s * n + 1 ≤ m) : (a ^ n).natAbs < 2 ^ m := by
  have z := pow_size (m := n) ha (Nat.le_refl n)
  exact Nat.lt_of_lt_of_le z (Nat.pow_le_pow_right (by decide) h)
def P_lpower : DP := fun rs C k _ => match rs with
  | [.d (.tuple [.int a, .int b]), .d (.int n)] => Int.gcd a b = 1 ∧ 0 < b ∧ (∃ s : Nat, a.natAbs < 2 ^ s ∧ b.natAbs < 2 ^ s ∧ s ≤ 2000 ∧ s * n.natAbs + 1 ≤ 2000 ∧ n.natAbs < 1000) ∧ (n < 0 → a ≠ 0) ∧
      (0 ≤ n → k (.d (.tuple [.int (a ^ n.natAbs), .int (b ^ n.natAbs)])) C) ∧ (n < 0 → k (.d (nfD (b ^ n.natAbs) (a ^ n.natAbs))) C)
  | _ => False
theorem h_lpower (K : PySem.W.Frag) (A : Adr) : ∀ rs C k e, P_lpower rs C k e → rs.length = 2 ∧ sem_u_law_power K A (P_two' (fun a b c d => a * c) (fun a b c d => b * d)) (P_two' (fun a b c d => a * d) (fun a b c d => b * c)) (defEnds k) ⟨start3 4 rs, C⟩ (defExc e) := by
  intro rs C k e h
  unfold P_lpower at h
  split at h
  · rename_i a b n
    refine ⟨rfl, ?_⟩
    obtain ⟨hg, hb, ⟨s, ha, hbs, hs, hsn, hn⟩, hna, h0, h1⟩ := h
    unfold sem_u_law_power
    letI : Tb := ⟨[]⟩
    refine seq_abs fun v hv => ?_
    walk_at "d3"
    subst hv
    refine seq_abs fun v hv => ?_
    simp only [dForR1, dB, gAbs, dCons, dNil, dVar, List.getElem?_cons_zero, List.getElem?_cons_succ, absif]
    refine ⟨⟨by omega, by omega⟩, ?_⟩
    have small : ∀ i : Nat, i ≤ n.natAbs → s * i + 1 ≤ 2000 := fun i hi => by
      have := Nat.mul_le_mul_left s hi
      omega
    have key : ∀ (xs : List PyData) (i : Nat) (g3 : Option SV), xs.length + i = n.natAbs → (∀ x ∈ xs, ∃ i : Int, x = .int i) → dLoop (gSet 3) (dSet 2 (dCall (P_two' (fun a b c d => a * c) fun a b c d => b * d) (dCons (dVar 2) (dCons (dVar 0) dNil))))
        { nx := fun S1 => v (defEnds k) S1 (defExc e), rt := (defEnds k).rt, bk := (defEnds k).bk, ct := (defEnds k).ct } (defExc e) xs ⟨[some (.d (.tuple [.int a, .int b])), some (.d (.int n)), some (.d (.tuple [.int (a ^ i), .int (b ^ i)])), g3], C⟩ := by
      intro xs
      induction xs with
      | nil =>
        intro i g3 hi _
        have e1 : i = n.natAbs := by simpa using hi
        subst e1
        rw [dLoop_nil]
        subst hv
        walk_at "d3"
        refine ⟨fun z => ?_, fun z => h0 (by omega)⟩
        simp only [P_two', Int.one_mul]
        refine ⟨by decide, by decide, pow_lt ha (small _ (Nat.le_refl _)), pow_lt hbs (small _ (Nat.le_refl _)), ?_, h1 z⟩
        exact Int.pow_ne_zero (hna z)
      | cons x xs ih =>
        intro i g3 hi hx
        obtain ⟨z, rfl⟩ := hx x (List.mem_cons_self ..)
        rw [dLoop_cons]
        walk_at "d3"
        simp only [P_two']
        have hi2 : i ≤ n.natAbs := by
          simp only [List.length_cons] at hi
          omega
        have bp := pow_pos_ hb i
        have bp1 := pow_pos_ hb (i + 1)
        have q : nfD (a ^ i * a) (b ^ i * b) = .tuple [.int (a ^ (i + 1)), .int (b ^ (i + 1))] := by
          rw [← Int.pow_succ, ← Int.pow_succ]
          exact nf_low (gcd_pow hg _) bp1
        refine ⟨pow_lt ha (small _ hi2), pow_lt hbs (small _ hi2), up ha hs, up hbs hs, ?_, ?_⟩
        · exact Int.ne_of_gt (Int.mul_pos bp hb)
        · rw [q]
          exact ih (i + 1) _ (by simp only [List.length_cons] at hi; omega) fun y hy => hx y (List.mem_cons_of_mem _ hy)
    have z := key (rangeD 0 n.natAbs) 0 none (by rw [rangeD_len]; omega) fun x hx => by
      obtain ⟨i, hi, e1⟩ := List.getElem_of_mem hx
      rw [rangeD_len] at hi
      have z1 := rangeD_get _ 0 i hi
      rw [List.getElem?_eq_getElem (by rw [rangeD_len]; exact hi), e1] at z1
      exact ⟨_, Option.some.inj z1⟩
    simpa using z
  · exact h.elim
/-- the deed is refused as the law wants it -/
def PG_refused (cBad : Addr) : TP → List (List PyData) → (SV → List (List PyData) → Prop) → (Xd → List (List PyData) → Prop) → Prop := fun Pt C k _ => ∀ (K1 : SV → List (List PyData) → Prop) (E1 : Xd → List (List PyData) → Prop), (∀ C1, k (.d (.bool true)) C1 → E1 ⟨cBad, []⟩ C1) → Pt C K1 E1
theorem h_refused {K : PySem.W.Frag} {mg : Str → Option Value} {A : Adr} (F : Fct K mg A) : ∀ Pt C k e T, PG_refused A.c_BadFraction Pt C k e → sem_u_law_refused K A T Pt (defEnds k) ⟨start3 4 [T], C⟩ (defExc e) := by
  intro Pt C k e T h
  unfold sem_u_law_refused
  refine seq_abs fun v hv => ?_
  walk_at "d3"
  subst hv
  refine seq_abs fun v hv => ?_
  simp only [dTryLaw, dDrop, dThk, List.getElem?_cons_zero, true_and]
  refine h _ _ fun C2 hk => ?_
  refine ⟨F.e_BadFraction_HollowError_DeedError_BookError, ?_⟩
  walk_at "d3"
  subst hv
  walk_at "d3"
  simp only [gIsiX]
  refine ⟨F.ec_BadFraction, _, F.i_BadFraction_BadFraction, F.ec_BadFraction, _, F.i_BadFraction_ValueError, ?_⟩
  walk_at "d3"
  refine ⟨by decide, by decide, fun _ => ⟨F.ec_BadFraction, _, F.i_BadFraction_BadRule, hk⟩, fun z => ?_⟩
  exact absurd z (by decide)
/-- the law's own test of a fraction in lowest terms -/
theorem nf_eq {a b : Int} (hb : 0 < b) : PyData.eqv (nfD a b) (.tuple [.int a, .int b]) = (Int.gcd a b == 1) := by
  by_cases h : Int.gcd a b = 1
  · rw [nf_low h hb]
    simp only [eqv_tuple, eqv_cons, eqv_int, eqv_nil, beq_self_eq_true, h]
    rfl
  · have e : sgc a b = (Int.gcd a b : Int) := by
      unfold sgc
      rw [if_neg (by omega)]
    have g0 : Int.gcd a b ≠ 0 := fun z => by
      have := (Int.gcd_eq_zero_iff.mp z).2
      omega
    have hne : b.fdiv (Int.gcd a b : Int) ≠ b := fun z => by
      obtain ⟨q, hq⟩ := Int.gcd_dvd_right (a := a) (b := b)
      have z3 : ∀ g : Int, g ≠ 0 → b = g * q → b.fdiv g = q := fun g hg e => by
        rw [e]
        exact Int.mul_fdiv_cancel_left _ hg
      have z2 := z3 (Int.gcd a b : Int) (by omega) hq
      rw [z2] at z
      rw [z] at hq
      have q1 : (Int.gcd a b : Int) * b = 1 * b := by rw [Int.one_mul]; exact hq.symm
      have q2 := Int.eq_of_mul_eq_mul_right (by omega) q1
      exact h (by omega)
    unfold nfD
    rw [e]
    simp only [eqv_tuple, eqv_cons, eqv_int, eqv_nil, Bool.and_true]
    rw [beq_eq_false_iff_ne.mpr hne, Bool.and_false, beq_eq_false_iff_ne.mpr h]
def bOk : PyData → Prop
  | .tuple [.int _, .int b] => b.natAbs < 2 ^ 8001
  | _ => True
def P_is_one : DP := fun rs C k _ => match rs with
  | [.d x] => bOk x ∧ k (.d (.bool (isFrac x))) C
  | _ => False
theorem h_is_one (K : PySem.W.Frag) (A : Adr) : ∀ rs C k e, P_is_one rs C k e → rs.length = 1 ∧ sem_u_law_is_one K A P_low (defEnds k) ⟨start3 2 rs, C⟩ (defExc e) := by
  intro rs C k e h
  unfold P_is_one at h
  split at h
  · rename_i x
    refine ⟨rfl, ?_⟩
    obtain ⟨hs, h⟩ := h
    unfold sem_u_law_is_one
    refine seq_abs fun v hv => ?_
    cases x with
    | tuple xs =>
      match xs, h with
      | [], h =>
        walk_at "d3"
        simp only [isFrac] at h
        exact h
      | [a], h =>
        walk_at "d3"
        simp only [isFrac] at h
        exact h
      | [a, b], h =>
        walk_at "d3"
        subst hv
        refine seq_abs fun v hv => ?_
        have no : ∀ {q : Bool}, isFrac (.tuple [a, b]) = q → k (.d (.bool q)) C := fun e => e ▸ h
        by_cases ia : isInt a = true
        · by_cases ib : isInt b = true
          · cases a <;> cases b <;> simp only [isInt, Bool.false_eq_true] at ia ib
            rename_i a b
            simp only [dFor, dVar, List.getElem?_cons_zero]
            letI : Tb := ⟨[]⟩
            rw [dLoop_cons]
            walk_at "d3"
            rw [dLoop_cons]
            walk_at "d3"
            rw [dLoop_nil]
            subst hv
            walk_at "d3"
            simp only [isFrac] at no
            refine ⟨fun hb => ?_, fun hb => no (by rw [decide_eq_false hb, Bool.false_and])⟩
            simp only [P_low]
            refine ⟨by omega, hs, ?_⟩
            refine ⟨by simp [nfD, SeqAt.shaped, PyData.canLay0, PyData.canLayAll0, PyData.depth, PyData.depthAll], by simp [SeqAt.shaped, PyData.canLay0, PyData.canLayAll0, PyData.depth, PyData.depthAll], no ?_⟩
            rw [nf_eq hb, decide_eq_true hb, Bool.true_and]
          · simp only [dFor, dVar, List.getElem?_cons_zero]
            letI : Tb := ⟨[]⟩
            rw [dLoop_cons]
            cases a <;> simp only [isInt, Bool.false_eq_true] at ia
            walk_at "d3"
            rw [dLoop_cons]
            walk_at "d3"
            cases b <;> simp only [isInt, Bool.false_eq_true, not_true_eq_false] at ib <;> walk_at "d3" <;> exact no (by simp only [isFrac])
        · simp only [dFor, dVar, List.getElem?_cons_zero]
          letI : Tb := ⟨[]⟩
          rw [dLoop_cons]
          walk_at "d3"
          cases a <;> simp only [isInt, Bool.false_eq_true, not_true_eq_false] at ia <;> walk_at "d3" <;> exact no (by simp only [isFrac])
      | a :: b :: c :: r, h =>
        walk_at "d3"
        simp only [isFrac] at h
        exact ⟨fun _ => h, fun z => absurd z (by omega)⟩
    | _ =>
      walk_at "d3"
      simp only [isFrac] at h
      exact h
  · exact h.elim
theorem mem_pick {xs : List PyData} {lo hi st : Option Int} {d : PyData} (h : d ∈ pickL xs lo hi st) : d ∈ xs := by
  unfold pickL at h
  obtain ⟨i, _, e⟩ := List.mem_filterMap.mp h
  exact List.mem_of_getElem? e
def P_things : DP := fun rs C k _ => match rs with
  | [.d (.tuple [.int a, .int b]), .d (.int _)] => a.natAbs < 2 ^ 1000 ∧ b.natAbs < 2 ^ 1000 ∧ ∀ ds : List PyData, (∀ d ∈ ds, bOk d) → ds.length ≤ 100 → k (.d (.list ds)) C
  | _ => False
theorem h_things (K : PySem.W.Frag) (A : Adr) : ∀ rs C k e, P_things rs C k e → rs.length = 2 ∧ sem_u_law_things K A (defEnds k) ⟨start3 5 rs, C⟩ (defExc e) := by
  intro rs C k e h
  unfold P_things at h
  split at h
  · rename_i a b n
    refine ⟨rfl, ?_⟩
    obtain ⟨ha, hb, hk⟩ := h
    letI : Tb := ⟨[]⟩
    unfold sem_u_law_things
    have la : a.natAbs.log2 < 1920 := by have := log2_le_of (a := 999) ha; omega
    have lb : b.natAbs.log2 < 1920 := by have := log2_le_of (a := 999) hb; omega
    have two : ∀ x : Int, x.natAbs < 2 ^ 1000 → D3.MulOk 2 x := fun x hx => mulOk (a := 1) (b := 999) (by decide) hx (by decide)
    refine seq_abs fun v hv => ?_
    walk_at "d3"
    subst hv
    refine seq_abs fun v hv => ?_
    walk_at "d3"
    refine ⟨two a ha, two b hb, ?_⟩
    subst hv
    refine seq_abs fun v hv => ?_
    walk_at "d3"
    subst hv
    refine seq_abs fun v hv => ?_
    walk_at "d3"
    subst hv
    refine seq_abs fun v hv => ?_
    walk_at "d3"
    refine ⟨la, lb, ?_⟩
    subst hv
    refine seq_abs fun v hv => ?_
    walk_at "d3"
    subst hv
    refine seq_abs fun v hv => ?_
    walk_at "d3"
    subst hv
    walk_at "d3"
    have f0 : ∀ {x : Int}, x.natAbs < 2 ^ 1002 → x.natAbs < 2 ^ 8001 := fun h => up h (by decide)
    have f1 : a.natAbs < 2 ^ 1002 := up ha (by decide)
    have f2 : b.natAbs < 2 ^ 1002 := up hb (by decide)
    have p2 : 2 ^ 1002 = 4 * 2 ^ 1000 := by rw [show 1002 = 2 + 1000 from rfl, Nat.pow_add]
    have p1 : 0 < 2 ^ 1000 := Nat.two_pow_pos _
    have f3 : (b + 1).natAbs < 2 ^ 1002 := by rw [p2]; omega
    have f4 : (2 * b).natAbs < 2 ^ 1002 := by rw [p2]; omega
    have f5 : (0 - b).natAbs < 2 ^ 1002 := by rw [p2]; omega
    have f6 : (0 : Int).natAbs < 2 ^ 1002 := up (s := 2) (by decide) (by decide)
    have f7 : (1 : Int).natAbs < 2 ^ 1002 := up (s := 2) (by decide) (by decide)
    have f8 : (2 : Int).natAbs < 2 ^ 1002 := up (s := 2) (by decide) (by decide)
    generalize hL : (PyData.tuple [.int a, .int b] :: _) = L
    have len : L.length = 24 := by rw [← hL]; rfl
    have hall : ∀ d ∈ L, bOk d := by
      rw [← hL]
      simp only [List.forall_mem_cons, bOk, List.not_mem_nil, false_implies, implies_true, and_true, true_and]
      exact ⟨f0 f2, f0 f3, f0 f2, f0 f4, f0 f5, f0 f6, f0 f7, f0 f8, f0 f6⟩
    have l1 := pickL_le L (some (n.fmod 5)) none (some 5)
    have l2 := pickL_le L none (some 3) none
    refine ⟨by decide, by omega, hk _ (fun d hd => ?_) (by rw [List.length_append]; omega)⟩
    rcases List.mem_append.mp hd with z | z
    · exact hall d (mem_pick z)
    · exact hall d (mem_pick z)
  · exact h.elim
/-- what the law's own fractions are -/
def good (a b : Int) : Prop := Int.gcd a b = 1 ∧ 0 < b ∧ a.natAbs < 2 ^ 176 ∧ b.natAbs < 2 ^ 176
def P_pair : DP := fun rs C k _ => match rs with
  | [.d (.tuple [.int a, .int b]), .d (.tuple [.int c, .int d]), .d (.int n)] => good a b ∧ good c d ∧ n.natAbs ≤ 6 ∧ k (.d (.bool true)) C
  | _ => False
theorem log_lt {x : Int} {s : Nat} (h : x.natAbs < 2 ^ s) (hs : s ≤ 1920) : x.natAbs.log2 < 1920 := by
  rcases log2_of h with z | z
  · omega
  · rw [z]
    decide
theorem nf_ok {x y : Int} {s : Nat} (hy : y ≠ 0) (hx : x.natAbs < 2 ^ s) (hy2 : y.natAbs < 2 ^ s) (hs : s ≤ 1920) : rOk (nfD x y) := by
  have g := sgc_ne (a := x) hy
  have h1 := Nat.lt_of_le_of_lt (fdiv_le g sgc_dvd.1) hx
  have h2 := Nat.lt_of_le_of_lt (fdiv_le g sgc_dvd.2) hy2
  simp only [nfD, rOk, rOkAll, and_true]
  exact ⟨log_lt h1 hs, log_lt h2 hs⟩
theorem add_lt2 {a b : Int} {s : Nat} (ha : a.natAbs < 2 ^ s) (hb : b.natAbs < 2 ^ s) : (a + b).natAbs < 2 ^ (s + 1) := by
  rw [Nat.pow_succ]
  omega
theorem sub_lt2 {a b : Int} {s : Nat} (ha : a.natAbs < 2 ^ s) (hb : b.natAbs < 2 ^ s) : (a - b).natAbs < 2 ^ (s + 1) := by
  rw [Nat.pow_succ]
  omega
/-- a power below 0, by both roads -/
theorem neg_pow {c d : Int} {m : Nat} (hg : Int.gcd c d = 1) (hd : 0 < d) (hc : c ≠ 0) : PyData.tuple [.int (d.fdiv (sgc d c) ^ m), .int (c.fdiv (sgc d c) ^ m)] = nfD (d ^ m) (c ^ m) := by
  have g2 : Int.gcd d c = 1 := by rw [Int.gcd_comm]; exact hg
  have g3 : Int.gcd (d ^ m) (c ^ m) = 1 := gcd_pow g2 m
  have neg1 : ∀ x : Int, x.fdiv (-1) = -x := fun x => by
    have h : x = (-1) * (-x) := by omega
    conv => lhs; rw [h]
    exact Int.mul_fdiv_cancel_left _ (by decide)
  by_cases hn : c < 0
  · have e1 : sgc d c = -1 := by unfold sgc; rw [if_pos hn, g2]; rfl
    rw [e1, neg1, neg1]
    have pc : c ^ m = (-1) ^ m * (-c) ^ m := by rw [← Int.mul_pow]; congr 1; omega
    have pp : 0 < (-c) ^ m := Int.pow_pos (by omega)
    have sg : (-1 : Int) ^ m = 1 ∨ (-1 : Int) ^ m = -1 := by
      induction m with
      | zero => exact .inl rfl
      | succ m ih =>
        have g3' : Int.gcd (d ^ m) (c ^ m) = 1 := gcd_pow g2 m
        rw [Int.pow_succ]
        rcases ih g3' (by rw [← Int.mul_pow]; congr 1; omega) (Int.pow_pos (by omega)) with z | z <;> rw [z] <;> decide
    have nd : (-d) ^ m = (-1) ^ m * d ^ m := by rw [← Int.mul_pow]; congr 1; omega
    rcases sg with z | z
    · rw [z, Int.one_mul] at pc nd
      have e2 : sgc (d ^ m) (c ^ m) = 1 := by unfold sgc; rw [if_neg (by omega), g3]; rfl
      unfold nfD
      rw [e2, Int.fdiv_one, Int.fdiv_one, nd, pc]
    · rw [z] at pc nd
      have e2 : sgc (d ^ m) (c ^ m) = -1 := by unfold sgc; rw [if_pos (by omega), g3]; rfl
      unfold nfD
      rw [e2, neg1, neg1, nd]
      congr 2
      · congr 1
        omega
      · congr 2
        omega
  · have e1 : sgc d c = 1 := by unfold sgc; rw [if_neg hn, g2]; rfl
    have pp : 0 < c ^ m := Int.pow_pos (by omega)
    have e2 : sgc (d ^ m) (c ^ m) = 1 := by unfold sgc; rw [if_neg (by omega), g3]; rfl
    unfold nfD
    rw [e1, e2, Int.fdiv_one, Int.fdiv_one, Int.fdiv_one, Int.fdiv_one]
theorem h_pair (K : PySem.W.Frag) (A : Adr) : ∀ rs C k e, P_pair rs C k e → rs.length = 3 ∧ sem_u_law_pair_right K A (P_two A.c_BadFraction (fun a b c d => a * c) (fun a b c d => b * d)) (P_two A.c_BadFraction (fun a b c d => a * d - c * b) (fun a b c d => b * d)) (P_two A.c_BadFraction (fun a b c d => a * d + c * b) (fun a b c d => b * d))
    (P_two' (fun a b c d => a * d + c * b) (fun a b c d => b * d)) P_lpower (P_two' (fun a b c d => a * c) (fun a b c d => b * d)) (P_power A.c_BadFraction) (P_two A.c_BadFraction (fun a b c d => a * d) (fun a b c d => b * c)) (P_two' (fun a b c d => a * d) (fun a b c d => b * c)) (PG_refused A.c_BadFraction) (defEnds k) ⟨start3 7 rs, C⟩ (defExc e) := by
  intro rs C k e h
  unfold P_pair at h
  split at h
  · rename_i a b c d n
    refine ⟨rfl, ?_⟩
    obtain ⟨⟨gab, hb, sa, sb⟩, ⟨gcd_, hd, sc, sd⟩, hn, hk⟩ := h
    letI : Tb := ⟨[]⟩
    have bd : b * d ≠ 0 := Int.ne_of_gt (Int.mul_pos hb hd)
    have w : ∀ {x : Int}, x.natAbs < 2 ^ 176 → x.natAbs < 2 ^ 2000 := fun h => up h (by decide)
    have sc' : (0 - c).natAbs < 2 ^ 176 := by omega
    have n6 : 176 * n.natAbs + 1 ≤ 2000 := by omega
    have hr1 : rOk (nfD (a * d + c * b) (b * d)) := nf_ok (s := 353) bd (add_lt2 (mul_lt2 (s := 176) (t := 176) sa sd) (mul_lt2 (s := 176) (t := 176) sc sb)) (up (mul_lt2 (s := 176) (t := 176) sb sd) (by decide)) (by decide)
    have hr2 : rOk (nfD (a * d - c * b) (b * d)) := nf_ok (s := 353) bd (sub_lt2 (mul_lt2 (s := 176) (t := 176) sa sd) (mul_lt2 (s := 176) (t := 176) sc sb)) (up (mul_lt2 (s := 176) (t := 176) sb sd) (by decide)) (by decide)
    have hr3 : rOk (nfD (a * c) (b * d)) := nf_ok (s := 353) bd (up (mul_lt2 (s := 176) (t := 176) sa sc) (by decide)) (up (mul_lt2 (s := 176) (t := 176) sb sd) (by decide)) (by decide)
    have pw : ∀ {x : Int}, x.natAbs < 2 ^ 176 → (x ^ n.natAbs).natAbs < 2 ^ 1057 := fun hx => pow_lt (s := 176) hx (by omega)
    have hr4 : rOk (.tuple [.int (a ^ n.natAbs), .int (b ^ n.natAbs)]) := by
      simp only [rOk, rOkAll, and_true]
      exact ⟨log_lt (pw sa) (by decide), log_lt (pw sb) (by decide)⟩
    have eless : a * d + (0 - c) * b = a * d - c * b := by rw [Int.sub_mul, Int.zero_mul]; omega
    unfold sem_u_law_pair_right
    refine seq_abs fun v hv => ?_
    walk_at "d3"
    simp only [P_two]
    refine ⟨w sa, w sb, w sc, w sd, fun z => absurd z bd, fun _ => ⟨w sa, w sb, w sc, w sd, fun z => absurd z bd, fun _ => ⟨w sa, w sb, w sc, w sd, fun z => absurd z bd, fun _ => ?_⟩⟩⟩
    try walk_at "d3"
    subst hv
    refine seq_abs fun v hv => ?_
    walk_at "d3"
    rw [absif]
    subst hv
    refine seq_abs fun v hv => ?_
    walk_at "d3"
    simp only [P_two']
    refine ⟨w sa, w sb, w sc, w sd, bd, w sa, w sb, w sc', w sd, bd, ?_⟩
    try walk_at "d3"
    rw [eless]
    subst hv
    refine seq_abs fun v hv => ?_
    walk_at "d3"
    simp only [P_two', P_lpower, Int.natAbs_natCast]
    refine ⟨w sa, w sb, w sc, w sd, bd, gab, hb, ⟨176, sa, sb, by decide, n6, by omega⟩, fun z => by omega, fun _ => ?_, fun z => by omega⟩
    try walk_at "d3"
    subst hv
    refine seq_abs fun v hv => ?_
    walk_at "d3"
    refine ⟨⟨_, rfl⟩, ?_⟩
    simp only [P_power, Int.natAbs_natCast, Int.toNat_natCast]
    refine ⟨⟨176, sa, sb, by decide, by omega⟩, fun _ => ?_, fun z => by omega⟩
    try walk_at "d3"
    subst hv
    refine seq_abs fun v hv => ?_
    walk_at "d3"
    have two : rOk (.list [nfD (a * d + c * b) (b * d), nfD (a * d - c * b) (b * d), nfD (a * c) (b * d), .tuple [.int (a ^ n.natAbs), .int (b ^ n.natAbs)]]) := ⟨hr1, hr2, hr3, hr4, trivial⟩
    have s2 : szR (.list [nfD (a * d + c * b) (b * d), nfD (a * d - c * b) (b * d), nfD (a * c) (b * d), .tuple [.int (a ^ n.natAbs), .int (b ^ n.natAbs)]]) ≤ 16777216 := by simp [szR, szRAll, nfD]
    refine repr_of two s2 (by simp [nfD, PyData.depth, PyData.depthAll]) (repr_of two s2 (by simp [nfD, PyData.depth, PyData.depthAll]) ?_)
    walk_at "d3"
    subst hv
    refine seq_abs fun v hv => ?_
    walk_at "d3"
    refine ⟨fun c0 => ?_, fun c0 => ?_⟩
    · subst c0
      simp only [dLamCall, PG_refused, thP, frzG, frz1, hideOwn, List.getElem?_cons_zero, List.getElem?_cons_succ, List.map_cons, List.map_nil]
      intro K1 E1 hE
      walk_at "d3"
      simp only [P_two]
      refine ⟨w sa, w sb, w (by decide), w sd, fun _ => hE C ?_, fun z => absurd (Int.mul_zero b) z⟩
      walk_at "d3"
      intro K1 E1 hE
      simp only [P_power]
      refine ⟨⟨176, by decide, sd, by decide, by omega⟩, fun z => by omega, fun _ => ⟨fun _ => hE C ?_, fun z => absurd rfl z⟩⟩
      exact hk
    · subst hv
      refine seq_abs fun v hv => ?_
      walk_at "d3"
      simp only [P_two, P_power]
      have bc : b * c ≠ 0 := Int.mul_ne_zero (by omega) c0
      refine ⟨w sa, w sb, w sc, w sd, fun z => absurd z bc, fun _ => ⟨⟨176, sc, sd, by decide, by omega⟩, ?_⟩⟩
      have hq1 : rOk (nfD (a * d) (b * c)) := nf_ok (s := 353) bc (up (mul_lt2 (s := 176) (t := 176) sa sd) (by decide)) (up (mul_lt2 (s := 176) (t := 176) sb sc) (by decide)) (by decide)
      have both : ∀ y : PyData, rOk y → szR y ≤ 10000 → y.depth ≤ 10 → (∀ C k e, k (.d y) C → P_lpower [.d (.tuple [.int c, .int d]), .d (.int n)] C k e) → v (defEnds k) ⟨[some (.d (.tuple [.int a, .int b])), some (.d (.tuple [.int c, .int d])), some (.d (.int n)), some (.own [nfD (a * d) (b * c), y]), some (.d (.int n.natAbs)), some (.d (.list [nfD (a * d + c * b) (b * d), nfD (a * d - c * b) (b * d), nfD (a * c) (b * d), .tuple [.int (a ^ n.natAbs), .int (b ^ n.natAbs)]])), none], C⟩ (defExc e) := by
        intro y ry sy dy hp
        have r2 : rOk (.list [nfD (a * d) (b * c), y]) := ⟨hq1, ry, trivial⟩
        have z2 : szR (.list [nfD (a * d) (b * c), y]) ≤ 16777216 := by simp only [szR, szRAll, nfD]; omega
        have d2 : (PyData.list [nfD (a * d) (b * c), y]).depth ≤ 60 := by simp only [PyData.depth, PyData.depthAll, nfD]; omega
        subst hv
        walk_at "d3"
        refine repr_of r2 z2 d2 ?_
        simp only [P_two']
        refine ⟨w sa, w sb, w sc, w sd, bc, hp _ _ _ ?_⟩
        walk_at "d3"
        refine repr_of r2 z2 d2 ?_
        walk_at "d3"
        simpa using hk
      refine ⟨fun z => ?_, fun z => ⟨fun z => absurd z c0, fun _ => ?_⟩⟩
      · walk_at "d3"
        have e1 : n.toNat = n.natAbs := by omega
        rw [e1]
        refine both _ ?_ (by simp only [szR, szRAll]; omega) (by simp [PyData.depth, PyData.depthAll]) fun C k e h => ?_
        · simp only [rOk, rOkAll, and_true]
          exact ⟨log_lt (pw sc) (by decide), log_lt (pw sd) (by decide)⟩
        · simp only [P_lpower]
          exact ⟨gcd_, hd, ⟨176, sc, sd, by decide, n6, by omega⟩, fun z => by omega, fun _ => h, fun z => by omega⟩
      · have e1 : (-n).toNat = n.natAbs := by omega
        rw [e1, neg_pow gcd_ hd c0]
        walk_at "d3"
        have cn : c ^ n.natAbs ≠ 0 := Int.pow_ne_zero c0
        refine both _ (nf_ok (s := 1057) cn (pw sd) (pw sc) (by decide)) (by simp only [nfD, szR, szRAll]; omega) (by simp [nfD, PyData.depth, PyData.depthAll]) fun C k e h => ?_
        simp only [P_lpower]
        exact ⟨gcd_, hd, ⟨176, sc, sd, by decide, n6, by omega⟩, fun _ => c0, fun z => by omega, fun _ => h⟩
  · exact h.elim
theorem nf_good {a b : Int} (hb : b ≠ 0) (sa : a.natAbs < 2 ^ 176) (sb : b.natAbs < 2 ^ 176) : good (a.fdiv (sgc a b)) (b.fdiv (sgc a b)) := by
  have g0 := sgc_ne (a := a) hb
  refine ⟨?_, ?_, Nat.lt_of_le_of_lt (fdiv_le g0 sgc_dvd.1) sa, Nat.lt_of_le_of_lt (fdiv_le g0 sgc_dvd.2) sb⟩
  · obtain ⟨p, hp⟩ := (sgc_dvd (a := a) (b := b)).1
    obtain ⟨q, hq⟩ := (sgc_dvd (a := a) (b := b)).2
    have f : ∀ x y g : Int, g ≠ 0 → x = g * y → x.fdiv g = y := fun x y g hg e => by
      rw [e]
      exact Int.mul_fdiv_cancel_left _ hg
    rw [f a p _ g0 hp, f b q _ g0 hq]
    have e1 : Int.gcd a b = (sgc a b).natAbs * Int.gcd p q := by
      have z : Int.gcd (sgc a b * p) (sgc a b * q) = (sgc a b).natAbs * Int.gcd p q := Int.gcd_mul_left ..
      rw [← hp, ← hq] at z
      exact z
    rw [sgc_abs] at e1
    have pos : 0 < Int.gcd a b := by
      have := sgc_abs (a := a) (b := b)
      omega
    have e2 : Int.gcd a b * 1 = Int.gcd a b * Int.gcd p q := by omega
    exact (Nat.eq_of_mul_eq_mul_left pos e2).symm
  · obtain ⟨q, hq⟩ := (sgc_dvd (a := a) (b := b)).2
    have f : b.fdiv (sgc a b) = q := by
      have f2 : ∀ x y g : Int, g ≠ 0 → x = g * y → x.fdiv g = y := fun x y g hg e => by
        rw [e]
        exact Int.mul_fdiv_cancel_left _ hg
      exact f2 b q _ g0 hq
    rw [f]
    by_cases hn : b < 0
    · have e : sgc a b = -(Int.gcd a b : Int) := by unfold sgc; rw [if_pos hn]
      rw [e] at hq
      by_cases z : 0 < q
      · exact z
      · have : 0 ≤ -(Int.gcd a b : Int) * q := Int.mul_nonneg_of_nonpos_of_nonpos (by omega) (by omega)
        omega
    · have e : sgc a b = (Int.gcd a b : Int) := by unfold sgc; rw [if_neg hn]
      rw [e] at hq
      by_cases z : 0 < q
      · exact z
      · have : (Int.gcd a b : Int) * q ≤ 0 := Int.mul_nonpos_of_nonneg_of_nonpos (by omega) (by omega)
        omega
theorem pw_pos {cBad : Addr} {a b n : Int} {C : List (List PyData)} {k : SV → List (List PyData) → Prop} {e : Xd → List (List PyData) → Prop} (s : Nat) (ha : a.natAbs < 2 ^ s) (hb : b.natAbs < 2 ^ s) (hs : s ≤ 2000) (hn : (s + 1) * n.natAbs < 400000) (h0 : 0 ≤ n)
    (hk : k (.d (.tuple [.int (a ^ n.toNat), .int (b ^ n.toNat)])) C) : P_power cBad [.d (.tuple [.int a, .int b]), .d (.int n)] C k e := ⟨⟨s, ha, hb, hs, hn⟩, fun _ => hk, fun z => by omega⟩
theorem pw_neg {cBad : Addr} {a b n : Int} {C : List (List PyData)} {k : SV → List (List PyData) → Prop} {e : Xd → List (List PyData) → Prop} (s : Nat) (ha : a.natAbs < 2 ^ s) (hb : b.natAbs < 2 ^ s) (hs : s ≤ 2000) (hn : (s + 1) * n.natAbs < 400000) (h0 : n < 0) (a0 : a ≠ 0)
    (hk : k (.d (.tuple [.int (b.fdiv (sgc b a) ^ (-n).toNat), .int (a.fdiv (sgc b a) ^ (-n).toNat)])) C) : P_power cBad [.d (.tuple [.int a, .int b]), .d (.int n)] C k e := ⟨⟨s, ha, hb, hs, hn⟩, fun z => by omega, fun _ => ⟨fun z => absurd z a0, fun _ => hk⟩⟩
theorem h_law (K : PySem.W.Frag) (A : Adr) : ∀ rs C k e, lawP rs C k e → rs.length = 1 ∧ sem_p_law K A P_number P_cell (P_fraction A.c_BadFraction) P_low P_pair P_is_fraction P_is_one P_things (P_power A.c_BadFraction) (PG_refused A.c_BadFraction) (defEnds k) ⟨start3 12 rs, C⟩ (defExc e) := by
  rintro rs C k e ⟨⟨ns, hl, hbits, rfl⟩, rfl, hk⟩
  refine ⟨rfl, ?_⟩
  letI : Tb := ⟨[]⟩
  unfold sem_p_law
  simp only [dCell, dLst, dCons, dC, dNil, allD, noThk, start3, List.map_cons, List.map_nil, List.length_cons, List.length_nil, List.replicate, List.cons_append, List.nil_append, List.set_cons_zero, List.set_cons_succ, Nat.zero_add, Nat.reduceAdd, Nat.reduceSub, szl, Nat.reduceLeDiff, true_and]
  generalize hD : (DEnds.mk _ _ _ _) = D
  have hrt : ∀ S2, D.rt (.d (.bool true)) S2 := by
    rw [← hD]
    exact fun S2 => ⟨⟨_, rfl⟩, hk _⟩
  generalize (fun (x : Xd) (S : S3) => False) = er
  refine seq_abs fun v hv => ?_
  simp only [dForR1, dBin, gAdd, dC, dB, gMin2, dCons, dNil, gLen, dVar, List.getElem?_cons_zero, List.length_map]
  have few : (if (ns.length : Int) < 9 then (ns.length : Int) else 9) ≤ 9 ∧ 0 ≤ (if (ns.length : Int) < 9 then (ns.length : Int) else 9) := by split <;> omega
  generalize (if (ns.length : Int) < 9 then (ns.length : Int) else 9) = m at few
  refine ⟨⟨by omega, by omega⟩, ?_⟩
  refine loop_all (fun xs S => (∀ x ∈ xs, ∃ i : Int, x = .int i) ∧ ∃ (j : Int) (g2 g3 g4 g5 g6 g7 g8 g9 g10 g11 : Option SV), 0 ≤ j ∧ j + 9 * xs.length ≤ 200 ∧
    S = ⟨[some (.d (.list (ns.map .int))), some (.cell 0), g2, g3, g4, g5, g6, g7, g8, g9, g10, g11], [[.int j]]⟩) ?_ ?_ _ _ ?_
  · rintro S ⟨_, j, g2, g3, g4, g5, g6, g7, g8, g9, g10, g11, _, _, rfl⟩
    subst hv
    dsimp only
    refine seq_abs fun v hv => ?_
    walk_at "d3"
    refine pw_pos 2 (by decide) (by decide) (by decide) (by decide) (by decide) ?_
    refine pw_pos 2 (by decide) (by decide) (by decide) (by decide) (by decide) ?_
    refine pw_pos 2 (by decide) (by decide) (by decide) (by decide) (by decide) ?_
    refine pw_neg 2 (by decide) (by decide) (by decide) (by decide) (by decide) (by decide) ?_
    walk_at "d3"
    subst hv
    have q1 : sgc 3 2 = 1 := by decide +kernel
    have q2 : (- -200 : Int).toNat = 200 := by decide
    have q3 : Int.toNat 200 = 200 := by decide
    have q4 : (0 : Int) ^ Int.toNat 0 = 1 := by decide
    have q5 : (1 : Int) ^ Int.toNat 0 = 1 := by decide
    have q6 : (0 : Int) ^ Int.toNat 3 = 0 := by decide
    have q7 : (1 : Int) ^ Int.toNat 3 = 1 := by decide
    have q8 : ∀ x : Int, (x ^ Int.toNat 50) ^ Int.toNat 4 = x ^ 200 := fun x => by
      rw [show Int.toNat 50 = 50 from rfl, show Int.toNat 4 = 4 from rfl, ← Int.pow_mul]
    rw [q1, q2, q3, q4, q5, q6, q7, Int.fdiv_one, Int.fdiv_one]
    have r2 : ((2 : Int) ^ 200).natAbs.log2 < 1920 := by decide +kernel
    have r3 : ((3 : Int) ^ 200).natAbs.log2 < 1920 := by decide +kernel
    generalize hx : (2 : Int) ^ 200 = x2 at r2
    generalize hy : (3 : Int) ^ 200 = x3 at r3
    have ok : rOk (.list [.tuple [.int 1, .int 1], .tuple [.int 0, .int 1], .tuple [.int x2, .int x3], .tuple [.int x3, .int x2]]) := by
      simp only [rOk, rOkAll, and_true, r2, r3]
      decide
    have sz : szR (.list [.tuple [.int 1, .int 1], .tuple [.int 0, .int 1], .tuple [.int x2, .int x3], .tuple [.int x3, .int x2]]) ≤ 16777216 := by simp [szR, szRAll]
    have dp : (PyData.list [.tuple [.int 1, .int 1], .tuple [.int 0, .int 1], .tuple [.int x2, .int x3], .tuple [.int x3, .int x2]]).depth ≤ 60 := by simp [PyData.depth, PyData.depthAll]
    walk_at "d3"
    refine repr_of ok sz dp ?_
    rw [q8, q8, hx, hy]
    have o1 : PowOk 2 50 := powOk (a := 1) (by decide) (by decide) (by decide)
    have o2 : PowOk 3 50 := powOk (a := 1) (by decide) (by decide) (by decide)
    have o3 : PowOk (2 ^ Int.toNat 50) 4 := powOk (a := 60) (by decide) (by decide +kernel) (by decide)
    have o4 : PowOk (3 ^ Int.toNat 50) 4 := powOk (a := 90) (by decide) (by decide +kernel) (by decide)
    refine ⟨o1, o3, o2, o4, o2, o4, o1, o3, repr_of ok sz dp ?_⟩
    walk_at "d3"
    simpa using hrt _
  · rintro x xs S N ⟨hx, j, g2, g3, g4, g5, g6, g7, g8, g9, g10, g11, hj, hj2, rfl⟩ hN
    obtain ⟨i, rfl⟩ := hx x (List.mem_cons_self ..)
    have hx2 : ∀ y ∈ xs, ∃ i : Int, y = .int i := fun y hy => hx y (List.mem_cons_of_mem _ hy)
    simp only [List.length_cons] at hj2
    simp only [gSet, List.set_cons_zero, List.set_cons_succ]
    have script : ∃ ns' : List Int, ns.map PyData.int = ns'.map .int ∧ ns'.length ≤ 63 := ⟨ns, rfl, hl⟩
    refine seq_abs fun v2 hv2 => ?_
    walk_at "d3"
    simp only [P_number]
    refine ⟨script, hj, by omega, fun a sa => ⟨script, by omega, by omega, fun b sb => ?_⟩⟩
    walk_at "d3"
    subst hv2
    refine seq_abs fun v2 hv2 => ?_
    walk_at "d3"
    simp only [P_number]
    refine ⟨script, by omega, by omega, fun c sc => ⟨script, by omega, by omega, fun d sd => ?_⟩⟩
    try walk_at "d3"
    subst hv2
    refine seq_abs fun v2 hv2 => ?_
    walk_at "d3"
    simp only [P_cell]
    refine ⟨script, by omega, by omega, fun n n0 n1 => ?_⟩
    try walk_at "d3"
    subst hv2
    refine seq_abs fun v2 hv2 => ?_
    walk_at "d3"
    simp only [dLamCall, PG_refused, thP, frzG, frz1, hideOwn, List.getElem?_cons_zero, List.getElem?_cons_succ, List.map_cons, List.map_nil]
    intro K1 E1 hE
    walk_at "d3"
    simp only [P_fraction]
    refine ⟨fun _ => hE _ ?_, fun z => absurd rfl z⟩
    walk_at "d3"
    clear hE
    subst hv2
    refine seq_abs fun v2 hv2 => ?_
    walk_at "d3"
    have fix0 : ∀ b : Int, b.natAbs < 2 ^ 175 → b + (if b = 0 then 1 else 0) ≠ 0 ∧ (b + (if b = 0 then 1 else 0)).natAbs < 2 ^ 176 := fun b hb => by
      by_cases z : b = 0
      · subst z
        decide
      · rw [if_neg z]
        omega
    obtain ⟨b0, sb'⟩ := fix0 b sb
    obtain ⟨d0, sd'⟩ := fix0 d sd
    generalize b + (if b = 0 then 1 else 0) = b' at b0 sb'
    generalize d + (if d = 0 then 1 else 0) = d' at d0 sd'
    have up8 : ∀ {x : Int}, x.natAbs < 2 ^ 176 → x.natAbs < 2 ^ 8001 := fun h => up h (by decide)
    have sa' : a.natAbs < 2 ^ 176 := up sa (by decide)
    have sc' : c.natAbs < 2 ^ 176 := up sc (by decide)
    have g1 := nf_good b0 sa' sb'
    have g2' := nf_good d0 sc' sd'
    subst hv2
    refine seq_abs fun v2 hv2 => ?_
    walk_at "d3"
    simp only [P_low]
    refine ⟨b0, up8 sb', d0, up8 sd', ?_⟩
    try walk_at "d3"
    subst hv2
    refine seq_abs fun v2 hv2 => ?_
    walk_at "d3"
    simp only [P_fraction]
    refine ⟨fun z => absurd z b0, fun _ => ⟨up8 sb', fun z => absurd z d0, fun _ => ⟨up8 sd', ?_⟩⟩⟩
    have r1 : rOk (.list [nfD a b', nfD c d']) := ⟨nf_ok (s := 176) b0 sa' sb' (by decide), nf_ok (s := 176) d0 sc' sd' (by decide), trivial⟩
    have z1 : szR (.list [nfD a b', nfD c d']) ≤ 16777216 := by simp [szR, szRAll, nfD]
    have dp1 : (PyData.list [nfD a b', nfD c d']).depth ≤ 60 := by simp [PyData.depth, PyData.depthAll, nfD]
    walk_at "d3"
    refine repr_of r1 z1 dp1 (repr_of r1 z1 dp1 ?_)
    walk_at "d3"
    subst hv2
    refine seq_abs fun v2 hv2 => ?_
    walk_at "d3"
    obtain ⟨m0, m1⟩ := fm_of (x := n) (y := 13) (by decide)
    refine ⟨g1, g2', by omega, ?_⟩
    walk_at "d3"
    subst hv2
    refine seq_abs fun v2 hv2 => ?_
    walk_at "d3"
    obtain ⟨k0, k1⟩ := fm_of (x := n.fdiv 13) (y := 3) (by decide)
    refine ⟨divOk (a := 3) (by decide) (by decide) (by decide), g2', g1, by omega, ?_⟩
    walk_at "d3"
    subst hv2
    simp only [dFor, dCall, dCons, dNil, dVar, List.getElem?_cons_zero, List.getElem?_cons_succ]
    refine ⟨up (s := 176) g1.2.2.1 (by decide), up (s := 176) g1.2.2.2 (by decide), fun ds hds _ => ?_⟩
    dsimp only
    refine loop_all (fun ys S => (∀ y ∈ ys, bOk y) ∧ ∃ g10' : Option SV, S = ⟨[some (.d (.list (ns.map .int))), some (.cell 0), some (.d (.int i)), some (.d (.int a)), some (.d (.int b')), some (.d (.int c)), some (.d (.int d')), some (.d (.int n)), some (.d (nfD a b')), some (.d (nfD c d')), g10', g11], [[.int (j + 2 + 2 + 2 + 2 + 1)]]⟩) ?_ ?_ _ _ ?_
    · rintro S ⟨_, g10', rfl⟩
      exact hN _ ⟨hx2, _, _, _, _, _, _, _, _, _, _, _, by omega, by omega, rfl⟩
    · rintro y ys S N2 ⟨hy, g10', rfl⟩ hN2
      walk_at "d3"
      simp only [P_is_fraction, P_is_one]
      have rb : ∀ q : Bool, rOk (.bool q) := fun q => trivial
      refine repr_of (rb _) (by simp [szR]) (by simp [PyData.depth]) ⟨hy y (List.mem_cons_self ..), repr_of (rb _) (by simp [szR]) (by simp [PyData.depth]) ?_⟩
      walk_at "d3"
      exact hN2 _ ⟨fun z hz => hy z (List.mem_cons_of_mem _ hz), _, rfl⟩
    · exact ⟨hds, _, rfl⟩
  · refine ⟨fun x hx => ?_, 0, none, none, none, none, none, none, none, none, none, none, by omega, by rw [rangeD_len]; omega, rfl⟩
    obtain ⟨i, hi, e1⟩ := List.getElem_of_mem hx
    rw [rangeD_len] at hi
    have z1 := rangeD_get _ 0 i hi
    rw [List.getElem?_eq_getElem (by rw [rangeD_len]; exact hi), e1] at z1
    exact ⟨_, Option.some.inj z1⟩
theorem all_mk {l : PySem.W.OpenLaw} {w : World} {K : PySem.W.Frag} {h : Heap} {mg : Str → Option Value} {fa : Addr} {ts : List Addr} (X : K.In h) (G : h.Ns mainGlobals mg) (hfa : mg "law" = some (.ref fa)) (hT : ∀ P ∈ ts, h.get? P = some emptyTab)
    {f_p_is_whole : Addr} {od_p_is_whole an_p_is_whole : Option Addr} {sl_p_is_whole : Array (Option Value)} {oc_p_is_whole kV_p_is_whole dc_p_is_whole pm_p_is_whole cd_p_is_whole ct_p_is_whole : Value}
    {f_p_own_common : Addr} {od_p_own_common an_p_own_common : Option Addr} {sl_p_own_common : Array (Option Value)} {oc_p_own_common kV_p_own_common dc_p_own_common pm_p_own_common cd_p_own_common ct_p_own_common : Value}
    {f_p_is_fraction : Addr} {od_p_is_fraction an_p_is_fraction : Option Addr} {sl_p_is_fraction : Array (Option Value)} {oc_p_is_fraction kV_p_is_fraction dc_p_is_fraction pm_p_is_fraction cd_p_is_fraction ct_p_is_fraction : Value}
    {f_p_fraction : Addr} {od_p_fraction an_p_fraction : Option Addr} {sl_p_fraction : Array (Option Value)} {oc_p_fraction kV_p_fraction dc_p_fraction pm_p_fraction cd_p_fraction ct_p_fraction : Value}
    {f_p_plus : Addr} {od_p_plus an_p_plus : Option Addr} {sl_p_plus : Array (Option Value)} {oc_p_plus kV_p_plus dc_p_plus pm_p_plus cd_p_plus ct_p_plus : Value}
    {f_p_less : Addr} {od_p_less an_p_less : Option Addr} {sl_p_less : Array (Option Value)} {oc_p_less kV_p_less dc_p_less pm_p_less cd_p_less ct_p_less : Value}
    {f_p_times : Addr} {od_p_times an_p_times : Option Addr} {sl_p_times : Array (Option Value)} {oc_p_times kV_p_times dc_p_times pm_p_times cd_p_times ct_p_times : Value}
    {f_p_by : Addr} {od_p_by an_p_by : Option Addr} {sl_p_by : Array (Option Value)} {oc_p_by kV_p_by dc_p_by pm_p_by cd_p_by ct_p_by : Value}
    {f_p_own_often : Addr} {od_p_own_often an_p_own_often : Option Addr} {sl_p_own_often : Array (Option Value)} {oc_p_own_often kV_p_own_often dc_p_own_often pm_p_own_often cd_p_own_often ct_p_own_often : Value}
    {f_p_power : Addr} {od_p_power an_p_power : Option Addr} {sl_p_power : Array (Option Value)} {oc_p_power kV_p_power dc_p_power pm_p_power cd_p_power ct_p_power : Value}
    {f_u_law_cell : Addr} {od_u_law_cell an_u_law_cell : Option Addr} {sl_u_law_cell : Array (Option Value)} {oc_u_law_cell kV_u_law_cell dc_u_law_cell pm_u_law_cell cd_u_law_cell ct_u_law_cell : Value}
    {f_u_law_low : Addr} {od_u_law_low an_u_law_low : Option Addr} {sl_u_law_low : Array (Option Value)} {oc_u_law_low kV_u_law_low dc_u_law_low pm_u_law_low cd_u_law_low ct_u_law_low : Value}
    {f_u_law_plus : Addr} {od_u_law_plus an_u_law_plus : Option Addr} {sl_u_law_plus : Array (Option Value)} {oc_u_law_plus kV_u_law_plus dc_u_law_plus pm_u_law_plus cd_u_law_plus ct_u_law_plus : Value}
    {f_u_law_times : Addr} {od_u_law_times an_u_law_times : Option Addr} {sl_u_law_times : Array (Option Value)} {oc_u_law_times kV_u_law_times dc_u_law_times pm_u_law_times cd_u_law_times ct_u_law_times : Value}
    {f_u_law_by : Addr} {od_u_law_by an_u_law_by : Option Addr} {sl_u_law_by : Array (Option Value)} {oc_u_law_by kV_u_law_by dc_u_law_by pm_u_law_by cd_u_law_by ct_u_law_by : Value}
    {f_u_law_number : Addr} {od_u_law_number an_u_law_number : Option Addr} {sl_u_law_number : Array (Option Value)} {oc_u_law_number kV_u_law_number dc_u_law_number pm_u_law_number cd_u_law_number ct_u_law_number : Value}
    {f_u_law_power : Addr} {od_u_law_power an_u_law_power : Option Addr} {sl_u_law_power : Array (Option Value)} {oc_u_law_power kV_u_law_power dc_u_law_power pm_u_law_power cd_u_law_power ct_u_law_power : Value}
    {f_u_law_refused : Addr} {od_u_law_refused an_u_law_refused : Option Addr} {sl_u_law_refused : Array (Option Value)} {oc_u_law_refused kV_u_law_refused dc_u_law_refused pm_u_law_refused cd_u_law_refused ct_u_law_refused : Value}
    {f_u_law_is_one : Addr} {od_u_law_is_one an_u_law_is_one : Option Addr} {sl_u_law_is_one : Array (Option Value)} {oc_u_law_is_one kV_u_law_is_one dc_u_law_is_one pm_u_law_is_one cd_u_law_is_one ct_u_law_is_one : Value}
    {f_u_law_things : Addr} {od_u_law_things an_u_law_things : Option Addr} {sl_u_law_things : Array (Option Value)} {oc_u_law_things kV_u_law_things dc_u_law_things pm_u_law_things cd_u_law_things ct_u_law_things : Value}
    {f_u_law_pair_right k_u_law_pair_right t_u_law_pair_right : Addr} {od_u_law_pair_right an_u_law_pair_right cdd_u_law_pair_right : Option Addr} {sl_u_law_pair_right csl_u_law_pair_right : Array (Option Value)} {oc_u_law_pair_right kV_u_law_pair_right dc_u_law_pair_right pm_u_law_pair_right ct_u_law_pair_right ccl_u_law_pair_right : Value} {cvs_u_law_pair_right : Array Value}
    {f_p_law k_p_law t_p_law : Addr} {od_p_law an_p_law cdd_p_law : Option Addr} {sl_p_law csl_p_law : Array (Option Value)} {oc_p_law kV_p_law dc_p_law pm_p_law ct_p_law ccl_p_law : Value} {cvs_p_law : Array Value}
    {c_BadFraction : Addr}
    {c_BadRule : Addr}
    {c_BookError : Addr}
    {c_DeedError : Addr}
    {c_HollowError : Addr}
    (a_p_is_whole : PySem.W.nsIn K mainGlobals "is_whole" = some (some (.ref f_p_is_whole)))
    (l_p_is_whole : K.lookup f_p_is_whole = some ⟨oc_p_is_whole, od_p_is_whole, .func (PySem.W.fnOf "is_whole" "is_whole" (defArgs s_p_is_whole) (defBody s_p_is_whole) (defScope s_p_is_whole) .none kV_p_is_whole dc_p_is_whole pm_p_is_whole an_p_is_whole cd_p_is_whole ct_p_is_whole), sl_p_is_whole⟩)
    (o_p_is_whole : PySem.W.codeIn K cd_p_is_whole "is_whole" = true)
    (e_p_is_whole : PySem.W.keepIn K (.ref f_p_is_whole) = true)
    (a_p_own_common : PySem.W.nsIn K mainGlobals "own_common" = some (some (.ref f_p_own_common)))
    (l_p_own_common : K.lookup f_p_own_common = some ⟨oc_p_own_common, od_p_own_common, .func (PySem.W.fnOf "own_common" "own_common" (defArgs s_p_own_common) (defBody s_p_own_common) (defScope s_p_own_common) .none kV_p_own_common dc_p_own_common pm_p_own_common an_p_own_common cd_p_own_common ct_p_own_common), sl_p_own_common⟩)
    (o_p_own_common : PySem.W.codeIn K cd_p_own_common "own_common" = true)
    (e_p_own_common : PySem.W.keepIn K (.ref f_p_own_common) = true)
    (a_p_is_fraction : PySem.W.nsIn K mainGlobals "is_fraction" = some (some (.ref f_p_is_fraction)))
    (l_p_is_fraction : K.lookup f_p_is_fraction = some ⟨oc_p_is_fraction, od_p_is_fraction, .func (PySem.W.fnOf "is_fraction" "is_fraction" (defArgs s_p_is_fraction) (defBody s_p_is_fraction) (defScope s_p_is_fraction) .none kV_p_is_fraction dc_p_is_fraction pm_p_is_fraction an_p_is_fraction cd_p_is_fraction ct_p_is_fraction), sl_p_is_fraction⟩)
    (o_p_is_fraction : PySem.W.codeIn K cd_p_is_fraction "is_fraction" = true)
    (e_p_is_fraction : PySem.W.keepIn K (.ref f_p_is_fraction) = true)
    (a_p_fraction : PySem.W.nsIn K mainGlobals "fraction" = some (some (.ref f_p_fraction)))
    (l_p_fraction : K.lookup f_p_fraction = some ⟨oc_p_fraction, od_p_fraction, .func (PySem.W.fnOf "fraction" "fraction" (defArgs s_p_fraction) (defBody s_p_fraction) (defScope s_p_fraction) .none kV_p_fraction dc_p_fraction pm_p_fraction an_p_fraction cd_p_fraction ct_p_fraction), sl_p_fraction⟩)
    (o_p_fraction : PySem.W.codeIn K cd_p_fraction "fraction" = true)
    (e_p_fraction : PySem.W.keepIn K (.ref f_p_fraction) = true)
    (a_p_plus : PySem.W.nsIn K mainGlobals "plus" = some (some (.ref f_p_plus)))
    (l_p_plus : K.lookup f_p_plus = some ⟨oc_p_plus, od_p_plus, .func (PySem.W.fnOf "plus" "plus" (defArgs s_p_plus) (defBody s_p_plus) (defScope s_p_plus) .none kV_p_plus dc_p_plus pm_p_plus an_p_plus cd_p_plus ct_p_plus), sl_p_plus⟩)
    (o_p_plus : PySem.W.codeIn K cd_p_plus "plus" = true)
    (e_p_plus : PySem.W.keepIn K (.ref f_p_plus) = true)
    (a_p_less : PySem.W.nsIn K mainGlobals "less" = some (some (.ref f_p_less)))
    (l_p_less : K.lookup f_p_less = some ⟨oc_p_less, od_p_less, .func (PySem.W.fnOf "less" "less" (defArgs s_p_less) (defBody s_p_less) (defScope s_p_less) .none kV_p_less dc_p_less pm_p_less an_p_less cd_p_less ct_p_less), sl_p_less⟩)
    (o_p_less : PySem.W.codeIn K cd_p_less "less" = true)
    (e_p_less : PySem.W.keepIn K (.ref f_p_less) = true)
    (a_p_times : PySem.W.nsIn K mainGlobals "times" = some (some (.ref f_p_times)))
    (l_p_times : K.lookup f_p_times = some ⟨oc_p_times, od_p_times, .func (PySem.W.fnOf "times" "times" (defArgs s_p_times) (defBody s_p_times) (defScope s_p_times) .none kV_p_times dc_p_times pm_p_times an_p_times cd_p_times ct_p_times), sl_p_times⟩)
    (o_p_times : PySem.W.codeIn K cd_p_times "times" = true)
    (e_p_times : PySem.W.keepIn K (.ref f_p_times) = true)
    (a_p_by : PySem.W.nsIn K mainGlobals "by" = some (some (.ref f_p_by)))
    (l_p_by : K.lookup f_p_by = some ⟨oc_p_by, od_p_by, .func (PySem.W.fnOf "by" "by" (defArgs s_p_by) (defBody s_p_by) (defScope s_p_by) .none kV_p_by dc_p_by pm_p_by an_p_by cd_p_by ct_p_by), sl_p_by⟩)
    (o_p_by : PySem.W.codeIn K cd_p_by "by" = true)
    (e_p_by : PySem.W.keepIn K (.ref f_p_by) = true)
    (a_p_own_often : PySem.W.nsIn K mainGlobals "own_often" = some (some (.ref f_p_own_often)))
    (l_p_own_often : K.lookup f_p_own_often = some ⟨oc_p_own_often, od_p_own_often, .func (PySem.W.fnOf "own_often" "own_often" (defArgs s_p_own_often) (defBody s_p_own_often) (defScope s_p_own_often) .none kV_p_own_often dc_p_own_often pm_p_own_often an_p_own_often cd_p_own_often ct_p_own_often), sl_p_own_often⟩)
    (o_p_own_often : PySem.W.codeIn K cd_p_own_often "own_often" = true)
    (e_p_own_often : PySem.W.keepIn K (.ref f_p_own_often) = true)
    (a_p_power : PySem.W.nsIn K mainGlobals "power" = some (some (.ref f_p_power)))
    (l_p_power : K.lookup f_p_power = some ⟨oc_p_power, od_p_power, .func (PySem.W.fnOf "power" "power" (defArgs s_p_power) (defBody s_p_power) (defScope s_p_power) .none kV_p_power dc_p_power pm_p_power an_p_power cd_p_power ct_p_power), sl_p_power⟩)
    (o_p_power : PySem.W.codeIn K cd_p_power "power" = true)
    (e_p_power : PySem.W.keepIn K (.ref f_p_power) = true)
    (a_u_law_cell : PySem.W.nsIn K mainGlobals "_law_cell" = some (some (.ref f_u_law_cell)))
    (l_u_law_cell : K.lookup f_u_law_cell = some ⟨oc_u_law_cell, od_u_law_cell, .func (PySem.W.fnOf "_law_cell" "_law_cell" (defArgs s_u_law_cell) (defBody s_u_law_cell) (defScope s_u_law_cell) .none kV_u_law_cell dc_u_law_cell pm_u_law_cell an_u_law_cell cd_u_law_cell ct_u_law_cell), sl_u_law_cell⟩)
    (o_u_law_cell : PySem.W.codeIn K cd_u_law_cell "_law_cell" = true)
    (e_u_law_cell : PySem.W.keepIn K (.ref f_u_law_cell) = true)
    (a_u_law_low : PySem.W.nsIn K mainGlobals "_law_low" = some (some (.ref f_u_law_low)))
    (l_u_law_low : K.lookup f_u_law_low = some ⟨oc_u_law_low, od_u_law_low, .func (PySem.W.fnOf "_law_low" "_law_low" (defArgs s_u_law_low) (defBody s_u_law_low) (defScope s_u_law_low) .none kV_u_law_low dc_u_law_low pm_u_law_low an_u_law_low cd_u_law_low ct_u_law_low), sl_u_law_low⟩)
    (o_u_law_low : PySem.W.codeIn K cd_u_law_low "_law_low" = true)
    (e_u_law_low : PySem.W.keepIn K (.ref f_u_law_low) = true)
    (a_u_law_plus : PySem.W.nsIn K mainGlobals "_law_plus" = some (some (.ref f_u_law_plus)))
    (l_u_law_plus : K.lookup f_u_law_plus = some ⟨oc_u_law_plus, od_u_law_plus, .func (PySem.W.fnOf "_law_plus" "_law_plus" (defArgs s_u_law_plus) (defBody s_u_law_plus) (defScope s_u_law_plus) .none kV_u_law_plus dc_u_law_plus pm_u_law_plus an_u_law_plus cd_u_law_plus ct_u_law_plus), sl_u_law_plus⟩)
    (o_u_law_plus : PySem.W.codeIn K cd_u_law_plus "_law_plus" = true)
    (e_u_law_plus : PySem.W.keepIn K (.ref f_u_law_plus) = true)
    (a_u_law_times : PySem.W.nsIn K mainGlobals "_law_times" = some (some (.ref f_u_law_times)))
    (l_u_law_times : K.lookup f_u_law_times = some ⟨oc_u_law_times, od_u_law_times, .func (PySem.W.fnOf "_law_times" "_law_times" (defArgs s_u_law_times) (defBody s_u_law_times) (defScope s_u_law_times) .none kV_u_law_times dc_u_law_times pm_u_law_times an_u_law_times cd_u_law_times ct_u_law_times), sl_u_law_times⟩)
    (o_u_law_times : PySem.W.codeIn K cd_u_law_times "_law_times" = true)
    (e_u_law_times : PySem.W.keepIn K (.ref f_u_law_times) = true)
    (a_u_law_by : PySem.W.nsIn K mainGlobals "_law_by" = some (some (.ref f_u_law_by)))
    (l_u_law_by : K.lookup f_u_law_by = some ⟨oc_u_law_by, od_u_law_by, .func (PySem.W.fnOf "_law_by" "_law_by" (defArgs s_u_law_by) (defBody s_u_law_by) (defScope s_u_law_by) .none kV_u_law_by dc_u_law_by pm_u_law_by an_u_law_by cd_u_law_by ct_u_law_by), sl_u_law_by⟩)
    (o_u_law_by : PySem.W.codeIn K cd_u_law_by "_law_by" = true)
    (e_u_law_by : PySem.W.keepIn K (.ref f_u_law_by) = true)
    (a_u_law_number : PySem.W.nsIn K mainGlobals "_law_number" = some (some (.ref f_u_law_number)))
    (l_u_law_number : K.lookup f_u_law_number = some ⟨oc_u_law_number, od_u_law_number, .func (PySem.W.fnOf "_law_number" "_law_number" (defArgs s_u_law_number) (defBody s_u_law_number) (defScope s_u_law_number) .none kV_u_law_number dc_u_law_number pm_u_law_number an_u_law_number cd_u_law_number ct_u_law_number), sl_u_law_number⟩)
    (o_u_law_number : PySem.W.codeIn K cd_u_law_number "_law_number" = true)
    (e_u_law_number : PySem.W.keepIn K (.ref f_u_law_number) = true)
    (a_u_law_power : PySem.W.nsIn K mainGlobals "_law_power" = some (some (.ref f_u_law_power)))
    (l_u_law_power : K.lookup f_u_law_power = some ⟨oc_u_law_power, od_u_law_power, .func (PySem.W.fnOf "_law_power" "_law_power" (defArgs s_u_law_power) (defBody s_u_law_power) (defScope s_u_law_power) .none kV_u_law_power dc_u_law_power pm_u_law_power an_u_law_power cd_u_law_power ct_u_law_power), sl_u_law_power⟩)
    (o_u_law_power : PySem.W.codeIn K cd_u_law_power "_law_power" = true)
    (e_u_law_power : PySem.W.keepIn K (.ref f_u_law_power) = true)
    (a_u_law_refused : PySem.W.nsIn K mainGlobals "_law_refused" = some (some (.ref f_u_law_refused)))
    (l_u_law_refused : K.lookup f_u_law_refused = some ⟨oc_u_law_refused, od_u_law_refused, .func (PySem.W.fnOf "_law_refused" "_law_refused" (defArgs s_u_law_refused) (defBody s_u_law_refused) (defScope s_u_law_refused) .none kV_u_law_refused dc_u_law_refused pm_u_law_refused an_u_law_refused cd_u_law_refused ct_u_law_refused), sl_u_law_refused⟩)
    (o_u_law_refused : PySem.W.codeIn K cd_u_law_refused "_law_refused" = true)
    (e_u_law_refused : PySem.W.keepIn K (.ref f_u_law_refused) = true)
    (a_u_law_is_one : PySem.W.nsIn K mainGlobals "_law_is_one" = some (some (.ref f_u_law_is_one)))
    (l_u_law_is_one : K.lookup f_u_law_is_one = some ⟨oc_u_law_is_one, od_u_law_is_one, .func (PySem.W.fnOf "_law_is_one" "_law_is_one" (defArgs s_u_law_is_one) (defBody s_u_law_is_one) (defScope s_u_law_is_one) .none kV_u_law_is_one dc_u_law_is_one pm_u_law_is_one an_u_law_is_one cd_u_law_is_one ct_u_law_is_one), sl_u_law_is_one⟩)
    (o_u_law_is_one : PySem.W.codeIn K cd_u_law_is_one "_law_is_one" = true)
    (e_u_law_is_one : PySem.W.keepIn K (.ref f_u_law_is_one) = true)
    (a_u_law_things : PySem.W.nsIn K mainGlobals "_law_things" = some (some (.ref f_u_law_things)))
    (l_u_law_things : K.lookup f_u_law_things = some ⟨oc_u_law_things, od_u_law_things, .func (PySem.W.fnOf "_law_things" "_law_things" (defArgs s_u_law_things) (defBody s_u_law_things) (defScope s_u_law_things) .none kV_u_law_things dc_u_law_things pm_u_law_things an_u_law_things cd_u_law_things ct_u_law_things), sl_u_law_things⟩)
    (o_u_law_things : PySem.W.codeIn K cd_u_law_things "_law_things" = true)
    (e_u_law_things : PySem.W.keepIn K (.ref f_u_law_things) = true)
    (a_u_law_pair_right : PySem.W.nsIn K mainGlobals "_law_pair_right" = some (some (.ref f_u_law_pair_right)))
    (l_u_law_pair_right : K.lookup f_u_law_pair_right = some ⟨oc_u_law_pair_right, od_u_law_pair_right, .func (PySem.W.fnOf "_law_pair_right" "_law_pair_right" (defArgs s_u_law_pair_right) (defBody s_u_law_pair_right) (defScope s_u_law_pair_right) .none kV_u_law_pair_right dc_u_law_pair_right pm_u_law_pair_right an_u_law_pair_right (.ref k_u_law_pair_right) ct_u_law_pair_right), sl_u_law_pair_right⟩)
    (o_u_law_pair_right : PySem.W.codeIn K (.ref k_u_law_pair_right) "_law_pair_right" = true)
    (e_u_law_pair_right : PySem.W.keepIn K (.ref f_u_law_pair_right) = true)
    (x_u_law_pair_right : K.lookup k_u_law_pair_right = some ⟨ccl_u_law_pair_right, cdd_u_law_pair_right, .fields cvs_u_law_pair_right, csl_u_law_pair_right⟩)
    (v_u_law_pair_right : cvs_u_law_pair_right[11]? = some (.ref t_u_law_pair_right))
    (h_u_law_pair_right : PySem.W.codeHdIn K k_u_law_pair_right t_u_law_pair_right = true)
    (n_u_law_pair_right : K.lookup t_u_law_pair_right = none)
    (y_u_law_pair_right : t_u_law_pair_right ∈ ts)
    (a_p_law : PySem.W.nsIn K mainGlobals "law" = some (some (.ref f_p_law)))
    (l_p_law : K.lookup f_p_law = some ⟨oc_p_law, od_p_law, .func (PySem.W.fnOf "law" "law" (defArgs s_p_law) (defBody s_p_law) (defScope s_p_law) .none kV_p_law dc_p_law pm_p_law an_p_law (.ref k_p_law) ct_p_law), sl_p_law⟩)
    (o_p_law : PySem.W.codeIn K (.ref k_p_law) "law" = true)
    (e_p_law : PySem.W.keepIn K (.ref f_p_law) = true)
    (x_p_law : K.lookup k_p_law = some ⟨ccl_p_law, cdd_p_law, .fields cvs_p_law, csl_p_law⟩)
    (v_p_law : cvs_p_law[11]? = some (.ref t_p_law))
    (h_p_law : PySem.W.codeHdIn K k_p_law t_p_law = true)
    (n_p_law : K.lookup t_p_law = none)
    (y_p_law : t_p_law ∈ ts)
    (z_ValueError : PySem.W.nsIn K mainGlobals "ValueError" = some none)
    (z_abs : PySem.W.nsIn K mainGlobals "abs" = some none)
    (z_all : PySem.W.nsIn K mainGlobals "all" = some none)
    (z_bool : PySem.W.nsIn K mainGlobals "bool" = some none)
    (z_int : PySem.W.nsIn K mainGlobals "int" = some none)
    (z_isinstance : PySem.W.nsIn K mainGlobals "isinstance" = some none)
    (z_len : PySem.W.nsIn K mainGlobals "len" = some none)
    (z_min : PySem.W.nsIn K mainGlobals "min" = some none)
    (z_range : PySem.W.nsIn K mainGlobals "range" = some none)
    (z_repr : PySem.W.nsIn K mainGlobals "repr" = some none)
    (z_str : PySem.W.nsIn K mainGlobals "str" = some none)
    (z_tuple : PySem.W.nsIn K mainGlobals "tuple" = some none)
    (c_a_BadFraction : PySem.W.nsIn K mainGlobals "BadFraction" = some (some (.ref c_BadFraction)))
    (c_a_BadRule : PySem.W.nsIn K mainGlobals "BadRule" = some (some (.ref c_BadRule)))
    (c_a_BookError : PySem.W.nsIn K mainGlobals "BookError" = some (some (.ref c_BookError)))
    (c_a_DeedError : PySem.W.nsIn K mainGlobals "DeedError" = some (some (.ref c_DeedError)))
    (c_a_HollowError : PySem.W.nsIn K mainGlobals "HollowError" = some (some (.ref c_HollowError)))
    (c_x_BadFraction : PySem.W.excIn K c_BadFraction [.type "ValueError", .type "Exception", .type "BaseException", .type "object"] "ValueError.__new__" = true)
    (c_k_BadFraction : PySem.W.keepIn K (.ref c_BadFraction) = true)
    (c_s_BadFraction : PySem.W.subIn K (.ref c_BadFraction) (.type "BaseException") = some true)
    (c_t_BadFraction : PySem.W.typeIn K (.ref c_BadFraction) = some (.type "type"))
    (c_g_BadFraction : PySem.W.findIn K (.ref c_BadFraction) "__getattribute__" = some (some (.builtin "BaseException.__getattribute__")))
    (c_h_BadFraction : PySem.W.findIn K (.ref c_BadFraction) "__getattr__" = some none)
    (c_d_BadFraction : PySem.W.hasDictIn K c_BadFraction = true)
    (c_c_BadFraction : PySem.W.findIn K (.ref c_BadFraction) "__class__" = some (some (.builtin "object.__class__")))
    (c_m_BadFraction : PySem.W.mroIn K c_BadFraction (.type "object") = some true)
    (c_i_BadFraction_BadFraction : PySem.W.kitOne K (.ref c_BadFraction) (.ref c_BadFraction) = some true)
    (c_i_BadFraction_BadRule : PySem.W.kitOne K (.ref c_BadFraction) (.ref c_BadRule) = some false)
    (c_i_BadFraction_ValueError : PySem.W.kitOne K (.ref c_BadFraction) (.type "ValueError") = some true)
    (c_e_BadFraction_HollowError_DeedError_BookError : PySem.W.exmAny K (.ref c_BadFraction) [.ref c_HollowError, .ref c_DeedError, .ref c_BookError] = some true)
    (c_n_BadFraction : PySem.W.kitOne K (.type "NoneType") (.ref c_BadFraction) = some false)
    (c_n_BadRule : PySem.W.kitOne K (.type "NoneType") (.ref c_BadRule) = some false)
    (g_n : PySem.W.specialIn K (.builtin "object.__class__") "__get__" = some (some (.builtin "getset_descriptor.__get__")))
    (g_t : PySem.W.takesIn K (.builtin "object.__class__") = some true)
    (d_u_law_pair_right_p_law : t_u_law_pair_right ≠ t_p_law) (d_p_law_u_law_pair_right : t_p_law ≠ t_u_law_pair_right)
    : LawG l w K 11 "_law_script" mg fa h := by
  have e := hfa.symm.trans (PySem.W.mg_of X G a_p_law)
  cases e
  let A : Adr := ⟨f_p_is_whole, (PySem.W.fnOf "is_whole" "is_whole" (defArgs s_p_is_whole) (defBody s_p_is_whole) (defScope s_p_is_whole) .none kV_p_is_whole dc_p_is_whole pm_p_is_whole an_p_is_whole cd_p_is_whole ct_p_is_whole), f_p_own_common, (PySem.W.fnOf "own_common" "own_common" (defArgs s_p_own_common) (defBody s_p_own_common) (defScope s_p_own_common) .none kV_p_own_common dc_p_own_common pm_p_own_common an_p_own_common cd_p_own_common ct_p_own_common), f_p_is_fraction, (PySem.W.fnOf "is_fraction" "is_fraction" (defArgs s_p_is_fraction) (defBody s_p_is_fraction) (defScope s_p_is_fraction) .none kV_p_is_fraction dc_p_is_fraction pm_p_is_fraction an_p_is_fraction cd_p_is_fraction ct_p_is_fraction), f_p_fraction, (PySem.W.fnOf "fraction" "fraction" (defArgs s_p_fraction) (defBody s_p_fraction) (defScope s_p_fraction) .none kV_p_fraction dc_p_fraction pm_p_fraction an_p_fraction cd_p_fraction ct_p_fraction), f_p_plus, (PySem.W.fnOf "plus" "plus" (defArgs s_p_plus) (defBody s_p_plus) (defScope s_p_plus) .none kV_p_plus dc_p_plus pm_p_plus an_p_plus cd_p_plus ct_p_plus), f_p_less, (PySem.W.fnOf "less" "less" (defArgs s_p_less) (defBody s_p_less) (defScope s_p_less) .none kV_p_less dc_p_less pm_p_less an_p_less cd_p_less ct_p_less), f_p_times, (PySem.W.fnOf "times" "times" (defArgs s_p_times) (defBody s_p_times) (defScope s_p_times) .none kV_p_times dc_p_times pm_p_times an_p_times cd_p_times ct_p_times), f_p_by, (PySem.W.fnOf "by" "by" (defArgs s_p_by) (defBody s_p_by) (defScope s_p_by) .none kV_p_by dc_p_by pm_p_by an_p_by cd_p_by ct_p_by), f_p_own_often, (PySem.W.fnOf "own_often" "own_often" (defArgs s_p_own_often) (defBody s_p_own_often) (defScope s_p_own_often) .none kV_p_own_often dc_p_own_often pm_p_own_often an_p_own_often cd_p_own_often ct_p_own_often), f_p_power, (PySem.W.fnOf "power" "power" (defArgs s_p_power) (defBody s_p_power) (defScope s_p_power) .none kV_p_power dc_p_power pm_p_power an_p_power cd_p_power ct_p_power), f_u_law_cell, (PySem.W.fnOf "_law_cell" "_law_cell" (defArgs s_u_law_cell) (defBody s_u_law_cell) (defScope s_u_law_cell) .none kV_u_law_cell dc_u_law_cell pm_u_law_cell an_u_law_cell cd_u_law_cell ct_u_law_cell), f_u_law_low, (PySem.W.fnOf "_law_low" "_law_low" (defArgs s_u_law_low) (defBody s_u_law_low) (defScope s_u_law_low) .none kV_u_law_low dc_u_law_low pm_u_law_low an_u_law_low cd_u_law_low ct_u_law_low), f_u_law_plus, (PySem.W.fnOf "_law_plus" "_law_plus" (defArgs s_u_law_plus) (defBody s_u_law_plus) (defScope s_u_law_plus) .none kV_u_law_plus dc_u_law_plus pm_u_law_plus an_u_law_plus cd_u_law_plus ct_u_law_plus), f_u_law_times, (PySem.W.fnOf "_law_times" "_law_times" (defArgs s_u_law_times) (defBody s_u_law_times) (defScope s_u_law_times) .none kV_u_law_times dc_u_law_times pm_u_law_times an_u_law_times cd_u_law_times ct_u_law_times), f_u_law_by, (PySem.W.fnOf "_law_by" "_law_by" (defArgs s_u_law_by) (defBody s_u_law_by) (defScope s_u_law_by) .none kV_u_law_by dc_u_law_by pm_u_law_by an_u_law_by cd_u_law_by ct_u_law_by), f_u_law_number, (PySem.W.fnOf "_law_number" "_law_number" (defArgs s_u_law_number) (defBody s_u_law_number) (defScope s_u_law_number) .none kV_u_law_number dc_u_law_number pm_u_law_number an_u_law_number cd_u_law_number ct_u_law_number), f_u_law_power, (PySem.W.fnOf "_law_power" "_law_power" (defArgs s_u_law_power) (defBody s_u_law_power) (defScope s_u_law_power) .none kV_u_law_power dc_u_law_power pm_u_law_power an_u_law_power cd_u_law_power ct_u_law_power), f_u_law_refused, (PySem.W.fnOf "_law_refused" "_law_refused" (defArgs s_u_law_refused) (defBody s_u_law_refused) (defScope s_u_law_refused) .none kV_u_law_refused dc_u_law_refused pm_u_law_refused an_u_law_refused cd_u_law_refused ct_u_law_refused), f_u_law_is_one, (PySem.W.fnOf "_law_is_one" "_law_is_one" (defArgs s_u_law_is_one) (defBody s_u_law_is_one) (defScope s_u_law_is_one) .none kV_u_law_is_one dc_u_law_is_one pm_u_law_is_one an_u_law_is_one cd_u_law_is_one ct_u_law_is_one), f_u_law_things, (PySem.W.fnOf "_law_things" "_law_things" (defArgs s_u_law_things) (defBody s_u_law_things) (defScope s_u_law_things) .none kV_u_law_things dc_u_law_things pm_u_law_things an_u_law_things cd_u_law_things ct_u_law_things), f_u_law_pair_right, (PySem.W.fnOf "_law_pair_right" "_law_pair_right" (defArgs s_u_law_pair_right) (defBody s_u_law_pair_right) (defScope s_u_law_pair_right) .none kV_u_law_pair_right dc_u_law_pair_right pm_u_law_pair_right an_u_law_pair_right (.ref k_u_law_pair_right) ct_u_law_pair_right), fa, (PySem.W.fnOf "law" "law" (defArgs s_p_law) (defBody s_p_law) (defScope s_p_law) .none kV_p_law dc_p_law pm_p_law an_p_law (.ref k_p_law) ct_p_law), k_u_law_pair_right, t_u_law_pair_right, k_p_law, t_p_law, c_BadFraction, c_BadRule, c_BookError, c_DeedError, c_HollowError⟩
  have F : Fct K mg A := {
    m_p_is_whole := PySem.W.mg_of X G a_p_is_whole
    f_p_is_whole := fun_mk l_p_is_whole o_p_is_whole e_p_is_whole
    b_p_is_whole := (fun_mk (st := s_p_is_whole) l_p_is_whole o_p_is_whole e_p_is_whole).binds (ps := ["thing"]) fun _ _ _ _ _ _ us hl => match us, hl with | [_], _ => rfl
    m_p_own_common := PySem.W.mg_of X G a_p_own_common
    f_p_own_common := fun_mk l_p_own_common o_p_own_common e_p_own_common
    b_p_own_common := (fun_mk (st := s_p_own_common) l_p_own_common o_p_own_common e_p_own_common).binds (ps := ["one", "other"]) fun _ _ _ _ _ _ us hl => match us, hl with | [_, _], _ => rfl
    m_p_is_fraction := PySem.W.mg_of X G a_p_is_fraction
    f_p_is_fraction := fun_mk l_p_is_fraction o_p_is_fraction e_p_is_fraction
    b_p_is_fraction := (fun_mk (st := s_p_is_fraction) l_p_is_fraction o_p_is_fraction e_p_is_fraction).binds (ps := ["thing"]) fun _ _ _ _ _ _ us hl => match us, hl with | [_], _ => rfl
    m_p_fraction := PySem.W.mg_of X G a_p_fraction
    f_p_fraction := fun_mk l_p_fraction o_p_fraction e_p_fraction
    b_p_fraction := (fun_mk (st := s_p_fraction) l_p_fraction o_p_fraction e_p_fraction).binds (ps := ["above", "below"]) fun _ _ _ _ _ _ us hl => match us, hl with | [_, _], _ => rfl
    m_p_plus := PySem.W.mg_of X G a_p_plus
    f_p_plus := fun_mk l_p_plus o_p_plus e_p_plus
    b_p_plus := (fun_mk (st := s_p_plus) l_p_plus o_p_plus e_p_plus).binds (ps := ["one", "other"]) fun _ _ _ _ _ _ us hl => match us, hl with | [_, _], _ => rfl
    m_p_less := PySem.W.mg_of X G a_p_less
    f_p_less := fun_mk l_p_less o_p_less e_p_less
    b_p_less := (fun_mk (st := s_p_less) l_p_less o_p_less e_p_less).binds (ps := ["one", "other"]) fun _ _ _ _ _ _ us hl => match us, hl with | [_, _], _ => rfl
    m_p_times := PySem.W.mg_of X G a_p_times
    f_p_times := fun_mk l_p_times o_p_times e_p_times
    b_p_times := (fun_mk (st := s_p_times) l_p_times o_p_times e_p_times).binds (ps := ["one", "other"]) fun _ _ _ _ _ _ us hl => match us, hl with | [_, _], _ => rfl
    m_p_by := PySem.W.mg_of X G a_p_by
    f_p_by := fun_mk l_p_by o_p_by e_p_by
    b_p_by := (fun_mk (st := s_p_by) l_p_by o_p_by e_p_by).binds (ps := ["one", "other"]) fun _ _ _ _ _ _ us hl => match us, hl with | [_, _], _ => rfl
    m_p_own_often := PySem.W.mg_of X G a_p_own_often
    f_p_own_often := fun_mk l_p_own_often o_p_own_often e_p_own_often
    b_p_own_often := (fun_mk (st := s_p_own_often) l_p_own_often o_p_own_often e_p_own_often).binds (ps := ["one", "number"]) fun _ _ _ _ _ _ us hl => match us, hl with | [_, _], _ => rfl
    m_p_power := PySem.W.mg_of X G a_p_power
    f_p_power := fun_mk l_p_power o_p_power e_p_power
    b_p_power := (fun_mk (st := s_p_power) l_p_power o_p_power e_p_power).binds (ps := ["one", "number"]) fun _ _ _ _ _ _ us hl => match us, hl with | [_, _], _ => rfl
    m_u_law_cell := PySem.W.mg_of X G a_u_law_cell
    f_u_law_cell := fun_mk l_u_law_cell o_u_law_cell e_u_law_cell
    b_u_law_cell := (fun_mk (st := s_u_law_cell) l_u_law_cell o_u_law_cell e_u_law_cell).binds (ps := ["_law_cells", "_law_spot"]) fun _ _ _ _ _ _ us hl => match us, hl with | [_, _], _ => rfl
    m_u_law_low := PySem.W.mg_of X G a_u_law_low
    f_u_law_low := fun_mk l_u_law_low o_u_law_low e_u_law_low
    b_u_law_low := (fun_mk (st := s_u_law_low) l_u_law_low o_u_law_low e_u_law_low).binds (ps := ["_law_above", "_law_below"]) fun _ _ _ _ _ _ us hl => match us, hl with | [_, _], _ => rfl
    m_u_law_plus := PySem.W.mg_of X G a_u_law_plus
    f_u_law_plus := fun_mk l_u_law_plus o_u_law_plus e_u_law_plus
    b_u_law_plus := (fun_mk (st := s_u_law_plus) l_u_law_plus o_u_law_plus e_u_law_plus).binds (ps := ["_law_one", "_law_other"]) fun _ _ _ _ _ _ us hl => match us, hl with | [_, _], _ => rfl
    m_u_law_times := PySem.W.mg_of X G a_u_law_times
    f_u_law_times := fun_mk l_u_law_times o_u_law_times e_u_law_times
    b_u_law_times := (fun_mk (st := s_u_law_times) l_u_law_times o_u_law_times e_u_law_times).binds (ps := ["_law_one", "_law_other"]) fun _ _ _ _ _ _ us hl => match us, hl with | [_, _], _ => rfl
    m_u_law_by := PySem.W.mg_of X G a_u_law_by
    f_u_law_by := fun_mk l_u_law_by o_u_law_by e_u_law_by
    b_u_law_by := (fun_mk (st := s_u_law_by) l_u_law_by o_u_law_by e_u_law_by).binds (ps := ["_law_one", "_law_other"]) fun _ _ _ _ _ _ us hl => match us, hl with | [_, _], _ => rfl
    m_u_law_number := PySem.W.mg_of X G a_u_law_number
    f_u_law_number := fun_mk l_u_law_number o_u_law_number e_u_law_number
    b_u_law_number := (fun_mk (st := s_u_law_number) l_u_law_number o_u_law_number e_u_law_number).binds (ps := ["_law_cells", "_law_spot"]) fun _ _ _ _ _ _ us hl => match us, hl with | [_, _], _ => rfl
    m_u_law_power := PySem.W.mg_of X G a_u_law_power
    f_u_law_power := fun_mk l_u_law_power o_u_law_power e_u_law_power
    b_u_law_power := (fun_mk (st := s_u_law_power) l_u_law_power o_u_law_power e_u_law_power).binds (ps := ["_law_one", "_law_number_here"]) fun _ _ _ _ _ _ us hl => match us, hl with | [_, _], _ => rfl
    m_u_law_refused := PySem.W.mg_of X G a_u_law_refused
    f_u_law_refused := fun_mk l_u_law_refused o_u_law_refused e_u_law_refused
    b_u_law_refused := (fun_mk (st := s_u_law_refused) l_u_law_refused o_u_law_refused e_u_law_refused).binds (ps := ["_law_deed"]) fun _ _ _ _ _ _ us hl => match us, hl with | [_], _ => rfl
    m_u_law_is_one := PySem.W.mg_of X G a_u_law_is_one
    f_u_law_is_one := fun_mk l_u_law_is_one o_u_law_is_one e_u_law_is_one
    b_u_law_is_one := (fun_mk (st := s_u_law_is_one) l_u_law_is_one o_u_law_is_one e_u_law_is_one).binds (ps := ["_law_thing"]) fun _ _ _ _ _ _ us hl => match us, hl with | [_], _ => rfl
    m_u_law_things := PySem.W.mg_of X G a_u_law_things
    f_u_law_things := fun_mk l_u_law_things o_u_law_things e_u_law_things
    b_u_law_things := (fun_mk (st := s_u_law_things) l_u_law_things o_u_law_things e_u_law_things).binds (ps := ["_law_one", "_law_n"]) fun _ _ _ _ _ _ us hl => match us, hl with | [_, _], _ => rfl
    m_u_law_pair_right := PySem.W.mg_of X G a_u_law_pair_right
    f_u_law_pair_right := fun_mk l_u_law_pair_right o_u_law_pair_right e_u_law_pair_right
    b_u_law_pair_right := (fun_mk (st := s_u_law_pair_right) l_u_law_pair_right o_u_law_pair_right e_u_law_pair_right).binds (ps := ["_law_one", "_law_other", "_law_number_here"]) fun _ _ _ _ _ _ us hl => match us, hl with | [_, _, _], _ => rfl
    m_p_law := PySem.W.mg_of X G a_p_law
    f_p_law := fun_mk l_p_law o_p_law e_p_law
    b_p_law := (fun_mk (st := s_p_law) l_p_law o_p_law e_p_law).binds (ps := ["_law_script"]) fun _ _ _ _ _ _ us hl => match us, hl with | [_], _ => rfl
    q_u_law_pair_right := by unfold codeOf; rw [show K.lookup A.f_u_law_pair_right = _ from l_u_law_pair_right]
    q_p_law := by unfold codeOf; rw [show K.lookup A.f_p_law = _ from l_p_law]
    z_ValueError := PySem.W.mg_none_of X G z_ValueError
    z_abs := PySem.W.mg_none_of X G z_abs
    z_all := PySem.W.mg_none_of X G z_all
    z_bool := PySem.W.mg_none_of X G z_bool
    z_int := PySem.W.mg_none_of X G z_int
    z_isinstance := PySem.W.mg_none_of X G z_isinstance
    z_len := PySem.W.mg_none_of X G z_len
    z_min := PySem.W.mg_none_of X G z_min
    z_range := PySem.W.mg_none_of X G z_range
    z_repr := PySem.W.mg_none_of X G z_repr
    z_str := PySem.W.mg_none_of X G z_str
    z_tuple := PySem.W.mg_none_of X G z_tuple
    mc_BadFraction := PySem.W.mg_of X G c_a_BadFraction
    mc_BadRule := PySem.W.mg_of X G c_a_BadRule
    mc_BookError := PySem.W.mg_of X G c_a_BookError
    mc_DeedError := PySem.W.mg_of X G c_a_DeedError
    mc_HollowError := PySem.W.mg_of X G c_a_HollowError
    x_BadFraction := c_x_BadFraction
    kc_BadFraction := c_k_BadFraction
    sb_BadFraction := c_s_BadFraction
    ty_BadFraction := c_t_BadFraction
    ec_BadFraction := ⟨c_g_BadFraction, c_h_BadFraction, c_s_BadFraction, c_d_BadFraction, c_c_BadFraction, g_n, g_t, c_m_BadFraction⟩
    i_BadFraction_BadFraction := c_i_BadFraction_BadFraction
    i_BadFraction_BadRule := c_i_BadFraction_BadRule
    i_BadFraction_ValueError := c_i_BadFraction_ValueError
    e_BadFraction_HollowError_DeedError_BookError := c_e_BadFraction_HollowError_DeedError_BookError
    in_BadFraction := c_n_BadFraction
    in_BadRule := c_n_BadRule }
  letI TB : Tb := ⟨[(t_u_law_pair_right, ("_law_pair_right" : Str) ++ ".<locals>." ++ "<lambda>"), (t_p_law, ("law" : Str) ++ ".<locals>." ++ "<lambda>")]⟩
  refine ⟨(PySem.W.fnOf "law" "law" (defArgs s_p_law) (defBody s_p_law) (defScope s_p_law) .none kV_p_law dc_p_law pm_p_law an_p_law (.ref k_p_law) ct_p_law), TB, [(k_u_law_pair_right, t_u_law_pair_right), (k_p_law, t_p_law)], ?_, ?_, ?_, ?_, fun s v => .of_eq rfl, fun base _ _ hTB => ?_⟩
  · exact List.forall_mem_cons.mpr ⟨hT _ y_u_law_pair_right, List.forall_mem_cons.mpr ⟨hT _ y_p_law, fun _ h => nomatch h⟩⟩
  · exact List.forall_mem_cons.mpr ⟨n_u_law_pair_right, List.forall_mem_cons.mpr ⟨n_p_law, fun _ h => nomatch h⟩⟩
  · exact List.forall_mem_cons.mpr ⟨PySem.W.codeHd_of_K X h_u_law_pair_right, List.forall_mem_cons.mpr ⟨PySem.W.codeHd_of_K X h_p_law, fun _ h => nomatch h⟩⟩
  · exact List.forall_mem_cons.mpr ⟨⟨k_u_law_pair_right, by simp⟩, List.forall_mem_cons.mpr ⟨⟨k_p_law, by simp⟩, fun _ h => nomatch h⟩⟩
  have tb_u_law_pair_right : LamX.TabB base mg A.k_u_law_pair_right A.t_u_law_pair_right := hTB (k_u_law_pair_right, t_u_law_pair_right) (by simp)
  have tm_u_law_pair_right : (A.t_u_law_pair_right, ("_law_pair_right" : Str) ++ ".<locals>." ++ "<lambda>") ∈ Tb.T := by show _ ∈ [(t_u_law_pair_right, ("_law_pair_right" : Str) ++ ".<locals>." ++ "<lambda>"), (t_p_law, ("law" : Str) ++ ".<locals>." ++ "<lambda>")]; simp [A]
  have tu_u_law_pair_right : ∀ p ∈ Tb.T, p.1 = A.t_u_law_pair_right → p.2 = ("_law_pair_right" : Str) ++ ".<locals>." ++ "<lambda>" := List.forall_mem_cons.mpr ⟨fun _ => rfl, List.forall_mem_cons.mpr ⟨fun z => absurd z (d_p_law_u_law_pair_right), fun _ h => nomatch h⟩⟩
  have tb_p_law : LamX.TabB base mg A.k_p_law A.t_p_law := hTB (k_p_law, t_p_law) (by simp)
  have tm_p_law : (A.t_p_law, ("law" : Str) ++ ".<locals>." ++ "<lambda>") ∈ Tb.T := by show _ ∈ [(t_u_law_pair_right, ("_law_pair_right" : Str) ++ ".<locals>." ++ "<lambda>"), (t_p_law, ("law" : Str) ++ ".<locals>." ++ "<lambda>")]; simp [A]
  have tu_p_law : ∀ p ∈ Tb.T, p.1 = A.t_p_law → p.2 = ("law" : Str) ++ ".<locals>." ++ "<lambda>" := List.forall_mem_cons.mpr ⟨fun z => absurd z (d_u_law_pair_right_p_law), List.forall_mem_cons.mpr ⟨fun _ => rfl, fun _ h => nomatch h⟩⟩
  have g_p_is_whole := ok_p_is_whole (P := l.prog) (w := w) (base := base) (A := A) F  (h_is_whole K A)
  have g_p_own_common := ok_p_own_common (P := l.prog) (w := w) (base := base) (A := A) F  (h_own_common K A)
  have g_p_is_fraction := ok_p_is_fraction (P := l.prog) (w := w) (base := base) (A := A) F g_p_is_whole (fun rs C k e h => (h_is_whole K A rs C k e h).1) g_p_own_common (fun rs C k e h => (h_own_common K A rs C k e h).1) (h_is_fraction K A)
  have g_p_fraction := ok_p_fraction (P := l.prog) (w := w) (base := base) (A := A) F g_p_own_common (fun rs C k e h => (h_own_common K A rs C k e h).1) (h_fraction K A)
  have g_p_plus := ok_p_plus (P := l.prog) (w := w) (base := base) (A := A) F g_p_fraction (fun rs C k e h => (h_fraction K A rs C k e h).1) (h_plus K A)
  have g_p_less := ok_p_less (P := l.prog) (w := w) (base := base) (A := A) F g_p_fraction (fun rs C k e h => (h_fraction K A rs C k e h).1) (h_less K A)
  have g_p_times := ok_p_times (P := l.prog) (w := w) (base := base) (A := A) F g_p_fraction (fun rs C k e h => (h_fraction K A rs C k e h).1) (h_times K A)
  have g_p_by := ok_p_by (P := l.prog) (w := w) (base := base) (A := A) F g_p_fraction (fun rs C k e h => (h_fraction K A rs C k e h).1) (h_by K A)
  have g_p_own_often := ok_p_own_often (P := l.prog) (w := w) (base := base) (A := A) F  (h_own_often K A)
  have g_p_power0 := ok_p_power (P := l.prog) (w := w) (base := base) (A := A) F g_p_by (fun rs C k e h => (h_by K A rs C k e h).1) g_p_own_often (fun rs C k e h => (h_own_often K A rs C k e h).1) (kk := 3) (Nat.le_refl _) (fnG_none (n := 2) (by rfl)) (fun _ _ _ _ h => h.elim) (h_power0 K A)
  have g_p_power := ok_p_power (P := l.prog) (w := w) (base := base) (A := A) F g_p_by (fun rs C k e h => (h_by K A rs C k e h).1) g_p_own_often (fun rs C k e h => (h_own_often K A rs C k e h).1) (kk := 4) (by decide) g_p_power0 (fun rs C k e h => (h_power0 K A (P1 := fun _ _ _ _ => False) (P2 := fun _ _ _ _ => False) rs C k e h).1) (h_power K A)
  have g_u_law_cell := ok_u_law_cell (P := l.prog) (w := w) (base := base) (A := A) F  (h_cell K A)
  have g_u_law_low := ok_u_law_low (P := l.prog) (w := w) (base := base) (A := A) F  (h_low K A)
  have g_u_law_plus := ok_u_law_plus (P := l.prog) (w := w) (base := base) (A := A) F g_u_law_low (fun rs C k e h => (h_low K A rs C k e h).1) (h_lplus K A)
  have g_u_law_times := ok_u_law_times (P := l.prog) (w := w) (base := base) (A := A) F g_u_law_low (fun rs C k e h => (h_low K A rs C k e h).1) (h_ltimes K A)
  have g_u_law_by := ok_u_law_by (P := l.prog) (w := w) (base := base) (A := A) F g_u_law_low (fun rs C k e h => (h_low K A rs C k e h).1) (h_lby K A)
  have g_u_law_number := ok_u_law_number (P := l.prog) (w := w) (base := base) (A := A) F g_u_law_cell (fun rs C k e h => (h_cell K A rs C k e h).1) (h_number K A)
  have g_u_law_power := ok_u_law_power (P := l.prog) (w := w) (base := base) (A := A) F g_u_law_times (fun rs C k e h => (h_ltimes K A rs C k e h).1) g_u_law_by (fun rs C k e h => (h_lby K A rs C k e h).1) (h_lpower K A)
  have g_u_law_is_one := ok_u_law_is_one (P := l.prog) (w := w) (base := base) (A := A) F g_u_law_low (fun rs C k e h => (h_low K A rs C k e h).1) (h_is_one K A)
  have g_u_law_things := ok_u_law_things (P := l.prog) (w := w) (base := base) (A := A) F  (h_things K A)
  have g_u_law_pair_right := ok_u_law_pair_right (P := l.prog) (w := w) (base := base) (A := A) F g_p_times (fun rs C k e h => (h_times K A rs C k e h).1) g_p_less (fun rs C k e h => (h_less K A rs C k e h).1) g_p_plus (fun rs C k e h => (h_plus K A rs C k e h).1) g_u_law_plus (fun rs C k e h => (h_lplus K A rs C k e h).1) g_u_law_power (fun rs C k e h => (h_lpower K A rs C k e h).1) g_u_law_times (fun rs C k e h => (h_ltimes K A rs C k e h).1) g_p_power (fun rs C k e h => (h_power K A rs C k e h).1) g_p_by (fun rs C k e h => (h_by K A rs C k e h).1) g_u_law_by (fun rs C k e h => (h_lby K A rs C k e h).1) (h_refused F) tb_u_law_pair_right tm_u_law_pair_right tu_u_law_pair_right (h_pair K A)
  have g_p_law := ok_p_law (P := l.prog) (w := w) (base := base) (A := A) F g_u_law_number (fun rs C k e h => (h_number K A rs C k e h).1) g_u_law_cell (fun rs C k e h => (h_cell K A rs C k e h).1) g_p_fraction (fun rs C k e h => (h_fraction K A rs C k e h).1) g_u_law_low (fun rs C k e h => (h_low K A rs C k e h).1) g_u_law_pair_right (fun rs C k e h => (h_pair K A rs C k e h).1) g_p_is_fraction (fun rs C k e h => (h_is_fraction K A rs C k e h).1) g_u_law_is_one (fun rs C k e h => (h_is_one K A rs C k e h).1) g_u_law_things (fun rs C k e h => (h_things K A rs C k e h).1) g_p_power (fun rs C k e h => (h_power K A rs C k e h).1) (h_refused F) tb_p_law tm_p_law tu_p_law (h_law K A)
  exact g_p_law
end GX
open PySem PySem.W PyProof.Rows
set_option maxRecDepth 100000 in
set_option maxHeartbeats 0 in
theorem PySem.Challenge.cw_hollowrise_k01_fractions_holds : PySem.Challenge.rw_hollowrise_k01_fractions.Holds := by
  w_on; o_law; k_head; (case hw => w_witness2)
  k_fill
  refine D3.walkG (l := PySem.Challenge.rw_hollowrise_k01_fractions) (k := 11) (x := "_law_script") rfl rfl ⟨rfl, by decide, by decide⟩ (fun w h Y => PySem.W.km_in_of Y) ?F
  case F =>
    intro w mg fa h Y KX G hmg
    have hT := PySem.W.km_tabs_of Y
    refine' GX.all_mk KX G hmg hT ?a_p_is_whole ?l_p_is_whole ?o_p_is_whole ?e_p_is_whole ?a_p_own_common ?l_p_own_common ?o_p_own_common ?e_p_own_common ?a_p_is_fraction ?l_p_is_fraction ?o_p_is_fraction ?e_p_is_fraction ?a_p_fraction ?l_p_fraction ?o_p_fraction ?e_p_fraction ?a_p_plus ?l_p_plus ?o_p_plus ?e_p_plus ?a_p_less ?l_p_less ?o_p_less ?e_p_less ?a_p_times ?l_p_times ?o_p_times ?e_p_times ?a_p_by ?l_p_by ?o_p_by ?e_p_by ?a_p_own_often ?l_p_own_often ?o_p_own_often ?e_p_own_often ?a_p_power ?l_p_power ?o_p_power ?e_p_power ?a_u_law_cell ?l_u_law_cell ?o_u_law_cell ?e_u_law_cell ?a_u_law_low ?l_u_law_low ?o_u_law_low ?e_u_law_low ?a_u_law_plus ?l_u_law_plus ?o_u_law_plus ?e_u_law_plus ?a_u_law_times ?l_u_law_times ?o_u_law_times ?e_u_law_times ?a_u_law_by ?l_u_law_by ?o_u_law_by ?e_u_law_by ?a_u_law_number ?l_u_law_number ?o_u_law_number ?e_u_law_number ?a_u_law_power ?l_u_law_power ?o_u_law_power ?e_u_law_power ?a_u_law_refused ?l_u_law_refused ?o_u_law_refused ?e_u_law_refused ?a_u_law_is_one ?l_u_law_is_one ?o_u_law_is_one ?e_u_law_is_one ?a_u_law_things ?l_u_law_things ?o_u_law_things ?e_u_law_things ?a_u_law_pair_right ?l_u_law_pair_right ?o_u_law_pair_right ?e_u_law_pair_right ?x_u_law_pair_right ?v_u_law_pair_right ?h_u_law_pair_right ?n_u_law_pair_right ?y_u_law_pair_right ?a_p_law ?l_p_law ?o_p_law ?e_p_law ?x_p_law ?v_p_law ?h_p_law ?n_p_law ?y_p_law ?z_ValueError ?z_abs ?z_all ?z_bool ?z_int ?z_isinstance ?z_len ?z_min ?z_range ?z_repr ?z_str ?z_tuple ?c_a_BadFraction ?c_a_BadRule ?c_a_BookError ?c_a_DeedError ?c_a_HollowError ?c_x_BadFraction ?c_k_BadFraction ?c_s_BadFraction ?c_t_BadFraction ?c_g_BadFraction ?c_h_BadFraction ?c_d_BadFraction ?c_c_BadFraction ?c_m_BadFraction ?c_i_BadFraction_BadFraction ?c_i_BadFraction_BadRule ?c_i_BadFraction_ValueError ?c_e_BadFraction_HollowError_DeedError_BookError ?c_n_BadFraction ?c_n_BadRule ?g_n ?g_t ?d_u_law_pair_right_p_law ?d_p_law_u_law_pair_right
    case a_p_is_whole => k_is
    case l_p_is_whole => k_is
    case o_p_is_whole => k_is
    case e_p_is_whole => k_is
    case a_p_own_common => k_is
    case l_p_own_common => k_is
    case o_p_own_common => k_is
    case e_p_own_common => k_is
    case a_p_is_fraction => k_is
    case l_p_is_fraction => k_is
    case o_p_is_fraction => k_is
    case e_p_is_fraction => k_is
    case a_p_fraction => k_is
    case l_p_fraction => k_is
    case o_p_fraction => k_is
    case e_p_fraction => k_is
    case a_p_plus => k_is
    case l_p_plus => k_is
    case o_p_plus => k_is
    case e_p_plus => k_is
    case a_p_less => k_is
    case l_p_less => k_is
    case o_p_less => k_is
    case e_p_less => k_is
    case a_p_times => k_is
    case l_p_times => k_is
    case o_p_times => k_is
    case e_p_times => k_is
    case a_p_by => k_is
    case l_p_by => k_is
    case o_p_by => k_is
    case e_p_by => k_is
    case a_p_own_often => k_is
    case l_p_own_often => k_is
    case o_p_own_often => k_is
    case e_p_own_often => k_is
    case a_p_power => k_is
    case l_p_power => k_is
    case o_p_power => k_is
    case e_p_power => k_is
    case a_u_law_cell => k_is
    case l_u_law_cell => k_is
    case o_u_law_cell => k_is
    case e_u_law_cell => k_is
    case a_u_law_low => k_is
    case l_u_law_low => k_is
    case o_u_law_low => k_is
    case e_u_law_low => k_is
    case a_u_law_plus => k_is
    case l_u_law_plus => k_is
    case o_u_law_plus => k_is
    case e_u_law_plus => k_is
    case a_u_law_times => k_is
    case l_u_law_times => k_is
    case o_u_law_times => k_is
    case e_u_law_times => k_is
    case a_u_law_by => k_is
    case l_u_law_by => k_is
    case o_u_law_by => k_is
    case e_u_law_by => k_is
    case a_u_law_number => k_is
    case l_u_law_number => k_is
    case o_u_law_number => k_is
    case e_u_law_number => k_is
    case a_u_law_power => k_is
    case l_u_law_power => k_is
    case o_u_law_power => k_is
    case e_u_law_power => k_is
    case a_u_law_refused => k_is
    case l_u_law_refused => k_is
    case o_u_law_refused => k_is
    case e_u_law_refused => k_is
    case a_u_law_is_one => k_is
    case l_u_law_is_one => k_is
    case o_u_law_is_one => k_is
    case e_u_law_is_one => k_is
    case a_u_law_things => k_is
    case l_u_law_things => k_is
    case o_u_law_things => k_is
    case e_u_law_things => k_is
    case a_u_law_pair_right => k_is
    case l_u_law_pair_right => k_is
    case o_u_law_pair_right => k_is
    case e_u_law_pair_right => k_is
    case x_u_law_pair_right => k_is
    case v_u_law_pair_right => rfl
    case h_u_law_pair_right => kernel_rfl
    case n_u_law_pair_right => kernel_rfl
    case y_u_law_pair_right => decide
    case a_p_law => k_is
    case l_p_law => k_is
    case o_p_law => k_is
    case e_p_law => k_is
    case x_p_law => k_is
    case v_p_law => rfl
    case h_p_law => kernel_rfl
    case n_p_law => kernel_rfl
    case y_p_law => decide
    case z_ValueError => k_is
    case z_abs => k_is
    case z_all => k_is
    case z_bool => k_is
    case z_int => k_is
    case z_isinstance => k_is
    case z_len => k_is
    case z_min => k_is
    case z_range => k_is
    case z_repr => k_is
    case z_str => k_is
    case z_tuple => k_is
    case c_a_BadFraction => k_is
    case c_a_BadRule => k_is
    case c_a_BookError => k_is
    case c_a_DeedError => k_is
    case c_a_HollowError => k_is
    case c_x_BadFraction => kernel_rfl
    case c_k_BadFraction => k_is
    case c_s_BadFraction => k_is
    case c_t_BadFraction => k_is
    case c_g_BadFraction => k_is
    case c_h_BadFraction => k_is
    case c_d_BadFraction => k_is
    case c_c_BadFraction => k_is
    case c_m_BadFraction => k_is
    case c_i_BadFraction_BadFraction => kernel_rfl
    case c_i_BadFraction_BadRule => kernel_rfl
    case c_i_BadFraction_ValueError => kernel_rfl
    case c_e_BadFraction_HollowError_DeedError_BookError => kernel_rfl
    case c_n_BadFraction => kernel_rfl
    case c_n_BadRule => kernel_rfl
    case g_n => k_is
    case g_t => k_is
    case d_u_law_pair_right_p_law => decide
    case d_p_law_u_law_pair_right => decide
