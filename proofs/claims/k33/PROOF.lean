import PyProof.Rows.All
import Wide.All
import OpenK.AllK
import Wide.FinOn
import HandS.ForMost
import HandS.Exc
import HandS.CallSlots
import HandS.Deep
import KE.KDictKeyed
import KE.KeyNested
import HandS.TupAny
import HandS.TupMul
import HandS.Conv
import HandS.Style
import HandS.IsInst
import HandS.ExcCtx
import HandS.ExcOwn
import HandS.WordsExc
import HandS.Iter
import HandS.Zip
import HandS.TupLen
import HandS.WordsDict
import KE.SortData
import KE.DataMinMax
import KE.DataAny
import HandS.EndBits
import KE.GoesMore
import HandS.Dict
import HandS.TupLe
import HandS.DictComp
import HandS.Steps
import KE.KDictSum
import PyProof.Transfer
import HandS.TupSets
import KE.KTupSum
import PyProof.Rows.TupMore
import HandS.SetFor
import HandS.Strs
import HandS.More
import HandS.ExcInit
import HandS.ExcField
import HandS.HotCalls
import PySem.Challenge.RW_movesworth_k33_whole_places_taken
set_option Elab.async false
set_option linter.all false
set_option autoImplicit false
set_option maxRecDepth 100000
namespace G
open PySem PySem.Spec PyProof.Rows L2

/-! ### data, cells, results -/
/-- a value of the plain run: data, the name of a cell, the script, a range, a dict that is read for good -/
inductive D where
  | v (x : PyData) | r (n : Nat) | k (xs : List PyData) | g (lo hi : Int) | z (kvs : List (PyData × PyData)) | y (kvs : List (Key × PyData))
inductive Cell where
  | lst (xs : List PyData) | dk (kvs : List (Key × PyData)) | dt (kvs : List (PyData × PyData)) | dead
abbrev Store := List Cell
abbrev DEnv := List (Option D)
structure Exn where
  cls : String
  args : List PyData
inductive Res (α : Type) where
  | ok (a : α) (S : Store) | exc (x : Exn) (S : Store) | stuck
@[inline] def Res.bind {α β : Type} (r : Res α) (f : α → Store → Res β) : Res β := match r with
  | .ok a S => f a S | .exc x S => .exc x S | .stuck => .stuck
theorem bind_ok {α β : Type} (a : α) (S : Store) (f : α → Store → Res β) : (Res.ok a S).bind f = f a S := rfl

/-! ### keys -/
mutual
def keyN : PyData → Option NestedKey
  | .none => some .none
  | .bool b => some (.num (if b then 1 else 0))
  | .int i => some (.num i)
  | .str x => some (.text x)
  | .tuple xs => (keyNs xs).map .tup
  | .list _ => none
  | .dict _ => none
def keyNs : List PyData → Option (List NestedKey)
  | [] => some []
  | x :: xs => match keyN x, keyNs xs with
    | some k, some ks => some (k :: ks)
    | _, _ => none
end
def keyA : PyData → Option Key
  | .int i => some (.inl i)
  | .str x => some (.inr x)
  | _ => none
def dataA : Key → PyData
  | .inl i => .int i
  | .inr x => .str x

/-! ### how data stands in the heap -/
/-- where the cells stand; and what stands but is not to be known (a list that is being made) -/
structure AM where
  c : List (Option Addr)
  b : List Addr
  pw : Program × World
def AM.no (α : AM) (a : Addr) : Prop := some a ∉ α.c ∧ a ∉ α.b
def AM.push (α : AM) (p : Addr) : AM := ⟨α.c ++ [some p], α.b, α.pw⟩
def AM.kill (α : AM) (n : Nat) : AM := ⟨α.c.set n none, α.b, α.pw⟩
def AM.take (α : AM) (n : Nat) : AM := ⟨α.c.take n, α.b, α.pw⟩
section
variable (K : PySem.W.Frag) (α : AM) (H : Hp)
def ImL (a : Addr) (xs : List V) : Prop := Rd H a (.lst xs) ∧ α.no a
def ImT (a : Addr) (xs : List V) : Prop := (Rd H a (.tup xs) ∧ α.no a) ∨
  ∃ (o : Obj) (its : Array Value) (n : Nat), K.lookup a = some o ∧ o.cls = .type "tuple" ∧ o.data = .seq its n ∧ its.size ≤ sizeLine ∧ Vals xs its.toList
/-- a list of the written part -/
def KL (a : Addr) (xs : List V) : Prop := ∃ (o : Obj) (its : Array Value) (n : Nat), K.lookup a = some o ∧ o.cls = .type "list" ∧ o.dict = none ∧ o.data = .seq its n ∧ its.size ≤ sizeLine ∧ Vals xs its.toList
mutual
inductive Rp : V → PyData → Prop
  | non : Rp .non .none
  | bl (b : Bool) : Rp (.bl b) (.bool b)
  | int (i : Int) : Rp (.int i) (.int i)
  | str (x : Str) : Rp (.str x) (.str x)
  | lst {a : Addr} {xs : List V} {ds : List PyData} : ImL α H a xs → RpL xs ds → Rp (.ref a) (.list ds)
  | tup {a : Addr} {xs : List V} {ds : List PyData} : ImT K α H a xs → RpL xs ds → Rp (.ref a) (.tuple ds)
inductive RpL : List V → List PyData → Prop
  | nil : RpL [] []
  | cons {v : V} {vs : List V} {d : PyData} {ds : List PyData} : Rp v d → RpL vs ds → RpL (v :: vs) (d :: ds)
end
end
def exactO (a : Addr) (o : Obj) : HO := .ext fun h => h.get? a = some o
section
variable (P : Program) (w : World) (K : PySem.W.Frag) (α : AM) (H : Hp)
def CellRep (a : Addr) : Cell → Prop
  | .lst xs => ∃ vs, H a = some (.lst vs) ∧ RpL K α H vs xs
  | .dk kvs => ∃ kv : List (Key × V), H a = some (.dK kv) ∧ Paired (fun (p : Key × V) (q : Key × PyData) => p.1 = q.1 ∧ Rp K α H p.2 q.2) kv kvs
  | .dt kvs => ∃ (o : Obj) (es : Array DictEntry) (ep : Nat) (xs : List (NestedKey × Addr × Value)), H a = some (exactO a o) ∧ (a == sysModules) = false ∧ o.ExactDict ∧ o.data = .dict es ep ∧
      es.toList = xs.map (entryOfKey (nestedKind P w)) ∧ (xs.map (·.1)).Nodup ∧ kvs.length ≤ sizeLine ∧
      Paired (fun (x : NestedKey × Addr × Value) (q : PyData × PyData) => keyN q.1 = some x.1 ∧ x.1.depth ≤ 8 ∧ Rp K α H (.ref x.2.1) q.1 ∧ ∃ v, RelV v x.2.2 ∧ Rp K α H v q.2) xs kvs
  | .dead => False
end
section
variable (K : PySem.W.Frag) (α : AM) (H : Hp)
def RepD : V → D → Prop
  | v, .v x => Rp K α H v x
  | v, .r n => n < α.c.length ∧ ∀ a, α.c[n]? = some (some a) → v = .ref a
  | v, .k xs => ∃ a vs, v = .ref a ∧ (ImL α H a vs ∨ KL K a vs) ∧ RpL K α H vs xs
  | v, .g lo hi => ∃ a, v = .ref a ∧ H a = some (.rng lo hi) ∧ α.no a
  | v, .z kvs => ∃ a, v = .ref a ∧ CellRep α.pw.1 α.pw.2 K α H a (.dt kvs) ∧ α.no a
  | v, .y kvs => ∃ (a : Addr) (o : Obj) (kv : List (Key × V)), v = .ref a ∧ H a = some (.frz o (.dK kv)) ∧ α.no a ∧ Paired (fun (p : Key × V) (q : Key × PyData) => p.1 = q.1 ∧ Rp K α H p.2 q.2) kv kvs
abbrev RepDs : List V → List D → Prop := Paired (RepD K α H)
structure RE (σ : L2.St) (env : DEnv) : Prop where
  len : σ.length = env.length
  get : ∀ (i : Nat) (d : D), env[i]? = some (some d) → ∃ v, σ[i]? = some (some v) ∧ RepD K α H v d
end
/-- what is known stays; cells stay or die -/
def Keep (α : AM) (H : Hp) (α' : AM) (H' : Hp) : Prop := ∀ a o, H a = some o → α.no a → H' a = some o ∧ α'.no a
structure Ext (α : AM) (H : Hp) (α' : AM) (H' : Hp) : Prop where
  keep : Keep α H α' H'
  ref : ∀ (n : Nat) (x : Option Addr), α.c[n]? = some x → α'.c[n]? = some x ∨ α'.c[n]? = some none
  bl : α'.b = α.b
  blk : ∀ a ∈ α.b, H' a = H a
  pw : α'.pw = α.pw
theorem Ext.refl (α : AM) (H : Hp) : Ext α H α H := ⟨fun _ _ h h' => ⟨h, h'⟩, fun _ _ h => .inl h, rfl, fun _ _ => rfl, rfl⟩
theorem Ext.trans {α β γ : AM} {H1 H2 H3 : Hp} (a : Ext α H1 β H2) (b : Ext β H2 γ H3) : Ext α H1 γ H3 := by
  refine ⟨fun x o h h' => let ⟨h1, h2⟩ := a.keep x o h h'; b.keep x o h1 h2, fun n x h => ?_, b.bl.trans a.bl, fun x h => (b.blk x (by rw [a.bl]; exact h)).trans (a.blk x h), b.pw.trans a.pw⟩
  rcases a.ref n x h with q | q
  · exact b.ref n x q
  · rcases b.ref n none q with q | q <;> exact .inr q
theorem Ext.len {α α' : AM} {H H' : Hp} (e : Ext α H α' H') {n : Nat} (h : n < α.c.length) : n < α'.c.length := by
  rcases e.ref n _ (List.getElem?_eq_getElem h) with q | q <;> exact (List.getElem?_eq_some_iff.mp q).1
section
variable {K : PySem.W.Frag} {α α' : AM} {H H' : Hp}
theorem ImL.keep (e : Keep α H α' H') {a : Addr} {xs : List V} (h : ImL α H a xs) : ImL α' H' a xs := by
  obtain ⟨h | ⟨o, h⟩, n⟩ := h
  · obtain ⟨h1, h2⟩ := e _ _ h n; exact ⟨.inl h1, h2⟩
  · obtain ⟨h1, h2⟩ := e _ _ h n; exact ⟨.inr ⟨o, h1⟩, h2⟩
theorem ImT.keep (e : Keep α H α' H') {a : Addr} {xs : List V} (h : ImT K α H a xs) : ImT K α' H' a xs := by
  rcases h with ⟨h | ⟨o, h⟩, n⟩ | h
  · obtain ⟨h1, h2⟩ := e _ _ h n; exact .inl ⟨.inl h1, h2⟩
  · obtain ⟨h1, h2⟩ := e _ _ h n; exact .inl ⟨.inr ⟨o, h1⟩, h2⟩
  · exact .inr h
theorem ImL.sq {a : Addr} {xs : List V} (h : ImL α H a xs) : SqL K H a xs := .inl h.1
theorem ImT.sq {a : Addr} {xs : List V} (h : ImT K α H a xs) : SqT K H a xs := h.imp (·.1) id
mutual
theorem Rp.keep (e : Keep α H α' H') : ∀ {v : V} {d : PyData}, Rp K α H v d → Rp K α' H' v d
  | _, _, .non => .non
  | _, _, .bl b => .bl b
  | _, _, .int i => .int i
  | _, _, .str x => .str x
  | _, _, .lst h r => .lst (h.keep e) (RpL.keep e r)
  | _, _, .tup h r => .tup (h.keep e) (RpL.keep e r)
theorem RpL.keep (e : Keep α H α' H') : ∀ {vs : List V} {ds : List PyData}, RpL K α H vs ds → RpL K α' H' vs ds
  | _, _, .nil => .nil
  | _, _, .cons h r => .cons (Rp.keep e h) (RpL.keep e r)
end
theorem Rp.ext (e : Ext α H α' H') {v : V} {d : PyData} (h : Rp K α H v d) : Rp K α' H' v d := h.keep e.keep
theorem RpL.ext (e : Ext α H α' H') {vs : List V} {ds : List PyData} (h : RpL K α H vs ds) : RpL K α' H' vs ds := h.keep e.keep
mutual
theorem Rp.dp : ∀ {v : V} {d : PyData}, Rp K α H v d → Dp K H v d
  | _, _, .non => .non
  | _, _, .bl b => .bl b
  | _, _, .int i => .int i
  | _, _, .str x => .str x
  | _, _, .lst h r => .lst h.sq (RpL.dp r)
  | _, _, .tup h r => .tup h.sq (RpL.dp r)
theorem RpL.dp : ∀ {vs : List V} {ds : List PyData}, RpL K α H vs ds → DpAll K H vs ds
  | _, _, .nil => .nil
  | _, _, .cons h r => .cons (Rp.dp h) (RpL.dp r)
end
theorem RpL.length : ∀ {vs : List V} {ds : List PyData}, RpL K α H vs ds → vs.length = ds.length
  | _, _, .nil => rfl
  | _, _, .cons _ r => by simp [RpL.length r]
theorem RpL.get : ∀ {vs : List V} {ds : List PyData} {i : Nat} {d : PyData}, RpL K α H vs ds → ds[i]? = some d → ∃ v, vs[i]? = some v ∧ Rp K α H v d
  | _, _, _, _, .nil, e => by simp at e
  | _, _, 0, _, .cons h _, e => by simp at e; subst e; exact ⟨_, rfl, h⟩
  | _, _, i + 1, d, .cons _ r, e => by
    obtain ⟨v, h1, h2⟩ := RpL.get (i := i) (d := d) r (by simpa using e)
    exact ⟨v, by simpa using h1, h2⟩
theorem RpL.append : ∀ {vs ws : List V} {ds es : List PyData}, RpL K α H vs ds → RpL K α H ws es → RpL K α H (vs ++ ws) (ds ++ es)
  | _, _, _, _, .nil, s => s
  | _, _, _, _, .cons h r, s => .cons h (RpL.append r s)
theorem RpL.take : ∀ {vs : List V} {ds : List PyData} (n : Nat), RpL K α H vs ds → RpL K α H (vs.take n) (ds.take n)
  | _, _, 0, _ => by simpa using RpL.nil
  | _, _, _ + 1, .nil => .nil
  | _, _, n + 1, .cons h r => .cons h (RpL.take n r)
theorem RpL.drop : ∀ {vs : List V} {ds : List PyData} (n : Nat), RpL K α H vs ds → RpL K α H (vs.drop n) (ds.drop n)
  | _, _, 0, r => r
  | _, _, _ + 1, .nil => .nil
  | _, _, n + 1, .cons _ r => RpL.drop n r
theorem RpL.set {v : V} {d : PyData} (h : Rp K α H v d) : ∀ {vs : List V} {ds : List PyData} (i : Nat), RpL K α H vs ds → RpL K α H (vs.set i v) (ds.set i d)
  | _, _, _, .nil => .nil
  | _, _, 0, .cons _ r => .cons h r
  | _, _, i + 1, .cons q r => .cons q (RpL.set h i r)
theorem RpL.reverse : ∀ {vs : List V} {ds : List PyData}, RpL K α H vs ds → RpL K α H vs.reverse ds.reverse
  | _, _, .nil => .nil
  | _, _, .cons h r => by rw [List.reverse_cons, List.reverse_cons]; exact (RpL.reverse r).append (.cons h .nil)
theorem RpL.dropLast {vs : List V} {ds : List PyData} (h : RpL K α H vs ds) : RpL K α H vs.dropLast ds.dropLast := by
  rw [List.dropLast_eq_take, List.dropLast_eq_take, h.length]; exact h.take _
theorem RpL.snoc {vs : List V} {ds : List PyData} {v : V} {d : PyData} (h : RpL K α H vs ds) (r : Rp K α H v d) : RpL K α H (vs ++ [v]) (ds ++ [d]) := h.append (.cons r .nil)
theorem RpL.of_forall {vs : List V} {ds : List PyData} (hl : vs.length = ds.length) (h : ∀ (i : Nat) (v : V) (d : PyData), vs[i]? = some v → ds[i]? = some d → Rp K α H v d) : RpL K α H vs ds := by
  induction vs generalizing ds with
  | nil => cases ds with
    | nil => exact .nil
    | cons => simp at hl
  | cons v vs ih => cases ds with
    | nil => simp at hl
    | cons d ds => exact .cons (h 0 v d rfl rfl) (ih (by simpa using hl) fun i v d h1 h2 => h (i + 1) v d (by simpa using h1) (by simpa using h2))
theorem RpL.ints : ∀ {vs : List V} {ns : List Int}, RpL K α H vs (ns.map .int) → vs = ns.map V.int
  | _, [], .nil => rfl
  | _, n :: ns, .cons h r => by cases h; rw [RpL.ints r]; rfl
theorem RpL.mkInts : ∀ (ns : List Int), RpL K α H (ns.map V.int) (ns.map .int)
  | [] => .nil
  | n :: ns => .cons (.int n) (RpL.mkInts ns)
theorem RpL.bools : ∀ {vs : List V} {ns : List Bool}, RpL K α H vs (ns.map .bool) → vs = ns.map V.bl
  | _, [], .nil => rfl
  | _, n :: ns, .cons h r => by cases h; rw [RpL.bools r]; rfl
end
section
variable {P : Program} {w : World} {K : PySem.W.Frag} {α α' : AM} {H H' : Hp}
theorem CellRep.tracked {a : Addr} {c : Cell} (h : CellRep P w K α H a c) : ∃ o, H a = some o := by
  cases c with
  | lst xs => obtain ⟨vs, h, _⟩ := h; exact ⟨_, h⟩
  | dk kvs => obtain ⟨kv, h, _⟩ := h; exact ⟨_, h⟩
  | dt kvs => obtain ⟨o, es, ep, xs, h, _⟩ := h; exact ⟨_, h⟩
  | dead => exact h.elim
theorem CellRep.keep (e : Keep α H α' H') {a : Addr} {c : Cell} (h : CellRep P w K α H a c) (ha : H' a = H a) : CellRep P w K α' H' a c := by
  cases c with
  | lst xs => obtain ⟨vs, h, r⟩ := h; exact ⟨vs, ha.trans h, r.keep e⟩
  | dk kvs => obtain ⟨kv, h, r⟩ := h; exact ⟨kv, ha.trans h, Paired.mapP r fun _ _ z => ⟨z.1, z.2.keep e⟩⟩
  | dt kvs =>
    obtain ⟨o, es, ep, xs, h, h1, h2, h3, h4, h5, h6, r⟩ := h
    exact ⟨o, es, ep, xs, ha.trans h, h1, h2, h3, h4, h5, h6, Paired.mapP r fun _ _ z => ⟨z.1, z.2.1, z.2.2.1.keep e, let ⟨v, a, b⟩ := z.2.2.2; ⟨v, a, b.keep e⟩⟩⟩
  | dead => exact h.elim
end
section
variable {K : PySem.W.Frag} {α α' : AM} {H H' : Hp}
theorem RepD.ext (e : Ext α H α' H') {v : V} {d : D} (h : RepD K α H v d) : RepD K α' H' v d := by
  cases d with
  | v x => exact Rp.ext e h
  | k xs => obtain ⟨a, vs, h1, h2, h3⟩ := h; exact ⟨a, vs, h1, h2.imp (·.keep e.keep) id, h3.ext e⟩
  | g lo hi => obtain ⟨a, h1, h2, h3⟩ := h; obtain ⟨h4, h5⟩ := e.keep a _ h2 h3; exact ⟨a, h1, h4, h5⟩
  | z kvs =>
    obtain ⟨a, h1, h2, h3⟩ := h
    obtain ⟨o, ho⟩ := h2.tracked
    obtain ⟨h4, h5⟩ := e.keep a _ ho h3
    refine ⟨a, h1, ?_, h5⟩
    rw [e.pw]
    exact h2.keep e.keep (h4.trans ho.symm)
  | y kvs =>
    obtain ⟨a, o, kv, h1, h2, h3, r⟩ := h
    obtain ⟨h4, h5⟩ := e.keep a _ h2 h3
    exact ⟨a, o, kv, h1, h4, h5, Paired.mapP r fun _ _ z => ⟨z.1, z.2.keep e.keep⟩⟩
  | r n =>
    obtain ⟨h1, h2⟩ := h
    refine ⟨e.len h1, fun a q => ?_⟩
    rcases e.ref n _ (List.getElem?_eq_getElem h1) with z | z
    · refine h2 a ?_
      rw [q] at z
      rw [List.getElem?_eq_getElem h1, ← z]
    · rw [q] at z; cases z
theorem RE.ext (e : Ext α H α' H') {σ : L2.St} {env : DEnv} (h : RE K α H σ env) : RE K α' H' σ env :=
  ⟨h.len, fun i d q => let ⟨v, h1, h2⟩ := h.get i d q; ⟨v, h1, h2.ext e⟩⟩
theorem RE.set {σ : L2.St} {env : DEnv} (h : RE K α H σ env) {i : Nat} {v : V} {d : D} (r : RepD K α H v d) : RE K α H (σ.set i (some v)) (env.set i (some d)) := by
  refine ⟨by simpa using h.len, fun j e q => ?_⟩
  by_cases hj : i = j
  · subst hj
    have hl : i < env.length := by
      have := (List.getElem?_eq_some_iff.mp q).1; simpa using this
    rw [List.getElem?_set_self hl] at q
    cases q
    exact ⟨v, List.getElem?_set_self (by rw [h.len]; exact hl), r⟩
  · rw [List.getElem?_set_ne hj] at q ⊢
    exact h.get j e q
theorem RepDs.ext (e : Ext α H α' H') {vs : List V} {ds : List D} (h : RepDs K α H vs ds) : RepDs K α' H' vs ds := Paired.mapP h fun _ _ r => r.ext e
end

/-! ### cells -/
section
variable (P : Program) (w : World) (K : PySem.W.Frag) (α : AM) (H : Hp)
structure WR (S : Store) : Prop where
  len : α.c.length = S.length
  one : ∀ (i j : Nat) (a : Addr), α.c[i]? = some (some a) → α.c[j]? = some (some a) → i = j
  cell : ∀ (n : Nat) (c : Cell) (a : Addr), S[n]? = some c → α.c[n]? = some (some a) → CellRep P w K α H a c
  /-- a cell that is not dead has an address -/
  live : ∀ (n : Nat) (c : Cell), S[n]? = some c → c ≠ .dead → ∃ a, α.c[n]? = some (some a)
  bl : ∀ a ∈ α.b, some a ∉ α.c ∧ ∃ o, H a = some o
  pw : α.pw = (P, w)
end
section
variable {P : Program} {w : World} {K : PySem.W.Frag} {α α' : AM} {H H' : Hp} {S : Store}
theorem CellRep.ext (e : Ext α H α' H') {a : Addr} {c : Cell} (h : CellRep P w K α H a c) (ha : H' a = H a) : CellRep P w K α' H' a c := h.keep e.keep ha
theorem WR.tracked (x : WR P w K α H S) {n : Nat} {a : Addr} (h : α.c[n]? = some (some a)) : ∃ o, H a = some o := by
  have hn : n < S.length := by rw [← x.len]; exact (List.getElem?_eq_some_iff.mp h).1
  exact (x.cell n _ a (List.getElem?_eq_getElem hn) h).tracked
theorem WR.fresh (x : WR P w K α H S) {p : Addr} (h : H p = none) : α.no p := by
  refine ⟨fun m => ?_, fun m => ?_⟩
  · obtain ⟨i, hi⟩ := List.mem_iff_getElem?.mp m
    obtain ⟨o, q⟩ := x.tracked hi
    rw [h] at q; cases q
  · obtain ⟨_, o, q⟩ := x.bl p m
    rw [h] at q; cases q
/-- a new thing that never changes -/
theorem Ext.new (x : WR P w K α H S) {p : Addr} {o : HO} (hp : H p = none) : Ext α H α (upd H p o) :=
  ⟨fun a u h n => ⟨by rw [upd_ne (ne_of_none h hp)]; exact h, n⟩, fun _ _ h => .inl h, rfl, fun a h => upd_ne fun z => (x.fresh hp).2 (by rw [← z]; exact h), rfl⟩
theorem WR.new (x : WR P w K α H S) {p : Addr} {o : HO} (hp : H p = none) : WR P w K α (upd H p o) S :=
  ⟨x.len, x.one, fun n c a h1 h2 => by
    have q := x.cell n c a h1 h2
    obtain ⟨u, hu⟩ := q.tracked
    exact q.ext (Ext.new x hp) (upd_ne (ne_of_none hu hp)), x.live, fun a h => let ⟨h1, o, h2⟩ := x.bl a h; ⟨h1, o, by rw [upd_ne (ne_of_none h2 hp)]; exact h2⟩, x.pw⟩
/-- a new cell -/
theorem Ext.alloc (x : WR P w K α H S) {p : Addr} {o : HO} (hp : H p = none) : Ext α H (α.push p) (upd H p o) :=
  ⟨fun a u h n => ⟨by rw [upd_ne (ne_of_none h hp)]; exact h, ⟨(fun m => by
    rcases List.mem_append.mp m with m | m
    · exact n.1 m
    · rw [List.mem_singleton] at m; cases m; rw [h] at hp; cases hp), n.2⟩⟩, fun n y h => .inl (by show (α.c ++ [some p])[n]? = _; rw [List.getElem?_append_left (List.getElem?_eq_some_iff.mp h).1]; exact h), rfl, fun a h => upd_ne fun z => (x.fresh hp).2 (by rw [← z]; exact h), rfl⟩
theorem WR.alloc (x : WR P w K α H S) {p : Addr} {o : HO} {c : Cell} (hp : H p = none) (hc : CellRep P w K (α.push p) (upd H p o) p c) : WR P w K (α.push p) (upd H p o) (S ++ [c]) := by
  have hl : α.c.length = S.length := x.len
  have old : ∀ {i : Nat} {y : Option Addr}, (α.c ++ [some p])[i]? = some y → (i < α.c.length ∧ α.c[i]? = some y) ∨ (i = α.c.length ∧ y = some p) := fun {i y} h => by
    by_cases hi : i < α.c.length
    · rw [List.getElem?_append_left hi] at h; exact .inl ⟨hi, h⟩
    · have e := (List.getElem?_eq_some_iff.mp h).1
      rw [List.length_append, List.length_singleton] at e
      have e2 : i = α.c.length := by omega
      subst e2
      rw [List.getElem?_append_right (Nat.le_refl _)] at h
      simp at h
      exact .inr ⟨rfl, h.symm⟩
  refine ⟨by simp [AM.push, hl], fun i j a h1 h2 => ?_, fun n c' a h1 h2 => ?_, fun n c' h1 h2 => ?_, fun a h => ?_, x.pw⟩
  · rcases old h1 with ⟨i1, q1⟩ | ⟨i1, q1⟩ <;> rcases old h2 with ⟨j1, q2⟩ | ⟨j1, q2⟩
    · exact x.one i j a q1 q2
    · cases q2; obtain ⟨o, q⟩ := x.tracked q1; rw [hp] at q; cases q
    · cases q1; obtain ⟨o, q⟩ := x.tracked q2; rw [hp] at q; cases q
    · omega
  · rcases old h2 with ⟨i1, q1⟩ | ⟨i1, q1⟩
    · rw [List.getElem?_append_left (by omega)] at h1
      have q := x.cell n c' a h1 q1
      obtain ⟨u, hu⟩ := q.tracked
      exact q.ext (Ext.alloc x hp) (upd_ne (ne_of_none hu hp))
    · cases q1
      rw [List.getElem?_append_right (by omega)] at h1
      have : n - S.length = 0 := by omega
      rw [this] at h1
      simp at h1
      subst h1
      exact hc
  · by_cases hn : n < S.length
    · rw [List.getElem?_append_left hn] at h1
      obtain ⟨a, ha⟩ := x.live n c' h1 h2
      exact ⟨a, by show (α.c ++ [some p])[n]? = _; rw [List.getElem?_append_left (by omega)]; exact ha⟩
    · have e := (List.getElem?_eq_some_iff.mp h1).1
      rw [List.length_append, List.length_singleton] at e
      have e2 : n = α.c.length := by omega
      subst e2
      exact ⟨p, by show (α.c ++ [some p])[α.c.length]? = _; rw [List.getElem?_append_right (Nat.le_refl _)]; simp⟩
  · obtain ⟨h1, u, h2⟩ := x.bl a h
    refine ⟨fun m => ?_, u, by rw [upd_ne (ne_of_none h2 hp)]; exact h2⟩
    rcases List.mem_append.mp m with m | m
    · exact h1 m
    · rw [List.mem_singleton] at m; cases m; rw [h2] at hp; cases hp
/-- a cell is written -/
theorem Ext.write (x : WR P w K α H S) {n : Nat} {a : Addr} {o : HO} (ha : α.c[n]? = some (some a)) : Ext α H α (upd H a o) :=
  ⟨fun b u h m => ⟨by rw [upd_ne (fun z => m.1 (by rw [z]; exact List.mem_of_getElem? ha))]; exact h, m⟩, fun _ _ h => .inl h, rfl, fun b h => upd_ne fun z => (x.bl b h).1 (by rw [z]; exact List.mem_of_getElem? ha), rfl⟩
theorem WR.write (x : WR P w K α H S) {n : Nat} {a : Addr} {o : HO} {c : Cell} (ha : α.c[n]? = some (some a)) (hc : CellRep P w K α (upd H a o) a c) : WR P w K α (upd H a o) (S.set n c) := by
  refine ⟨by rw [List.length_set]; exact x.len, x.one, fun m c' b h1 h2 => ?_, fun m c' h1 h2 => ?_, fun b h => ?_, x.pw⟩
  · by_cases hm : n = m
    · subst hm
      rw [h2] at ha; cases ha
      have hl : n < S.length := by have := (List.getElem?_eq_some_iff.mp h1).1; simpa using this
      rw [List.getElem?_set_self hl] at h1
      cases h1
      exact hc
    · rw [List.getElem?_set_ne hm] at h1
      refine (x.cell m c' b h1 h2).ext (Ext.write x ha) (upd_ne fun z => hm ?_)
      subst z
      exact x.one _ _ _ ha h2
  · by_cases hm : n = m
    · subst hm; exact ⟨a, ha⟩
    · rw [List.getElem?_set_ne hm] at h1; exact x.live m c' h1 h2
  · obtain ⟨h1, u, h2⟩ := x.bl b h
    exact ⟨h1, u, by rw [upd_ne fun z => h1 (by rw [z]; exact List.mem_of_getElem? ha)]; exact h2⟩
/-- a cell is frozen: it is read from then on -/
theorem Ext.freeze {n : Nat} : Ext α H (α.kill n) H :=
  ⟨fun b u h m => ⟨h, ⟨(fun q => by
    rcases List.mem_or_eq_of_mem_set q with q | q
    · exact m.1 q
    · cases q), m.2⟩⟩, fun i y h => by
    show (α.c.set n none)[i]? = _ ∨ (α.c.set n none)[i]? = _
    by_cases hi : n = i
    · subst hi; exact .inr (List.getElem?_set_self (List.getElem?_eq_some_iff.mp h).1)
    · exact .inl (by rw [List.getElem?_set_ne hi]; exact h), rfl, fun _ _ => rfl, rfl⟩
theorem WR.freeze (x : WR P w K α H S) {n : Nat} : WR P w K (α.kill n) H (S.set n .dead) := by
  have old : ∀ {i : Nat} {b : Addr}, (α.c.set n none)[i]? = some (some b) → n ≠ i ∧ α.c[i]? = some (some b) := fun {i b} h => by
    by_cases hi : n = i
    · subst hi
      have hl : n < α.c.length := by have := (List.getElem?_eq_some_iff.mp h).1; simpa using this
      rw [List.getElem?_set_self hl] at h; cases h
    · rw [List.getElem?_set_ne hi] at h; exact ⟨hi, h⟩
  refine ⟨by show (α.c.set n none).length = _; rw [List.length_set, List.length_set]; exact x.len, fun i j a h1 h2 => x.one i j a (old h1).2 (old h2).2, fun m c a h1 h2 => ?_, fun m c h1 h2 => ?_, fun b h => ?_, x.pw⟩
  · obtain ⟨hm, q⟩ := old h2
    rw [List.getElem?_set_ne hm] at h1
    exact (x.cell m c a h1 q).ext Ext.freeze rfl
  · by_cases hm : n = m
    · subst hm
      have hl : n < S.length := by have := (List.getElem?_eq_some_iff.mp h1).1; simpa using this
      rw [List.getElem?_set_self hl] at h1; cases h1; exact absurd rfl h2
    · show ∃ a, (α.c.set n none)[m]? = _
      rw [List.getElem?_set_ne hm] at h1 ⊢; exact x.live m c h1 h2
  · obtain ⟨h1, u, h2⟩ := x.bl b h
    refine ⟨fun q => ?_, u, h2⟩
    rcases List.mem_or_eq_of_mem_set q with q | q
    · exact h1 q
    · cases q
theorem WR.frozen (x : WR P w K α H S) {n : Nat} {a : Addr} (ha : α.c[n]? = some (some a)) : (α.kill n).no a := by
  refine ⟨fun m => ?_, fun m => (x.bl a m).1 (List.mem_of_getElem? ha)⟩
  obtain ⟨i, hi⟩ := List.mem_iff_getElem?.mp m
  have hi : (α.c.set n none)[i]? = some (some a) := hi
  by_cases h : n = i
  · subst h
    have hl : n < α.c.length := (List.getElem?_eq_some_iff.mp ha).1
    rw [List.getElem?_set_self hl] at hi; cases hi
  · rw [List.getElem?_set_ne h] at hi; exact h (x.one _ _ _ ha hi)
/-- new cells are forgotten -/
theorem WR.take (x : WR P w K α H S) (n : Nat) : WR P w K (α.take n) H (S.take n) := by
  have old : ∀ {i : Nat} {y : Option Addr}, (α.c.take n)[i]? = some y → i < n ∧ α.c[i]? = some y := fun {i y} h => by
    have hi := (List.getElem?_eq_some_iff.mp h).1
    rw [List.length_take] at hi
    exact ⟨by omega, by rw [List.getElem?_take_of_lt (by omega)] at h; exact h⟩
  have oldS : ∀ {i : Nat} {y : Cell}, (S.take n)[i]? = some y → i < n ∧ S[i]? = some y := fun {i y} h => by
    have hi := (List.getElem?_eq_some_iff.mp h).1
    rw [List.length_take] at hi
    exact ⟨by omega, by rw [List.getElem?_take_of_lt (by omega)] at h; exact h⟩
  have k : Keep α H (α.take n) H := fun b o h m => ⟨h, fun z => m.1 (List.mem_of_mem_take z), m.2⟩
  refine ⟨by show (α.c.take n).length = _; rw [List.length_take, List.length_take, x.len], fun i j a h1 h2 => x.one i j a (old h1).2 (old h2).2, fun m c a h1 h2 => (x.cell m c a (oldS h1).2 (old h2).2).keep k rfl, fun m c h1 h2 => ?_, fun b h => ?_, x.pw⟩
  · obtain ⟨hm, q⟩ := oldS h1
    obtain ⟨a, ha⟩ := x.live m c q h2
    exact ⟨a, by show (α.c.take n)[m]? = _; rw [List.getElem?_take_of_lt hm]; exact ha⟩
  · obtain ⟨h1, u, h2⟩ := x.bl b h
    exact ⟨fun q => h1 (List.mem_of_mem_take q), u, h2⟩
theorem Ext.take (e : Ext α H α' H') : Ext α H (α'.take α.c.length) H' :=
  ⟨fun a o h n => let ⟨h1, h2⟩ := e.keep a o h n; ⟨h1, fun z => h2.1 (List.mem_of_mem_take z), h2.2⟩, fun n x h => by
    show (α'.c.take _)[n]? = _ ∨ (α'.c.take _)[n]? = _
    rw [List.getElem?_take_of_lt (List.getElem?_eq_some_iff.mp h).1]; exact e.ref n x h, e.bl, e.blk, e.pw⟩
/-! ### a list that is being made -/
def AM.block (α : AM) (p : Addr) : AM := ⟨α.c, p :: α.b, α.pw⟩
theorem WR.block (x : WR P w K α H S) {p : Addr} {o : HO} (hp : H p = none) : WR P w K (α.block p) (upd H p o) S := by
  have y := x.new (o := o) hp
  have k : Keep α H (α.block p) (upd H p o) := fun a u h n => ⟨by rw [upd_ne (ne_of_none h hp)]; exact h, ⟨n.1, fun m => by
    rcases List.mem_cons.mp m with m | m
    · subst m; rw [hp] at h; cases h
    · exact n.2 m⟩⟩
  refine ⟨x.len, x.one, fun n c a h1 h2 => ?_, x.live, fun a h => ?_, x.pw⟩
  · have q := x.cell n c a h1 h2
    obtain ⟨u, hu⟩ := q.tracked
    exact q.keep k (upd_ne (ne_of_none hu hp))
  · rcases List.mem_cons.mp h with h | h
    · subst h; exact ⟨(x.fresh hp).1, o, upd_same⟩
    · exact y.bl a h
theorem Keep.block (p : Addr) {o : HO} (hp : H p = none) : Keep α H (α.block p) (upd H p o) := fun a u h n => ⟨by rw [upd_ne (ne_of_none h hp)]; exact h, ⟨n.1, fun m => by
    rcases List.mem_cons.mp m with m | m
    · subst m; rw [hp] at h; cases h
    · exact n.2 m⟩⟩
/-- it grows -/
theorem Keep.grow {p : Addr} {o : HO} (hb : p ∈ α.b) : Keep α H α (upd H p o) := fun a u h n => ⟨by rw [upd_ne fun z => n.2 (by rw [z]; exact hb)]; exact h, n⟩
theorem WR.grow (x : WR P w K α H S) {p : Addr} {o : HO} (hb : p ∈ α.b) : WR P w K α (upd H p o) S := by
  refine ⟨x.len, x.one, fun n c a h1 h2 => (x.cell n c a h1 h2).keep (Keep.grow hb) (upd_ne fun z => (x.bl p hb).1 (by rw [← z]; exact List.mem_of_getElem? h2)), x.live, fun a h => ?_, x.pw⟩
  obtain ⟨h1, u, h2⟩ := x.bl a h
  by_cases z : a = p
  · subst z; exact ⟨h1, o, upd_same⟩
  · exact ⟨h1, u, by rw [upd_ne z]; exact h2⟩
end
end G

set_option Elab.async false
set_option linter.all false
set_option autoImplicit false
set_option maxRecDepth 100000
namespace G
open PySem PySem.Spec PyProof.Rows L2
abbrev St := L2.St

theorem peW {X : Cx} {e : Expr} {t t' : TE} (h : PE X e t) (k : ∀ σ H Q, t' σ H Q → t σ H Q) : PE X e t' := ⟨fun pins s σ H Q I q => h.run pins s σ H Q I (k σ H Q q)⟩
theorem ptW {X : Cx} {e : Expr} {t t' : TT} (h : PT X e t) (k : ∀ σ H Q, t' σ H Q → t σ H Q) : PT X e t' := ⟨fun pins s σ H Q I q => h.run pins s σ H Q I (k σ H Q q)⟩
theorem pwW {X : Cx} {e : Expr} {t t' : TT} (h : PW X e t) (k : ∀ σ H Q, t' σ H Q → t σ H Q) : PW X e t' := ⟨fun wh pins s σ H Q I q => h.run wh pins s σ H Q I (k σ H Q q)⟩
theorem paW {X : Cx} {e : List Expr} {t t' : TA} (h : PA X e t) (k : ∀ σ H Q, t' σ H Q → t σ H Q) : PA X e t' := ⟨fun pos pins s σ H Q I q => h.run pos pins s σ H Q I (k σ H Q q)⟩
theorem psW {X : Cx} {e : Stmt} {t t' : TS} (h : PS X e t) (k : ∀ D σ H, t' D σ H → t D σ H) : PS X e t' := ⟨fun pins s σ H D I q => h.run pins s σ H D I (k D σ H q)⟩
theorem pssW {X : Cx} {e : List Stmt} {t t' : TS} (h : PSs X e t) (k : ∀ D σ H, t' D σ H → t D σ H) : PSs X e t' := ⟨fun pins s σ H D I q => h.run pins s σ H D I (k D σ H q)⟩
theorem piW {X : Cx} {tg e : Expr} {t t' : TI} (h : PI X tg e t) (k : ∀ σ H Q, t' σ H Q → t σ H Q) : PI X tg e t' := ⟨fun pins s σ H Q I q => h.run pins s σ H Q I (k σ H Q q)⟩
theorem pgW {X : Cx} {e : Expr} {t t' : TG} (h : PG X e t) (k : ∀ v σ H Q, t' v σ H Q → t v σ H Q) : PG X e t' := ⟨fun pins s σ H v u Q I r q => h.run pins s σ H v u Q I r (k v σ H Q q)⟩
theorem pgsW {X : Cx} {e : List Expr} {t t' : TGs} (h : PGs X e t) (k : ∀ v σ H Q, t' v σ H Q → t v σ H Q) : PGs X e t' := ⟨fun pins s σ H v u Q I r q => h.run pins s σ H v u Q I r (k v σ H Q q)⟩

abbrev RXT := Exn → Value → Option Addr → AM → Hp → Prop
section
variable (X : Cx) (RX : RXT) (W : WX)
/-- what is wanted of a result -/
def OkP {β : Type} (α : AM) (H : Hp) (σ : St) (r : Res β) (P : β → Store → AM → Hp → Prop) : Prop := match r with
  | .ok a S' => ∀ α' H', Ext α H α' H' → WR X.prog X.w X.K α' H' S' → P a S' α' H'
  | .exc x S' => ∀ α' H' c dx, Ext α H α' H' → WR X.prog X.w X.K α' H' S' → RX x c dx α' H' → W c dx σ H'
  | .stuck => False
abbrev FE := DEnv → Store → Res D
abbrev FT := DEnv → Store → Res Bool
abbrev FA := DEnv → Store → Res (List D)
structure Here' (P : Program) (w : World) (K : PySem.W.Frag) (α : AM) (H : Hp) (σ : St) (env : DEnv) (S : Store) : Prop where
  re : RE K α H σ env
  wr : WR P w K α H S
abbrev Here := Here' X.prog X.w X.K
theorem Here'.ext {α α' : AM} {H H' : Hp} {σ : St} {env : DEnv} {S S' : Store} (h : Here X α H σ env S) (e : Ext α H α' H') (wr : WR X.prog X.w X.K α' H' S') : Here X α' H' σ env S' := ⟨h.re.ext e, wr⟩
def tE (f : FE) : TE := fun σ H Q => ∃ α env S, Here X α H σ env S ∧ OkP X RX W α H σ (f env S) fun d _ α' H' => ∀ v, RepD X.K α' H' v d → Q v H'
def tT (f : FT) : TT := fun σ H Q => ∃ α env S, Here X α H σ env S ∧ OkP X RX W α H σ (f env S) fun b _ _ H' => Q b H'
def tA (f : FA) : TA := fun σ H Q => ∃ α env S, Here X α H σ env S ∧ OkP X RX W α H σ (f env S) fun ds _ α' H' => ∀ vs, RepDs X.K α' H' vs ds → Q vs H'
abbrev DE (e : Expr) (f : FE) : Prop := PE X e (tE X RX W f)
abbrev DT (e : Expr) (f : FT) : Prop := PT X e (tT X RX W f)
abbrev DW (e : Expr) (f : FT) : Prop := PW X e (tT X RX W f)
abbrev DA (es : List Expr) (f : FA) : Prop := PA X es (tA X RX W f)
end
section
variable {X : Cx} {RX : RXT} {W : WX} {α α' : AM} {H H' : Hp} {σ : St} {S S' : Store} {env : DEnv}
theorem OkP.ext {β : Type} {r : Res β} {P : β → Store → AM → Hp → Prop} (h : OkP X RX W α H σ r P) (e : Ext α H α' H') : OkP X RX W α' H' σ r P := by
  cases r with
  | ok a S' => exact fun β2 H2 e2 => h β2 H2 (e.trans e2)
  | exc x S' => exact fun β2 H2 c dx e2 => h β2 H2 c dx (e.trans e2)
  | stuck => exact h
theorem OkP.imp {β : Type} {r : Res β} {P P' : β → Store → AM → Hp → Prop} (h : OkP X RX W α H σ r P) (k : ∀ a S α H, P a S α H → P' a S α H) : OkP X RX W α H σ r P' := by
  cases r with
  | ok a S' => exact fun β2 H2 e2 w2 => k _ _ _ _ (h β2 H2 e2 w2)
  | exc x S' => exact h
  | stuck => exact h
theorem OkP.bind {β γ : Type} {r : Res β} {g : β → Store → Res γ} {P : γ → Store → AM → Hp → Prop} (h : OkP X RX W α H σ (r.bind g) P) :
    OkP X RX W α H σ r fun a S1 α1 H1 => OkP X RX W α1 H1 σ (g a S1) P := by
  cases r with
  | ok a S' => exact fun β2 H2 e2 _ => h.ext e2
  | exc x S' => exact h
  | stuck => exact h
theorem OkP.get {β : Type} {a : β} {P : β → Store → AM → Hp → Prop} (h : OkP X RX W α H σ (.ok a S) P) (wr : WR X.prog X.w X.K α H S) : P a S α H := h α H (Ext.refl _ _) wr
/-- the first part of a sequence -/
theorem tE_seq {γ : Type} {f : FE} {g : D → Store → Res γ} {P : γ → Store → AM → Hp → Prop} {Q : VK} (h : Here X α H σ env S) (o : OkP X RX W α H σ ((f env S).bind g) P)
    (k : ∀ d S1 α1 H1 v, Ext α H α1 H1 → Here X α1 H1 σ env S1 → RepD X.K α1 H1 v d → OkP X RX W α1 H1 σ (g d S1) P → Q v H1) : tE X RX W f σ H Q := by
  refine ⟨α, env, S, h, ?_⟩
  have := o.bind
  cases hr : f env S with
  | ok a S' => rw [hr] at this; exact fun β2 H2 e2 w2 v rv => k a S' β2 H2 v e2 (h.ext X e2 w2) rv (this β2 H2 e2 w2)
  | exc x S' => rw [hr] at this; exact this
  | stuck => rw [hr] at this; exact this
theorem tT_seq {γ : Type} {f : FT} {g : Bool → Store → Res γ} {P : γ → Store → AM → Hp → Prop} {Q : Bool → Hp → Prop} (h : Here X α H σ env S) (o : OkP X RX W α H σ ((f env S).bind g) P)
    (k : ∀ b S1 α1 H1, Ext α H α1 H1 → Here X α1 H1 σ env S1 → OkP X RX W α1 H1 σ (g b S1) P → Q b H1) : tT X RX W f σ H Q := by
  refine ⟨α, env, S, h, ?_⟩
  have := o.bind
  cases hr : f env S with
  | ok a S' => rw [hr] at this; exact fun β2 H2 e2 w2 => k a S' β2 H2 e2 (h.ext X e2 w2) (this β2 H2 e2 w2)
  | exc x S' => rw [hr] at this; exact this
  | stuck => rw [hr] at this; exact this
theorem tA_seq {γ : Type} {f : FA} {g : List D → Store → Res γ} {P : γ → Store → AM → Hp → Prop} {Q : List V → Hp → Prop} (h : Here X α H σ env S) (o : OkP X RX W α H σ ((f env S).bind g) P)
    (k : ∀ ds S1 α1 H1 vs, Ext α H α1 H1 → Here X α1 H1 σ env S1 → RepDs X.K α1 H1 vs ds → OkP X RX W α1 H1 σ (g ds S1) P → Q vs H1) : tA X RX W f σ H Q := by
  refine ⟨α, env, S, h, ?_⟩
  have := o.bind
  cases hr : f env S with
  | ok a S' => rw [hr] at this; exact fun β2 H2 e2 w2 v rv => k a S' β2 H2 v e2 (h.ext X e2 w2) rv (this β2 H2 e2 w2)
  | exc x S' => rw [hr] at this; exact this
  | stuck => rw [hr] at this; exact this
/-- where it is the last part -/
theorem tE_last {f : FE} {Q : VK} (h : Here X α H σ env S) (o : OkP X RX W α H σ (f env S) fun d _ α' H' => ∀ v, RepD X.K α' H' v d → Q v H') : tE X RX W f σ H Q := ⟨α, env, S, h, o⟩
theorem tT_last {f : FT} {Q : Bool → Hp → Prop} (h : Here X α H σ env S) (o : OkP X RX W α H σ (f env S) fun b _ _ H' => Q b H') : tT X RX W f σ H Q := ⟨α, env, S, h, o⟩
end

/-! ### the plain run's operations -/
def okI (i : Int) (S : Store) : Res D := .ok (.v (.int i)) S
def okB (b : Bool) (S : Store) : Res D := .ok (.v (.bool b)) S
/-- two ints -/
def pI (f : Int → Int → Int) : D → D → Store → Res D
  | .v (.int i), .v (.int j), S => okI (f i j) S
  | _, _, _ => .stuck
def pIc (c : Int → Int → Bool) (f : Int → Int → Int) : D → D → Store → Res D
  | .v (.int i), .v (.int j), S => if c i j then okI (f i j) S else .stuck
  | _, _, _ => .stuck
def pB (f : Int → Int → Bool) : D → D → Store → Res D
  | .v (.int i), .v (.int j), S => okB (f i j) S
  | _, _, _ => .stuck
/-- the items of a list, a tuple, a list in a cell -/
def seqOf (S : Store) : D → Option (List PyData)
  | .k xs => some xs
  | .v (.list xs) => some xs
  | .v (.tuple xs) => some xs
  | .r n => match S[n]? with
    | some (.lst xs) => some xs
    | _ => none
  | _ => none
def small (n : Nat) : Bool := decide (n ≤ 16000000)
def dAdd : D → D → Store → Res D
  | .v (.int i), .v (.int j), S => okI (i + j) S
  | .v (.tuple a), .v (.tuple b), S => if small (a.length + b.length) then .ok (.v (.tuple (a ++ b))) S else .stuck
  | .v (.str a), .v (.str b), S => if small (a.length + b.length) then .ok (.v (.str (a ++ b))) S else .stuck
  | .v (.list a), .v (.list b), S => if small (a.length + b.length) then .ok (.v (.list (a ++ b))) S else .stuck
  | .v (.list a), .r n, S => match S[n]? with
    | some (.lst b) => if small (a.length + b.length) then .ok (.v (.list (a ++ b))) S else .stuck
    | _ => .stuck
  | .r n, .v (.list b), S => match S[n]? with
    | some (.lst a) => if small (a.length + b.length) then .ok (.v (.list (a ++ b))) S else .stuck
    | _ => .stuck
  | .r m, .r n, S => match S[m]?, S[n]? with
    | some (.lst a), some (.lst b) => if small (a.length + b.length) then .ok (.v (.list (a ++ b))) S else .stuck
    | _, _ => .stuck
  | _, _, _ => .stuck
def dSub := pI fun i j => i - j
def dMul := pIc (fun i j => decide (i.natAbs < 18446744073709551616) || decide (j.natAbs < 18446744073709551616)) fun i j => i * j
def dDiv := pIc (fun _ j => decide (0 < j ∧ j < 1073741824)) fun i j => i / j
def dMod := pIc (fun _ j => decide (0 < j)) fun i j => i % j
def dPow := pIc (fun i j => decide (0 ≤ j ∧ j ≤ 1000000 ∧ i.natAbs < 2 ^ 64)) fun i j => i ^ j.toNat
def dShl := pIc (fun i j => decide (0 ≤ j ∧ j ≤ 1000000 ∧ i.natAbs < 2 ^ 64)) fun i j => i * 2 ^ j.toNat
def dShr := pIc (fun _ j => decide (0 ≤ j)) fun i j => i / 2 ^ j.toNat
def dXor := pI Builtin.bitXor
def dAnd := pI Builtin.bitAnd
def dOr := pI Builtin.bitOr
def dLt := pB fun i j => decide (i < j)
def dLe := pB fun i j => decide (i ≤ j)
def dGt := pB fun i j => decide (j < i)
def dGe := pB fun i j => decide (j ≤ i)
/-- data of a value, its cell read -/
def dataOf (S : Store) : D → Option PyData
  | .v x => some x
  | .r n => match S[n]? with
    | some (.lst xs) => some (.list xs)
    | _ => none
  | .k _ => none
  | .g _ _ => none
  | .z _ => none
  | .y _ => none
def dEq : D → D → Store → Res D := fun a b S => match dataOf S a, dataOf S b with
  | some x, some y => if SeqAt.shaped x && SeqAt.shaped y then okB (PyData.eqv x y) S else .stuck
  | _, _ => .stuck
def dNe : D → D → Store → Res D := fun a b S => match dataOf S a, dataOf S b with
  | some x, some y => if SeqAt.shaped x && SeqAt.shaped y then okB (!PyData.eqv x y) S else .stuck
  | _, _ => .stuck
/-- one place and two -/
def dBin (op : D → D → Store → Res D) (f g : FE) : FE := fun env S => (f env S).bind fun a S1 => (g env S1).bind fun b S2 => op a b S2
def dUn (op : D → Store → Res D) (f : FE) : FE := fun env S => (f env S).bind fun a S1 => op a S1
def dVar (i : Nat) : FE := fun env S => match env[i]? with
  | some (some d) => .ok d S
  | _ => .stuck
def dC (x : PyData) : FE := fun _ S => .ok (.v x) S
def asB (d : D) (S : Store) : Res Bool := match d with
  | .v (.bool b) => .ok b S
  | _ => .stuck
def dTest (f : FE) : FT := fun env S => (f env S).bind asB
def tAndD (f g : FT) : FT := fun env S => (f env S).bind fun b S1 => if b then g env S1 else .ok false S1
def tOrD (f g : FT) : FT := fun env S => (f env S).bind fun b S1 => if b then .ok true S1 else g env S1
def tNotD (f : FT) : FT := fun env S => (f env S).bind fun b S1 => .ok (!b) S1
def dAndV (f g : FE) : FE := fun env S => (f env S).bind fun d S1 => (asB d S1).bind fun b S2 => if b then g env S2 else okB false S2
def dOrV (f g : FE) : FE := fun env S => (f env S).bind fun d S1 => (asB d S1).bind fun b S2 => if b then okB true S2 else g env S2
def dNotV (f : FE) : FE := fun env S => (f env S).bind fun d S1 => (asB d S1).bind fun b S2 => okB (!b) S2
def dIf (c : FT) (f g : FE) : FE := fun env S => (c env S).bind fun b S1 => if b then f env S1 else g env S1
def dNilA : FA := fun _ S => .ok [] S
def dConsA (f : FE) (g : FA) : FA := fun env S => (f env S).bind fun d S1 => (g env S1).bind fun ds S2 => .ok (d :: ds) S2
/-- all immutable -/
def vals : List D → Option (List PyData)
  | [] => some []
  | .v x :: r => (vals r).map (x :: ·)
  | _ :: _ => none
def dTup (g : FA) : FE := fun env S => (g env S).bind fun ds S1 => match vals ds with
  | some xs => if small xs.length then .ok (.v (.tuple xs)) S1 else .stuck
  | none => .stuck
def dLst (g : FA) : FE := fun env S => (g env S).bind fun ds S1 => match vals ds with
  | some xs => if small xs.length then .ok (.v (.list xs)) S1 else .stuck
  | none => .stuck
def dLstC (g : FA) : FE := fun env S => (g env S).bind fun ds S1 => match vals ds with
  | some xs => if small xs.length then .ok (.r S1.length) (S1 ++ [.lst xs]) else .stuck
  | none => .stuck
def dNewK : FE := fun _ S => .ok (.r S.length) (S ++ [.dk []])
def dNewT : FE := fun _ S => .ok (.r S.length) (S ++ [.dt []])
/-- a cell is read for good -/
def dFrz (f : FE) : FE := fun env S => (f env S).bind fun d S1 => match d with
  | .r n => match S1[n]? with
    | some (.lst xs) => .ok (.v (.list xs)) (S1.set n .dead)
    | _ => .stuck
  | .v x => .ok (.v x) S1
  | .k xs => .ok (.k xs) S1
  | .g lo hi => .ok (.g lo hi) S1
  | .z kvs => .ok (.z kvs) S1
  | .y kvs => .ok (.y kvs) S1
def isN (d : D) : Bool := match d with
  | .v .none => true
  | _ => false
def dIsN : D → Store → Res D := fun d S => okB (isN d) S
def dNotN : D → Store → Res D := fun d S => okB (!isN d) S
def dNeg : D → Store → Res D
  | .v (.int i), S => okI (-i) S
  | _, _ => .stuck
/-- an item by its place -/
def dIx : D → D → Store → Res D := fun a b S => match b with
  | .v (.int i) => match a with
    | .v (.str z) => if small z.length then (match atI z.cps.toList i with | some c => .ok (.v (.str ⟨#[c]⟩)) S | none => .stuck) else .stuck
    | _ => match seqOf S a with
      | some xs => (match atI xs i with | some x => .ok (.v x) S | none => .stuck)
      | none => .stuck
  | _ => .stuck
def cutD (xs : List PyData) (lo hi : Option Int) : List PyData := (xs.drop (HT.sIx xs.length 0 lo)).take (HT.sIx xs.length xs.length hi - HT.sIx xs.length 0 lo)
def lenOf (S : Store) : D → Option Nat
  | .v (.str z) => if small z.length then some z.length else none
  | .r n => match S[n]? with
    | some (.lst xs) => some xs.length
    | some (.dk kvs) => some kvs.length
    | _ => none
  | d => (seqOf S d).map (·.length)
end G

set_option Elab.async false
set_option linter.all false
set_option autoImplicit false
set_option maxRecDepth 100000
namespace G
open PySem PySem.Spec PyProof.Rows L2
section
variable {X : Cx} {RX : RXT} {W : WX} {α α' : AM} {H H' : Hp} {σ : St} {S S' : Store} {env : DEnv}
theorem small_le {n : Nat} (h : small n = true) : n ≤ sizeLine := by
  have := of_decide_eq_true h
  rw [sizeLine_eq]; omega
/-- a list as it stands -/
theorem imL_of {pins : List (Addr × Obj)} {s : Shared} {a : Addr} {xs : List V} (I : Inv X pins σ H s) (h : Rd H a (.lst xs)) :
    xs.length ≤ sizeLine ∧ ∃ (its : List Value) (n : Nat), Vals xs its ∧ xs.length = its.length ∧ s.heap.get? a = some { cls := .type "list", data := .seq its.toArray n } := by
  obtain ⟨z, its, n, r, e⟩ := h.ok I.hok
  exact ⟨z, its, n, r, r.length, e⟩
def listOf (S : Store) : D → Option (List PyData)
  | .v (.list xs) => some xs
  | .r n => match S[n]? with
    | some (.lst xs) => some xs
    | _ => none
  | _ => none
theorem cell_at (wr : WR X.prog X.w X.K α H S) {n : Nat} {v : V} {c : Cell} (r : RepD X.K α H v (.r n)) (e : S[n]? = some c) (hc : c ≠ .dead) : ∃ a, v = .ref a ∧ α.c[n]? = some (some a) ∧ CellRep X.prog X.w X.K α H a c := by
  obtain ⟨a, ha⟩ := wr.live n c e hc
  exact ⟨a, r.2 a ha, ha, wr.cell n c a e ha⟩
theorem list_at (wr : WR X.prog X.w X.K α H S) {v : V} {d : D} {xs : List PyData} (r : RepD X.K α H v d) (e : listOf S d = some xs) : ∃ a vs, v = .ref a ∧ Rd H a (.lst vs) ∧ RpL X.K α H vs xs := by
  cases d with
  | k xs => cases e
  | g lo hi => cases e
  | z kvs => cases e
  | y kvs => cases e
  | v x =>
    cases x <;> simp only [listOf] at e <;> cases e
    cases r with
    | lst h q => exact ⟨_, _, rfl, h.1, q⟩
  | r n =>
    simp only [listOf] at e
    cases hc : S[n]? with
    | none => rw [hc] at e; cases e
    | some c =>
      rw [hc] at e
      cases c <;> cases e
      obtain ⟨a, ea, _, vs, h, q⟩ := cell_at wr r hc (by intro z; cases z)
      exact ⟨a, vs, ea, .inl h, q⟩
theorem seq_at (wr : WR X.prog X.w X.K α H S) {v : V} {d : D} {xs : List PyData} (r : RepD X.K α H v d) (e : seqOf S d = some xs) : ∃ a vs, v = .ref a ∧ RpL X.K α H vs xs ∧ (SqL X.K H a vs ∨ SqT X.K H a vs) := by
  cases d with
  | g lo hi => cases e
  | z kvs => cases e
  | y kvs => cases e
  | k zs =>
    cases e
    obtain ⟨a, vs, rfl, h, q⟩ := r
    rcases h with h | h
    · exact ⟨a, vs, rfl, q, .inl (.inl h.1)⟩
    · exact ⟨a, vs, rfl, q, .inl (.inr h)⟩
  | v x =>
    cases x <;> simp only [seqOf] at e <;> cases e
    · obtain ⟨a, vs, h1, h2, h3⟩ := list_at (xs := xs) wr r rfl
      exact ⟨a, vs, h1, h3, .inl (.inl h2)⟩
    · cases r with
      | tup h q => exact ⟨_, _, rfl, q, .inr h.sq⟩
  | r n =>
    obtain ⟨a, vs, h1, h2, h3⟩ := list_at (xs := xs) wr r e
    exact ⟨a, vs, h1, h3, .inl (.inl h2)⟩
theorem data_at (wr : WR X.prog X.w X.K α H S) {v : V} {d : D} {x : PyData} (r : RepD X.K α H v d) (e : dataOf S d = some x) : Dp X.K H v x := by
  cases d with
  | k xs => cases e
  | g lo hi => cases e
  | z kvs => cases e
  | y kvs => cases e
  | v y => cases e; exact Rp.dp r
  | r n =>
    simp only [dataOf] at e
    cases hc : S[n]? with
    | none => rw [hc] at e; cases e
    | some c =>
      rw [hc] at e
      cases c <;> cases e
      obtain ⟨a, rfl, _, vs, h, q⟩ := cell_at wr r hc (by intro z; cases z)
      exact .lst (.inl (.inl h)) q.dp
/-! ### two-place operations -/
abbrev Want (X : Cx) (RX : RXT) (W : WX) (α : AM) (H : Hp) (σ : St) (r : Res D) (Q : VK) : Prop := OkP X RX W α H σ r fun z _ α' H' => ∀ v, RepD X.K α' H' v z → Q v H'
/-- a plain operation is what the operation does -/
def OpD (X : Cx) (RX : RXT) (W : WX) (f : Value → Value → Sem Value) (op : D → D → Store → Res D) : Prop :=
  ∀ (pins : List (Addr × Obj)) (s : Shared) (σ : St) (α : AM) (H : Hp) (S : Store) (x y : V) (v u : Value) (d e : D) (Q : VK), Inv X pins σ H s → RelV x v → RelV y u → WR X.prog X.w X.K α H S → RepD X.K α H x d → RepD X.K α H y e →
    Want X RX W α H σ (op d e S) Q → wpAny (model X.prog X.w) X.A (f v u) (EP X pins σ Q) X.xe s
theorem two {a b : Expr} {fa fb : FE} {pins : List (Addr × Obj)} {s : Shared} {γ β : Type} {op : D → D → Store → Res β} {P : β → Store → AM → Hp → Prop} {f : Value → Value → Sem γ} {Q : γ → Shared → Prop} (ha : DE X RX W a fa) (hb : DE X RX W b fb) (I : Inv X pins σ H s) (h : Here X α H σ env S)
    (o : OkP X RX W α H σ ((fa env S).bind fun a S1 => (fb env S1).bind fun b S2 => op a b S2) P)
    (hf : ∀ v u s2 x y α2 H2 S2 d e, Inv X pins σ H2 s2 → RelV x v → RelV y u → Ext α H α2 H2 → Here X α2 H2 σ env S2 → RepD X.K α2 H2 x d → RepD X.K α2 H2 y e → OkP X RX W α2 H2 σ (op d e S2) P → wpAny (model X.prog X.w) X.A (f v u) Q X.xe s2) :
    wpAny (model X.prog X.w) X.A (eval a X.env) (fun v s₁ => wpAny (model X.prog X.w) X.A (eval b X.env) (fun u s₂ => wpAny (model X.prog X.w) X.A (f v u) Q X.xe s₂) X.xe s₁) X.xe s := by
  refine thn (ha.run pins s σ H (fun x H1 => ∃ d S1 α1, Ext α H α1 H1 ∧ Here X α1 H1 σ env S1 ∧ RepD X.K α1 H1 x d ∧ OkP X RX W α1 H1 σ ((fb env S1).bind fun b S2 => op d b S2) P) I (tE_seq h o fun d S1 α1 H1 v e1 h1 r1 o1 => ⟨d, S1, α1, e1, h1, r1, o1⟩)) fun v s1 ⟨x, H1, I1, rx, d, S1, α1, e1, h1, r1, o1⟩ => ?_
  refine thn (hb.run pins s1 σ H1 (fun y H2 => ∃ e S2 α2, Ext α1 H1 α2 H2 ∧ Here X α2 H2 σ env S2 ∧ RepD X.K α2 H2 y e ∧ OkP X RX W α2 H2 σ (op d e S2) P) I1 (tE_seq h1 o1 fun e S2 α2 H2 y e2 h2 r2 o2 => ⟨e, S2, α2, e2, h2, r2, o2⟩)) fun u s2 ⟨y, H2, I2, ry, e, S2, α2, e2, h2, r2, o2⟩ => ?_
  exact hf v u s2 x y α2 H2 S2 d e I2 rx ry (e1.trans e2) h2 (r1.ext e2) r2 o2
theorem de_bin {a b : Expr} {fa fb : FE} {op : D → D → Store → Res D} {o : Operator} {pos : Pos} (ho : OpD X RX W (binaryOp o) op) (ha : DE X RX W a fa) (hb : DE X RX W b fb) : DE X RX W (.BinOp a o b pos) (dBin op fa fb) :=
  ⟨fun pins s σ H Q I ⟨α, env, S, h, o⟩ => wpAny_BinOp (two ha hb I h o fun v u s2 x y α2 H2 S2 d e I2 rx ry _ h2 r1 r2 o2 => ho pins s2 σ α2 H2 S2 x y v u d e Q I2 rx ry h2.wr r1 r2 o2)⟩
theorem de_cmp {a b : Expr} {fa fb : FE} {op : D → D → Store → Res D} {o : CmpOp} {pos : Pos} (ho : OpD X RX W (compareOp o) op) (ha : DE X RX W a fa) (hb : DE X RX W b fb) (hm : behindInMarks o b = false := by first | exact nomark _ | rfl) : DE X RX W (.Compare a [o] [b] pos) (dBin op fa fb) :=
  ⟨fun pins s σ H Q I ⟨α, env, S, h, o⟩ => wpAny_Compare1 (two ha hb I h o fun v u s2 x y α2 H2 S2 d e I2 rx ry _ h2 r1 r2 o2 => ho pins s2 σ α2 H2 S2 x y v u d e Q I2 rx ry h2.wr r1 r2 o2) hm⟩
/-- a value's truth, bools alone -/
theorem asB_ok {r : D} {Q : Bool → Hp → Prop} {v : V} (wr : WR X.prog X.w X.K α H S) (rv : RepD X.K α H v r) (o : OkP X RX W α H σ (asB r S) fun b _ _ H' => Q b H') : ∃ b, v = .bl b ∧ Q b H := by
  unfold asB at o
  split at o
  · cases rv; exact ⟨_, rfl, o.get wr⟩
  · exact o.elim
theorem dt_cmp {a b : Expr} {fa fb : FE} {op : D → D → Store → Res D} {o : CmpOp} {pos : Pos} (ho : OpD X RX W (compareOp o) op) (ha : DE X RX W a fa) (hb : DE X RX W b fb) (hm : behindInMarks o b = false := by first | exact nomark _ | rfl) : DT X RX W (.Compare a [o] [b] pos) (dTest (dBin op fa fb)) := by
  refine ⟨fun pins s σ H Q I ⟨α, env, S, h, o⟩ => wpAny_isTrue_Compare1 ?_ hm⟩
  have o' : OkP X RX W α H σ ((fa env S).bind fun a S1 => (fb env S1).bind fun b S2 => (op a b S2).bind asB) fun b _ _ H' => Q b H' := by
    have : (dTest (dBin op fa fb) env S) = ((fa env S).bind fun a S1 => (fb env S1).bind fun b S2 => (op a b S2).bind asB) := by
      unfold dTest dBin
      cases fa env S with
      | ok a S1 => simp only [Res.bind]; cases fb env S1 <;> rfl
      | exc => rfl
      | stuck => rfl
    rw [← this]; exact o
  refine two ha hb I h o' fun v u s2 x y α2 H2 S2 d e I2 rx ry _ h2 r1 r2 o2 => ?_
  refine thn (ho pins s2 σ α2 H2 S2 x y v u d e (fun z H3 => ∃ b, z = .bl b ∧ Q b H3) I2 rx ry h2.wr r1 r2 ?_) fun c s3 ⟨z, H3, I3, r3, b, ez, q⟩ => ?_
  · have := o2.bind
    cases hr : op d e S2 with
    | ok z S3 => rw [hr] at this; exact fun β2 H3 e3 w3 v rv => asB_ok w3 rv (this β2 H3 e3 w3)
    | exc x S3 => rw [hr] at this; exact this
    | stuck => rw [hr] at this; exact this
  · subst ez; cases r3; exact wpAny_truthy_bool ⟨H3, I3, q⟩
/-- from the rules by readings -/
def Sem2 (X : Cx) (RX : RXT) (W : WX) (r : R2) (op : D → D → Store → Res D) : Prop :=
  ∀ (σ : St) (α : AM) (H : Hp) (S : Store) (x y : V) (d e : D) (Q : VK), WR X.prog X.w X.K α H S → RepD X.K α H x d → RepD X.K α H y e → Want X RX W α H σ (op d e S) Q → r x y H Q
theorem OpD.of {f : Value → Value → Sem Value} {r : R2} {op : D → D → Store → Res D} (h : OpR X f r) (k : Sem2 X RX W r op) : OpD X RX W f op :=
  fun pins s σ α H S x y v u d e Q I rx ry wr r1 r2 o => h pins s σ H x y v u Q I rx ry (k σ α H S x y d e Q wr r1 r2 o)
theorem sem_pI (f : Int → Int → Int) : Sem2 X RX W (rI0 fun i j => .int (f i j)) (pI f) := by
  intro σ α H S x y d e Q wr rx ry o
  unfold pI at o
  split at o
  · cases rx; cases ry
    exact ⟨_, _, rfl, rfl, o.get wr _ (.int _)⟩
  · exact o.elim
theorem sem_pIc {C : Int → Int → Prop} {c : Int → Int → Bool} {f : Int → Int → Int} (hc : ∀ i j, c i j = true → C i j) : Sem2 X RX W (rI C fun i j => .int (f i j)) (pIc c f) := by
  intro σ α H S x y d e Q wr rx ry o
  unfold pIc at o
  split at o
  · cases rx; cases ry
    split at o
    · exact ⟨_, _, rfl, rfl, hc _ _ (by assumption), o.get wr _ (.int _)⟩
    · exact o.elim
  · exact o.elim
theorem sem_pB (f : Int → Int → Bool) : Sem2 X RX W (rI0 fun i j => .bl (f i j)) (pB f) := by
  intro σ α H S x y d e Q wr rx ry o
  unfold pB at o
  split at o
  · cases rx; cases ry
    exact ⟨_, _, rfl, rfl, o.get wr _ (.bl _)⟩
  · exact o.elim
theorem od_sub : OpD X RX W (binaryOp .Sub) dSub := .of op_sub (sem_pI _)
theorem od_mul : OpD X RX W (binaryOp .Mult) dMul := .of op_mul (sem_pIc fun i j h => by
  simp only [Bool.or_eq_true, decide_eq_true_eq] at h
  unfold CMul
  omega)
theorem od_div : OpD X RX W (binaryOp .FloorDiv) dDiv := .of op_fdiv (sem_pIc fun i j h => (of_decide_eq_true h : 0 < j ∧ j < 1073741824))
theorem od_mod : OpD X RX W (binaryOp .Mod) dMod := .of op_mod (sem_pIc fun i j h => of_decide_eq_true h)
theorem od_pow : OpD X RX W (binaryOp .Pow) dPow := .of op_pow (sem_pIc fun i j h => (of_decide_eq_true h : 0 ≤ j ∧ j ≤ 1000000 ∧ i.natAbs < 2 ^ 64))
theorem od_shl : OpD X RX W (binaryOp .LShift) dShl := .of op_shl (sem_pIc fun i j h => (of_decide_eq_true h : 0 ≤ j ∧ j ≤ 1000000 ∧ i.natAbs < 2 ^ 64))
theorem od_shr : OpD X RX W (binaryOp .RShift) dShr := .of op_shr (sem_pIc fun i j h => of_decide_eq_true h)
theorem od_xor : OpD X RX W (binaryOp .BitXor) dXor := .of op_xor (sem_pI _)
theorem od_and : OpD X RX W (binaryOp .BitAnd) dAnd := .of op_and (sem_pI _)
theorem od_or : OpD X RX W (binaryOp .BitOr) dOr := .of op_or (sem_pI _)
theorem od_lt : OpD X RX W (compareOp .Lt) dLt := .of op_lt (sem_pB _)
theorem od_le : OpD X RX W (compareOp .LtE) dLe := .of op_le (sem_pB _)
theorem od_gt : OpD X RX W (compareOp .Gt) dGt := .of op_gt (sem_pB _)
theorem od_ge : OpD X RX W (compareOp .GtE) dGe := .of op_ge (sem_pB _)
theorem od_eq (hu : X.A.units + 64 < cLine) : OpD X RX W (compareOp .Eq) dEq := by
  refine .of (op_eqD hu) fun σ α H S x y d e Q wr rx ry o => ?_
  unfold dEq at o
  split at o
  · rename_i e1 e2
    split at o
    · rename_i hs
      rw [Bool.and_eq_true] at hs
      exact ⟨_, _, data_at wr rx e1, data_at wr ry e2, hs.1, hs.2, o.get wr _ (.bl _)⟩
    · exact o.elim
  · exact o.elim
theorem od_ne (hu : X.A.units + 64 < cLine) : OpD X RX W (compareOp .NotEq) dNe := by
  refine .of (op_neD hu) fun σ α H S x y d e Q wr rx ry o => ?_
  unfold dNe at o
  split at o
  · rename_i e1 e2
    split at o
    · rename_i hs
      rw [Bool.and_eq_true] at hs
      exact ⟨_, _, data_at wr rx e1, data_at wr ry e2, hs.1, hs.2, o.get wr _ (.bl _)⟩
    · exact o.elim
  · exact o.elim
/-- a new immutable tuple, list -/
theorem new_tup (wr : WR X.prog X.w X.K α H S) {p : Addr} {vs : List V} {xs : List PyData} (hp : H p = none) (r : RpL X.K α H vs xs) : Rp X.K α (upd H p (.tup vs)) (.ref p) (.tuple xs) :=
  .tup (.inl ⟨.inl upd_same, wr.fresh hp⟩) (r.ext (Ext.new wr hp))
theorem new_lst (wr : WR X.prog X.w X.K α H S) {p : Addr} {vs : List V} {xs : List PyData} (hp : H p = none) (r : RpL X.K α H vs xs) : Rp X.K α (upd H p (.lst vs)) (.ref p) (.list xs) :=
  .lst ⟨.inl upd_same, wr.fresh hp⟩ (r.ext (Ext.new wr hp))
theorem OkP.newT {vs : List V} {xs : List PyData} {Q : VK} (o : OkP X RX W α H σ (.ok (D.v (.tuple xs)) S) fun z _ α' H' => ∀ v, RepD X.K α' H' v z → Q v H') (wr : WR X.prog X.w X.K α H S) (r : RpL X.K α H vs xs)
    {p : Addr} (hp : H p = none) : Q (.ref p) (upd H p (.tup vs)) := o α _ (Ext.new wr hp) (wr.new hp) _ (new_tup wr hp r)
theorem OkP.newL {vs : List V} {xs : List PyData} {Q : VK} (o : OkP X RX W α H σ (.ok (D.v (.list xs)) S) fun z _ α' H' => ∀ v, RepD X.K α' H' v z → Q v H') (wr : WR X.prog X.w X.K α H S) (r : RpL X.K α H vs xs)
    {p : Addr} (hp : H p = none) : Q (.ref p) (upd H p (.lst vs)) := o α _ (Ext.new wr hp) (wr.new hp) _ (new_lst wr hp r)
/-- a new cell -/
theorem OkP.newC {vs : List V} {xs : List PyData} {Q : VK} (o : OkP X RX W α H σ (.ok (D.r S.length) (S ++ [.lst xs])) fun z _ α' H' => ∀ v, RepD X.K α' H' v z → Q v H') (wr : WR X.prog X.w X.K α H S) (r : RpL X.K α H vs xs)
    {p : Addr} (hp : H p = none) : Q (.ref p) (upd H p (.lst vs)) := by
  refine o (α.push p) _ (Ext.alloc wr hp) (wr.alloc hp ⟨vs, upd_same, r.ext (Ext.alloc wr hp)⟩) _ ⟨by show _ < (α.c ++ [some p]).length; rw [List.length_append, wr.len]; simp, fun a h => ?_⟩
  have h : (α.c ++ [some p])[S.length]? = some (some a) := h
  rw [← wr.len, List.getElem?_append_right (Nat.le_refl _)] at h
  simp at h
  rw [h]
/-- list + list, wherever they stand -/
def rCatL : R2 := fun x y H Q => ∃ l b xs zs, x = .ref l ∧ y = .ref b ∧ Rd H l (.lst xs) ∧ Rd H b (.lst zs) ∧ xs.length + zs.length ≤ sizeLine ∧ ∀ p, H p = none → Q (.ref p) (upd H p (.lst (xs ++ zs)))
theorem op_catL : OpR X (binaryOp .Add) rCatL := by
  intro pins s σ H x y v u Q I rx ry h
  obtain ⟨l, b, xs, zs, rfl, rfl, hH, hB, hz, q⟩ := h
  cases rx
  cases ry
  obtain ⟨z, its, n, r, hl, e⟩ := imL_of I hH
  obtain ⟨z2, its2, n2, r2, hl2, e2⟩ := imL_of I hB
  refine PySem.P.add_list e e2 ?_ (by rw [List.size_toArray, List.size_toArray]; omega)
  have ea : its.toArray ++ its2.toArray = (its ++ its2).toArray := by simp
  rw [ea]
  exact ⟨.ref _, _, I.lnew (t' := s.toks) (r.append r2) (by rw [List.length_append]; omega), rfl, q _ I.fresh⟩
def rAddD (K : PySem.W.Frag) : R2 := fun x y H Q => rI0 (fun i j => .int (i + j)) x y H Q ∨ rCatA K x y H Q ∨ (∃ i j, x = .str i ∧ y = .str j ∧ i.length + j.length ≤ sizeLine ∧ Q (.str (i ++ j)) H) ∨ rCatL x y H Q
theorem op_addD : OpR X (binaryOp .Add) (rAddD X.K) := op_add.or (op_catA.or (op_add_str.or op_catL))
theorem sem_cat {a b : D} {xs ys : List PyData} {x y : V} {Q : VK} (wr : WR X.prog X.w X.K α H S) (rx : RepD X.K α H x a) (ry : RepD X.K α H y b) (ha : listOf S a = some xs) (hb : listOf S b = some ys)
    (o : OkP X RX W α H σ (if small (xs.length + ys.length) then .ok (D.v (.list (xs ++ ys))) S else .stuck) (fun z _ α' H' => ∀ v, RepD X.K α' H' v z → Q v H')) : rCatL x y H Q := by
  obtain ⟨l, vs, rfl, h1, q1⟩ := list_at wr rx ha
  obtain ⟨m, ws, rfl, h2, q2⟩ := list_at wr ry hb
  split at o
  · rename_i hs
    exact ⟨l, m, vs, ws, rfl, rfl, h1, h2, by rw [q1.length, q2.length]; exact small_le hs, fun p hp => o.newL wr (q1.append q2) hp⟩
  · exact o.elim
theorem sem_tupcat {xs ys : List PyData} {x y : V} {Q : VK} (wr : WR X.prog X.w X.K α H S) (rx : Rp X.K α H x (.tuple xs)) (ry : Rp X.K α H y (.tuple ys))
    (hs : small (xs.length + ys.length) = true) (o : Want X RX W α H σ (.ok (D.v (.tuple (xs ++ ys))) S) Q) : rCatA X.K x y H Q := by
  cases rx with
  | tup h1 q1 =>
    cases ry with
    | tup h2 q2 =>
      refine ⟨_, _, _, _, rfl, rfl, h1.sq, h2.sq, by rw [q1.length, q2.length]; exact small_le hs, fun e1 => ?_, fun e1 e2 => ?_, fun e1 e2 p hp => o.newT wr (q1.append q2) hp⟩
      · subst e1; cases q1; exact o.get wr _ (.tup h2 q2)
      · subst e2; cases q2
        rw [List.append_nil] at o
        exact o.get wr _ (.tup h1 q1)
theorem sem_add : Sem2 X RX W (rAddD X.K) dAdd := by
  intro σ α H S x y d e Q wr rx ry o
  unfold dAdd at o
  split at o
  · cases rx; cases ry
    exact .inl ⟨_, _, rfl, rfl, o.get wr _ (.int _)⟩
  · split at o
    · exact .inr (.inl (sem_tupcat wr rx ry (by assumption) o))
    · exact o.elim
  · split at o
    · rename_i hs
      cases rx; cases ry
      exact .inr (.inr (.inl ⟨_, _, rfl, rfl, small_le hs, o.get wr _ (.str _)⟩))
    · exact o.elim
  · exact .inr (.inr (.inr (sem_cat wr rx ry rfl rfl o)))
  · split at o
    · rename_i e1; exact .inr (.inr (.inr (sem_cat wr rx ry rfl (by simp only [listOf, e1]) o)))
    · exact o.elim
  · split at o
    · rename_i e1; exact .inr (.inr (.inr (sem_cat wr rx ry (by simp only [listOf, e1]) rfl o)))
    · exact o.elim
  · split at o
    · rename_i e1 e2; exact .inr (.inr (.inr (sem_cat wr rx ry (by simp only [listOf, e1]) (by simp only [listOf, e2]) o)))
    · exact o.elim
  · exact o.elim
theorem od_add : OpD X RX W (binaryOp .Add) dAdd := .of op_addD sem_add
end
end G

set_option Elab.async false
set_option linter.all false
set_option autoImplicit false
set_option maxRecDepth 100000
namespace G
open PySem PySem.Spec PyProof.Rows L2
section
variable {X : Cx} {RX : RXT} {W : WX} {α α' : AM} {H H' : Hp} {σ : St} {S S' : Store} {env : DEnv} {pos : Pos}
/-! ### names, constants -/
theorem de_var (i : Nat) {x : Str} (hN : X.N[i]? = some x := by rfl) (hv : Vis X.env.scope x := by first | exact Or.inl rfl | exact Or.inr (Or.inl rfl) | exact Or.inr (Or.inr rfl)) (hd : (x == ("__debug__" : Str)) = false := by decide)
    (hcd : (x == ("__classdict__" : Str)) = false := by decide) : DE X RX W (.Name x pos) (dVar i) := peW (pe_var hN hv hd hcd) fun σ H Q ⟨α, env, S, h, o⟩ => by
  unfold dVar at o
  split at o
  · rename_i d e
    obtain ⟨v, e1, r1⟩ := h.re.get i d e
    exact ⟨v, e1, o.get h.wr v r1⟩
  · exact o.elim
theorem de_int {i j} : DE X RX W (.Constant (.int i) j pos) (dC (.int i)) := peW pe_int fun σ H Q ⟨α, env, S, h, o⟩ => o.get h.wr _ (.int i)
theorem de_bl {i j} : DE X RX W (.Constant (.bool i) j pos) (dC (.bool i)) := peW pe_bl fun σ H Q ⟨α, env, S, h, o⟩ => o.get h.wr _ (.bl i)
theorem de_non {j} : DE X RX W (.Constant .none j pos) (dC .none) := peW pe_non fun σ H Q ⟨α, env, S, h, o⟩ => o.get h.wr _ .non
theorem de_str {i j} : DE X RX W (.Constant (.str i) j pos) (dC (.str i)) := peW pe_str fun σ H Q ⟨α, env, S, h, o⟩ => o.get h.wr _ (.str i)
/-- a module's constant -/
theorem de_glob {x : Str} {v : V} {u : Value} {d : PyData} (hg : Gl X x) (hm : X.mg x = some u) (r : RelV v u) (hR : ∀ α H, Rp X.K α H v d) (hd : (x == ("__debug__" : Str)) = false := by decide) : DE X RX W (.Name x pos) (dC d) :=
  peW (pe_glob hg hm r hd) fun σ H Q ⟨α, env, S, h, o⟩ => o.get h.wr _ (hR _ _)
/-- a cell is read for good -/
theorem de_frz {e : Expr} {f : FE} (he : DE X RX W e f) : DE X RX W e (dFrz f) := peW he fun σ H Q ⟨α, env, S, h, o⟩ => by
  refine tE_seq h o fun d S1 α1 H1 v e1 h1 r1 o1 => ?_
  cases d with
  | v x => exact o1.get h1.wr v r1
  | k xs => exact o1.get h1.wr v r1
  | g lo hi => exact o1.get h1.wr v r1
  | z kvs => exact o1.get h1.wr v r1
  | y kvs => exact o1.get h1.wr v r1
  | r n =>
    simp only at o1
    split at o1
    · rename_i xs hc
      obtain ⟨a, rfl, ha, vs, hl, q⟩ := cell_at h1.wr r1 hc (by intro z; cases z)
      exact o1 _ _ Ext.freeze h1.wr.freeze _ (.lst ⟨.inl hl, h1.wr.frozen ha⟩ (q.ext Ext.freeze))
    · exact o1.elim
/-! ### tests -/
/-- a test of an expression whose value is a bool -/
theorem dt_val {e : Expr} {f : FE} (he : DE X RX W e f) (hp : ∀ whole, isTrue e X.env whole = (do let v ← whole; standAt e.pos; holding [v] (truthy v)) := by intro _; rfl) : DT X RX W e (dTest f) :=
  ptW (pt_val he hp) fun σ H Q ⟨α, env, S, h, o⟩ => tE_seq h o fun d S1 α1 H1 v e1 h1 r1 o1 => asB_ok h1.wr r1 o1
theorem dw_and1 {a : Expr} {f : FT} (ha : DT X RX W a f) : DW X RX W (.BoolOp .And [a] pos) f := pw_and1 ha
theorem dw_or1 {a : Expr} {f : FT} (ha : DT X RX W a f) : DW X RX W (.BoolOp .Or [a] pos) f := pw_or1 ha
theorem dw_and {a b : Expr} {rest : List Expr} {f g : FT} (ha : DT X RX W a f) (hb : DW X RX W (.BoolOp .And (b :: rest) pos) g) : DW X RX W (.BoolOp .And (a :: b :: rest) pos) (tAndD f g) :=
  pwW (pw_and ha hb) fun σ H Q ⟨α, env, S, h, o⟩ => tT_seq h o fun c S1 α1 H1 e1 h1 o1 => by
    cases c with
    | true => exact tT_last h1 o1
    | false => exact o1.get h1.wr
theorem dw_or {a b : Expr} {rest : List Expr} {f g : FT} (ha : DT X RX W a f) (hb : DW X RX W (.BoolOp .Or (b :: rest) pos) g) : DW X RX W (.BoolOp .Or (a :: b :: rest) pos) (tOrD f g) :=
  pwW (pw_or ha hb) fun σ H Q ⟨α, env, S, h, o⟩ => tT_seq h o fun c S1 α1 H1 e1 h1 o1 => by
    cases c with
    | true => exact o1.get h1.wr
    | false => exact tT_last h1 o1
theorem dt_pw {e : Expr} {f : FT} (h : DW X RX W e f) : DT X RX W e f := h.pt
theorem dt_not {a : Expr} {f : FT} (ha : DT X RX W a f) : DT X RX W (.UnaryOp .Not a pos) (tNotD f) := ptW (pt_not ha) fun σ H Q ⟨α, env, S, h, o⟩ => tT_seq h o fun c S1 α1 H1 e1 h1 o1 => o1.get h1.wr
/-! ### and, or, not as values (bools) -/
theorem asB_bind {β : Type} {r : D} {v : V} {g : Bool → Store → Res β} {P : β → Store → AM → Hp → Prop} (rv : RepD X.K α H v r) (o : OkP X RX W α H σ ((asB r S).bind g) P) : ∃ b, v = .bl b ∧ OkP X RX W α H σ (g b S) P := by
  unfold asB at o
  split at o
  · cases rv; exact ⟨_, rfl, o⟩
  · exact o.elim
theorem de_one {a : Expr} {o : BoolOp} {f : FE} (ha : DE X RX W a f) : DE X RX W (.BoolOp o [a] pos) f := pe_one ha
theorem de_and {a b : Expr} {rest : List Expr} {f g : FE} (ha : DE X RX W a f) (hb : DE X RX W (.BoolOp .And (b :: rest) pos) g) : DE X RX W (.BoolOp .And (a :: b :: rest) pos) (dAndV f g) :=
  peW (pe_and ha hb) fun σ H Q ⟨α, env, S, h, o⟩ => tE_seq h o fun d S1 α1 H1 v e1 h1 r1 o1 => by
    obtain ⟨b, rfl, o2⟩ := asB_bind r1 o1
    refine ⟨b, rfl, ?_⟩
    cases b with
    | true => exact tE_last h1 o2
    | false => exact o2.get h1.wr _ (.bl false)
theorem de_or {a b : Expr} {rest : List Expr} {f g : FE} (ha : DE X RX W a f) (hb : DE X RX W (.BoolOp .Or (b :: rest) pos) g) : DE X RX W (.BoolOp .Or (a :: b :: rest) pos) (dOrV f g) :=
  peW (pe_or ha hb) fun σ H Q ⟨α, env, S, h, o⟩ => tE_seq h o fun d S1 α1 H1 v e1 h1 r1 o1 => by
    obtain ⟨b, rfl, o2⟩ := asB_bind r1 o1
    refine ⟨b, rfl, ?_⟩
    cases b with
    | true => exact o2.get h1.wr _ (.bl true)
    | false => exact tE_last h1 o2
theorem de_not {a : Expr} {f : FE} (ha : DE X RX W a f) : DE X RX W (.UnaryOp .Not a pos) (dNotV f) :=
  peW (pe_not ha) fun σ H Q ⟨α, env, S, h, o⟩ => tE_seq h o fun d S1 α1 H1 v e1 h1 r1 o1 => by
    obtain ⟨b, rfl, o2⟩ := asB_bind r1 o1
    exact ⟨b, rfl, o2.get h1.wr _ (.bl _)⟩
theorem de_if {c a b : Expr} {t : FT} {f g : FE} (hc : DT X RX W c t) (ha : DE X RX W a f) (hb : DE X RX W b g) : DE X RX W (.IfExp c a b pos) (dIf t f g) :=
  peW (pe_ifExp hc ha hb) fun σ H Q ⟨α, env, S, h, o⟩ => tT_seq h o fun d S1 α1 H1 e1 h1 o1 => by
    cases d with
    | true => exact tE_last h1 o1
    | false => exact tE_last h1 o1
/-! ### chains -/
def dChain (p q : D → D → Store → Res D) (f g k : FE) : FE := fun env S => (f env S).bind fun a S1 => (g env S1).bind fun b S2 => (p a b S2).bind fun z S3 => (asB z S3).bind fun c S4 => if c then (k env S4).bind fun e S5 => q b e S5 else okB false S4
theorem OpD.run {f : Value → Value → Sem Value} {op : D → D → Store → Res D} (ho : OpD X RX W f op) {β : Type} {g : D → Store → Res β} {P : β → Store → AM → Hp → Prop} {pins : List (Addr × Obj)} {s : Shared} {x y : V} {v u : Value} {d e : D} (I : Inv X pins σ H s) (rx : RelV x v) (ry : RelV y u)
    (h : Here X α H σ env S) (r1 : RepD X.K α H x d) (r2 : RepD X.K α H y e) (o : OkP X RX W α H σ ((op d e S).bind g) P) :
    wpAny (model X.prog X.w) X.A (f v u) (EP X pins σ fun z H3 => ∃ d S3 α3, Ext α H α3 H3 ∧ Here X α3 H3 σ env S3 ∧ RepD X.K α3 H3 z d ∧ OkP X RX W α3 H3 σ (g d S3) P) X.xe s := by
  refine ho pins s σ α H S x y v u d e _ I rx ry h.wr r1 r2 ?_
  have := o.bind
  cases hr : op d e S with
  | ok z S3 => rw [hr] at this; exact fun α3 H3 e3 w3 v rv => ⟨z, S3, α3, e3, h.ext X e3 w3, rv, this α3 H3 e3 w3⟩
  | exc x S3 => rw [hr] at this; exact this
  | stuck => rw [hr] at this; exact this
theorem de_chain {a b c : Expr} {fa fb fc : FE} {p q : D → D → Store → Res D} {o o' : CmpOp} (hp : OpD X RX W (compareOp o) p) (hq : OpD X RX W (compareOp o') q) (ha : DE X RX W a fa) (hb : DE X RX W b fb) (hc : DE X RX W c fc)
    (hm : lastMarks [o, o'] [b, c] = false := by with_unfolding_all rfl) : DE X RX W (.Compare a [o, o'] [b, c] pos) (dChain p q fa fb fc) := by
  refine ⟨fun pins s σ H Q I ⟨α, env, S, h, oo⟩ => Compare_chain ?_ hm⟩
  refine thn (ha.run pins s σ H (fun x H1 => ∃ d S1 α1, Here X α1 H1 σ env S1 ∧ RepD X.K α1 H1 x d ∧ OkP X RX W α1 H1 σ ((fb env S1).bind fun b S2 => (p d b S2).bind fun z S3 => (asB z S3).bind fun c S4 => if c then (fc env S4).bind fun e S5 => q b e S5 else okB false S4) _) I (tE_seq h oo fun d S1 α1 H1 v e1 h1 r1 o1 => ⟨d, S1, α1, h1, r1, o1⟩)) fun v s1 ⟨x, H1, I1, rx, d, S1, α1, h1, r1, o1⟩ => chain_link ?_
  refine thn (hb.run pins s1 σ H1 (fun y H2 => ∃ e S2 α2, Ext α1 H1 α2 H2 ∧ Here X α2 H2 σ env S2 ∧ RepD X.K α2 H2 y e ∧ OkP X RX W α2 H2 σ ((p d e S2).bind fun z S3 => (asB z S3).bind fun c S4 => if c then (fc env S4).bind fun k S5 => q e k S5 else okB false S4) _) I1 (tE_seq h1 o1 fun e S2 α2 H2 y e2 h2 r2 o2 => ⟨e, S2, α2, e2, h2, r2, o2⟩)) fun u s2 ⟨y, H2, I2, ry, e, S2, α2, e2, h2, r2, o2⟩ => ?_
  refine thn (hp.run I2 rx ry h2 (r1.ext e2) r2 o2) fun w3 s3 ⟨z, H3, I3, r3, d3, S3, α3, e3, h3, rz, o3⟩ => ?_
  obtain ⟨k, rfl, o4⟩ := asB_bind rz o3
  cases r3
  refine wpAny_truthy_bool ?_
  cases k with
  | false => exact ite_ff ⟨.bl false, H3, I3, rfl, o4.get h3.wr _ (.bl false)⟩
  | true =>
    refine ite_tt (chain_last ?_)
    refine thn (hc.run pins s3 σ H3 (fun x H4 => ∃ d S4 α4, Ext α3 H3 α4 H4 ∧ Here X α4 H4 σ env S4 ∧ RepD X.K α4 H4 x d ∧ Want X RX W α4 H4 σ (q e d S4) Q) I3 (tE_seq h3 o4 fun d S4 α4 H4 v e4 h4 r4 o4 => ⟨d, S4, α4, e4, h4, r4, o4⟩)) fun w4 s4 ⟨z', H4, I4, r4, d4, S4, α4, e4, h4, rr, o5⟩ => ?_
    exact hq pins s4 σ α4 H4 S4 y z' u w4 e d4 Q I4 ry r4 h4.wr ((r2.ext e3).ext e4) rr o5
theorem dt_chain {a b c : Expr} {fa fb fc : FE} {p q : D → D → Store → Res D} {o o' : CmpOp} (hp : OpD X RX W (compareOp o) p) (hq : OpD X RX W (compareOp o') q) (ha : DE X RX W a fa) (hb : DE X RX W b fb) (hc : DE X RX W c fc)
    (hm : lastMarks [o, o'] [b, c] = false := by with_unfolding_all rfl) : DT X RX W (.Compare a [o, o'] [b, c] pos) (dTest (dChain p q fa fb fc)) := by
  refine ⟨fun pins s σ H Q I ⟨α, env, S, h, oo⟩ => isTrue_chain ?_ hm⟩
  have assoc : dTest (dChain p q fa fb fc) env S = (fa env S).bind fun a S1 => (fb env S1).bind fun b S2 => (p a b S2).bind fun z S3 => (asB z S3).bind fun c S4 => if c then (fc env S4).bind fun e S5 => (q b e S5).bind asB else .ok false S4 := by
    unfold dTest dChain
    cases fa env S with
    | ok a S1 =>
      simp only [Res.bind]
      cases fb env S1 with
      | ok b S2 =>
        simp only [Res.bind]
        cases p a b S2 with
        | ok z S3 =>
          simp only [Res.bind]
          cases asB z S3 with
          | ok k S4 =>
            simp only [Res.bind]
            cases k with
            | true => simp only [if_true]; cases fc env S4 <;> rfl
            | false => rfl
          | exc => rfl
          | stuck => rfl
        | exc => rfl
        | stuck => rfl
      | exc => rfl
      | stuck => rfl
    | exc => rfl
    | stuck => rfl
  rw [assoc] at oo
  refine thn (ha.run pins s σ H (fun x H1 => ∃ d S1 α1, Here X α1 H1 σ env S1 ∧ RepD X.K α1 H1 x d ∧ OkP X RX W α1 H1 σ ((fb env S1).bind fun b S2 => (p d b S2).bind fun z S3 => (asB z S3).bind fun c S4 => if c then (fc env S4).bind fun e S5 => (q b e S5).bind asB else .ok false S4) _) I (tE_seq h oo fun d S1 α1 H1 v e1 h1 r1 o1 => ⟨d, S1, α1, h1, r1, o1⟩)) fun v s1 ⟨x, H1, I1, rx, d, S1, α1, h1, r1, o1⟩ => test_link ?_
  refine thn (hb.run pins s1 σ H1 (fun y H2 => ∃ e S2 α2, Ext α1 H1 α2 H2 ∧ Here X α2 H2 σ env S2 ∧ RepD X.K α2 H2 y e ∧ OkP X RX W α2 H2 σ ((p d e S2).bind fun z S3 => (asB z S3).bind fun c S4 => if c then (fc env S4).bind fun k S5 => (q e k S5).bind asB else .ok false S4) _) I1 (tE_seq h1 o1 fun e S2 α2 H2 y e2 h2 r2 o2 => ⟨e, S2, α2, e2, h2, r2, o2⟩)) fun u s2 ⟨y, H2, I2, ry, e, S2, α2, e2, h2, r2, o2⟩ => ?_
  refine thn (hp.run I2 rx ry h2 (r1.ext e2) r2 o2) fun w3 s3 ⟨z, H3, I3, r3, d3, S3, α3, e3, h3, rz, o3⟩ => ?_
  obtain ⟨k, rfl, o4⟩ := asB_bind rz o3
  cases r3
  refine wpAny_truthy_bool ?_
  cases k with
  | false => exact ite_ff ⟨H3, I3, o4.get h3.wr⟩
  | true =>
    refine ite_tt (test_last ?_)
    refine thn (hc.run pins s3 σ H3 (fun x H4 => ∃ d S4 α4, Ext α3 H3 α4 H4 ∧ Here X α4 H4 σ env S4 ∧ RepD X.K α4 H4 x d ∧ OkP X RX W α4 H4 σ ((q e d S4).bind asB) _) I3 (tE_seq h3 o4 fun d S4 α4 H4 v e4 h4 r4 o4 => ⟨d, S4, α4, e4, h4, r4, o4⟩)) fun w4 s4 ⟨z', H4, I4, r4, d4, S4, α4, e4, h4, rr, o5⟩ => ?_
    refine thn (hq.run I4 ry r4 h4 ((r2.ext e3).ext e4) rr o5) fun w5 s5 ⟨z5, H5, I5, r5, d5, S5, α5, e5, h5, rz5, o6⟩ => ?_
    obtain ⟨b, rfl, q⟩ := asB_ok h5.wr rz5 o6
    cases r5
    exact wpAny_truthy_bool ⟨H5, I5, q⟩
/-! ### one place -/
def OnD (X : Cx) (RX : RXT) (W : WX) (f : Value → Sem Value) (op : D → Store → Res D) : Prop :=
  ∀ (pins : List (Addr × Obj)) (s : Shared) (σ : St) (α : AM) (H : Hp) (S : Store) (x : V) (v : Value) (d : D) (Q : VK), Inv X pins σ H s → RelV x v → WR X.prog X.w X.K α H S → RepD X.K α H x d →
    Want X RX W α H σ (op d S) Q → wpAny (model X.prog X.w) X.A (f v) (EP X pins σ Q) X.xe s
theorem de_un {o : UnaryOp} {op : D → Store → Res D} {a : Expr} {f : FE} (ho : OnD X RX W (unaryOp o) op) (ha : DE X RX W a f) : DE X RX W (.UnaryOp o a pos) (dUn op f) :=
  ⟨fun pins s σ H Q I ⟨α, env, S, h, oo⟩ => UnaryOp_ (thn (ha.run pins s σ H (fun x H1 => ∃ d S1 α1, Here X α1 H1 σ env S1 ∧ RepD X.K α1 H1 x d ∧ Want X RX W α1 H1 σ (op d S1) Q) I (tE_seq h oo fun d S1 α1 H1 v e1 h1 r1 o1 => ⟨d, S1, α1, h1, r1, o1⟩)) fun v s1 ⟨x, H1, I1, rx, d, S1, α1, h1, r1, o1⟩ =>
    ho pins s1 σ α1 H1 S1 x v d Q I1 rx h1.wr r1 o1)⟩
theorem on_neg : OnD X RX W (unaryOp .USub) dNeg := fun pins s σ α H S x v d Q I rx wr r1 o => un_neg pins s σ H x v Q I rx (by
  unfold dNeg at o
  split at o
  · cases r1; exact ⟨_, rfl, o.get wr _ (.int _)⟩
  · exact o.elim)
/-! ### is None -/
def dIsNo (neg : Bool) : D → Store → Res D := fun d S => match d with
  | .k _ => okB neg S
  | .g _ _ => okB neg S
  | .z _ => okB neg S
  | .y _ => okB neg S
  | .v .none => okB (!neg) S
  | .v _ => okB neg S
  | .r n => match S[n]? with
    | some .dead => .stuck
    | some _ => okB neg S
    | none => .stuck
theorem isNo_ok {neg : Bool} {x : V} {d : D} {Q : VK} (wr : WR X.prog X.w X.K α H S) (r : RepD X.K α H x d) (o : Want X RX W α H σ (dIsNo neg d S) Q) : Q (.bl (if neg then !decide (x = .non) else decide (x = .non))) H := by
  cases d with
  | k xs => obtain ⟨a, vs, rfl, _⟩ := r; cases neg <;> exact o.get wr _ (.bl _)
  | g lo hi => obtain ⟨a, rfl, _⟩ := r; cases neg <;> exact o.get wr _ (.bl _)
  | z kvs => obtain ⟨a, rfl, _⟩ := r; cases neg <;> exact o.get wr _ (.bl _)
  | y kvs => obtain ⟨a, _, _, rfl, _⟩ := r; cases neg <;> exact o.get wr _ (.bl _)
  | v y => cases r <;> cases neg <;> exact o.get wr _ (.bl _)
  | r n =>
    simp only [dIsNo] at o
    split at o
    · exact o.elim
    · rename_i c hd hc
      obtain ⟨a, ha⟩ := wr.live n _ hc (by intro z; exact hd z)
      have := r.2 a ha
      subst this
      cases neg <;> exact o.get wr _ (.bl _)
    · exact o.elim
theorem de_isN {a : Expr} {f : FE} {j pos'} (ha : DE X RX W a f) : DE X RX W (.Compare a [.Is] [.Constant .none j pos'] pos) (dUn (dIsNo false) f) :=
  peW (pe_cmp (pc_isN ha) rfl) fun σ H Q ⟨α, env, S, h, o⟩ => tE_seq h o fun d S1 α1 H1 v e1 h1 r1 o1 => isNo_ok h1.wr r1 o1
theorem de_notN {a : Expr} {f : FE} {j pos'} (ha : DE X RX W a f) : DE X RX W (.Compare a [.IsNot] [.Constant .none j pos'] pos) (dUn (dIsNo true) f) :=
  peW (pe_cmp (pc_notN ha) rfl) fun σ H Q ⟨α, env, S, h, o⟩ => tE_seq h o fun d S1 α1 H1 v e1 h1 r1 o1 => isNo_ok h1.wr r1 o1
theorem bind_assoc {β γ δ : Type} (r : Res β) (f : β → Store → Res γ) (g : γ → Store → Res δ) : (r.bind f).bind g = r.bind fun a S => (f a S).bind g := by cases r <;> rfl
theorem isNo_okT {neg : Bool} {x : V} {d : D} {Q : Bool → Hp → Prop} (wr : WR X.prog X.w X.K α H S) (r : RepD X.K α H x d) (o : OkP X RX W α H σ ((dIsNo neg d S).bind asB) fun b _ _ H' => Q b H') : Q (if neg then !decide (x = .non) else decide (x = .non)) H := by
  cases d with
  | k xs => obtain ⟨a, vs, rfl, _⟩ := r; cases neg <;> exact o.get wr
  | g lo hi => obtain ⟨a, rfl, _⟩ := r; cases neg <;> exact o.get wr
  | z kvs => obtain ⟨a, rfl, _⟩ := r; cases neg <;> exact o.get wr
  | y kvs => obtain ⟨a, _, _, rfl, _⟩ := r; cases neg <;> exact o.get wr
  | v y => cases r <;> cases neg <;> exact o.get wr
  | r n =>
    simp only [dIsNo] at o
    split at o
    · exact o.elim
    · rename_i c hd hc
      obtain ⟨a, ha⟩ := wr.live n _ hc (by intro z; exact hd z)
      have := r.2 a ha
      subst this
      cases neg <;> exact o.get wr
    · exact o.elim
theorem dt_isN {a : Expr} {f : FE} {j pos'} (ha : DE X RX W a f) : DT X RX W (.Compare a [.Is] [.Constant .none j pos'] pos) (dTest (dUn (dIsNo false) f)) :=
  ptW (pt_cmp (pc_isN ha) rfl) fun σ H Q ⟨α, env, S, h, o⟩ => tE_seq h (by unfold dTest dUn at o; rw [bind_assoc] at o; exact o) fun d S1 α1 H1 v e1 h1 r1 o1 => ⟨_, rfl, isNo_okT h1.wr r1 o1⟩
theorem dt_notN {a : Expr} {f : FE} {j pos'} (ha : DE X RX W a f) : DT X RX W (.Compare a [.IsNot] [.Constant .none j pos'] pos) (dTest (dUn (dIsNo true) f)) :=
  ptW (pt_cmp (pc_notN ha) rfl) fun σ H Q ⟨α, env, S, h, o⟩ => tE_seq h (by unfold dTest dUn at o; rw [bind_assoc] at o; exact o) fun d S1 α1 H1 v e1 h1 r1 o1 => ⟨_, rfl, isNo_okT h1.wr r1 o1⟩
end
end G

set_option Elab.async false
set_option linter.all false
set_option autoImplicit false
set_option maxRecDepth 100000
namespace G
open PySem PySem.Spec PyProof.Rows L2
/-! ### what a statement comes to -/
inductive Out where
  | nx (env : DEnv) | rt (d : D) | bk (env : DEnv) | ct (env : DEnv) | ex (x : Exn) (env : DEnv)
abbrev FS := DEnv → Store → Res Out
def lift {β : Type} (env : DEnv) (r : Res β) (k : β → Store → Res Out) : Res Out := match r with
  | .ok a S => k a S | .exc x S => .ok (.ex x env) S | .stuck => .stuck
def thenS (r : Res Out) (k : DEnv → Store → Res Out) : Res Out := match r with
  | .ok (.nx env) S => k env S | r => r
def loopS (r : Res Out) (k : DEnv → Store → Res Out) : Res Out := match r with
  | .ok (.nx env) S => k env S | .ok (.ct env) S => k env S | .ok (.bk env) S => .ok (.nx env) S | r => r
def sNil : FS := fun env S => .ok (.nx env) S
def sSeq (f g : FS) : FS := fun env S => thenS (f env S) g
def sSet (i : Nat) (f : FE) : FS := fun env S => lift env (f env S) fun d S1 => .ok (.nx (env.set i (some d))) S1
def sExpr (f : FE) : FS := fun env S => lift env (f env S) fun _ S1 => .ok (.nx env) S1
def sRet (f : FE) : FS := fun env S => lift env (f env S) fun d S1 => .ok (.rt d) S1
def sRetN : FS := fun _ S => .ok (.rt (.v .none)) S
def sBrk : FS := fun env S => .ok (.bk env) S
def sCont : FS := fun env S => .ok (.ct env) S
def sIf (c : FT) (f g : FS) : FS := fun env S => lift env (c env S) fun b S1 => if b then f env S1 else g env S1
def sNever : FS := fun _ _ => .stuck
def sWhile (c : FT) (body : FS) : Nat → FS
  | 0 => fun _ _ => .stuck
  | n + 1 => fun env S => lift env (c env S) fun b S1 => if b then loopS (body env S1) (sWhile c body n) else .ok (.nx env) S1
/-- a target: a name, or a tuple of targets -/
inductive Pat where
  | s (i : Nat) | t (ps : List Pat)
mutual
def gPat : Pat → PyData → DEnv → Option DEnv
  | .s i, x, env => some (env.set i (some (.v x)))
  | .t ps, .tuple xs, env => if ps.length = xs.length then gPats ps xs env else none
  | .t _, _, _ => none
def gPats : List Pat → List PyData → DEnv → Option DEnv
  | [], [], env => some env
  | p :: ps, x :: xs, env => match gPat p x env with
    | some env1 => gPats ps xs env1
    | none => none
  | _, _, _ => none
end
mutual
def Pat.slots : Pat → List Nat
  | .s i => [i]
  | .t ps => Pat.slotsL ps
def Pat.slotsL : List Pat → List Nat
  | [] => []
  | p :: ps => p.slots ++ Pat.slotsL ps
end
/-- all but the slots l is as it was -/
def Agr (l : List Nat) (σ σ' : St) : Prop := σ'.length = σ.length ∧ ∀ (j : Nat), j ∉ l → σ'[j]? = σ[j]?
def forL (p : Pat) (body : FS) : List PyData → FS
  | [] => fun env S => .ok (.nx env) S
  | x :: xs => fun env S => match gPat p x env with
    | some env1 => loopS (body env1 S) (forL p body xs)
    | none => .stuck
abbrev FI := DEnv → Store → Res (List PyData)
def sFor (p : Pat) (f : FI) (body : FS) : FS := fun env S => lift env (f env S) fun xs S1 => forL p body xs env S1
section
variable (X : Cx) (RX : RXT) (W : WX)
def OkS (α : AM) (H : Hp) (r : Res Out) (D : Ends) : Prop := match r with
  | .ok (.nx env) S => ∀ α' H' σ', Ext α H α' H' → Here X α' H' σ' env S → D.nx σ' H'
  | .ok (.bk env) S => ∀ α' H' σ', Ext α H α' H' → Here X α' H' σ' env S → D.bk σ' H'
  | .ok (.ct env) S => ∀ α' H' σ', Ext α H α' H' → Here X α' H' σ' env S → D.ct σ' H'
  | .ok (.rt d) S => ∀ α' H' v, Ext α H α' H' → WR X.prog X.w X.K α' H' S → RepD X.K α' H' v d → D.rt v H'
  | .ok (.ex x env) S => ∀ α' H' σ' c dx, Ext α H α' H' → Here X α' H' σ' env S → RX x c dx α' H' → W c dx σ' H'
  | _ => False
def tS (f : FS) : TS := fun D σ H => ∃ α env S, Here X α H σ env S ∧ OkS X RX W α H (f env S) D
abbrev DS (st : Stmt) (f : FS) : Prop := PS X st (tS X RX W f)
abbrev DSs (sts : List Stmt) (f : FS) : Prop := PSs X sts (tS X RX W f)
def tI (f : FI) (J0 : It → List PyData → AM → Hp → Prop) : TI := fun σ H R => ∃ α env S, Here X α H σ env S ∧ OkP X RX W α H σ (f env S) fun xs _ α' H' => ∀ J, J0 J xs α' H' → R J H'
/-- J yields xs, whatever comes -/
def IterOk (J : It) (xs : List PyData) (α : AM) (H : Hp) : Prop := ∀ (α' : AM) (H' : Hp), Keep α H α' H' → (∀ p, H' p = none → α'.no p) →
  (∀ i x, xs[i]? = some x → J.go i H' ∧ ∀ v H'', J.yld i H' v H'' → Rp X.K α' H'' v x ∧ (H'' = H' ∨ ∃ p o, H' p = none ∧ H'' = upd H' p o)) ∧ J.stop xs.length H'
abbrev DI (tg e : Expr) (f : FI) : Prop := PI X tg e (tI X RX W f (IterOk X))
def tG (p : Pat) : TG := fun v σ H Q => ∃ α env S d env', Here X α H σ env S ∧ Rp X.K α H v d ∧ gPat p d env = some env' ∧ ∀ σ', Here X α H σ' env' S → Agr p.slots σ σ' → Q σ' H
def tGs (ps : List Pat) : TGs := fun vs σ H Q => ∃ α env S ds env', Here X α H σ env S ∧ RpL X.K α H vs ds ∧ gPats ps ds env = some env' ∧ ∀ σ', Here X α H σ' env' S → Agr (Pat.slotsL ps) σ σ' → Q σ' H
abbrev DG (tg : Expr) (p : Pat) : Prop := PG X tg (tG X p)
abbrev DGs (tg : List Expr) (p : List Pat) : Prop := PGs X tg (tGs X p)
end
section
variable {X : Cx} {RX : RXT} {W : WX} {α α' : AM} {H H' : Hp} {σ : St} {S S' : Store} {env : DEnv} {pos : Pos} {D : Ends}
theorem OkS.ext {r : Res Out} (h : OkS X RX W α H r D) (e : Ext α H α' H') : OkS X RX W α' H' r D := by
  cases r with
  | ok o S =>
    cases o with
    | nx env => exact fun a b c e2 => h a b c (e.trans e2)
    | bk env => exact fun a b c e2 => h a b c (e.trans e2)
    | ct env => exact fun a b c e2 => h a b c (e.trans e2)
    | rt d => exact fun a b c e2 => h a b c (e.trans e2)
    | ex x env => exact fun a b c d f e2 => h a b c d f (e.trans e2)
  | exc => exact h
  | stuck => exact h
theorem tE_lift {f : FE} {k : G.D → Store → Res Out} {Q : VK} (h : Here X α H σ env S) (o : OkS X RX W α H (lift env (f env S) k) D)
    (q : ∀ d S1 α1 H1 v, Ext α H α1 H1 → Here X α1 H1 σ env S1 → RepD X.K α1 H1 v d → OkS X RX W α1 H1 (k d S1) D → Q v H1) : tE X RX W f σ H Q := by
  refine ⟨α, env, S, h, ?_⟩
  cases hr : f env S with
  | ok a S' => rw [hr] at o; exact fun β2 H2 e2 w2 v rv => q a S' β2 H2 v e2 (h.ext X e2 w2) rv (OkS.ext o e2)
  | exc x S' => rw [hr] at o; exact fun β2 H2 c dx e2 w2 rx => o β2 H2 σ c dx e2 (h.ext X e2 w2) rx
  | stuck => rw [hr] at o; exact o
theorem tT_lift {f : FT} {k : Bool → Store → Res Out} {Q : Bool → Hp → Prop} (h : Here X α H σ env S) (o : OkS X RX W α H (lift env (f env S) k) D)
    (q : ∀ b S1 α1 H1, Ext α H α1 H1 → Here X α1 H1 σ env S1 → OkS X RX W α1 H1 (k b S1) D → Q b H1) : tT X RX W f σ H Q := by
  refine ⟨α, env, S, h, ?_⟩
  cases hr : f env S with
  | ok a S' => rw [hr] at o; exact fun β2 H2 e2 w2 => q a S' β2 H2 e2 (h.ext X e2 w2) (OkS.ext o e2)
  | exc x S' => rw [hr] at o; exact fun β2 H2 c dx e2 w2 rx => o β2 H2 σ c dx e2 (h.ext X e2 w2) rx
  | stuck => rw [hr] at o; exact o
theorem OkS.nx {σ' : St} (h : Here X α H σ' env S) (o : OkS X RX W α H (.ok (.nx env) S) D) : D.nx σ' H := o α H σ' (Ext.refl _ _) h
/-! ### blocks -/
theorem dss_nil : DSs X RX W [] sNil := pssW pss_nil fun D σ H ⟨α, env, S, h, o⟩ => OkS.nx h o
theorem dss_cons {st : Stmt} {rest : List Stmt} {f g : FS} (h1 : DS X RX W st f) (h2 : DSs X RX W rest g) : DSs X RX W (st :: rest) (sSeq f g) := pssW (pss_cons h1 h2) fun D σ H ⟨α, env, S, h, o⟩ => by
  refine ⟨α, env, S, h, ?_⟩
  unfold sSeq thenS at o
  cases hr : f env S with
  | ok u S1 =>
    rw [hr] at o
    cases u with
    | nx env1 => exact fun a b c e2 h2 => ⟨a, env1, S1, h2, OkS.ext o e2⟩
    | bk env => exact o
    | ct env => exact o
    | rt d => exact o
    | ex x env => exact o
  | exc x S' => rw [hr] at o; exact o
  | stuck => rw [hr] at o; exact o
theorem dss_one {st : Stmt} {f : FS} (h1 : DS X RX W st f) : DSs X RX W [st] f := pss_one h1
theorem ds_pass : DS X RX W (.Pass pos) sNil := psW ps_pass fun D σ H ⟨α, env, S, h, o⟩ => OkS.nx h o
theorem ds_break : DS X RX W (.Break pos) sBrk := psW ps_break fun D σ H ⟨α, env, S, h, o⟩ => o α H σ (Ext.refl _ _) h
theorem ds_continue : DS X RX W (.Continue pos) sCont := psW ps_continue fun D σ H ⟨α, env, S, h, o⟩ => o α H σ (Ext.refl _ _) h
theorem ds_never {st : Stmt} : DS X RX W st sNever := psW ps_never fun D σ H ⟨α, env, S, h, o⟩ => o
theorem dss_never {st : List Stmt} : DSs X RX W st sNever := pssW pss_never fun D σ H ⟨α, env, S, h, o⟩ => o
theorem ds_expr {e : Expr} {f : FE} (he : DE X RX W e f) (hs : swapsWith e none pos.line X.env = pure false := by rfl) : DS X RX W (.Expr e pos) (sExpr f) := psW (ps_expr he hs) fun D σ H ⟨α, env, S, h, o⟩ =>
  tE_lift h o fun d S1 α1 H1 v e1 h1 r1 o1 => OkS.nx h1 o1
theorem ds_ret {e : Expr} {f : FE} (he : DE X RX W e f) : DS X RX W (.Return (some e) pos) (sRet f) := psW (ps_ret he) fun D σ H ⟨α, env, S, h, o⟩ =>
  tE_lift h o fun d S1 α1 H1 v e1 h1 r1 o1 => o1 α1 H1 v (Ext.refl _ _) h1.wr r1
theorem ds_retN : DS X RX W (.Return none pos) sRetN := psW ps_retN fun D σ H ⟨α, env, S, h, o⟩ => o α H _ (Ext.refl _ _) h.wr .non
theorem ds_if {c : Expr} {a b : List Stmt} {t : FT} {f g : FS} (hc : DT X RX W c t) (ha : DSs X RX W a f) (hb : DSs X RX W b g) : DS X RX W (.If c a b pos) (sIf t f g) := psW (ps_if hc ha hb) fun D σ H ⟨α, env, S, h, o⟩ =>
  tT_lift h o fun b S1 α1 H1 e1 h1 o1 => by
    cases b with
    | true => exact ⟨α1, env, S1, h1, o1⟩
    | false => exact ⟨α1, env, S1, h1, o1⟩
theorem Here'.set (h : Here X α H σ env S) {i : Nat} {v : V} {d : G.D} (r : RepD X.K α H v d) : Here X α H (σ.set i (some v)) (env.set i (some d)) S := ⟨h.re.set r, h.wr⟩
/-- x = e -/
theorem ds_set {i : Nat} {x : Str} {e : Expr} {f : FE} {pos' : Pos} (hN : X.N.Nodup) (he : DE X RX W e f) (hi : X.N[i]? = some x := by rfl) (hx : Loc X.env.scope x := by first | exact .inl rfl | exact .inr rfl)
    (hs : swapsWith e (some (.Name x pos')) pos.line X.env = pure false := by rfl) (hf : X.fn x = true ∨ X.env.scope.names.lookup x = some .local := by first | exact .inl rfl | exact .inr rfl) : DS X RX W (.Assign [.Name x pos'] e pos) (sSet i f) :=
  psW (ps_set hN hi hx he hs hf) fun D σ H ⟨α, env, S, h, o⟩ => tE_lift h o fun d S1 α1 H1 v e1 h1 r1 o1 => OkS.nx (h1.set r1) o1
/-! ### targets -/
theorem dg_name {i : Nat} {x : Str} (hN : X.N.Nodup) (hi : X.N[i]? = some x := by rfl) (hx : Loc X.env.scope x := by first | exact .inl rfl | exact .inr rfl) (hf : X.fn x = true ∨ X.env.scope.names.lookup x = some .local := by first | exact .inl rfl | exact .inr rfl) : DG X (.Name x pos) (.s i) :=
  pgW (pg_name hN hi hx hf) fun v σ H Q ⟨α, env, S, d, env', h, r, e, q⟩ => by
    unfold gPat at e
    cases e
    exact q _ (h.set (d := .v d) r) ⟨by simp, fun j hj => List.getElem?_set_ne fun z => hj (by unfold Pat.slots; rw [z]; exact List.mem_singleton_self _)⟩
theorem dgs_nil : DGs X [] [] := pgsW pgs_nil fun v σ H Q ⟨α, env, S, d, env', h, r, e, q⟩ => by
  cases r with
  | nil => unfold gPats at e; cases e; exact ⟨rfl, q _ h ⟨rfl, fun _ _ => rfl⟩⟩
  | cons => unfold gPats at e; cases e
theorem dgs_cons {e : Expr} {es : List Expr} {p : Pat} {ps : List Pat} (h1 : DG X e p) (h2 : DGs X es ps) (hs : (assignEach (e :: es) X.env).map (·.2) = assign e X.env :: (assignEach es X.env).map (·.2) := by rfl) : DGs X (e :: es) (p :: ps) :=
  pgsW (pgs_cons h1 h2 hs) fun v σ H Q ⟨α, env, S, d, env', h, r, e, q⟩ => by
    cases r with
    | nil => unfold gPats at e; cases e
    | cons r1 rs =>
      unfold gPats at e
      split at e
      · rename_i env1 e1
        exact ⟨_, _, rfl, α, env, S, _, env1, h, r1, e1, fun σ' h' a1 => ⟨α, env1, S, _, env', h', rs, e, fun σ2 h2 a2 => q σ2 h2 ⟨a2.1.trans a1.1, fun j hj => by
          unfold Pat.slotsL at hj
          rw [List.mem_append] at hj
          rw [a2.2 j fun z => hj (.inr z), a1.2 j fun z => hj (.inl z)]⟩⟩⟩
      · cases e
theorem dg_tup {es : List Expr} {k : Nat} {ps : List Pat} (hc : X.calm = true) (h : DGs X es ps) (hn : (assignEach es X.env).length = ps.length := by rfl) (hst : (assignEach es X.env).findIdx? (·.1) = none := by rfl) : DG X (.Tuple es k pos) (.t ps) :=
  pgW (pg_tup hc h hn hst) fun v σ H Q ⟨α, env, S, d, env', h, r, e, q⟩ => by
    cases r with
    | tup h1 rs =>
      simp only [gPat] at e
      split at e
      · rename_i hl
        exact ⟨_, _, rfl, h1.sq, by rw [rs.length, hl], α, env, S, _, env', h, rs, e, fun σ' h' a => q σ' h' (by unfold Pat.slots; exact a)⟩
      · cases e
    | _ => simp [gPat] at e
/-- a target of a plain assignment -/
def sAsg (p : Pat) (f : FE) : FS := fun env S => lift env (f env S) fun d S1 => match d with
  | .v x => (match gPat p x env with | some env1 => .ok (.nx env1) S1 | none => .stuck)
  | _ => .stuck
theorem ds_asg {tg e : Expr} {f : FE} {p : Pat} (he : DE X RX W e f) (hg : DG X tg p) (hs : swapsWithSole [tg] e pos.line X.env = pure false := by rfl) (hw : swappedStores [tg] e X.env = pure none := by rfl)
    (h1 : (assignEach [tg] X.env).map (·.2) = [assign tg X.env] := by rfl) : DS X RX W (.Assign [tg] e pos) (sAsg p f) := psW (ps_asg he hg hs hw h1) fun D σ H ⟨α, env, S, h, o⟩ =>
  tE_lift h o fun d S1 α1 H1 v e1 h1 r1 o1 => by
    cases d with
    | r n => exact o1.elim
    | k n => exact o1.elim
    | g lo hi => exact o1.elim
    | z kvs => exact o1.elim
    | y kvs => exact o1.elim
    | v x =>
      cases q1 : gPat p x env with
      | some env1 => simp only [q1] at o1; exact ⟨α1, env, S1, x, env1, h1, r1, q1, fun σ' h' _ => OkS.nx h' o1⟩
      | none => simp only [q1] at o1; exact o1.elim
/-! ### argument lists, displays -/
theorem da_nil : DA X RX W [] dNilA := paW pa_nil fun σ H Q ⟨α, env, S, h, o⟩ => o.get h.wr [] .nil
theorem da_cons {e : Expr} {es : List Expr} {f : FE} {g : FA} (ha : DE X RX W e f) (hr : DA X RX W es g) (hs : starEach (e :: es) X.env = (false, eval e X.env) :: starEach es X.env := by rfl) : DA X RX W (e :: es) (dConsA f g) :=
  paW (pa_cons ha hr hs) fun σ H Q ⟨α, env, S, h, o⟩ => tE_seq h o fun d S1 α1 H1 v e1 h1 r1 o1 => tA_seq h1 o1 fun ds S2 α2 H2 vs e2 h2 rs o2 => o2.get h2.wr (v :: vs) (.cons (r1.ext e2) rs)
theorem vals_rep : ∀ {ds : List G.D} {xs : List PyData} {vs : List V}, RepDs X.K α H vs ds → vals ds = some xs → RpL X.K α H vs xs
  | _, _, _, .nil, e => by cases e; exact .nil
  | .v x :: ds, xs, _, .cons r rs, e => by
    simp only [vals] at e
    obtain ⟨ys, e1, rfl⟩ := Option.map_eq_some_iff.mp e
    exact .cons r (vals_rep rs e1)
  | .r n :: ds, xs, _, .cons r rs, e => by cases e
  | .k n :: ds, xs, _, .cons r rs, e => by cases e
  | .g _ _ :: ds, xs, _, .cons r rs, e => by cases e
  | .z _ :: ds, xs, _, .cons r rs, e => by cases e
  | .y _ :: ds, xs, _, .cons r rs, e => by cases e
theorem de_tup {es : List Expr} {k : Nat} {g : FA} (h : DA X RX W es g) : DE X RX W (.Tuple es k pos) (dTup g) := peW (pe_tup h) fun σ H Q ⟨α, env, S, h, o⟩ => tA_seq h o fun ds S1 α1 H1 vs e1 h1 rs o1 => by
  split at o1
  · rename_i xs hx
    split at o1
    · rename_i hs
      have r := vals_rep rs hx
      exact ⟨by rw [r.length]; exact small_le hs, fun p hp => o1.newT h1.wr r hp⟩
    · exact o1.elim
  · exact o1.elim
theorem de_lst {es : List Expr} {g : FA} (h : DA X RX W es g) : DE X RX W (.List es pos) (dLst g) := peW (pe_lst h) fun σ H Q ⟨α, env, S, h, o⟩ => tA_seq h o fun ds S1 α1 H1 vs e1 h1 rs o1 => by
  split at o1
  · rename_i xs hx
    split at o1
    · rename_i hs
      have r := vals_rep rs hx
      exact ⟨by rw [r.length]; exact small_le hs, fun p hp => o1.newL h1.wr r hp⟩
    · exact o1.elim
  · exact o1.elim
theorem de_lstC {es : List Expr} {g : FA} (h : DA X RX W es g) : DE X RX W (.List es pos) (dLstC g) := peW (pe_lst h) fun σ H Q ⟨α, env, S, h, o⟩ => tA_seq h o fun ds S1 α1 H1 vs e1 h1 rs o1 => by
  split at o1
  · rename_i xs hx
    split at o1
    · rename_i hs
      have r := vals_rep rs hx
      exact ⟨by rw [r.length]; exact small_le hs, fun p hp => o1.newC h1.wr r hp⟩
    · exact o1.elim
  · exact o1.elim
theorem ref_last {p : Addr} : ∀ a, (α.push p).c[α.c.length]? = some (some a) → V.ref p = V.ref a := fun a h => by
  have h : (α.c ++ [some p])[α.c.length]? = some (some a) := h
  rw [List.getElem?_append_right (Nat.le_refl _)] at h
  simp at h
  rw [h]
theorem de_newK : DE X RX W (.Dict [] [] pos) dNewK := peW pe_dnewK fun σ H Q ⟨α, env, S, h, o⟩ p hp =>
  o (α.push p) _ (Ext.alloc h.wr hp) (h.wr.alloc hp ⟨[], upd_same, .nil⟩) _ ⟨by show _ < (α.c ++ [some p]).length; rw [List.length_append, h.wr.len]; simp, by rw [← h.wr.len]; exact ref_last⟩
/-! ### loops -/
theorem ds_while {c : Expr} {body : List Stmt} {t : FT} {f : FS} (n : Nat) (hp : PassesOwn (model X.prog X.w) X.A X.env X.xe) (hc : DT X RX W c t) (hb : DSs X RX W body f) : DS X RX W (.While c body [] pos) (sWhile t f n) := psW (ps_while hp hc hb) fun D σ H ⟨α, env, S, h, o⟩ => by
  refine ⟨fun m σ H => ∃ α env S, Here X α H σ env S ∧ OkS X RX W α H (sWhile t f m env S) D, ⟨n, α, env, S, h, o⟩, ?_⟩
  rintro m σ H ⟨α, env, S, h, o⟩
  cases m with
  | zero => exact o.elim
  | succ m =>
    refine tT_lift h o fun b S1 α1 H1 e1 h1 o1 => ?_
    cases b with
    | false => exact OkS.nx h1 o1
    | true =>
      refine ⟨fun σ' H' => ∃ α env S, Here X α H' σ' env S ∧ OkS X RX W α H' (sWhile t f m env S) D, fun σ' H' q => ⟨m, Nat.lt_succ_self _, q⟩, α1, env, S1, h1, ?_⟩
      simp only [if_true] at o1
      unfold loopS at o1
      cases hr : f env S1 with
      | ok u S2 =>
        rw [hr] at o1
        cases u with
        | nx env1 => exact fun a b c e2 h2 => ⟨a, env1, S2, h2, OkS.ext o1 e2⟩
        | ct env1 => exact fun a b c e2 h2 => ⟨a, env1, S2, h2, OkS.ext o1 e2⟩
        | bk env1 => exact o1
        | rt d => exact o1
        | ex x env => exact o1
      | exc x S' => rw [hr] at o1; exact o1
      | stuck => rw [hr] at o1; exact o1
theorem OkS.loop {r : Res Out} {k : DEnv → Store → Res Out} (o : OkS X RX W α H (loopS r k) D) :
    OkS X RX W α H r { nx := fun σ' H' => ∃ α env S, Here X α H' σ' env S ∧ OkS X RX W α H' (k env S) D, ct := fun σ' H' => ∃ α env S, Here X α H' σ' env S ∧ OkS X RX W α H' (k env S) D, bk := D.nx, rt := D.rt } := by
  unfold loopS at o
  cases r with
  | ok u S2 =>
    cases u with
    | nx env1 => exact fun a b c e2 h2 => ⟨a, env1, S2, h2, OkS.ext o e2⟩
    | ct env1 => exact fun a b c e2 h2 => ⟨a, env1, S2, h2, OkS.ext o e2⟩
    | bk env1 => exact o
    | rt d => exact o
    | ex x env => exact o
  | exc x S' => exact o
  | stuck => exact o
theorem Ext.up (wr : WR X.prog X.w X.K α H S) (h : H' = H ∨ ∃ p o, H p = none ∧ H' = upd H p o) : Ext α H α H' := by
  rcases h with rfl | ⟨p, o, hp, rfl⟩
  · exact Ext.refl _ _
  · exact Ext.new wr hp
theorem WR.up (wr : WR X.prog X.w X.K α H S) (h : H' = H ∨ ∃ p o, H p = none ∧ H' = upd H p o) : WR X.prog X.w X.K α H' S := by
  rcases h with rfl | ⟨p, o, hp, rfl⟩
  · exact wr
  · exact wr.new hp
theorem ds_for {tg iter : Expr} {body : List Stmt} {f : FI} {p : Pat} {g : FS} (hp : PassesOwn (model X.prog X.w) X.A X.env X.xe) (hc : X.calm = true) (hi : DI X RX W tg iter f) (hg : DG X tg p) (hb : DSs X RX W body g)
    (hs : ∀ x, foldedSetIterable iter X.env x = pure x := by intro _; rfl) : DS X RX W (.For tg iter body [] pos) (sFor p f g) := psW (ps_for hp hc hi hg hb hs) fun D σ H ⟨α, env, S, h, o⟩ => by
  refine ⟨α, env, S, h, ?_⟩
  unfold sFor lift at o
  cases hr : f env S with
  | ok xs S1 =>
    rw [hr] at o
    refine fun α1 H1 e1 w1 J hJ => ⟨fun i m σ H => ∃ α env S, Ext α1 H1 α H ∧ Here X α H σ env S ∧ i + m = xs.length ∧ OkS X RX W α H (forL p g (xs.drop i) env S) D, ⟨xs.length, α1, env, S1, Ext.refl _ _, h.ext X e1 w1, Nat.zero_add _, OkS.ext o e1⟩, ?_⟩
    rintro i m σ2 H2 ⟨α2, env2, S2, e2, h2, em, o2⟩
    obtain ⟨go, stop⟩ := hJ α2 H2 e2.keep fun p hp => h2.wr.fresh hp
    by_cases hi : i < xs.length
    · have gi := List.getElem?_eq_getElem hi
      obtain ⟨g1, g2⟩ := go i _ gi
      refine .inr ⟨g1, fun σ' H' => ∃ α env S, Ext α1 H1 α H' ∧ Here X α H' σ' env S ∧ OkS X RX W α H' (forL p g (xs.drop (i + 1)) env S) D, fun σ' H' ⟨a, b, c, e, h, o⟩ => ⟨m - 1, by omega, a, b, c, e, h, by omega, o⟩, fun v H'' hy => ?_⟩
      obtain ⟨rv, up⟩ := g2 v H'' hy
      rw [List.drop_eq_getElem_cons hi] at o2
      unfold forL at o2
      have h3 : Here X α2 H'' σ2 env2 S2 := ⟨h2.re.ext (Ext.up h2.wr up), h2.wr.up up⟩
      have o3 := OkS.ext o2 (Ext.up h2.wr up)
      split at o3
      · rename_i env3 q3
        refine ⟨α2, env2, S2, _, env3, h3, rv, q3, fun σ' h' _ => ⟨α2, env3, S2, h', ?_⟩⟩
        have o4 := OkS.loop o3
        have e3 : Ext α1 H1 α2 H'' := e2.trans (Ext.up h2.wr up)
        cases hr : g env3 S2 with
        | ok u S3 =>
          rw [hr] at o4
          cases u with
          | nx env1 => exact fun a b c e4 h4 => let ⟨a1, b1, c1, h5, o5⟩ := o4 a b c e4 h4; ⟨a, env1, S3, e3.trans e4, h4, by simpa [loopS, hr] using OkS.ext o3 e4⟩
          | ct env1 => exact fun a b c e4 h4 => ⟨a, env1, S3, e3.trans e4, h4, by simpa [loopS, hr] using OkS.ext o3 e4⟩
          | bk env1 => exact o4
          | rt d => exact o4
          | ex x env => exact o4
        | exc x S' => rw [hr] at o4; exact o4
        | stuck => rw [hr] at o4; exact o4
      · exact o3.elim
    · have e : i = xs.length := by omega
      subst e
      rw [List.drop_length] at o2
      exact .inl ⟨stop, OkS.nx h2 o2⟩
  | exc x S' => rw [hr] at o; exact fun β2 H2 c dx e2 w2 rx => o β2 H2 σ c dx e2 (h.ext X e2 w2) rx
  | stuck => rw [hr] at o; exact o
end
end G

set_option Elab.async false
set_option linter.all false
set_option autoImplicit false
set_option maxRecDepth 100000
namespace G
open PySem PySem.Spec PyProof.Rows L2
/-! ### calls of the text's own defs -/
/-- new cells are forgotten behind a call; a returned one is kept -/
def trunc (n : Nat) : Res D → Res D
  | .ok (.v x) S => .ok (.v x) (S.take n)
  | .ok (.k x) S => .ok (.k x) (S.take n)
  | .ok (.g x y) S => .ok (.g x y) (S.take n)
  | .ok (.z x) S => .ok (.z x) (S.take n)
  | .ok (.y x) S => .ok (.y x) (S.take n)
  | .ok (.r m) S => if m < n then .ok (.r m) (S.take n) else match S[m]? with
    | some c => .ok (.r n) (S.take n ++ [c])
    | none => .stuck
  | .exc x S => .exc x (S.take n)
  | .stuck => .stuck
abbrev Fn := List D → Store → Res D
def dCall (c : Fn) (g : FA) (dd : List D) : FE := fun env S => (g env S).bind fun ds S1 => trunc S1.length (c (ds ++ dd) S1)
section
variable (P : Program) (w : World) (K : PySem.W.Frag) (RX : RXT)
def OkR (E : XK) (α : AM) (H : Hp) (r : Res D) (Q : VK) : Prop := match r with
  | .ok d S' => ∀ α' H' v, Ext α H α' H' → WR P w K α' H' S' → RepD K α' H' v d → Q v H'
  | .exc x S' => ∀ α' H' c dx, Ext α H α' H' → WR P w K α' H' S' → RX x c dx α' H' → E c dx H'
  | .stuck => False
def spD (c : Fn) (n : Nat) : Sp := fun vs H Q E => vs.length = n ∧ ∃ α ds S, RepDs K α H vs ds ∧ WR P w K α H S ∧ OkR P w K RX E α H (c ds S) Q
end
section
variable {X : Cx} {RX : RXT} {W : WX} {α α' : AM} {H H' : Hp} {σ : St} {S S' : Store} {env : DEnv} {pos : Pos}
/-- exceptions' descriptions do not lean on the cells that are forgotten -/
def RXok (RX : RXT) : Prop := ∀ x c dx (α : AM) (H : Hp) (n : Nat), RX x c dx α H → RX x c dx (α.take n) H
theorem trunc_ok (hX : RXok RX) (wr : WR X.prog X.w X.K α H S) {r : Res D} {Q : VK} (o : Want X RX W α H σ (trunc S.length r) Q) : OkR X.prog X.w X.K RX (fun c d H => W c d σ H) α H r Q := by
  have hl := wr.len
  cases r with
  | stuck => exact o
  | exc x S' =>
    intro α1 H1 c dx e1 w1 rx
    have z := o (α1.take α.c.length) H1 c dx e1.take (by rw [hl]; exact w1.take _) (hX _ _ _ _ _ _ rx)
    exact z
  | ok d S' =>
    intro α1 H1 v e1 w1 rv
    have tk : ∀ (w2 : WR X.prog X.w X.K (α1.take α.c.length) H1 (S'.take S.length)), True := fun _ => trivial
    have w2 : WR X.prog X.w X.K (α1.take α.c.length) H1 (S'.take S.length) := by rw [hl]; exact w1.take _
    have k : Keep α1 H1 (α1.take α.c.length) H1 := fun b o h m => ⟨h, fun z => m.1 (List.mem_of_mem_take z), m.2⟩
    cases d with
    | v x => exact o _ H1 e1.take w2 v (Rp.keep k rv)
    | k xs => obtain ⟨a, vs, h1, h2, h3⟩ := rv; exact o _ H1 e1.take w2 v ⟨a, vs, h1, h2.imp (·.keep k) id, h3.keep k⟩
    | g lo hi => obtain ⟨a, h1, h2, h3⟩ := rv; obtain ⟨h4, h5⟩ := k a _ h2 h3; exact o _ H1 e1.take w2 v ⟨a, h1, h4, h5⟩
    | z kvs => obtain ⟨a, h1, h2, h3⟩ := rv; obtain ⟨u, hu⟩ := h2.tracked; obtain ⟨h4, h5⟩ := k a _ hu h3; exact o _ H1 e1.take w2 v ⟨a, h1, h2.keep k rfl, h5⟩
    | y kvs => obtain ⟨a, ob, kv, h1, h2, h3, rr⟩ := rv; obtain ⟨h4, h5⟩ := k a _ h2 h3; exact o _ H1 e1.take w2 v ⟨a, ob, kv, h1, h4, h5, Paired.mapP rr fun _ _ z => ⟨z.1, z.2.keep k⟩⟩
    | r m =>
      unfold trunc at o
      obtain ⟨hm, hv⟩ := rv
      by_cases hn : m < S.length
      · simp only [hn, if_true] at o
        refine o _ H1 e1.take w2 v ⟨?_, fun a q => hv a ?_⟩
        · show m < (α1.c.take _).length; rw [List.length_take]; omega
        · have q : (α1.c.take _)[m]? = _ := q; rw [List.getElem?_take_of_lt (by omega)] at q; exact q
      · simp only [hn, if_false] at o
        cases hc : S'[m]? with
        | none => rw [hc] at o; exact o.elim
        | some c =>
          rw [hc] at o
          have hlen : α1.c.length = S'.length := w1.len
          have hle : α.c.length ≤ m := by omega
          have lt : α.c.length ≤ α1.c.length := by omega
          have tl : (α1.c.take α.c.length).length = α.c.length := by rw [List.length_take]; omega
          have tlS : (S'.take S.length).length = S.length := by rw [List.length_take]; omega
          have gm : α1.c[m]? = some α1.c[m] := List.getElem?_eq_getElem hm
          have ext : Ext α H ⟨α1.c.take α.c.length ++ [α1.c[m]], α1.b, α1.pw⟩ H1 := by
            refine ⟨fun a u h n => ?_, fun i y h => ?_, e1.bl, e1.blk, e1.pw⟩
            · obtain ⟨h1, h2⟩ := e1.keep a u h n
              refine ⟨h1, ⟨fun z => ?_, h2.2⟩⟩
              rcases List.mem_append.mp z with z | z
              · exact h2.1 (List.mem_of_mem_take z)
              · rw [List.mem_singleton] at z; exact h2.1 (by rw [z]; exact List.getElem_mem _)
            · show (α1.c.take α.c.length ++ [α1.c[m]])[i]? = _ ∨ (α1.c.take α.c.length ++ [α1.c[m]])[i]? = _
              have hi := (List.getElem?_eq_some_iff.mp h).1
              rw [List.getElem?_append_left (by omega), List.getElem?_take_of_lt (by omega)]
              exact e1.ref i y h
          have old : ∀ {i : Nat} {y : Option Addr}, (α1.c.take α.c.length ++ [α1.c[m]])[i]? = some y → (i < α.c.length ∧ α1.c[i]? = some y) ∨ (i = α.c.length ∧ y = α1.c[m]) := fun {i y} h => by
            by_cases hi : i < α.c.length
            · rw [List.getElem?_append_left (by omega), List.getElem?_take_of_lt hi] at h; exact .inl ⟨hi, h⟩
            · have z := (List.getElem?_eq_some_iff.mp h).1
              rw [List.length_append, tl, List.length_singleton] at z
              have e2 : i = α.c.length := by omega
              rw [List.getElem?_append_right (by omega), tl, e2] at h
              simp at h
              exact .inr ⟨e2, h.symm⟩
          have k2 : Keep α1 H1 ⟨α1.c.take α.c.length ++ [α1.c[m]], α1.b, α1.pw⟩ H1 := fun b u h n => ⟨h, ⟨(fun z => by
            rcases List.mem_append.mp z with z | z
            · exact n.1 (List.mem_of_mem_take z)
            · rw [List.mem_singleton] at z; exact n.1 (by rw [z]; exact List.getElem_mem _)), n.2⟩⟩
          have oldS : ∀ {i : Nat} {y : Cell}, (S'.take S.length ++ [c])[i]? = some y → (i < α.c.length ∧ S'[i]? = some y) ∨ (i = α.c.length ∧ y = c) := fun {i y} h => by
            by_cases hi : i < α.c.length
            · rw [List.getElem?_append_left (by omega), List.getElem?_take_of_lt (by omega)] at h; exact .inl ⟨hi, h⟩
            · have z := (List.getElem?_eq_some_iff.mp h).1
              rw [List.length_append, tlS, List.length_singleton] at z
              have e2 : i = α.c.length := by omega
              rw [List.getElem?_append_right (by omega), tlS, e2, ← hl] at h
              simp at h
              exact .inr ⟨e2, h.symm⟩
          have w3 : WR X.prog X.w X.K ⟨α1.c.take α.c.length ++ [α1.c[m]], α1.b, α1.pw⟩ H1 (S'.take S.length ++ [c]) := by
            refine ⟨by show (α1.c.take α.c.length ++ [α1.c[m]]).length = _; rw [List.length_append, List.length_append, tl, tlS, hl]; rfl, fun i j a h1 h2 => ?_, fun i c' a h1 h2 => ?_, fun i c' h1 h2 => ?_, fun b h => ?_, w1.pw⟩
            · rcases old h1 with ⟨i1, q1⟩ | ⟨i1, q1⟩ <;> rcases old h2 with ⟨j1, q2⟩ | ⟨j1, q2⟩
              · exact w1.one i j a q1 q2
              · have := w1.one i m a q1 (gm.trans (congrArg some q2.symm)); omega
              · have := w1.one j m a q2 (gm.trans (congrArg some q1.symm)); omega
              · omega
            · rcases old h2 with ⟨i1, q1⟩ | ⟨i1, q1⟩ <;> rcases oldS h1 with ⟨j1, q2⟩ | ⟨j1, q2⟩
              · exact (w1.cell i c' a q2 q1).keep k2 rfl
              · omega
              · omega
              · subst q2
                exact (w1.cell m c' a hc (gm.trans (congrArg some q1.symm))).keep k2 rfl
            · rcases oldS h1 with ⟨j1, q2⟩ | ⟨j1, q2⟩
              · obtain ⟨a, ha⟩ := w1.live i c' q2 h2
                exact ⟨a, by show (α1.c.take α.c.length ++ [α1.c[m]])[i]? = _; rw [List.getElem?_append_left (by omega), List.getElem?_take_of_lt (by omega)]; exact ha⟩
              · subst q2 j1
                obtain ⟨a, ha⟩ := w1.live m c' hc h2
                refine ⟨a, ?_⟩
                show (α1.c.take α.c.length ++ [α1.c[m]])[α.c.length]? = _
                rw [List.getElem?_append_right (by omega), tl]
                simp
                rw [gm] at ha
                exact Option.some.inj ha
            · obtain ⟨h1, u, h2⟩ := w1.bl b h
              refine ⟨fun z => ?_, u, h2⟩
              rcases List.mem_append.mp z with z | z
              · exact h1 (List.mem_of_mem_take z)
              · rw [List.mem_singleton] at z; exact h1 (by rw [z]; exact List.getElem_mem _)
          refine o _ H1 ext w3 v ⟨?_, fun a q => hv a ?_⟩
          · show S.length < (α1.c.take α.c.length ++ [α1.c[m]]).length; rw [List.length_append, tl, List.length_singleton]; omega
          · rcases old q with ⟨i1, q1⟩ | ⟨i1, q1⟩
            · omega
            · rw [gm, ← q1]
theorem RepDs.length {vs : List V} {ds : List D} (h : RepDs X.K α H vs ds) : vs.length = ds.length := Paired.length h
theorem RepDs.append {vs ws : List V} {ds es : List D} (h : RepDs X.K α H vs ds) (h' : RepDs X.K α H ws es) : RepDs X.K α H (vs ++ ws) (ds ++ es) := by
  induction h with
  | nil => exact h'
  | cons r _ ih => exact .cons r ih
/-- f(e, ..), dd the defaults that fill up -/
theorem de_call {CX : CXT} {k : Nat} {f : Addr} {fd : FuncData} {ps : List Str} {n : Nat} {c : Fn} {x : Str} {p : Pos} {e : Expr} {es : List Expr} {g : FA} {dvs : List V} {dus : List Value} {dd : List D}
    (F : FnOk X.prog X.w X.K X.mg X.base CX k f fd ps (spD X.prog X.w X.K RX c n)) (hr : Room k X.A) (hX : RXok RX) (hg : Gl X x) (hm : X.mg x = some (.ref f)) (hk : PySem.W.keepIn X.K (.ref f) = true) (hb : Binds X.K fd ps dus) (hd : Vals dvs dus) (hdd : ∀ α H, RepDs X.K α H dvs dd)
    (hc : ∀ ds S, ds.length ≠ n → c ds S = .stuck) (hx : ∀ σ, PassesAt CX X σ (fun c d H => W c d σ H)) (ha : DA X RX W (e :: es) g)
    (hdb : (x == ("__debug__" : Str)) = false := by decide) (he : starEach (e :: es) X.env = (false, eval e X.env) :: starEach es X.env := by rfl) (hpl : (backTo pos (starEach es X.env)).any (·.1) = false := by rfl) :
    DE X RX W (.Call (.Name x p) (e :: es) [] pos) (dCall c g dd) :=
  peW (pe_callSD (E := fun σ c d H => W c d σ H) F hr hg hm hk hb hd hx ha hdb he hpl) fun σ H Q ⟨α, env, S, h, o⟩ => tA_seq h o fun ds S1 α1 H1 vs e1 h1 rs o1 => by
    have r2 := rs.append (hdd α1 H1)
    have o2 := trunc_ok hX h1.wr o1
    refine ⟨?_, α1, ds ++ dd, S1, r2, h1.wr, o2⟩
    rw [RepDs.length r2]
    refine Decidable.byContradiction fun q => ?_
    rw [hc _ _ q] at o2
    exact o2
/-- f() -/
theorem da_none : DA X RX W [] dNilA := da_nil
/-! ### a def's body -/
def fin (r : Res Out) : Res D := match r with
  | .ok (.rt d) S => .ok d S
  | .ok (.nx _) S => .ok (.v .none) S
  | .ok (.ex x _) S => .exc x S
  | _ => .stuck
def runBody (n slots : Nat) (body : FS) : Fn := fun ds S => if ds.length = n then fin (body (ds.map some ++ List.replicate (slots - n) none) S) else .stuck
theorem runBody_len {n slots : Nat} {body : FS} (ds : List D) (S : Store) (h : ds.length ≠ n) : runBody n slots body ds S = .stuck := if_neg h
abbrev W0 (E : XK) : WX := fun c d _ H => E c d H
abbrev WF : WX := fun _ _ _ _ => False
theorem start_re {K : PySem.W.Frag} {N : List Str} {vs : List V} {ds : List D} (h : RepDs K α H vs ds) : RE K α H (L2.start N vs) (ds.map some ++ List.replicate (N.length - ds.length) none) := by
  have hl : vs.length = ds.length := Paired.length h
  refine ⟨by unfold L2.start; simp [hl], fun i d e => ?_⟩
  by_cases hi : i < ds.length
  · rw [List.getElem?_append_left (by simpa using hi), List.getElem?_map] at e
    have gd : ds[i]? = some d := by
      cases q : ds[i]? with
      | none => rw [q] at e; cases e
      | some z => rw [q] at e; cases e; rfl
    have get : ∀ {vs : List V} {ds : List D} {i : Nat} {d : D}, RepDs K α H vs ds → ds[i]? = some d → ∃ v, vs[i]? = some v ∧ RepD K α H v d := by
      intro vs ds i d h
      induction h generalizing i with
      | nil => intro e; simp at e
      | cons r _ ih => intro e; cases i with
        | zero => simp at e; subst e; exact ⟨_, rfl, r⟩
        | succ i => obtain ⟨v, h1, h2⟩ := ih (i := i) (by simpa using e); exact ⟨v, by simpa using h1, h2⟩
    obtain ⟨v, hv, r⟩ := get h gd
    refine ⟨v, ?_, r⟩
    unfold L2.start
    rw [List.getElem?_append_left (by simp; omega), List.getElem?_map, hv]
    rfl
  · rw [List.getElem?_append_right (by simpa using hi), List.getElem?_replicate] at e
    split at e <;> cases e
/-- a def keeps its plain run -/
theorem okCN {P : Program} {w : World} {K : PySem.W.Frag} {mg : Str → Option Value} {base : Heap} {x qual : Str} {st : Stmt} {f : Addr} {fd : FuncData} {N ps : List Str} {k : Nat} {sp : Sp} (F : Fun K x qual st f fd) (S : FnScope N ps (defScope st)) (len : ∀ vs H Q E, sp vs H Q E → vs.length = ps.length)
    (hbody : ∀ (cdv : Value) (A : Around) (outer : List Env) (s : Shared) (H : Hp) (vs : List V) (Q : VK) (E : XK), Room k (A.deeper (envOfC qual (defScope st) s.heap.objs.size f cdv)) → sp vs H Q E →
      ∃ t, PSs (cxOf (L2N.CX P w) P w K mg base N qual (defScope st) f cdv A outer s H E) (defBody st) t ∧ t { nx := fun _ H' => Q .non H', rt := Q } (start N vs) H) : FnOk P w K mg base (L2N.CX P w) (k + 1) f fd ps sp := by
  obtain ⟨oc, od, kV, doc, pm, an, cdv, ct, osl, rfl, lk, hcd⟩ := F.ex
  exact fn_of lk hcd S len fun A outer s H vs Q E hr hsp => hbody cdv A outer s H vs Q E hr hsp
theorem fnOk {P : Program} {w : World} {K : PySem.W.Frag} {mg : Str → Option Value} {base : Heap} {x qual : Str} {st : Stmt} {f : Addr} {fd : FuncData} {N ps : List Str} {k : Nat} {body : FS} (F : Fun K x qual st f fd) (Sc : FnScope N ps (defScope st))
    (hbody : ∀ (cdv : Value) (A : Around) (outer : List Env) (s : Shared) (H : Hp) (E : XK), Room k (A.deeper (envOfC qual (defScope st) s.heap.objs.size f cdv)) →
      DSs (cxOf (L2N.CX P w) P w K mg base N qual (defScope st) f cdv A outer s H E) RX (W0 E) (defBody st) body) :
    FnOk P w K mg base (L2N.CX P w) (k + 1) f fd ps (spD P w K RX (runBody ps.length N.length body) ps.length) := by
  refine okCN F Sc (fun vs H Q E h => h.1) fun cdv A outer s H vs Q E hr ⟨hl, α, ds, S, r, wr, o⟩ => ?_
  refine ⟨_, hbody cdv A outer s H E hr, α, ds.map some ++ List.replicate (N.length - ds.length) none, S, ⟨start_re r, wr⟩, ?_⟩
  have hd : ds.length = ps.length := by rw [← hl]; exact (Paired.length r).symm
  unfold runBody at o
  rw [if_pos hd] at o
  rw [hd]
  unfold fin at o
  cases hr : body (ds.map some ++ List.replicate (N.length - ps.length) none) S with
  | ok u S1 =>
    rw [hr] at o
    cases u with
    | nx env1 => exact fun a b c e2 h2 => o a b _ e2 h2.wr .non
    | rt d => exact o
    | ex x env => exact fun a b c d e e2 h2 rx => o a b d e e2 h2.wr rx
    | bk env => exact o.elim
    | ct env => exact o.elim
  | exc x S' => rw [hr] at o; exact o.elim
  | stuck => rw [hr] at o; exact o
end
end G

set_option Elab.async false
set_option linter.all false
set_option autoImplicit false
set_option maxRecDepth 100000
namespace G
open PySem PySem.Spec PyProof.Rows L2
/-! ### what is walked -/
def rangeD (lo : Int) (n : Nat) : List PyData := (List.range n).map fun i => .int (lo + (i : Nat))
def rngOk (a b : Int) : Bool := decide (-1000000000 ≤ a ∧ a ≤ 1000000000 ∧ -1000000000 ≤ b ∧ b ≤ 1000000000 ∧ (b - a).toNat ≤ 16000000)
def iRange1 (f : FE) : FI := fun env S => (f env S).bind fun d S1 => match d with
  | .v (.int j) => if rngOk 0 j then .ok (rangeD 0 j.toNat) S1 else .stuck
  | _ => .stuck
def iRange2 (f g : FE) : FI := fun env S => (f env S).bind fun d S1 => (g env S1).bind fun e S2 => match d, e with
  | .v (.int i), .v (.int j) => if rngOk i j then .ok (rangeD i (j - i).toNat) S2 else .stuck
  | _, _ => .stuck
def iSeq (f : FE) : FI := fun env S => (f env S).bind fun d S1 => match d with
  | .v (.list xs) => .ok xs S1
  | .v (.tuple xs) => .ok xs S1
  | _ => .stuck
section
variable {X : Cx} {RX : RXT} {W : WX} {α α' : AM} {H H' : Hp} {σ : St} {S S' : Store} {env : DEnv} {pos : Pos} {tg : Expr}
theorem iter_range (lo : Int) (n : Nat) : IterOk X (Itr lo n) (rangeD lo n) α H := fun α' H' e _ => by
  have hl : (rangeD lo n).length = n := by simp [rangeD]
  refine ⟨fun i x hx => ?_, by rw [hl]; exact Nat.le_refl _⟩
  have hi : i < n := by rw [← hl]; exact (List.getElem?_eq_some_iff.mp hx).1
  refine ⟨hi, fun v H'' ⟨e1, e2⟩ => ?_⟩
  subst e1 e2
  refine ⟨?_, .inl rfl⟩
  unfold rangeD at hx
  rw [List.getElem?_map, List.getElem?_range hi] at hx
  cases hx
  exact .int _
theorem di_range1 {a : Expr} {f : FE} {p : Pos} (hg : Gl X "range") (hm : X.mg "range" = none) (ha : DE X RX W a f) (hs : starEach [a] X.env = [(false, eval a X.env)] := by rfl) : DI X RX W tg (.Call (.Name "range" p) [a] [] pos) (iRange1 f) :=
  piW (pi_range1 hg hm (pa_cons ha pa_nil (by rw [hs]; rfl)) hs) fun σ H R ⟨α, env, S, h, o⟩ => tE_seq h o fun d S1 α1 H1 v e1 h1 r1 o1 => by
    split at o1
    · cases r1
      split at o1
      · rename_i hr
        have hr := of_decide_eq_true hr
        exact ⟨_, rfl, by omega, by omega, o1.get h1.wr _ (iter_range 0 _)⟩
      · exact o1.elim
    · exact o1.elim
theorem di_range2 {a b : Expr} {f g : FE} {p : Pos} (hg : Gl X "range") (hm : X.mg "range" = none) (ha : DE X RX W a f) (hb : DE X RX W b g) (hs : starEach [a, b] X.env = [(false, eval a X.env), (false, eval b X.env)] := by rfl) (hs2 : starEach [b] X.env = [(false, eval b X.env)] := by rfl) :
    DI X RX W tg (.Call (.Name "range" p) [a, b] [] pos) (iRange2 f g) :=
  piW (pi_range2 hg hm (pa_cons ha (pa_cons hb pa_nil (by rw [hs2]; rfl)) (by rw [hs, hs2])) hs hs2) fun σ H R ⟨α, env, S, h, o⟩ => tE_seq h o fun d S1 α1 H1 v e1 h1 r1 o1 => tE_seq h1 o1 fun e S2 α2 H2 u e2 h2 r2 o2 => by
    split at o2
    · cases r1; cases r2
      split at o2
      · rename_i hr
        have hr := of_decide_eq_true hr
        exact ⟨_, _, rfl, ⟨by omega, by omega, by omega, by omega⟩, o2.get h2.wr _ (iter_range _ _)⟩
      · exact o2.elim
    · exact o2.elim
/-- a list or a tuple, walked -/
def iSq (K : PySem.W.Frag) (tl : TE) : TI := fun σ H R => tl σ H fun x H1 => ∃ a, x = .ref a ∧ ((∃ xs, SqL K H1 a xs) ∧ R (Itl K a) H1 ∨ (∃ xs, SqT K H1 a xs) ∧ R (Itt K a) H1)
theorem pi_sq {l : Expr} {tl : TE} (hl : PE X l tl) : PI X tg l (iSq X.K tl) := by
  refine ⟨fun pins s σ H R I h => ?_⟩
  refine thn (hl.run pins s σ H _ I h) fun v s1 ⟨x, H1, I1, r1, q1⟩ => ?_
  obtain ⟨a, e, q⟩ := q1
  subst e
  cases r1
  rcases q with ⟨⟨xs, hq⟩, q⟩ | ⟨⟨xs, hq⟩, q⟩
  · obtain ⟨its, rv, p, hz⟩ := I1.list hq
    refine wpAny_pyIter_list p.isList ?_
    refine ⟨s1.heap.objs.size, [s1.heap.objs.size], _, _, H1, rfl, I1.kept (t' := s1.toks) fun b o e => Heap.get?_push_of_some _ e, turn_list a _, ⟨_, Heap.get?_push_size _ rfl, rfl, rfl⟩, fun b hb => ?_, q⟩
    have e : b = s1.heap.objs.size := by simpa using hb
    subst e
    exact I1.fpOk (Nat.le_refl _) (I1.hok.fresh (Nat.le_refl _))
  · obtain ⟨its, rv, p, hz⟩ := I1.tuple hq
    refine wpAny_pyIter_tuple (show s1.heap.IsTuple a its.toArray from p) ?_
    refine ⟨s1.heap.objs.size, [s1.heap.objs.size], _, _, H1, rfl, I1.kept (t' := s1.toks) fun b o e => Heap.get?_push_of_some _ e, turn_tuple a _, ⟨_, Heap.get?_push_size _ rfl, rfl, rfl⟩, fun b hb => ?_, q⟩
    have e : b = s1.heap.objs.size := by simpa using hb
    subst e
    exact I1.fpOk (Nat.le_refl _) (I1.hok.fresh (Nat.le_refl _))
theorem iter_list {a : Addr} {vs : List V} {xs : List PyData} (h : ImL α H a vs) (r : RpL X.K α H vs xs) : IterOk X (Itl X.K a) xs α H := fun α' H' e _ => by
  have h' := (h.keep e).sq (K := X.K)
  have r' := r.keep e
  refine ⟨fun i x hx => ?_, ⟨vs, h', by rw [r'.length]; exact Nat.le_refl _⟩⟩
  obtain ⟨v, hv, rv⟩ := r'.get hx
  refine ⟨⟨vs, v, h', hv⟩, fun u H'' ⟨e1, e2⟩ => ?_⟩
  subst e1
  have := e2 vs h'
  rw [hv] at this; cases this
  exact ⟨rv, .inl rfl⟩
theorem iter_tup {a : Addr} {vs : List V} {xs : List PyData} (h : ImT X.K α H a vs) (r : RpL X.K α H vs xs) : IterOk X (Itt X.K a) xs α H := fun α' H' e _ => by
  have h' := (h.keep e).sq
  have r' := r.keep e
  refine ⟨fun i x hx => ?_, ⟨vs, h', by rw [r'.length]; exact Nat.le_refl _⟩⟩
  obtain ⟨v, hv, rv⟩ := r'.get hx
  refine ⟨⟨vs, v, h', hv⟩, fun u H'' ⟨e1, e2⟩ => ?_⟩
  subst e1
  have := e2 vs h'
  rw [hv] at this; cases this
  exact ⟨rv, .inl rfl⟩
theorem di_seq {e : Expr} {f : FE} (he : DE X RX W e f) : DI X RX W tg e (iSeq f) := piW (pi_sq he) fun σ H R ⟨α, env, S, h, o⟩ => tE_seq h o fun d S1 α1 H1 v e1 h1 r1 o1 => by
  split at o1
  · cases r1 with
    | lst hl r => exact ⟨_, rfl, .inl ⟨⟨_, hl.sq⟩, o1.get h1.wr _ (iter_list hl r)⟩⟩
  · cases r1 with
    | tup hl r => exact ⟨_, rfl, .inr ⟨⟨_, hl.sq⟩, o1.get h1.wr _ (iter_tup hl r)⟩⟩
  · exact o1.elim
end
/-! ### list comprehensions -/
def wipeE (env : DEnv) : List Nat → DEnv
  | [] => env
  | i :: r => (wipeE env r).set i none
def noX {β : Type} (r : Res β) : Res β := match r with
  | .exc _ _ => .stuck | r => r
def fYes : FT := fun _ S => .ok true S
def compL (p : Pat) (t : FT) (f : FE) (env : DEnv) : List PyData → Store → Res (List PyData)
  | [], S => .ok [] S
  | x :: xs, S => match gPat p x env with
    | none => .stuck
    | some env1 => (noX (t env1 S)).bind fun b S1 => if b then (noX (f env1 S1)).bind fun d S2 => match d with
        | .v y => (compL p t f env xs S2).bind fun ys S3 => .ok (y :: ys) S3
        | _ => .stuck
      else compL p t f env xs S1
theorem compL_cons (p : Pat) (t : FT) (f : FE) (env : DEnv) (x : PyData) (xs : List PyData) (S : Store) : compL p t f env (x :: xs) S = match gPat p x env with
    | none => .stuck
    | some env1 => (noX (t env1 S)).bind fun b S1 => if b then (noX (f env1 S1)).bind fun d S2 => match d with
        | .v y => (compL p t f env xs S2).bind fun ys S3 => .ok (y :: ys) S3
        | _ => .stuck
      else compL p t f env xs S1 := rfl
def compR (own : List Nat) (p : Pat) (i : FI) (t : FT) (f : FE) : DEnv → Store → Res (List PyData) := fun env S => (i env S).bind fun xs S1 => if small xs.length then compL p t f (wipeE env own) xs S1 else .stuck
def dLc (own : List Nat) (p : Pat) (i : FI) (t : FT) (f : FE) : FE := fun env S => (compR own p i t f env S).bind fun ys S1 => .ok (.v (.list ys)) S1
def dLcC (own : List Nat) (p : Pat) (i : FI) (t : FT) (f : FE) : FE := fun env S => (compR own p i t f env S).bind fun ys S1 => .ok (.r S1.length) (S1 ++ [.lst ys])
section
variable {X : Cx} {RX : RXT} {W : WX} {α α' : AM} {H H' : Hp} {σ : St} {S S' : Store} {env : DEnv} {pos : Pos} {tg : Expr}
theorem re_wipe {K : PySem.W.Frag} {σ : St} {env : DEnv} (h : RE K α H σ env) : ∀ (own : List Nat), RE K α H (wipe σ own) (wipeE env own)
  | [] => h
  | i :: own => by
    have h0 := re_wipe h own
    show RE K α H ((wipe σ own).set i none) ((wipeE env own).set i none)
    refine ⟨by simpa using h0.len, fun j d e => ?_⟩
    by_cases hj : i = j
    · subst hj
      have hl : i < (wipeE env own).length := by have := (List.getElem?_eq_some_iff.mp e).1; simpa using this
      rw [List.getElem?_set_self hl] at e; cases e
    · rw [List.getElem?_set_ne hj] at e ⊢; exact h0.get j d e
theorem OkP.noX {β : Type} {W' : WX} {r : Res β} {P : β → Store → AM → Hp → Prop} (o : OkP X RX W α H σ (noX r) P) : OkP X RX W' α H σ r P := by
  cases r with
  | ok a S => exact o
  | exc x S => exact o.elim
  | stuck => exact o
theorem OkP.noXb {β γ : Type} {W' : WX} {r : Res β} {g : β → Store → Res γ} {P : γ → Store → AM → Hp → Prop} {σ' : St} (o : OkP X RX W α H σ ((G.noX r).bind g) P) : OkP X RX W' α H σ' r fun a S1 α1 H1 => OkP X RX W α1 H1 σ (g a S1) P := by
  have := o.bind
  cases r with
  | ok a S => exact this
  | exc x S => exact this.elim
  | stuck => exact this
theorem _root_.G.RE.keepK {K : PySem.W.Frag} {σ : St} {env : DEnv} (h : RE K α H σ env) (k : Keep α H α' H') (rf : ∀ (n : Nat) (x : Option Addr), α.c[n]? = some x → α'.c[n]? = some x ∨ α'.c[n]? = some none) (pw : α'.pw = α.pw := by rfl) : RE K α' H' σ env :=
  ⟨h.len, fun i d q => by
    obtain ⟨v, h1, h2⟩ := h.get i d q
    refine ⟨v, h1, ?_⟩
    cases d with
    | v x => exact Rp.keep k h2
    | k xs => obtain ⟨a, vs, h1, h3, h4⟩ := h2; exact ⟨a, vs, h1, h3.imp (·.keep k) id, h4.keep k⟩
    | g lo hi => obtain ⟨a, h1, h3, h4⟩ := h2; obtain ⟨h5, h6⟩ := k a _ h3 h4; exact ⟨a, h1, h5, h6⟩
    | z kvs => obtain ⟨a, h1, h3, h4⟩ := h2; obtain ⟨u, hu⟩ := h3.tracked; obtain ⟨h5, h6⟩ := k a _ hu h4; exact ⟨a, h1, by rw [pw]; exact h3.keep k (h5.trans hu.symm), h6⟩
    | y kvs => obtain ⟨a, ob, kv, h1, h3, h4, rr⟩ := h2; obtain ⟨h5, h6⟩ := k a _ h3 h4; exact ⟨a, ob, kv, h1, h5, h6, Paired.mapP rr fun _ _ z => ⟨z.1, z.2.keep k⟩⟩
    | r n =>
      obtain ⟨g1, g2⟩ := h2
      have gn := List.getElem?_eq_getElem g1
      rcases rf n _ gn with z | z
      · exact ⟨(List.getElem?_eq_some_iff.mp z).1, fun a q => g2 a (by rw [gn, ← z]; exact q)⟩
      · exact ⟨(List.getElem?_eq_some_iff.mp z).1, fun a q => by rw [z] at q; cases q⟩⟩
theorem wipe_agr {σ τ : St} {own : List Nat} (h : Agr own τ σ) : wipe σ own = wipe τ own := by
  have len : ∀ (own : List Nat) (σ : St), (wipe σ own).length = σ.length := fun own σ => wipe_length σ own
  have inn : ∀ (own : List Nat) (σ : St) (j : Nat), j ∈ own → j < σ.length → (wipe σ own)[j]? = some none := by
    intro own σ
    induction own with
    | nil => intro j h; simp at h
    | cons i own ih =>
      intro j h hj
      show ((wipe σ own).set i none)[j]? = _
      by_cases e : i = j
      · subst e; rw [List.getElem?_set_self (by rw [len]; exact hj)]
      · rw [List.getElem?_set_ne e]
        exact ih j (by rcases List.mem_cons.mp h with z | z; exact absurd z.symm e; exact z) hj
  apply List.ext_getElem?
  intro j
  by_cases hj : j ∈ own
  · by_cases hb : j < σ.length
    · rw [inn own σ j hj hb, inn own τ j hj (by rw [← h.1]; exact hb)]
    · rw [List.getElem?_eq_none (by rw [len]; omega), List.getElem?_eq_none (by rw [len, ← h.1]; omega)]
  · rw [wipe_out hj, wipe_out hj, h.2 j hj]
theorem wipe_idem {σ : St} {own : List Nat} : wipe (wipe σ own) own = wipe σ own := wipe_agr ⟨wipe_length _ _, fun j hj => wipe_out hj⟩
/-- a list comprehension's reading, from its plain run -/
theorem lc_read {own : List Nat} {p : Pat} {i : FI} {t : FT} {f : FE} {Q : VK} {fin : List PyData → Store → Res D} (hp : ∀ j ∈ p.slots, j ∈ own)
    (h : Here X α H σ env S) (o : Want X RX W α H σ ((compR own p i t f env S).bind fin) Q)
    (hfin : ∀ (α1 : AM) (H1 : Hp) (α2 : AM) (H2 : Hp) (ys : List PyData) (S2 : Store) (vs : List V) (D : Addr), α2.pw = α1.pw → WR X.prog X.w X.K α2 H2 S2 → α2.b = D :: α1.b → H1 D = none → α1.no D → H2 D = some (.lst vs) → RpL X.K α2 H2 vs ys → Keep α1 H1 α2 H2 →
      (∀ (n : Nat) (x : Option Addr), α1.c[n]? = some x → α2.c[n]? = some x ∨ α2.c[n]? = some none) → (∀ a ∈ α1.b, H2 a = H1 a) → Want X RX W α1 H1 σ (fin ys S2) Q → Q (.ref D) H2) :
    tLc (tI X RX W i (IterOk X)) (tG X p) (tT X RX WF t) (tE X RX WF f) own σ H Q := by
  refine ⟨α, env, S, h, ?_⟩
  unfold compR at o
  rw [bind_assoc] at o
  have ob := o.bind
  have key : ∀ {xs : List PyData} {S1 : Store} {α1 : AM} {H1 : Hp}, Ext α H α1 H1 → WR X.prog X.w X.K α1 H1 S1 → Want X RX W α1 H1 σ ((if small xs.length then compL p t f (wipeE env own) xs S1 else .stuck).bind fin) Q → ∀ J, IterOk X J xs α1 H1 →
      ∀ D, H1 D = none → ∃ W' : Nat → Nat → Hp → Prop, (∃ m, W' 0 m (upd H1 D (.lst []))) ∧ ∀ i m H, W' i m H → (J.stop i H ∧ Q (.ref D) H) ∨ (J.go i H ∧ ∃ Nx : Hp → Prop, (∀ H', Nx H' → ∃ m', m' < m ∧ W' (i + 1) m' H') ∧ ∀ x H', J.yld i H x H' → tG X p x (wipe σ own) H' fun σ2 H2 => wipe σ2 own = wipe σ own ∧ tT X RX WF t σ2 H2 fun b H3 =>
        if b = true then tE X RX WF f σ2 H3 fun y H4 => ∃ acc, H4 D = some (.lst acc) ∧ acc.length < sizeLine ∧ Nx (upd H4 D (.lst (acc ++ [y]))) else Nx H3) := by
    intro xs S1 α1 H1 e1 w1 o1 J hJ D hD
    split at o1
    · rename_i hsm
      have hz : xs.length ≤ 16000000 := of_decide_eq_true hsm
      refine ⟨fun i m Hc => ∃ (α2 : AM) (S2 : Store) (acc : List PyData) (vs : List V), i + m = xs.length ∧ acc.length ≤ i ∧ Here X α2 Hc (wipe σ own) (wipeE env own) S2 ∧ α2.b = D :: α1.b ∧ Hc D = some (.lst vs) ∧ RpL X.K α2 Hc vs acc ∧ Keep α1 H1 α2 Hc ∧
        (∀ (n : Nat) (x : Option Addr), α1.c[n]? = some x → α2.c[n]? = some x ∨ α2.c[n]? = some none) ∧ (∀ a ∈ α1.b, Hc a = H1 a) ∧
        compL p t f (wipeE env own) xs S1 = (compL p t f (wipeE env own) (xs.drop i) S2).bind fun ys S' => .ok (acc ++ ys) S', ⟨xs.length, α1.block D, S1, [], [], Nat.zero_add _, Nat.zero_le _, ⟨(re_wipe (h.re.ext e1) own).keepK (Keep.block D hD) (fun n x q => .inl q), w1.block hD⟩, rfl, upd_same, .nil, Keep.block D hD, fun n x q => .inl q, fun a ha => upd_ne fun z => ?_, ?_⟩, ?_⟩
      · subst z; obtain ⟨_, u, q⟩ := w1.bl _ ha; rw [hD] at q; cases q
      · rw [List.drop_zero]; cases compL p t f (wipeE env own) xs S1 <;> rfl
      · rintro i m Hc ⟨α2, S2, acc, vs, em, hacc, h2, hb, hDc, racc, kp, rf, bk, eq⟩
        obtain ⟨go, stop⟩ := hJ α2 Hc kp fun p hp => h2.wr.fresh hp
        have hDb : D ∈ α2.b := by rw [hb]; exact List.mem_cons_self
        by_cases hi : i < xs.length
        · have gi := List.getElem?_eq_getElem hi
          obtain ⟨g1, g2⟩ := go i _ gi
          rw [List.drop_eq_getElem_cons hi] at eq
          rw [compL_cons] at eq
          cases q1 : gPat p xs[i] (wipeE env own) with
          | none => rw [q1] at eq; simp only [Res.bind] at eq; rw [eq] at o1; exact o1.elim
          | some env1 =>
          rw [q1] at eq
          cases q2 : t env1 S2 with
          | stuck => simp only [q2, noX, Res.bind] at eq; rw [eq] at o1; exact o1.elim
          | exc x S3 => simp only [q2, noX, Res.bind] at eq; rw [eq] at o1; exact o1.elim
          | ok b S3 =>
          simp only [q2, noX, Res.bind] at eq
          refine .inr ⟨g1, fun Hn => ∃ (α2 : AM) (S2 : Store) (acc : List PyData) (vs : List V), acc.length ≤ i + 1 ∧ Here X α2 Hn (wipe σ own) (wipeE env own) S2 ∧ α2.b = D :: α1.b ∧ Hn D = some (.lst vs) ∧ RpL X.K α2 Hn vs acc ∧ Keep α1 H1 α2 Hn ∧
            (∀ (n : Nat) (x : Option Addr), α1.c[n]? = some x → α2.c[n]? = some x ∨ α2.c[n]? = some none) ∧ (∀ a ∈ α1.b, Hn a = H1 a) ∧
            compL p t f (wipeE env own) xs S1 = (compL p t f (wipeE env own) (xs.drop (i + 1)) S2).bind fun ys S' => .ok (acc ++ ys) S', fun H' ⟨a, b, c, d, h1, r⟩ => ⟨m - 1, by omega, a, b, c, d, by omega, h1, r⟩, fun v H'' hy => ?_⟩
          obtain ⟨rv, up⟩ := g2 v H'' hy
          have eu : Ext α2 Hc α2 H'' := Ext.up h2.wr up
          refine ⟨α2, wipeE env own, S2, _, env1, ⟨h2.re.ext eu, h2.wr.up up⟩, rv, q1, fun σ3 h3 ag => ⟨?_, ?_⟩⟩
          · have : Agr own (wipe σ own) σ3 := ⟨ag.1, fun j hj => ag.2 j fun z => hj (hp j z)⟩
            rw [wipe_agr this]; exact wipe_idem
          · refine ⟨α2, env1, S2, h3, ?_⟩
            rw [q2]
            intro α3 H3 e3 w3
            have ebase : Ext α2 Hc α3 H3 := eu.trans e3
            have kp3 : Keep α1 H1 α3 H3 := fun a u hu hn => let ⟨z1, z2⟩ := kp a u hu hn; ebase.keep a u z1 z2
            have rf3 : ∀ (n : Nat) (x : Option Addr), α1.c[n]? = some x → α3.c[n]? = some x ∨ α3.c[n]? = some none := fun n x q => by
              rcases rf n x q with z | z
              · exact ebase.ref n x z
              · rcases ebase.ref n _ z with y | y <;> exact .inr y
            have bk3 : ∀ a ∈ α1.b, H3 a = H1 a := fun a ha => (ebase.blk a (by rw [hb]; exact List.mem_cons_of_mem _ ha)).trans (bk a ha)
            have hb3 : α3.b = D :: α1.b := ebase.bl.trans hb
            have hD3 : H3 D = some (.lst vs) := (ebase.blk D hDb).trans hDc
            cases b with
            | false =>
              simp only [Bool.false_eq_true, if_false] at eq ⊢
              exact ⟨α3, S3, acc, vs, by omega, ⟨h2.re.ext ebase, w3⟩, hb3, hD3, racc.ext ebase, kp3, rf3, bk3, eq⟩
            | true =>
              simp only [if_true] at eq ⊢
              refine ⟨α3, env1, S3, h3.ext X e3 w3, ?_⟩
              cases q3 : f env1 S3 with
              | stuck => simp only [q3, noX, Res.bind] at eq; rw [eq] at o1; exact o1.elim
              | exc x S4 => simp only [q3, noX, Res.bind] at eq; rw [eq] at o1; exact o1.elim
              | ok d S4 =>
                simp only [q3, noX, Res.bind] at eq
                cases d with
                | r n => simp only [Res.bind] at eq; rw [eq] at o1; exact o1.elim
                | k n => simp only [Res.bind] at eq; rw [eq] at o1; exact o1.elim
                | g lo hi => simp only [Res.bind] at eq; rw [eq] at o1; exact o1.elim
                | z kvs => simp only [Res.bind] at eq; rw [eq] at o1; exact o1.elim
                | y kvs => simp only [Res.bind] at eq; rw [eq] at o1; exact o1.elim
                | v y =>
                  intro α4 H4 e4 w4 u ru
                  have e24 : Ext α2 Hc α4 H4 := ebase.trans e4
                  have hb4 : α4.b = D :: α1.b := e4.bl.trans hb3
                  have hDb4 : D ∈ α4.b := by rw [hb4]; exact List.mem_cons_self
                  have hD4 : H4 D = some (.lst vs) := (e4.blk D (by rw [hb3]; exact List.mem_cons_self)).trans hD3
                  have gk : ∀ {o : HO}, Keep α4 H4 α4 (upd H4 D o) := fun {o} => Keep.grow hDb4
                  refine ⟨vs, hD4, by rw [racc.length]; rw [sizeLine_eq]; omega, α4, S4, acc ++ [y], vs ++ [u], by rw [List.length_append, List.length_singleton]; omega, ⟨(h2.re.ext e24).keepK gk (fun n x q => .inl q), w4.grow hDb4⟩, hb4, upd_same, ?_, fun a z hz hn => ?_, fun n x q => ?_, fun a ha => ?_, ?_⟩
                  · exact (((racc.ext e24).snoc ru).keep gk)
                  · obtain ⟨z1, z2⟩ := kp3 a z hz hn
                    obtain ⟨y1, y2⟩ := e4.keep a z z1 z2
                    exact gk a z y1 y2
                  · rcases rf3 n x q with z | z
                    · exact e4.ref n x z
                    · rcases e4.ref n _ z with y | y <;> exact .inr y
                  · have ne : a ≠ D := fun z => by subst z; obtain ⟨_, u, q⟩ := w1.bl _ ha; rw [hD] at q; cases q
                    rw [upd_ne ne]
                    exact (e4.blk a (by rw [hb3]; exact List.mem_cons_of_mem _ ha)).trans (bk3 a ha)
                  · rw [eq]
                    cases compL p t f (wipeE env own) (xs.drop (i + 1)) S4 with
                    | ok ys S5 => simp only [Res.bind, List.append_assoc, List.singleton_append]
                    | exc x S5 => rfl
                    | stuck => rfl
        · have e : i = xs.length := by omega
          subst e
          rw [List.drop_length] at eq
          simp only [compL, Res.bind, List.append_nil] at eq
          rw [eq] at o1
          exact .inl ⟨stop, hfin α1 H1 α2 Hc acc S2 vs D (h2.wr.pw.trans w1.pw.symm) h2.wr hb hD (w1.fresh hD) hDc racc kp rf bk o1⟩
    · exact o1.elim
  cases hr : i env S with
  | ok xs S1 => rw [hr] at ob; exact fun α1 H1 e1 w1 J hJ D hD => key e1 w1 (ob α1 H1 e1 w1) J hJ D hD
  | exc x S1 => rw [hr] at ob; exact ob
  | stuck => rw [hr] at ob; exact ob
/-- the new list is known -/
theorem fin_lst {Q : VK} (α1 : AM) (H1 : Hp) (α2 : AM) (H2 : Hp) (ys : List PyData) (S2 : Store) (vs : List V) (D : Addr) (pw : α2.pw = α1.pw) (w2 : WR X.prog X.w X.K α2 H2 S2) (hb : α2.b = D :: α1.b) (hD : H1 D = none) (hn : α1.no D) (hD2 : H2 D = some (.lst vs)) (r : RpL X.K α2 H2 vs ys) (k : Keep α1 H1 α2 H2)
    (rf : ∀ (n : Nat) (x : Option Addr), α1.c[n]? = some x → α2.c[n]? = some x ∨ α2.c[n]? = some none) (bk : ∀ a ∈ α1.b, H2 a = H1 a) (o : Want X RX W α1 H1 σ (.ok (.v (.list ys)) S2) Q) : Q (.ref D) H2 := by
  have ku : Keep α2 H2 ⟨α2.c, α1.b, α1.pw⟩ H2 := fun a u h n => ⟨h, n.1, fun z => n.2 (by rw [hb]; exact List.mem_cons_of_mem _ z)⟩
  have nD : (⟨α2.c, α1.b, α1.pw⟩ : AM).no D := ⟨(w2.bl D (by rw [hb]; exact List.mem_cons_self)).1, hn.2⟩
  refine o ⟨α2.c, α1.b, α1.pw⟩ H2 ⟨fun a u h n => let ⟨z1, z2⟩ := k a u h n; ku a u z1 z2, rf, rfl, bk, rfl⟩ ?_ _ (.lst ⟨.inl hD2, nD⟩ (r.keep ku))
  exact ⟨w2.len, w2.one, fun n c a h1 h2 => (w2.cell n c a h1 h2).keep ku rfl, w2.live, fun a h => w2.bl a (by rw [hb]; exact List.mem_cons_of_mem _ h), pw.symm.trans w2.pw⟩
theorem fin_cell {Q : VK} (α1 : AM) (H1 : Hp) (α2 : AM) (H2 : Hp) (ys : List PyData) (S2 : Store) (vs : List V) (D : Addr) (pw : α2.pw = α1.pw) (w2 : WR X.prog X.w X.K α2 H2 S2) (hb : α2.b = D :: α1.b) (hD : H1 D = none) (hn : α1.no D) (hD2 : H2 D = some (.lst vs)) (r : RpL X.K α2 H2 vs ys) (k : Keep α1 H1 α2 H2)
    (rf : ∀ (n : Nat) (x : Option Addr), α1.c[n]? = some x → α2.c[n]? = some x ∨ α2.c[n]? = some none) (bk : ∀ a ∈ α1.b, H2 a = H1 a) (o : Want X RX W α1 H1 σ (.ok (.r S2.length) (S2 ++ [.lst ys])) Q) : Q (.ref D) H2 := by
  have nc := (w2.bl D (by rw [hb]; exact List.mem_cons_self)).1
  have ku : Keep α2 H2 ⟨α2.c ++ [some D], α1.b, α1.pw⟩ H2 := fun a u h n => ⟨h, ⟨fun z => by
    rcases List.mem_append.mp z with z | z
    · exact n.1 z
    · rw [List.mem_singleton] at z; cases z; exact n.2 (by rw [hb]; exact List.mem_cons_self), fun z => n.2 (by rw [hb]; exact List.mem_cons_of_mem _ z)⟩⟩
  have hl := w2.len
  have old : ∀ {i : Nat} {y : Option Addr}, (α2.c ++ [some D])[i]? = some y → (i < α2.c.length ∧ α2.c[i]? = some y) ∨ (i = α2.c.length ∧ y = some D) := fun {i y} h => by
    by_cases hi : i < α2.c.length
    · rw [List.getElem?_append_left hi] at h; exact .inl ⟨hi, h⟩
    · have e := (List.getElem?_eq_some_iff.mp h).1
      rw [List.length_append, List.length_singleton] at e
      have e2 : i = α2.c.length := by omega
      subst e2
      rw [List.getElem?_append_right (Nat.le_refl _)] at h
      simp at h
      exact .inr ⟨rfl, h.symm⟩
  have noD : ∀ {i : Nat}, α2.c[i]? ≠ some (some D) := fun {i} h => nc (List.mem_of_getElem? h)
  refine o ⟨α2.c ++ [some D], α1.b, α1.pw⟩ H2 ⟨fun a u h n => let ⟨z1, z2⟩ := k a u h n; ku a u z1 z2, fun n x q => ?_, rfl, bk, rfl⟩ ⟨?_, fun i j a h1 h2 => ?_, fun n c a h1 h2 => ?_, fun n c h1 h2 => ?_, fun a h => ?_, pw.symm.trans w2.pw⟩ _ ⟨?_, fun a h => ?_⟩
  · show (α2.c ++ [some D])[n]? = _ ∨ (α2.c ++ [some D])[n]? = _
    have hn : n < α2.c.length := by rcases rf n x q with z | z <;> exact (List.getElem?_eq_some_iff.mp z).1
    rw [List.getElem?_append_left hn]; exact rf n x q
  · show (α2.c ++ [some D]).length = _; simp [hl]
  · rcases old h1 with ⟨i1, q1⟩ | ⟨i1, q1⟩ <;> rcases old h2 with ⟨j1, q2⟩ | ⟨j1, q2⟩
    · exact w2.one i j a q1 q2
    · cases q2; exact absurd q1 noD
    · cases q1; exact absurd q2 noD
    · omega
  · rcases old h2 with ⟨i1, q1⟩ | ⟨i1, q1⟩
    · rw [List.getElem?_append_left (by omega)] at h1
      exact (w2.cell n c a h1 q1).keep ku rfl
    · cases q1
      rw [List.getElem?_append_right (by omega)] at h1
      have : n - S2.length = 0 := by omega
      rw [this] at h1
      simp at h1
      subst h1
      exact ⟨vs, hD2, r.keep ku⟩
  · by_cases hn : n < S2.length
    · rw [List.getElem?_append_left hn] at h1
      obtain ⟨a, ha⟩ := w2.live n c h1 h2
      exact ⟨a, by show (α2.c ++ [some D])[n]? = _; rw [List.getElem?_append_left (by omega)]; exact ha⟩
    · have e := (List.getElem?_eq_some_iff.mp h1).1
      rw [List.length_append, List.length_singleton] at e
      have e2 : n = α2.c.length := by omega
      subst e2
      exact ⟨D, by show (α2.c ++ [some D])[α2.c.length]? = _; rw [List.getElem?_append_right (Nat.le_refl _)]; simp⟩
  · obtain ⟨h1, u, h2⟩ := w2.bl a (by rw [hb]; exact List.mem_cons_of_mem _ h)
    refine ⟨fun m => ?_, u, h2⟩
    rcases List.mem_append.mp m with m | m
    · exact h1 m
    · rw [List.mem_singleton] at m; cases m; exact hn.2 h
  · show S2.length < (α2.c ++ [some D]).length; simp [hl]
  · rcases old h with ⟨i1, q1⟩ | ⟨i1, q1⟩
    · omega
    · cases q1; rfl
structure PTsD (X : Cx) (RX : RXT) (W : WX) (ifs : List Expr) (f : FT) : Prop where
  run : PTs X ifs (tT X RX W f)
theorem dts_nil : PTsD X RX W [] fYes := ⟨⟨fun pins s σ H Q I ⟨α, env, S, h, o⟩ => pts_nil.run pins s σ H Q I (o.get h.wr)⟩⟩
theorem dts_one {c : Expr} {f : FT} (h : DT X RX W c f) : PTsD X RX W [c] f := ⟨pts_one h⟩
abbrev blkX (X : Cx) (s : Shared) (H : Hp) (scope : Scope) (C : Addr) (cl : List (Str × Addr)) (fp : List Addr) : Cx := X.blk s H scope (compEnvC scope cl C X.env) fp
/-- [elt for tg in iter if ..] -/
theorem pe_dlc {elt tg iter : Expr} {ifs : List Expr} {scope : Scope} {own : List (Str × Nat)} {p : Pat} {i : FI} {t : FT} {f : FE} (hc : X.calm = true) (hN : X.N.Nodup) (hi : DI X RX W tg iter i) (ok : BlkOk X.N X.env.scope scope own)
    (hg : ∀ (s : Shared) (H : Hp) (C : Addr) (cl : List (Str × Addr)) (fp : List Addr), DG (blkX X s H scope C cl fp) tg p) (ht : ∀ (s : Shared) (H : Hp) (C : Addr) (cl : List (Str × Addr)) (fp : List Addr), PTsD (blkX X s H scope C cl fp) RX WF ifs t)
    (he : ∀ (s : Shared) (H : Hp) (C : Addr) (cl : List (Str × Addr)) (fp : List Addr), DE (blkX X s H scope C cl fp) RX WF elt f) (hs : ∀ x, foldedSetIterable iter X.env x = pure x := by intro _; rfl) :
    PE X (.ListComp elt [⟨tg, iter, ifs, 0⟩] scope pos) (tLc (tI X RX W i (IterOk X)) (tG X p) (tT X RX WF t) (tE X RX WF f) (own.map (·.2))) :=
  pe_lc hc hN hi ok hg (fun s H C cl fp => (ht s H C cl fp).run) he hs
theorem de_lc {elt tg iter : Expr} {ifs : List Expr} {scope : Scope} (own : List (Str × Nat)) {p : Pat} {i : FI} {t : FT} {f : FE} (hc : X.calm = true) (hN : X.N.Nodup) (hi : DI X RX W tg iter i) (ok : BlkOk X.N X.env.scope scope own)
    (hg : ∀ (s : Shared) (H : Hp) (C : Addr) (cl : List (Str × Addr)) (fp : List Addr), DG (blkX X s H scope C cl fp) tg p) (ht : ∀ (s : Shared) (H : Hp) (C : Addr) (cl : List (Str × Addr)) (fp : List Addr), PTsD (blkX X s H scope C cl fp) RX WF ifs t)
    (he : ∀ (s : Shared) (H : Hp) (C : Addr) (cl : List (Str × Addr)) (fp : List Addr), DE (blkX X s H scope C cl fp) RX WF elt f) (hp : ∀ j ∈ p.slots, j ∈ own.map (·.2)) (hs : ∀ x, foldedSetIterable iter X.env x = pure x := by intro _; rfl) :
    DE X RX W (.ListComp elt [⟨tg, iter, ifs, 0⟩] scope pos) (dLc (own.map (·.2)) p i t f) :=
  peW (pe_dlc hc hN hi ok hg ht he hs) fun σ H Q ⟨α, env, S, h, o⟩ => lc_read hp h o fin_lst
theorem de_lcC {elt tg iter : Expr} {ifs : List Expr} {scope : Scope} (own : List (Str × Nat)) {p : Pat} {i : FI} {t : FT} {f : FE} (hc : X.calm = true) (hN : X.N.Nodup) (hi : DI X RX W tg iter i) (ok : BlkOk X.N X.env.scope scope own)
    (hg : ∀ (s : Shared) (H : Hp) (C : Addr) (cl : List (Str × Addr)) (fp : List Addr), DG (blkX X s H scope C cl fp) tg p) (ht : ∀ (s : Shared) (H : Hp) (C : Addr) (cl : List (Str × Addr)) (fp : List Addr), PTsD (blkX X s H scope C cl fp) RX WF ifs t)
    (he : ∀ (s : Shared) (H : Hp) (C : Addr) (cl : List (Str × Addr)) (fp : List Addr), DE (blkX X s H scope C cl fp) RX WF elt f) (hp : ∀ j ∈ p.slots, j ∈ own.map (·.2)) (hs : ∀ x, foldedSetIterable iter X.env x = pure x := by intro _; rfl) :
    DE X RX W (.ListComp elt [⟨tg, iter, ifs, 0⟩] scope pos) (dLcC (own.map (·.2)) p i t f) :=
  peW (pe_dlc hc hN hi ok hg ht he hs) fun σ H Q ⟨α, env, S, h, o⟩ => lc_read hp h o fin_cell
/-- y = [..], y a local name, on one line -/
theorem ds_setLcR {i : Nat} {y : Str} {py : Pos} {elt tg iter : Expr} {ifs : List Expr} {scope : Scope} {own : List (Str × Nat)} {lpos : Pos} {p : Pat} {it : FI} {t : FT} {f : FE} (hc : X.calm = true) (hN : X.N.Nodup) (hy : X.N[i]? = some y) (hyl : X.env.scope.names.lookup y = some .local)
    (hsw : swapsWith (.ListComp elt [⟨tg, iter, ifs, 0⟩] scope lpos) (some (.Name y py)) pos.line X.env = pure true) (hi : DI X RX W tg iter it) (ok : BlkOk X.N X.env.scope scope own)
    (hg : ∀ (s : Shared) (H : Hp) (C : Addr) (cl : List (Str × Addr)) (fp : List Addr), DG (blkX X s H scope C cl fp) tg p) (ht : ∀ (s : Shared) (H : Hp) (C : Addr) (cl : List (Str × Addr)) (fp : List Addr), PTsD (blkX X s H scope C cl fp) RX WF ifs t)
    (he : ∀ (s : Shared) (H : Hp) (C : Addr) (cl : List (Str × Addr)) (fp : List Addr), DE (blkX X s H scope C cl fp) RX WF elt f) (hs : ∀ x, foldedSetIterable iter X.env x = pure x := by intro _; rfl) :
    PS X (.Assign [.Name y py] (.ListComp elt [⟨tg, iter, ifs, 0⟩] scope lpos) pos) (tAsg (tLc (tI X RX W it (IterOk X)) (tG X p) (tT X RX WF t) (tE X RX WF f) (own.map (·.2))) (gName i)) :=
  ps_setLc hc hN hy hyl hsw hi ok hg (fun s H C cl fp => (ht s H C cl fp).run) he hs
/-- a result that is wanted by a statement, as one that is wanted by its expression -/
theorem want_set {r : Res G.D} {D : Ends} {i : Nat} (h : Here X α H σ env S) (o : OkS X RX W α H (lift env r fun d S1 => .ok (.nx (env.set i (some d))) S1) D) : Want X RX W α H σ r (fun v H' => D.nx (σ.set i (some v)) H') := by
  cases r with
  | ok d S1 => exact fun α1 H1 e1 w1 v rv => OkS.nx ((h.ext X e1 w1).set rv) (OkS.ext o e1)
  | exc x S1 => exact fun α1 H1 c dx e1 w1 rx => o α1 H1 σ c dx e1 (h.ext X e1 w1) rx
  | stuck => exact o
theorem ds_setLc {i : Nat} {y : Str} {py : Pos} {elt tg iter : Expr} {ifs : List Expr} {scope : Scope} (own : List (Str × Nat)) {lpos : Pos} {p : Pat} {it : FI} {t : FT} {f : FE} (hc : X.calm = true) (hN : X.N.Nodup) 
    (hi : DI X RX W tg iter it) (ok : BlkOk X.N X.env.scope scope own)
    (hg : ∀ (s : Shared) (H : Hp) (C : Addr) (cl : List (Str × Addr)) (fp : List Addr), DG (blkX X s H scope C cl fp) tg p) (ht : ∀ (s : Shared) (H : Hp) (C : Addr) (cl : List (Str × Addr)) (fp : List Addr), PTsD (blkX X s H scope C cl fp) RX WF ifs t)
    (he : ∀ (s : Shared) (H : Hp) (C : Addr) (cl : List (Str × Addr)) (fp : List Addr), DE (blkX X s H scope C cl fp) RX WF elt f) (hp : ∀ j ∈ p.slots, j ∈ own.map (·.2)) (hsw : swapsWith (.ListComp elt [⟨tg, iter, ifs, 0⟩] scope lpos) (some (.Name y py)) pos.line X.env = pure true) (hy : X.N[i]? = some y := by rfl) (hyl : X.env.scope.names.lookup y = some .local := by rfl)
    (hs : ∀ x, foldedSetIterable iter X.env x = pure x := by intro _; rfl) :
    DS X RX W (.Assign [.Name y py] (.ListComp elt [⟨tg, iter, ifs, 0⟩] scope lpos) pos) (sSet i (dLc (own.map (·.2)) p it t f)) :=
  psW (ds_setLcR hc hN hy hyl hsw hi ok hg ht he hs) fun D σ H ⟨α, env, S, h, o⟩ => lc_read hp h (want_set h o) fin_lst
theorem ds_setLcC {i : Nat} {y : Str} {py : Pos} {elt tg iter : Expr} {ifs : List Expr} {scope : Scope} (own : List (Str × Nat)) {lpos : Pos} {p : Pat} {it : FI} {t : FT} {f : FE} (hc : X.calm = true) (hN : X.N.Nodup)
    (hi : DI X RX W tg iter it) (ok : BlkOk X.N X.env.scope scope own)
    (hg : ∀ (s : Shared) (H : Hp) (C : Addr) (cl : List (Str × Addr)) (fp : List Addr), DG (blkX X s H scope C cl fp) tg p) (ht : ∀ (s : Shared) (H : Hp) (C : Addr) (cl : List (Str × Addr)) (fp : List Addr), PTsD (blkX X s H scope C cl fp) RX WF ifs t)
    (he : ∀ (s : Shared) (H : Hp) (C : Addr) (cl : List (Str × Addr)) (fp : List Addr), DE (blkX X s H scope C cl fp) RX WF elt f) (hp : ∀ j ∈ p.slots, j ∈ own.map (·.2)) (hsw : swapsWith (.ListComp elt [⟨tg, iter, ifs, 0⟩] scope lpos) (some (.Name y py)) pos.line X.env = pure true) (hy : X.N[i]? = some y := by rfl) (hyl : X.env.scope.names.lookup y = some .local := by rfl)
    (hs : ∀ x, foldedSetIterable iter X.env x = pure x := by intro _; rfl) :
    DS X RX W (.Assign [.Name y py] (.ListComp elt [⟨tg, iter, ifs, 0⟩] scope lpos) pos) (sSet i (dLcC (own.map (·.2)) p it t f)) :=
  psW (ds_setLcR hc hN hy hyl hsw hi ok hg ht he hs) fun D σ H ⟨α, env, S, h, o⟩ => lc_read hp h (want_set h o) fin_cell
end
end G

set_option Elab.async false
set_option linter.all false
set_option autoImplicit false
set_option maxRecDepth 100000
namespace G
open PySem PySem.Spec PyProof.Rows L2
/-! ### calls of built-in functions and types -/
abbrev Op := List D → Store → Res D
def dBlt (op : Op) (g : FA) : FE := fun env S => (g env S).bind op
def opLen : Op := fun ds S => match ds with
  | [d] => (match lenOf S d with | some n => okI (n : Nat) S | none => .stuck)
  | _ => .stuck
/-- list(x), tuple(x): data -/
def opList : Op := fun ds S => match ds with
  | [d] => (match seqOf S d with | some xs => .ok (.v (.list xs)) S | none => .stuck)
  | _ => .stuck
def opListC : Op := fun ds S => match ds with
  | [d] => (match seqOf S d with | some xs => .ok (.r S.length) (S ++ [.lst xs]) | none => .stuck)
  | _ => .stuck
def opTuple : Op := fun ds S => match ds with
  | [d] => (match seqOf S d with | some xs => .ok (.v (.tuple xs)) S | none => .stuck)
  | _ => .stuck
def opInt : Op := fun ds S => match ds with
  | [.v (.int i)] => okI i S
  | [.v (.bool b)] => okI (if b then 1 else 0) S
  | _ => .stuck
def opAbs : Op := fun ds S => match ds with
  | [.v (.int i)] => okI (if i < 0 then -i else i) S
  | _ => .stuck
def shallow (x : PyData) : Bool := decide (x.depth ≤ 60)
def allAlikeB (xs : List PyData) : Bool := xs.all fun x => xs.all fun y => PySem.W.alike x y
def isNone : PyData → Bool
  | .none => true
  | _ => false
def isTup : PyData → Bool
  | .tuple _ => true
  | _ => false
def isTup1 : PyData → Bool
  | .tuple (_ :: _) => true
  | _ => false
def opMax : Op := fun ds S => match ds with
  | [.v (.int i), .v (.int j)] => okI (if j > i then j else i) S
  | [d] => (match seqOf S d with
    | some (x :: xs) => if allAlikeB (x :: xs) && (x :: xs).all (fun y => !isNone y) && decide (PyData.depthAll (x :: xs) ≤ 60) then .ok (.v (PySem.W.maxD x xs)) S else .stuck
    | _ => .stuck)
  | _ => .stuck
def opMin : Op := fun ds S => match ds with
  | [.v (.int i), .v (.int j)] => okI (if j < i then j else i) S
  | [d] => (match seqOf S d with
    | some (x :: xs) => if allAlikeB (x :: xs) && (x :: xs).all (fun y => !isNone y) && decide (PyData.depthAll (x :: xs) ≤ 60) then .ok (.v (PySem.W.minD x xs)) S else .stuck
    | _ => .stuck)
  | _ => .stuck
def intsOf : List PyData → Option (List Int)
  | [] => some []
  | .int i :: r => (intsOf r).map (i :: ·)
  | _ :: _ => none
def boolsOf : List PyData → Option (List Bool)
  | [] => some []
  | .bool i :: r => (boolsOf r).map (i :: ·)
  | _ :: _ => none
def opSum : Op := fun ds S => match ds with
  | [d] => (match listOf S d with
    | some xs => (match intsOf xs with | some ns => okI ns.sum S | none => .stuck)
    | none => .stuck)
  | _ => .stuck
def opAny : Op := fun ds S => match ds with
  | [d] => (match listOf S d with
    | some xs => (match boolsOf xs with | some ns => okB (ns.any id) S | none => .stuck)
    | none => .stuck)
  | _ => .stuck
def opAll : Op := fun ds S => match ds with
  | [d] => (match listOf S d with
    | some xs => (match boolsOf xs with | some ns => okB (ns.all id) S | none => .stuck)
    | none => .stuck)
  | _ => .stuck
def sortOk (xs : List PyData) : Bool := allAlikeB xs && (xs.all isTup1 || xs.all fun y => !isNone y && !isTup y) && xs.all shallow
def insD (a : PyData) : List PyData → List PyData
  | [] => [a]
  | b :: r => if PySem.W.dataLe false id a b then a :: b :: r else b :: insD a r
def sortD : List PyData → List PyData
  | [] => []
  | a :: r => insD a (sortD r)
theorem insD_at (a : PyData) : ∀ (l₁ l₂ : List PyData), (∀ b ∈ l₁, (!PySem.W.dataLe false id a b) = true) → (∀ b ∈ l₂, PySem.W.dataLe false id a b = true) → insD a (l₁ ++ l₂) = l₁ ++ a :: l₂
  | [], [], _, _ => rfl
  | [], b :: l₂, _, h => by show (if PySem.W.dataLe false id a b then _ else _) = _; rw [if_pos (h b (List.mem_cons_self ..))]; rfl
  | b :: l₁, l₂, h, h2 => by
    have := h b (List.mem_cons_self ..)
    show (if PySem.W.dataLe false id a b then _ else _) = _
    rw [if_neg (by simpa using this)]
    exact congrArg (b :: ·) (insD_at a l₁ l₂ (fun c hc => h c (List.mem_cons_of_mem _ hc)) h2)
theorem sortD_eq : ∀ xs : List PyData, sortD xs = xs.mergeSort (PySem.W.dataLe false id)
  | [] => by simp [sortD]
  | a :: r => by
    have T := PySem.W.sortLe_total (PyProof.Rows.listOrd PyProof.Rows.itemOrd) false (fun b : PyData => PySem.W.keyToks (id b))
    obtain ⟨l₁, l₂, e1, e2, h⟩ := List.mergeSort_cons (le := PySem.W.dataLe false id) (fun x y z => T.trans x y z) (fun x y => by rw [Bool.or_eq_true]; exact T.total x y) a r
    have hp : List.Pairwise (fun a b => PySem.W.dataLe false id a b = true) ((a :: r).mergeSort (PySem.W.dataLe false id)) := List.pairwise_mergeSort (fun x y z => T.trans x y z) (fun x y => by rw [Bool.or_eq_true]; exact T.total x y) _
    rw [e1] at hp
    have h2 := (List.pairwise_cons.mp (List.pairwise_append.mp hp).2.1).1
    rw [e1]
    show insD a (sortD r) = _
    rw [sortD_eq r, e2]
    exact insD_at a l₁ l₂ h h2
theorem sortD_perm (xs : List PyData) : (sortD xs).Perm xs := by rw [sortD_eq]; exact List.mergeSort_perm _ _
def opSorted : Op := fun ds S => match ds with
  | [d] => (match listOf S d with
    | some xs => if sortOk xs then .ok (.v (.list (sortD xs))) S else .stuck
    | none => .stuck)
  | _ => .stuck
/-- a value's type's name -/
def tyN (S : Store) : D → Option String
  | .k _ => none
  | .g _ _ => none
  | .z _ => none
  | .y _ => none
  | .v .none => some "NoneType"
  | .v (.bool _) => some "bool"
  | .v (.int _) => some "int"
  | .v (.str _) => some "str"
  | .v (.list _) => some "list"
  | .v (.tuple _) => some "tuple"
  | .v (.dict _) => none
  | .r n => match S[n]? with
    | some (.lst _) => some "list"
    | some (.dk _) => some "dict"
    | _ => none
def isiB (T a : String) : Bool := a == T || (T == "int" && a == "bool")
def dIsi (T : String) (f : FE) : FE := fun env S => (f env S).bind fun d S1 => match tyN S1 d with
  | some a => okB (isiB T a) S1
  | none => .stuck
section
variable {X : Cx} {RX : RXT} {W : WX} {α α' : AM} {H H' : Hp} {σ : St} {S S' : Store} {env : DEnv} {pos : Pos}
def SemA (X : Cx) (RX : RXT) (W : WX) (r : List V → Hp → VK → Prop) (op : Op) : Prop :=
  ∀ (σ : St) (α : AM) (H : Hp) (S : Store) (vs : List V) (ds : List D) (Q : VK), WR X.prog X.w X.K α H S → RepDs X.K α H vs ds → Want X RX W α H σ (op ds S) Q → r vs H Q
/-- a call's rule, as the plain operation needs it -/
def CallD (X : Cx) (RX : RXT) (W : WX) (f : Value) (op : Op) : Prop :=
  ∀ (pins : List (Addr × Obj)) (s : Shared) (σ : St) (α : AM) (H : Hp) (S : Store) (vs : List V) (us : List Value) (ds : List D) (Q : VK), Inv X pins σ H s → Vals vs us → WR X.prog X.w X.K α H S → RepDs X.K α H vs ds → Want X RX W α H σ (op ds S) Q →
    wpAny (model X.prog X.w) X.A (call f us) (EP X pins σ Q) X.xe s
theorem CallD.of {f : Value} {r : List V → Hp → VK → Prop} {op : Op} (hr : CallR X f r) (hs : SemA X RX W r op) : CallD X RX W f op :=
  fun pins s σ α H S vs us ds Q I rv wr rd o => hr pins s σ H vs us Q I rv (hs σ α H S vs ds Q wr rd o)
/-- the reading behind CallD -/
def rOf (X : Cx) (RX : RXT) (W : WX) (op : Op) : List V → Hp → VK → Prop := fun vs H Q => ∃ α S ds σ, WR X.prog X.w X.K α H S ∧ RepDs X.K α H vs ds ∧ Want X RX W α H σ (op ds S) Q
theorem de_callB {id : String} {x : Str} {p : Pos} {e : Expr} {es : List Expr} {op : Op} {g : FA} (hc : CallD X RX W (.builtin id) op) (hv : bootBuiltins x = some (.builtin id)) (hg : Gl X x) (hm : X.mg x = none) (ha : DA X RX W (e :: es) g) (hn : x ≠ "__name__" := by decide) (hdb : (x == ("__debug__" : Str)) = false := by decide)
    (he : starEach (e :: es) X.env = (false, eval e X.env) :: starEach es X.env := by rfl) (hpl : (backTo pos (starEach es X.env)).any (·.1) = false := by rfl) : DE X RX W (.Call (.Name x p) (e :: es) [] pos) (dBlt op g) := by
  refine ⟨fun pins s σ H Q I ⟨α, env, S, h, o⟩ => ?_⟩
  refine wpAny_Call_Name_kw (ld_blt I hg hm hv ?_ hn hdb)
  refine PyProof.Rows.callWith_builtin1 (thn (ha.run pos pins s σ H (fun vs H1 => ∃ ds S1 α1, WR X.prog X.w X.K α1 H1 S1 ∧ RepDs X.K α1 H1 vs ds ∧ Want X RX W α1 H1 σ (op ds S1) Q) I (tA_seq h o fun ds S1 α1 H1 vs e1 h1 rs o1 => ⟨ds, S1, α1, h1.wr, rs, o1⟩)) fun us s1 ⟨vs, H1, I1, r1, ds, S1, α1, w1, rs, o1⟩ => hc pins s1 σ α1 H1 S1 vs us ds Q I1 r1 w1 rs o1) he hpl
theorem de_callTy {T : String} {x : Str} {p : Pos} {e : Expr} {es : List Expr} {op : Op} {g : FA} (hc : CallD X RX W (.type T) op) (hv : bootBuiltins x = some (.type T)) (hg : Gl X x) (hm : X.mg x = none) (ha : DA X RX W (e :: es) g) (hn : x ≠ "__name__" := by decide) (hdb : (x == ("__debug__" : Str)) = false := by decide)
    (he : starEach (e :: es) X.env = (false, eval e X.env) :: starEach es X.env := by rfl) (hpl : (backTo pos (starEach es X.env)).any (·.1) = false := by rfl) : DE X RX W (.Call (.Name x p) (e :: es) [] pos) (dBlt op g) := by
  refine ⟨fun pins s σ H Q I ⟨α, env, S, h, o⟩ => ?_⟩
  refine wpAny_Call_Name_kw (ld_blt I hg hm hv ?_ hn hdb)
  exact PyProof.Rows.callWith_type1 (thn (ha.run pos pins s σ H (fun vs H1 => ∃ ds S1 α1, WR X.prog X.w X.K α1 H1 S1 ∧ RepDs X.K α1 H1 vs ds ∧ Want X RX W α1 H1 σ (op ds S1) Q) I (tA_seq h o fun ds S1 α1 H1 vs e1 h1 rs o1 => ⟨ds, S1, α1, h1.wr, rs, o1⟩)) fun us s1 ⟨vs, H1, I1, r1, ds, S1, α1, w1, rs, o1⟩ => hc pins s1 σ α1 H1 S1 vs us ds Q I1 r1 w1 rs o1) he hpl
theorem RepDs.inv1 {vs : List V} {d : D} (h : RepDs X.K α H vs [d]) : ∃ v, vs = [v] ∧ RepD X.K α H v d := by
  cases h with
  | cons r t => cases t; exact ⟨_, rfl, r⟩
theorem RepDs.inv2 {vs : List V} {d e : D} (h : RepDs X.K α H vs [d, e]) : ∃ v u, vs = [v, u] ∧ RepD X.K α H v d ∧ RepD X.K α H u e := by
  cases h with
  | cons r t => cases t with
    | cons r2 t => cases t; exact ⟨_, _, rfl, r, r2⟩
theorem seq_sq {v : V} {d : D} {xs : List PyData} (wr : WR X.prog X.w X.K α H S) (r : RepD X.K α H v d) (e : seqOf S d = some xs) : ∃ p ys, v = .ref p ∧ (SqL X.K H p ys ∨ SqT X.K H p ys) ∧ RpL X.K α H ys xs := by
  obtain ⟨a, vs, h1, h2, h3⟩ := seq_at wr r e
  exact ⟨a, vs, h1, h3, h2⟩
theorem seq_lst {v : V} {d : D} {xs : List PyData} (wr : WR X.prog X.w X.K α H S) (r : RepD X.K α H v d) (e : seqOf S d = some xs) (hne : ∀ ys, d ≠ .v (.tuple ys)) : ∃ p ys, v = .ref p ∧ SqL X.K H p ys ∧ RpL X.K α H ys xs := by
  cases d with
  | v x =>
    cases x <;> simp only [seqOf] at e <;> cases e
    · obtain ⟨a, vs, h1, h2, h3⟩ := list_at (xs := xs) wr r rfl
      exact ⟨a, vs, h1, .inl h2, h3⟩
    · exact absurd rfl (hne _)
  | r n =>
    obtain ⟨a, vs, h1, h2, h3⟩ := list_at wr r e
    exact ⟨a, vs, h1, .inl h2, h3⟩
  | g lo hi => cases e
  | z kvs => cases e
  | y kvs => cases e
  | k zs =>
    cases e
    obtain ⟨a, vs, rfl, h, q⟩ := r
    rcases h with h | h
    · exact ⟨a, vs, rfl, .inl h.1, q⟩
    · exact ⟨a, vs, rfl, .inr h, q⟩
/-! ### len -/
theorem cd_len : CallD X RX W (.builtin "len") opLen := by
  refine .of (r := fun xs H Q => (∃ p ys, xs = [.ref p] ∧ (SqL X.K H p ys ∨ SqT X.K H p ys) ∧ Q (.int ys.length) H) ∨ (∃ z, xs = [.str z] ∧ z.length ≤ sizeLine ∧ Q (.int z.length) H) ∨ (∃ a kvs, xs = [V.ref a] ∧ H a = some (.dK kvs) ∧ Q (.int kvs.length) H)) ?_ ?_
  · exact CallR.or call_len_seq (CallR.or call_len_str call_lenD)
  · intro σ α H S vs ds Q wr rd o
    unfold opLen at o
    split at o
    · rename_i d
      obtain ⟨v, rfl, r⟩ := RepDs.inv1 rd
      split at o
      · rename_i n hn
        have sq : ∀ xs, seqOf S d = some xs → n = xs.length → (∃ p ys, [v] = [.ref p] ∧ (SqL X.K H p ys ∨ SqT X.K H p ys) ∧ Q (.int ys.length) H) := fun xs e e2 => by
          obtain ⟨p, ys, rfl, h1, h2⟩ := seq_sq wr r e
          refine ⟨p, ys, rfl, h1, ?_⟩
          have := o.get wr _ (.int _)
          rw [h2.length, ← e2]; exact this
        unfold lenOf at hn
        split at hn
        · rename_i z
          cases r
          split at hn
          · rename_i hz
            cases hn
            exact .inr (.inl ⟨z, rfl, small_le hz, o.get wr _ (.int _)⟩)
          · cases hn
        · rename_i m
          split at hn
          · rename_i xs hc
            cases hn
            exact .inl (sq xs (by simp only [seqOf, hc]) rfl)
          · rename_i kvs hc
            cases hn
            obtain ⟨a, rfl, _, kv, hl, q⟩ := cell_at wr r hc (by intro z; cases z)
            refine .inr (.inr ⟨a, kv, rfl, hl, ?_⟩)
            have := o.get wr _ (.int _)
            rw [Paired.length q]; exact this
          · cases hn
        · obtain ⟨xs, e1, e2⟩ := Option.map_eq_some_iff.mp hn
          exact .inl (sq xs e1 e2.symm)
      · exact o.elim
    · exact o.elim
/-! ### list, tuple, int, abs -/
theorem cd_list : CallD X RX W (.type "list") opList := .of call_list_of fun σ α H S vs ds Q wr rd o => by
  unfold opList at o
  split at o
  · obtain ⟨v, rfl, r⟩ := RepDs.inv1 rd
    split at o
    · rename_i xs hx
      obtain ⟨p, ys, rfl, h1, h2⟩ := seq_sq wr r hx
      exact ⟨p, ys, rfl, h1, fun l hl => o.newL wr h2 hl⟩
    · exact o.elim
  · exact o.elim
theorem cd_listC : CallD X RX W (.type "list") opListC := .of call_list_of fun σ α H S vs ds Q wr rd o => by
  unfold opListC at o
  split at o
  · obtain ⟨v, rfl, r⟩ := RepDs.inv1 rd
    split at o
    · rename_i xs hx
      obtain ⟨p, ys, rfl, h1, h2⟩ := seq_sq wr r hx
      exact ⟨p, ys, rfl, h1, fun l hl => o.newC wr h2 hl⟩
    · exact o.elim
  · exact o.elim
theorem cd_tuple : CallD X RX W (.type "tuple") opTuple := .of call_tuple_of fun σ α H S vs ds Q wr rd o => by
  unfold opTuple at o
  split at o
  · rename_i d
    obtain ⟨v, rfl, r⟩ := RepDs.inv1 rd
    split at o
    · rename_i xs hx
      have isT : (∃ ys, d = .v (.tuple ys)) ∨ ∀ ys, d ≠ .v (.tuple ys) := by
        by_cases h : ∃ ys, d = .v (.tuple ys)
        · exact .inl h
        · exact .inr fun ys e => h ⟨ys, e⟩
      rcases isT with ⟨ys, rfl⟩ | hne
      · cases hx
        cases r with
        | tup h q => exact ⟨_, _, rfl, .inr ⟨h.sq, o.get wr _ (.tup h q)⟩⟩
      · obtain ⟨p, ys, rfl, h1, h2⟩ := seq_lst wr r hx hne
        exact ⟨p, ys, rfl, .inl ⟨h1, fun l hl => o.newT wr h2 hl⟩⟩
    · exact o.elim
  · exact o.elim
theorem cd_int : CallD X RX W (.type "int") opInt := .of call_int1 fun σ α H S vs ds Q wr rd o => by
  unfold opInt at o
  split at o
  · obtain ⟨v, rfl, r⟩ := RepDs.inv1 rd
    cases r; exact .inl ⟨_, rfl, o.get wr _ (.int _)⟩
  · obtain ⟨v, rfl, r⟩ := RepDs.inv1 rd
    cases r; exact .inr ⟨_, rfl, o.get wr _ (.int _)⟩
  · exact o.elim
theorem cd_abs : CallD X RX W (.builtin "abs") opAbs := .of call_abs fun σ α H S vs ds Q wr rd o => by
  unfold opAbs at o
  split at o
  · obtain ⟨v, rfl, r⟩ := RepDs.inv1 rd
    cases r; exact ⟨_, rfl, o.get wr _ (.int _)⟩
  · exact o.elim
/-! ### sum, any, all -/
theorem intsOf_eq : ∀ {xs : List PyData} {ns : List Int}, intsOf xs = some ns → xs = ns.map .int
  | [], _, e => by cases e; rfl
  | x :: xs, ns, e => by
    cases x <;> simp only [intsOf] at e <;> try cases e
    obtain ⟨m, e1, rfl⟩ := Option.map_eq_some_iff.mp e
    rw [intsOf_eq e1]; rfl
theorem boolsOf_eq : ∀ {xs : List PyData} {ns : List Bool}, boolsOf xs = some ns → xs = ns.map .bool
  | [], _, e => by cases e; rfl
  | x :: xs, ns, e => by
    cases x <;> simp only [boolsOf] at e <;> try cases e
    obtain ⟨m, e1, rfl⟩ := Option.map_eq_some_iff.mp e
    rw [boolsOf_eq e1]; rfl
theorem cd_sum (hc : X.calm = true) : CallD X RX W (.builtin "sum") opSum := .of (cr_sum hc) fun σ α H S vs ds Q wr rd o => by
  unfold opSum at o
  split at o
  · obtain ⟨v, rfl, r⟩ := RepDs.inv1 rd
    split at o
    · rename_i xs hx
      split at o
      · rename_i ns hn
        obtain ⟨a, ys, rfl, h1, h2⟩ := list_at wr r hx
        rw [intsOf_eq hn] at h2
        rw [h2.ints] at h1
        exact ⟨a, ns, rfl, .inl h1, o.get wr _ (.int _)⟩
      · exact o.elim
    · exact o.elim
  · exact o.elim
theorem cd_any (hc : X.calm = true) : CallD X RX W (.builtin "any") opAny := .of (cr_any hc) fun σ α H S vs ds Q wr rd o => by
  unfold opAny at o
  split at o
  · obtain ⟨v, rfl, r⟩ := RepDs.inv1 rd
    split at o
    · rename_i xs hx
      split at o
      · rename_i ns hn
        obtain ⟨a, ys, rfl, h1, h2⟩ := list_at wr r hx
        rw [boolsOf_eq hn] at h2
        rw [h2.bools] at h1
        exact ⟨a, ns, rfl, .inl h1, o.get wr _ (.bl _)⟩
      · exact o.elim
    · exact o.elim
  · exact o.elim
theorem cd_all (hc : X.calm = true) : CallD X RX W (.builtin "all") opAll := .of (cr_all hc) fun σ α H S vs ds Q wr rd o => by
  unfold opAll at o
  split at o
  · obtain ⟨v, rfl, r⟩ := RepDs.inv1 rd
    split at o
    · rename_i xs hx
      split at o
      · rename_i ns hn
        obtain ⟨a, ys, rfl, h1, h2⟩ := list_at wr r hx
        rw [boolsOf_eq hn] at h2
        rw [h2.bools] at h1
        exact ⟨a, ns, rfl, .inl h1, o.get wr _ (.bl _)⟩
      · exact o.elim
    · exact o.elim
  · exact o.elim
/-! ### sorted -/
theorem allAlike_of {xs : List PyData} (h : allAlikeB xs = true) : ∀ x ∈ xs, ∀ y ∈ xs, PySem.W.alike x y = true := fun x hx y hy => by
  unfold allAlikeB at h
  rw [List.all_eq_true] at h
  have := h x hx
  rw [List.all_eq_true] at this
  exact this y hy
theorem each_of {s : Shared} {pins : List (Addr × Obj)} (I : Inv X pins σ H s) : ∀ {ys : List V} {xs : List PyData} {us : List Value}, Vals ys us → RpL X.K α H ys xs → PySem.W.EachIs (fun u x => ∃ y, RelV y u ∧ Rp X.K α H y x) us xs
  | _, _, _, .nil, .nil => .nil
  | _, _, _, .cons r rs, .cons q qs => .cons ⟨_, r, q⟩ (each_of I rs qs)
theorem each_back : ∀ {us : List Value} {xs : List PyData}, PySem.W.EachIs (fun u x => ∃ y, RelV y u ∧ Rp X.K α H y x) us xs → ∃ ys, Vals ys us ∧ RpL X.K α H ys xs
  | _, _, .nil => ⟨[], .nil, .nil⟩
  | _, _, .cons ⟨y, r, q⟩ t => let ⟨ys, h1, h2⟩ := each_back t; ⟨y :: ys, .cons r h1, .cons q h2⟩
theorem each_imp {β γ : Type} {R R' : β → γ → Prop} (h : ∀ a b, R a b → R' a b) {as : List β} {bs : List γ} (e : PySem.W.EachIs R as bs) : PySem.W.EachIs R' as bs := by
  induction e with
  | nil => exact .nil
  | cons r _ ih => exact .cons (h _ _ r) ih
theorem cd_sorted (hu : X.A.units + 70 < cLine) : CallD X RX W (.builtin "sorted") opSorted := by
  intro pins s σ α H S vs us ds Q I rv wr rd o
  unfold opSorted at o
  split at o
  · obtain ⟨v, rfl, r⟩ := RepDs.inv1 rd
    split at o
    · rename_i xs hx
      split at o
      · rename_i hs
        unfold sortOk at hs
        rw [Bool.and_eq_true, Bool.and_eq_true] at hs
        obtain ⟨⟨ha, hk⟩, hd⟩ := hs
        obtain ⟨a, ys, rfl, h1, h2⟩ := list_at wr r hx
        rw [Vals.ref1 rv]
        obtain ⟨z, its, n, rits, hl, ho⟩ := imL_of I h1
        have hL : s.heap.IsList a its.toArray := ⟨_, ho, rfl, n, rfl⟩
        have er := each_of I rits h2
        refine PySem.W.sorted_data (R := fun u x => ∃ y, RelV y u ∧ Rp X.K α H y x) (enc := id) hL er (each_imp (fun u x ⟨y, ry, q⟩ => Dp.reads I x y u q.dp ry) er) ?_ ?_ ?_ ?_ ?_
        · rw [List.map_id]; exact allAlike_of ha
        · rw [List.map_id]
          rw [Bool.or_eq_true] at hk
          rcases hk with hk | hk
          · refine .inl fun d hd => ?_
            have := List.all_eq_true.mp hk d hd
            unfold isTup1 at this
            split at this
            · exact ⟨_, _, rfl⟩
            · cases this
          · refine .inr fun d hd => ?_
            have := List.all_eq_true.mp hk d hd
            rw [Bool.and_eq_true] at this
            refine ⟨fun e => ?_, fun xs e => ?_⟩
            · subst e; exact absurd this.1 (by decide)
            · subst e; exact absurd this.2 (by simp [isTup])
        · rw [← h2.length]; exact z
        · intro b hb
          have := of_decide_eq_true (List.all_eq_true.mp hd b hb)
          show X.A.units + 2 + (id b).depth < cLine
          show X.A.units + 2 + b.depth < cLine
          omega
        · intro out ho2 eo
          obtain ⟨ws, w1, w2⟩ := each_back eo
          obtain ⟨ep, he'⟩ := PyProof.Rows.sortedAll_at s.heap its out.toArray
          have hp : H (s.heap.objs.size + 1) = none := I.hok.fresh (Nat.le_succ _)
          have hlen : ws.length ≤ sizeLine := by rw [w1.length, ho2, ← h2.length]; exact z
          have o : Want X RX W α H σ (.ok (.v (.list (sortD xs))) S) Q := o
          rw [sortD_eq] at o
          exact ⟨.ref _, upd H (s.heap.objs.size + 1) (.lst ws), I.laid (t' := s.toks) (fun _ _ => PyProof.Rows.sortedAll_old) (Nat.le_succ _) ⟨hlen, out, ep, w1, he'⟩, rfl, o.newL wr w2 hp⟩
      · exact o.elim
    · exact o.elim
  · exact o.elim
end
end G

set_option Elab.async false
set_option linter.all false
set_option autoImplicit false
set_option maxRecDepth 100000
namespace G
open PySem PySem.Spec PyProof.Rows L2
/-! ### plain operations -/
abbrev FO := DEnv → Store → Res (Option Int)
def oNone : FO := fun _ S => .ok none S
def oSome (f : FE) : FO := fun env S => (f env S).bind fun d S1 => match d with
  | .v (.int i) => .ok (some i) S1
  | _ => .stuck
/-- x[lo:hi] -/
def dSl (f : FE) (lo hi : FO) : FE := fun env S => (f env S).bind fun d S1 => (lo env S1).bind fun l S2 => (hi env S2).bind fun h S3 => match d with
  | .v (.tuple xs) => .ok (.v (.tuple (cutD xs l h))) S3
  | d => match listOf S3 d with
    | some xs => .ok (.v (.list (cutD xs l h))) S3
    | none => .stuck
/-- x[i] = e, x a list in a cell -/
def sSetIx (fo fi fe : FE) : FS := fun env S => lift env (fe env S) fun d S1 => match d with
  | .v x => lift env (fo env S1) fun o S2 => (match o with
    | .r n => lift env (fi env S2) fun i S3 => (match i with
      | .v (.int k) => (match S3[n]? with
        | some (.lst xs) => (match ixN xs.length k with | some j => .ok (.nx env) (S3.set n (.lst (xs.set j x))) | none => .stuck)
        | _ => .stuck)
      | _ => .stuck)
    | _ => .stuck)
  | _ => .stuck
/-- methods of a list in a cell -/
abbrev OpM := D → List D → Store → Res D
def dMtL (op : OpM) (f : FE) (g : FA) : FE := fun env S => (f env S).bind fun d S1 => match listOf S1 d with
  | some _ => (g env S1).bind fun ds S2 => op d ds S2
  | none => .stuck
def okN (S : Store) : Res D := .ok (.v .none) S
def omAppend : OpM := fun d ds S => match d, ds with
  | .r n, [.v x] => (match S[n]? with
    | some (.lst xs) => if small (xs.length + 1) then okN (S.set n (.lst (xs ++ [x]))) else .stuck
    | _ => .stuck)
  | _, _ => .stuck
def omExtend : OpM := fun d ds S => match d, ds with
  | .r n, [e] => (match S[n]?, listOf S e with
    | some (.lst xs), some ys => if small (xs.length + ys.length) then okN (S.set n (.lst (xs ++ ys))) else .stuck
    | _, _ => .stuck)
  | _, _ => .stuck
def omPop : OpM := fun d ds S => match d, ds with
  | .r n, [] => (match S[n]? with
    | some (.lst xs) => (match xs[xs.length - 1]? with | some x => .ok (.v x) (S.set n (.lst xs.dropLast)) | none => .stuck)
    | _ => .stuck)
  | .r n, [.v (.int i)] => (match S[n]? with
    | some (.lst xs) => (match seqIndex? i xs.length with
      | some k => (match xs[k]? with | some x => if decide (-(2 ^ 63) ≤ i ∧ i < 2 ^ 63) then .ok (.v x) (S.set n (.lst (xs.eraseIdx k))) else .stuck | none => .stuck)
      | none => .stuck)
    | _ => .stuck)
  | _, _ => .stuck
/-- in, for sequences -/
def dInS (neg : Bool) : D → D → Store → Res D := fun a b S => match dataOf S a, seqOf S b with
  | some x, some xs => if SeqAt.shaped x && SeqAt.shaped (.list xs) && SeqAt.shaped (.tuple xs) then okB (neg != xs.any fun z => PyData.eqv z x) S else .stuck
  | _, _ => .stuck
def kitAll (T : String) : Bool := ["NoneType", "bool", "int", "str", "list", "tuple", "dict"].all fun a => kitB a T == some (isiB T a)
theorem kit_tuple : kitAll "tuple" = true := by decide +kernel
theorem kit_list : kitAll "list" = true := by decide +kernel
theorem kit_bool : kitAll "bool" = true := by decide +kernel
theorem kit_str : kitAll "str" = true := by decide +kernel
theorem kit_int : kitAll "int" = true := by decide +kernel
theorem kit_dict : kitAll "dict" = true := by decide +kernel
theorem kit_at {T a : String} (h : kitAll T = true) (ha : a ∈ ["NoneType", "bool", "int", "str", "list", "tuple", "dict"]) : kitB a T = some (isiB T a) := by
  have := List.all_eq_true.mp h a ha
  exact eq_of_beq this
section
variable {X : Cx} {RX : RXT} {W : WX} {α α' : AM} {H H' : Hp} {σ : St} {S S' : Store} {env : DEnv} {pos : Pos}
/-! ### isinstance -/
theorem tyN_mem {d : D} {a : String} (e : tyN S d = some a) : a ∈ ["NoneType", "bool", "int", "str", "list", "tuple", "dict"] := by
  unfold tyN at e
  split at e <;> first | (cases e; done) | (cases e; simp) | (split at e <;> cases e <;> simp)
theorem tyN_ty (wr : WR X.prog X.w X.K α H S) {v : V} {d : D} {a : String} (r : RepD X.K α H v d) (e : tyN S d = some a) : TyX X.K H v (.type a) := by
  unfold tyN at e
  split at e
  · cases e
  · cases e
  · cases e
  · cases e
  · cases e; cases r; exact .base .non
  · cases e; cases r; exact .base (.bl _)
  · cases e; cases r; exact .base (.int _)
  · cases e; cases r; exact .base (.str _)
  · cases e
    cases r with
    | lst h q =>
      rcases h.1 with h1 | ⟨o, h1⟩
      · exact .base (.lst h1)
      · exact .base (.frz h1)
  · cases e
    cases r with
    | tup h q =>
      rcases h with ⟨h1 | ⟨o, h1⟩, _⟩ | ⟨o, its, n, h1, h2, _⟩
      · exact .base (.tup h1)
      · exact .fTuple h1
      · exact .kTuple h1 h2
  · cases e
  · split at e
    · rename_i xs hc
      cases e
      obtain ⟨a, rfl, _, vs, hl, _⟩ := cell_at wr r hc (by intro z; cases z)
      exact .base (.lst hl)
    · rename_i kvs hc
      cases e
      obtain ⟨a, rfl, _, kv, hl, _⟩ := cell_at wr r hc (by intro z; cases z)
      exact .base (.dK hl)
    · cases e
theorem de_isi {T : String} {x n : Str} {p p2 : Pos} {e : Expr} {f : FE} (hk : kitAll T = true) (hv : bootBuiltins n = some (.type T)) (hx : bootBuiltins x = some (.builtin "isinstance")) (hg : Gl X x) (hm : X.mg x = none) (hg2 : Gl X n) (hm2 : X.mg n = none) (he : DE X RX W e f)
    (hn : x ≠ "__name__" := by decide) (hn2 : n ≠ "__name__" := by decide) (hdb : (x == ("__debug__" : Str)) = false := by decide) (hdb2 : (n == ("__debug__" : Str)) = false := by decide) (hs : starEach [e, .Name n p2] X.env = (false, eval e X.env) :: starEach [.Name n p2] X.env := by rfl) :
    DE X RX W (.Call (.Name x p) [e, .Name n p2] [] pos) (dIsi T f) :=
  peW (pe_callB call_isi hg hm hx (pa_cons he (pa_cons (pe_bltn (v := .ty T) hg2 hm2 hv rfl hn2 hdb2) pa_nil rfl) hs) hn hdb hs rfl) fun σ H Q ⟨α, env, S, h, o⟩ => tE_seq h o fun d S1 α1 H1 v e1 h1 r1 o1 => by
    split at o1
    · rename_i a ha
      exact ⟨v, .ty T, _, _, _, rfl, .ty T, tyN_ty h1.wr r1 ha, kit_ty (kit_at hk (tyN_mem ha)), o1.get h1.wr _ (.bl _)⟩
    · exact o1.elim
/-! ### subscripts -/
theorem atI_rep {vs : List V} {xs : List PyData} {i : Int} {x : PyData} (q : RpL X.K α H vs xs) (e : atI xs i = some x) : ∃ v, atI vs i = some v ∧ Rp X.K α H v x := by
  unfold atI at e ⊢
  rw [q.length]
  cases hj : ixN xs.length i with
  | none => rw [hj] at e; cases e
  | some j => rw [hj] at e; exact q.get e
theorem de_ix {a b : Expr} {f g : FE} (ha : DE X RX W a f) (hb : DE X RX W b g) (hs : PlainIx b := by intro _ _; rfl) : DE X RX W (.Subscript a b pos) (dBin dIx f g) :=
  peW (pe_ix ix_seq ha hb hs) fun σ H Q ⟨α, env, S, h, o⟩ => tE_seq h o fun d S1 α1 H1 v e1 h1 r1 o1 => tE_seq h1 o1 fun k S2 α2 H2 u e2 h2 r2 o2 => by
    have r1 := r1.ext e2
    unfold dIx at o2
    split at o2
    · rename_i i
      cases r2
      have sq : ∀ {a : D}, RepD X.K α2 H2 v a → Want X RX W α2 H2 σ (match seqOf S2 a with | some xs => (match atI xs i with | some x => .ok (.v x) S2 | none => .stuck) | none => .stuck) Q → rIx X.K v (.int i) H2 Q := fun {a} r o => by
        split at o
        · rename_i xs hx
          split at o
          · rename_i x hi
            obtain ⟨p, vs, rfl, q, w⟩ := seq_at h2.wr r hx
            obtain ⟨y, ey, ry⟩ := atI_rep q hi
            rcases w with w | w
            · exact .inl ⟨p, vs, i, y, rfl, rfl, w, ey, o.get h2.wr _ ry⟩
            · exact .inr (.inl ⟨p, vs, i, y, rfl, rfl, w, ey, o.get h2.wr _ ry⟩)
          · exact o.elim
        · exact o.elim
      split at o2
      · cases r1
        split at o2
        · rename_i hz
          split at o2
          · rename_i c hc
            exact .inr (.inr ⟨_, i, c, rfl, rfl, small_le hz, hc, o2.get h2.wr _ (.str _)⟩)
          · exact o2.elim
        · exact o2.elim
      · exact sq r1 o2
    · exact o2.elim
/-! ### slices -/
def tO (X : Cx) (RX : RXT) (W : WX) (f : FO) : TO := fun σ H Q => ∃ α env S, Here X α H σ env S ∧ OkP X RX W α H σ (f env S) fun i _ _ H' => Q i H'
def DO (X : Cx) (RX : RXT) (W : WX) (o : Option Expr) (f : FO) : Prop := PO X o (tO X RX W f)
theorem poW {o : Option Expr} {t t' : TO} (h : PO X o t) (k : ∀ σ H Q, t' σ H Q → t σ H Q) : PO X o t' := ⟨fun pins s σ H Q I q => h.run pins s σ H Q I (k σ H Q q)⟩
theorem do_none : DO X RX W none oNone := poW po_none fun σ H Q ⟨α, env, S, h, o⟩ => o.get h.wr
theorem do_some {e : Expr} {f : FE} (he : DE X RX W e f) : DO X RX W (some e) (oSome f) := poW (po_some he) fun σ H Q ⟨α, env, S, h, o⟩ => tE_seq h o fun d S1 α1 H1 v e1 h1 r1 o1 => by
  split at o1
  · cases r1; exact ⟨_, rfl, o1.get h1.wr⟩
  · exact o1.elim
theorem tO_seq {γ : Type} {f : FO} {g : Option Int → Store → Res γ} {P : γ → Store → AM → Hp → Prop} {Q : Option Int → Hp → Prop} (h : Here X α H σ env S) (o : OkP X RX W α H σ ((f env S).bind g) P)
    (k : ∀ b S1 α1 H1, Ext α H α1 H1 → Here X α1 H1 σ env S1 → OkP X RX W α1 H1 σ (g b S1) P → Q b H1) : tO X RX W f σ H Q := by
  refine ⟨α, env, S, h, ?_⟩
  have := o.bind
  cases hr : f env S with
  | ok a S' => rw [hr] at this; exact fun β2 H2 e2 w2 => k a S' β2 H2 e2 (h.ext X e2 w2) (this β2 H2 e2 w2)
  | exc x S' => rw [hr] at this; exact this
  | stuck => rw [hr] at this; exact this
theorem cut_rep {vs : List V} {xs : List PyData} (q : RpL X.K α H vs xs) (lo hi : Option Int) : RpL X.K α H (cutV vs lo hi) (cutD xs lo hi) := by
  unfold cutV cutD
  rw [q.length]
  exact (q.drop _).take _
theorem cut_whole {xs : List PyData} {lo hi : Option Int} (h : HT.sIx xs.length 0 lo = 0 ∧ HT.sIx xs.length xs.length hi = xs.length) : cutD xs lo hi = xs := by
  unfold cutD
  rw [h.1, h.2]; simp
theorem de_sl {e : Expr} {lo hi : Option Expr} {f : FE} {fl fh : FO} {p2 : Pos} (he : DE X RX W e f) (hl : DO X RX W lo fl) (hh : DO X RX W hi fh) : DE X RX W (.Subscript e (.Slice lo hi none p2) pos) (dSl f fl fh) :=
  peW (pe_slice (sl_list.or sl_tupA) he hl hh) fun σ H Q ⟨α, env, S, h, o⟩ => tE_seq h o fun d S1 α1 H1 v e1 h1 r1 o1 => tO_seq h1 o1 fun l S2 α2 H2 e2 h2 o2 => tO_seq h2 o2 fun u S3 α3 H3 e3 h3 o3 => by
    have r3 := (r1.ext e2).ext e3
    split at o3
    · cases r3 with
      | tup hx q =>
        refine .inr ⟨_, _, rfl, hx.sq, fun hw => ?_, fun hw p hp => o3.newT h3.wr (cut_rep q l u) hp⟩
        rw [q.length] at hw
        rw [cut_whole hw] at o3
        exact o3.get h3.wr _ (.tup hx q)
    · split at o3
      · rename_i xs hx
        obtain ⟨p, vs, rfl, h4, q⟩ := list_at h3.wr r3 hx
        exact .inl ⟨p, vs, rfl, .inl h4, fun p hp => o3.newL h3.wr (cut_rep q l u) hp⟩
      · exact o3.elim
/-! ### x[i] = e -/
theorem ds_setIx {o i e : Expr} {fo fi fe : FE} {pos' : Pos} (ho : DE X RX W o fo) (hi : DE X RX W i fi) (he : DE X RX W e fe)
    (ha : ∀ v, assign (.Subscript o i pos') X.env v = (do
      let ov ← holding [v] (eval o X.env)
      let iv ← holding [v, ov] (eval i X.env)
      standAt pos'
      holding [v, ov, iv] (setItem ov iv v)
      release [v, ov, iv] []) := by intro _; rfl)
    (hs : swapsWithSole [.Subscript o i pos'] e pos.line X.env = pure false := by rfl) (hw : swappedStores [.Subscript o i pos'] e X.env = pure none := by rfl)
    (h1 : (assignEach [.Subscript o i pos'] X.env).map (·.2) = [assign (.Subscript o i pos') X.env] := by rfl) : DS X RX W (.Assign [.Subscript o i pos'] e pos) (sSetIx fo fi fe) :=
  psW (ps_asg he (pg_sub ho hi set_list ha) hs hw h1) fun D σ H ⟨α, env, S, h, oo⟩ => tE_lift h oo fun d S1 α1 H1 v e1 h1 r1 o1 => by
    cases d with
    | r n => exact o1.elim
    | k n => exact o1.elim
    | g lo hi => exact o1.elim
    | z kvs => exact o1.elim
    | y kvs => exact o1.elim
    | v x =>
      refine tE_lift h1 o1 fun d2 S2 α2 H2 v2 e2 h2 r2 o2 => ?_
      cases d2 with
      | v y => exact o2.elim
      | k y => exact o2.elim
      | g lo hi => exact o2.elim
      | z kvs => exact o2.elim
      | y kvs => exact o2.elim
      | r n =>
        refine tE_lift h2 o2 fun d3 S3 α3 H3 v3 e3 h3 r3 o3 => ?_
        have r1 := (Rp.ext e3 (Rp.ext e2 r1))
        have r2 := r2.ext e3
        split at o3
        · rename_i k
          cases r3
          split at o3
          · rename_i xs hc
            split at o3
            · rename_i j hj
              obtain ⟨a, rfl, ha, vs, hl, q⟩ := cell_at h3.wr r2 hc (by intro z; cases z)
              have ew := Ext.write (o := .lst (vs.set j v)) h3.wr ha
              refine ⟨a, vs, k, j, rfl, rfl, hl, by rw [q.length]; exact hj, ?_⟩
              exact o3 α3 _ σ ew ⟨h3.re.ext ew, h3.wr.write ha ⟨_, upd_same, (q.set r1 j).ext ew⟩⟩
            · exact o3.elim
          · exact o3.elim
        · exact o3.elim
/-! ### methods of a list -/
def MtD (X : Cx) (RX : RXT) (W : WX) (id : String) (op : OpM) : Prop :=
  ∀ (pins : List (Addr × Obj)) (s : Shared) (σ : St) (α : AM) (H : Hp) (S : Store) (x : V) (v : Value) (d : D) (vs : List V) (us : List Value) (ds : List D) (Q : VK), Inv X pins σ H s → RelV x v → Vals vs us → WR X.prog X.w X.K α H S → RepD X.K α H x d → RepDs X.K α H vs ds →
    Want X RX W α H σ (op d ds S) Q → wpAny (model X.prog X.w) X.A (call (.builtin id) (v :: us)) (EP X pins σ Q) X.xe s
theorem tyV_list (wr : WR X.prog X.w X.K α H S) {v : V} {d : D} {xs : List PyData} (r : RepD X.K α H v d) (e : listOf S d = some xs) : tyV X.K "list" v H := by
  obtain ⟨a, vs, rfl, h, _⟩ := list_at wr r e
  exact .inl ⟨rfl, vs, .inl h⟩
variable {o e : Expr} {es : List Expr} {name : Str} {apos cpos : Pos} {id : String}
theorem de_mtL {op : OpM} {f : FE} {g : FA} (slot : Slot "list" name id) (hty : typeOf (.builtin id) = pure (.type "method_descriptor")) (hm : MtD X RX W id op) (ho : DE X RX W o f) (ha : DA X RX W (e :: es) g)
    (hbase : attributeBase o name X.env (eval o X.env) = eval o X.env := by rfl)
    (hfew : ((backTo cpos (starEach (e :: es) X.env)).all (fun x => !x.1) && (backToKw cpos (keywordEach [] X.env)).all (fun x => x.1.isSome)
      && decide ((e :: es).length + ([] : List Keyword).length + (if ([] : List Keyword).isEmpty then 0 else 1) < 30)) = true := by rfl)
    (hline : (apos.endLine == cpos.line) = true := by rfl) (hs : starEach (e :: es) X.env = (false, eval e X.env) :: starEach es X.env := by rfl) (hplain : (backTo cpos (starEach es X.env)).any (·.1) = false := by rfl) :
    DE X RX W (.Call (.Attribute o name apos) (e :: es) [] cpos) (dMtL op f g) := by
  refine ⟨fun pins s σ H Q I ⟨α, env, S, h, oo⟩ => ?_⟩
  refine wpAny_Call_method_late hbase hfew hline rfl (thn (ho.run pins s σ H (fun x H1 => ∃ d S1 α1 xs, Here X α1 H1 σ env S1 ∧ RepD X.K α1 H1 x d ∧ listOf S1 d = some xs ∧ Want X RX W α1 H1 σ ((g env S1).bind fun ds S2 => op d ds S2) Q) I (tE_seq h oo fun d S1 α1 H1 v e1 h1 r1 o1 => ?_)) fun v s1 ⟨x, H1, I1, r1, d, S1, α1, xs, h1, rd, hl, o1⟩ => ?_)
  · split at o1
    · rename_i xs hl; exact ⟨d, S1, α1, xs, h1, r1, hl, o1⟩
    · exact o1.elim
  · obtain ⟨t1, t2⟩ := tyV_is I1 r1 (tyV_list h1.wr rd hl)
    refine ⟨"list", id, PySem.F.plainAttrs_list, slot, hty, t1, t2, ?_⟩
    have hA := ha.run cpos pins s1 σ H1 (fun vs H2 => ∃ ds S2 α2, WR X.prog X.w X.K α2 H2 S2 ∧ RepD X.K α2 H2 x d ∧ RepDs X.K α2 H2 vs ds ∧ Want X RX W α2 H2 σ (op d ds S2) Q) I1 (tA_seq h1 o1 fun ds S2 α2 H2 vs e2 h2 rs o2 => ⟨ds, S2, α2, h2.wr, rd.ext e2, rs, o2⟩)
    rw [hs] at hA ⊢
    refine Calls.callWith_builtin (by show (false || (backTo cpos (starEach es X.env)).any (·.1)) = false; rw [hplain] <;> rfl) (Calls.evalArgs_plain ?_)
    exact thn hA fun us s2 ⟨vs, H2, I2, r2, ds, S2, α2, w2, rx, rs, o2⟩ => hm pins s2 σ α2 H2 S2 x v d vs us ds Q I2 r1 r2 w2 rx rs o2
theorem de_mtL0 {op : OpM} {f : FE} (slot : Slot "list" name id) (hty : typeOf (.builtin id) = pure (.type "method_descriptor")) (hm : MtD X RX W id op) (ho : DE X RX W o f)
    (hbase : attributeBase o name X.env (eval o X.env) = eval o X.env := by rfl) (hline : (apos.endLine == cpos.line) = true := by rfl) :
    DE X RX W (.Call (.Attribute o name apos) [] [] cpos) (dMtL op f dNilA) := by
  refine ⟨fun pins s σ H Q I ⟨α, env, S, h, oo⟩ => ?_⟩
  refine wpAny_Call_method0_late hbase hline (thn (ho.run pins s σ H (fun x H1 => ∃ d S1 α1 xs, Here X α1 H1 σ env S1 ∧ RepD X.K α1 H1 x d ∧ listOf S1 d = some xs ∧ Want X RX W α1 H1 σ (op d [] S1) Q) I (tE_seq h oo fun d S1 α1 H1 v e1 h1 r1 o1 => ?_)) fun v s1 ⟨x, H1, I1, r1, d, S1, α1, xs, h1, rd, hl, o1⟩ => ?_)
  · split at o1
    · rename_i xs hl; exact ⟨d, S1, α1, xs, h1, r1, hl, o1⟩
    · exact o1.elim
  · obtain ⟨t1, t2⟩ := tyV_is I1 r1 (tyV_list h1.wr rd hl)
    exact ⟨"list", id, PySem.F.plainAttrs_list, slot, hty, t1, t2, Calls.callWith_builtin rfl (PySem.evalArgs_none (hm pins s1 σ α1 H1 S1 x v d [] [] [] Q I1 r1 .nil h1.wr rd .nil o1))⟩
theorem MtD.of {id : String} {r : V → List V → Hp → VK → Prop} {op : OpM} (hr : MtM X id r) (hs : ∀ (σ : St) (α : AM) (H : Hp) (S : Store) (x : V) (d : D) (vs : List V) (ds : List D) (Q : VK), WR X.prog X.w X.K α H S → RepD X.K α H x d → RepDs X.K α H vs ds → Want X RX W α H σ (op d ds S) Q → r x vs H Q) : MtD X RX W id op :=
  fun pins s σ α H S x v d vs us ds Q I rx rv wr rd rs o => hr pins s σ H x vs v us Q I rx rv (hs σ α H S x d vs ds Q wr rd rs o)
theorem sz_of {X : Cx} {α : AM} {H : Hp} {vs : List V} {xs : List PyData} {k : Nat} (q : RpL X.K α H vs xs) (h : small (xs.length + k) = true) : vs.length + k ≤ 16000000 := by rw [q.length]; exact of_decide_eq_true h
/-- a cell's list is written -/
theorem OkP.wr {r : D} {n : Nat} {a : Addr} {ys : List V} {zs : List PyData} {Q : VK} (o : Want X RX W α H σ (.ok r (S.set n (.lst zs))) Q) (wr : WR X.prog X.w X.K α H S) (ha : α.c[n]? = some (some a)) (q : RpL X.K α H ys zs) {v : V} (hv : RepD X.K α H v r) : Q v (upd H a (.lst ys)) := by
  have ew := Ext.write (o := .lst ys) wr ha
  exact o α _ ew (wr.write ha ⟨_, upd_same, q.ext ew⟩) v (hv.ext ew)
theorem md_append : MtD X RX W "list.append" omAppend := .of mt_append fun σ α H S x d vs ds Q wr rd rs o => by
  unfold omAppend at o
  split at o
  · rename_i n y
    split at o
    · rename_i xs hc
      split at o
      · rename_i hz
        obtain ⟨a, rfl, ha, ws, hl, q⟩ := cell_at wr rd hc (by intro z; cases z)
        obtain ⟨v, rfl, r⟩ := RepDs.inv1 rs
        have hsz := sz_of q hz
        refine ⟨a, ws, v, rfl, rfl, hl, by rw [sizeLine_eq]; omega, OkP.wr (ys := ws ++ [v]) (zs := xs ++ [y]) (r := .v .none) o wr ha (q.snoc r) (v := .non) .non⟩
      · exact o.elim
    · exact o.elim
  · exact o.elim
/-- l.extend(m), m any list but l -/
def rExtendA : V → List V → Hp → VK → Prop := fun x vs H Q => ∃ l b xs zs, x = .ref l ∧ vs = [.ref b] ∧ H l = some (.lst xs) ∧ Rd H b (.lst zs) ∧ xs.length + zs.length ≤ sizeLine ∧ Q .non (upd H l (.lst (xs ++ zs)))
theorem mt_extendA : MtM X "list.extend" rExtendA := by
  intro pins s σ H x vs v us Q I rx rv h
  obtain ⟨l, b, xs, zs, rfl, rfl, hH, hB, hz, q⟩ := h
  cases rx
  obtain ⟨u, rfl, ru⟩ := rv.one
  cases ru
  obtain ⟨z, its, n, r, hl, e⟩ := I.lstM hH
  obtain ⟨z2, its2, n2, r2, hl2, e2⟩ := imL_of I hB
  have hsz : its.toArray.size + its2.toArray.size ≤ sizeLine := by rw [List.size_toArray, List.size_toArray]; omega
  have hlong : ¬ (!its.toArray.isEmpty && Builtin.List.listTooLong (its.toArray.size + its2.toArray.size)) = true := by
    rw [notLongL hsz, Bool.and_false]
    exact Bool.false_ne_true
  refine call_meets F.slot_list_extend ⟨_, e, rfl⟩ F.entry_list_extend (F.args_list_extend_2 _ _)
    (AutoSeq1.list_extend_list_list_0 l its.toArray n b its2.toArray n2 hlong (by rw [List.size_toArray]; omega) (by omega)) ⟨e, e2, ?_⟩
  refine ⟨.non, _, I.lset (its' := its ++ its2) hH e (by simp) (r.append r2) ?_, rfl, q⟩
  rw [List.length_append]
  omega
theorem md_extend : MtD X RX W "list.extend" omExtend := .of mt_extendA fun σ α H S x d vs ds Q wr rd rs o => by
  unfold omExtend at o
  split at o
  · rename_i n y
    split at o
    · rename_i xs ys hc hy
      split at o
      · rename_i hz
        obtain ⟨a, rfl, ha, ws, hl, q⟩ := cell_at wr rd hc (by intro z; cases z)
        obtain ⟨v, rfl, r⟩ := RepDs.inv1 rs
        obtain ⟨b, zs, rfl, hb, q2⟩ := list_at wr r hy
        have hsz := sz_of q hz
        refine ⟨a, b, ws, zs, rfl, rfl, hl, hb, by rw [sizeLine_eq, q2.length]; omega, OkP.wr (ys := ws ++ zs) (zs := xs ++ ys) (r := .v .none) o wr ha (q.append q2) (v := .non) .non⟩
      · exact o.elim
    · exact o.elim
  · exact o.elim
theorem rpl_erase {vs : List V} {xs : List PyData} : ∀ (i : Nat), RpL X.K α H vs xs → RpL X.K α H (vs.eraseIdx i) (xs.eraseIdx i) := by
  intro i h
  induction i generalizing vs xs with
  | zero => cases h with
    | nil => exact .nil
    | cons _ r => exact r
  | succ i ih => cases h with
    | nil => exact .nil
    | cons r rs => exact .cons r (ih rs)
theorem MtM.or {X : Cx} {id : String} {r r' : V → List V → Hp → VK → Prop} (h : MtM X id r) (h' : MtM X id r') : MtM X id (fun x xs H Q => r x xs H Q ∨ r' x xs H Q) := by
  intro pins s σ H x xs v us Q I rx rs q
  rcases q with q | q
  · exact h pins s σ H x xs v us Q I rx rs q
  · exact h' pins s σ H x xs v us Q I rx rs q
theorem md_pop : MtD X RX W "list.pop" omPop := .of (MtM.or mt_pop mt_popAt) fun σ α H S x d vs ds Q wr rd rs o => by
  unfold omPop at o
  split at o
  · rename_i n
    split at o
    · rename_i xs hc
      split at o
      · rename_i y hy
        obtain ⟨a, rfl, ha, ws, hl, q⟩ := cell_at wr rd hc (by intro z; cases z)
        cases rs
        obtain ⟨v, e1, r⟩ := q.get hy
        exact .inl ⟨a, ws, v, rfl, rfl, hl, by rw [q.length]; exact e1, OkP.wr (ys := ws.dropLast) (zs := xs.dropLast) (r := .v y) o wr ha q.dropLast r⟩
      · exact o.elim
    · exact o.elim
  · rename_i n i
    split at o
    · rename_i xs hc
      split at o
      · rename_i k hk
        split at o
        · rename_i y hy
          split at o
          · rename_i hi
            have hi := of_decide_eq_true hi
            obtain ⟨a, rfl, ha, ws, hl, q⟩ := cell_at wr rd hc (by intro z; cases z)
            obtain ⟨u, rfl, ru⟩ := RepDs.inv1 rs
            cases ru
            obtain ⟨v, e1, r⟩ := q.get hy
            exact .inr ⟨a, ws, i, k, v, rfl, rfl, hl, hi.1, hi.2, by rw [q.length]; exact hk, e1, OkP.wr (ys := ws.eraseIdx k) (zs := xs.eraseIdx k) (r := .v y) o wr ha (rpl_erase k q) r⟩
          · exact o.elim
        · exact o.elim
      · exact o.elim
    · exact o.elim
  · exact o.elim
/-! ### in, not in: sequences -/
def rInSeq (K : PySem.W.Frag) (neg : Bool) : R2 := fun x y H Q => ∃ d ds, Dp K H x d ∧ (Dp K H y (.list ds) ∨ Dp K H y (.tuple ds)) ∧ SeqAt.shaped d = true ∧ SeqAt.shaped (.list ds) = true ∧ SeqAt.shaped (.tuple ds) = true ∧ Q (.bl (neg != ds.any fun z => PyData.eqv z d)) H
theorem op_inSeq (hu : X.A.units + 65 < cLine) : OpR X (compareOp .In) (rInSeq X.K false) := by
  intro pins s σ H x y v u Q I rx ry h
  obtain ⟨d, ds, hd, he, sd, se, st, q⟩ := h
  obtain ⟨as, r1⟩ := Dp.reads I d x v hd rx
  have q : Q (.bl (ds.any fun z => PyData.eqv z d)) H := by simpa using q
  rcases he with he | he
  · obtain ⟨bs, r2⟩ := Dp.reads I (.list ds) y u he ry
    exact SeqAt.in_list_reads r2 r1 (SeqAt.canLay_of_shaped se) (SeqAt.canLay_of_shaped sd) (room_in_shaped sd hu) ⟨.bl _, H, I, rfl, q⟩
  · obtain ⟨bs, r2⟩ := Dp.reads I (.tuple ds) y u he ry
    exact SeqAt.in_tuple_reads r2 r1 (SeqAt.canLay_of_shaped st) (SeqAt.canLay_of_shaped sd) (room_in_shaped sd hu) ⟨.bl _, H, I, rfl, q⟩
theorem op_notInSeq (hu : X.A.units + 65 < cLine) : OpR X (compareOp .NotIn) (rInSeq X.K true) := by
  intro pins s σ H x y v u Q I rx ry h
  obtain ⟨d, ds, hd, he, sd, se, st, q⟩ := h
  obtain ⟨as, r1⟩ := Dp.reads I d x v hd rx
  have q : Q (.bl (!ds.any fun z => PyData.eqv z d)) H := by simpa using q
  rcases he with he | he
  · obtain ⟨bs, r2⟩ := Dp.reads I (.list ds) y u he ry
    exact SeqAt.notIn_list_reads r2 r1 (SeqAt.canLay_of_shaped se) (SeqAt.canLay_of_shaped sd) (room_in_shaped sd hu) ⟨.bl _, H, I, rfl, q⟩
  · obtain ⟨bs, r2⟩ := Dp.reads I (.tuple ds) y u he ry
    exact SeqAt.notIn_tuple_reads r2 r1 (SeqAt.canLay_of_shaped st) (SeqAt.canLay_of_shaped sd) (room_in_shaped sd hu) ⟨.bl _, H, I, rfl, q⟩
theorem sem_inS (neg : Bool) : Sem2 X RX W (rInSeq X.K neg) (dInS neg) := by
  intro σ α H S x y d e Q wr rx ry o
  unfold dInS at o
  split at o
  · rename_i z xs e1 e2
    split at o
    · rename_i hs
      rw [Bool.and_eq_true, Bool.and_eq_true] at hs
      refine ⟨z, xs, data_at wr rx e1, ?_, hs.1.1, hs.1.2, hs.2, o.get wr _ (.bl _)⟩
      obtain ⟨p, ys, rfl, h1, h2⟩ := seq_sq wr ry e2
      rcases h1 with h1 | h1
      · exact .inl (.lst h1 h2.dp)
      · exact .inr (.tup h1 h2.dp)
    · exact o.elim
  · exact o.elim
theorem od_inS (hu : X.A.units + 65 < cLine) : OpD X RX W (compareOp .In) (dInS false) := .of (op_inSeq hu) (sem_inS false)
theorem od_notInS (hu : X.A.units + 65 < cLine) : OpD X RX W (compareOp .NotIn) (dInS true) := .of (op_notInSeq hu) (sem_inS true)
end
end G

set_option Elab.async false
set_option linter.all false
set_option autoImplicit false
set_option maxRecDepth 100000
namespace G
open PySem PySem.Spec PyProof.Rows L2
open AutoSeq1 (wpAny_loadPart')
open RZ (ItzT iZipA pi_zipA)
/-! ### enumerate over a tuple -/
theorem meets_enum_tup (l : Addr) (items : Array Value) (n : Nat) (dct : Option Addr) (sl : Array (Option Value)) :
    Meets (Builtin.«enumerate.__new__» ⟨[.type "enumerate", .ref l], []⟩) (fun _ R s => s.heap.get? l = some { cls := .type "tuple", data := .seq items n, dict := dct, slots := sl } ∧
      R (.ok (.ret (.ref (s.heap.push { cls := .type "tuple_iterator", data := .fields #[.ref l, .int 0 0] }).objs.size)))
        { s with heap := (s.heap.push { cls := .type "tuple_iterator", data := .fields #[.ref l, .int 0 0] }).push { cls := .type "enumerate", data := .fields #[.none, .bool false, .ref s.heap.objs.size, rawInt 0, .none, .none] } }) :=
  .of_wp fun prog w A R s h => by
    obtain ⟨hp, g, d, tk, os⟩ := s; obtain ⟨hl, h⟩ := h
    have hsub := sub_enumerate
    have hL : Heap.IsTuple (Shared.heap ⟨hp, g, d, tk, os⟩) l items := ⟨_, hl, rfl, n, rfl⟩
    wp_walk using wpAny_loadPart' hl
    refine wpAny_stack_any fun st => wpAny_pure ?_
    split
    · rename_i c _ _ _ _ _
      cases (c == Value.type "enumerate")
      · wp_walk using wpAny_loadPart' hl, wpAny_pyIter_tuple hL
        exact ⟨_, rfl, h⟩
      · wp_walk using wpAny_loadPart' hl, wpAny_pyIter_tuple hL
        exact ⟨_, rfl, h⟩
    · wp_walk using wpAny_loadPart' hl, wpAny_pyIter_tuple hL
      exact ⟨_, rfl, h⟩
section
variable {prog : Program} {w : World} {A : Around} {E : Value → Shared → Prop} {s : Shared}
theorem call_enum_tup {l : Addr} {items : Array Value} {Q : Value → Shared → Prop} (hL : s.heap.IsTuple l items)
    (h : ∀ h', IsEnum h' (s.heap.objs.size + 1) s.heap.objs.size 0 .none → h'.IsTupleIter s.heap.objs.size l 0 → h'.objs.size = s.heap.objs.size + 2 →
      (∀ b o, s.heap.get? b = some o → h'.get? b = some o) → Q (.ref (s.heap.objs.size + 1)) { s with heap := h' }) :
    wpAny (model prog w) A (call (.type "enumerate") [.ref l]) Q E s := by
  obtain ⟨⟨c, dct, dt, sl⟩, hl, hc, n, hd⟩ := hL
  replace hc : c = .type "tuple" := hc
  replace hd : dt = .seq items n := hd
  subst hc hd
  refine callType_new F.called_enumerate (by decide) (F.typeCall_enumerate_1 _) (F.newCall_enumerate_1 _) (fun obj => F.args_object_init_2 obj _) F.entry_enumerate_new
    (meets_enum_tup l items n dct sl) ⟨hl, ?_⟩
  have hz : (s.heap.push { cls := .type "tuple_iterator", data := .fields #[.ref l, .int 0 0] }).objs.size = s.heap.objs.size + 1 := Heap.size_push ..
  show _ ∧ _
  rw [hz]
  have he : IsEnum ((s.heap.push { cls := .type "tuple_iterator", data := .fields #[.ref l, .int 0 0] }).push
      { cls := .type "enumerate", data := .fields #[.none, .bool false, .ref s.heap.objs.size, rawInt 0, .none, .none] }) (s.heap.objs.size + 1) s.heap.objs.size 0 .none := by
    have := Heap.get?_push_size (s.heap.push { cls := .type "tuple_iterator", data := .fields #[.ref l, .int 0 0] })
      (o := { cls := .type "enumerate", data := .fields #[.none, .bool false, .ref s.heap.objs.size, rawInt 0, .none, .none] }) rfl
    rw [hz] at this; exact this
  refine ⟨⟨_, he, rfl⟩, h _ he ⟨_, Heap.get?_push_of_some _ (Heap.get?_push_size _ rfl), rfl, rfl⟩ (by rw [Heap.size_push, hz]) fun b o x => Heap.get?_push_of_some _ (Heap.get?_push_of_some _ x)⟩
end
section
variable {prog : Program} {w : World} {A : Around} {E : Value → Shared → Prop} {s : Shared}
theorem pyNext_enumT_end {e it l : Addr} {i : Nat} {items : Array Value} {old : Value} {Q : Option Value → Shared → Prop} (hh : A.handled = none)
    (he : IsEnum s.heap e it i old) (hit : s.heap.IsTupleIter it l i) (hl : s.heap.IsTuple l items) (hx : items[i]? = none)
    (hQ : ∀ h', Heap.ExtBut it s.heap h' → Q none { s with heap := h' }) : wpAny (model prog w) A (pyNext (.ref e)) Q E s := by
  have hT : s.TypeIs (.ref e) "enumerate" := ⟨_, he, rfl⟩
  unfold pyNext
  refine wpAny_bind (wpAny_attempt (wpAny_callSpecial?_slot (name := Str.ofString "__next__") hT F.slot_enumerate_next
    (wpAny_call_entry F.slot_enumerate_next hT F.entry_enumerate_next ?_ (F.args_enumerate_next_1 _))))
  show wpAny _ _ (field (.ref e) 2 >>= _) _ _ _
  refine wpAny_bind (wpAny_field he rfl (x := .ref it) rfl ?_)
  refine wpAny_bind (wpAny_nextOf_tuple_end (A := A.in1) hh hit hl hx fun h' x he' hx' => ?_)
  obtain ⟨o, ho, hc⟩ := hx'
  refine wpAny_bind (wpAny_isInstance (T := "StopIteration") (b := true) ⟨o, ho, hc⟩ isSubtype_stop ?_)
  exact wpAny_pure (hQ _ he')
end
def IteT (K : PySem.W.Frag) (a : Addr) : It :=
  ⟨fun i H => ∃ (xs : List V) (x : V), SqT K H a xs ∧ xs[i]? = some x, fun i H v H' => ∃ T x, v = .ref T ∧ H T = none ∧ H' = upd H T (.tup [.int (i : Nat), x]) ∧ ∀ xs, SqT K H a xs → xs[i]? = some x, fun i H => ∃ xs : List V, SqT K H a xs ∧ xs.length ≤ i⟩
theorem turn_enumT {P : Program} {w : World} {K : PySem.W.Frag} {elts : List Expr} {kk : Nat} {tpos : Pos} (a e it : Addr) :
    Turn P w K (.Tuple elts kk tpos) (IteT K a) [e, it] e (fun i h => (∃ old, IsEnum h e it ((i : Nat) : Int) old) ∧ h.IsTupleIter it a i ∧ e ≠ it) where
  mem := by simp
  obj := fun i h st b hb => by
    obtain ⟨⟨old, he⟩, ⟨o, ho, hc, hd⟩, _⟩ := st
    have e' : b = e ∨ b = it := by simpa using hb
    rcases e' with z | z
    · rw [z]; exact ⟨_, he, fun v q => nomatch q⟩
    · rw [z]; exact ⟨o, ho, fun v q => by rw [hd] at q; cases q⟩
  keep := fun i h h' st k => let ⟨⟨old, he⟩, hi, hne⟩ := st; ⟨⟨old, k e (by simp) _ he⟩, hi.at fun o q => k it (by simp) o q, hne⟩
  item := by
    intro X hP hw hK hc i pins s σ H E I hf st hg
    subst hP hw hK
    obtain ⟨⟨old, he⟩, hit, hne⟩ := st
    obtain ⟨xs, x, hq, hx⟩ := hg
    obtain ⟨its, rv, p, hz⟩ := I.tuple hq
    obtain ⟨u, hu, ru⟩ := rv.get hx
    have hel : e < s.heap.objs.size := Heap.lt_size he
    have hil : it < s.heap.objs.size := by obtain ⟨_, q, _⟩ := hit; exact Heap.lt_size q
    have hat : s.heap.IsTuple a its.toArray := p
    have hne2 : a ≠ it := fun z => by
      subst z
      obtain ⟨o, ho, hc, n, hd⟩ := hat
      obtain ⟨o2, ho2, hc2, hd2⟩ := hit
      rw [ho] at ho2; cases ho2; rw [hd] at hd2; cases hd2
    have hne3 : a ≠ e := fun z => by
      subst z
      obtain ⟨o, ho, hc, n, hd⟩ := hat
      have h2 : s.heap.get? a = some _ := he
      rw [ho] at h2; cases h2; cases hd
    have D := Draws.tuple (prog := X.prog) (w := X.w) (A := X.A.in1) (I.ok.hd hc) it a hne2 its.toArray
    have hef : e ∉ [it, a] := by simp; exact ⟨hne, Ne.symm hne3⟩
    have hlt : i < its.toArray.size := by
      have := (List.getElem?_eq_some_iff.mp hu).1
      simpa using this
    refine wpAny_pyNext_enum_itemD D he ⟨hit, hat⟩ hlt hne hef fun y h' tk hy ho hit' hT hsz hk => ?_
    have hy2 : its.toArray[i]? = some y := hy
    have hyu : y = u := by
      have : its[i]? = some y := by simpa using hy2
      rw [hu] at this; exact (Option.some.inj this).symm
    subst hyu
    refine ⟨_, rfl, wpAny_letOwnedTupleGo_enum (s := { s with heap := h', toks := tk + 1 }) ho fun h'' he' sb => ?_⟩
    have hT2 : h''.get? s.heap.objs.size = some { cls := .type "tuple", data := .seq #[.int i tk, y] } := (sb.2 _ (Nat.ne_of_gt hel)).trans hT
    have new : ObjOk X.prog X.w (upd H s.heap.objs.size (.tup [.int (i : Nat), x])) h'' s.heap.objs.size (.tup [.int (i : Nat), x]) :=
      ⟨by show 2 ≤ sizeLine; decide, [.int i tk, y], .cons ⟨_, rfl⟩ (.cons ru .nil), ⟨_, hT2, rfl, _, rfl⟩⟩
    have I1 : Inv X pins σ (upd H s.heap.objs.size (.tup [.int (i : Nat), x])) { s with heap := h'', toks := tk + 1 } :=
      I.turnedNew (ch := [e, it]) (fun b ob hb q => (sb.2 b (fun z => hb (by simp [z]))).trans (hk b ob (fun z => hb (by simp [z])) (fun z => hb (by simp [z])) q)) hf (Nat.le_refl _) new
    refine ⟨.ref s.heap.objs.size, _, I1, rfl, ⟨_, x, rfl, I.hok.fresh (Nat.le_refl _), rfl, fun ys hy => by rw [I.tuple_inj hy hq]; exact hx⟩, ⟨⟨y, ?_⟩, hit'.1.at fun o q => (sb.2 it (Ne.symm hne)).trans q, hne⟩, fun b hb => ?_⟩
    · have e1 : ((i + 1 : Nat) : Int) = (i : Int) + 1 := by omega
      rw [e1]; exact he'
    · have hb' : b < s.heap.objs.size := by
        have e' : b = e ∨ b = it := by simpa using hb
        rcases e' with z | z
        · rw [z]; exact hel
        · rw [z]; exact hil
      rw [upd_ne (Nat.ne_of_lt hb')]
      exact (hf b hb).1
  done := by
    intro X hP hw hK hc i pins s σ H E I hf st hg
    subst hP hw hK
    obtain ⟨⟨old, he⟩, hit, hne⟩ := st
    obtain ⟨xs, hq, hx⟩ := hg
    obtain ⟨its, rv, p, hz⟩ := I.tuple hq
    obtain ⟨f0, f1, f2, f3, f4, f5⟩ := hf it (by simp)
    have hl := rv.length
    have hat : s.heap.IsTuple a its.toArray := p
    refine pyNext_enumT_end (I.ok.hd hc) he hit hat (by simp; omega) fun h' eb => ⟨rfl, I.turned (t' := s.toks) (fun b o hb q => eb b o hb q) f0 f1 f3 f4 f5⟩
  self := fun A i s Q E st h => let ⟨⟨_, he⟩, _⟩ := st; wpAny_pyIter_enum he h
def iEnumA (K : PySem.W.Frag) (ta : TA) : TI := fun σ H R => ta σ H fun vs H1 => ∃ a xs, vs = [.ref a] ∧ ((SqL K H1 a xs ∧ R (Ite K a) H1) ∨ (SqT K H1 a xs ∧ R (IteT K a) H1))
theorem pi_enumA {X : Cx} {e : Expr} {ta : TA} {p pos tpos : Pos} {elts : List Expr} {kk : Nat} (hg : Gl X "enumerate") (hm : X.mg "enumerate" = none) (ha : PA X [e] ta) (hs : starEach [e] X.env = [(false, eval e X.env)] := by rfl) :
    PI X (.Tuple elts kk tpos) (.Call (.Name "enumerate" p) [e] [] pos) (iEnumA X.K ta) := by
  refine ⟨fun pins s σ H R I h => ?_⟩
  refine Call_ (ld_blt I hg hm boot_enumerate (PyProof.Rows.callWith_type1 (thn (ha.run pos pins s σ H _ I h) fun us s1 ⟨vs, H1, I1, r1, q1⟩ => ?_) hs rfl))
  obtain ⟨a, xs, ex, q1⟩ := q1
  subst ex
  have fresh2 : ∀ b ∈ [s1.heap.objs.size + 1, s1.heap.objs.size], FpOk X pins H1 b := fun b hb => by
    have e' : b = s1.heap.objs.size + 1 ∨ b = s1.heap.objs.size := by simpa using hb
    have hle : s1.heap.objs.size ≤ b := by
      rcases e' with z | z
      · rw [z]; exact Nat.le_add_right _ _
      · rw [z]; exact Nat.le_refl _
    exact I1.fpOk hle (I1.hok.fresh hle)
  cases r1 with
  | cons r rr =>
    cases rr
    cases r
    rcases q1 with ⟨hq, q⟩ | ⟨hq, q⟩
    · obtain ⟨its, rv, p', hz⟩ := I1.list hq
      refine call_enumerate_list p'.isList fun h' he hit hsz hk => wpAny_pyIter_enum he ?_
      have I2 : Inv X pins σ H1 { s1 with heap := h' } := I1.kept (t' := s1.toks) hk
      exact ⟨s1.heap.objs.size + 1, [s1.heap.objs.size + 1, s1.heap.objs.size], _, _, H1, rfl, I2, turn_enum a (s1.heap.objs.size + 1) s1.heap.objs.size, ⟨⟨.none, he⟩, hit, Nat.succ_ne_self _⟩, fresh2, q⟩
    · obtain ⟨its, rv, p', hz⟩ := I1.tuple hq
      refine call_enum_tup (show s1.heap.IsTuple a its.toArray from p') fun h' he hit hsz hk => wpAny_pyIter_enum he ?_
      have I2 : Inv X pins σ H1 { s1 with heap := h' } := I1.kept (t' := s1.toks) hk
      exact ⟨s1.heap.objs.size + 1, [s1.heap.objs.size + 1, s1.heap.objs.size], _, _, H1, rfl, I2, turn_enumT a (s1.heap.objs.size + 1) s1.heap.objs.size, ⟨⟨.none, he⟩, hit, Nat.succ_ne_self _⟩, fresh2, q⟩
/-! ### plain: enumerate, zip -/
def enumD (xs : List PyData) : List PyData := (xs.zipIdx).map fun p => .tuple [.int (p.2 : Nat), p.1]
def iEnumD (f : FE) : FI := fun env S => (f env S).bind fun d S1 => match d with
  | .v (.list xs) => .ok (enumD xs) S1
  | .v (.tuple xs) => .ok (enumD xs) S1
  | _ => .stuck
def zipD (xs ys : List PyData) : List PyData := (xs.zip ys).map fun p => .tuple [p.1, p.2]
def iZipD (f g : FE) : FI := fun env S => (f env S).bind fun d S1 => (g env S1).bind fun e S2 => match d, e with
  | .v (.list xs), .v (.list ys) => .ok (zipD xs ys) S2
  | .v (.tuple xs), .v (.tuple ys) => .ok (zipD xs ys) S2
  | _, _ => .stuck
section
variable {X : Cx} {RX : RXT} {W : WX} {α α' : AM} {H H' : Hp} {σ : St} {S S' : Store} {env : DEnv} {pos : Pos} {tg : Expr}
theorem new_tup' {p : Addr} {vs : List V} {xs : List PyData} (hp : H p = none) (hn : α.no p) (r : RpL X.K α H vs xs) : Rp X.K α (upd H p (.tup vs)) (.ref p) (.tuple xs) :=
  .tup (.inl ⟨.inl upd_same, hn⟩) (r.keep fun a u h n => ⟨by rw [upd_ne (ne_of_none h hp)]; exact h, n⟩)
theorem enumD_get {xs : List PyData} {i : Nat} {x : PyData} (h : (enumD xs)[i]? = some x) : ∃ y, xs[i]? = some y ∧ x = .tuple [.int (i : Nat), y] := by
  unfold enumD at h
  rw [List.getElem?_map, List.getElem?_zipIdx] at h
  cases hx : xs[i]? with
  | none => rw [hx] at h; cases h
  | some y => rw [hx] at h; simp at h; exact ⟨y, rfl, h.symm⟩
theorem enumD_len (xs : List PyData) : (enumD xs).length = xs.length := by simp [enumD]
theorem iter_enumL {a : Addr} {vs : List V} {xs : List PyData} (h : ImL α H a vs) (r : RpL X.K α H vs xs) : IterOk X (Ite X.K a) (enumD xs) α H := fun α' H' e hf => by
  have h' := (h.keep e).sq (K := X.K)
  have r' := r.keep e
  refine ⟨fun i x hx => ?_, ⟨vs, h', by rw [r'.length, enumD_len]; exact Nat.le_refl _⟩⟩
  obtain ⟨y, hy, rfl⟩ := enumD_get hx
  obtain ⟨v, hv, rv⟩ := r'.get hy
  refine ⟨⟨vs, v, h', hv⟩, fun u H'' ⟨T, z, e1, e2, e3, e4⟩ => ?_⟩
  subst e1 e3
  have := e4 vs h'
  rw [hv] at this; cases this
  exact ⟨new_tup' e2 (hf _ e2) (.cons (.int _) (.cons rv .nil)), .inr ⟨T, _, e2, rfl⟩⟩
theorem iter_enumT {a : Addr} {vs : List V} {xs : List PyData} (h : ImT X.K α H a vs) (r : RpL X.K α H vs xs) : IterOk X (IteT X.K a) (enumD xs) α H := fun α' H' e hf => by
  have h' := (h.keep e).sq
  have r' := r.keep e
  refine ⟨fun i x hx => ?_, ⟨vs, h', by rw [r'.length, enumD_len]; exact Nat.le_refl _⟩⟩
  obtain ⟨y, hy, rfl⟩ := enumD_get hx
  obtain ⟨v, hv, rv⟩ := r'.get hy
  refine ⟨⟨vs, v, h', hv⟩, fun u H'' ⟨T, z, e1, e2, e3, e4⟩ => ?_⟩
  subst e1 e3
  have := e4 vs h'
  rw [hv] at this; cases this
  exact ⟨new_tup' e2 (hf _ e2) (.cons (.int _) (.cons rv .nil)), .inr ⟨T, _, e2, rfl⟩⟩
theorem di_enum {e : Expr} {f : FE} {p tpos : Pos} {elts : List Expr} {kk : Nat} (hg : Gl X "enumerate") (hm : X.mg "enumerate" = none) (he : DE X RX W e f) (hs : starEach [e] X.env = [(false, eval e X.env)] := by rfl) :
    DI X RX W (.Tuple elts kk tpos) (.Call (.Name "enumerate" p) [e] [] pos) (iEnumD f) :=
  piW (pi_enumA hg hm (pa_cons he pa_nil (by rw [hs]; rfl)) hs) fun σ H R ⟨α, env, S, h, o⟩ => tE_seq h o fun d S1 α1 H1 v e1 h1 r1 o1 => by
    split at o1
    · cases r1 with
      | lst hl r => exact ⟨_, _, rfl, .inl ⟨hl.sq, o1.get h1.wr _ (iter_enumL hl r)⟩⟩
    · cases r1 with
      | tup hl r => exact ⟨_, _, rfl, .inr ⟨hl.sq, o1.get h1.wr _ (iter_enumT hl r)⟩⟩
    · exact o1.elim
theorem zipD_get {xs ys : List PyData} {i : Nat} {x : PyData} (h : (zipD xs ys)[i]? = some x) : ∃ y z, xs[i]? = some y ∧ ys[i]? = some z ∧ x = .tuple [y, z] := by
  unfold zipD at h
  rw [List.getElem?_map] at h
  cases hx : (xs.zip ys)[i]? with
  | none => rw [hx] at h; cases h
  | some y =>
    rw [hx] at h
    rw [List.getElem?_zip_eq_some] at hx
    exact ⟨y.1, y.2, hx.1, hx.2, by simpa using h.symm⟩
theorem zipD_len (xs ys : List PyData) : (zipD xs ys).length = min xs.length ys.length := by simp [zipD]
theorem iter_zipL {a b : Addr} {vs ws : List V} {xs ys : List PyData} (h : ImL α H a vs) (r : RpL X.K α H vs xs) (h2 : ImL α H b ws) (r2 : RpL X.K α H ws ys) : IterOk X (Itz X.K a b) (zipD xs ys) α H := fun α' H' e hf => by
  have h' := (h.keep e).sq (K := X.K)
  have r' := r.keep e
  have h2' := (h2.keep e).sq (K := X.K)
  have r2' := r2.keep e
  refine ⟨fun i x hx => ?_, ⟨vs, ws, h', h2', by rw [r'.length, r2'.length, zipD_len]; omega⟩⟩
  obtain ⟨y, z, hy, hz, rfl⟩ := zipD_get hx
  obtain ⟨v, hv, rv⟩ := r'.get hy
  obtain ⟨u, hu, ru⟩ := r2'.get hz
  refine ⟨⟨vs, ws, v, u, h', h2', hv, hu⟩, fun k H'' ⟨T, z, z2, e1, e2, e3, e4, e5⟩ => ?_⟩
  subst e1 e3
  have := e4 vs h'
  rw [hv] at this; cases this
  have := e5 ws h2'
  rw [hu] at this; cases this
  exact ⟨new_tup' e2 (hf _ e2) (.cons rv (.cons ru .nil)), .inr ⟨T, _, e2, rfl⟩⟩
theorem iter_zipT {a b : Addr} {vs ws : List V} {xs ys : List PyData} (h : ImT X.K α H a vs) (r : RpL X.K α H vs xs) (h2 : ImT X.K α H b ws) (r2 : RpL X.K α H ws ys) : IterOk X (ItzT X.K a b) (zipD xs ys) α H := fun α' H' e hf => by
  have h' := (h.keep e).sq
  have r' := r.keep e
  have h2' := (h2.keep e).sq
  have r2' := r2.keep e
  refine ⟨fun i x hx => ?_, ⟨vs, ws, h', h2', by rw [r'.length, r2'.length, zipD_len]; omega⟩⟩
  obtain ⟨y, z, hy, hz, rfl⟩ := zipD_get hx
  obtain ⟨v, hv, rv⟩ := r'.get hy
  obtain ⟨u, hu, ru⟩ := r2'.get hz
  refine ⟨⟨vs, ws, v, u, h', h2', hv, hu⟩, fun k H'' ⟨T, z, z2, e1, e2, e3, e4, e5⟩ => ?_⟩
  subst e1 e3
  have := e4 vs h'
  rw [hv] at this; cases this
  have := e5 ws h2'
  rw [hu] at this; cases this
  exact ⟨new_tup' e2 (hf _ e2) (.cons rv (.cons ru .nil)), .inr ⟨T, _, e2, rfl⟩⟩
theorem di_zip {e e2 : Expr} {f g : FE} {p tpos : Pos} {elts : List Expr} {kk : Nat} (hg : Gl X "zip") (hm : X.mg "zip" = none) (he : DE X RX W e f) (he2 : DE X RX W e2 g)
    (hs : starEach [e, e2] X.env = (false, eval e X.env) :: starEach [e2] X.env := by rfl) (hs2 : starEach [e2] X.env = (false, eval e2 X.env) :: starEach [] X.env := by rfl) (hpl : (backTo pos (starEach [e2] X.env)).any (·.1) = false := by rfl) :
    DI X RX W (.Tuple elts kk tpos) (.Call (.Name "zip" p) [e, e2] [] pos) (iZipD f g) :=
  piW (pi_zipA hg hm (pa_cons he (pa_cons he2 pa_nil hs2) hs) hs hpl) fun σ H R ⟨α, env, S, h, o⟩ => tE_seq h o fun d S1 α1 H1 v e1 h1 r1 o1 => tE_seq h1 o1 fun d2 S2 α2 H2 v2 e2 h2 r2 o2 => by
    have r1 := r1.ext e2
    split at o2
    · cases r1 with
      | lst hl r => cases r2 with
        | lst hl2 r2 => exact ⟨_, _, _, _, rfl, .inl ⟨hl.sq, hl2.sq, o2.get h2.wr _ (iter_zipL hl r hl2 r2)⟩⟩
    · cases r1 with
      | tup hl r => cases r2 with
        | tup hl2 r2 => exact ⟨_, _, _, _, rfl, .inr ⟨hl.sq, hl2.sq, o2.get h2.wr _ (iter_zipT hl r hl2 r2)⟩⟩
    · exact o2.elim
end
end G

set_option Elab.async false
set_option linter.all false
set_option autoImplicit false
set_option maxRecDepth 100000
namespace G
open PySem PySem.Spec PyProof.Rows L2
/-! ### a name's cell is read for good -/
def sFrz (i : Nat) (f : FS) : FS := fun env S => match env[i]? with
  | some (some (.r n)) => (match S[n]? with
    | some (.lst xs) => f (env.set i (some (.v (.list xs)))) (S.set n .dead)
    | _ => .stuck)
  | _ => f env S
/-! ### truth -/
def truD (S : Store) : D → Option Bool
  | .v .none => some false
  | .v (.bool b) => some b
  | .v (.int i) => some (i != 0)
  | .r n => match S[n]? with
    | some (.lst xs) => some (!xs.isEmpty)
    | some (.dk kvs) => some (!kvs.isEmpty)
    | _ => none
  | d => (seqOf S d).map fun xs => !xs.isEmpty
def dTru (f : FE) : FT := fun env S => (f env S).bind fun d S1 => match truD S1 d with
  | some b => .ok b S1
  | none => .stuck
/-- x, y = a, b -/
def sPar (is : List Nat) (g : FA) : FS := fun env S => lift env (g env S) fun ds S1 => if ds.length = is.length then .ok (.nx ((is.zip ds).foldl (fun e p => e.set p.1 (some p.2)) env)) S1 else .stuck
/-- x += e -/
def sAug (i : Nat) (op : D → D → Store → Res D) (f : FE) : FS := fun env S => match env[i]? with
  | some (some d) => lift env (f env S) fun e S1 => lift env (op d e S1) fun z S2 => .ok (.nx (env.set i (some z))) S2
  | _ => .stuck
section
variable {X : Cx} {RX : RXT} {W : WX} {α α' : AM} {H H' : Hp} {σ : St} {S S' : Store} {env : DEnv} {pos : Pos}
theorem frz_here (h : Here X α H σ env S) {i n : Nat} {xs : List PyData} (e : env[i]? = some (some (.r n))) (hc : S[n]? = some (.lst xs)) : Here X (α.kill n) H σ (env.set i (some (.v (.list xs)))) (S.set n .dead) := by
  obtain ⟨v, hv, rv⟩ := h.re.get i _ e
  obtain ⟨a, rfl, ha, vs, hl, q⟩ := cell_at h.wr rv hc (by intro z; cases z)
  refine ⟨⟨by rw [List.length_set]; exact h.re.len, fun j d hj => ?_⟩, h.wr.freeze⟩
  by_cases z : i = j
  · subst z
    have hi : i < env.length := by have := (List.getElem?_eq_some_iff.mp hj).1; simpa using this
    rw [List.getElem?_set_self hi] at hj
    cases hj
    exact ⟨_, hv, .lst ⟨.inl hl, h.wr.frozen ha⟩ (q.ext Ext.freeze)⟩
  · rw [List.getElem?_set_ne z] at hj
    obtain ⟨v, h1, h2⟩ := h.re.get j d hj
    exact ⟨v, h1, h2.ext Ext.freeze⟩
theorem ds_frz {st : Stmt} {f : FS} (i : Nat) (h : DS X RX W st f) : DS X RX W st (sFrz i f) := psW h fun D σ H ⟨α, env, S, h, o⟩ => by
  unfold sFrz at o
  split at o
  · rename_i n e
    split at o
    · rename_i xs hc
      exact ⟨_, _, _, frz_here h e hc, OkS.ext o Ext.freeze⟩
    · exact o.elim
  · exact ⟨α, env, S, h, o⟩
theorem truD_ok {v : V} {d : D} {b : Bool} (wr : WR X.prog X.w X.K α H S) (r : RepD X.K α H v d) (e : truD S d = some b) : TruV X.K v H b := by
  have sq : ∀ {d : D} {xs : List PyData}, RepD X.K α H v d → seqOf S d = some xs → b = !xs.isEmpty → TruV X.K v H b := fun {d xs} r e eb => by
    obtain ⟨p, ys, rfl, h, q⟩ := seq_sq wr r e
    have : b = !ys.isEmpty := by rw [eb]; cases q <;> rfl
    rcases h with h | h
    · exact .inl ⟨ys, h, this⟩
    · exact .inr (.inl ⟨ys, h, this⟩)
  unfold truD at e
  split at e
  · cases e; cases r; rfl
  · cases e; cases r; rfl
  · cases e; cases r; rfl
  · rename_i n
    split at e
    · rename_i xs hc
      cases e
      exact sq r (by simp only [seqOf, hc]) rfl
    · rename_i kvs hc
      cases e
      obtain ⟨a, rfl, _, kv, hl, q⟩ := cell_at wr r hc (by intro z; cases z)
      exact .inr (.inr ⟨kv, hl, by cases q <;> rfl⟩)
    · cases e
  · obtain ⟨xs, e1, e2⟩ := Option.map_eq_some_iff.mp e
    exact sq r e1 e2.symm
/-- a test by a value's truth -/
theorem dt_tru {e : Expr} {f : FE} (he : DE X RX W e f) (hp : ∀ whole, isTrue e X.env whole = (do let v ← whole; standAt e.pos; holding [v] (truthy v)) := by intro _; rfl) : DT X RX W e (dTru f) :=
  ptW (pt_truth he hp) fun σ H Q ⟨α, env, S, h, o⟩ => tE_seq h o fun d S1 α1 H1 v e1 h1 r1 o1 => by
    split at o1
    · rename_i b hb
      exact ⟨b, truD_ok h1.wr r1 hb, o1.get h1.wr⟩
    · exact o1.elim
/-! ### calls -/
theorem passF : PassesAt (L2N.CX X.prog X.w) X σ (fun c d H => WF c d σ H) := fun pins H s e s' I c => by
  obtain ⟨a, B, sI, pins, σ, H, cls, d, e, I, nb, up, sky, na, os, ag, w⟩ := L2N.XE.of_call (W := WF) I (fun _ _ _ h => h) c
  exact w.elim
theorem de_fn {k n : Nat} {f : Addr} {fd : FuncData} {ps : List Str} {c : Fn} {x : Str} {p : Pos} {e : Expr} {es : List Expr} {g : FA}
    (F : FnOk X.prog X.w X.K X.mg X.base (L2N.CX X.prog X.w) k f fd ps (spD X.prog X.w X.K RX c n)) (hm : X.mg x = some (.ref f)) (hk : PySem.W.keepIn X.K (.ref f) = true) (hb : Binds X.K fd ps []) (hc : ∀ ds S, ds.length ≠ n → c ds S = .stuck) (hX : RXok RX)
    (hx : ∀ σ, PassesAt (L2N.CX X.prog X.w) X σ (fun c d H => W c d σ H)) (hr : Room k X.A) (ha : DA X RX W (e :: es) g) (hg : Gl X x := by rfl)
    (hdb : (x == ("__debug__" : Str)) = false := by decide) (he : starEach (e :: es) X.env = (false, eval e X.env) :: starEach es X.env := by rfl) (hpl : (backTo pos (starEach es X.env)).any (·.1) = false := by rfl) :
    DE X RX W (.Call (.Name x p) (e :: es) [] pos) (dCall c g []) := de_call F hr hX hg hm hk hb .nil (fun _ _ => .nil) hc hx ha hdb he hpl
/-! ### x, y = a, b -/
theorem RE.set2 {K : PySem.W.Frag} : ∀ (is : List Nat) {vs : List V} {ds : List D} {σ : St} {env : DEnv}, RepDs K α H vs ds → ds.length = is.length → RE K α H σ env → RE K α H ((is.zip vs).foldl (fun e p => e.set p.1 (some p.2)) σ) ((is.zip ds).foldl (fun e p => e.set p.1 (some p.2)) env)
  | [], _, _, _, _, _, _, h => by simpa using h
  | i :: is, _, _, σ, env, .nil, e, h => by simp at e
  | i :: is, _, _, σ, env, .cons r rs, e, h => by
    simp only [List.zip_cons_cons, List.foldl_cons]
    exact RE.set2 is rs (by simpa using e) (h.set r)
theorem ds_par {i j : Nat} {x y : Str} {a b : Expr} {g : FA} {px py pt : Pos} {kt k2 : Nat} {pt2 : Pos} (hc : X.calm = true) (hN : X.N.Nodup) (hij : i ≠ j) (ha : DA X RX W [a, b] g)
    (hw : swappedStores [.Tuple [.Name x px, .Name y py] kt pt] (.Tuple [a, b] k2 pt2) X.env = pure (some [x, y])) (hi : X.N[i]? = some x := by rfl) (hj : X.N[j]? = some y := by rfl)
    (hx : X.env.scope.names.lookup x = some .local := by rfl) (hy : X.env.scope.names.lookup y = some .local := by rfl) 
    (hs : swapsWithSole [.Tuple [.Name x px, .Name y py] kt pt] (.Tuple [a, b] k2 pt2) pos.line X.env = pure false := by rfl) :
    DS X RX W (.Assign [.Tuple [.Name x px, .Name y py] kt pt] (.Tuple [a, b] k2 pt2) pos) (sPar [i, j] g) := psW (ps_par hc hN hi hj hij hx hy ha hw hs) fun D σ H ⟨α, env, S, h, o⟩ => by
  refine ⟨α, env, S, h, ?_⟩
  unfold sPar at o
  cases hr : g env S with
  | ok ds S1 =>
    rw [hr] at o
    intro α1 H1 e1 w1 vs rs
    simp only [lift] at o
    split at o
    · rename_i hl
      have h1 : Here X α1 H1 σ env S1 := ⟨(h.ext X e1 w1).re, w1⟩
      have rr := RE.set2 [i, j] rs hl h1.re
      cases rs with
      | nil => simp at hl
      | cons r rs => cases rs with
        | nil => simp at hl
        | cons r2 rs => cases rs with
          | cons => simp at hl
          | nil =>
            refine ⟨_, _, rfl, ?_⟩
            simp only [List.zip_cons_cons, List.zip_nil_right, List.foldl_cons, List.foldl_nil] at rr o
            exact o α1 H1 _ e1 ⟨rr, w1⟩
    · exact o.elim
  | exc x S' => rw [hr] at o; exact fun β2 H2 c dx e2 w2 rx => o β2 H2 σ c dx e2 (h.ext X e2 w2) rx
  | stuck => rw [hr] at o; exact o
theorem ds_par3 {i j l : Nat} {x y z : Str} {a b c : Expr} {g : FA} {px py pz pt : Pos} {kt k2 : Nat} {pt2 : Pos} (hc : X.calm = true) (hN : X.N.Nodup) (hij : i ≠ j) (hil : i ≠ l) (hjl : j ≠ l) (ha : DA X RX W [a, b, c] g)
    (hw : swappedStores [.Tuple [.Name x px, .Name y py, .Name z pz] kt pt] (.Tuple [a, b, c] k2 pt2) X.env = pure (some [x, y, z])) (hi : X.N[i]? = some x := by rfl) (hj : X.N[j]? = some y := by rfl) (hl : X.N[l]? = some z := by rfl)
    (hx : X.env.scope.names.lookup x = some .local := by rfl) (hy : X.env.scope.names.lookup y = some .local := by rfl) (hz : X.env.scope.names.lookup z = some .local := by rfl)
    (hs : swapsWithSole [.Tuple [.Name x px, .Name y py, .Name z pz] kt pt] (.Tuple [a, b, c] k2 pt2) pos.line X.env = pure false := by rfl) :
    DS X RX W (.Assign [.Tuple [.Name x px, .Name y py, .Name z pz] kt pt] (.Tuple [a, b, c] k2 pt2) pos) (sPar [i, j, l] g) := psW (ps_par3 hc hN hi hj hl hij hil hjl hx hy hz ha hw hs) fun D σ H ⟨α, env, S, h, o⟩ => by
  refine ⟨α, env, S, h, ?_⟩
  unfold sPar at o
  cases hr : g env S with
  | ok ds S1 =>
    rw [hr] at o
    intro α1 H1 e1 w1 vs rs
    simp only [lift] at o
    split at o
    · rename_i hl
      have h1 : Here X α1 H1 σ env S1 := ⟨(h.ext X e1 w1).re, w1⟩
      have rr := RE.set2 [i, j, l] rs hl h1.re
      cases rs with
      | nil => simp at hl
      | cons r rs => cases rs with
        | nil => simp at hl
        | cons r2 rs => cases rs with
          | nil => simp at hl
          | cons r3 rs => cases rs with
            | cons => simp at hl
            | nil =>
              refine ⟨_, _, _, rfl, ?_⟩
              simp only [List.zip_cons_cons, List.zip_nil_right, List.foldl_cons, List.foldl_nil] at rr o
              exact o α1 H1 _ e1 ⟨rr, w1⟩
    · exact o.elim
  | exc x S' => rw [hr] at o; exact fun β2 H2 c dx e2 w2 rx => o β2 H2 σ c dx e2 (h.ext X e2 w2) rx
  | stuck => rw [hr] at o; exact o
/-! ### x += e, x -= e -/
def IpD (X : Cx) (RX : RXT) (W : WX) (o : Operator) (op : D → D → Store → Res D) : Prop :=
  ∃ t : TIp, PIp X o t ∧ ∀ (σ : St) (α : AM) (H : Hp) (S : Store) (x y : V) (d e : D) (Q : VK), WR X.prog X.w X.K α H S → RepD X.K α H x d → RepD X.K α H y e → Want X RX W α H σ (op d e S) Q → t x y H Q
theorem id_add : IpD X RX W .Add (pI fun i j => i + j) := ⟨_, ip_add, fun σ α H S x y d e Q wr rx ry o => by
  unfold pI at o
  split at o
  · cases rx; cases ry; exact ⟨_, _, rfl, rfl, o.get wr _ (.int _)⟩
  · exact o.elim⟩
theorem id_sub : IpD X RX W .Sub (pI fun i j => i - j) := ⟨_, ip_sub, fun σ α H S x y d e Q wr rx ry o => by
  unfold pI at o
  split at o
  · cases rx; cases ry; exact ⟨_, _, rfl, rfl, o.get wr _ (.int _)⟩
  · exact o.elim⟩
theorem ds_aug {i : Nat} {x : Str} {e : Expr} {f : FE} {op : D → D → Store → Res D} {o : Operator} {pos' : Pos} (hN : X.N.Nodup) (ho : IpD X RX W o op) (he : DE X RX W e f) (hi : X.N[i]? = some x := by rfl) (hx : Loc X.env.scope x := by first | exact .inl rfl | exact .inr rfl) (hf : X.fn x = true ∨ X.env.scope.names.lookup x = some .local := by first | exact .inl rfl | exact .inr rfl) :
    DS X RX W (.AugAssign (.Name x pos') o e pos) (sAug i op f) := by
  obtain ⟨t, ht, hs⟩ := ho
  refine psW (ps_aug hN hi hx he ht hf) fun D σ H ⟨α, env, S, h, oo⟩ => ?_
  unfold sAug at oo
  split at oo
  · rename_i d e0
    obtain ⟨v, hv, rv⟩ := h.re.get i d e0
    refine ⟨v, hv, tE_lift h oo fun d2 S1 α1 H1 v2 e1 h1 r1 o1 => hs σ α1 H1 S1 v v2 d d2 _ h1.wr (rv.ext e1) r1 (want_set h1 o1)⟩
  · exact oo.elim
end
end G

set_option Elab.async false
set_option linter.all false
set_option autoImplicit false
set_option maxRecDepth 100000
namespace G
open PySem PySem.Spec PyProof.Rows L2
/-! ### dicts whose keys are tuples: plain -/
def keyT : PyData → Option NestedKey
  | .tuple xs => (keyN (.tuple xs)).bind fun k => if k.depth ≤ 8 then some k else none
  | _ => none
def dtGet (kvs : List (PyData × PyData)) (k : NestedKey) : Option PyData := (kvs.find? fun q => decide (keyN q.1 = some k)).map (·.2)
def dtPut (kvs : List (PyData × PyData)) (k : NestedKey) (x y : PyData) : List (PyData × PyData) := if (dtGet kvs k).isSome then kvs.map fun q => if keyN q.1 = some k then (q.1, y) else q else kvs ++ [(x, y)]
def dtOf (S : Store) : D → Option (List (PyData × PyData))
  | .r n => match S[n]? with
    | some (.dt kvs) => some kvs
    | _ => none
  | .z kvs => some kvs
  | _ => none
/-- key in dict -/
def dInT (neg : Bool) : D → D → Store → Res D := fun a b S => match a, dtOf S b with
  | .v x, some kvs => match keyT x with
    | some k => okB (neg != (dtGet kvs k).isSome) S
    | none => .stuck
  | _, _ => .stuck
/-- dict[key] -/
def dIxT : D → D → Store → Res D := fun a b S => match dtOf S a, b with
  | some kvs, .v x => match (keyT x).bind (dtGet kvs) with
    | some y => .ok (.v y) S
    | none => .stuck
  | _, _ => .stuck
/-- dict[key] = e -/
def sSetT (fo fi fe : FE) : FS := fun env S => lift env (fe env S) fun d S1 => match d with
  | .v y => lift env (fo env S1) fun o S2 => (match o with
    | .r n => lift env (fi env S2) fun i S3 => (match i with
      | .v x => (match S3[n]? with
        | some (.dt kvs) => (match keyT x with
          | some k => if kvs.length < 16000000 then .ok (.nx env) (S3.set n (.dt (dtPut kvs k x y))) else .stuck
          | none => .stuck)
        | _ => .stuck)
      | _ => .stuck)
    | _ => .stuck)
  | _ => .stuck
section
variable {X : Cx} {RX : RXT} {W : WX} {α α' : AM} {H H' : Hp} {σ : St} {S S' : Store} {env : DEnv} {pos : Pos} {pins : List (Addr × Obj)} {s : Shared}
mutual
theorem rp_key (I : Inv X pins σ H s) : ∀ {x : PyData} {v : V} {u : Value} {k : NestedKey}, Rp X.K α H v x → RelV v u → keyN x = some k → NestedIs s.heap k u
  | .none, _, _, _, r, q, e => by cases r; cases q; rw [keyN] at e; cases e; exact .none
  | .bool b, _, _, _, r, q, e => by cases r; cases q; rw [keyN] at e; cases e; exact .bool rfl
  | .int i, _, _, _, r, q, e => by cases r; obtain ⟨t, rfl⟩ := q; rw [keyN] at e; cases e; exact .int i t
  | .str z, _, _, _, r, q, e => by cases r; obtain ⟨t, rfl⟩ := q; rw [keyN] at e; cases e; exact .text z t
  | .tuple xs, _, _, _, r, q, e => by
    cases r with
    | tup h rs =>
      cases q
      obtain ⟨its, rv, ⟨o, h1, h2, n, h3⟩, hz⟩ := I.tuple h.sq
      rw [keyN] at e
      obtain ⟨ks, ek, rfl⟩ := Option.map_eq_some_iff.mp e
      exact .tup h1 h2 h3 (by simpa using rp_keys I rs rv ek)
  | .list _, _, _, _, r, q, e => by rw [keyN] at e; cases e
  | .dict _, _, _, _, r, q, e => by rw [keyN] at e; cases e
theorem rp_keys (I : Inv X pins σ H s) : ∀ {xs : List PyData} {vs : List V} {us : List Value} {ks : List NestedKey}, RpL X.K α H vs xs → Vals vs us → keyNs xs = some ks → NestedAll s.heap ks us
  | [], _, _, _, r, q, e => by cases r; cases q; rw [keyNs] at e; cases e; exact .nil
  | x :: xs, _, _, _, r, q, e => by
    cases r with
    | cons r1 rs => cases q with
      | cons q1 qs =>
        rw [keyNs] at e
        split at e
        · rename_i k ks e1 e2
          cases e
          exact .cons (rp_key I r1 q1 e1) (rp_keys I rs qs e2)
        · cases e
end
theorem keyT_is (I : Inv X pins σ H s) {x : PyData} {v : V} {u : Value} {k : NestedKey} (r : Rp X.K α H v x) (q : RelV v u) (e : keyT x = some k) : ∃ a, v = .ref a ∧ u = .ref a ∧ (nestedKind X.prog X.w).is s.heap k a ∧ keyN x = some k ∧ k.depth ≤ 8 := by
  cases x <;> simp only [keyT] at e <;> try cases e
  obtain ⟨k1, e1, e2⟩ := Option.bind_eq_some_iff.mp e
  split at e2
  · rename_i hd
    cases e2
    have n := rp_key I r q e1
    cases r with
    | tup h rs => cases q; exact ⟨_, rfl, rfl, ⟨n, hd⟩, e1, hd⟩
  · cases e2
/-- the dict behind a cell -/
theorem dt_keyed (I : Inv X pins σ H s) {a : Addr} {kvs : List (PyData × PyData)} (h : CellRep X.prog X.w X.K α H a (.dt kvs)) : (a == sysModules) = false ∧ kvs.length ≤ sizeLine ∧ ∃ xs : List (NestedKey × Addr × Value), s.heap.DictOfH (nestedKind X.prog X.w) a xs ∧
    Paired (fun (x : NestedKey × Addr × Value) (q : PyData × PyData) => keyN q.1 = some x.1 ∧ x.1.depth ≤ 8 ∧ Rp X.K α H (.ref x.2.1) q.1 ∧ ∃ v, RelV v x.2.2 ∧ Rp X.K α H v q.2) xs kvs := by
  obtain ⟨o, es, ep, xs, h0, h1, h2, h3, h4, h5, h6, r⟩ := h
  have ok := I.hok a _ h0
  have ho : s.heap.get? a = some o := ok.1
  refine ⟨h1, h6, xs, ⟨o, es, ep, ho, h2, h3, h4, fun x hx => ?_, h5⟩, r⟩
  have : ∀ {xs : List (NestedKey × Addr × Value)} {kvs : List (PyData × PyData)}, Paired (fun (x : NestedKey × Addr × Value) (q : PyData × PyData) => keyN q.1 = some x.1 ∧ x.1.depth ≤ 8 ∧ Rp X.K α H (.ref x.2.1) q.1 ∧ ∃ v, RelV v x.2.2 ∧ Rp X.K α H v q.2) xs kvs → ∀ x ∈ xs, (nestedKind X.prog X.w).is s.heap x.1 x.2.1 := by
    intro xs kvs h
    induction h with
    | nil => intro x hx; cases hx
    | cons r _ ih => intro x hx; rcases List.mem_cons.mp hx with rfl | hx
                     · exact ⟨rp_key I r.2.2.1 rfl r.1, r.2.1⟩
                     · exact ih x hx
  exact this r x hx
theorem dt_at {xs : List (NestedKey × Addr × Value)} {kvs : List (PyData × PyData)} (k : NestedKey) (r : Paired (fun (x : NestedKey × Addr × Value) (q : PyData × PyData) => keyN q.1 = some x.1 ∧ x.1.depth ≤ 8 ∧ Rp X.K α H (.ref x.2.1) q.1 ∧ ∃ v, RelV v x.2.2 ∧ Rp X.K α H v q.2) xs kvs) :
    (dtGet kvs k = none ∧ atKey xs k = none) ∨ ∃ y p v, dtGet kvs k = some y ∧ atKey xs k = some p ∧ RelV v p.2 ∧ Rp X.K α H v y := by
  induction r with
  | nil => exact .inl ⟨rfl, rfl⟩
  | @cons x q xs kvs r _ ih =>
    obtain ⟨r1, _, _, v, r3, r4⟩ := r
    by_cases e : x.1 = k
    · refine .inr ⟨q.2, x.2, v, ?_, ?_, r3, r4⟩
      · simp [dtGet, r1, e]
      · simp [atKey, e]
    · have e2 : ¬ keyN q.1 = some k := fun z => by rw [r1] at z; exact e (Option.some.inj z)
      rcases ih with ⟨i1, i2⟩ | ⟨y, p, v, i1, i2, i3⟩
      · exact .inl ⟨by simpa [dtGet, e2] using i1, by simpa [atKey, e] using i2⟩
      · exact .inr ⟨y, p, v, by simpa [dtGet, e2] using i1, by simpa [atKey, e] using i2, i3⟩
theorem dtOf_at (wr : WR X.prog X.w X.K α H S) {v : V} {d : D} {kvs : List (PyData × PyData)} (r : RepD X.K α H v d) (e : dtOf S d = some kvs) : ∃ a, v = .ref a ∧ CellRep X.prog X.w X.K α H a (.dt kvs) := by
  cases d with
  | v x => cases e
  | k xs => cases e
  | g lo hi => cases e
  | y kvs => cases e
  | z kvs =>
    cases e
    obtain ⟨a, h1, h2, _⟩ := r
    rw [wr.pw] at h2
    exact ⟨a, h1, h2⟩
  | r n =>
    simp only [dtOf] at e
    cases hc : S[n]? with
    | none => rw [hc] at e; cases e
    | some c =>
      rw [hc] at e
      cases c <;> cases e
      obtain ⟨a, h1, h2, h3⟩ := cell_at wr r hc (by intro z; cases z)
      exact ⟨a, h1, h3⟩
/-! ### in, not in -/
theorem od_inT (hu : X.A.units + 64 < cLine) : OpD X RX W (compareOp .In) (dInT false) := by
  intro pins s σ α H S x y v u d e Q I rx ry wr r1 r2 o
  unfold dInT at o
  split at o
  · rename_i z kvs hk
    split at o
    · rename_i k ek
      obtain ⟨a, rfl, hc⟩ := dtOf_at wr r2 hk
      obtain ⟨b, rfl, rfl, hkey, _⟩ := keyT_is I r1 rx ek
      cases ry
      obtain ⟨hd, hz, xs, hm, rr⟩ := dt_keyed I hc
      refine wpAny_in_heap (knd := nestedKind X.prog X.w) (by show X.A.units + 1 + 8 < cLine; omega) hkey hd hm ⟨.bl _, H, I.tok _, rfl, ?_⟩
      have : (atKey xs k).isSome = (dtGet kvs k).isSome := by
        rcases dt_at k rr with ⟨h1, h2⟩ | ⟨_, _, _, h1, h2, _⟩ <;> rw [h1, h2] <;> rfl
      rw [this]
      have := o.get wr _ (.bl _)
      simpa using this
    · exact o.elim
  · exact o.elim
theorem od_notInT (hu : X.A.units + 64 < cLine) : OpD X RX W (compareOp .NotIn) (dInT true) := by
  intro pins s σ α H S x y v u d e Q I rx ry wr r1 r2 o
  unfold dInT at o
  split at o
  · rename_i z kvs hk
    split at o
    · rename_i k ek
      obtain ⟨a, rfl, hc⟩ := dtOf_at wr r2 hk
      obtain ⟨b, rfl, rfl, hkey, _⟩ := keyT_is I r1 rx ek
      cases ry
      obtain ⟨hd, hz, xs, hm, rr⟩ := dt_keyed I hc
      show wpAny _ _ (do return Value.bool (!(← contains (.ref a) (.ref b)))) _ _ s
      refine wpAny_bind (wpAny_contains_heap (knd := nestedKind X.prog X.w) (by show X.A.units + 1 + 8 < cLine; omega) hkey hd hm (wpAny_pure ⟨.bl _, H, I.tok _, rfl, ?_⟩))
      have : (atKey xs k).isSome = (dtGet kvs k).isSome := by
        rcases dt_at k rr with ⟨h1, h2⟩ | ⟨_, _, _, h1, h2, _⟩ <;> rw [h1, h2] <;> rfl
      rw [this]
      have := o.get wr _ (.bl _)
      simpa using this
    · exact o.elim
  · exact o.elim
/-! ### dict[key] -/
theorem de_ixT {a b : Expr} {f g : FE} (hu : X.A.units + 64 < cLine) (ha : DE X RX W a f) (hb : DE X RX W b g) (hs : NoSl b := by intro _ _; rfl) : DE X RX W (.Subscript a b pos) (dBin dIxT f g) := by
  refine ⟨fun pins s σ H Q I ⟨α, env, S, h, o⟩ => ?_⟩
  refine subD_of PySem.F.slot_dict_getitem.lookup hs ?_
  refine thn (ha.run pins s σ H (fun x H1 => ∃ d S1 α1, Ext α H α1 H1 ∧ Here X α1 H1 σ env S1 ∧ RepD X.K α1 H1 x d ∧ Want X RX W α1 H1 σ ((g env S1).bind fun b S2 => dIxT d b S2) Q) I (tE_seq h o fun d S1 α1 H1 v e1 h1 r1 o1 => ⟨d, S1, α1, e1, h1, r1, o1⟩)) fun v s1 ⟨x, H1, I1, rx, d, S1, α1, e1, h1, r1, o1⟩ => ?_
  refine thn (hb.run pins s1 σ H1 (fun y H2 => ∃ e S2 α2, Ext α1 H1 α2 H2 ∧ Here X α2 H2 σ env S2 ∧ RepD X.K α2 H2 y e ∧ Want X RX W α2 H2 σ (dIxT d e S2) Q) I1 (tE_seq h1 o1 fun e S2 α2 H2 y e2 h2 r2 o2 => ⟨e, S2, α2, e2, h2, r2, o2⟩)) fun u s2 ⟨y, H2, I2, ry, e, S2, α2, e2, h2, r2, o2⟩ => ?_
  have r1 := r1.ext e2
  unfold dIxT at o2
  split at o2
  · rename_i kvs z hk
    split at o2
    · rename_i w hw
      obtain ⟨k, ek, hg⟩ := Option.bind_eq_some_iff.mp hw
      obtain ⟨c, rfl, hc⟩ := dtOf_at h2.wr r1 hk
      obtain ⟨b, rfl, rfl, hkey, _⟩ := keyT_is I2 r2 ry ek
      cases rx
      obtain ⟨hd, hz, xs, hm, rr⟩ := dt_keyed I2 hc
      rcases dt_at k rr with ⟨h3, _⟩ | ⟨y, p, v, h3, h4, h5, h6⟩
      · rw [h3] at hg; cases hg
      · rw [h3] at hg; cases hg
        refine ⟨hm.typeIs, wpAny_getItem_heap (knd := nestedKind X.prog X.w) (by show X.A.units + 1 + 8 < cLine; omega) hkey hm h4 ⟨v, H2, I2.tok _, h5, o2.get h2.wr _ h6⟩⟩
    · exact o2.elim
  · exact o2.elim
/-! ### dict[key] = e -/
theorem pair_put {xs : List (NestedKey × Addr × Value)} {kvs : List (PyData × PyData)} {k : NestedKey} {b : Addr} {x y : PyData} {v : V} {u : Value} (ek : keyN x = some k) (hd : k.depth ≤ 8) (rb : Rp X.K α H (.ref b) x) (rv : RelV v u) (ry : Rp X.K α H v y)
    (r : Paired (fun (x : NestedKey × Addr × Value) (q : PyData × PyData) => keyN q.1 = some x.1 ∧ x.1.depth ≤ 8 ∧ Rp X.K α H (.ref x.2.1) q.1 ∧ ∃ v, RelV v x.2.2 ∧ Rp X.K α H v q.2) xs kvs) :
    Paired (fun (x : NestedKey × Addr × Value) (q : PyData × PyData) => keyN q.1 = some x.1 ∧ x.1.depth ≤ 8 ∧ Rp X.K α H (.ref x.2.1) q.1 ∧ ∃ v, RelV v x.2.2 ∧ Rp X.K α H v q.2) (storedH xs k b u) (dtPut kvs k x y) := by
  have hs : (atKey xs k).isSome = (dtGet kvs k).isSome := by
    rcases dt_at k r with ⟨h1, h2⟩ | ⟨_, _, _, h1, h2, _⟩ <;> rw [h1, h2] <;> rfl
  have h1 : Paired (fun (x : NestedKey × Addr × Value) (q : PyData × PyData) => keyN q.1 = some x.1 ∧ x.1.depth ≤ 8 ∧ Rp X.K α H (.ref x.2.1) q.1 ∧ ∃ v, RelV v x.2.2 ∧ Rp X.K α H v q.2) (xs.map (putAt k u)) (kvs.map fun q => if keyN q.1 = some k then (q.1, y) else q) := by
    clear hs
    induction r with
    | nil => exact .nil
    | @cons p q xs kvs r _ ih =>
      refine .cons ?_ ih
      obtain ⟨r1, r2, r3, w, r4, r5⟩ := r
      by_cases e : p.1 = k
      · have e2 : keyN q.1 = some k := by rw [r1, e]
        simp only [putAt, if_pos e, if_pos e2]; exact ⟨r1, r2, r3, v, rv, ry⟩
      · have e2 : ¬ keyN q.1 = some k := fun z => by rw [r1] at z; exact e (Option.some.inj z)
        simp only [putAt, if_neg e, if_neg e2]; exact ⟨r1, r2, r3, w, r4, r5⟩
  have h2 : Paired (fun (x : NestedKey × Addr × Value) (q : PyData × PyData) => keyN q.1 = some x.1 ∧ x.1.depth ≤ 8 ∧ Rp X.K α H (.ref x.2.1) q.1 ∧ ∃ v, RelV v x.2.2 ∧ Rp X.K α H v q.2) (xs ++ [(k, b, u)]) (kvs ++ [(x, y)]) := by
    clear hs h1
    induction r with
    | nil => exact .cons ⟨ek, hd, rb, v, rv, ry⟩ .nil
    | cons r _ ih => exact .cons r ih
  unfold storedH dtPut
  rw [hs]
  split
  · exact h1
  · exact h2
theorem pair_keep {xs : List (NestedKey × Addr × Value)} {kvs : List (PyData × PyData)} (k : Keep α H α' H') (r : Paired (fun (x : NestedKey × Addr × Value) (q : PyData × PyData) => keyN q.1 = some x.1 ∧ x.1.depth ≤ 8 ∧ Rp X.K α H (.ref x.2.1) q.1 ∧ ∃ v, RelV v x.2.2 ∧ Rp X.K α H v q.2) xs kvs) :
    Paired (fun (x : NestedKey × Addr × Value) (q : PyData × PyData) => keyN q.1 = some x.1 ∧ x.1.depth ≤ 8 ∧ Rp X.K α' H' (.ref x.2.1) q.1 ∧ ∃ v, RelV v x.2.2 ∧ Rp X.K α' H' v q.2) xs kvs :=
  Paired.mapP r fun _ _ ⟨a, b, c, v, d, e⟩ => ⟨a, b, c.keep k, v, d, e.keep k⟩
theorem dtPut_len (kvs : List (PyData × PyData)) (k : NestedKey) (x y : PyData) : (dtPut kvs k x y).length ≤ kvs.length + 1 := by
  unfold dtPut
  split <;> simp
def rSetT (X : Cx) : TSet := fun o i v H Q => ∃ (α : AM) (S : Store) (n : Nat) (kvs : List (PyData × PyData)) (k : NestedKey) (x y : PyData), WR X.prog X.w X.K α H S ∧ RepD X.K α H o (.r n) ∧ S[n]? = some (.dt kvs) ∧ Rp X.K α H i x ∧ keyT x = some k ∧ Rp X.K α H v y ∧ kvs.length < 16000000 ∧
  ∀ a o', α.c[n]? = some (some a) → CellRep X.prog X.w X.K α (upd H a (exactO a o')) a (.dt (dtPut kvs k x y)) → Q (upd H a (exactO a o'))
theorem set_dt (hu : X.A.units + 64 < cLine) : PSet X (rSetT X) := by
  intro pins s σ H o i v ov iv u Q I ro ri rv ⟨α, S, n, kvs, k, x, y, wr, hr, hS, rx, ek, ry, hl, q⟩
  obtain ⟨a, rfl, ha, hc⟩ := cell_at wr hr hS (by intro z; cases z)
  obtain ⟨b, rfl, rfl, hkey, ek2, hd8⟩ := keyT_is I rx ri ek
  cases ro
  obtain ⟨hd, hz, xs, hm, rr⟩ := dt_keyed I hc
  have hlen : xs.length = kvs.length := Paired.length rr
  refine wpAny_setItem_heap (knd := nestedKind X.prog X.w) (hsz := by rw [hlen]; exact hz) (by show X.A.units + 1 + 8 < cLine; omega) hkey hm fun h' hm' hs => ?_
  obtain ⟨o', es, ep, h1, h2, h3, h4, h5, h6⟩ := hm'
  have kp : Keep α H α (upd H a (exactO a o')) := (Ext.write wr ha).keep
  have hcell : CellRep X.prog X.w X.K α (upd H a (exactO a o')) a (.dt (dtPut kvs k x y)) :=
    ⟨o', es, ep, _, upd_same, hd, h2, h3, h4, h6, by have := dtPut_len kvs k x y; rw [sizeLine_eq]; omega, pair_keep kp (pair_put ek2 hd8 rx rv ry rr)⟩
  refine ⟨_, d_write I ?_ hs ⟨_, h1⟩ ?_, q a o' ha hcell⟩
  · obtain ⟨o0, _, _, _, h0, _⟩ := hc
    rw [h0]; trivial
  · exact ⟨h1, ⟨o', h1⟩, fun p q e1 e2 => e2 _ e1⟩
theorem ds_setT {o i e : Expr} {fo fi fe : FE} {pos' : Pos} (hu : X.A.units + 64 < cLine) (ho : DE X RX W o fo) (hi : DE X RX W i fi) (he : DE X RX W e fe)
    (ha : ∀ v, assign (.Subscript o i pos') X.env v = (do
      let ov ← holding [v] (eval o X.env)
      let iv ← holding [v, ov] (eval i X.env)
      standAt pos'
      holding [v, ov, iv] (setItem ov iv v)
      release [v, ov, iv] []) := by intro _; rfl)
    (hs : swapsWithSole [.Subscript o i pos'] e pos.line X.env = pure false := by rfl) (hw : swappedStores [.Subscript o i pos'] e X.env = pure none := by rfl)
    (h1 : (assignEach [.Subscript o i pos'] X.env).map (·.2) = [assign (.Subscript o i pos') X.env] := by rfl) : DS X RX W (.Assign [.Subscript o i pos'] e pos) (sSetT fo fi fe) :=
  psW (ps_asg he (pg_sub ho hi (set_dt hu) ha) hs hw h1) fun D σ H ⟨α, env, S, h, oo⟩ => tE_lift h oo fun d S1 α1 H1 v e1 h1 r1 o1 => by
    cases d with
    | r n => exact o1.elim
    | k n => exact o1.elim
    | g lo hi => exact o1.elim
    | z kvs => exact o1.elim
    | y kvs => exact o1.elim
    | v y =>
      refine tE_lift h1 o1 fun d2 S2 α2 H2 v2 e2 h2 r2 o2 => ?_
      cases d2 with
      | v y => exact o2.elim
      | k y => exact o2.elim
      | g lo hi => exact o2.elim
      | z kvs => exact o2.elim
      | y kvs => exact o2.elim
      | r n =>
        refine tE_lift h2 o2 fun d3 S3 α3 H3 v3 e3 h3 r3 o3 => ?_
        have r1 := (Rp.ext e3 (Rp.ext e2 r1))
        have r2 := r2.ext e3
        split at o3
        · rename_i x
          split at o3
          · rename_i kvs hc
            split at o3
            · rename_i k hk
              split at o3
              · rename_i hl
                refine ⟨α3, S3, n, kvs, k, x, y, h3.wr, r2, hc, r3, hk, r1, hl, fun a o' ha hcell => ?_⟩
                have ew := Ext.write (o := exactO a o') h3.wr ha
                exact o3 α3 _ σ ew ⟨h3.re.ext ew, h3.wr.write ha hcell⟩
              · exact o3.elim
            · exact o3.elim
          · exact o3.elim
        · exact o3.elim
/-! ### {} -/
theorem de_newT : DE X RX W (.Dict [] [] pos) dNewT := ⟨fun pins s σ H Q I ⟨α, env, S, h, o⟩ => wpAny_Dict_empty (by
  have hp : H s.heap.objs.size = none := I.hok.fresh (Nat.le_refl _)
  let ob : Obj := { cls := .type "dict", data := .dict #[] }
  have hg : (s.heap.push ob).get? s.heap.objs.size = some ob := Heap.get?_push_size _ rfl
  have I1 : Inv X pins σ (upd H s.heap.objs.size (exactO s.heap.objs.size ob)) { s with heap := s.heap.push ob } := I.laid (fun _ _ q => Heap.get?_push_of_some _ q) (Nat.le_refl _) ⟨hg, ⟨_, hg⟩, fun p q e1 e2 => e2 _ e1⟩
  refine ⟨.ref s.heap.objs.size, _, I1, rfl, ?_⟩
  refine o (α.push _) _ (Ext.alloc h.wr hp) (h.wr.alloc hp ⟨ob, #[], 0, [], upd_same, ?_, ?_, rfl, rfl, .nil, Nat.zero_le _, .nil⟩) _ ⟨by show _ < (α.c ++ [some _]).length; rw [List.length_append, h.wr.len]; simp, by rw [← h.wr.len]; exact ref_last⟩
  · exact beq_eq_false_iff_ne.mpr (Ne.symm (Nat.ne_of_lt I.big))
  · exact ⟨rfl, rfl, rfl⟩)⟩
end
end G

set_option Elab.async false
set_option linter.all false
set_option autoImplicit false
set_option maxRecDepth 100000
namespace G
open PySem PySem.Spec PyProof.Rows L2
/-! ### plain -/
def dIsB (neg : Bool) : D → D → Store → Res D
  | .v (.bool a), .v (.bool b), S => okB (neg != decide (a = b)) S
  | _, _, _ => .stuck
def rangeC (lo c : Int) (n : Nat) : List PyData := (List.range n).map fun i => .int (lo + (i : Nat) * c)
def iRange3 (f g h : FE) : FI := fun env S => (f env S).bind fun d S1 => (g env S1).bind fun e S2 => (h env S2).bind fun k S3 => match d, e, k with
  | .v (.int i), .v (.int j), .v (.int c) => if c ≠ 0 ∧ c.natAbs < 1073741824 ∧ Builtin.Range.small i j c = true ∧ 0 ≤ Builtin.Range.rangeSize i j c ∧ Builtin.Range.rangeSize i j c ≤ 16000000 then .ok (rangeC i c (Builtin.Range.rangeSize i j c).toNat) S3 else .stuck
  | _, _, _ => .stuck
/-- xs[::-1] -/
def dRev (f : FE) : FE := fun env S => (f env S).bind fun d S1 => match listOf S1 d with
  | some xs => .ok (.v (.list xs.reverse)) S1
  | none => .stuck
def dRevC (f : FE) : FE := fun env S => (f env S).bind fun d S1 => match listOf S1 d with
  | some xs => .ok (.r S1.length) (S1 ++ [.lst xs.reverse])
  | none => .stuck
/-- x[i] op= e, x a list in a cell -/
def sAugIx (fo fi : FE) (op : D → D → Store → Res D) (fe : FE) : FS := fun env S => lift env (fo env S) fun o S1 => match o with
  | .r n => lift env (fi env S1) fun i S2 => (match i with
    | .v (.int k) => (match S2[n]? with
      | some (.lst xs) => (match atI xs k with
        | some x => lift env (fe env S2) fun e S3 => (match op (.v x) e S3 with
          | .ok (.v y) S4 => (match S4[n]? with
            | some (.lst zs) => (match ixN zs.length k with | some j => .ok (.nx env) (S4.set n (.lst (zs.set j y))) | none => .stuck)
            | _ => .stuck)
          | _ => .stuck)
        | none => .stuck)
      | _ => .stuck)
    | _ => .stuck)
  | _ => .stuck
section
variable {X : Cx} {RX : RXT} {W : WX} {α α' : AM} {H H' : Hp} {σ : St} {S S' : Store} {env : DEnv} {pos : Pos} {tg : Expr}
theorem od_isB : OpD X RX W (compareOp .Is) (dIsB false) := .of op_isBl fun σ α H S x y d e Q wr rx ry o => by
  unfold dIsB at o
  split at o
  · cases rx; cases ry
    refine ⟨_, _, rfl, rfl, ?_⟩
    have := o.get wr _ (.bl _)
    simpa using this
  · exact o.elim
theorem iter_rangeC (lo c : Int) (n : Nat) : IterOk X (Itc lo c n) (rangeC lo c n) α H := fun α' H' e _ => by
  have hl : (rangeC lo c n).length = n := by simp [rangeC]
  refine ⟨fun i x hx => ?_, by rw [hl]; exact Nat.le_refl _⟩
  have hi : i < n := by rw [← hl]; exact (List.getElem?_eq_some_iff.mp hx).1
  refine ⟨hi, fun v H'' ⟨e1, e2⟩ => ?_⟩
  subst e1 e2
  refine ⟨?_, .inl rfl⟩
  unfold rangeC at hx
  rw [List.getElem?_map, List.getElem?_range hi] at hx
  cases hx
  exact .int _
theorem di_range3 {a b c : Expr} {f g k : FE} {p : Pos} (hg : Gl X "range") (hm : X.mg "range" = none) (ha : DE X RX W a f) (hb : DE X RX W b g) (hc : DE X RX W c k) (hs : starEach [a, b, c] X.env = (false, eval a X.env) :: starEach [b, c] X.env := by rfl)
    (hs2 : starEach [b, c] X.env = (false, eval b X.env) :: starEach [c] X.env := by rfl) (hs3 : starEach [c] X.env = (false, eval c X.env) :: starEach [] X.env := by rfl) (hpl : (backTo pos (starEach [b, c] X.env)).any (·.1) = false := by rfl) :
    DI X RX W tg (.Call (.Name "range" p) [a, b, c] [] pos) (iRange3 f g k) :=
  piW (pi_range3 hg hm (pa_cons ha (pa_cons hb (pa_cons hc pa_nil hs3) hs2) hs) hs hpl) fun σ H R ⟨α, env, S, h, o⟩ => tE_seq h o fun d S1 α1 H1 v e1 h1 r1 o1 => tE_seq h1 o1 fun e S2 α2 H2 u e2 h2 r2 o2 => tE_seq h2 o2 fun z S3 α3 H3 w e3 h3 r3 o3 => by
    split at o3
    · cases r1; cases r2; cases r3
      split at o3
      · rename_i hr
        exact ⟨_, _, _, _, rfl, ⟨hr.1, hr.2.1, hr.2.2.1, (Int.toNat_of_nonneg hr.2.2.2.1).symm⟩, o3.get h3.wr _ (iter_rangeC _ _ _)⟩
      · exact o3.elim
    · exact o3.elim
theorem de_rev {e : Expr} {f : FE} {k : Nat} {p1 p2 p3 : Pos} (he : DE X RX W e f) : DE X RX W (.Subscript e (.Slice none none (some (.UnaryOp .USub (.Constant (.int 1) k p1) p2)) p3) pos) (dRev f) :=
  peW (pe_revL he) fun σ H Q ⟨α, env, S, h, o⟩ => tE_seq h o fun d S1 α1 H1 v e1 h1 r1 o1 => by
    split at o1
    · rename_i xs hx
      obtain ⟨a, vs, rfl, h2, q⟩ := list_at h1.wr r1 hx
      exact ⟨a, vs, rfl, .inl h2, fun p hp => o1.newL h1.wr q.reverse hp⟩
    · exact o1.elim
theorem de_revC {e : Expr} {f : FE} {k : Nat} {p1 p2 p3 : Pos} (he : DE X RX W e f) : DE X RX W (.Subscript e (.Slice none none (some (.UnaryOp .USub (.Constant (.int 1) k p1) p2)) p3) pos) (dRevC f) :=
  peW (pe_revL he) fun σ H Q ⟨α, env, S, h, o⟩ => tE_seq h o fun d S1 α1 H1 v e1 h1 r1 o1 => by
    split at o1
    · rename_i xs hx
      obtain ⟨a, vs, rfl, h2, q⟩ := list_at h1.wr r1 hx
      exact ⟨a, vs, rfl, .inl h2, fun p hp => o1.newC h1.wr q.reverse hp⟩
    · exact o1.elim
/-! ### x[i] op= e -/
/-- what the three steps need: a list is read, changed, written -/
def rGetL (X : Cx) : V → V → Hp → VK → Prop := fun o i H Q => ∃ p xs k v, o = .ref p ∧ i = .int k ∧ H p = some (.lst xs) ∧ atI xs k = some v ∧ Q v H
theorem get_lst : PGet X (rGetL X) := by
  intro pins s σ H o i ov iv Q I ro ri ⟨p, xs, k, v, e1, e2, hp, hv, q⟩
  subst e1 e2
  cases ro
  obtain ⟨t, rfl⟩ := ri
  obtain ⟨z, its, n, r, hl, ho⟩ := I.lstM hp
  obtain ⟨j, h1, h2, h3, h4, h5⟩ := atI_get hv
  obtain ⟨w, ew, rw'⟩ := r.get h2
  have hn := line63
  have hL : s.heap.IsList p its.toArray := ⟨_, ho, rfl, n, rfl⟩
  by_cases h0 : 0 ≤ k
  · have hj : k.toNat = j := by
      rw [seqIndex_of h0 h5] at h1
      exact Option.some.inj h1
    exact wpAny_getItem_list (Q := fun r s' => EP X pins σ Q r s') hL h0 (by omega) (by rw [hj]; simpa using ew) ⟨v, H, I, rw', q⟩
  · have hj : (k + (its.toArray.size : Int)).toNat = j := by
      rw [seqIndex_neg (by omega) h4] at h1
      rw [List.size_toArray, ← hl]
      exact Option.some.inj h1
    exact wpAny_getItem_list_neg (Q := fun r s' => EP X pins σ Q r s') hL (by omega) (by rw [List.size_toArray] <;> omega) (by omega) (by rw [hj]; simpa using ew) ⟨v, H, I, rw', q⟩
theorem ds_augIx {o i e : Expr} {fo fi fe : FE} {op : D → D → Store → Res D} {oo : Operator} {tpos : Pos} (hop : IpD X RX W oo op) (ho : DE X RX W o fo) (hi : DE X RX W i fi) (he : DE X RX W e fe)
    (ha : ∀ ov iv new, augStore i ov iv new = (do holding [new, ov, iv] (setItem ov iv new); release [new, ov, iv] []; pure .next) := by intros; rfl) :
    DS X RX W (.AugAssign (.Subscript o i tpos) oo e pos) (sAugIx fo fi op fe) := by
  obtain ⟨t, ht, hs⟩ := hop
  refine psW (ps_augS ho hi get_lst he ht set_list ha) fun D σ H ⟨α, env, S, h, o⟩ => tE_lift h o fun d S1 α1 H1 v e1 h1 r1 o1 => ?_
  cases d with
  | v x => exact o1.elim
  | k x => exact o1.elim
  | g lo hi => exact o1.elim
  | z kvs => exact o1.elim
  | y kvs => exact o1.elim
  | r n =>
    refine tE_lift h1 o1 fun d2 S2 α2 H2 v2 e2 h2 r2 o2 => ?_
    have r1 := r1.ext e2
    split at o2
    · rename_i k
      cases r2
      split at o2
      · rename_i xs hc
        split at o2
        · rename_i x hx
          obtain ⟨a, rfl, ha, vs, hl, q⟩ := cell_at h2.wr r1 hc (by intro z; cases z)
          obtain ⟨u, eu, ru⟩ := atI_rep q hx
          refine ⟨a, vs, k, u, rfl, rfl, hl, eu, tE_lift h2 o2 fun d3 S3 α3 H3 v3 e3 h3 r3 o3 => ?_⟩
          refine hs σ α3 H3 S3 u v3 (.v x) d3 _ h3.wr (Rp.ext e3 ru) r3 ?_
          split at o3
          · rename_i y S4 ho4
            rw [ho4]
            intro α4 H4 e4 w4 z rz
            split at o3
            · rename_i zs hc4
              split at o3
              · rename_i j hj
                have r4 := (r1.ext e3).ext e4
                obtain ⟨b, eb, hb, ws, hl4, q4⟩ := cell_at w4 r4 hc4 (by intro z; cases z)
                cases eb
                have ew := Ext.write (o := .lst (ws.set j z)) w4 hb
                refine ⟨a, ws, k, j, rfl, rfl, hl4, by rw [q4.length]; exact hj, ?_⟩
                exact OkS.ext o3 e4 α4 _ σ ew ⟨(h3.ext X e4 w4).re.ext ew, w4.write hb ⟨_, upd_same, (q4.set rz j).ext ew⟩⟩
              · exact o3.elim
            · exact o3.elim
          · exact o3.elim
        · exact o2.elim
      · exact o2.elim
    · exact o2.elim
end
end G

set_option Elab.async false
set_option linter.all false
set_option autoImplicit false
set_option maxRecDepth 100000
namespace G
open PySem PySem.Spec PyProof.Rows L2
/-! ### dicts whose keys are ints and strs: plain -/
def dkGet (kvs : List (Key × PyData)) (k : Key) : Option PyData := (kvs.find? fun q => decide (q.1 = k)).map (·.2)
def dkPut (kvs : List (Key × PyData)) (k : Key) (y : PyData) : List (Key × PyData) := if (dkGet kvs k).isSome then kvs.map fun q => if q.1 = k then (q.1, y) else q else kvs ++ [(k, y)]
def dkOf (S : Store) : D → Option (List (Key × PyData))
  | .r n => match S[n]? with
    | some (.dk kvs) => some kvs
    | _ => none
  | _ => none
def dInK (neg : Bool) : D → D → Store → Res D := fun a b S => match a, dkOf S b with
  | .v x, some kvs => match keyA x with
    | some k => okB (neg != (dkGet kvs k).isSome) S
    | none => .stuck
  | _, _ => .stuck
def dIxK : D → D → Store → Res D := fun a b S => match dkOf S a, b with
  | some kvs, .v x => match (keyA x).bind (dkGet kvs) with
    | some y => .ok (.v y) S
    | none => .stuck
  | _, _ => .stuck
def sSetK (fo fi fe : FE) : FS := fun env S => lift env (fe env S) fun d S1 => match d with
  | .v y => lift env (fo env S1) fun o S2 => (match o with
    | .r n => lift env (fi env S2) fun i S3 => (match i with
      | .v x => (match S3[n]? with
        | some (.dk kvs) => (match keyA x with
          | some k => if kvs.length < 16000000 then .ok (.nx env) (S3.set n (.dk (dkPut kvs k y))) else .stuck
          | none => .stuck)
        | _ => .stuck)
      | _ => .stuck)
    | _ => .stuck)
  | _ => .stuck
section
variable {X : Cx} {RX : RXT} {W : WX} {α α' : AM} {H H' : Hp} {σ : St} {S S' : Store} {env : DEnv} {pos : Pos} {pins : List (Addr × Obj)} {s : Shared}
abbrev KP (K : PySem.W.Frag) (α : AM) (H : Hp) := Paired (fun (p : Key × V) (q : Key × PyData) => p.1 = q.1 ∧ Rp K α H p.2 q.2)
theorem keyA_v {x : PyData} {v : V} {k : Key} (r : Rp X.K α H v x) (e : keyA x = some k) : v = kV k := by
  cases x <;> simp only [keyA] at e <;> cases e <;> cases r <;> rfl
theorem dk_at {kv : List (Key × V)} {kvs : List (Key × PyData)} (k : Key) (r : KP X.K α H kv kvs) : (dkGet kvs k = none ∧ valV kv k = none) ∨ ∃ y v, dkGet kvs k = some y ∧ valV kv k = some v ∧ Rp X.K α H v y := by
  induction r with
  | nil => exact .inl ⟨rfl, rfl⟩
  | @cons p q kv kvs r _ ih =>
    obtain ⟨r1, r2⟩ := r
    by_cases e : p.1 = k
    · exact .inr ⟨q.2, p.2, by simp [dkGet, ← r1, e], by simp [valV, e], r2⟩
    · have e2 : ¬ q.1 = k := fun z => e (r1.trans z)
      rcases ih with ⟨i1, i2⟩ | ⟨y, v, i1, i2, i3⟩
      · exact .inl ⟨by simpa [dkGet, e2] using i1, by simpa [valV, e] using i2⟩
      · exact .inr ⟨y, v, by simpa [dkGet, e2] using i1, by simpa [valV, e] using i2, i3⟩
theorem dk_put {kv : List (Key × V)} {kvs : List (Key × PyData)} {k : Key} {v : V} {y : PyData} (ry : Rp X.K α H v y) (r : KP X.K α H kv kvs) : KP X.K α H (putK kv k v) (dkPut kvs k y) := by
  have hs : (kv.any fun p => decide (p.1 = k)) = (dkGet kvs k).isSome := by
    rw [valV_any]
    rcases dk_at k r with ⟨h1, h2⟩ | ⟨_, _, h1, h2, _⟩ <;> rw [h1, h2] <;> rfl
  have h1 : KP X.K α H (kv.map fun p => if p.1 = k then (p.1, v) else p) (kvs.map fun q => if q.1 = k then (q.1, y) else q) := by
    clear hs
    induction r with
    | nil => exact .nil
    | @cons p q kv kvs r _ ih =>
      refine .cons ?_ ih
      obtain ⟨r1, r2⟩ := r
      by_cases e : p.1 = k
      · have e2 : q.1 = k := r1.symm.trans e
        simp only [if_pos e, if_pos e2]; exact ⟨r1, ry⟩
      · have e2 : ¬ q.1 = k := fun z => e (r1.trans z)
        simp only [if_neg e, if_neg e2]; exact ⟨r1, r2⟩
  have h2 : KP X.K α H (kv ++ [(k, v)]) (kvs ++ [(k, y)]) := by
    clear hs h1
    induction r with
    | nil => exact .cons ⟨rfl, ry⟩ .nil
    | cons r _ ih => exact .cons r ih
  unfold putK dkPut
  rw [← hs]
  split
  · exact h1
  · exact h2
theorem dkOf_at (wr : WR X.prog X.w X.K α H S) {v : V} {d : D} {kvs : List (Key × PyData)} (r : RepD X.K α H v d) (e : dkOf S d = some kvs) : ∃ n a kv, d = .r n ∧ v = .ref a ∧ α.c[n]? = some (some a) ∧ H a = some (.dK kv) ∧ KP X.K α H kv kvs ∧ S[n]? = some (.dk kvs) := by
  cases d with
  | v x => cases e
  | k xs => cases e
  | g lo hi => cases e
  | z kvs => cases e
  | y kvs => cases e
  | r n =>
    simp only [dkOf] at e
    cases hc : S[n]? with
    | none => rw [hc] at e; cases e
    | some c =>
      rw [hc] at e
      cases c <;> cases e
      obtain ⟨a, h1, h2, kv, h3, h4⟩ := cell_at wr r hc (by intro z; cases z)
      exact ⟨n, a, kv, rfl, h1, h2, h3, h4, hc⟩
theorem od_inK (hu : X.A.units + 64 < cLine) : OpD X RX W (compareOp .In) (dInK false) := by
  intro pins s σ α H S x y v u d e Q I rx ry wr r1 r2 o
  unfold dInK at o
  split at o
  · rename_i z kvs hk
    split at o
    · rename_i k ek
      obtain ⟨n, a, kv, rfl, rfl, ha, hH, rr, hS⟩ := dkOf_at wr r2 hk
      have ev := keyA_v r1 ek
      subst ev
      cases ry
      refine d_in (by omega) I (DGet.k hH) rx fun s' I' => ⟨.bl _, H, I', rfl, ?_⟩
      have : (valV kv k).isSome = (dkGet kvs k).isSome := by
        rcases dk_at k rr with ⟨h1, h2⟩ | ⟨_, _, h1, h2, _⟩ <;> rw [h1, h2] <;> rfl
      rw [this]
      have := o.get wr _ (.bl _)
      simpa using this
    · exact o.elim
  · exact o.elim
theorem od_notInK (hu : X.A.units + 64 < cLine) : OpD X RX W (compareOp .NotIn) (dInK true) := by
  intro pins s σ α H S x y v u d e Q I rx ry wr r1 r2 o
  unfold dInK at o
  split at o
  · rename_i z kvs hk
    split at o
    · rename_i k ek
      obtain ⟨n, a, kv, rfl, rfl, ha, hH, rr, hS⟩ := dkOf_at wr r2 hk
      have ev := keyA_v r1 ek
      subst ev
      cases ry
      refine d_notIn (by omega) I (DGet.k hH) rx fun s' I' => ⟨.bl _, H, I', rfl, ?_⟩
      have : (valV kv k).isSome = (dkGet kvs k).isSome := by
        rcases dk_at k rr with ⟨h1, h2⟩ | ⟨_, _, h1, h2, _⟩ <;> rw [h1, h2] <;> rfl
      rw [this]
      have := o.get wr _ (.bl _)
      simpa using this
    · exact o.elim
  · exact o.elim
theorem de_ixK {a b : Expr} {f g : FE} (hu : X.A.units + 64 < cLine) (ha : DE X RX W a f) (hb : DE X RX W b g) (hs : NoSl b := by intro _ _; rfl) : DE X RX W (.Subscript a b pos) (dBin dIxK f g) :=
  peW (pe_dget (by omega) ha hb hs) fun σ H Q ⟨α, env, S, h, o⟩ => tE_seq h o fun d S1 α1 H1 v e1 h1 r1 o1 => tE_seq h1 o1 fun k S2 α2 H2 u e2 h2 r2 o2 => by
    have r1 := r1.ext e2
    unfold dIxK at o2
    split at o2
    · rename_i kvs z hk
      split at o2
      · rename_i w hw
        obtain ⟨k, ek, hg⟩ := Option.bind_eq_some_iff.mp hw
        obtain ⟨n, c, kv, rfl, rfl, ha, hH, rr, hS⟩ := dkOf_at h2.wr r1 hk
        have ev := keyA_v r2 ek
        subst ev
        rcases dk_at k rr with ⟨h3, _⟩ | ⟨y, v, h3, h4, h5⟩
        · rw [h3] at hg; cases hg
        · rw [h3] at hg; cases hg
          exact ⟨c, v, rfl, by rw [← h4]; exact DGet.k hH, o2.get h2.wr _ h5⟩
      · exact o2.elim
    · exact o2.elim
theorem ds_setK {o i e : Expr} {fo fi fe : FE} {pos' : Pos} (hu : X.A.units + 64 < cLine) (ho : DE X RX W o fo) (hi : DE X RX W i fi) (he : DE X RX W e fe) (hs : swapsWith e (some (.Subscript o i pos')) pos.line X.env = pure false := by rfl) : DS X RX W (.Assign [.Subscript o i pos'] e pos) (sSetK fo fi fe) :=
  psW (ps_dput (by omega) ho hi he hs) fun D σ H ⟨α, env, S, h, oo⟩ => tE_lift h oo fun d S1 α1 H1 v e1 h1 r1 o1 => by
    cases d with
    | r n => exact o1.elim
    | k n => exact o1.elim
    | g lo hi => exact o1.elim
    | z kvs => exact o1.elim
    | y kvs => exact o1.elim
    | v y =>
      refine tE_lift h1 o1 fun d2 S2 α2 H2 v2 e2 h2 r2 o2 => ?_
      cases d2 with
      | v y => exact o2.elim
      | k y => exact o2.elim
      | g lo hi => exact o2.elim
      | z kvs => exact o2.elim
      | y kvs => exact o2.elim
      | r n =>
        refine tE_lift h2 o2 fun d3 S3 α3 H3 v3 e3 h3 r3 o3 => ?_
        have r1 := (Rp.ext e3 (Rp.ext e2 r1))
        have r2 := r2.ext e3
        split at o3
        · rename_i x
          split at o3
          · rename_i kvs hc
            split at o3
            · rename_i k hk
              split at o3
              · rename_i hl
                obtain ⟨a, rfl, ha, kv, hH, rr⟩ := cell_at h3.wr r2 hc (by intro z; cases z)
                have ev := keyA_v r3 hk
                subst ev
                have ew := Ext.write (o := .dK (putK kv k v)) h3.wr ha
                refine ⟨a, _, rfl, DPut.k hH (by rw [Paired.length rr, sizeLine_eq]; omega), ?_⟩
                exact o3 α3 _ σ ew ⟨h3.re.ext ew, h3.wr.write ha ⟨_, upd_same, Paired.mapP (dk_put r1 rr) fun _ _ z => ⟨z.1, z.2.ext ew⟩⟩⟩
              · exact o3.elim
            · exact o3.elim
          · exact o3.elim
        · exact o3.elim
end
end G

set_option Elab.async false
set_option linter.all false
set_option autoImplicit false
set_option maxRecDepth 100000
namespace G
open PySem PySem.Spec PyProof.Rows L2
/-! ### list(range(..)), tuple(range(..)) -/
def dLR (i : FI) : FE := fun env S => (i env S).bind fun xs S1 => .ok (.v (.list xs)) S1
def dLRC (i : FI) : FE := fun env S => (i env S).bind fun xs S1 => .ok (.r S1.length) (S1 ++ [.lst xs])
def dTR (i : FI) : FE := fun env S => (i env S).bind fun xs S1 => .ok (.v (.tuple xs)) S1
section
variable {X : Cx} {RX : RXT} {W : WX} {α α' : AM} {H H' : Hp} {σ : St} {S S' : Store} {env : DEnv} {pos : Pos}
theorem rg_rep (lo : Int) : ∀ (n : Nat), RpL X.K α H ((List.range n).map fun i => V.int (lo + (i : Nat))) (rangeD lo n) := fun n => by
  refine RpL.of_forall (by simp [rangeD]) fun i v d h1 h2 => ?_
  unfold rangeD at h2
  rw [List.getElem?_map] at h1 h2
  cases hr : (List.range n)[i]? with
  | none => rw [hr] at h1; cases h1
  | some j => rw [hr] at h1 h2; cases h1; cases h2; exact .int _
theorem rgV_rep (a b : Int) : RpL X.K α H (rgV a b) (rangeD a (b - a).toNat) := rg_rep a _
theorem de_lr1 {a : Expr} {f : FE} {p p2 pos2 : Pos} (hc : X.calm = true) (hg : Gl X "list") (hm : X.mg "list" = none) (hg2 : Gl X "range") (hm2 : X.mg "range" = none) (ha : DE X RX W a f)
    (hs : starEach [a] X.env = (false, eval a X.env) :: starEach [] X.env := by rfl) (hs2 : starEach [.Call (.Name "range" p2) [a] [] pos2] X.env = (false, eval (.Call (.Name "range" p2) [a] [] pos2) X.env) :: starEach [] X.env := by rfl) :
    DE X RX W (.Call (.Name "list" p) [.Call (.Name "range" p2) [a] [] pos2] [] pos) (dLR (iRange1 f)) :=
  peW (pe_listRg hc hg hm (prg_1 hg2 hm2 ha hs) hs2) fun σ H Q ⟨α, env, S, h, o⟩ => by
    simp only [dLR, iRange1, bind_assoc] at o
    refine tE_seq h o fun d S1 α1 H1 v e1 h1 r1 o1 => ?_
    split at o1
    · cases r1
      split at o1
      · rename_i hr
        have hr := of_decide_eq_true hr
        refine ⟨_, rfl, ⟨by omega, by omega, by omega, by omega, by omega⟩, fun q hq => o1.newL h1.wr ?_ hq⟩
        have := rgV_rep (X := X) (α := α1) (H := H1) 0 ‹Int›
        simpa using this
      · exact o1.elim
    · exact o1.elim
theorem de_lr2 {a b : Expr} {f g : FE} {p p2 pos2 : Pos} (hc : X.calm = true) (hg : Gl X "list") (hm : X.mg "list" = none) (hg2 : Gl X "range") (hm2 : X.mg "range" = none) (ha : DE X RX W a f) (hb : DE X RX W b g)
    (hs : starEach [a, b] X.env = (false, eval a X.env) :: starEach [b] X.env := by rfl) (hsb : starEach [b] X.env = (false, eval b X.env) :: starEach [] X.env := by rfl) (hpl : (backTo pos2 (starEach [b] X.env)).any (·.1) = false := by rfl) (hs2 : starEach [.Call (.Name "range" p2) [a, b] [] pos2] X.env = (false, eval (.Call (.Name "range" p2) [a, b] [] pos2) X.env) :: starEach [] X.env := by rfl) :
    DE X RX W (.Call (.Name "list" p) [.Call (.Name "range" p2) [a, b] [] pos2] [] pos) (dLR (iRange2 f g)) :=
  peW (pe_listRg hc hg hm (prg_2 hg2 hm2 ha hb hs hsb hpl) hs2) fun σ H Q ⟨α, env, S, h, o⟩ => by
    simp only [dLR, iRange2, bind_assoc] at o
    refine tE_seq h o fun d S1 α1 H1 v e1 h1 r1 o1 => tE_seq h1 o1 fun d2 S2 α2 H2 v2 e2 h2 r2 o2 => ?_
    split at o2
    · cases r1; cases r2
      split at o2
      · rename_i hr
        have hr := of_decide_eq_true hr
        exact ⟨_, _, rfl, rfl, ⟨by omega, by omega, by omega, by omega, by omega⟩, fun q hq => o2.newL h2.wr (rgV_rep _ _) hq⟩
      · exact o2.elim
    · exact o2.elim
theorem de_cr1 {a : Expr} {f : FE} {p p2 pos2 : Pos} (hc : X.calm = true) (hg : Gl X "list") (hm : X.mg "list" = none) (hg2 : Gl X "range") (hm2 : X.mg "range" = none) (ha : DE X RX W a f)
    (hs : starEach [a] X.env = (false, eval a X.env) :: starEach [] X.env := by rfl) (hs2 : starEach [.Call (.Name "range" p2) [a] [] pos2] X.env = (false, eval (.Call (.Name "range" p2) [a] [] pos2) X.env) :: starEach [] X.env := by rfl) :
    DE X RX W (.Call (.Name "list" p) [.Call (.Name "range" p2) [a] [] pos2] [] pos) (dLRC (iRange1 f)) :=
  peW (pe_listRg hc hg hm (prg_1 hg2 hm2 ha hs) hs2) fun σ H Q ⟨α, env, S, h, o⟩ => by
    simp only [dLRC, iRange1, bind_assoc] at o
    refine tE_seq h o fun d S1 α1 H1 v e1 h1 r1 o1 => ?_
    split at o1
    · cases r1
      split at o1
      · rename_i hr
        have hr := of_decide_eq_true hr
        refine ⟨_, rfl, ⟨by omega, by omega, by omega, by omega, by omega⟩, fun q hq => o1.newC h1.wr ?_ hq⟩
        have := rgV_rep (X := X) (α := α1) (H := H1) 0 ‹Int›
        simpa using this
      · exact o1.elim
    · exact o1.elim
theorem de_cr2 {a b : Expr} {f g : FE} {p p2 pos2 : Pos} (hc : X.calm = true) (hg : Gl X "list") (hm : X.mg "list" = none) (hg2 : Gl X "range") (hm2 : X.mg "range" = none) (ha : DE X RX W a f) (hb : DE X RX W b g)
    (hs : starEach [a, b] X.env = (false, eval a X.env) :: starEach [b] X.env := by rfl) (hsb : starEach [b] X.env = (false, eval b X.env) :: starEach [] X.env := by rfl) (hpl : (backTo pos2 (starEach [b] X.env)).any (·.1) = false := by rfl) (hs2 : starEach [.Call (.Name "range" p2) [a, b] [] pos2] X.env = (false, eval (.Call (.Name "range" p2) [a, b] [] pos2) X.env) :: starEach [] X.env := by rfl) :
    DE X RX W (.Call (.Name "list" p) [.Call (.Name "range" p2) [a, b] [] pos2] [] pos) (dLRC (iRange2 f g)) :=
  peW (pe_listRg hc hg hm (prg_2 hg2 hm2 ha hb hs hsb hpl) hs2) fun σ H Q ⟨α, env, S, h, o⟩ => by
    simp only [dLRC, iRange2, bind_assoc] at o
    refine tE_seq h o fun d S1 α1 H1 v e1 h1 r1 o1 => tE_seq h1 o1 fun d2 S2 α2 H2 v2 e2 h2 r2 o2 => ?_
    split at o2
    · cases r1; cases r2
      split at o2
      · rename_i hr
        have hr := of_decide_eq_true hr
        exact ⟨_, _, rfl, rfl, ⟨by omega, by omega, by omega, by omega, by omega⟩, fun q hq => o2.newC h2.wr (rgV_rep _ _) hq⟩
      · exact o2.elim
    · exact o2.elim
theorem de_tr1 {a : Expr} {f : FE} {p p2 pos2 : Pos} (hc : X.calm = true) (hg : Gl X "tuple") (hm : X.mg "tuple" = none) (hg2 : Gl X "range") (hm2 : X.mg "range" = none) (ha : DE X RX W a f)
    (hs : starEach [a] X.env = (false, eval a X.env) :: starEach [] X.env := by rfl) (hs2 : starEach [.Call (.Name "range" p2) [a] [] pos2] X.env = (false, eval (.Call (.Name "range" p2) [a] [] pos2) X.env) :: starEach [] X.env := by rfl) :
    DE X RX W (.Call (.Name "tuple" p) [.Call (.Name "range" p2) [a] [] pos2] [] pos) (dTR (iRange1 f)) :=
  peW (pe_tupRg hc hg hm (prg_1 hg2 hm2 ha hs) hs2) fun σ H Q ⟨α, env, S, h, o⟩ => by
    simp only [dTR, iRange1, bind_assoc] at o
    refine tE_seq h o fun d S1 α1 H1 v e1 h1 r1 o1 => ?_
    split at o1
    · cases r1
      split at o1
      · rename_i hr
        have hr := of_decide_eq_true hr
        refine ⟨_, rfl, ⟨by omega, by omega, by omega, by omega, by omega⟩, fun q hq => o1.newT h1.wr ?_ hq⟩
        have := rgV_rep (X := X) (α := α1) (H := H1) 0 ‹Int›
        simpa using this
      · exact o1.elim
    · exact o1.elim
theorem de_tr2 {a b : Expr} {f g : FE} {p p2 pos2 : Pos} (hc : X.calm = true) (hg : Gl X "tuple") (hm : X.mg "tuple" = none) (hg2 : Gl X "range") (hm2 : X.mg "range" = none) (ha : DE X RX W a f) (hb : DE X RX W b g)
    (hs : starEach [a, b] X.env = (false, eval a X.env) :: starEach [b] X.env := by rfl) (hsb : starEach [b] X.env = (false, eval b X.env) :: starEach [] X.env := by rfl) (hpl : (backTo pos2 (starEach [b] X.env)).any (·.1) = false := by rfl) (hs2 : starEach [.Call (.Name "range" p2) [a, b] [] pos2] X.env = (false, eval (.Call (.Name "range" p2) [a, b] [] pos2) X.env) :: starEach [] X.env := by rfl) :
    DE X RX W (.Call (.Name "tuple" p) [.Call (.Name "range" p2) [a, b] [] pos2] [] pos) (dTR (iRange2 f g)) :=
  peW (pe_tupRg hc hg hm (prg_2 hg2 hm2 ha hb hs hsb hpl) hs2) fun σ H Q ⟨α, env, S, h, o⟩ => by
    simp only [dTR, iRange2, bind_assoc] at o
    refine tE_seq h o fun d S1 α1 H1 v e1 h1 r1 o1 => tE_seq h1 o1 fun d2 S2 α2 H2 v2 e2 h2 r2 o2 => ?_
    split at o2
    · cases r1; cases r2
      split at o2
      · rename_i hr
        have hr := of_decide_eq_true hr
        exact ⟨_, _, rfl, rfl, ⟨by omega, by omega, by omega, by omega, by omega⟩, fun q hq => o2.newT h2.wr (rgV_rep _ _) hq⟩
      · exact o2.elim
    · exact o2.elim
end
end G

set_option Elab.async false
set_option linter.all false
set_option autoImplicit false
set_option maxRecDepth 100000
namespace G
open PySem PySem.Spec PyProof.Rows L2
/-! ### dict comprehensions, both kinds of dicts -/
/-- how a new dict stands, and how one entry is put -/
structure DKind (P : Program) (w : World) (K : PySem.W.Frag) where
  zero : Addr → HO
  zero_ok : ∀ (H : Hp) (h : Heap), sysModules < h.objs.size → ObjOk P w H (h.push { cls := .type "dict", data := .dict #[] }) h.objs.size (zero h.objs.size)
  put : Addr → V → V → Hp → (Hp → Prop) → Prop
  put_ok : ∀ (X : Cx), X.prog = P → X.w = w → X.K = K → X.A.units + 64 < cLine → ∀ (pins : List (Addr × Obj)) (s : Shared) (σ : St) (H : Hp) (E : Value → Shared → Prop) (D : Addr) (y z : V) (u r : Value) (N : Hp → Prop), Inv X pins σ H s → RelV y u → RelV z r → put D y z H N →
    wpAny (model P w) X.A (dictSet D u r) (fun _ s' => ∃ H', Inv X pins σ H' s' ∧ N H') E s
def kindK (P : Program) (w : World) (K : PySem.W.Frag) : DKind P w K where
  zero := fun _ => .dK []
  zero_ok := fun H h hb => dk_empty h hb
  put := fun D y z H N => ∃ kv k, y = kV k ∧ H D = some (.dK kv) ∧ kv.length < sizeLine ∧ N (upd H D (.dK (putK kv k z)))
  put_ok := fun X hP hw hK hu pins s σ H E D y z u r N I ry rz ⟨kv, k, e, hD, hz, n⟩ => by
    subst hP hw hK e
    exact d_dictSet I hD hz ry rz fun s' I' => ⟨_, I', n⟩
/-- a dict of tuple keys, as it stands: its data -/
def TRep (P : Program) (w : World) (K : PySem.W.Frag) (α : AM) (H : Hp) (a : Addr) (kvs : List (PyData × PyData)) : Prop := CellRep P w K α H a (.dt kvs)
def kindT (P : Program) (w : World) (K : PySem.W.Frag) : DKind P w K where
  zero := fun a => exactO a { cls := .type "dict", data := .dict #[] }
  zero_ok := fun H h hb => ⟨Heap.get?_push_size _ rfl, ⟨_, Heap.get?_push_size _ rfl⟩, fun p q e1 e2 => e2 _ e1⟩
  put := fun D y z H N => ∃ (α : AM) (kvs : List (PyData × PyData)) (k : NestedKey) (x v : PyData), CellRep P w K α H D (.dt kvs) ∧ D ∈ α.b ∧ Rp K α H y x ∧ keyT x = some k ∧ Rp K α H z v ∧ kvs.length < 16000000 ∧
    ∀ o', CellRep P w K α (upd H D (exactO D o')) D (.dt (dtPut kvs k x v)) → N (upd H D (exactO D o'))
  put_ok := fun X hP hw hK hu pins s σ H E D y z u r N I ry rz ⟨α, kvs, k, x, v, hc, hD, rx, ek, rv, hl, n⟩ => by
    subst hP hw hK
    obtain ⟨b, rfl, rfl, hkey, ek2, hd8⟩ := keyT_is I rx ry ek
    obtain ⟨hd, hz, xs, hm, rr⟩ := dt_keyed I hc
    have hlen : xs.length = kvs.length := Paired.length rr
    refine wpAny_dictSet_heap (knd := nestedKind X.prog X.w) (hsz := by rw [hlen]; exact hz) (by show X.A.units + 8 < cLine; omega) hkey hm fun h' hm' hs => ?_
    obtain ⟨o', es, ep, h1, h2, h3, h4, h5, h6⟩ := hm'
    have kp : Keep α H α (upd H D (exactO D o')) := Keep.grow hD
    have hcell : CellRep X.prog X.w X.K α (upd H D (exactO D o')) D (.dt (dtPut kvs k x v)) :=
      ⟨o', es, ep, _, upd_same, hd, h2, h3, h4, h6, by have := dtPut_len kvs k x v; rw [sizeLine_eq]; omega, pair_keep kp (pair_put ek2 hd8 rx rz rv rr)⟩
    refine ⟨_, d_write I ?_ hs ⟨_, h1⟩ ?_, n o' hcell⟩
    · obtain ⟨o0, _, _, _, h0, _⟩ := hc
      rw [h0]; trivial
    · exact ⟨h1, ⟨o', h1⟩, fun p q e1 e2 => e2 _ e1⟩
section
variable {X : Cx}
def tDcX (κ : DKind X.prog X.w X.K) (wi : TI) (g : TG) (tt : TT) (tk tv : TE) (vs : List Nat) : TE := fun σ H Q => wi σ H fun J H1 => ∀ D, H1 D = none → (D == sysModules) = false → ∃ W : Nat → Nat → Hp → Prop, (∃ m, W 0 m (upd H1 D (κ.zero D))) ∧ ∀ i m H, W i m H →
  (J.stop i H ∧ Q (.ref D) H) ∨ (J.go i H ∧ ∃ Nx : Hp → Prop, (∀ H', Nx H' → ∃ m', m' < m ∧ W (i + 1) m' H') ∧ ∀ x H', J.yld i H x H' → g x (wipe σ vs) H' fun σ2 H2 => wipe σ2 vs = wipe σ vs ∧ tt σ2 H2 fun b H3 =>
    if b = true then tk σ2 H3 fun y H4 => tv σ2 H4 fun z H5 => κ.put D y z H5 Nx else Nx H3)
/-- the comprehension's run, whatever the kind of the dict (after the layer's own for keys that are ints or texts) -/
theorem dcx_core {κ : DKind X.prog X.w X.K} {pins : List (Addr × Obj)} {s : Shared} {σ : St} {H : Hp} {Q : VK} {kx vx tg iter : Expr} {ifs : List Expr} {scope : Scope} {own : List (Str × Nat)} {pos pos' : Pos} {wi : TI} {g : TG} {tt : TT} {tk tv : TE} {use : Option (Value → Sem Unit)} {Qf : Value → Shared → Prop}
    (hu : X.A.units + 64 < cLine) (hc : X.calm = true) (hN : X.N.Nodup) (I : Inv X pins σ H s) (hi : PI X tg iter wi) (ok : BlkOk X.N X.env.scope scope own)
    (hg : ∀ (s : Shared) (H : Hp) (C : Addr) (cl : List (Str × Addr)) (fp : List Addr), PG (blkX X s H scope C cl fp) tg g) (ht : ∀ (s : Shared) (H : Hp) (C : Addr) (cl : List (Str × Addr)) (fp : List Addr), PTs (blkX X s H scope C cl fp) ifs tt)
    (hk : ∀ (s : Shared) (H : Hp) (C : Addr) (cl : List (Str × Addr)) (fp : List Addr), PE (blkX X s H scope C cl fp) kx tk) (he : ∀ (s : Shared) (H : Hp) (C : Addr) (cl : List (Str × Addr)) (fp : List Addr), PE (blkX X s H scope C cl fp) vx tv)
    (hs : ∀ x, foldedSetIterable iter X.env x = pure x) (h : tDcX κ wi g tt tk tv (own.map (·.2)) σ H Q)
    (hRR : ∀ D C s' m H', Inv X pins σ H' s' → Q (.ref D) H' → s'.heap.Ns C m → FpOk X pins H' C → compPost (model X.prog X.w) X.A X.xe use Qf (.ref D) C (.ok .next) s') :
    wpAny (model X.prog X.w) X.A (comprehension (.DictComp kx vx [⟨tg, iter, ifs, 0⟩] scope pos) scope X.env pos' newDict false (eval iter X.env) use) Qf X.xe s := by
  have frees : ∀ y ∈ scope.names, y.2 = .free → ∃ c, X.env.cells.lookup y.1 = some c := fun y hy e => (ok.free y hy e).elim (fun k => I.ok.has _ (.inl k)) fun k => I.ok.has _ (.inr k)
  refine wpAny_comprehension_free (use := use) rfl hs (closure_ok frees) ok.kind (fun y hy e => by rw [ok.uniq y hy, e]) (thn (hi.run pins s σ H _ I h) fun xv sA hA => thn hA fun itv sB hB => ?_)
  obtain ⟨it, fp, tn, J, HB, rfl, IB, T, stB, fB, q⟩ := hB
  refine wpAny_newObj_type (newEnv_comp ?_)
  generalize hD : sB.heap.objs.size = D
  have fresh : HB D = none := IB.hok.fresh (Nat.le_of_eq hD)
  obtain ⟨W, ⟨m0, w0⟩, turn⟩ := q D fresh (by rw [← hD]; exact beq_eq_false_iff_ne.mpr (Ne.symm (Nat.ne_of_lt IB.big)))
  generalize hsC : ({ sB with heap := sB.heap.push { cls := .type "dict", data := .dict #[] } } : Shared) = sC
  have IC : Inv X pins σ (upd HB D (κ.zero D)) sC := by
    subst hsC hD
    exact IB.laid (t' := sB.toks) (fun b o e => Heap.get?_push_of_some _ e) (Nat.le_refl _) (κ.zero_ok _ sB.heap IB.big)
  have heapC : sC.heap = sB.heap.push { cls := .type "dict", data := .dict #[] } := by rw [← hsC]
  have old : ∀ b ∈ fp, b < sB.heap.objs.size := fun b hb => let ⟨o, e, _⟩ := T.obj _ _ stB b hb; Heap.lt_size e
  have fC : ∀ b ∈ fp, FpOk X pins (upd HB D (κ.zero D)) b ∧ b < sC.heap.objs.size := fun b hb => by
    have lt := old b hb
    exact ⟨⟨by rw [upd_ne (by rw [← hD]; exact Nat.ne_of_lt lt)]; exact (fB b hb).1, (fB b hb).2⟩, by rw [heapC, Heap.size_push]; exact Nat.lt_succ_of_lt lt⟩
  have stC : tn 0 sC.heap := T.keep _ _ _ stB fun b _ o e => by rw [heapC]; exact Heap.get?_push_of_some _ e
  have I4 := block_start IC ok hN fC
  have pg : PG (X.blk sC (upd HB D (κ.zero D)) scope (compEnvC scope (cellsFrom (sC.heap.objs.size + 1) scope.names (cloFrom X.env.cells scope.names [])) sC.heap.objs.size X.env) fp) tg g := hg sC (upd HB D (κ.zero D)) sC.heap.objs.size (cellsFrom (sC.heap.objs.size + 1) scope.names (cloFrom X.env.cells scope.names [])) fp
  have pt : PTs (X.blk sC (upd HB D (κ.zero D)) scope (compEnvC scope (cellsFrom (sC.heap.objs.size + 1) scope.names (cloFrom X.env.cells scope.names [])) sC.heap.objs.size X.env) fp) ifs tt := ht sC (upd HB D (κ.zero D)) sC.heap.objs.size (cellsFrom (sC.heap.objs.size + 1) scope.names (cloFrom X.env.cells scope.names [])) fp
  have pk : PE (X.blk sC (upd HB D (κ.zero D)) scope (compEnvC scope (cellsFrom (sC.heap.objs.size + 1) scope.names (cloFrom X.env.cells scope.names [])) sC.heap.objs.size X.env) fp) kx tk := hk sC (upd HB D (κ.zero D)) sC.heap.objs.size (cellsFrom (sC.heap.objs.size + 1) scope.names (cloFrom X.env.cells scope.names [])) fp
  have pe : PE (X.blk sC (upd HB D (κ.zero D)) scope (compEnvC scope (cellsFrom (sC.heap.objs.size + 1) scope.names (cloFrom X.env.cells scope.names [])) sC.heap.objs.size X.env) fp) vx tv := he sC (upd HB D (κ.zero D)) sC.heap.objs.size (cellsFrom (sC.heap.objs.size + 1) scope.names (cloFrom X.env.cells scope.names [])) fp
  have nfp : ∀ b ∈ fp, (upd HB D (κ.zero D)) b = none := fun b hb => (fC b hb).1.1
  show codeAny _ _ (.compStart (.DictComp kx vx [⟨tg, iter, ifs, 0⟩] scope pos) 0 (.ref it) (.ref D) (compEnvC scope (cellsFrom (sC.heap.objs.size + 1) scope.names (cloFrom X.env.cells scope.names [])) sC.heap.objs.size X.env)) (compPost (model X.prog X.w) X.A X.xe use Qf (.ref D) sC.heap.objs.size) { sC with heap := pushCells (sC.heap.push { cls := .type "dict", data := .dict #[] }) scope.names }
  generalize hce : compEnvC scope (cellsFrom (sC.heap.objs.size + 1) scope.names (cloFrom X.env.cells scope.names [])) sC.heap.objs.size X.env = ce at I4 pg pt pk pe ⊢
  have locs : ce.locals = sC.heap.objs.size := by subst hce; rfl
  generalize hHC : upd HB D (κ.zero D) = HC at IC I4 pg pt pk pe w0 nfp fC
  generalize hs4 : ({ sC with heap := pushCells (sC.heap.push { cls := .type "dict", data := .dict #[] }) scope.names } : Shared) = s4 at I4 ⊢
  have st4 : tn 0 s4.heap := T.keep _ _ _ stC fun b _ o e => by rw [← hs4]; exact pushCells_keeps _ _ _ _ (Heap.get?_push_of_some _ e)
  have stay : ∀ {σ' : St} {H' : Hp} {s' : Shared}, Inv (X.blk sC HC scope ce fp) [] σ' H' s' → (∀ b ∈ fp, H' b = none) → ∀ b ∈ fp, FpOk (X.blk sC HC scope ce fp) [] H' b := fun {σ' H' s'} I' hn b hb =>
    ⟨hn b hb, (I'.ok.exf b hb).1, I'.ok.exfs b hb, .inl hb, fun x c e => (I'.ok.exf b hb).2 x c e, fun p hp => absurd (show p ∈ ([] : List (Addr × Obj)) ++ [] from hp) (by simp)⟩
  have loop : codeAny (model X.prog X.w) X.A (.compLoop (.DictComp kx vx [⟨tg, iter, ifs, 0⟩] scope pos) 0 (.ref it) (.ref D) ce) (compPost (model X.prog X.w) X.A X.xe use Qf (.ref D) sC.heap.objs.size) s4 := by
    refine compLoop_anyD (fun n s' => ∃ i H', Inv (X.blk sC HC scope ce fp) [] (wipe σ (own.map (·.2))) H' s' ∧ tn i s'.heap ∧ (∀ b ∈ fp, H' b = none) ∧ W i n H') ?_ m0 ⟨0, HC, I4, st4, nfp, w0⟩
    rintro n s5 ⟨i, H5, I5, st5, n5, w5⟩
    rcases turn i n H5 w5 with ⟨stop, qq⟩ | ⟨go, Nx, hNx, step⟩
    · refine thnF (T.done (X.blk sC HC scope ce fp) rfl rfl rfl hc i [] s5 _ H5 (fun _ _ => False) I5 (stay I5 n5) st5 stop) fun r s6 ⟨hr, I6⟩ => ?_
      subst hr
      have I7 : Inv X pins σ H5 s6 := IC.call' (ch := fp) I6.os I6.base I6.hok I6.bare fun b hb => ⟨(fC b hb).1.2.2.2.1, (fC b hb).1.2.1, (fC b hb).1.2.2.2.2.1, (fC b hb).1.2.2.2.2.2⟩
      have nC : H5 sC.heap.objs.size = none := by rw [← locs]; exact I6.free
      obtain ⟨m, hn, _⟩ := I6.loc
      have hn : s6.heap.Ns sC.heap.objs.size m := by rw [← locs]; exact hn
      exact hRR D sC.heap.objs.size s6 m H5 I7 qq hn (IC.fpOk (Nat.le_refl _) nC)
    · refine thnF (T.item (X.blk sC HC scope ce fp) rfl rfl rfl hc i [] s5 _ H5 (fun _ _ => False) I5 (stay I5 n5) st5 go) fun r s6 ⟨u, hr, h6⟩ => ?_
      subst hr
      refine thnF h6 fun _ s7 ⟨x, H7, I7, r7, y7, st7, n7⟩ => ?_
      have I7' := I7.pinned (stay I7 n7) (T.obj _ _ st7)
      refine thnF (pg.run _ s7 _ H7 x u _ I7' r7 (step x H7 y7)) fun _ s8 ⟨σ8, H8, I8, hw8, q8⟩ => ?_
      refine thnF (pt.run _ s8 σ8 H8 _ I8 q8) fun b s9 ⟨H9, I9, q9⟩ => ?_
      have fin : ∀ {s' : Shared} {H' : Hp}, Inv (X.blk sC HC scope ce fp) ([] ++ pinsAt fp s7.heap) σ8 H' s' → Nx H' → ∃ m, m < n ∧ ∃ i H', Inv (X.blk sC HC scope ce fp) [] (wipe σ (own.map (·.2))) H' s' ∧ tn i s'.heap ∧ (∀ b ∈ fp, H' b = none) ∧ W i m H' := fun {s' H'} I' nx => by
        obtain ⟨m', hm, w'⟩ := hNx H' nx
        have pin' : ∀ b ∈ fp, ∀ o, s7.heap.get? b = some o → s'.heap.get? b = some o ∧ H' b = none := fun b hb o e =>
          let z := I'.pin (b, o) (List.mem_append_right _ (List.mem_append_right _ (mem_pinsAt hb e)))
          ⟨z.1, z.2.1⟩
        have hl : (wipe σ (own.map (·.2))).length = σ8.length := by rw [← hw8, wipe_length]
        refine ⟨m', hm, i + 1, H', (I'.unpinned (pins := [])).weak hl (fun j v e => by rw [← hw8] at e; exact (wipe_some e).1), T.keep _ _ _ st7 fun b hb o e => (pin' b hb o e).1, fun b hb => ?_, w'⟩
        obtain ⟨o, e, _⟩ := T.obj _ _ st7 b hb
        exact (pin' b hb o e).2
      cases b with
      | false =>
        simp only [Bool.false_eq_true, if_false] at q9 ⊢
        exact fin I9 q9
      | true =>
        simp only [if_true] at q9 ⊢
        refine thnF (pk.run _ s9 σ8 H9 _ I9 q9) fun z s10 ⟨yk, H10, I10, r10, q10⟩ => ?_
        refine thnF (pe.run _ s10 σ8 H10 _ I10 q10) fun z2 s11 ⟨yv, H11, I11, r11, pt11⟩ => ?_
        exact thnF (κ.put_ok (X.blk sC HC scope ce fp) rfl rfl rfl hu _ s11 σ8 H11 (fun _ _ => False) D yk yv z z2 Nx I11 r10 r11 pt11) fun _ s12 ⟨H12, I12, nx⟩ => fin I12 nx
  exact codeAny_compStart_dict loop (T.self X.A 0 _ _ _ st4 loop)
theorem pe_dcX {κ : DKind X.prog X.w X.K} {kx vx tg iter : Expr} {ifs : List Expr} {scope : Scope} {own : List (Str × Nat)} {pos : Pos} {wi : TI} {g : TG} {tt : TT} {tk tv : TE} (hu : X.A.units + 64 < cLine) (hc : X.calm = true) (hN : X.N.Nodup) (hi : PI X tg iter wi) (ok : BlkOk X.N X.env.scope scope own)
    (hg : ∀ (s : Shared) (H : Hp) (C : Addr) (cl : List (Str × Addr)) (fp : List Addr), PG (blkX X s H scope C cl fp) tg g) (ht : ∀ (s : Shared) (H : Hp) (C : Addr) (cl : List (Str × Addr)) (fp : List Addr), PTs (blkX X s H scope C cl fp) ifs tt)
    (hk : ∀ (s : Shared) (H : Hp) (C : Addr) (cl : List (Str × Addr)) (fp : List Addr), PE (blkX X s H scope C cl fp) kx tk) (he : ∀ (s : Shared) (H : Hp) (C : Addr) (cl : List (Str × Addr)) (fp : List Addr), PE (blkX X s H scope C cl fp) vx tv)
    (hs : ∀ x, foldedSetIterable iter X.env x = pure x := by intro _; rfl) : PE X (.DictComp kx vx [⟨tg, iter, ifs, 0⟩] scope pos) (tDcX κ wi g tt tk tv (own.map (·.2))) := by
  refine ⟨fun pins s σ H Q I h => ?_⟩
  rw [arm_eval_DictComp]
  refine dcx_core hu hc hN I hi ok hg ht hk he hs h fun D C s' m H' I' q hn ⟨f0, f1, f2, f3, f4, f5⟩ => ⟨m, hn, fun h'' sb => ?_⟩
  exact ⟨.ref D, H', I'.turned (t' := s'.toks) (fun b o hb e => (sb.2 b hb).trans e) f0 f1 f3 f4 f5, rfl, q⟩
end
/-! ### their plain run -/
def compD {A : Type} (putA : A → PyData → PyData → Option A) (p : Pat) (t : FT) (fk fv : FE) (env : DEnv) : List PyData → A → Store → Res A
  | [], acc, S => .ok acc S
  | x :: xs, acc, S => match gPat p x env with
    | none => .stuck
    | some env1 => (noX (t env1 S)).bind fun b S1 => if b then (noX (fk env1 S1)).bind fun d S2 => (noX (fv env1 S2)).bind fun e S3 => match d, e with
        | .v y, .v z => (match putA acc y z with | some acc' => compD putA p t fk fv env xs acc' S3 | none => .stuck)
        | _, _ => .stuck
      else compD putA p t fk fv env xs acc S1
def dDcG {A : Type} (putA : A → PyData → PyData → Option A) (zeroA : A) (cellA : A → Cell) (own : List Nat) (p : Pat) (i : FI) (t : FT) (fk fv : FE) : FE := fun env S =>
  (i env S).bind fun xs S1 => (if small xs.length then compD putA p t fk fv (wipeE env own) xs zeroA S1 else .stuck).bind fun acc S2 => .ok (.r S2.length) (S2 ++ [cellA acc])
def putT (kvs : List (PyData × PyData)) (x y : PyData) : Option (List (PyData × PyData)) := match keyT x with
  | some k => if kvs.length < 16000000 then some (dtPut kvs k x y) else none
  | none => none
def putK' (kvs : List (Key × PyData)) (x y : PyData) : Option (List (Key × PyData)) := match keyA x with
  | some k => if kvs.length < 16000000 then some (dkPut kvs k y) else none
  | none => none
def dDcT := dDcG putT [] Cell.dt
def dDcK := dDcG putK' [] Cell.dk
section
variable {X : Cx} {RX : RXT} {W : WX} {α α' : AM} {H H' : Hp} {σ : St} {S S' : Store} {env : DEnv} {pos : Pos}
/-- what a kind of dict's plain run needs -/
structure DRun (X : Cx) (κ : DKind X.prog X.w X.K) {A : Type} (putA : A → PyData → PyData → Option A) (zeroA : A) (cellA : A → Cell) : Prop where
  zero : ∀ (α : AM) (H : Hp) (D : Addr), (D == sysModules) = false → CellRep X.prog X.w X.K α (upd H D (κ.zero D)) D (cellA zeroA)
  step : ∀ (α : AM) (H : Hp) (D : Addr) (acc acc' : A) (y z : V) (x v : PyData) (N : Hp → Prop), CellRep X.prog X.w X.K α H D (cellA acc) → D ∈ α.b → Rp X.K α H y x → Rp X.K α H z v → putA acc x v = some acc' →
    (∀ o, CellRep X.prog X.w X.K α (upd H D o) D (cellA acc') → N (upd H D o)) → κ.put D y z H N
theorem run_T : DRun X (kindT X.prog X.w X.K) putT [] Cell.dt where
  zero := fun α H D hd => ⟨{ cls := .type "dict", data := .dict #[] }, #[], 0, [], upd_same, hd, ⟨rfl, rfl, rfl⟩, rfl, rfl, .nil, Nat.zero_le _, .nil⟩
  step := fun α H D acc acc' y z x v N hc hD rx rv e n => by
    unfold putT at e
    split at e
    · rename_i k ek
      split at e
      · rename_i hl
        cases e
        exact ⟨α, acc, k, x, v, hc, hD, rx, ek, rv, hl, fun o' hcell => n _ hcell⟩
      · cases e
    · cases e
theorem run_K : DRun X (kindK X.prog X.w X.K) putK' [] Cell.dk where
  zero := fun α H D hd => ⟨[], upd_same, .nil⟩
  step := fun α H D acc acc' y z x v N hc hD rx rv e n => by
    unfold putK' at e
    split at e
    · rename_i k ek
      split at e
      · rename_i hl
        cases e
        obtain ⟨kv, hH, rr⟩ := hc
        have ev := keyA_v rx ek
        subst ev
        have gk : Keep α H α (upd H D (.dK (putK kv k z))) := Keep.grow hD
        exact ⟨kv, k, rfl, hH, by rw [Paired.length rr, sizeLine_eq]; omega, n _ ⟨_, upd_same, Paired.mapP (dk_put rv rr) fun _ _ w => ⟨w.1, w.2.keep gk⟩⟩⟩
      · cases e
    · cases e
theorem fin_any {Q : VK} {c : Cell} (α1 : AM) (H1 : Hp) (α2 : AM) (H2 : Hp) (S2 : Store) (D : Addr) (pw : α2.pw = α1.pw) (w2 : WR X.prog X.w X.K α2 H2 S2) (hb : α2.b = D :: α1.b) (hn : α1.no D) (hc : CellRep X.prog X.w X.K α2 H2 D c) (k : Keep α1 H1 α2 H2)
    (rf : ∀ (n : Nat) (x : Option Addr), α1.c[n]? = some x → α2.c[n]? = some x ∨ α2.c[n]? = some none) (bk : ∀ a ∈ α1.b, H2 a = H1 a) (o : Want X RX W α1 H1 σ (.ok (.r S2.length) (S2 ++ [c])) Q) : Q (.ref D) H2 := by
  have nc := (w2.bl D (by rw [hb]; exact List.mem_cons_self)).1
  have ku : Keep α2 H2 ⟨α2.c ++ [some D], α1.b, α1.pw⟩ H2 := fun a u h n => ⟨h, ⟨fun z => by
    rcases List.mem_append.mp z with z | z
    · exact n.1 z
    · rw [List.mem_singleton] at z; cases z; exact n.2 (by rw [hb]; exact List.mem_cons_self), fun z => n.2 (by rw [hb]; exact List.mem_cons_of_mem _ z)⟩⟩
  have hl := w2.len
  have old : ∀ {i : Nat} {y : Option Addr}, (α2.c ++ [some D])[i]? = some y → (i < α2.c.length ∧ α2.c[i]? = some y) ∨ (i = α2.c.length ∧ y = some D) := fun {i y} h => by
    by_cases hi : i < α2.c.length
    · rw [List.getElem?_append_left hi] at h; exact .inl ⟨hi, h⟩
    · have e := (List.getElem?_eq_some_iff.mp h).1
      rw [List.length_append, List.length_singleton] at e
      have e2 : i = α2.c.length := by omega
      subst e2
      rw [List.getElem?_append_right (Nat.le_refl _)] at h
      simp at h
      exact .inr ⟨rfl, h.symm⟩
  have noD : ∀ {i : Nat}, α2.c[i]? ≠ some (some D) := fun {i} h => nc (List.mem_of_getElem? h)
  refine o ⟨α2.c ++ [some D], α1.b, α1.pw⟩ H2 ⟨fun a u h n => let ⟨z1, z2⟩ := k a u h n; ku a u z1 z2, fun n x q => ?_, rfl, bk, rfl⟩ ⟨?_, fun i j a h1 h2 => ?_, fun n c' a h1 h2 => ?_, fun n c' h1 h2 => ?_, fun a h => ?_, pw.symm.trans w2.pw⟩ _ ⟨?_, fun a h => ?_⟩
  · show (α2.c ++ [some D])[n]? = _ ∨ (α2.c ++ [some D])[n]? = _
    have hn : n < α2.c.length := by rcases rf n x q with z | z <;> exact (List.getElem?_eq_some_iff.mp z).1
    rw [List.getElem?_append_left hn]; exact rf n x q
  · show (α2.c ++ [some D]).length = _; simp [hl]
  · rcases old h1 with ⟨i1, q1⟩ | ⟨i1, q1⟩ <;> rcases old h2 with ⟨j1, q2⟩ | ⟨j1, q2⟩
    · exact w2.one i j a q1 q2
    · cases q2; exact absurd q1 noD
    · cases q1; exact absurd q2 noD
    · omega
  · rcases old h2 with ⟨i1, q1⟩ | ⟨i1, q1⟩
    · rw [List.getElem?_append_left (by omega)] at h1
      exact (w2.cell n c' a h1 q1).keep ku rfl
    · cases q1
      rw [List.getElem?_append_right (by omega)] at h1
      have : n - S2.length = 0 := by omega
      rw [this] at h1
      simp at h1
      subst h1
      exact hc.keep ku rfl
  · by_cases hn : n < S2.length
    · rw [List.getElem?_append_left hn] at h1
      obtain ⟨a, ha⟩ := w2.live n c' h1 h2
      exact ⟨a, by show (α2.c ++ [some D])[n]? = _; rw [List.getElem?_append_left (by omega)]; exact ha⟩
    · have e := (List.getElem?_eq_some_iff.mp h1).1
      rw [List.length_append, List.length_singleton] at e
      have e2 : n = α2.c.length := by omega
      subst e2
      exact ⟨D, by show (α2.c ++ [some D])[α2.c.length]? = _; rw [List.getElem?_append_right (Nat.le_refl _)]; simp⟩
  · obtain ⟨h1, u, h2⟩ := w2.bl a (by rw [hb]; exact List.mem_cons_of_mem _ h)
    refine ⟨fun m => ?_, u, h2⟩
    rcases List.mem_append.mp m with m | m
    · exact h1 m
    · rw [List.mem_singleton] at m; cases m; exact hn.2 h
  · show S2.length < (α2.c ++ [some D]).length; simp [hl]
  · rcases old h with ⟨i1, q1⟩ | ⟨i1, q1⟩
    · omega
    · cases q1; rfl
theorem tracked_of {P : Program} {w : World} {K : PySem.W.Frag} {α : AM} {H : Hp} {a : Addr} {c : Cell} (h : CellRep P w K α H a c) : ∃ o, H a = some o := h.tracked
/-- a dict comprehension's reading, from its plain run -/
theorem dc_read {κ : DKind X.prog X.w X.K} {A : Type} {putA : A → PyData → PyData → Option A} {zeroA : A} {cellA : A → Cell} (R : DRun X κ putA zeroA cellA) {own : List Nat} {p : Pat} {i : FI} {t : FT} {fk fv : FE} {Q : VK} (hp : ∀ j ∈ p.slots, j ∈ own)
    (h : Here X α H σ env S) (o : Want X RX W α H σ (dDcG putA zeroA cellA own p i t fk fv env S) Q) : tDcX κ (tI X RX W i (IterOk X)) (tG X p) (tT X RX WF t) (tE X RX WF fk) (tE X RX WF fv) own σ H Q := by
  refine ⟨α, env, S, h, ?_⟩
  unfold dDcG at o
  have ob := o.bind
  have key : ∀ {xs : List PyData} {S1 : Store} {α1 : AM} {H1 : Hp}, Ext α H α1 H1 → WR X.prog X.w X.K α1 H1 S1 → Want X RX W α1 H1 σ ((if small xs.length then compD putA p t fk fv (wipeE env own) xs zeroA S1 else .stuck).bind fun acc S2 => .ok (.r S2.length) (S2 ++ [cellA acc])) Q → ∀ J, IterOk X J xs α1 H1 →
      ∀ D, H1 D = none → (D == sysModules) = false → ∃ W' : Nat → Nat → Hp → Prop, (∃ m, W' 0 m (upd H1 D (κ.zero D))) ∧ ∀ i m H, W' i m H → (J.stop i H ∧ Q (.ref D) H) ∨ (J.go i H ∧ ∃ Nx : Hp → Prop, (∀ H', Nx H' → ∃ m', m' < m ∧ W' (i + 1) m' H') ∧ ∀ x H', J.yld i H x H' → tG X p x (wipe σ own) H' fun σ2 H2 => wipe σ2 own = wipe σ own ∧ tT X RX WF t σ2 H2 fun b H3 =>
        if b = true then tE X RX WF fk σ2 H3 fun y H4 => tE X RX WF fv σ2 H4 fun z H5 => κ.put D y z H5 Nx else Nx H3) := by
    intro xs S1 α1 H1 e1 w1 o1 J hJ D hD hsys
    split at o1
    · rename_i hsm
      have inv : ∀ (n : Nat) (Hc : Hp), Prop := fun n Hc => True
      refine ⟨fun i m Hc => i + m = xs.length ∧ ∃ (α2 : AM) (S2 : Store) (acc : A), Here X α2 Hc (wipe σ own) (wipeE env own) S2 ∧ α2.b = D :: α1.b ∧ CellRep X.prog X.w X.K α2 Hc D (cellA acc) ∧ Keep α1 H1 α2 Hc ∧
        (∀ (n : Nat) (x : Option Addr), α1.c[n]? = some x → α2.c[n]? = some x ∨ α2.c[n]? = some none) ∧ (∀ a ∈ α1.b, Hc a = H1 a) ∧
        compD putA p t fk fv (wipeE env own) xs zeroA S1 = compD putA p t fk fv (wipeE env own) (xs.drop i) acc S2, ⟨xs.length, Nat.zero_add _, α1.block D, S1, zeroA, ⟨(re_wipe (h.re.ext e1) own).keepK (Keep.block D hD) (fun n x q => .inl q), w1.block hD⟩, rfl, R.zero _ H1 D hsys, Keep.block D hD, fun n x q => .inl q, fun a ha => upd_ne fun z => ?_, by rw [List.drop_zero]⟩, ?_⟩
      · subst z; obtain ⟨_, u, q⟩ := w1.bl _ ha; rw [hD] at q; cases q
      · rintro i m Hc ⟨em, α2, S2, acc, h2, hb, hDc, kp, rf, bk, eq⟩
        obtain ⟨go, stop⟩ := hJ α2 Hc kp fun p hp => h2.wr.fresh hp
        have hDb : D ∈ α2.b := by rw [hb]; exact List.mem_cons_self
        by_cases hi : i < xs.length
        · have gi := List.getElem?_eq_getElem hi
          obtain ⟨g1, g2⟩ := go i _ gi
          rw [List.drop_eq_getElem_cons hi] at eq
          rw [compD] at eq
          cases q1 : gPat p xs[i] (wipeE env own) with
          | none => rw [q1] at eq; simp only [] at eq; rw [eq] at o1; exact o1.elim
          | some env1 =>
          rw [q1] at eq
          cases q2 : t env1 S2 with
          | stuck => simp only [q2, noX, Res.bind] at eq; rw [eq] at o1; exact o1.elim
          | exc x S3 => simp only [q2, noX, Res.bind] at eq; rw [eq] at o1; exact o1.elim
          | ok b S3 =>
          simp only [q2, noX, Res.bind] at eq
          refine .inr ⟨g1, fun Hn => ∃ (α2 : AM) (S2 : Store) (acc : A), Here X α2 Hn (wipe σ own) (wipeE env own) S2 ∧ α2.b = D :: α1.b ∧ CellRep X.prog X.w X.K α2 Hn D (cellA acc) ∧ Keep α1 H1 α2 Hn ∧
            (∀ (n : Nat) (x : Option Addr), α1.c[n]? = some x → α2.c[n]? = some x ∨ α2.c[n]? = some none) ∧ (∀ a ∈ α1.b, Hn a = H1 a) ∧
            compD putA p t fk fv (wipeE env own) xs zeroA S1 = compD putA p t fk fv (wipeE env own) (xs.drop (i + 1)) acc S2, fun H' r => ⟨m - 1, by omega, by omega, r⟩, fun v H'' hy => ?_⟩
          obtain ⟨rv, up⟩ := g2 v H'' hy
          have eu : Ext α2 Hc α2 H'' := Ext.up h2.wr up
          refine ⟨α2, wipeE env own, S2, _, env1, ⟨h2.re.ext eu, h2.wr.up up⟩, rv, q1, fun σ3 h3 ag => ⟨?_, ?_⟩⟩
          · have : Agr own (wipe σ own) σ3 := ⟨ag.1, fun j hj => ag.2 j fun z => hj (hp j z)⟩
            rw [wipe_agr this]; exact wipe_idem
          · refine ⟨α2, env1, S2, h3, ?_⟩
            rw [q2]
            intro α3 H3 e3 w3
            have ebase : Ext α2 Hc α3 H3 := eu.trans e3
            have cellAt : ∀ {β : AM} {G : Hp}, Ext α2 Hc β G → CellRep X.prog X.w X.K β G D (cellA acc) := fun {β G} e => hDc.keep e.keep (e.blk D hDb)
            have kpAt : ∀ {β : AM} {G : Hp}, Ext α2 Hc β G → Keep α1 H1 β G := fun {β G} e a u hu hn => let ⟨z1, z2⟩ := kp a u hu hn; e.keep a u z1 z2
            have rfAt : ∀ {β : AM} {G : Hp}, Ext α2 Hc β G → ∀ (n : Nat) (x : Option Addr), α1.c[n]? = some x → β.c[n]? = some x ∨ β.c[n]? = some none := fun {β G} e n x q => by
              rcases rf n x q with z | z
              · exact e.ref n x z
              · rcases e.ref n _ z with y | y <;> exact .inr y
            have bkAt : ∀ {β : AM} {G : Hp}, Ext α2 Hc β G → ∀ a ∈ α1.b, G a = H1 a := fun {β G} e a ha => (e.blk a (by rw [hb]; exact List.mem_cons_of_mem _ ha)).trans (bk a ha)
            cases b with
            | false =>
              simp only [Bool.false_eq_true, if_false] at eq ⊢
              exact ⟨α3, S3, acc, ⟨h2.re.ext ebase, w3⟩, ebase.bl.trans hb, cellAt ebase, kpAt ebase, rfAt ebase, bkAt ebase, eq⟩
            | true =>
              simp only [if_true] at eq ⊢
              refine ⟨α3, env1, S3, h3.ext X e3 w3, ?_⟩
              cases q3 : fk env1 S3 with
              | stuck => simp only [q3, noX, Res.bind] at eq; rw [eq] at o1; exact o1.elim
              | exc x S4 => simp only [q3, noX, Res.bind] at eq; rw [eq] at o1; exact o1.elim
              | ok d S4 =>
                simp only [q3, noX, Res.bind] at eq
                intro α4 H4 e4 w4 y ry
                refine ⟨α4, env1, S4, (h3.ext X e3 w3).ext X e4 w4, ?_⟩
                cases q4 : fv env1 S4 with
                | stuck => simp only [q4] at eq; rw [eq] at o1; exact o1.elim
                | exc x S5 => simp only [q4] at eq; rw [eq] at o1; exact o1.elim
                | ok e S5 =>
                  simp only [q4] at eq
                  intro α5 H5 e5 w5 z rz
                  split at eq
                  · rename_i dy dz
                    split at eq
                    · rename_i acc' ha
                      have eall : Ext α2 Hc α5 H5 := (ebase.trans e4).trans e5
                      have hDb5 : D ∈ α5.b := by rw [eall.bl]; exact hDb
                      have gk : ∀ {o : HO}, Keep α5 H5 α5 (upd H5 D o) := fun {o} => Keep.grow hDb5
                      refine R.step α5 H5 D acc acc' y z dy dz _ (cellAt eall) hDb5 (Rp.ext e5 ry) rz ha fun o hcell => ?_
                      refine ⟨α5, S5, acc', ⟨(h2.re.ext eall).keepK gk (fun n x q => .inl q), w5.grow hDb5⟩, eall.bl.trans hb, hcell, fun a u hu hn => ?_, rfAt eall, fun a ha => ?_, eq⟩
                      · obtain ⟨z1, z2⟩ := kpAt eall a u hu hn
                        exact gk a u z1 z2
                      · have ne : a ≠ D := fun z => by subst z; obtain ⟨_, u, q⟩ := w1.bl _ ha; rw [hD] at q; cases q
                        rw [upd_ne ne]; exact bkAt eall a ha
                    · rw [eq] at o1; exact o1.elim
                  · rw [eq] at o1; exact o1.elim
        · have e : i = xs.length := by omega
          subst e
          rw [List.drop_length] at eq
          simp only [compD] at eq
          rw [eq] at o1
          exact .inl ⟨stop, fin_any α1 H1 α2 Hc S2 D (h2.wr.pw.trans w1.pw.symm) h2.wr hb (w1.fresh hD) hDc kp rf bk o1⟩
    · exact o1.elim
  cases hr : i env S with
  | ok xs S1 => rw [hr] at ob; exact fun α1 H1 e1 w1 J hJ D hD hs => key e1 w1 (ob α1 H1 e1 w1) J hJ D hD hs
  | exc x S1 => rw [hr] at ob; exact ob
  | stuck => rw [hr] at ob; exact ob
theorem ps_setDcX {κ : DKind X.prog X.w X.K} {i : Nat} {y : Str} {py : Pos} {kx vx tg iter : Expr} {ifs : List Expr} {scope : Scope} {own : List (Str × Nat)} {lpos : Pos} {wi : TI} {g : TG} {tt : TT} {tk tv : TE} (hu : X.A.units + 64 < cLine) (hc : X.calm = true) (hN : X.N.Nodup) (hy : X.N[i]? = some y) (hyl : X.env.scope.names.lookup y = some .local)
    (hsw : swapsWith (.DictComp kx vx [⟨tg, iter, ifs, 0⟩] scope lpos) (some (.Name y py)) pos.line X.env = pure true) (hi : PI X tg iter wi) (ok : BlkOk X.N X.env.scope scope own)
    (hg : ∀ (s : Shared) (H : Hp) (C : Addr) (cl : List (Str × Addr)) (fp : List Addr), PG (blkX X s H scope C cl fp) tg g) (ht : ∀ (s : Shared) (H : Hp) (C : Addr) (cl : List (Str × Addr)) (fp : List Addr), PTs (blkX X s H scope C cl fp) ifs tt)
    (hk : ∀ (s : Shared) (H : Hp) (C : Addr) (cl : List (Str × Addr)) (fp : List Addr), PE (blkX X s H scope C cl fp) kx tk) (he : ∀ (s : Shared) (H : Hp) (C : Addr) (cl : List (Str × Addr)) (fp : List Addr), PE (blkX X s H scope C cl fp) vx tv)
    (hs : ∀ x, foldedSetIterable iter X.env x = pure x := by intro _; rfl) : PS X (.Assign [.Name y py] (.DictComp kx vx [⟨tg, iter, ifs, 0⟩] scope lpos) pos) (tAsg (tDcX κ wi g tt tk tv (own.map (·.2))) (gName i)) := by
  refine ⟨fun pins s σ H D I h => ?_⟩
  rw [exec_Assign_Name_used _ _ _ _ hsw]
  refine wpAny_bind (wpAny_standAt (wpAny_bind ?_))
  show wpAny _ X.A (do let _ ← comprehension (.DictComp kx vx [⟨tg, iter, ifs, 0⟩] scope lpos) scope X.env (firstIterPos [⟨tg, iter, ifs, 0⟩] lpos) newDict false (eval iter X.env) (some (assign (.Name y py) X.env))) _ _ s
  have h : tDcX κ wi g tt tk tv (own.map (·.2)) σ H (fun x H1 => gName i x σ H1 D.nx) := h
  refine wpAny_bind (thn (dcx_core (Qf := fun _ s' => SP X pins D .next s') hu hc hN I hi ok hg ht hk he hs h fun L C s' m H' I' q hn ⟨f0, f1, f2, f3, f4, f5⟩ => ?_) fun _ s' hq => wpAny_pure (wpAny_pure hq))
  show wpAny _ _ (assign (.Name y py) X.env (.ref L)) _ _ _
  refine wpAny_assign_Name (store_ok2 (v := V.ref L) I' hN hy (.inl hyl) rfl (fun s2 I2 ⟨a, sb, ha⟩ => ?_) (.inr hyl))
  have ne : C ≠ a := ha.elim (fun z => by rw [z]; exact f1) fun z e => f4 y a z e.symm
  exact ⟨m, hn.sameBut sb ne, fun h3 sb3 => ⟨_, H', I2.turned (t' := s2.toks) (fun b o hb e => (sb3.2 b hb).trans e) f0 f1 f3 f4 f5, q⟩⟩
theorem sw_trueD {kx vx : Expr} {gs : List Comprehension} {scope : Scope} {lpos py : Pos} {y : Str} {l : Nat} {env : Env} (hk : env.scope.kind = .function) (hy : env.scope.names.lookup y = some .local) (hl : (py.line == lpos.line) = true)
    (ha : (scope.names.any fun (n, k) => n == y && (k == .local || k == .cell)) = false) : swapsWith (.DictComp kx vx gs scope lpos) (some (.Name y py)) l env = pure true := by
  have ky : env.kindOf y = some .local := hy
  have hb : env.blockKind = .function := by unfold Env.blockKind; rw [hk]; rfl
  unfold swapsWith
  simp only [hb, ky, ha, Expr.pos, hl]; rfl
section
variable {A : Type} {putA : A → PyData → PyData → Option A} {zeroA : A} {cellA : A → Cell}
theorem de_dc {κ : DKind X.prog X.w X.K} (R : DRun X κ putA zeroA cellA) {kx vx tg iter : Expr} {ifs : List Expr} {scope : Scope} (own : List (Str × Nat)) {p : Pat} {i : FI} {t : FT} {fk fv : FE} (hu : X.A.units + 64 < cLine) (hc : X.calm = true) (hN : X.N.Nodup) (hi : DI X RX W tg iter i) (ok : BlkOk X.N X.env.scope scope own)
    (hg : ∀ (s : Shared) (H : Hp) (C : Addr) (cl : List (Str × Addr)) (fp : List Addr), DG (blkX X s H scope C cl fp) tg p) (ht : ∀ (s : Shared) (H : Hp) (C : Addr) (cl : List (Str × Addr)) (fp : List Addr), PTsD (blkX X s H scope C cl fp) RX WF ifs t)
    (hk : ∀ (s : Shared) (H : Hp) (C : Addr) (cl : List (Str × Addr)) (fp : List Addr), DE (blkX X s H scope C cl fp) RX WF kx fk) (he : ∀ (s : Shared) (H : Hp) (C : Addr) (cl : List (Str × Addr)) (fp : List Addr), DE (blkX X s H scope C cl fp) RX WF vx fv) (hp : ∀ j ∈ p.slots, j ∈ own.map (·.2))
    (hs : ∀ x, foldedSetIterable iter X.env x = pure x := by intro _; rfl) : DE X RX W (.DictComp kx vx [⟨tg, iter, ifs, 0⟩] scope pos) (dDcG putA zeroA cellA (own.map (·.2)) p i t fk fv) :=
  peW (pe_dcX (κ := κ) hu hc hN hi ok hg (fun s H C cl fp => (ht s H C cl fp).run) hk he hs) fun σ H Q ⟨α, env, S, h, o⟩ => dc_read R hp h o
theorem ds_setDc {κ : DKind X.prog X.w X.K} (R : DRun X κ putA zeroA cellA) {i : Nat} {y : Str} {py : Pos} {kx vx tg iter : Expr} {ifs : List Expr} {scope : Scope} (own : List (Str × Nat)) {lpos : Pos} {p : Pat} {it : FI} {t : FT} {fk fv : FE} (hu : X.A.units + 64 < cLine) (hc : X.calm = true) (hN : X.N.Nodup) (hi : DI X RX W tg iter it) (ok : BlkOk X.N X.env.scope scope own)
    (hg : ∀ (s : Shared) (H : Hp) (C : Addr) (cl : List (Str × Addr)) (fp : List Addr), DG (blkX X s H scope C cl fp) tg p) (ht : ∀ (s : Shared) (H : Hp) (C : Addr) (cl : List (Str × Addr)) (fp : List Addr), PTsD (blkX X s H scope C cl fp) RX WF ifs t)
    (hk : ∀ (s : Shared) (H : Hp) (C : Addr) (cl : List (Str × Addr)) (fp : List Addr), DE (blkX X s H scope C cl fp) RX WF kx fk) (he : ∀ (s : Shared) (H : Hp) (C : Addr) (cl : List (Str × Addr)) (fp : List Addr), DE (blkX X s H scope C cl fp) RX WF vx fv) (hp : ∀ j ∈ p.slots, j ∈ own.map (·.2))
    (hsw : swapsWith (.DictComp kx vx [⟨tg, iter, ifs, 0⟩] scope lpos) (some (.Name y py)) pos.line X.env = pure true) (hy : X.N[i]? = some y := by rfl) (hyl : X.env.scope.names.lookup y = some .local := by rfl)
    (hs : ∀ x, foldedSetIterable iter X.env x = pure x := by intro _; rfl) : DS X RX W (.Assign [.Name y py] (.DictComp kx vx [⟨tg, iter, ifs, 0⟩] scope lpos) pos) (sSet i (dDcG putA zeroA cellA (own.map (·.2)) p it t fk fv)) :=
  psW (ps_setDcX (κ := κ) hu hc hN hy hyl hsw hi ok hg (fun s H C cl fp => (ht s H C cl fp).run) hk he hs) fun D σ H ⟨α, env, S, h, o⟩ => dc_read R hp h (want_set h o)
end
end
end G

set_option Elab.async false
set_option linter.all false
set_option autoImplicit false
set_option maxRecDepth 100000
set_option maxHeartbeats 4000000
/-! max and min of rows of data -/
namespace G
open PySem PySem.Spec PyProof.Rows L2
section
variable {X : Cx} {RX : RXT} {W : WX} {α α' : AM} {H H' : Hp} {σ : St} {S S' : Store} {env : DEnv} {pos : Pos}
theorem best_ok {pins : List (Addr × Obj)} {s : Shared} {ys : List V} {xs : List PyData} {its : List Value} {m : PyData} {Q : VK} (I : Inv X pins σ H s) (wr : WR X.prog X.w X.K α H S) (rits : Vals ys its) (h2 : RpL X.K α H ys xs) (o : Want X RX W α H σ (.ok (.v m) S) Q)
    (i : Nat) (v : Value) (h' : Heap) (tk : Nat) (bs : List Addr) (hv : its.toArray[i]? = some v) (rd : Reads h' v m bs) (hk : ∀ b o, s.heap.get? b = some o → h'.get? b = some o) : EP X pins σ Q v { s with heap := h', toks := tk } := by
  have hv : its[i]? = some v := by simpa using hv
  have li : i < its.length := (List.getElem?_eq_some_iff.mp hv).1
  have lx : i < xs.length := by rw [← h2.length, rits.length]; exact li
  obtain ⟨y, hy, ry⟩ := h2.get (i := i) (List.getElem?_eq_getElem lx)
  obtain ⟨u, hu, rv⟩ := rits.get hy
  rw [hv] at hu; cases hu
  obtain ⟨as, r1⟩ := Dp.reads I _ y v ry.dp rv
  have e := reads_det (h := s.heap) (h' := h') (fun b o h _ => hk b o h) r1 rd
  exact ⟨y, H, I.kept hk, rv, o.get wr _ (show Rp X.K α H y m by rw [e.1]; exact ry)⟩
theorem alikeAll_of {x : PyData} {xs : List PyData} (h : (allAlikeB (x :: xs) && (x :: xs).all (fun y => !isNone y)) = true) : PySem.W.AlikeAll (x :: xs) := by
  rw [Bool.and_eq_true] at h
  refine ⟨allAlike_of h.1, fun d hd e => ?_⟩
  have := List.all_eq_true.mp h.2 d hd
  subst e; cases this
theorem cd_max (hc : X.calm = true) (hu : X.A.units + 70 < cLine) : CallD X RX W (.builtin "max") opMax := by
  intro pins s σ α H S vs us ds Q I rv wr rd o
  unfold opMax at o
  split at o
  · obtain ⟨v, u, rfl, r1, r2⟩ := RepDs.inv2 rd
    cases r1; cases r2
    exact call_max2 hc pins s σ H _ us Q I rv ⟨_, _, rfl, o.get wr _ (.int _)⟩
  · obtain ⟨v, rfl, r⟩ := RepDs.inv1 rd
    split at o
    · rename_i x xs hx
      split at o
      · rename_i hs
        rw [Bool.and_eq_true] at hs
        have hd := of_decide_eq_true hs.2
        obtain ⟨a, ys, rfl, h1, h2⟩ := seq_sq wr r hx
        rw [Vals.ref1 rv]
        rcases h1 with h1 | h1
        · obtain ⟨its, rits, hl, _⟩ := I.list h1
          obtain ⟨as, hr⟩ := Dp.readsAll I _ ys its h2.dp rits
          exact PySem.W.max_list_data (I.ok.hd hc) hl.isList hr (alikeAll_of hs.1) (by show X.A.units + 1 + _ < _; omega) fun i v h' tk bs e r k => best_ok I wr rits h2 o i v h' tk bs e r k
        · obtain ⟨its, rits, hl, _⟩ := I.tuple h1
          obtain ⟨as, hr⟩ := Dp.readsAll I _ ys its h2.dp rits
          exact PySem.W.max_tuple_data (I.ok.hd hc) hl hr (alikeAll_of hs.1) (by show X.A.units + 1 + _ < _; omega) fun i v h' tk bs e r k => best_ok I wr rits h2 o i v h' tk bs e r k
      · exact o.elim
    · exact o.elim
  · exact o.elim
theorem cd_min (hc : X.calm = true) (hu : X.A.units + 70 < cLine) : CallD X RX W (.builtin "min") opMin := by
  intro pins s σ α H S vs us ds Q I rv wr rd o
  unfold opMin at o
  split at o
  · obtain ⟨v, u, rfl, r1, r2⟩ := RepDs.inv2 rd
    cases r1; cases r2
    exact call_min2 hc pins s σ H _ us Q I rv ⟨_, _, rfl, o.get wr _ (.int _)⟩
  · obtain ⟨v, rfl, r⟩ := RepDs.inv1 rd
    split at o
    · rename_i x xs hx
      split at o
      · rename_i hs
        rw [Bool.and_eq_true] at hs
        have hd := of_decide_eq_true hs.2
        obtain ⟨a, ys, rfl, h1, h2⟩ := seq_sq wr r hx
        rw [Vals.ref1 rv]
        rcases h1 with h1 | h1
        · obtain ⟨its, rits, hl, _⟩ := I.list h1
          obtain ⟨as, hr⟩ := Dp.readsAll I _ ys its h2.dp rits
          exact PySem.W.min_list_data (I.ok.hd hc) hl.isList hr (alikeAll_of hs.1) (by show X.A.units + 1 + _ < _; omega) fun i v h' tk bs e r k => best_ok I wr rits h2 o i v h' tk bs e r k
        · obtain ⟨its, rits, hl, _⟩ := I.tuple h1
          obtain ⟨as, hr⟩ := Dp.readsAll I _ ys its h2.dp rits
          exact PySem.W.min_tuple_data (I.ok.hd hc) hl hr (alikeAll_of hs.1) (by show X.A.units + 1 + _ < _; omega) fun i v h' tk bs e r k => best_ok I wr rits h2 o i v h' tk bs e r k
      · exact o.elim
    · exact o.elim
  · exact o.elim
end
end G

set_option Elab.async false
set_option linter.all false
set_option autoImplicit false
set_option maxRecDepth 100000
namespace G
open PySem PySem.Spec PyProof.Rows L2
theorem bt_isinstance : bootBuiltins "isinstance" = some (.builtin "isinstance") := by decide +kernel
theorem bt_len : bootBuiltins "len" = some (.builtin "len") := by decide +kernel
theorem bt_abs : bootBuiltins "abs" = some (.builtin "abs") := by decide +kernel
theorem bt_sum : bootBuiltins "sum" = some (.builtin "sum") := by decide +kernel
theorem bt_any : bootBuiltins "any" = some (.builtin "any") := by decide +kernel
theorem bt_all : bootBuiltins "all" = some (.builtin "all") := by decide +kernel
theorem bt_sorted : bootBuiltins "sorted" = some (.builtin "sorted") := by decide +kernel
theorem bt_max : bootBuiltins "max" = some (.builtin "max") := by decide +kernel
theorem bt_min : bootBuiltins "min" = some (.builtin "min") := by decide +kernel
theorem bt_list : bootBuiltins "list" = some (.type "list") := by decide +kernel
theorem bt_tuple : bootBuiltins "tuple" = some (.type "tuple") := by decide +kernel
theorem bt_int : bootBuiltins "int" = some (.type "int") := by decide +kernel
theorem bt_bool : bootBuiltins "bool" = some (.type "bool") := by decide +kernel
theorem bt_str : bootBuiltins "str" = some (.type "str") := by decide +kernel
theorem bt_dict : bootBuiltins "dict" = some (.type "dict") := by decide +kernel
theorem hu65 {k : Nat} {A : Around} (hr : Room k A) : A.units + 65 < cLine := by have := hr.un; omega
theorem hu70 {k : Nat} {A : Around} (hr : Room k A) : A.units + 70 < cLine := by have := hr.un; omega
def RX0 : RXT := fun _ _ _ _ _ => False
theorem rxok : RXok RX0 := fun _ _ _ _ _ _ h => h
theorem cx_none {P : Program} {w : World} {H : Hp} {s : Shared} {e : Value} {s' : Shared} (c : L2N.CX P w [] H s (fun _ _ _ => False) e s') : False := by
  obtain ⟨a, B, H', cls, d, rfl, fl, hok, ub, na, os, ag, hE⟩ := c
  exact hE
/-- what the plain run says is what the law's walk needs -/
theorem law_sp {P : Program} {w : World} {K : PySem.W.Frag} {RX : RXT} {c : Fn} {n : Nat} {H : Hp} {a : Addr} {ns : List Int} (hl : ns.length ≤ n) (hO : Only H) (hS : SqL K H a (ns.map V.int))
    (h : ∃ S, c [.k (ns.map .int)] [] = .ok (.v (.bool true)) S) : spD P w K RX c 1 [.ref a] H (fun v _ => v = .bl true) fun _ _ _ => False := by
  obtain ⟨S, h⟩ := h
  refine ⟨rfl, ⟨[], [], (P, w)⟩, [.k (ns.map .int)], [], .cons ⟨a, _, rfl, ?_, RpL.mkInts ns⟩ .nil, ⟨rfl, fun i _ _ h => by simp at h, fun i _ _ h => by simp at h, fun i _ h => by simp at h, (fun _ h => by cases h), rfl⟩, ?_⟩
  · rcases hS with h | h
    · exact .inl ⟨h, by simp [AM.no]⟩
    · exact .inr h
  · show OkR P w K RX _ _ H (c [.k (ns.map .int)] []) _
    rw [h]
    intro α' H' v e w1 r
    cases r; rfl
end G

set_option Elab.async false
set_option linter.all false
set_option autoImplicit false
set_option maxRecDepth 100000
set_option maxHeartbeats 4000000
/-! sorted(d), list(d): the keys of a dict with tuple keys -/
namespace G
open PySem PySem.Calls PySem.Spec PyProof.Rows L2
section
variable {prog : Program} {w : World} {A : Around} {E : Value → Shared → Prop} {s : Shared} {T : String} {r d : Addr} {n : Nat} {P : Nat → Value → Prop} {OK : Heap → Prop}
theorem walks_exact (hh : A.handled = none) (I d : Addr) (hne : d ≠ I) {o : Obj} {es : Array DictEntry} {ep : Nat} (hdt : o.data = .dict es ep) :
    Walks prog w A I [I, d] [I] es.size (fun i v => ∃ e, es[i]? = some e ∧ v = e.key) (fun i h => h.IsKeyIter I d i es.size ep ∧ h.get? d = some o) where
  sub := fun b hb => by simp at hb; simp [hb]
  frame := fun _ _ _ st hk => ⟨st.1.at fun o e => hk I (by simp) o e, hk d (by simp) o st.2⟩
  item := fun i s Q E hi st hQ => by
    refine next_key_item st.1 st.2 hdt rfl (Array.getElem?_eq_getElem hi) fun h' hit' hs' => ?_
    exact hQ _ h' s.toks ⟨_, Array.getElem?_eq_getElem hi, rfl⟩ ⟨hit', (hs'.2 d hne).trans st.2⟩ fun b o hb e => (hs'.2 b (fun h => hb (by simp [h]))).trans e
  done := fun s Q E st hQ => next_key_end hh st.1 st.2 hdt rfl (Nat.le_refl _) fun h' he' => hQ h' s.toks fun b o hb e => he' b o (fun h => hb (by simp [h])) e
  self := fun _ _ _ _ st hQ => wpAny_pyIter_keyiter st.1 hQ
theorem kdl_exact {o : Obj} {es : Array DictEntry} {ep : Nat} (lo : (d == sysModules) = false) (hx : o.ExactDict) (hdt : o.data = .dict es ep) : PySem.W.KdlSrc prog w "dict" d d es.size (fun i v => ∃ e, es[i]? = some e ∧ v = e.key) (fun h => h.get? d = some o) where
  type := fun _ h => ⟨o, h, hx.1⟩
  there := fun _ h => ⟨Heap.lt_size h, Heap.lt_size h⟩
  keep := fun _ _ e hk => hk d (.inl rfl) o e
  notList := by decide
  notTuple := by decide
  hint := fun _ _ _ _ hm hq => PySem.W.kdl_hint_dict ⟨o, hm, hx.1⟩ hq
  iter := fun _ _ hh hm => ⟨_, _, (fun _ _ hq => iter_keys lo hm hx hdt hq), walks_exact hh _ d (Nat.ne_of_lt (Heap.lt_size hm)) hdt, ⟨⟨_, Heap.get?_push_size _ rfl, rfl, rfl⟩, Heap.get?_push_of_some _ hm⟩⟩
theorem sorted_src {Q : Value → Shared → Prop} (K : PySem.W.KdlSrc prog w T r d n P OK) (hh : A.handled = none) (hok : OK s.heap) (hn : n ≤ sizeLine)
    (h : ∀ (h' : Heap) (tk : Nat) (acc : Array Value), (∀ b o, s.heap.get? b = some o → h'.get? b = some o) → ItemsOf P acc n →
      wpAny (model prog w) A.in1 (call (.builtin "list.sort") [.ref h'.objs.size]) (fun _ s' => Q (.ref h'.objs.size) s') E { s with heap := h'.push { cls := .type "list", data := .seq acc.toList.toArray }, toks := tk }) :
    wpAny (model prog w) A (call (.builtin "sorted") [.ref r]) Q E s := by
  refine call_function_entry kind_sorted plain_sorted entry_sorted (args_sorted1 _) ?_
  unfold Builtin.«sorted»
  refine wpAny_bind (m := checkCount "sorted" 1 1 _) (wpAny_pure ?_)
  refine wpAny_bind (PySem.W.kdu_collect (A := A.in1) K hh hok hn fun h' tk acc hk hacc => ?_)
  have hl : acc.toList.length = n := by rw [Array.length_toList]; exact hacc.1
  refine wpAny_bind (wpAny_newList ?_ (by rw [hl]; exact hn))
  refine wpAny_bind (wpAny_holding (wpAny_mono (h h' tk acc hk hacc) (fun _ s' x => ?_) fun _ _ e => e))
  exact wpAny_pure ⟨_, rfl, x⟩
end

def opSortedT : Op := fun ds S => match ds with
  | [d] => (match dtOf S d with
    | some kvs => if sortOk (kvs.map (·.1)) then .ok (.v (.list (sortD (kvs.map (·.1))))) S else .stuck
    | none => .stuck)
  | _ => .stuck
def opListT : Op := fun ds S => match ds with
  | [d] => (match dtOf S d with
    | some kvs => .ok (.v (.list (kvs.map (·.1)))) S
    | none => .stuck)
  | _ => .stuck
section
variable {X : Cx} {RX : RXT} {W : WX} {α α' : AM} {H H' : Hp} {σ : St} {S S' : Store} {env : DEnv} {pos : Pos}
theorem keys_each {P : Program} {w : World} {s : Shared} {ys : List (NestedKey × Addr × Value)} {kvs : List (PyData × PyData)} {k : (NestedKey × Addr × Value) → Value}
    (pr : Paired (fun (x : NestedKey × Addr × Value) (q : PyData × PyData) => keyN q.1 = some x.1 ∧ x.1.depth ≤ 8 ∧ Rp X.K α H (.ref x.2.1) q.1 ∧ ∃ v, RelV v x.2.2 ∧ Rp X.K α H v q.2) ys kvs) (hk : ∀ x, k x = .ref x.2.1) :
    PySem.W.EachIs (fun u x => ∃ y, RelV y u ∧ Rp X.K α H y x) (ys.map k) (kvs.map (·.1)) := by
  induction pr with
  | nil => exact .nil
  | cons r _ ih => exact .cons ⟨_, by rw [hk]; rfl, r.2.2.1⟩ ih
theorem each_at {β γ : Type} {R : β → γ → Prop} : ∀ {as as' : List β} {bs : List γ}, PySem.W.EachIs R as bs → as' = as → PySem.W.EachIs R as' bs := fun e h => h ▸ e
theorem cd_sortedT (hc : X.calm = true) (hu : X.A.units + 70 < cLine) : CallD X RX W (.builtin "sorted") opSortedT := by
  intro pins s σ α H S vs us ds Q I rv wr rd o
  unfold opSortedT at o
  split at o
  · obtain ⟨v, rfl, r⟩ := RepDs.inv1 rd
    split at o
    · rename_i kvs hx
      split at o
      · rename_i hs
        unfold sortOk at hs
        rw [Bool.and_eq_true, Bool.and_eq_true] at hs
        obtain ⟨⟨ha, hk⟩, hd⟩ := hs
        obtain ⟨a, rfl, hcell⟩ := dtOf_at wr r hx
        rw [Vals.ref1 rv]
        obtain ⟨ob, es, ep, xs, h0, h1, h2, h3, h4, h5, h6, pr⟩ := hcell
        have ho : s.heap.get? a = some ob := (I.hok a _ h0).1
        have hlen : es.size = kvs.length := by
          have : es.toList.length = xs.length := by rw [h4, List.length_map]
          rw [Array.length_toList] at this
          rw [this]; exact Paired.length pr
        refine sorted_src (kdl_exact h1 h2 h3) (I.ok.hd hc) ho (by rw [hlen]; exact h6) fun h' tk acc kp items => ?_
        have eacc : acc.toList = xs.map fun x => Value.ref x.2.1 := by
          have l1 : acc.toList.length = (xs.map fun x => Value.ref x.2.1).length := by
            rw [Array.length_toList, items.1, List.length_map, hlen]; exact (Paired.length pr).symm
          refine List.ext_getElem l1 fun i g1 g2 => ?_
          obtain ⟨e, e1, e2⟩ := items.2 i acc.toList[i] (by rw [← Array.getElem?_toList]; exact List.getElem?_eq_getElem g1)
          have : es.toList[i]? = some e := by rw [Array.getElem?_toList]; exact e1
          rw [h4, List.getElem?_map] at this
          obtain ⟨x, e3, e4⟩ := Option.map_eq_some_iff.mp this
          rw [e2, ← e4]
          have e5 := List.getElem?_eq_some_iff.mp e3
          obtain ⟨e6, e7⟩ := e5
          rw [List.getElem_map, e7]
          rfl
        have I1 : Inv X pins σ H { s with heap := h', toks := tk } := I.kept kp
        have kp2 : ∀ b o, h'.get? b = some o → (h'.push { cls := .type "list", data := .seq acc.toList.toArray }).get? b = some o := fun b o e => Heap.get?_push_of_some _ e
        have er : PySem.W.EachIs (fun u x => ∃ y, RelV y u ∧ Rp X.K α H y x) acc.toList (kvs.map (·.1)) := each_at (keys_each (P := X.prog) (w := X.w) (s := s) (k := fun x => Value.ref x.2.1) pr fun _ => rfl) eacc
        have hD : (h'.push { cls := .type "list", data := .seq acc.toList.toArray }).get? h'.objs.size = some (seqObj "list" acc.toList.toArray 0) := Heap.get?_push_size _ rfl
        have er2 : PySem.W.EachIs (fun u x => ∃ as, Reads (h'.push { cls := .type "list", data := .seq acc.toList.toArray }) u (id x) as ∧ h'.objs.size ∉ as) acc.toList (kvs.map (·.1)) := each_imp (fun u x ⟨y, ry, q⟩ => by
          obtain ⟨as, r1⟩ := Dp.reads I1 x y u q.dp ry
          refine ⟨as, Reads.keeps kp2 r1, fun hm => ?_⟩
          obtain ⟨o1, e1⟩ := PyProof.On.reads_mem_get r1 _ hm
          exact absurd (Heap.lt_size e1) (Nat.lt_irrefl _)) er
        refine PySem.W.list_sort_data (R := fun u x => ∃ y, RelV y u ∧ Rp X.K α H y x) (enc := id) hD er er2 ?_ ?_ ?_ ?_ ?_
        · rw [List.map_id]; exact allAlike_of ha
        · rw [List.map_id]
          rw [Bool.or_eq_true] at hk
          rcases hk with hk | hk
          · refine .inl fun d hd => ?_
            have := List.all_eq_true.mp hk d hd
            unfold isTup1 at this
            split at this
            · exact ⟨_, _, rfl⟩
            · cases this
          · refine .inr fun d hd => ?_
            have := List.all_eq_true.mp hk d hd
            rw [Bool.and_eq_true] at this
            refine ⟨fun e => ?_, fun xs e => ?_⟩
            · subst e; exact absurd this.1 (by decide)
            · subst e; exact absurd this.2 (by simp [isTup])
        · rw [List.length_map]; exact h6
        · intro b hb
          have := of_decide_eq_true (List.all_eq_true.mp hd b hb)
          show X.A.units + 1 + 1 + (id b).depth < cLine
          show X.A.units + 1 + 1 + b.depth < cLine
          omega
        · intro out ho2 eo
          obtain ⟨ws, w1, w2⟩ := each_back eo
          obtain ⟨e, he'⟩ := sortedHeap_at (vs := acc.toList) (out := out.toArray) hD
          have hp : H h'.objs.size = none := I1.hok.fresh (Nat.le_refl _)
          have hlen2 : ws.length ≤ sizeLine := by rw [w1.length, ho2, List.length_map]; exact h6
          have o : Want X RX W α H σ (.ok (.v (.list (sortD (kvs.map (·.1))))) S) Q := o
          rw [sortD_eq] at o
          refine ⟨.ref _, upd H h'.objs.size (.lst ws), I1.laid (t' := tk) (fun b u e => ?_) (Nat.le_refl _) ⟨hlen2, out, e, w1, he'⟩, rfl, o.newL wr w2 hp⟩
          exact (sortedHeap_old (Nat.ne_of_lt (Heap.lt_size e)) (Heap.lt_size (kp2 _ _ e))).trans (kp2 _ _ e)
      · exact o.elim
    · exact o.elim
  · exact o.elim
end
end G

set_option Elab.async false
set_option linter.all false
set_option autoImplicit false
set_option maxRecDepth 100000
set_option maxHeartbeats 4000000
/-! sorted(set(xs)), xs a list of tuples of whole numbers -/
namespace G
open PySem PySem.Calls PySem.Spec PyProof.Rows L2
def encT (k : List Int) : PyData := .tuple (k.map .int)
section
variable {P : Program} {w : World} {A : Around} {E : Value → Shared → Prop} {s : Shared}
theorem each_refs : ∀ L : List (Addr × List Int), PySem.W.EachIs (fun u (q : Addr × List Int) => u = Value.ref q.1) (L.map fun q => Value.ref q.1) L
  | [] => .nil
  | _ :: L => .cons rfl (each_refs L)
theorem each_refs_inv : ∀ {us : List Value} {L : List (Addr × List Int)}, PySem.W.EachIs (fun u (q : Addr × List Int) => u = Value.ref q.1) us L → us = L.map fun q => Value.ref q.1
  | _, _, .nil => rfl
  | _, _, .cons e t => by rw [e, each_refs_inv t]; rfl
theorem reads_ints {h : Heap} : ∀ {k : List Int} {vs : List Value}, ItemsAre (PySem.intKind P w) k vs → ReadsAll h vs (k.map .int) []
  | [], _, .nil => .nil
  | n :: k, _, .cons r t => .cons (as := []) (bs := []) (PyProof.V.reads_key_int (prog := P) (w := w) n _ r) (reads_ints t)
theorem reads_isT {h : Heap} {k : List Int} {b : Addr} (x : IsT P w h k b) : Reads h (.ref b) (encT k) [] := by
  obtain ⟨o, its, n, ho, hc, hd, hi⟩ := x
  exact .tuple ho hc hd (reads_ints hi)
theorem alike_ints : ∀ xs ys : List Int, PySem.W.alikeAll (xs.map .int) (ys.map .int) = true
  | [], _ => by simp [PySem.W.alikeAll]
  | _ :: _, [] => by simp [PySem.W.alikeAll]
  | x :: xs, y :: ys => by simp [PySem.W.alikeAll, PySem.W.alike, alike_ints xs ys]
theorem alike_encT (x y : List Int) : PySem.W.alike (encT x) (encT y) = true := by unfold encT; rw [PySem.W.alike]; exact alike_ints x y
theorem depth_ints : ∀ xs : List Int, PyData.depthAll (xs.map .int) ≤ 1
  | [] => by simp [PyData.depthAll]
  | x :: xs => by
    have := depth_ints xs
    simp only [List.map_cons, PyData.depthAll, PyData.depth]
    omega
theorem depth_encT (k : List Int) : (encT k).depth ≤ 2 := by
  have := depth_ints k
  unfold encT
  simp only [PyData.depth]
  omega
theorem dataLe_encT (p q : List Int) : PySem.W.dataLe false encT p q = decide (p ≤ q) := by
  have := congrFun (congrFun (PySem.W.dataLe_rows (fun x : List Int => x)) p) q
  rw [← this]
  show (!PySem.W.dataLt (encT q) (encT p)) = (!PySem.W.dataLt _ _)
  unfold encT
  rw [PySem.W.dataLt_tuple, PySem.W.dataLt_list]

theorem sorted_setD {a : Addr} {L : List (Addr × List Int)} {es : Array (Int × Value)} {ep : Nat} {t : SetTable} {Q : Value → Shared → Prop} (R : SetTR P w s.heap a L es ep t) (hh : A.handled = none) (hu : A.units + 4 < cLine) (hne : ∀ p ∈ L, p.2 ≠ [])
    (hQ : ∀ s' p (out : Array Value) (c : Nat) (L' : List (Addr × List Int)), (∀ b o, s.heap.get? b = some o → s'.heap.get? b = some o) → s'.gens = s.gens → s'.os = s.os → s.heap.objs.size ≤ p →
      s'.heap.get? p = some (seqObj "list" out c) → out.toList = L'.map (fun q => Value.ref q.1) → L'.Perm L → L'.Pairwise (fun q r => q.2 ≤ r.2) → Q (.ref p) s') :
    wpAny (model P w) A (call (.builtin "sorted") [.ref a]) Q E s := by
  obtain ⟨o, ho, hex, hd⟩ := R.ob
  have hsz := R.size
  have hfew := R.few
  refine Calls.call_function_entry kind_sorted plain_sorted entry_sorted (args_sorted1 _) ?_
  unfold Builtin.«sorted»
  refine wpAny_bind (m := checkCount "sorted" 1 1 _) (wpAny_pure ?_)
  refine wpAny_bind (collect_set (A := A.in1) hh ⟨o, ho, hex.1, hd⟩ R.fits (by unfold scanBound; omega) R.tab.ris R.led fun s1 vs k1 hz g1 o1 pm => ?_)
  have hes : es.toList.map (·.2) = L.map fun q => Value.ref q.1 := by
    rw [R.rows]
    unfold rowsOf
    rw [List.map_map] <;> rfl
  rw [hes] at pm
  have ord : ∀ vs : List Value, (∀ v ∈ vs, ∃ q ∈ L, v = Value.ref q.1) → ∃ L1 : List (Addr × List Int), vs = L1.map (fun q => Value.ref q.1) ∧ ∀ q ∈ L1, q ∈ L := by
    intro vs
    induction vs with
    | nil => intro _; exact ⟨[], rfl, fun q hq => (by cases hq)⟩
    | cons v vs ih =>
      intro hv
      obtain ⟨q, hq, e⟩ := hv v List.mem_cons_self
      obtain ⟨L1, e1, hs⟩ := ih fun u hu => hv u (List.mem_cons_of_mem _ hu)
      refine ⟨q :: L1, by rw [List.map_cons, e, e1], fun r hr => ?_⟩
      rcases List.mem_cons.mp hr with z | z
      · rw [z]; exact hq
      · exact hs r z
  have one : ∀ q ∈ L, ∀ r ∈ L, q.1 = r.1 → q = r := fun q hq r hr e => by
    have a1 := R.tup q hq
    have a2 := R.tup r hr
    rw [e] at a1
    exact Prod.ext e (a1.inj a2)
  have perm_of : ∀ L1 : List (Addr × List Int), (∀ q ∈ L1, q ∈ L) → (L1.map (fun q => Value.ref q.1)).Perm (L.map fun q => Value.ref q.1) → L1.Perm L := by
    intro L1 hs pm1
    have nL : L.Nodup := nodup_of_map R.nd
    have nref : (L.map fun q => Value.ref q.1).Nodup := by
      refine List.pairwise_map.mpr (List.Pairwise.imp_of_mem (fun {q r} hq hr hne e => ?_) nL)
      injection e with e
      exact hne (one q hq r hr e)
    have n1 : L1.Nodup := nodup_of_map (pm1.nodup_iff.mpr nref)
    refine (List.perm_ext_iff_of_nodup n1 nL).mpr fun q => ⟨hs q, fun hq => ?_⟩
    have hm : Value.ref q.1 ∈ L1.map (fun q => Value.ref q.1) := pm1.mem_iff.mpr (List.mem_map.mpr ⟨q, hq, rfl⟩)
    obtain ⟨r, hr, e⟩ := List.mem_map.mp hm
    injection e with e
    rw [← one r (hs r hr) q hq e]
    exact hr
  obtain ⟨L1, e1, hs1⟩ := ord vs fun v hv => by
    obtain ⟨q, hq, e⟩ := List.mem_map.mp (pm.mem_iff.mp hv)
    exact ⟨q, hq, e.symm⟩
  have pm1 : L1.Perm L := perm_of L1 hs1 (by rw [← e1]; exact pm)
  have hvl : L1.length < 64 := by rw [pm1.length_eq]; exact hfew
  have hvl2 : vs.length < 64 := by rw [e1, List.length_map]; exact hvl
  refine wpAny_bind (wpAny_newList ?_ (by rw [sizeLine_eq]; omega))
  have hoL : (s1.heap.push (seqObj "list" vs.toArray 0)).get? s1.heap.objs.size = some (seqObj "list" vs.toArray 0) := Heap.get?_push_size _ rfl
  have e : PySem.W.EachIs (fun u (q : Addr × List Int) => u = Value.ref q.1) vs L1 := e1 ▸ each_refs L1
  have rdq : ∀ q ∈ L, Reads (s1.heap.push (seqObj "list" vs.toArray 0)) (.ref q.1) (encT q.2) [] := fun q hq => reads_isT (isT_keep (R.tup q hq) fun b u e => Heap.get?_push_of_some _ (k1 b u e))
  have er : PySem.W.EachIs (fun v (q : Addr × List Int) => ∃ as, Reads (s1.heap.push (seqObj "list" vs.toArray 0)) v (encT q.2) as ∧ s1.heap.objs.size ∉ as) vs L1 :=
    (PySem.W.each_mem e).mono fun v q ⟨ev, hq⟩ => ⟨[], ev ▸ rdq q (hs1 q hq), fun z => nomatch z⟩
  refine wpAny_bind (wpAny_holding (PySem.W.list_sort_data (s := { s1 with heap := s1.heap.push (seqObj "list" vs.toArray 0) }) (enc := fun q : Addr × List Int => encT q.2) hoL e er ?_ ?_ ?_ ?_ fun out h1 h2 => ?_))
  · intro d hd d' hd'
    obtain ⟨q, _, rfl⟩ := List.mem_map.mp hd
    obtain ⟨q', _, rfl⟩ := List.mem_map.mp hd'
    exact alike_encT _ _
  · refine .inl fun d hd => ?_
    obtain ⟨q, hq, rfl⟩ := List.mem_map.mp hd
    have := hne q (hs1 q hq)
    cases hk : q.2 with
    | nil => exact absurd hk this
    | cons x r => exact ⟨.int x, r.map .int, by unfold encT; rw [List.map_cons]⟩
  · rw [sizeLine_eq]; omega
  · intro b hb
    have := depth_encT b.2
    show A.units + 1 + 1 + _ < cLine
    omega
  obtain ⟨c, hc⟩ := sortedHeap_at (vs := vs) (out := out.toArray) hoL
  have e3 := each_refs_inv h2
  have pm2 : (L1.mergeSort (PySem.W.dataLe false fun q => encT q.2)).Perm L := (List.mergeSort_perm _ _).trans pm1
  have pw : (L1.mergeSort (PySem.W.dataLe false fun q => encT q.2)).Pairwise (fun q r => q.2 ≤ r.2) := by
    have el : (PySem.W.dataLe false fun q : Addr × List Int => encT q.2) = fun p q => decide (p.2 ≤ q.2) := by
      funext p q
      exact dataLe_encT p.2 q.2
    rw [el]
    have := List.pairwise_mergeSort (le := fun p q : Addr × List Int => decide (p.2 ≤ q.2)) (fun a b c x y => decide_eq_true (List.le_trans (of_decide_eq_true x) (of_decide_eq_true y))) (fun a b => by
      rw [Bool.or_eq_true]
      exact (List.le_total a.2 b.2).imp decide_eq_true decide_eq_true) L1
    exact this.imp fun h => of_decide_eq_true h
  refine wpAny_pure ⟨_, rfl, hQ _ s1.heap.objs.size out.toArray c _ (fun b u e => ?_) g1 o1 hz hc e3 pm2 pw⟩
  have q := k1 b u e
  have hlt := Heap.lt_size q
  show (sortedHeap (s1.heap.push (seqObj "list" vs.toArray 0)) s1.heap.objs.size vs out.toArray).get? b = some u
  rw [sortedHeap_old (Nat.ne_of_lt hlt) (by rw [size_push']; exact Nat.lt_succ_of_lt hlt)]
  exact Heap.get?_push_of_some _ q
end
/-! ### plain: the set of rows, sorted -/
def tupOf : PyData → Option (List Int)
  | .tuple xs => intsOf xs
  | _ => none
def tupsOf : List PyData → Option (List (List Int))
  | [] => some []
  | x :: r => match tupOf x, tupsOf r with
    | some k, some ks => some (k :: ks)
    | _, _ => none
def dedK : List (List Int) → List (List Int)
  | [] => []
  | a :: r => if a ∈ dedK r then dedK r else a :: dedK r
def insK (a : List Int) : List (List Int) → List (List Int)
  | [] => [a]
  | b :: r => if a ≤ b then a :: b :: r else b :: insK a r
def sortK : List (List Int) → List (List Int)
  | [] => []
  | a :: r => insK a (sortK r)
theorem mem_dedK {x : List Int} : ∀ {l : List (List Int)}, x ∈ dedK l ↔ x ∈ l
  | [] => Iff.rfl
  | a :: r => by
    rw [dedK]
    split
    · rename_i h
      rw [mem_dedK, List.mem_cons]
      exact ⟨.inr, fun z => z.elim (fun e => e ▸ mem_dedK.mp h) id⟩
    · rw [List.mem_cons, List.mem_cons, mem_dedK]
theorem nodup_dedK : ∀ l : List (List Int), (dedK l).Nodup
  | [] => List.nodup_nil
  | a :: r => by
    rw [dedK]
    split
    · exact nodup_dedK r
    · rename_i h
      exact List.nodup_cons.mpr ⟨h, nodup_dedK r⟩
theorem insK_perm (a : List Int) : ∀ l, (insK a l).Perm (a :: l)
  | [] => .refl _
  | b :: r => by
    rw [insK]
    split
    · exact .refl _
    · exact ((insK_perm a r).cons b).trans (List.Perm.swap a b r)
theorem sortK_perm : ∀ l, (sortK l).Perm l
  | [] => .refl _
  | a :: r => by rw [sortK]; exact (insK_perm a _).trans ((sortK_perm r).cons a)
theorem insK_sorted (a : List Int) : ∀ {l : List (List Int)}, l.Pairwise (· ≤ ·) → (insK a l).Pairwise (· ≤ ·)
  | [], _ => by rw [insK]; exact List.pairwise_singleton _ _
  | b :: r, h => by
    rw [insK]
    have h2 := List.pairwise_cons.mp h
    split
    · rename_i hab
      exact List.pairwise_cons.mpr ⟨fun x hx => (List.mem_cons.mp hx).elim (fun e => e ▸ hab) fun m => List.le_trans hab (h2.1 x m), h⟩
    · rename_i hab
      refine List.pairwise_cons.mpr ⟨fun x hx => ?_, insK_sorted a h2.2⟩
      rcases List.mem_cons.mp ((insK_perm a r).mem_iff.mp hx) with e | m
      · exact e ▸ (List.le_total a b).resolve_left hab
      · exact h2.1 x m
theorem sortK_sorted : ∀ l : List (List Int), (sortK l).Pairwise (· ≤ ·)
  | [] => .nil
  | a :: r => by rw [sortK]; exact insK_sorted a (sortK_sorted r)
/-- the one way to sort -/
theorem sortK_one {l m : List (List Int)} (p : m.Perm (dedK l)) (h : m.Pairwise (· ≤ ·)) : m = sortK (dedK l) :=
  List.Perm.eq_of_pairwise (fun a b _ _ x y => List.le_antisymm x y) h (sortK_sorted _) (p.trans (sortK_perm _).symm)
theorem set_perm {l m : List (List Int)} (hn : m.Nodup) (h1 : ∀ x ∈ m, x ∈ l) (h2 : ∀ x ∈ l, x ∈ m) : m.Perm (dedK l) :=
  (List.perm_ext_iff_of_nodup hn (nodup_dedK l)).mpr fun x => ⟨fun h => mem_dedK.mpr (h1 x h), fun h => h2 x (mem_dedK.mp h)⟩
def opSetSorted : Op := fun ds S => match ds with
  | [d] => (match listOf S d with
    | some xs => (match tupsOf xs with
      | some ks => if ks.all (fun k => !k.isEmpty) && decide (ks.length < 64) then .ok (.v (.list ((sortK (dedK ks)).map encT))) S else .stuck
      | none => .stuck)
    | none => .stuck)
  | _ => .stuck
section
variable {X : Cx} {RX : RXT} {W : WX} {α α' : AM} {H H' : Hp} {σ : St} {S S' : Store} {env : DEnv} {pos : Pos}
/-- sorted(set) -/
def rSortedSD (K : PySem.W.Frag) (P : Program) (w : World) : List V → Hp → VK → Prop := fun vs H Q => ∃ (a : Addr) (L : List (Addr × List Int)), vs = [V.ref a] ∧ H a = some (SetTO P w a L) ∧ (∀ p ∈ L, SqT K H p.1 (p.2.map V.int)) ∧ (∀ p ∈ L, p.2 ≠ []) ∧
  ∀ (L' : List (Addr × List Int)) (p : Addr), L'.Perm L → (L'.map (·.2)).Nodup → L'.Pairwise (fun q r => q.2 ≤ r.2) → H p = none → Q (.ref p) (upd H p (.lst (L'.map fun q => V.ref q.1)))
theorem cr_sortedSD (hc : X.calm = true) (hu : X.A.units + 70 < cLine) : CallR X (.builtin "sorted") (rSortedSD X.K X.prog X.w) := by
  intro pins s σ H vs us Q I r h
  obtain ⟨a, L, rfl, ha, hk, hne, q⟩ := h
  have R0 : SetT0 X.prog X.w s.heap a L := (I.hok a _ ha).1
  obtain ⟨es, ep, t, R⟩ := R0.full fun p hp => I.isT (hk p hp)
  rw [Vals.ref1 r]
  refine sorted_setD R (I.ok.hd hc) (by omega) hne fun s' p out c L' k g o hp hg hout pm pw => ?_
  have hfew : L'.length < 64 := by rw [pm.length_eq]; exact R.few
  have hlen : (L'.map fun q => V.ref q.1).length ≤ sizeLine := by rw [List.length_map, sizeLine_eq]; omega
  have hn : H p = none := I.hok.fresh hp
  have hv : Vals (L'.map fun q => V.ref q.1) out.toList := by rw [hout]; exact vals_of_refs L'
  have J : Inv X pins σ (upd H p (.lst (L'.map fun q => V.ref q.1))) { s with heap := s'.heap, gens := s'.gens, drawn := s'.drawn, toks := s'.toks } :=
    I.call (ch := []) (Un.laid k hp hn) (I.hok.laid k hp ⟨hlen, out.toList, c, hv, hg⟩) (by rw [g]; exact I.bare) (fun _ z => nomatch z)
  have e : s' = { s with heap := s'.heap, gens := s'.gens, drawn := s'.drawn, toks := s'.toks } := by
    cases s'
    cases s
    cases o
    rfl
  rw [e]
  exact ⟨.ref p, _, J, rfl, q L' p pm ((pm.map (·.2)).nodup_iff.mpr R.nd) pw hn⟩
theorem Rp.sqT {b : Addr} {k : List Int} (r : Rp X.K α H (.ref b) (encT k)) : SqT X.K H b (k.map V.int) := by
  unfold encT at r
  cases r with
  | tup hi q => have := q.ints; subst this; exact hi.sq
/-- the rows behind a list of tuples -/
theorem rows_of : ∀ {xs : List PyData} {ks : List (List Int)} {ys : List V}, tupsOf xs = some ks → RpL X.K α H ys xs → ∃ kp : List (Addr × List Int), ys = kp.map (fun p => V.ref p.1) ∧ ks = kp.map (·.2) ∧ (∀ p ∈ kp, SqT X.K H p.1 (p.2.map V.int)) ∧ ∀ p ∈ kp, Rp X.K α H (.ref p.1) (encT p.2)
  | [], _, _, e, .nil => by cases e; exact ⟨[], rfl, rfl, fun _ z => (nomatch z), fun _ z => (nomatch z)⟩
  | x :: xs, _, _, e, .cons r rs => by
    rw [tupsOf] at e
    split at e
    · rename_i k ks e1 e2
      cases e
      obtain ⟨kp, h1, h2, h3, h4⟩ := rows_of e2 rs
      cases x <;> simp only [tupOf] at e1 <;> try cases e1
      rename_i zs
      have ez := intsOf_eq e1
      subst ez
      cases r with
      | tup hi q =>
        rename_i a vs
        have hvs := q.ints
        refine ⟨(a, k) :: kp, by rw [h1]; rfl, by rw [h2]; rfl, fun p hp => ?_, fun p hp => ?_⟩
        · rcases List.mem_cons.mp hp with rfl | m
          · show SqT X.K H a (k.map V.int)
            rw [← hvs]; exact hi.sq
          · exact h3 p m
        · rcases List.mem_cons.mp hp with rfl | m
          · exact .tup hi q
          · exact h4 p m
    · cases e
theorem rpl_refs : ∀ {kp : List (Addr × List Int)}, (∀ p ∈ kp, Rp X.K α H (.ref p.1) (encT p.2)) → RpL X.K α H (kp.map fun p => V.ref p.1) (kp.map fun p => encT p.2)
  | [], _ => .nil
  | p :: kp, h => .cons (h p List.mem_cons_self) (rpl_refs fun q hq => h q (List.mem_cons_of_mem _ hq))
theorem de_sortedSet {e : Expr} {f : FA} {p p2 q : Pos} (hc : X.calm = true) (hu : X.A.units + 70 < cLine) (hg : Gl X "sorted") (hm : X.mg "sorted" = none) (hg2 : Gl X "set") (hm2 : X.mg "set" = none) (ha : DA X RX W [e] f)
    (he2 : starEach [e] X.env = (false, eval e X.env) :: starEach [] X.env := by rfl)
    (he : starEach [.Call (.Name "set" p2) [e] [] q] X.env = (false, eval (.Call (.Name "set" p2) [e] [] q) X.env) :: starEach [] X.env := by rfl)
    (hpl : (backTo pos (starEach [] X.env)).any (·.1) = false := by rfl) (hpl2 : (backTo q (starEach [] X.env)).any (·.1) = false := by rfl) :
    DE X RX W (.Call (.Name "sorted" p) [.Call (.Name "set" p2) [e] [] q] [] pos) (dBlt opSetSorted f) := by
  refine peW (pe_callB (cr_sortedSD hc hu) hg hm bt_sorted (pa_cons (pe_callTy (cr_setOfT hc (by omega)) hg2 hm2 PyProof.Rows.boot_set ha (by decide) (by decide) he2 hpl2) pa_nil he) (by decide) (by decide) he hpl) ?_
  intro σ H Q ⟨α, env, S, h, o⟩
  refine tA_seq h o fun ds S1 α1 H1 vs e1 h1 rs o1 => ?_
  unfold opSetSorted at o1
  split at o1
  · obtain ⟨v, rfl, r⟩ := RepDs.inv1 rs
    split at o1
    · rename_i xs hx
      split at o1
      · rename_i ks hk
        split at o1
        · rename_i hs
          rw [Bool.and_eq_true] at hs
          have h64 := of_decide_eq_true hs.2
          obtain ⟨a, ys, rfl, g1, g2⟩ := list_at h1.wr r hx
          obtain ⟨kp, rfl, rfl, g3, g4⟩ := rows_of hk g2
          refine ⟨a, kp, rfl, .inl g1, g3, by simpa using h64, fun b L hb hL hall => ?_⟩
          have w2 := h1.wr.new (o := SetTO X.prog X.w b L) hb
          have x2 := Ext.new (o := SetTO X.prog X.w b L) h1.wr hb
          refine ⟨b, L, rfl, upd_same, fun p hp => ((Rp.ext x2 (g4 p (hL p hp))).sqT), fun p hp => ?_, fun L' d pm nd pw hd => ?_⟩
          · have := List.all_eq_true.mp hs.1 p.2 (List.mem_map.mpr ⟨p, hL p hp, rfl⟩)
            intro z; rw [z] at this; cases this
          · have pk : (L'.map (·.2)).Perm (dedK (kp.map (·.2))) := set_perm nd (fun x hx => by
                obtain ⟨p, hp, rfl⟩ := List.mem_map.mp hx
                exact List.mem_map.mpr ⟨p, hL p (pm.mem_iff.mp hp), rfl⟩) fun x hx => by
                obtain ⟨p, hp, rfl⟩ := List.mem_map.mp hx
                exact (pm.map (·.2)).mem_iff.mpr (hall p hp)
            have ek := sortK_one pk (List.pairwise_map.mpr pw)
            rw [← ek, List.map_map] at o1
            exact (o1.ext x2).newL w2 (rpl_refs fun p hp => Rp.ext x2 (g4 p (hL p (pm.mem_iff.mp hp)))) hd
        · exact o1.elim
      · exact o1.elim
    · exact o1.elim
  · exact o1.elim
end
end G

set_option Elab.async false
set_option linter.all false
set_option autoImplicit false
set_option maxRecDepth 100000
set_option maxHeartbeats 4000000
/-! sorted(xs), xs a list or a tuple -/
namespace G
open PySem PySem.Calls PySem.Spec PyProof.Rows L2
def opSortedS : Op := fun ds S => match ds with
  | [d] => (match seqOf S d with
    | some xs => if sortOk xs && decide (xs.length ≤ 16777216) then .ok (.v (.list (sortD xs))) S else .stuck
    | none => .stuck)
  | _ => .stuck
section
variable {X : Cx} {RX : RXT} {W : WX} {α α' : AM} {H H' : Hp} {σ : St} {S S' : Store} {env : DEnv} {pos : Pos}
theorem sort_new {pins : List (Addr × Obj)} {s : Shared} {vs : List Value} {xs : List PyData} {Q : VK} (hu : X.A.units + 70 < cLine) (I1 : Inv X pins σ H s) (er : PySem.W.EachIs (fun u x => ∃ y, RelV y u ∧ Rp X.K α H y x) vs xs) (hs : sortOk xs = true) (hl : xs.length ≤ sizeLine)
    (wr : WR X.prog X.w X.K α H S) (o : Want X RX W α H σ (.ok (.v (.list (sortD xs))) S) Q) :
    wpAny (model X.prog X.w) X.A.in1 (call (.builtin "list.sort") [.ref s.heap.objs.size]) (fun _ s' => EP X pins σ Q (.ref s.heap.objs.size) s') X.xe { s with heap := s.heap.push { cls := .type "list", data := .seq vs.toArray } } := by
  unfold sortOk at hs
  rw [Bool.and_eq_true, Bool.and_eq_true] at hs
  obtain ⟨⟨ha, hk⟩, hd⟩ := hs
  have kp2 : ∀ b o, s.heap.get? b = some o → (s.heap.push { cls := .type "list", data := .seq vs.toArray }).get? b = some o := fun b o e => Heap.get?_push_of_some _ e
  have hD : (s.heap.push { cls := .type "list", data := .seq vs.toArray }).get? s.heap.objs.size = some (seqObj "list" vs.toArray 0) := Heap.get?_push_size _ rfl
  have er2 : PySem.W.EachIs (fun u x => ∃ as, Reads (s.heap.push { cls := .type "list", data := .seq vs.toArray }) u (id x) as ∧ s.heap.objs.size ∉ as) vs xs := each_imp (fun u x ⟨y, ry, q⟩ => by
    obtain ⟨as, r1⟩ := Dp.reads I1 x y u q.dp ry
    refine ⟨as, Reads.keeps kp2 r1, fun hm => ?_⟩
    obtain ⟨o1, e1⟩ := PyProof.On.reads_mem_get r1 _ hm
    exact absurd (Heap.lt_size e1) (Nat.lt_irrefl _)) er
  refine PySem.W.list_sort_data (s := { s with heap := s.heap.push { cls := .type "list", data := .seq vs.toArray } }) (R := fun u x => ∃ y, RelV y u ∧ Rp X.K α H y x) (enc := id) hD er er2 ?_ ?_ ?_ ?_ ?_
  · rw [List.map_id]; exact allAlike_of ha
  · rw [List.map_id]
    rw [Bool.or_eq_true] at hk
    rcases hk with hk | hk
    · refine .inl fun d hd => ?_
      have := List.all_eq_true.mp hk d hd
      unfold isTup1 at this
      split at this
      · exact ⟨_, _, rfl⟩
      · cases this
    · refine .inr fun d hd => ?_
      have := List.all_eq_true.mp hk d hd
      rw [Bool.and_eq_true] at this
      refine ⟨fun e => ?_, fun xs e => ?_⟩
      · subst e; exact absurd this.1 (by decide)
      · subst e; exact absurd this.2 (by simp [isTup])
  · exact hl
  · intro b hb
    have := of_decide_eq_true (List.all_eq_true.mp hd b hb)
    show X.A.units + 1 + 1 + (id b).depth < cLine
    show X.A.units + 1 + 1 + b.depth < cLine
    omega
  · intro out ho2 eo
    obtain ⟨ws, w1, w2⟩ := each_back eo
    obtain ⟨e, he'⟩ := sortedHeap_at (vs := vs) (out := out.toArray) hD
    have hp : H s.heap.objs.size = none := I1.hok.fresh (Nat.le_refl _)
    have hlen2 : ws.length ≤ sizeLine := by rw [w1.length, ho2]; exact hl
    rw [sortD_eq] at o
    refine ⟨.ref _, upd H s.heap.objs.size (.lst ws), I1.laid (t' := s.toks) (fun b u e => ?_) (Nat.le_refl _) ⟨hlen2, out, e, w1, he'⟩, rfl, o.newL wr w2 hp⟩
    exact (sortedHeap_old (Nat.ne_of_lt (Heap.lt_size e)) (Heap.lt_size (kp2 _ _ e))).trans (kp2 _ _ e)
theorem cd_sortedS (hu : X.A.units + 70 < cLine) : CallD X RX W (.builtin "sorted") opSortedS := by
  intro pins s σ α H S vs us ds Q I rv wr rd o
  unfold opSortedS at o
  split at o
  · obtain ⟨v, rfl, r⟩ := RepDs.inv1 rd
    split at o
    · rename_i xs hx
      split at o
      · rename_i hs
        rw [Bool.and_eq_true] at hs
        have hl : xs.length ≤ sizeLine := by rw [sizeLine_eq]; exact of_decide_eq_true hs.2
        obtain ⟨a, ys, rfl, h1, h2⟩ := seq_sq wr r hx
        rw [Vals.ref1 rv]
        have core : ∀ (its : Array Value), Vals ys its.toList → ∀ (T : String) (ob : Obj) (n : Nat), T = "list" ∨ T = "tuple" → s.heap.get? a = some ob → ob.cls = .type T → ob.data = .seq its n →
            wpAny (model X.prog X.w) X.A (call (.builtin "sorted") [.ref a]) (EP X pins σ Q) X.xe s := fun its rits T ob n hT ho hcl hdt => by
          have il : its.size ≤ sizeLine := by
            have e1 := rits.length
            have e2 := h2.length
            have e3 : its.toList.length = its.size := Array.length_toList
            omega
          refine call_function_entry kind_sorted plain_sorted entry_sorted (args_sorted1 _) ?_
          unfold Builtin.«sorted»
          refine wpAny_bind (m := checkCount "sorted" 1 1 _) (wpAny_pure ?_)
          refine wpAny_bind (wpAny_collect_seq (A := X.A.in1) a hT ho hcl hdt (fun h' kp => ?_) il)
          refine wpAny_bind (wpAny_newList ?_ (by rw [Array.length_toList]; exact il))
          have I1 : Inv X pins σ H { s with heap := h', toks := s.toks } := I.kept kp
          refine wpAny_bind (wpAny_holding (wpAny_mono (sort_new (s := { s with heap := h', toks := s.toks }) hu I1 (each_of I1 rits h2) hs.1 hl wr o) (fun _ s' x => ?_) fun _ _ e => e))
          exact wpAny_pure ⟨_, rfl, x⟩
        rcases h1 with h1 | h1
        · obtain ⟨its, rits, ⟨ob, n, ho, hcl, _, hdt⟩, _⟩ := I.list h1
          exact core its.toArray (by simpa using rits) "list" ob n (.inl rfl) ho hcl (by first | exact hdt | exact hdt.1)
        · obtain ⟨its, rits, ⟨ob, ho, hcl, n, hdt⟩, _⟩ := I.tuple h1
          exact core its.toArray (by simpa using rits) "tuple" ob n (.inr rfl) ho hcl hdt
      · exact o.elim
    · exact o.elim
  · exact o.elim
theorem sum_rawT {prog : Program} {w : World} {A : Around} {E : Value → Shared → Prop} {s : Shared} {l : Addr} {its : List Value} {ns : List Int} {Q : Value → Shared → Prop} (hh : A.handled = none) (hl : s.heap.IsTuple l its.toArray) (hi : IntsAre its ns)
    (h : ∀ h' tk t', (∀ b o, s.heap.get? b = some o → h'.get? b = some o) → Q (.int ns.sum t') { s with heap := h', toks := tk }) : wpAny (model prog w) A (call (.builtin "sum") [.ref l]) Q E s := by
  obtain ⟨xs, e⟩ := hi.allInts.items
  have hn : numsOf (intItems xs).toList = ns := by rw [← e]; exact hi.numsOf
  rw [nums_intItems] at hn
  rw [e] at hl
  refine PySem.W.ktm_sumG hh hl fun h' tk t' hk => ?_
  have := h h' tk t' hk
  rw [preSum_eq, List.take_of_length_le (by simp), hn]; exact this
def opSumS : Op := fun ds S => match ds with
  | [d] => (match seqOf S d with
    | some xs => (match intsOf xs with | some ns => okI ns.sum S | none => .stuck)
    | none => .stuck)
  | _ => .stuck
theorem cd_sumS (hc : X.calm = true) : CallD X RX W (.builtin "sum") opSumS := by
  intro pins s σ α H S vs us ds Q I rv wr rd o
  unfold opSumS at o
  split at o
  · obtain ⟨v, rfl, r⟩ := RepDs.inv1 rd
    split at o
    · rename_i xs hx
      split at o
      · rename_i ns hn
        obtain ⟨a, ys, rfl, h1, h2⟩ := seq_sq wr r hx
        rw [intsOf_eq hn] at h2
        rw [h2.ints] at h1
        rw [Vals.ref1 rv]
        rcases h1 with h1 | h1
        · obtain ⟨its, rits, hl, _⟩ := I.list h1
          exact sum_raw (I.ok.hd hc) hl.isList rits.ints fun h' tk t' hk => ⟨.int _, H, I.kept hk, ⟨_, rfl⟩, o.get wr _ (.int _)⟩
        · obtain ⟨its, rits, hl, _⟩ := I.tuple h1
          exact sum_rawT (I.ok.hd hc) hl rits.ints fun h' tk t' hk => ⟨.int _, H, I.kept hk, ⟨_, rfl⟩, o.get wr _ (.int _)⟩
      · exact o.elim
    · exact o.elim
  · exact o.elim
theorem tuple_mul1 (l : Addr) (items : Array Value) (n : Nat) (dd : Option Addr) (sl : Array (Option Value)) (u : Tok) :
    Meets (Builtin.«tuple.__mul__» ⟨[.ref l, .int 1 u], []⟩) (fun _ R s => s.heap.get? l = some { cls := .type "tuple", dict := dd, data := .seq items n, slots := sl } ∧ R (.ok (.ret (Value.ref l))) s) :=
  .of_wp fun prog w A R s h => by
    obtain ⟨hp, g, d, tk, os⟩ := s
    obtain ⟨hl, h⟩ := h
    have f1 := AutoSeq1.idx_int
    have c1 : (items.isEmpty || (1 : Int) == 1) = true := by simp
    wp_walk using wpAny_loadPart' hl
    exact ⟨_, rfl, h⟩
def rRep1 (K : PySem.W.Frag) : R2 := fun x y H Q => ∃ l xs, x = .ref l ∧ y = .int 1 ∧ SqT K H l xs ∧ Q (.ref l) H
theorem op_rep1 : OpR X (binaryOp .Mult) (rRep1 X.K) := by
  intro pins s σ H x y v u Q I rx ry h
  obtain ⟨l, xs, rfl, rfl, hT, q⟩ := h
  cases rx
  obtain ⟨t, rfl⟩ := ry
  obtain ⟨its, r, ⟨⟨cls, dd, data, sl⟩, ho, hc, n, hd⟩, hs⟩ := I.tuple hT
  simp only at hc hd
  subst hc hd
  exact wpAny_binaryOp_repeat_ref (T := "tuple") (U := "int") (by decide) ⟨_, ho, rfl⟩ (fun s' => typeIs_int s' 1 t) noFill_tuple_mul F.fills_int_mul F.slot_int_rmul repeat_tuple F.slot_int_index.lookup
    (call_meets F.slot_int_rmul (typeIs_int s 1 t) F.entry_int_rmul (F.args_int_rmul_2 _ _) (int_rmul_tuple 1 t l its.toArray n dd sl)
      ⟨ho, rfl, ⟨_, ho, rfl⟩, call_meets F.slot_tuple_mul ⟨_, ho, rfl⟩ F.entry_tuple_mul (F.args_tuple_mul_2 _ _) (tuple_mul1 l its.toArray n dd sl t) ⟨ho, .ref l, H, I, rfl, q⟩⟩)
/-- tuple * int -/
def dRepT : D → D → Store → Res D := fun a b S => match a, b with
  | .v (.tuple xs), .v (.int k) => if xs ≠ [] ∧ xs.length ≤ 1000 ∧ 1 ≤ k ∧ k ≤ 1000 then .ok (.v (.tuple (List.replicate k.toNat xs).flatten)) S else .stuck
  | _, _ => .stuck
theorem rpl_rep {vs : List V} {ds : List PyData} (r : RpL X.K α H vs ds) : ∀ n : Nat, RpL X.K α H (List.replicate n vs).flatten (List.replicate n ds).flatten
  | 0 => .nil
  | n + 1 => by rw [List.replicate_succ, List.replicate_succ, List.flatten_cons, List.flatten_cons]; exact r.append (rpl_rep r n)
theorem od_repT : OpD X RX W (binaryOp .Mult) dRepT := by
  intro pins s σ α H S x y v u d e Q I rx ry wr r1 r2 o
  unfold dRepT at o
  split at o
  · rename_i xs k
    split at o
    · rename_i h
      obtain ⟨hne, hl, k1, k2⟩ := h
      cases r2
      cases r1 with
      | tup hi q =>
        by_cases e : k = 1
        · subst e
          refine op_rep1 pins s σ H _ _ v u Q I rx ry ⟨_, _, rfl, rfl, hi.sq, o.get wr _ ?_⟩
          have : (List.replicate (1 : Int).toNat xs).flatten = xs := by simp
          rw [this]
          exact Rp.tup hi q
        · refine op_repT pins s σ H _ _ v u Q I rx ry ⟨_, _, _, rfl, rfl, hi.sq, fun z => ?_, by omega, k2, by rw [q.length]; exact hl, fun p hp => o.newT wr (rpl_rep q _) hp⟩
          subst z; cases q; exact hne rfl
    · exact o.elim
  · exact o.elim
end
end G

set_option Elab.async false
set_option linter.all false
set_option autoImplicit false
set_option maxRecDepth 100000
namespace G
open PySem PySem.Spec PyProof.Rows L2
/-! ### the plain run, by rewriting -/
section
variable {env : DEnv} {S : Store} {f g : FE} {β γ : Type}
@[simp] theorem bind_exc (x : Exn) (S : Store) (f : β → Store → Res γ) : (Res.exc x S : Res β).bind f = .exc x S := rfl
@[simp] theorem bind_stuck (f : β → Store → Res γ) : (Res.stuck : Res β).bind f = .stuck := rfl
@[simp] theorem bind_okS (a : β) (S : Store) (f : β → Store → Res γ) : (Res.ok a S).bind f = f a S := rfl
@[simp] theorem lift_ok (a : β) (k : β → Store → Res Out) : lift env (.ok a S) k = k a S := rfl
@[simp] theorem lift_exc (x : Exn) (k : β → Store → Res Out) : lift env (.exc x S) k = .ok (.ex x env) S := rfl
@[simp] theorem lift_stuck (k : β → Store → Res Out) : lift env .stuck k = .stuck := rfl
@[simp] theorem thenS_nx (k : DEnv → Store → Res Out) : thenS (.ok (.nx env) S) k = k env S := rfl
@[simp] theorem thenS_rt (d : D) (k : DEnv → Store → Res Out) : thenS (.ok (.rt d) S) k = .ok (.rt d) S := rfl
@[simp] theorem thenS_bk (k : DEnv → Store → Res Out) : thenS (.ok (.bk env) S) k = .ok (.bk env) S := rfl
@[simp] theorem thenS_ct (k : DEnv → Store → Res Out) : thenS (.ok (.ct env) S) k = .ok (.ct env) S := rfl
@[simp] theorem thenS_ex (x : Exn) (k : DEnv → Store → Res Out) : thenS (.ok (.ex x env) S) k = .ok (.ex x env) S := rfl
@[simp] theorem loopS_nx (k : DEnv → Store → Res Out) : loopS (.ok (.nx env) S) k = k env S := rfl
@[simp] theorem loopS_ct (k : DEnv → Store → Res Out) : loopS (.ok (.ct env) S) k = k env S := rfl
@[simp] theorem loopS_bk (k : DEnv → Store → Res Out) : loopS (.ok (.bk env) S) k = .ok (.nx env) S := rfl
@[simp] theorem loopS_rt (d : D) (k : DEnv → Store → Res Out) : loopS (.ok (.rt d) S) k = .ok (.rt d) S := rfl
@[simp] theorem sNil_ap : sNil env S = .ok (.nx env) S := rfl
@[simp] theorem sSeq_ap (f g : FS) : sSeq f g env S = thenS (f env S) g := rfl
@[simp] theorem sSet_ap (i : Nat) (f : FE) : sSet i f env S = lift env (f env S) fun d S1 => .ok (.nx (env.set i (some d))) S1 := rfl
@[simp] theorem sExpr_ap (f : FE) : sExpr f env S = lift env (f env S) fun _ S1 => .ok (.nx env) S1 := rfl
@[simp] theorem sRet_ap (f : FE) : sRet f env S = lift env (f env S) fun d S1 => .ok (.rt d) S1 := rfl
@[simp] theorem sRetN_ap : sRetN env S = .ok (.rt (.v .none)) S := rfl
@[simp] theorem sIf_ap (c : FT) (f g : FS) : sIf c f g env S = lift env (c env S) fun b S1 => if b then f env S1 else g env S1 := rfl
@[simp] theorem sFor_ap (p : Pat) (i : FI) (b : FS) : sFor p i b env S = lift env (i env S) fun xs S1 => forL p b xs env S1 := rfl
@[simp] theorem forL_nil (p : Pat) (b : FS) : forL p b [] env S = .ok (.nx env) S := rfl
theorem forL_cons (p : Pat) (b : FS) (x : PyData) (xs : List PyData) : forL p b (x :: xs) env S = match gPat p x env with | some env1 => loopS (b env1 S) (forL p b xs) | none => .stuck := rfl
@[simp] theorem dBin_ap (op : D → D → Store → Res D) : dBin op f g env S = (f env S).bind fun a S1 => (g env S1).bind fun b S2 => op a b S2 := rfl
@[simp] theorem dUn_ap (op : D → Store → Res D) : dUn op f env S = (f env S).bind fun a S1 => op a S1 := rfl
@[simp] theorem dC_ap (x : PyData) : dC x env S = .ok (.v x) S := rfl
theorem dVar_ap (i : Nat) : dVar i env S = match env[i]? with | some (some d) => .ok d S | _ => .stuck := rfl
@[simp] theorem dVar_0 (d : D) (r : DEnv) : dVar 0 (some d :: r) S = .ok d S := rfl
@[simp] theorem dVar_s (i : Nat) (d : Option D) (r : DEnv) : dVar (i + 1) (d :: r) S = dVar i r S := rfl
@[simp] theorem asB_b (b : Bool) : asB (.v (.bool b)) S = .ok b S := rfl
@[simp] theorem dTest_ap : dTest f env S = (f env S).bind asB := rfl
@[simp] theorem tAndD_ap (f g : FT) : tAndD f g env S = (f env S).bind fun b S1 => if b then g env S1 else .ok false S1 := rfl
@[simp] theorem tOrD_ap (f g : FT) : tOrD f g env S = (f env S).bind fun b S1 => if b then .ok true S1 else g env S1 := rfl
@[simp] theorem tNotD_ap (f : FT) : tNotD f env S = (f env S).bind fun b S1 => .ok (!b) S1 := rfl
@[simp] theorem dAndV_ap : dAndV f g env S = (f env S).bind fun d S1 => (asB d S1).bind fun b S2 => if b then g env S2 else okB false S2 := rfl
@[simp] theorem dOrV_ap : dOrV f g env S = (f env S).bind fun d S1 => (asB d S1).bind fun b S2 => if b then okB true S2 else g env S2 := rfl
@[simp] theorem dNotV_ap : dNotV f env S = (f env S).bind fun d S1 => (asB d S1).bind fun b S2 => okB (!b) S2 := rfl
@[simp] theorem dIf_ap (c : FT) : dIf c f g env S = (c env S).bind fun b S1 => if b then f env S1 else g env S1 := rfl
@[simp] theorem dNilA_ap : dNilA env S = .ok [] S := rfl
@[simp] theorem dConsA_ap (h : FA) : dConsA f h env S = (f env S).bind fun d S1 => (h env S1).bind fun ds S2 => .ok (d :: ds) S2 := rfl
@[simp] theorem vals_nil : vals [] = some [] := rfl
@[simp] theorem vals_cons (x : PyData) (r : List D) : vals (.v x :: r) = (vals r).map (x :: ·) := rfl
@[simp] theorem dTup_ap (h : FA) : dTup h env S = (h env S).bind fun ds S1 => match vals ds with | some xs => if small xs.length then .ok (.v (.tuple xs)) S1 else .stuck | none => .stuck := rfl
@[simp] theorem dLst_ap (h : FA) : dLst h env S = (h env S).bind fun ds S1 => match vals ds with | some xs => if small xs.length then .ok (.v (.list xs)) S1 else .stuck | none => .stuck := rfl
@[simp] theorem dLstC_ap (h : FA) : dLstC h env S = (h env S).bind fun ds S1 => match vals ds with | some xs => if small xs.length then .ok (.r S1.length) (S1 ++ [.lst xs]) else .stuck | none => .stuck := rfl
@[simp] theorem dBlt_ap (op : Op) (h : FA) : dBlt op h env S = (h env S).bind op := rfl
@[simp] theorem dCall_ap (c : Fn) (h : FA) (dd : List D) : dCall c h dd env S = (h env S).bind fun ds S1 => trunc S1.length (c (ds ++ dd) S1) := rfl
@[simp] theorem trunc_v (n : Nat) (x : PyData) : trunc n (.ok (.v x) S) = .ok (.v x) (S.take n) := rfl
@[simp] theorem trunc_stuck (n : Nat) : trunc n .stuck = .stuck := rfl
@[simp] theorem okI_eq (i : Int) : okI i S = .ok (.v (.int i)) S := rfl
@[simp] theorem okB_eq (i : Bool) : okB i S = .ok (.v (.bool i)) S := rfl
@[simp] theorem okN_eq : okN S = .ok (.v .none) S := rfl
@[simp] theorem pI_ii (f : Int → Int → Int) (i j : Int) : pI f (.v (.int i)) (.v (.int j)) S = .ok (.v (.int (f i j))) S := rfl
@[simp] theorem pIc_ii (c : Int → Int → Bool) (f : Int → Int → Int) (i j : Int) : pIc c f (.v (.int i)) (.v (.int j)) S = if c i j then .ok (.v (.int (f i j))) S else .stuck := rfl
@[simp] theorem pB_ii (f : Int → Int → Bool) (i j : Int) : pB f (.v (.int i)) (.v (.int j)) S = .ok (.v (.bool (f i j))) S := rfl
@[simp] theorem dAdd_ii (i j : Int) : dAdd (.v (.int i)) (.v (.int j)) S = .ok (.v (.int (i + j))) S := rfl
@[simp] theorem dSub_ii (i j : Int) : dSub (.v (.int i)) (.v (.int j)) S = .ok (.v (.int (i - j))) S := rfl
@[simp] theorem dXor_ii (i j : Int) : dXor (.v (.int i)) (.v (.int j)) S = .ok (.v (.int (Builtin.bitXor i j))) S := rfl
@[simp] theorem dAnd_ii (i j : Int) : dAnd (.v (.int i)) (.v (.int j)) S = .ok (.v (.int (Builtin.bitAnd i j))) S := rfl
@[simp] theorem dOr_ii (i j : Int) : dOr (.v (.int i)) (.v (.int j)) S = .ok (.v (.int (Builtin.bitOr i j))) S := rfl
@[simp] theorem dLt_ii (i j : Int) : dLt (.v (.int i)) (.v (.int j)) S = .ok (.v (.bool (decide (i < j)))) S := rfl
@[simp] theorem dLe_ii (i j : Int) : dLe (.v (.int i)) (.v (.int j)) S = .ok (.v (.bool (decide (i ≤ j)))) S := rfl
@[simp] theorem dGt_ii (i j : Int) : dGt (.v (.int i)) (.v (.int j)) S = .ok (.v (.bool (decide (j < i)))) S := rfl
@[simp] theorem dGe_ii (i j : Int) : dGe (.v (.int i)) (.v (.int j)) S = .ok (.v (.bool (decide (j ≤ i)))) S := rfl
@[simp] theorem dNeg_i (i : Int) : dNeg (.v (.int i)) S = .ok (.v (.int (-i))) S := rfl
theorem dMul_ii (i j : Int) (h : i.natAbs < 18446744073709551616 ∨ j.natAbs < 18446744073709551616) : dMul (.v (.int i)) (.v (.int j)) S = .ok (.v (.int (i * j))) S := by
  unfold dMul; rw [pIc_ii, if_pos (by simpa using h)]
theorem dDiv_ii (i j : Int) (h : 0 < j) (h2 : j < 1073741824) : dDiv (.v (.int i)) (.v (.int j)) S = .ok (.v (.int (i / j))) S := by
  unfold dDiv; rw [pIc_ii, if_pos (by simp; omega)]
theorem dMod_ii (i j : Int) (h : 0 < j) : dMod (.v (.int i)) (.v (.int j)) S = .ok (.v (.int (i % j))) S := by
  unfold dMod; rw [pIc_ii, if_pos (by simpa using h)]
@[simp] theorem dEq_ii (i j : Int) : dEq (.v (.int i)) (.v (.int j)) S = .ok (.v (.bool (decide (i = j)))) S := by
  show (if SeqAt.shaped (.int i) && SeqAt.shaped (.int j) then okB (PyData.eqv (.int i) (.int j)) S else .stuck) = _
  rw [show SeqAt.shaped (.int i) = true by rfl, show SeqAt.shaped (.int j) = true by rfl]
  simp only [PyData.eqv, Bool.and_self, if_true, okB_eq]
  first | rfl | (rw [Int.beq_eq_decide]; try simp) | (by_cases h : i = j <;> simp [h])
@[simp] theorem dNe_ii (i j : Int) : dNe (.v (.int i)) (.v (.int j)) S = .ok (.v (.bool (decide (i ≠ j)))) S := by
  show (if SeqAt.shaped (.int i) && SeqAt.shaped (.int j) then okB (!PyData.eqv (.int i) (.int j)) S else .stuck) = _
  rw [show SeqAt.shaped (.int i) = true by rfl, show SeqAt.shaped (.int j) = true by rfl]
  simp only [PyData.eqv, Bool.and_self, if_true, okB_eq]
  first | rfl | (rw [Int.beq_eq_decide]; try simp) | (by_cases h : i = j <;> simp [h])
@[simp] theorem dEq_bb (i j : Bool) : dEq (.v (.bool i)) (.v (.bool j)) S = .ok (.v (.bool (i == j))) S := by cases i <;> cases j <;> rfl
@[simp] theorem dNe_bb (i j : Bool) : dNe (.v (.bool i)) (.v (.bool j)) S = .ok (.v (.bool (i != j))) S := by cases i <;> cases j <;> rfl
@[simp] theorem dIx_l (xs : List PyData) (i : Int) : dIx (.v (.list xs)) (.v (.int i)) S = match atI xs i with | some x => .ok (.v x) S | none => .stuck := rfl
@[simp] theorem dIx_t (xs : List PyData) (i : Int) : dIx (.v (.tuple xs)) (.v (.int i)) S = match atI xs i with | some x => .ok (.v x) S | none => .stuck := rfl
theorem dIx_r {n : Nat} {xs : List PyData} (h : S[n]? = some (.lst xs)) (i : Int) : dIx (.r n) (.v (.int i)) S = match atI xs i with | some x => .ok (.v x) S | none => .stuck := by
  simp only [dIx, seqOf, h] <;> (cases atI xs i <;> rfl)
@[simp] theorem opInt_i (i : Int) : opInt [.v (.int i)] S = .ok (.v (.int i)) S := rfl
@[simp] theorem opLen_t (xs : List PyData) : opLen [.v (.tuple xs)] S = .ok (.v (.int xs.length)) S := rfl
@[simp] theorem opLen_l (xs : List PyData) : opLen [.v (.list xs)] S = .ok (.v (.int xs.length)) S := rfl
@[simp] theorem opTuple_t (xs : List PyData) : opTuple [.v (.tuple xs)] S = .ok (.v (.tuple xs)) S := rfl
@[simp] theorem opTuple_l (xs : List PyData) : opTuple [.v (.list xs)] S = .ok (.v (.tuple xs)) S := rfl
@[simp] theorem iSeq_ap (f : FE) : iSeq f env S = (f env S).bind fun d S1 => match d with | .v (.list xs) => .ok xs S1 | .v (.tuple xs) => .ok xs S1 | _ => .stuck := rfl
@[simp] theorem iEnumD_ap (f : FE) : iEnumD f env S = (f env S).bind fun d S1 => match d with | .v (.list xs) => .ok (enumD xs) S1 | .v (.tuple xs) => .ok (enumD xs) S1 | _ => .stuck := rfl
@[simp] theorem iRange1_ap (f : FE) : iRange1 f env S = (f env S).bind fun d S1 => match d with | .v (.int j) => if rngOk 0 j then .ok (rangeD 0 j.toNat) S1 else .stuck | _ => .stuck := rfl
@[simp] theorem iRange2_ap (f g : FE) : iRange2 f g env S = (f env S).bind fun d S1 => (g env S1).bind fun e S2 => match d, e with | .v (.int i), .v (.int j) => if rngOk i j then .ok (rangeD i (j - i).toNat) S2 else .stuck | _, _ => .stuck := rfl
@[simp] theorem gPat_s (i : Nat) (x : PyData) : gPat (.s i) x env = some (env.set i (some (.v x))) := by simp [gPat]
end
theorem compL_ok {p : Pat} {t : FT} {f : FE} {env : DEnv} {S : Store} (tt : PyData → Bool) (g : PyData → PyData) : ∀ (xs : List PyData), (∀ x ∈ xs, ∃ env1, gPat p x env = some env1 ∧ t env1 S = .ok (tt x) S ∧ (tt x = true → f env1 S = .ok (.v (g x)) S)) →
    compL p t f env xs S = .ok ((xs.filter tt).map g) S
  | [], _ => rfl
  | x :: xs, h => by
    obtain ⟨env1, h1, h2, h3⟩ := h x (List.mem_cons_self ..)
    have ih := compL_ok tt g xs fun y hy => h y (List.mem_cons_of_mem _ hy)
    rw [compL_cons, h1]
    simp only [h2, noX, bind_okS]
    cases hb : tt x with
    | true => simp only [if_true, h3 hb, noX, bind_okS, ih]; simp [hb]
    | false => simp [hb, ih]
/-! ### the laws' own helpers -/
def b__law_draw : FS := (sSeq (sIf (tAndD (dTest (dBin dEq (dBin dIx (dVar 0) (dC (.int 2))) (dC (.int 0)))) (dTest (dBin dLt (dBin dIx (dVar 0) (dC (.int 1))) (dBlt opLen (dConsA (dBin dIx (dVar 0) (dC (.int 0))) dNilA)))))
  (sSeq (sSet 2 (dBin dIx (dBin dIx (dVar 0) (dC (.int 0))) (dBin dIx (dVar 0) (dC (.int 1)))))
  (sSeq (sSetIx (dVar 0) (dC (.int 1)) (dBin dAdd (dBin dIx (dVar 0) (dC (.int 1))) (dC (.int 1))))
  (sSeq (sIf (dTest (dBin dGe (dVar 2) (dBin dPow (dC (.int 10)) (dC (.int 18)))))
  (sSetIx (dVar 0) (dC (.int 2)) (dVar 2))
  sNil)
  (sSetIx (dVar 0) (dC (.int 3)) (dBin dMod (dBlt opInt (dConsA (dBin dAdd (dBin dAdd (dBin dMul (dBin dIx (dVar 0) (dC (.int 3))) (dC (.int 48271))) (dVar 2)) (dC (.int 13))) dNilA)) (dC (.int 2147483647)))))))
  sNil)
  (sSeq (sIf (dTest (dBin dGt (dBin dIx (dVar 0) (dC (.int 2))) (dC (.int 0))))
  (sSeq (sSet 3 (dBin dMod (dBlt opInt (dConsA (dBin dIx (dVar 0) (dC (.int 2))) dNilA)) (dVar 1)))
  (sSeq (sSetIx (dVar 0) (dC (.int 2)) (dBin dDiv (dBin dIx (dVar 0) (dC (.int 2))) (dVar 1)))
  (sRet (dVar 3))))
  sNil)
  (sSeq (sSetIx (dVar 0) (dC (.int 3)) (dBin dMod (dBlt opInt (dConsA (dBin dAdd (dBin dMul (dBin dIx (dVar 0) (dC (.int 3))) (dC (.int 69621))) (dC (.int 7))) dNilA)) (dC (.int 2147483629))))
  (sRet (dBin dMod (dBlt opInt (dConsA (dBin dDiv (dBin dIx (dVar 0) (dC (.int 3))) (dC (.int 11))) dNilA)) (dVar 1))))))
def f__law_draw : Fn := runBody 2 4 b__law_draw
theorem len__law_draw (ds : List D) (S : Store) (h : ds.length ≠ 2) : f__law_draw ds S = .stuck := runBody_len ds S h
def b__law_draws : FS := (sRet (dLstC (dConsA (dBlt opList (dConsA (dVar 0) dNilA)) (dConsA (dC (.int 0)) (dConsA (dC (.int 0)) (dConsA (dC (.int 1)) dNilA))))))
def f__law_draws : Fn := runBody 1 1 b__law_draws
theorem len__law_draws (ds : List D) (S : Store) (h : ds.length ≠ 1) : f__law_draws ds S = .stuck := runBody_len ds S h
def b__law_pick : FS := (sRet (dBin dIx (dVar 1) (dCall f__law_draw (dConsA (dVar 0) (dConsA (dBlt opLen (dConsA (dVar 1) dNilA)) dNilA)) [])))
def f__law_pick : Fn := runBody 2 2 b__law_pick
theorem len__law_pick (ds : List D) (S : Store) (h : ds.length ≠ 2) : f__law_pick ds S = .stuck := runBody_len ds S h
def b__law_same (r__law_same : Fn) : FS := (sSeq (sIf (tOrD (dTru (dIsi "tuple" (dVar 1))) (dTru (dIsi "list" (dVar 1))))
  (sSeq (sIf (tOrD (dTest (dBin dNe (dIsi "tuple" (dVar 0)) (dIsi "tuple" (dVar 1)))) (dTest (dBin dNe (dIsi "list" (dVar 0)) (dIsi "list" (dVar 1)))))
  (sRet (dC (.bool false)))
  sNil)
  (sSeq (sIf (dTest (dBin dNe (dBlt opLen (dConsA (dVar 0) dNilA)) (dBlt opLen (dConsA (dVar 1) dNilA))))
  (sRet (dC (.bool false)))
  sNil)
  (sRet (dBin dEq (dBlt opLen (dConsA (dLc [2] (.s 2) (iRange1 (dBlt opLen (dConsA (dVar 1) dNilA))) (tNotD (dTru (dCall r__law_same (dConsA (dBin dIx (dVar 0) (dVar 2)) (dConsA (dBin dIx (dVar 1) (dVar 2)) dNilA)) []))) (dVar 2)) dNilA)) (dC (.int 0))))))
  sNil)
  (sSeq (sIf (tOrD (dTru (dIsi "bool" (dVar 1))) (dTru (dIsi "bool" (dVar 0))))
  (sRet (dAndV (dIsi "bool" (dVar 1)) (dAndV (dIsi "bool" (dVar 0)) (dBin dEq (dVar 0) (dVar 1)))))
  sNil)
  (sSeq (sIf (tOrD (dTest (dUn (dIsNo false) (dVar 1))) (dTest (dUn (dIsNo false) (dVar 0))))
  (sRet (dAndV (dUn (dIsNo false) (dVar 1)) (dUn (dIsNo false) (dVar 0))))
  sNil)
  (sSeq (sIf (tOrD (dTru (dIsi "str" (dVar 1))) (dTru (dIsi "str" (dVar 0))))
  (sRet (dAndV (dIsi "str" (dVar 1)) (dAndV (dIsi "str" (dVar 0)) (dBin dEq (dVar 0) (dVar 1)))))
  sNil)
  (sRet (dAndV (dIsi "int" (dVar 0)) (dAndV (dIsi "int" (dVar 1)) (dBin dEq (dVar 0) (dVar 1)))))))))
def f__law_same : Nat → Fn
  | 0 => fun _ _ => .stuck
  | k + 1 => runBody 2 3 (b__law_same (f__law_same k))
theorem len__law_same (k : Nat) (ds : List D) (S : Store) (h : ds.length ≠ 2) : f__law_same k ds S = .stuck := by
  cases k with
  | zero => rfl
  | succ k => exact runBody_len ds S h
/-! ### drawing -/
/-- the draws' cell -/
def dst (ns : List Int) (p q h : Int) : Cell := .lst [.list (ns.map .int), .int p, .int q, .int h]
theorem draws_ok (ns : List Int) : f__law_draws [.k (ns.map .int)] [] = .ok (.r 0) [dst ns 0 0 1] := rfl
@[simp] theorem fin_rt (d : D) (S : Store) : fin (.ok (.rt d) S) = .ok d S := rfl
@[simp] theorem atI_0 (a : PyData) (r : List PyData) : atI (a :: r) 0 = some a := by simp [atI, ixN]
theorem get_set {S : Store} {n : Nat} {c c' : Cell} (h : S[n]? = some c) : (S.set n c')[n]? = some c' := List.getElem?_set_self (List.getElem?_eq_some_iff.mp h).1
theorem set_set {S : Store} {n : Nat} {c c' : Cell} : (S.set n c).set n c' = S.set n c' := by simp
section
variable {S : Store} {n : Nat} {ns : List Int} {p q h : Int}
theorem dst_0 (hS : S[n]? = some (dst ns p q h)) : dIx (.r n) (.v (.int 0)) S = .ok (.v (.list (ns.map .int))) S := by rw [dIx_r hS]; rfl
theorem dst_1 (hS : S[n]? = some (dst ns p q h)) : dIx (.r n) (.v (.int 1)) S = .ok (.v (.int p)) S := by rw [dIx_r hS]; rfl
theorem dst_2 (hS : S[n]? = some (dst ns p q h)) : dIx (.r n) (.v (.int 2)) S = .ok (.v (.int q)) S := by rw [dIx_r hS]; rfl
theorem dst_3 (hS : S[n]? = some (dst ns p q h)) : dIx (.r n) (.v (.int 3)) S = .ok (.v (.int h)) S := by rw [dIx_r hS]; rfl
/-- x[i] = e, in steps -/
theorem setIx_ap {fo fi fe : FE} {env : DEnv} {S1 : Store} {x : PyData} {k : Int} {xs : List PyData} {j : Nat} (he : fe env S = .ok (.v x) S1) (ho : fo env S1 = .ok (.r n) S1) (hi : fi env S1 = .ok (.v (.int k)) S1) (hc : S1[n]? = some (.lst xs)) (hj : ixN xs.length k = some j) :
    sSetIx fo fi fe env S = .ok (.nx env) (S1.set n (.lst (xs.set j x))) := by
  simp only [sSetIx, he, lift_ok, ho, hi, hc, hj]
def drawHead : FS := (sIf (tAndD (dTest (dBin dEq (dBin dIx (dVar 0) (dC (.int 2))) (dC (.int 0)))) (dTest (dBin dLt (dBin dIx (dVar 0) (dC (.int 1))) (dBlt opLen (dConsA (dBin dIx (dVar 0) (dC (.int 0))) dNilA)))))
  (sSeq (sSet 2 (dBin dIx (dBin dIx (dVar 0) (dC (.int 0))) (dBin dIx (dVar 0) (dC (.int 1)))))
  (sSeq (sSetIx (dVar 0) (dC (.int 1)) (dBin dAdd (dBin dIx (dVar 0) (dC (.int 1))) (dC (.int 1))))
  (sSeq (sIf (dTest (dBin dGe (dVar 2) (dBin dPow (dC (.int 10)) (dC (.int 18)))))
  (sSetIx (dVar 0) (dC (.int 2)) (dVar 2))
  sNil)
  (sSetIx (dVar 0) (dC (.int 3)) (dBin dMod (dBlt opInt (dConsA (dBin dAdd (dBin dAdd (dBin dMul (dBin dIx (dVar 0) (dC (.int 3))) (dC (.int 48271))) (dVar 2)) (dC (.int 13))) dNilA)) (dC (.int 2147483647)))))))
  sNil)
def drawTail : FS := (sSeq (sIf (dTest (dBin dGt (dBin dIx (dVar 0) (dC (.int 2))) (dC (.int 0))))
  (sSeq (sSet 3 (dBin dMod (dBlt opInt (dConsA (dBin dIx (dVar 0) (dC (.int 2))) dNilA)) (dVar 1)))
  (sSeq (sSetIx (dVar 0) (dC (.int 2)) (dBin dDiv (dBin dIx (dVar 0) (dC (.int 2))) (dVar 1)))
  (sRet (dVar 3))))
  sNil)
  (sSeq (sSetIx (dVar 0) (dC (.int 3)) (dBin dMod (dBlt opInt (dConsA (dBin dAdd (dBin dMul (dBin dIx (dVar 0) (dC (.int 3))) (dC (.int 69621))) (dC (.int 7))) dNilA)) (dC (.int 2147483629))))
  (sRet (dBin dMod (dBlt opInt (dConsA (dBin dDiv (dBin dIx (dVar 0) (dC (.int 3))) (dC (.int 11))) dNilA)) (dVar 1)))))
/-- a step of a draw: x[2] is not 0 or the script is at its end -/
theorem draw_tail (hS : S[n]? = some (dst ns p q h)) (limit : Int) (h0 : 0 < limit) (h1 : limit < 1073741824) (d2 : Option D) :
    ∃ v q' h' , 0 ≤ v ∧ v < limit ∧ drawTail [some (.r n), some (.v (.int limit)), d2, none] S = .ok (.rt (.v (.int v))) (S.set n (dst ns p q' h')) := by
  unfold drawTail
  by_cases hq : 0 < q
  · refine ⟨q % limit, q / limit, h, Int.emod_nonneg _ (by omega), Int.emod_lt_of_pos _ h0, ?_⟩
    have e : sSetIx (dVar 0) (dC (.int 2)) (dBin dDiv (dBin dIx (dVar 0) (dC (.int 2))) (dVar 1)) [some (.r n), some (.v (.int limit)), d2, some (.v (.int (q % limit)))] S = .ok (.nx [some (.r n), some (.v (.int limit)), d2, some (.v (.int (q % limit)))]) (S.set n (dst ns p (q / limit) h)) := by
      rw [setIx_ap (n := n) (S1 := S) (x := .int (q / limit)) (k := 2) (xs := [.list (ns.map .int), .int p, .int q, .int h]) (j := 2) _ rfl rfl hS rfl]
      · rfl
      · simp [dst_2 hS, dDiv_ii _ _ h0 h1]
    simp [dst_2 hS, hq, dMod_ii _ _ h0, e]
  · refine ⟨((h * 69621 + 7) % 2147483629 / 11) % limit, q, (h * 69621 + 7) % 2147483629, Int.emod_nonneg _ (by omega), Int.emod_lt_of_pos _ h0, ?_⟩
    have e : sSetIx (dVar 0) (dC (.int 3)) (dBin dMod (dBlt opInt (dConsA (dBin dAdd (dBin dMul (dBin dIx (dVar 0) (dC (.int 3))) (dC (.int 69621))) (dC (.int 7))) dNilA)) (dC (.int 2147483629))) [some (.r n), some (.v (.int limit)), d2, none] S = .ok (.nx [some (.r n), some (.v (.int limit)), d2, none]) (S.set n (dst ns p q ((h * 69621 + 7) % 2147483629))) := by
      rw [setIx_ap (n := n) (S1 := S) (x := .int ((h * 69621 + 7) % 2147483629)) (k := 3) (xs := [.list (ns.map .int), .int p, .int q, .int h]) (j := 3) _ rfl rfl hS rfl]
      · rfl
      · simp [dst_3 hS, dMul_ii _ _ (.inr (by decide : (69621 : Int).natAbs < _)), dMod_ii _ _ (by decide : (0 : Int) < 2147483629)]
    have g := get_set (c' := dst ns p q ((h * 69621 + 7) % 2147483629)) hS
    simp [dst_2 hS, hq, e, dst_3 g, dDiv_ii _ _ (by decide : (0 : Int) < 11) (by decide), dMod_ii _ _ h0]
theorem draw_ok (hS : S[n]? = some (dst ns p q h)) (hp : 0 ≤ p) (limit : Int) (h0 : 0 < limit) (h1 : limit < 1073741824) :
    ∃ v p' q' h', 0 ≤ v ∧ v < limit ∧ 0 ≤ p' ∧ f__law_draw [.r n, .v (.int limit)] S = .ok (.v (.int v)) (S.set n (dst ns p' q' h')) := by
  by_cases hc : q = 0 ∧ p < ns.length
  · obtain ⟨rfl, hc⟩ := hc
    have hpn : p.toNat < ns.length := by omega
    have hat : atI (ns.map PyData.int) p = some (.int ns[p.toNat]) := by
      unfold atI ixN
      rw [if_pos hp, if_pos (by simpa using hc)]
      simp [hpn]
    generalize hz : ns[p.toNat] = z at hat
    have hS1 := get_set (c' := dst ns (p + 1) 0 h) hS
    have e1 : ∀ env : DEnv, env[0]? = some (some (.r n)) → sSetIx (dVar 0) (dC (.int 1)) (dBin dAdd (dBin dIx (dVar 0) (dC (.int 1))) (dC (.int 1))) env S = .ok (.nx env) (S.set n (dst ns (p + 1) 0 h)) := fun env h0 => by
      rw [setIx_ap (n := n) (S1 := S) (x := .int (p + 1)) (k := 1) (xs := [.list (ns.map .int), .int p, .int 0, .int h]) (j := 1) _ (by simp [dVar_ap, h0]) rfl hS rfl]
      · rfl
      · simp [dVar_ap, h0, dst_1 hS]
    have e3 : ∀ (q : Int) (hS2 : (S.set n (dst ns (p + 1) q h))[n]? = some (dst ns (p + 1) q h)), sSetIx (dVar 0) (dC (.int 3)) (dBin dMod (dBlt opInt (dConsA (dBin dAdd (dBin dAdd (dBin dMul (dBin dIx (dVar 0) (dC (.int 3))) (dC (.int 48271))) (dVar 2)) (dC (.int 13))) dNilA)) (dC (.int 2147483647))) [some (.r n), some (.v (.int limit)), some (.v (.int z)), none] (S.set n (dst ns (p + 1) q h)) = .ok (.nx [some (.r n), some (.v (.int limit)), some (.v (.int z)), none]) (S.set n (dst ns (p + 1) q ((h * 48271 + z + 13) % 2147483647))) := fun q hS2 => by
      rw [setIx_ap (n := n) (S1 := S.set n (dst ns (p + 1) q h)) (x := .int ((h * 48271 + z + 13) % 2147483647)) (k := 3) (xs := [.list (ns.map .int), .int (p + 1), .int q, .int h]) (j := 3) _ rfl rfl hS2 rfl]
      · rw [set_set]; rfl
      · simp [dst_3 hS2, dMul_ii _ _ (.inr (by decide : (48271 : Int).natAbs < _)), dMod_ii _ _ (by decide : (0 : Int) < 2147483647)]
    have ep : dPow (.v (.int 10)) (.v (.int 18)) (S.set n (dst ns (p + 1) 0 h)) = .ok (.v (.int 1000000000000000000)) (S.set n (dst ns (p + 1) 0 h)) := rfl
    by_cases hbig : (1000000000000000000 : Int) ≤ z
    · have hS2 := get_set (c' := dst ns (p + 1) z h) hS
      have hS3 := get_set (c' := dst ns (p + 1) z ((h * 48271 + z + 13) % 2147483647)) hS
      obtain ⟨v, q', h', v0, v1, e⟩ := draw_tail hS3 limit h0 h1 (some (.v (.int z)))
      refine ⟨v, p + 1, q', h', v0, v1, by omega, ?_⟩
      have e2 : sSetIx (dVar 0) (dC (.int 2)) (dVar 2) [some (.r n), some (.v (.int limit)), some (.v (.int z)), none] (S.set n (dst ns (p + 1) 0 h)) = .ok (.nx [some (.r n), some (.v (.int limit)), some (.v (.int z)), none]) (S.set n (dst ns (p + 1) z h)) := by
        rw [setIx_ap (n := n) (S1 := S.set n (dst ns (p + 1) 0 h)) (x := .int z) (k := 2) (xs := [.list (ns.map .int), .int (p + 1), .int 0, .int h]) (j := 2) rfl rfl rfl hS1 rfl]
        rw [set_set]; rfl
      rw [set_set] at e
      show fin (thenS (drawHead [some (.r n), some (.v (.int limit)), none, none] S) drawTail) = _
      unfold drawHead
      simp [dst_2 hS, dst_1 hS, dst_0 hS, hat, hc, e1, ep, hbig, e2, e3 z hS2, e]
    · have hS3 := get_set (c' := dst ns (p + 1) 0 ((h * 48271 + z + 13) % 2147483647)) hS
      obtain ⟨v, q', h', v0, v1, e⟩ := draw_tail hS3 limit h0 h1 (some (.v (.int z)))
      refine ⟨v, p + 1, q', h', v0, v1, by omega, ?_⟩
      rw [set_set] at e
      show fin (thenS (drawHead [some (.r n), some (.v (.int limit)), none, none] S) drawTail) = _
      unfold drawHead
      simp [dst_2 hS, dst_1 hS, dst_0 hS, hat, hc, e1, ep, hbig, e3 0 hS1, e]
  · obtain ⟨v, q', h', v0, v1, e⟩ := draw_tail hS limit h0 h1 none
    refine ⟨v, p, q', h', v0, v1, hp, ?_⟩
    show fin (thenS (drawHead [some (.r n), some (.v (.int limit)), none, none] S) drawTail) = _
    unfold drawHead
    by_cases hq : q = 0
    · have hc2 : ¬ p < ns.length := fun z => hc ⟨hq, z⟩
      subst hq
      simp [dst_2 hS, dst_1 hS, dst_0 hS, hc2, e]
    · simp [dst_2 hS, hq, e]
end
end G

set_option Elab.async false
set_option linter.all false
set_option autoImplicit false
set_option maxRecDepth 100000
namespace G
open PySem PySem.Spec PyProof.Rows L2
section
variable {S : Store} {env : DEnv} {f g : FE}
@[simp] theorem dTru_ap : dTru f env S = (f env S).bind fun d S1 => match truD S1 d with | some b => .ok b S1 | none => .stuck := rfl
@[simp] theorem truD_b (b : Bool) : truD S (.v (.bool b)) = some b := rfl
@[simp] theorem truD_i (i : Int) : truD S (.v (.int i)) = some (i != 0) := rfl
@[simp] theorem truD_l (xs : List PyData) : truD S (.v (.list xs)) = some (!xs.isEmpty) := rfl
@[simp] theorem truD_t (xs : List PyData) : truD S (.v (.tuple xs)) = some (!xs.isEmpty) := rfl
@[simp] theorem dIsi_ap (T : String) : dIsi T f env S = (f env S).bind fun d S1 => match tyN S1 d with | some a => okB (isiB T a) S1 | none => .stuck := rfl
@[simp] theorem tyN_none : tyN S (.v .none) = some "NoneType" := rfl
@[simp] theorem tyN_b (b : Bool) : tyN S (.v (.bool b)) = some "bool" := rfl
@[simp] theorem tyN_i (b : Int) : tyN S (.v (.int b)) = some "int" := rfl
@[simp] theorem tyN_s (b : Str) : tyN S (.v (.str b)) = some "str" := rfl
@[simp] theorem tyN_l (b : List PyData) : tyN S (.v (.list b)) = some "list" := rfl
@[simp] theorem tyN_t (b : List PyData) : tyN S (.v (.tuple b)) = some "tuple" := rfl
@[simp] theorem isiB_eq (T a : String) : isiB T a = (a == T || (T == "int" && a == "bool")) := rfl
@[simp] theorem dIsNo_none (neg : Bool) : dIsNo neg (.v .none) S = .ok (.v (.bool (!neg))) S := rfl
@[simp] theorem dIsNo_b (neg : Bool) (b : Bool) : dIsNo neg (.v (.bool b)) S = .ok (.v (.bool neg)) S := rfl
@[simp] theorem dIsNo_i (neg : Bool) (b : Int) : dIsNo neg (.v (.int b)) S = .ok (.v (.bool neg)) S := rfl
@[simp] theorem dIsNo_s (neg : Bool) (b : Str) : dIsNo neg (.v (.str b)) S = .ok (.v (.bool neg)) S := rfl
@[simp] theorem dIsNo_l (neg : Bool) (b : List PyData) : dIsNo neg (.v (.list b)) S = .ok (.v (.bool neg)) S := rfl
@[simp] theorem dIsNo_t (neg : Bool) (b : List PyData) : dIsNo neg (.v (.tuple b)) S = .ok (.v (.bool neg)) S := rfl
theorem dLc_ap (own : List Nat) (p : Pat) (i : FI) (t : FT) (e : FE) : dLc own p i t e env S = (i env S).bind fun xs S1 => (if small xs.length then compL p t e (wipeE env own) xs S1 else .stuck).bind fun ys S2 => .ok (.v (.list ys)) S2 := by
  unfold dLc compR; cases i env S <;> rfl
@[simp] theorem wipeE_nil : wipeE env [] = env := rfl
@[simp] theorem wipeE_cons (i : Nat) (r : List Nat) : wipeE env (i :: r) = (wipeE env r).set i none := rfl
@[simp] theorem fYes_ap : fYes env S = .ok true S := rfl
/-- the list a comprehension comes to -/
theorem dLc_ok {own : List Nat} {p : Pat} {i : FI} {t : FT} {e : FE} {xs : List PyData} (tt : PyData → Bool) (g : PyData → PyData) (hi : i env S = .ok xs S) (hl : xs.length ≤ 16000000)
    (h : ∀ x ∈ xs, ∃ env1, gPat p x (wipeE env own) = some env1 ∧ t env1 S = .ok (tt x) S ∧ (tt x = true → e env1 S = .ok (.v (g x)) S)) : dLc own p i t e env S = .ok (.v (.list ((xs.filter tt).map g))) S := by
  rw [dLc_ap, hi, bind_okS, if_pos (by simpa [small] using hl), compL_ok tt g xs h, bind_okS]
theorem dLcC_ok {own : List Nat} {p : Pat} {i : FI} {t : FT} {e : FE} {xs : List PyData} (tt : PyData → Bool) (g : PyData → PyData) (hi : i env S = .ok xs S) (hl : xs.length ≤ 16000000)
    (h : ∀ x ∈ xs, ∃ env1, gPat p x (wipeE env own) = some env1 ∧ t env1 S = .ok (tt x) S ∧ (tt x = true → e env1 S = .ok (.v (g x)) S)) : dLcC own p i t e env S = .ok (.r S.length) (S ++ [.lst ((xs.filter tt).map g)]) := by
  unfold dLcC compR
  rw [hi, bind_okS, if_pos (by simpa [small] using hl), compL_ok tt g xs h, bind_okS]
theorem mem_range {lo : Int} {n : Nat} {x : PyData} : x ∈ rangeD lo n ↔ ∃ i : Nat, i < n ∧ x = .int (lo + i) := by
  unfold rangeD
  rw [List.mem_map]
  constructor
  · rintro ⟨i, h, rfl⟩; exact ⟨i, by simpa using h, rfl⟩
  · rintro ⟨i, h, rfl⟩; exact ⟨i, by simpa using h, rfl⟩
theorem rngOk_nat {n : Nat} (h : n ≤ 1000000) : rngOk 0 (n : Int) = true := by unfold rngOk; simp; omega
theorem atI_nat' {xs : List PyData} {i : Nat} (h : i < xs.length) : atI xs (i : Int) = some xs[i] := L2.atI_nat (List.getElem?_eq_getElem h)
theorem rangeD_len (lo : Int) (n : Nat) : (rangeD lo n).length = n := by simp [rangeD]
end
/-- data of a depth below k, of small sizes -/
def okD : Nat → PyData → Prop
  | 0, _ => False
  | k + 1, .list xs => xs.length ≤ 1000000 ∧ ∀ x ∈ xs, okD k x
  | k + 1, .tuple xs => xs.length ≤ 1000000 ∧ ∀ x ∈ xs, okD k x
  | _ + 1, .none => True
  | _ + 1, .bool _ => True
  | _ + 1, .int _ => True
  | _ + 1, .str x => SeqAt.shaped (.str x) = true
  | _ + 1, .dict _ => False
theorem shaped_str_eqv (x : Str) : PyData.eqv (.str x) (.str x) = true := by simp [PyData.eqv]
theorem same_seq {k : Nat} {S : Store} {xs : List PyData} {mk : PyData} (hm : mk = .list xs ∨ mk = .tuple xs) (hl : xs.length ≤ 1000000) (ih : ∀ x ∈ xs, f__law_same k [.v x, .v x] S = .ok (.v (.bool true)) S) :
    f__law_same (k + 1) [.v mk, .v mk] S = .ok (.v (.bool true)) S := by
  show fin (b__law_same (f__law_same k) [some (.v mk), some (.v mk), none] S) = _
  have hc : dLc [2] (.s 2) (iRange1 (dBlt opLen (dConsA (dVar 1) dNilA))) (tNotD (dTru (dCall (f__law_same k) (dConsA (dBin dIx (dVar 0) (dVar 2)) (dConsA (dBin dIx (dVar 1) (dVar 2)) dNilA)) []))) (dVar 2) [some (.v mk), some (.v mk), none] S = .ok (.v (.list [])) S := by
    rw [dLc_ok (xs := rangeD 0 xs.length) (fun _ => false) id]
    · simp
    · rcases hm with rfl | rfl <;> simp [rngOk_nat hl]
    · rw [rangeD_len]; omega
    · intro x hx
      obtain ⟨i, hi, rfl⟩ := mem_range.mp hx
      have := ih xs[i] (List.getElem_mem hi)
      refine ⟨_, gPat_s _ _, ?_, fun h => by cases h⟩
      rcases hm with rfl | rfl <;> simp [atI_nat' hi, this]
  unfold b__law_same
  rcases hm with rfl | rfl <;> simp [hc]
theorem same_ok : ∀ (k : Nat) (x : PyData) (S : Store), okD k x → f__law_same k [.v x, .v x] S = .ok (.v (.bool true)) S
  | 0, _, _, h => h.elim
  | k + 1, .list xs, S, h => same_seq (.inl rfl) h.1 fun x hx => same_ok k x S (h.2 x hx)
  | k + 1, .tuple xs, S, h => same_seq (.inr rfl) h.1 fun x hx => same_ok k x S (h.2 x hx)
  | k + 1, .none, S, h => by
    show fin (b__law_same (f__law_same k) [some (.v .none), some (.v .none), none] S) = _
    simp [b__law_same]
  | k + 1, .bool b, S, h => by
    show fin (b__law_same (f__law_same k) [some (.v (.bool b)), some (.v (.bool b)), none] S) = _
    simp [b__law_same]
  | k + 1, .int i, S, h => by
    show fin (b__law_same (f__law_same k) [some (.v (.int i)), some (.v (.int i)), none] S) = _
    simp [b__law_same]
  | k + 1, .str x, S, h => by
    have e : dEq (.v (.str x)) (.v (.str x)) S = .ok (.v (.bool true)) S := by
      show (if SeqAt.shaped (.str x) && SeqAt.shaped (.str x) then okB (PyData.eqv (.str x) (.str x)) S else .stuck) = _
      rw [show SeqAt.shaped (.str x) = true from h, shaped_str_eqv]; rfl
    show fin (b__law_same (f__law_same k) [some (.v (.str x)), some (.v (.str x)), none] S) = _
    simp [b__law_same, e]
  | _ + 1, .dict _, _, h => h.elim
section
variable {S : Store} {n : Nat} {ns : List Int} {p q h : Int}
theorem pick_ok (hS : S[n]? = some (dst ns p q h)) (hp : 0 ≤ p) {xs : List PyData} {mk : PyData} (hm : mk = .list xs ∨ mk = .tuple xs) (h0 : 0 < xs.length) (h1 : xs.length ≤ 1000000) :
    ∃ (i : Nat) (hi : i < xs.length) (p' q' h' : Int), 0 ≤ p' ∧ f__law_pick [.r n, .v mk] S = .ok (.v xs[i]) (S.set n (dst ns p' q' h')) := by
  obtain ⟨v, p', q', h', v0, v1, hp', e⟩ := draw_ok hS hp (xs.length : Int) (by omega) (by omega)
  have hv : v.toNat < xs.length := by omega
  refine ⟨v.toNat, hv, p', q', h', hp', ?_⟩
  have ev : v = (v.toNat : Int) := by omega
  have hl : (S.set n (dst ns p' q' h')).take S.length = S.set n (dst ns p' q' h') := by
    rw [List.take_of_length_le]; simp
  have ha : atI xs v = some xs[v.toNat] := by
    have := atI_nat' hv
    rw [← ev] at this; exact this
  show fin (b__law_pick [some (.r n), some (.v mk)] S) = _
  unfold b__law_pick
  rcases hm with rfl | rfl <;> simp [e, hl, ha]
end
end G

set_option Elab.async false
set_option linter.all false
set_option autoImplicit false
set_option maxRecDepth 100000
namespace G
open PySem PySem.Spec PyProof.Rows L2
/-- a loop that runs to its end -/
theorem forL_inv {p : Pat} {body : FS} {xs : List PyData} (Inv : Nat → DEnv → Store → Prop)
    (step : ∀ (i : Nat) (x : PyData) (env : DEnv) (S : Store), xs[i]? = some x → Inv i env S → ∃ env1, gPat p x env = some env1 ∧ ∃ env2 S2, (body env1 S = .ok (.nx env2) S2 ∨ body env1 S = .ok (.ct env2) S2) ∧ Inv (i + 1) env2 S2) :
    ∀ (env : DEnv) (S : Store), Inv 0 env S → ∃ env' S', forL p body xs env S = .ok (.nx env') S' ∧ Inv xs.length env' S' := by
  suffices h : ∀ (k : Nat) (ys : List PyData) (env : DEnv) (S : Store), ys = xs.drop k → k ≤ xs.length → Inv k env S → ∃ env' S', forL p body ys env S = .ok (.nx env') S' ∧ Inv xs.length env' S' by
    intro env S h0; exact h 0 xs env S rfl (Nat.zero_le _) h0
  intro k ys
  induction ys generalizing k with
  | nil =>
    intro env S e hk hi
    have : k = xs.length := by
      have := congrArg List.length e
      simp at this; omega
    subst this
    exact ⟨env, S, rfl, hi⟩
  | cons x ys ih =>
    intro env S e hk hi
    have hx : xs[k]? = some x := by
      have := congrArg (fun l => l[0]?) e
      simpa using this.symm
    obtain ⟨env1, g, env2, S2, hb, h2⟩ := step k x env S hx hi
    have hk2 : k < xs.length := (List.getElem?_eq_some_iff.mp hx).1
    have e2 : ys = xs.drop (k + 1) := by
      have := congrArg List.tail e
      simpa using this
    obtain ⟨env', S', h3, h4⟩ := ih (k + 1) env2 S2 e2 hk2 h2
    refine ⟨env', S', ?_, h4⟩
    rw [forL_cons, g]
    rcases hb with hb | hb <;> simp [hb, h3]
/-- a loop, by a fold over what is kept: the store does not change -/
theorem forL_fold {σ : Type} {p : Pat} {body : FS} {S : Store} (E : σ → PyData → DEnv → Prop) (Inv : σ → DEnv → Prop) (f : σ → PyData → σ) :
    ∀ (xs : List PyData) (s : σ) (env : DEnv), Inv s env → (∀ (s : σ) (x : PyData) (env : DEnv), x ∈ xs → Inv s env → ∃ env1 env2, gPat p x env = some env1 ∧ body env1 S = .ok (.nx env2) S ∧ Inv (f s x) env2) →
      ∃ env', forL p body xs env S = .ok (.nx env') S ∧ Inv (xs.foldl f s) env'
  | [], s, env, h, _ => ⟨env, rfl, h⟩
  | x :: xs, s, env, h, st => by
    obtain ⟨env1, env2, g, hb, h2⟩ := st s x env (List.mem_cons_self ..) h
    obtain ⟨env', h3, h4⟩ := forL_fold E Inv f xs (f s x) env2 h2 fun s y e hy => st s y e (List.mem_cons_of_mem _ hy)
    exact ⟨env', by rw [forL_cons, g]; simp [hb, h3], h4⟩
/-- a loop that may return -/
theorem forL_first {p : Pat} {body : FS} {xs : List PyData} {S : Store} (hit : Nat → Bool) (val : Nat → D) (Inv : Nat → DEnv → Prop)
    (step : ∀ (i : Nat) (x : PyData) (env : DEnv), xs[i]? = some x → Inv i env → ∃ env1, gPat p x env = some env1 ∧ (hit i = false → ∃ env2, body env1 S = .ok (.nx env2) S ∧ Inv (i + 1) env2) ∧ (hit i = true → body env1 S = .ok (.rt (val i)) S)) :
    ∀ (env : DEnv), Inv 0 env → ((∀ i, i < xs.length → hit i = false) ∧ ∃ env', forL p body xs env S = .ok (.nx env') S ∧ Inv xs.length env') ∨ ∃ k, k < xs.length ∧ hit k = true ∧ (∀ j, j < k → hit j = false) ∧ forL p body xs env S = .ok (.rt (val k)) S := by
  suffices h : ∀ (k : Nat) (ys : List PyData) (env : DEnv), ys = xs.drop k → k ≤ xs.length → (∀ j, j < k → hit j = false) → Inv k env → ((∀ i, i < xs.length → hit i = false) ∧ ∃ env', forL p body ys env S = .ok (.nx env') S ∧ Inv xs.length env') ∨ ∃ k, k < xs.length ∧ hit k = true ∧ (∀ j, j < k → hit j = false) ∧ forL p body ys env S = .ok (.rt (val k)) S by
    intro env h0; exact h 0 xs env rfl (Nat.zero_le _) (fun j hj => by omega) h0
  intro k ys
  induction ys generalizing k with
  | nil =>
    intro env e hk hj hi
    have : k = xs.length := by
      have := congrArg List.length e
      simp at this; omega
    subst this
    exact .inl ⟨hj, env, rfl, hi⟩
  | cons x ys ih =>
    intro env e hk hj hi
    have hx : xs[k]? = some x := by
      have := congrArg (fun l => l[0]?) e
      simpa using this.symm
    obtain ⟨env1, g, hb0, hb1⟩ := step k x env hx hi
    have hk2 : k < xs.length := (List.getElem?_eq_some_iff.mp hx).1
    have e2 : ys = xs.drop (k + 1) := by
      have := congrArg List.tail e
      simpa using this
    cases hh : hit k with
    | true => exact .inr ⟨k, hk2, hh, hj, by rw [forL_cons, g]; simp [hb1 hh]⟩
    | false =>
      obtain ⟨env2, hb, h2⟩ := hb0 hh
      have := ih (k + 1) env2 e2 hk2 (fun j hj2 => by
        by_cases z : j = k
        · subst z; exact hh
        · exact hj j (by omega)) h2
      rw [forL_cons, g]
      simpa [hb] using this
theorem rngOk_of {a b : Int} (h1 : -1000000 ≤ a) (h2 : a ≤ 1000000) (h3 : -1000000 ≤ b) (h4 : b ≤ 1000000) : rngOk a b = true := by
  unfold rngOk
  exact decide_eq_true ⟨by omega, by omega, by omega, by omega, by omega⟩
theorem cutD_lo (xs : List PyData) (k : Nat) : cutD xs (some (k : Int)) none = xs.drop k := by
  unfold cutD
  rw [HT.sIx_nat, HT.sIx_none]
  by_cases h : k ≤ xs.length
  · rw [Nat.min_eq_left h, List.take_of_length_le (by simp)]
  · rw [Nat.min_eq_right (by omega), List.drop_of_length_le (by omega), List.drop_of_length_le (by omega)]; simp
theorem cutD_lo1 (xs : List PyData) (k : Nat) : cutD xs (some ((k : Int) + 1)) none = xs.drop (k + 1) := by
  have := cutD_lo xs (k + 1)
  simpa using this
theorem cutD_hi (xs : List PyData) (k : Nat) : cutD xs none (some (k : Int)) = xs.take k := by
  unfold cutD
  rw [HT.sIx_nat, HT.sIx_none]
  by_cases h : k ≤ xs.length
  · rw [Nat.min_eq_left h]; simp
  · rw [Nat.min_eq_right (by omega)]; simp [List.take_of_length_le (show xs.length ≤ k by omega)]
section
variable {S : Store} {env : DEnv}
theorem iRange1_ok {f : FE} {b : Int} {n : Nat} {S1 : Store} (h1 : f env S = .ok (.v (.int b)) S1) (hn : b.toNat = n) (h3 : -1000000 ≤ b) (h4 : b ≤ 1000000) : iRange1 f env S = .ok (rangeD 0 n) S1 := by
  subst hn
  rw [iRange1_ap, h1, bind_okS]
  show (if rngOk 0 b then Res.ok (rangeD 0 b.toNat) S1 else .stuck) = _
  rw [if_pos (rngOk_of (by decide) (by decide) h3 h4)]
theorem iRange2_ok {f g : FE} {a b : Int} {n : Nat} {S1 S2 : Store} (h1 : f env S = .ok (.v (.int a)) S1) (h2 : g env S1 = .ok (.v (.int b)) S2) (hn : (b - a).toNat = n) (h5 : -1000000 ≤ a) (h6 : a ≤ 1000000) (h3 : -1000000 ≤ b) (h4 : b ≤ 1000000) : iRange2 f g env S = .ok (rangeD a n) S2 := by
  subst hn
  rw [iRange2_ap, h1, bind_okS, h2, bind_okS]
  show (if rngOk a b then Res.ok (rangeD a (b - a).toNat) S2 else .stuck) = _
  rw [if_pos (rngOk_of h5 h6 h3 h4)]
theorem omExtend_ok {n : Nat} {xs ys : List PyData} {e : D} (h : S[n]? = some (.lst xs)) (he : G.listOf S e = some ys) (hl : xs.length + ys.length ≤ 16000000) : omExtend (.r n) [e] S = .ok (.v .none) (S.set n (.lst (xs ++ ys))) := by
  simp only [omExtend, h, he]
  rw [if_pos (by simpa [small] using hl)]; rfl
theorem omAppend_ok {n : Nat} {xs : List PyData} {x : PyData} (h : S[n]? = some (.lst xs)) (hl : xs.length + 1 ≤ 16000000) : omAppend (.r n) [.v x] S = .ok (.v .none) (S.set n (.lst (xs ++ [x]))) := by
  simp only [omAppend, h]
  rw [if_pos (by simpa [small] using hl)]; rfl
theorem dMtL_ok {op : OpM} {f : FE} {g : FA} {d : D} {ds : List D} {xs : List PyData} {S1 S2 : Store} (hf : f env S = .ok d S1) (hl : G.listOf S1 d = some xs) (hg : g env S1 = .ok ds S2) : dMtL op f g env S = op d ds S2 := by
  simp only [dMtL, hf, bind_okS, hl, hg]
theorem listOf_r {n : Nat} {xs : List PyData} (h : S[n]? = some (.lst xs)) : G.listOf S (.r n) = some xs := by simp only [G.listOf, h]
@[simp] theorem listOf_v (xs : List PyData) : G.listOf S (.v (.list xs)) = some xs := rfl
@[simp] theorem snoc_get (S : Store) (c : Cell) : (S ++ [c])[S.length]? = some c := by simp
@[simp] theorem snoc_set (S : Store) (c c' : Cell) : (S ++ [c]).set S.length c' = S ++ [c'] := by simp
theorem sFrz_r {i n : Nat} {f : FS} {xs : List PyData} (h : env[i]? = some (some (.r n))) (hc : S[n]? = some (.lst xs)) : sFrz i f env S = f (env.set i (some (.v (.list xs)))) (S.set n .dead) := by
  simp only [sFrz, h, hc]
@[simp] theorem oNone_ap : oNone env S = .ok none S := rfl
@[simp] theorem oSome_ap (f : FE) : oSome f env S = (f env S).bind fun d S1 => match d with | .v (.int i) => .ok (some i) S1 | _ => .stuck := rfl
theorem dSl_t {f : FE} {lo hi : FO} {xs : List PyData} {l h : Option Int} {S1 : Store} (h1 : f env S = .ok (.v (.tuple xs)) S1) (h2 : lo env S1 = .ok l S1) (h3 : hi env S1 = .ok h S1) : dSl f lo hi env S = .ok (.v (.tuple (cutD xs l h))) S1 := by
  simp only [dSl, h1, bind_okS, h2, h3]
theorem dSl_l {f : FE} {lo hi : FO} {xs : List PyData} {l h : Option Int} {S1 : Store} (h1 : f env S = .ok (.v (.list xs)) S1) (h2 : lo env S1 = .ok l S1) (h3 : hi env S1 = .ok h S1) : dSl f lo hi env S = .ok (.v (.list (cutD xs l h))) S1 := by
  simp only [dSl, h1, bind_okS, h2, h3, listOf]
theorem dAdd_tt (a b : List PyData) (h : a.length + b.length ≤ 16000000) : dAdd (.v (.tuple a)) (.v (.tuple b)) S = .ok (.v (.tuple (a ++ b))) S := by
  show (if small (a.length + b.length) then Res.ok (D.v (.tuple (a ++ b))) S else .stuck) = _
  rw [if_pos (by simpa [small] using h)]
theorem dAdd_ll (a b : List PyData) (h : a.length + b.length ≤ 16000000) : dAdd (.v (.list a)) (.v (.list b)) S = .ok (.v (.list (a ++ b))) S := by
  show (if small (a.length + b.length) then Res.ok (D.v (.list (a ++ b))) S else .stuck) = _
  rw [if_pos (by simpa [small] using h)]
/-- t[:k] + (r,) + t[k + 1:] -/
theorem dMove {fx fk fr : FE} {qs : List PyData} {k : Nat} {r : PyData} (hx : fx env S = .ok (.v (.tuple qs)) S) (hk : fk env S = .ok (.v (.int (k : Nat))) S) (hr : fr env S = .ok (.v r) S) (hl : qs.length ≤ 1000000) :
    dBin dAdd (dBin dAdd (dSl fx oNone (oSome fk)) (dTup (dConsA fr dNilA))) (dSl fx (oSome (dBin dAdd fk (dC (.int 1)))) oNone) env S = .ok (.v (.tuple (qs.take k ++ [r] ++ qs.drop (k + 1)))) S := by
  have l1 : (qs.take k).length ≤ 1000000 := by simp; omega
  have l2 : (qs.drop (k + 1)).length ≤ 1000000 := by simp; omega
  have e1 : dSl fx oNone (oSome fk) env S = .ok (.v (.tuple (qs.take k))) S := by
    rw [dSl_t (xs := qs) (l := none) (h := some (k : Int)) (S1 := S) hx (by simp) (by simp [hk]), cutD_hi]
  have e2 : dSl fx (oSome (dBin dAdd fk (dC (.int 1)))) oNone env S = .ok (.v (.tuple (qs.drop (k + 1)))) S := by
    rw [dSl_t (xs := qs) (l := some ((k : Int) + 1)) (h := none) (S1 := S) hx (by simp [hk]) (by simp), cutD_lo1]
  have e3 : dTup (dConsA fr dNilA) env S = .ok (.v (.tuple [r])) S := by simp [hr, small]
  rw [dBin_ap, dBin_ap, e1, bind_okS, e3, bind_okS, dAdd_tt _ _ (by simp only [List.length_singleton]; omega), bind_okS, e2, bind_okS, dAdd_tt _ _ (by simp only [List.length_append, List.length_singleton]; omega)]
theorem draw_call {n : Nat} {ns : List Int} {p q h : Int} (hS : S[n]? = some (dst ns p q h)) (hp : 0 ≤ p) (limit : Int) (h0 : 0 < limit) (h1 : limit < 1073741824) :
    ∃ v p' q' h', 0 ≤ v ∧ v < limit ∧ 0 ≤ p' ∧ ∀ (env : DEnv) (fd fl : FE), fd env S = .ok (.r n) S → fl env S = .ok (.v (.int limit)) S → dCall f__law_draw (dConsA fd (dConsA fl dNilA)) [] env S = .ok (.v (.int v)) (S.set n (dst ns p' q' h')) := by
  obtain ⟨v, p', q', h', v0, v1, hp', e⟩ := draw_ok hS hp limit h0 h1
  refine ⟨v, p', q', h', v0, v1, hp', fun env fd fl e1 e2 => ?_⟩
  have hl : (S.set n (dst ns p' q' h')).take S.length = S.set n (dst ns p' q' h') := by
    rw [List.take_of_length_le]; simp
  simp [e1, e2, e, hl]
theorem pick_call {n : Nat} {ns : List Int} {p q h : Int} (hS : S[n]? = some (dst ns p q h)) (hp : 0 ≤ p) {xs : List PyData} {mk : PyData} (hm : mk = .list xs ∨ mk = .tuple xs) (h0 : 0 < xs.length) (h1 : xs.length ≤ 1000000) :
    ∃ (i : Nat) (hi : i < xs.length) (p' q' h' : Int), 0 ≤ p' ∧ ∀ (env : DEnv) (fd fl : FE), fd env S = .ok (.r n) S → fl env S = .ok (.v mk) S → dCall f__law_pick (dConsA fd (dConsA fl dNilA)) [] env S = .ok (.v xs[i]) (S.set n (dst ns p' q' h')) := by
  obtain ⟨i, hi, p', q', h', hp', e⟩ := pick_ok hS hp hm h0 h1
  refine ⟨i, hi, p', q', h', hp', fun env fd fl e1 e2 => ?_⟩
  have hl : (S.set n (dst ns p' q' h')).take S.length = S.set n (dst ns p' q' h') := by
    rw [List.take_of_length_le]; simp
  simp [e1, e2, e, hl]
end
end G

set_option Elab.async false
set_option linter.all false
set_option autoImplicit false
set_option maxRecDepth 100000
namespace G
open PySem PySem.Spec PyProof.Rows L2
/-- nested lists and tuples of ints, of a depth below k -/
def nD : Nat → PyData → Prop
  | 0, _ => False
  | k + 1, .list xs => ∀ x ∈ xs, nD k x
  | k + 1, .tuple xs => ∀ x ∈ xs, nD k x
  | _ + 1, .int _ => True
  | _ + 1, _ => False
theorem canLayAll_of : ∀ {xs : List PyData}, (∀ x ∈ xs, PyData.canLay0 x = true) → PyData.canLayAll0 xs = true
  | [], _ => by simp [PyData.canLayAll0]
  | x :: xs, h => by rw [PyData.canLayAll0, h x (List.mem_cons_self ..), canLayAll_of fun y hy => h y (List.mem_cons_of_mem _ hy)]; rfl
theorem depthAll_of {n : Nat} : ∀ {xs : List PyData}, (∀ x ∈ xs, PyData.depth x ≤ n) → PyData.depthAll xs ≤ n
  | [], _ => by simp [PyData.depthAll]
  | x :: xs, h => by rw [PyData.depthAll]; exact Nat.max_le.mpr ⟨h x (List.mem_cons_self ..), depthAll_of fun y hy => h y (List.mem_cons_of_mem _ hy)⟩
theorem nD_lay : ∀ (k : Nat) (x : PyData), nD k x → PyData.canLay0 x = true
  | 0, _, h => h.elim
  | k + 1, .list xs, h => by rw [PyData.canLay0]; exact canLayAll_of fun x hx => nD_lay k x (h x hx)
  | k + 1, .tuple xs, h => by rw [PyData.canLay0]; exact canLayAll_of fun x hx => nD_lay k x (h x hx)
  | k + 1, .int _, _ => by simp [PyData.canLay0]
  | _ + 1, .none, h => h.elim
  | _ + 1, .bool _, h => h.elim
  | _ + 1, .str _, h => h.elim
  | _ + 1, .dict _, h => h.elim
theorem nD_depth : ∀ (k : Nat) (x : PyData), nD k x → PyData.depth x ≤ k
  | 0, _, h => h.elim
  | k + 1, .list xs, h => by rw [PyData.depth]; exact Nat.succ_le_succ (depthAll_of fun x hx => nD_depth k x (h x hx))
  | k + 1, .tuple xs, h => by rw [PyData.depth]; exact Nat.succ_le_succ (depthAll_of fun x hx => nD_depth k x (h x hx))
  | k + 1, .int _, _ => by simp [PyData.depth]
  | _ + 1, .none, h => h.elim
  | _ + 1, .bool _, h => h.elim
  | _ + 1, .str _, h => h.elim
  | _ + 1, .dict _, h => h.elim
theorem nD_shaped {k : Nat} {x : PyData} (h : nD k x) (hk : k ≤ 64) : SeqAt.shaped x = true := by
  unfold SeqAt.shaped
  rw [nD_lay k x h, Bool.true_and]
  exact decide_eq_true (Nat.le_trans (nD_depth k x h) hk)
theorem eqvAll_iff {xs : List PyData} (h : ∀ x ∈ xs, ∀ y, PyData.eqv x y = true → x = y) : ∀ {ys : List PyData}, PyData.eqvAll xs ys = true → xs = ys := by
  induction xs with
  | nil => intro ys e; cases ys with
    | nil => rfl
    | cons => simp [PyData.eqvAll] at e
  | cons x xs ih => intro ys e; cases ys with
    | nil => simp [PyData.eqvAll] at e
    | cons y ys =>
      rw [PyData.eqvAll, Bool.and_eq_true] at e
      rw [h x (List.mem_cons_self ..) y e.1, ih (fun z hz => h z (List.mem_cons_of_mem _ hz)) e.2]
theorem eqvAll_refl' {xs : List PyData} (h : ∀ x ∈ xs, PyData.eqv x x = true) : PyData.eqvAll xs xs = true := by
  induction xs with
  | nil => simp [PyData.eqvAll]
  | cons x xs ih => rw [PyData.eqvAll, h x (List.mem_cons_self ..), ih fun y hy => h y (List.mem_cons_of_mem _ hy)]; rfl
theorem nD_refl : ∀ (k : Nat) (x : PyData), nD k x → PyData.eqv x x = true
  | 0, _, h => h.elim
  | k + 1, .list xs, h => by rw [PyData.eqv]; exact eqvAll_refl' fun x hx => nD_refl k x (h x hx)
  | k + 1, .tuple xs, h => by rw [PyData.eqv]; exact eqvAll_refl' fun x hx => nD_refl k x (h x hx)
  | k + 1, .int _, _ => by simp [PyData.eqv]
  | _ + 1, .none, h => h.elim
  | _ + 1, .bool _, h => h.elim
  | _ + 1, .str _, h => h.elim
  | _ + 1, .dict _, h => h.elim
/-- equal, for data of ints, is the same -/
theorem nD_eq : ∀ (k j : Nat) (x y : PyData), nD k x → nD j y → PyData.eqv x y = true → x = y
  | 0, _, _, _, h, _, _ => h.elim
  | _, 0, _, _, _, h, _ => h.elim
  | k + 1, j + 1, .list xs, .list ys, h, h2, e => by
    rw [PyData.eqv] at e
    have : ∀ (zs ws : List PyData), (∀ z ∈ zs, nD k z) → (∀ w ∈ ws, nD j w) → PyData.eqvAll zs ws = true → zs = ws := by
      intro zs
      induction zs with
      | nil => intro ws _ _ e; cases ws with
        | nil => rfl
        | cons => simp [PyData.eqvAll] at e
      | cons z zs ih => intro ws h1 h2 e; cases ws with
        | nil => simp [PyData.eqvAll] at e
        | cons w ws =>
          rw [PyData.eqvAll, Bool.and_eq_true] at e
          rw [nD_eq k j z w (h1 z (List.mem_cons_self ..)) (h2 w (List.mem_cons_self ..)) e.1, ih ws (fun a ha => h1 a (List.mem_cons_of_mem _ ha)) (fun a ha => h2 a (List.mem_cons_of_mem _ ha)) e.2]
    rw [this xs ys h h2 e]
  | k + 1, j + 1, .tuple xs, .tuple ys, h, h2, e => by
    rw [PyData.eqv] at e
    have : ∀ (zs ws : List PyData), (∀ z ∈ zs, nD k z) → (∀ w ∈ ws, nD j w) → PyData.eqvAll zs ws = true → zs = ws := by
      intro zs
      induction zs with
      | nil => intro ws _ _ e; cases ws with
        | nil => rfl
        | cons => simp [PyData.eqvAll] at e
      | cons z zs ih => intro ws h1 h2 e; cases ws with
        | nil => simp [PyData.eqvAll] at e
        | cons w ws =>
          rw [PyData.eqvAll, Bool.and_eq_true] at e
          rw [nD_eq k j z w (h1 z (List.mem_cons_self ..)) (h2 w (List.mem_cons_self ..)) e.1, ih ws (fun a ha => h1 a (List.mem_cons_of_mem _ ha)) (fun a ha => h2 a (List.mem_cons_of_mem _ ha)) e.2]
    rw [this xs ys h h2 e]
  | k + 1, j + 1, .int a, .int b, _, _, e => by rw [PyData.eqv] at e; rw [eq_of_beq e]
  | k + 1, j + 1, .list _, .tuple _, _, _, e => by simp [PyData.eqv] at e
  | k + 1, j + 1, .list _, .int _, _, _, e => by simp [PyData.eqv] at e
  | k + 1, j + 1, .tuple _, .list _, _, _, e => by simp [PyData.eqv] at e
  | k + 1, j + 1, .tuple _, .int _, _, _, e => by simp [PyData.eqv] at e
  | k + 1, j + 1, .int _, .list _, _, _, e => by simp [PyData.eqv] at e
  | k + 1, j + 1, .int _, .tuple _, _, _, e => by simp [PyData.eqv] at e
  | k + 1, _, .none, _, h, _, _ => h.elim
  | k + 1, _, .bool _, _, h, _, _ => h.elim
  | k + 1, _, .str _, _, h, _, _ => h.elim
  | k + 1, _, .dict _, _, h, _, _ => h.elim
  | _, j + 1, _, .none, _, h, _ => h.elim
  | _, j + 1, _, .bool _, _, h, _ => h.elim
  | _, j + 1, _, .str _, _, h, _ => h.elim
  | _, j + 1, _, .dict _, _, h, _ => h.elim
theorem nD_eqv {k j : Nat} {x y : PyData} (h : nD k x) (h2 : nD j y) : PyData.eqv x y = true ↔ x = y :=
  ⟨nD_eq k j x y h h2, fun e => by subst e; exact nD_refl k x h⟩
section
variable {S : Store} {k j : Nat} {x y : PyData}
theorem dEq_n (h : nD k x) (h2 : nD j y) (hk : k ≤ 64) (hj : j ≤ 64) (b : Bool) (hb : b = true ↔ x = y) : dEq (.v x) (.v y) S = .ok (.v (.bool b)) S := by
  show (if SeqAt.shaped x && SeqAt.shaped y then okB (PyData.eqv x y) S else .stuck) = _
  rw [nD_shaped h hk, nD_shaped h2 hj]
  have : PyData.eqv x y = b := by rw [Bool.eq_iff_iff, nD_eqv h h2, hb]
  rw [this]; rfl
theorem dNe_n (h : nD k x) (h2 : nD j y) (hk : k ≤ 64) (hj : j ≤ 64) (b : Bool) (hb : b = true ↔ x ≠ y) : dNe (.v x) (.v y) S = .ok (.v (.bool b)) S := by
  show (if SeqAt.shaped x && SeqAt.shaped y then okB (!PyData.eqv x y) S else .stuck) = _
  rw [nD_shaped h hk, nD_shaped h2 hj]
  have : (!PyData.eqv x y) = b := by rw [Bool.eq_iff_iff, hb, Bool.not_eq_true', Bool.eq_false_iff, ne_eq, nD_eqv h h2]
  rw [this]; rfl
/-- in a list of data of ints -/
theorem dIn_l {xs : List PyData} (h : nD k x) (h2 : nD j (.list xs)) (hk : k ≤ 63) (hj : j ≤ 63) (neg b : Bool) (hb : b = true ↔ x ∈ xs) : dInS neg (.v x) (.v (.list xs)) S = .ok (.v (.bool (neg != b))) S := by
  cases j with
  | zero => exact h2.elim
  | succ j =>
    show (if SeqAt.shaped x && SeqAt.shaped (.list xs) && SeqAt.shaped (.tuple xs) then okB (neg != xs.any fun z => PyData.eqv z x) S else .stuck) = _
    rw [nD_shaped h (by omega), nD_shaped h2 (by omega), nD_shaped (k := j + 1) (x := .tuple xs) h2 (by omega)]
    have : (xs.any fun z => PyData.eqv z x) = b := by
      rw [Bool.eq_iff_iff, hb, List.any_eq_true]
      constructor
      · rintro ⟨z, hz, e⟩; rw [← (nD_eqv (h2 z hz) h).mp e]; exact hz
      · intro hx; exact ⟨x, hx, nD_refl k x h⟩
    rw [this]; rfl
end
end G

set_option Elab.async false
set_option linter.all false
set_option autoImplicit false
set_option maxRecDepth 100000
/-! ranges as values; l.index(x) -/
namespace G
open PySem PySem.Spec PyProof.Rows L2
section
variable {X : Cx} {RX : RXT} {W : WX} {α α' : AM} {H H' : Hp} {σ : St} {S S' : Store} {env : DEnv} {pos : Pos} {tg : Expr}
theorem bt_range : bootBuiltins "range" = some (.type "range") := by decide +kernel
def opRange : Op := fun ds S => match ds with
  | [.v (.int i), .v (.int j)] => .ok (.g i j) S
  | _ => .stuck
theorem cd_range : CallD X RX W (.type "range") opRange := .of cr_range2 fun σ α H S vs ds Q wr rd o => by
  unfold opRange at o
  split at o
  · rename_i i j
    obtain ⟨v, u, rfl, r1, r2⟩ := RepDs.inv2 rd
    cases r1; cases r2
    refine ⟨i, j, rfl, fun p hp => ?_⟩
    exact o α _ (Ext.new wr hp) (wr.new hp) _ ⟨p, rfl, upd_same, wr.fresh hp⟩
  · exact o.elim
def iRg (f : FE) : FI := fun env S => (f env S).bind fun d S1 => match d with
  | .g i j => if rngOk i j then .ok (rangeD i (j - i).toNat) S1 else .stuck
  | _ => .stuck
def iRgT (tl : TE) : TI := fun σ H R => tl σ H fun x H1 => ∃ a i j, x = .ref a ∧ H1 a = some (.rng i j) ∧ (-(2 ^ 62) ≤ i ∧ i < 2 ^ 62 ∧ -(2 ^ 62) ≤ j ∧ j < 2 ^ 62) ∧ R (Itr i (j - i).toNat) H1
theorem pi_rg {l : Expr} {tl : TE} (hl : PE X l tl) : PI X tg l (iRgT tl) := by
  refine ⟨fun pins s σ H R I h => ?_⟩
  refine thn (hl.run pins s σ H _ I h) fun v s1 ⟨x, H1, I1, r1, q1⟩ => ?_
  obtain ⟨a, lo, hi, e, ha, ⟨h1, h2, h3, h4⟩, q⟩ := q1
  subst e
  cases r1
  obtain ⟨t, u, w, ho⟩ := I1.hok a _ ha
  refine wpAny_pyIter_range (show IsRange s1.heap a lo hi 1 t u w from ho) (small_one h1 h2 h3 h4) ?_
  refine ⟨s1.heap.objs.size, [s1.heap.objs.size], _, _, H1, rfl, I1.kept (t' := s1.toks) fun b o e => Heap.get?_push_of_some _ e, turn_range _ lo (hi - lo).toNat, ?_, fun b hb => ?_, q⟩
  · have e1 : lo + ((0 : Nat) : Int) * 1 = lo := by simp
    have e2 : (((hi - lo).toNat : Nat) : Int) - ((0 : Nat) : Int) = Builtin.Range.rangeSize lo hi 1 := by rw [rangeSize_one]; split <;> omega
    show IsRangeIter _ _ (lo + ((0 : Nat) : Int) * 1) ((((hi - lo).toNat : Nat) : Int) - ((0 : Nat) : Int)) 1
    rw [e1, e2]
    exact Heap.get?_push_size _ rfl
  · have e : b = s1.heap.objs.size := by simpa using hb
    subst e
    exact I1.fpOk (Nat.le_refl _) (I1.hok.fresh (Nat.le_refl _))
theorem di_rg {e : Expr} {f : FE} (he : DE X RX W e f) : DI X RX W tg e (iRg f) := piW (pi_rg he) fun σ H R ⟨α, env, S, h, o⟩ => tE_seq h o fun d S1 α1 H1 v e1 h1 r1 o1 => by
  split at o1
  · rename_i i j
    obtain ⟨a, rfl, ha, hn⟩ := r1
    split at o1
    · rename_i hr
      have hr := of_decide_eq_true hr
      exact ⟨a, i, j, rfl, ha, ⟨by omega, by omega, by omega, by omega⟩, o1.get h1.wr _ (iter_range _ _)⟩
    · exact o1.elim
  · exact o1.elim
/-- l.index(x) -/
def omIndex : OpM := fun d ds S => match dataOf S d, ds with
  | some (.list xs), [.v y] => if SeqAt.shaped (.list xs) && SeqAt.shaped y then (match xs.findIdx? fun z => PyData.eqv z y with
    | some j => .ok (.v (.int (j : Nat))) S
    | none => .stuck) else .stuck
  | _, _ => .stuck
theorem md_index (hu : X.A.units + 65 < cLine) : MtD X RX W "list.index" omIndex := .of (show MtM X "list.index" (rIndexD X.K) from mt_indexD hu) fun σ α H S x d vs ds Q wr rd rs o => by
  unfold omIndex at o
  split at o
  · rename_i xs y hx
    split at o
    · rename_i hs
      rw [Bool.and_eq_true] at hs
      split at o
      · rename_i j hj
        obtain ⟨v, rfl, r⟩ := RepDs.inv1 rs
        obtain ⟨hj1, hj2, hj3⟩ := List.findIdx?_eq_some_iff_getElem.mp hj
        have dp := data_at wr rd hx
        cases dp with
        | lst h q =>
          refine ⟨_, v, y, xs, j, xs[j], rfl, rfl, .lst h q, Rp.dp r, hs.1, hs.2, List.getElem?_eq_getElem hj1, hj2, fun m z' hm hz => ?_, o.get wr _ (.int _)⟩
          obtain ⟨hm2, rfl⟩ := List.getElem?_eq_some_iff.mp hz
          simpa using hj3 m hm
      · exact o.elim
    · exact o.elim
  · exact o.elim
theorem relab_cf {env : Env} : ∀ {names : List (Str × NameKind)} {x : Str}, (names.lookup x = some .cell ∨ names.lookup x = some .free) →
    ((names.map fun (n, k) => if (k == NameKind.free && env.scope.kind == .function && env.kindOf n == some .cell) then (n, NameKind.cell) else (n, k)).lookup x = some .cell ∨
     (names.map fun (n, k) => if (k == NameKind.free && env.scope.kind == .function && env.kindOf n == some .cell) then (n, NameKind.cell) else (n, k)).lookup x = some .free)
  | [], _, h => by simp at h
  | (n, k) :: r, x, h => by
    have ih := @relab_cf env r x
    show List.lookup x ((if (k == NameKind.free && env.scope.kind == .function && env.kindOf n == some .cell) = true then (n, NameKind.cell) else (n, k)) :: _) = _ ∨ List.lookup x ((if (k == NameKind.free && env.scope.kind == .function && env.kindOf n == some .cell) = true then (n, NameKind.cell) else (n, k)) :: _) = _
    rw [List.lookup_cons] at h
    by_cases e : (x == n) = true
    · rw [e] at h
      split
      · rw [List.lookup_cons, e]; exact .inl rfl
      · rw [List.lookup_cons, e]; exact h
    · have e : (x == n) = false := by simpa using e
      rw [e] at h
      split <;> rw [List.lookup_cons, e] <;> exact ih h
/-- a comprehension within a comprehension -/
theorem blkOk_in {s : Shared} {scope0 scope : Scope} {C : Addr} {cl : List (Str × Addr)} {fp : List Addr} {N : List Str} {own : List (Str × Nat)} (h : blkC N scope0 scope own = true) (hN : X.N = N := by rfl) : BlkOk (blkX X s H scope0 C cl fp).N (blkX X s H scope0 C cl fp).env.scope scope own := by
  subst hN
  have b : BlkOk X.N scope0 scope own := blkOk_by h
  exact ⟨b.1, b.2, b.3, fun y hy e => relab_cf (b.4 y hy e), b.5⟩
end
@[simp] theorem opRange_ii (i j : Int) (S : Store) : opRange [.v (.int i), .v (.int j)] S = .ok (.g i j) S := rfl
end G

set_option Elab.async false
set_option linter.all false
set_option autoImplicit false
set_option maxRecDepth 100000
/-! a dict read for good, and its keys walked -/
namespace G
open PySem PySem.Spec PyProof.Rows L2
section
variable {X : Cx} {RX : RXT} {W : WX} {α α' : AM} {H H' : Hp} {σ : St} {S S' : Store} {env : DEnv} {pos : Pos} {tg : Expr}
/-- the name's dict is read for good -/
def sFrzT (i : Nat) (f : FS) : FS := fun env S => match env[i]? with
  | some (some (.r n)) => (match S[n]? with
    | some (.dt kvs) => f (env.set i (some (.z kvs))) (S.set n .dead)
    | _ => .stuck)
  | _ => f env S
theorem frz_hereT (h : Here X α H σ env S) {i n : Nat} {kvs : List (PyData × PyData)} (e : env[i]? = some (some (.r n))) (hc : S[n]? = some (.dt kvs)) : Here X (α.kill n) H σ (env.set i (some (.z kvs))) (S.set n .dead) := by
  obtain ⟨v, hv, rv⟩ := h.re.get i _ e
  obtain ⟨a, rfl, ha, hl⟩ := cell_at h.wr rv hc (by intro z; cases z)
  refine ⟨⟨by rw [List.length_set]; exact h.re.len, fun j d hj => ?_⟩, h.wr.freeze⟩
  by_cases z : i = j
  · subst z
    have hi : i < env.length := by have := (List.getElem?_eq_some_iff.mp hj).1; simpa using this
    rw [List.getElem?_set_self hi] at hj
    cases hj
    refine ⟨_, hv, a, rfl, ?_, h.wr.frozen ha⟩
    have e : (α.kill n).pw = (X.prog, X.w) := h.wr.pw
    rw [e]
    exact hl.ext Ext.freeze rfl
  · rw [List.getElem?_set_ne z] at hj
    obtain ⟨v, h1, h2⟩ := h.re.get j d hj
    exact ⟨v, h1, h2.ext Ext.freeze⟩
theorem ds_frzT {st : Stmt} {f : FS} (i : Nat) (h : DS X RX W st f) : DS X RX W st (sFrzT i f) := psW h fun D σ H ⟨α, env, S, h, o⟩ => by
  unfold sFrzT at o
  split at o
  · rename_i n e
    split at o
    · rename_i kvs hc
      exact ⟨_, _, _, frz_hereT h e hc, OkS.ext o Ext.freeze⟩
    · exact o.elim
  · exact ⟨α, env, S, h, o⟩
/-! ### the keys, walked -/
/-- the keys of the dict whose record is o, at a: their addresses in order -/
def Itx (a : Addr) (o : Obj) (ks : List Addr) : It :=
  ⟨fun i H => H a = some (exactO a o) ∧ i < ks.length, fun i H x H' => H' = H ∧ ∃ k, ks[i]? = some k ∧ x = .ref k, fun i H => H a = some (exactO a o) ∧ ks.length ≤ i⟩
theorem turn_keysX {P : Program} {w : World} {K : PySem.W.Frag} {d : Addr} {o : Obj} {es : Array DictEntry} {ep : Nat} {ks : List Addr} (it : Addr) (hod : o.data = .dict es ep) (hk : es.toList.map (·.key) = ks.map Value.ref) : Turn P w K tg (Itx d o ks) [it] it (fun i h => h.IsKeyIter it d i ks.length ep) where
  mem := by simp
  obj := fun i h st b hb => by
    have e : b = it := by simpa using hb
    subst e
    obtain ⟨oi, e, c, dd⟩ := st
    exact ⟨oi, e, fun v z => by rw [dd] at z; cases z⟩
  keep := fun i h h' st k => st.at fun oi e => k it (by simp) oi e
  item := by
    intro X hP hw hK hc i pins s σ H E I hf st hg
    subst hP hw hK
    obtain ⟨hd, hi⟩ := hg
    obtain ⟨f0, f1, f2, f3, f4, f5⟩ := hf it (by simp)
    have hgd : s.heap.get? d = some o := (I.hok d _ hd).1
    have hl : es.size = ks.length := by
      have := congrArg List.length hk
      rw [List.length_map, List.length_map, Array.length_toList] at this
      exact this
    have hen : es[i]? = some es[i] := Array.getElem?_eq_getElem (by omega)
    have hkey : es[i].key = .ref ks[i] := by
      have e1 : (es.toList.map (·.key))[i]? = (ks.map Value.ref)[i]? := by rw [hk]
      rw [List.getElem?_map, List.getElem?_map, Array.getElem?_toList, hen, List.getElem?_eq_getElem hi] at e1
      simpa using e1
    refine next_key_item st hgd hod hl hen fun h' st' sb => ?_
    have I1 : Inv X pins σ H { s with heap := h' } := I.turned (t' := s.toks) (fun b ob hb e => (sb.2 b hb).trans e) f0 f1 f3 f4 f5
    obtain ⟨oi, e, c, dd⟩ := id st'
    exact ⟨es[i].key, rfl, go_of (s := { s with heap := h' }) e c dd (by decide) ⟨.ref ks[i], H, I1, hkey, ⟨rfl, _, List.getElem?_eq_getElem hi, rfl⟩, st', fun b hb => (hf b hb).1⟩⟩
  done := by
    intro X hP hw hK hc i pins s σ H E I hf st hg
    subst hP hw hK
    obtain ⟨hd, hi⟩ := hg
    obtain ⟨f0, f1, f2, f3, f4, f5⟩ := hf it (by simp)
    have hgd : s.heap.get? d = some o := (I.hok d _ hd).1
    have hl : es.size = ks.length := by
      have := congrArg List.length hk
      rw [List.length_map, List.length_map, Array.length_toList] at this
      exact this
    exact next_key_end (I.ok.hd hc) st hgd hod hl hi fun h' eb => ⟨rfl, I.turned (t' := s.toks) (fun b ob hb e => eb b ob hb e) f0 f1 f3 f4 f5⟩
  self := fun A i s Q E st h => by
    refine wpAny_pyIter_slot st.typeIs F.slot_dict_keyiterator_iter (wpAny_call_entry F.slot_dict_keyiterator_iter st.typeIs F.entry_dict_keyiterator_iter ?_ (F.args_dict_keyiterator_iter_1 _))
    show wpAny _ _ (ret (.ref it)) _ _ s
    exact wpAny_pure ⟨_, rfl, "dict_keyiterator", _, st.typeIs, F.slot_dict_keyiterator_next.lookup, h⟩
def iKysT (tl : TE) : TI := fun σ H R => tl σ H fun x H1 => ∃ a o es ep ks, x = .ref a ∧ H1 a = some (exactO a o) ∧ (a == sysModules) = false ∧ o.ExactDict ∧ o.data = .dict es ep ∧ es.toList.map (·.key) = ks.map Value.ref ∧ R (Itx a o ks) H1
theorem pi_kys {l : Expr} {tl : TE} (hl : PE X l tl) : PI X tg l (iKysT tl) := by
  refine ⟨fun pins s σ H R I h => ?_⟩
  refine thn (hl.run pins s σ H _ I h) fun v s1 ⟨x, H1, I1, r1, q1⟩ => ?_
  obtain ⟨a, o, es, ep, ks, e, ha, hs, hx, hdt, hk, q⟩ := q1
  subst e
  cases r1
  have hgd : s1.heap.get? a = some o := (I1.hok a _ ha).1
  refine iter_keys hs hgd hx hdt (pi_one (tk := s1.toks) I1 _ (turn_keysX _ hdt hk) ⟨_, Heap.get?_push_size _ rfl, rfl, ?_⟩ q)
  have hl : es.size = ks.length := by
    have := congrArg List.length hk
    rw [List.length_map, List.length_map, Array.length_toList] at this
    exact this
  rw [hl] <;> rfl
/-- the keys of a dict read for good -/
def iKys (f : FE) : FI := fun env S => (f env S).bind fun d S1 => match d with
  | .z kvs => .ok (kvs.map (·.1)) S1
  | _ => .stuck
theorem iter_kys {a : Addr} {o : Obj} {xs : List (NestedKey × Addr × Value)} {kvs : List (PyData × PyData)} (ha : H a = some (exactO a o)) (hn : α.no a) (pr : Paired (fun (x : NestedKey × Addr × Value) (q : PyData × PyData) => keyN q.1 = some x.1 ∧ x.1.depth ≤ 8 ∧ Rp X.K α H (.ref x.2.1) q.1 ∧ ∃ v, RelV v x.2.2 ∧ Rp X.K α H v q.2) xs kvs) :
    IterOk X (Itx a o (xs.map fun x => x.2.1)) (kvs.map (·.1)) α H := fun α' H' e _ => by
  have hl : xs.length = kvs.length := Paired.length pr
  refine ⟨fun i x hx => ?_, (e a _ ha hn).1, by rw [List.length_map, List.length_map, hl]; exact Nat.le_refl _⟩
  rw [List.getElem?_map] at hx
  obtain ⟨q, hq, rfl⟩ := Option.map_eq_some_iff.mp hx
  have hi : i < kvs.length := (List.getElem?_eq_some_iff.mp hq).1
  have hix : i < xs.length := by omega
  have key : Rp X.K α' H' (.ref xs[i].2.1) q.1 := by
    have : ∀ {xs : List (NestedKey × Addr × Value)} {kvs : List (PyData × PyData)} (pr : Paired (fun (x : NestedKey × Addr × Value) (q : PyData × PyData) => keyN q.1 = some x.1 ∧ x.1.depth ≤ 8 ∧ Rp X.K α H (.ref x.2.1) q.1 ∧ ∃ v, RelV v x.2.2 ∧ Rp X.K α H v q.2) xs kvs) (i : Nat) (x : NestedKey × Addr × Value) (q : PyData × PyData), xs[i]? = some x → kvs[i]? = some q → Rp X.K α H (.ref x.2.1) q.1 := by
      intro xs kvs pr
      induction pr with
      | nil => intro i x q h; simp at h
      | cons r _ ih =>
        intro i x q h1 h2
        cases i with
        | zero => simp at h1 h2; subst h1 h2; exact r.2.2.1
        | succ i => simp at h1 h2; exact ih i x q h1 h2
    exact (this pr i _ q (List.getElem?_eq_getElem hix) hq).keep e
  refine ⟨⟨(e a _ ha hn).1, by rw [List.length_map]; omega⟩, fun v H'' ⟨e1, k, hk, ev⟩ => ?_⟩
  subst e1
  rw [List.getElem?_map, List.getElem?_eq_getElem hix] at hk
  cases hk
  subst ev
  exact ⟨key, .inl rfl⟩
theorem di_kys {e : Expr} {f : FE} (he : DE X RX W e f) : DI X RX W tg e (iKys f) := piW (pi_kys he) fun σ H R ⟨α, env, S, h, o⟩ => tE_seq h o fun d S1 α1 H1 v e1 h1 r1 o1 => by
  split at o1
  · rename_i kvs
    obtain ⟨a, rfl, hc, hn⟩ := r1
    rw [h1.wr.pw] at hc
    obtain ⟨ob, es, ep, xs, h0, h1', h2, h3, h4, h5, h6, pr⟩ := hc
    refine ⟨a, ob, es, ep, xs.map fun x => x.2.1, rfl, h0, h1', h2, h3, ?_, o1.get h1.wr _ (iter_kys h0 hn pr)⟩
    rw [h4, List.map_map, List.map_map]
    rfl
  · exact o1.elim
end
end G

set_option Elab.async false
set_option linter.all false
set_option autoImplicit false
set_option maxRecDepth 100000
/-! a dict of ints and texts, locked while a statement walks it; l + m as a cell -/
namespace G
open PySem PySem.Spec PyProof.Rows L2
section
variable {X : Cx} {RX : RXT} {W : WX} {α α' : AM} {H H' : Hp} {σ : St} {S S' : Store} {env : DEnv} {pos : Pos} {tg : Expr}
/-! ### l + m, a new cell -/
def dCatC : D → D → Store → Res D := fun a b S => match listOf S a, listOf S b with
  | some xs, some ys => if small (xs.length + ys.length) then .ok (.r S.length) (S ++ [.lst (xs ++ ys)]) else .stuck
  | _, _ => .stuck
theorem od_catC : OpD X RX W (binaryOp .Add) dCatC := .of op_catL fun σ α H S x y d e Q wr rx ry o => by
  unfold dCatC at o
  split at o
  · rename_i xs ys ha hb
    obtain ⟨l, vs, rfl, h1, q1⟩ := list_at wr rx ha
    obtain ⟨m, ws, rfl, h2, q2⟩ := list_at wr ry hb
    split at o
    · rename_i hs
      exact ⟨l, m, vs, ws, rfl, rfl, h1, h2, by rw [q1.length, q2.length]; exact small_le hs, fun p hp => o.newC wr (q1.append q2) hp⟩
    · exact o.elim
  · exact o.elim
/-! ### what is no locked dict stays -/
def KeepS (α : AM) (H : Hp) (α' : AM) (H' : Hp) : Prop := ∀ a o, H a = some o → α.no a → (∀ o' kv, o ≠ .frz o' (.dK kv)) → H' a = some o ∧ α'.no a
section
variable {K : PySem.W.Frag}
theorem ImL.keepS (e : KeepS α H α' H') {a : Addr} {xs : List V} (h : ImL α H a xs) : ImL α' H' a xs := by
  obtain ⟨h | ⟨o, h⟩, n⟩ := h
  · obtain ⟨h1, h2⟩ := e _ _ h n (fun _ _ z => nomatch z); exact ⟨.inl h1, h2⟩
  · obtain ⟨h1, h2⟩ := e _ _ h n (fun _ _ z => by cases z); exact ⟨.inr ⟨o, h1⟩, h2⟩
theorem ImT.keepS (e : KeepS α H α' H') {a : Addr} {xs : List V} (h : ImT K α H a xs) : ImT K α' H' a xs := by
  rcases h with ⟨h | ⟨o, h⟩, n⟩ | h
  · obtain ⟨h1, h2⟩ := e _ _ h n (fun _ _ z => nomatch z); exact .inl ⟨.inl h1, h2⟩
  · obtain ⟨h1, h2⟩ := e _ _ h n (fun _ _ z => by cases z); exact .inl ⟨.inr ⟨o, h1⟩, h2⟩
  · exact .inr h
mutual
theorem Rp.keepS (e : KeepS α H α' H') : ∀ {v : V} {d : PyData}, Rp K α H v d → Rp K α' H' v d
  | _, _, .non => .non
  | _, _, .bl b => .bl b
  | _, _, .int i => .int i
  | _, _, .str x => .str x
  | _, _, .lst h r => .lst (ImL.keepS e h) (RpL.keepS e r)
  | _, _, .tup h r => .tup (ImT.keepS e h) (RpL.keepS e r)
theorem RpL.keepS (e : KeepS α H α' H') : ∀ {vs : List V} {ds : List PyData}, RpL K α H vs ds → RpL K α' H' vs ds
  | _, _, .nil => .nil
  | _, _, .cons h r => .cons (Rp.keepS e h) (RpL.keepS e r)
end
theorem CellRep.keepS {P : Program} {w : World} (e : KeepS α H α' H') {a : Addr} {c : Cell} (h : CellRep P w K α H a c) (ha : H' a = H a) : CellRep P w K α' H' a c := by
  cases c with
  | lst xs => obtain ⟨vs, h, r⟩ := h; exact ⟨vs, ha.trans h, RpL.keepS e r⟩
  | dk kvs => obtain ⟨kv, h, r⟩ := h; exact ⟨kv, ha.trans h, Paired.mapP r fun _ _ z => ⟨z.1, Rp.keepS e z.2⟩⟩
  | dt kvs =>
    obtain ⟨o, es, ep, xs, h, h1, h2, h3, h4, h5, h6, r⟩ := h
    exact ⟨o, es, ep, xs, ha.trans h, h1, h2, h3, h4, h5, h6, Paired.mapP r fun _ _ z => ⟨z.1, z.2.1, Rp.keepS e z.2.2.1, let ⟨v, a, b⟩ := z.2.2.2; ⟨v, a, Rp.keepS e b⟩⟩⟩
  | dead => exact h.elim
end
/-! ### the lock -/
def freeOf (n : Nat) : Option D → Bool
  | some (.r m) => m != n
  | some (.y _) => false
  | _ => true
/-- the name's dict is locked while the statement runs; its name is forgotten then -/
def sLockK (i : Nat) (f : FS) : FS := fun env S => match env[i]? with
  | some (some (.r n)) => (match S[n]? with
    | some (.dk kvs) => (match f (env.set i (some (.y kvs))) (S.set n .dead) with
      | .ok (.nx env') S' => if (env'.set i none).all (freeOf n) then .ok (.nx (env'.set i none)) (S'.set n (.dk kvs)) else .stuck
      | _ => .stuck)
    | _ => .stuck)
  | _ => .stuck
theorem ds_lockK {st : Stmt} {f : FS} (i : Nat) (h : DS X RX W st f) : DS X RX W st (sLockK i f) := psW (ps_lock h) fun D σ H ⟨α, env, S, h, o⟩ => by
  unfold sLockK at o
  split at o
  · rename_i n e
    split at o
    · rename_i kvs hc
      obtain ⟨v, hv, rv⟩ := h.re.get i _ e
      obtain ⟨a, rfl, ha, kv, hkv, pr⟩ := cell_at h.wr rv hc (by intro z; cases z)
      have hn : n < α.c.length := (List.getElem?_eq_some_iff.mp ha).1
      have hnS : n < S.length := by rw [← h.wr.len]; exact hn
      refine ⟨a, .dK kv, hkv, trivial, fun od => ?_⟩
      have fz : (α.kill n).no a := h.wr.frozen ha
      have dead_c : (α.kill n).c[n]? = some none := List.getElem?_set_self hn
      have ne_no : ∀ b, α.no b → b ≠ a := fun b hb z => hb.1 (by rw [z]; exact List.mem_of_getElem? ha)
      have e1 : Ext α H (α.kill n) (upd H a (.frz od (.dK kv))) := ⟨fun b u hb m => by
        rw [upd_ne (ne_no b m)]; exact (Ext.freeze (α := α) (H := H) (n := n)).keep b u hb m, (Ext.freeze (α := α) (H := H) (n := n)).ref, rfl, fun b hb => upd_ne fun z => (h.wr.bl b hb).1 (by rw [z]; exact List.mem_of_getElem? ha), rfl⟩
      have w1 : WR X.prog X.w X.K (α.kill n) (upd H a (.frz od (.dK kv))) (S.set n .dead) := by
        have w0 := h.wr.freeze (n := n)
        refine ⟨w0.len, w0.one, fun m c b h1 h2 => ?_, w0.live, fun b hb => ?_, w0.pw⟩
        · have hm : n ≠ m := fun z => by subst z; rw [h2] at dead_c; cases dead_c
          have h2 : (α.c.set n none)[m]? = _ := h2
          rw [List.getElem?_set_ne hm] at h1 h2
          exact (h.wr.cell m c b h1 h2).ext e1 (upd_ne fun z => hm (by subst z; exact h.wr.one _ _ _ ha h2))
        · obtain ⟨h1, u, h2⟩ := w0.bl b hb
          by_cases z : b = a
          · subst z; exact ⟨h1, _, upd_same⟩
          · exact ⟨h1, u, by rw [upd_ne z]; exact h2⟩
      have re1 : RE X.K (α.kill n) (upd H a (.frz od (.dK kv))) σ (env.set i (some (.y kvs))) := by
        refine ⟨by rw [List.length_set]; exact h.re.len, fun j d hj => ?_⟩
        by_cases z : i = j
        · subst z
          have hi : i < env.length := by have := (List.getElem?_eq_some_iff.mp hj).1; simpa using this
          rw [List.getElem?_set_self hi] at hj
          cases hj
          exact ⟨_, hv, a, od, kv, rfl, upd_same, fz, Paired.mapP pr fun _ _ q => ⟨q.1, q.2.ext e1⟩⟩
        · rw [List.getElem?_set_ne z] at hj
          obtain ⟨v, h1, h2⟩ := h.re.get j d hj
          exact ⟨v, h1, h2.ext e1⟩
      refine ⟨α.kill n, _, _, ⟨re1, w1⟩, ?_⟩
      split at o
      · rename_i env' S' hr
        rw [hr]
        split at o
        · rename_i hfree
          intro α' H' σ' e2 h2
          obtain ⟨hfz, hno⟩ := e2.keep a _ upd_same fz
          refine ⟨hfz, ?_⟩
          have hn' : n < α'.c.length := e2.len (by show n < (α.c.set n none).length; rw [List.length_set]; exact hn)
          have hnS' : n < S'.length := by rw [← h2.wr.len]; exact hn'
          have dead' : α'.c[n]? = some none := by rcases e2.ref n none dead_c with z | z <;> exact z
          have ks : KeepS α' H' ⟨α'.c.set n (some a), α'.b, α'.pw⟩ (upd H' a (.dK kv)) := fun b u hb m hu => by
            have ne : b ≠ a := fun z => by subst z; rw [hfz] at hb; cases hb; exact hu _ _ rfl
            refine ⟨by rw [upd_ne ne]; exact hb, fun z => ?_, m.2⟩
            rcases List.mem_or_eq_of_mem_set z with z | z
            · exact m.1 z
            · cases z; exact ne rfl
          have kvr : Paired (fun (p : Key × V) (q : Key × PyData) => p.1 = q.1 ∧ Rp X.K ⟨α'.c.set n (some a), α'.b, α'.pw⟩ (upd H' a (.dK kv)) p.2 q.2) kv kvs := Paired.mapP pr fun _ _ q => ⟨q.1, Rp.keepS ks ((q.2.ext e1).ext e2)⟩
          have nob : ∀ b ∈ α'.b, b ≠ a := fun b hb z => hno.2 (by rw [← z]; exact hb)
          refine o ⟨α'.c.set n (some a), α'.b, α'.pw⟩ (upd H' a (.dK kv)) σ' ⟨fun b u hb m => ?_, fun m x hx => ?_, e2.bl, fun b hb => ?_, e2.pw⟩ ⟨⟨by rw [List.length_set]; exact h2.re.len, fun j d hj => ?_⟩, ⟨?_, fun x y b h1 h3 => ?_, fun m c b h1 h3 => ?_, fun m c h1 h3 => ?_, fun b hb => ?_, h2.wr.pw⟩⟩
          · obtain ⟨g1, g2⟩ := e1.keep b u hb m
            obtain ⟨g3, g4⟩ := e2.keep b u g1 g2
            have ne := ne_no b m
            refine ⟨by rw [upd_ne ne]; exact g3, fun z => ?_, g4.2⟩
            rcases List.mem_or_eq_of_mem_set z with z | z
            · exact g4.1 z
            · cases z; exact ne rfl
          · show (α'.c.set n (some a))[m]? = _ ∨ (α'.c.set n (some a))[m]? = _
            by_cases z : n = m
            · subst z
              rw [ha] at hx; cases hx
              exact .inl (List.getElem?_set_self hn')
            · rw [List.getElem?_set_ne z]
              exact e2.ref m x (by show (α.c.set n none)[m]? = _; rw [List.getElem?_set_ne z]; exact hx)
          · have ne : b ≠ a := fun z => (h.wr.bl b hb).1 (by rw [z]; exact List.mem_of_getElem? ha)
            rw [upd_ne ne]
            exact (e2.blk b hb).trans (e1.blk b hb)
          · have hfr := List.all_eq_true.mp hfree (some d) (List.mem_of_getElem? hj)
            by_cases z : i = j
            · subst z
              have hi : i < env'.length := by have := (List.getElem?_eq_some_iff.mp hj).1; simpa using this
              rw [List.getElem?_set_self hi] at hj
              cases hj
            · rw [List.getElem?_set_ne z] at hj
              obtain ⟨v, g1, g2⟩ := h2.re.get j d hj
              refine ⟨v, g1, ?_⟩
              cases d with
              | v x => exact Rp.keepS ks g2
              | k xs => obtain ⟨b, vs, q1, q2, q3⟩ := g2; exact ⟨b, vs, q1, q2.imp (ImL.keepS ks) id, RpL.keepS ks q3⟩
              | g lo hi => obtain ⟨b, q1, q2, q3⟩ := g2; obtain ⟨q4, q5⟩ := ks b _ q2 q3 (fun _ _ z => nomatch z); exact ⟨b, q1, q4, q5⟩
              | z kvs2 =>
                obtain ⟨b, q1, q2, q3⟩ := g2
                obtain ⟨o2, es, ep, xs, q4, _⟩ := id q2
                obtain ⟨q5, q6⟩ := ks b _ q4 q3 (fun _ _ z => nomatch z)
                exact ⟨b, q1, CellRep.keepS ks q2 (q5.trans q4.symm), q6⟩
              | y kvs2 => exact absurd hfr Bool.false_ne_true
              | r m =>
                obtain ⟨q1, q2⟩ := g2
                have hm : n ≠ m := fun z => by subst z; simp [freeOf] at hfr
                refine ⟨by show m < (α'.c.set n (some a)).length; rw [List.length_set]; exact q1, fun b hb => q2 b ?_⟩
                have hb : (α'.c.set n (some a))[m]? = _ := hb
                rw [List.getElem?_set_ne hm] at hb
                exact hb
          · show (α'.c.set n (some a)).length = _
            rw [List.length_set, List.length_set]; exact h2.wr.len
          · have h1 : (α'.c.set n (some a))[x]? = _ := h1
            have h3 : (α'.c.set n (some a))[y]? = _ := h3
            by_cases zx : n = x <;> by_cases zy : n = y
            · omega
            · subst zx
              rw [List.getElem?_set_self hn'] at h1; cases h1
              rw [List.getElem?_set_ne zy] at h3
              exact absurd (List.mem_of_getElem? h3) hno.1
            · subst zy
              rw [List.getElem?_set_self hn'] at h3; cases h3
              rw [List.getElem?_set_ne zx] at h1
              exact absurd (List.mem_of_getElem? h1) hno.1
            · rw [List.getElem?_set_ne zx] at h1
              rw [List.getElem?_set_ne zy] at h3
              exact h2.wr.one x y b h1 h3
          · have h3 : (α'.c.set n (some a))[m]? = _ := h3
            by_cases z : n = m
            · subst z
              rw [List.getElem?_set_self hnS'] at h1
              rw [List.getElem?_set_self hn'] at h3
              cases h1; cases h3
              exact ⟨kv, upd_same, kvr⟩
            · rw [List.getElem?_set_ne z] at h1 h3
              have mb : some b ∈ α'.c := List.mem_of_getElem? h3
              have ne : b ≠ a := fun q => hno.1 (by rw [← q]; exact mb)
              exact CellRep.keepS ks (h2.wr.cell m c b h1 h3) (upd_ne ne)
          · show ∃ b, (α'.c.set n (some a))[m]? = _
            by_cases z : n = m
            · subst z; exact ⟨a, List.getElem?_set_self hn'⟩
            · rw [List.getElem?_set_ne z] at h1 ⊢
              exact h2.wr.live m c h1 h3
          · obtain ⟨g1, u, g2⟩ := h2.wr.bl b hb
            refine ⟨fun z => ?_, u, by rw [upd_ne (nob b hb)]; exact g2⟩
            rcases List.mem_or_eq_of_mem_set z with z | z
            · exact g1 z
            · injection z with z; exact nob b hb z
        · exact o.elim
      · exact o.elim
    · exact o.elim
  · exact o.elim
/-! ### its keys, walked -/
def iKysK (f : FE) : FI := fun env S => (f env S).bind fun d S1 => match d with
  | .y kvs => .ok (kvs.map fun q => dataA q.1) S1
  | _ => .stuck
theorem rp_keyK (k : Key) : Rp X.K α H (kV k) (dataA k) := by
  cases k with
  | inl i => exact .int i
  | inr x => exact .str x
theorem iter_kysK {a : Addr} {o : Obj} {kv : List (Key × V)} {kvs : List (Key × PyData)} (ha : H a = some (.frz o (.dK kv))) (hn : α.no a) (pr : Paired (fun (p : Key × V) (q : Key × PyData) => p.1 = q.1 ∧ Rp X.K α H p.2 q.2) kv kvs) :
    IterOk X (Itk a o kv) (kvs.map fun q => dataA q.1) α H := fun α' H' e _ => by
  have hl : kv.length = kvs.length := Paired.length pr
  refine ⟨fun i x hx => ?_, (e a _ ha hn).1, by rw [List.length_map, hl]; exact Nat.le_refl _⟩
  rw [List.getElem?_map] at hx
  obtain ⟨q, hq, rfl⟩ := Option.map_eq_some_iff.mp hx
  have hi : i < kvs.length := (List.getElem?_eq_some_iff.mp hq).1
  have hix : i < kv.length := by omega
  have key : kv[i].1 = q.1 := by
    obtain ⟨b, hb, g⟩ := paired_get pr (List.getElem?_eq_getElem hix)
    rw [hq] at hb; cases hb
    exact g.1
  refine ⟨⟨(e a _ ha hn).1, hix⟩, fun v H'' ⟨e1, k, u, hk, ev⟩ => ?_⟩
  subst e1
  rw [List.getElem?_eq_getElem hix] at hk
  injection hk with hk
  subst ev
  rw [← key, hk]
  exact ⟨rp_keyK k, .inl rfl⟩
theorem di_kysK {e : Expr} {f : FE} (he : DE X RX W e f) : DI X RX W tg e (iKysK f) := piW (pi_keys he) fun σ H R ⟨α, env, S, h, o⟩ => tE_seq h o fun d S1 α1 H1 v e1 h1 r1 o1 => by
  split at o1
  · rename_i kvs
    obtain ⟨a, ob, kv, rfl, h0, hn, pr⟩ := r1
    exact ⟨a, ob, rfl, .inl ⟨kv, h0, o1.get h1.wr _ (iter_kysK h0 hn pr)⟩⟩
  · exact o1.elim
end
end G

set_option Elab.async false
set_option linter.all false
set_option autoImplicit false
set_option maxRecDepth 100000
set_option maxHeartbeats 4000000
/-! x[::-1] of a list or of a tuple -/
namespace G
open PySem PySem.Spec PyProof.Rows L2
theorem back_adjust (n : Nat) : Builtin.Slice.sliceAdjust none none (-1) (n : Int) = ((n : Int) - 1, -1) := by
  unfold Builtin.Slice.sliceAdjust
  simp only [show ((-1 : Int) < 0) from by decide, if_true]
theorem back_places (n : Nat) : Builtin.Slice.slicePlaces ((n : Int) - 1) (-1) (-1) = n := by
  unfold Builtin.Slice.slicePlaces
  have h1 : ¬ ((-1 : Int) > 0) := by decide
  simp only [h1, if_false]
  have e : (-(-1 : Int)) = 1 := by decide
  rw [e, Int.ediv_one]
  split <;> omega
theorem fm_congr {α β : Type} {f g : α → Option β} : ∀ (l : List α), (∀ k ∈ l, f k = g k) → l.filterMap f = l.filterMap g
  | [], _ => rfl
  | a :: t, h => by
    rw [List.filterMap_cons, List.filterMap_cons, h a (List.mem_cons_self ..), fm_congr t fun k hk => h k (List.mem_cons_of_mem _ hk)]
theorem back_pick (xs : Array Value) : ((List.range xs.size).filterMap fun (k : Nat) => xs[(((xs.size : Nat) : Int) - 1 + (k : Int) * (-1)).toNat]?).toArray = xs.toList.reverse.toArray := by
  congr 1
  have e : ∀ k ∈ List.range xs.size, xs[(((xs.size : Nat) : Int) - 1 + (k : Int) * (-1)).toNat]? = xs.toList.reverse[k]? := by
    intro k hk
    have hk := List.mem_range.mp hk
    rw [List.getElem?_reverse (by rw [Array.length_toList]; exact hk), Array.getElem?_toList, Array.length_toList]
    congr 1
    omega
  rw [fm_congr _ e]
  have hl : xs.size = xs.toList.reverse.length := by rw [List.length_reverse, Array.length_toList]
  rw [hl]
  generalize xs.toList.reverse = l
  apply List.ext_getElem?
  intro i
  rw [show (List.range l.length).filterMap (fun k => l[k]?) = l from by
    conv => rhs; rw [← List.map_id l]
    induction l with
    | nil => rfl
    | cons a t ih =>
      rw [List.length_cons, List.range_succ_eq_map, List.filterMap_cons]
      simp only [List.getElem?_cons_zero, List.filterMap_map]
      rw [show ((fun k => (a :: t)[k]?) ∘ Nat.succ) = fun k => t[k]? from by funext k; simp]
      rw [ih, List.map_id, List.map_id]]
section
variable {prog : Program} {w : World} {A : Around} {E : Value → Shared → Prop} {s : Shared}
theorem back_applied {sl : Addr} {n : Nat} {u : Tok} {Q : Int × Int × Nat → Shared → Prop} (hs : s.heap.IsSliceOf sl .none .none (.int (-1) u)) (h : Q ((n : Int) - 1, -1, n) s) :
    wpAny (model prog w) A (Builtin.Slice.sliceApplied (.ref sl) (pure (n : Int))) Q E s := by
  obtain ⟨ob, hob, hcl, hda⟩ := id hs
  unfold Builtin.Slice.sliceApplied Builtin.Slice.sliceFields
  refine wpAny_bind (wpAny_bind (wpAny_field hob hda (x := .none) rfl (wpAny_bind (wpAny_field hob hda (x := .none) rfl (wpAny_bind (wpAny_field hob hda (x := .int (-1) u) rfl (wpAny_pure ?_)))))))
  refine wpAny_bind (slicePart_int ?_)
  show wpAny _ _ (if ((-1 : Int) == 0) = true then _ else _) _ _ s
  rw [if_neg (by decide)]
  refine wpAny_bind (slicePart_none (wpAny_bind (slicePart_none (wpAny_bind (wpAny_pure ?_)))))
  show wpAny _ _ (match Builtin.Slice.sliceAdjust none none (-1) (n : Int) with | (lo, hi) => pure (lo, (-1 : Int), Builtin.Slice.slicePlaces lo hi (-1))) _ _ s
  rw [back_adjust]
  show wpAny _ _ (pure ((n : Int) - 1, (-1 : Int), Builtin.Slice.slicePlaces ((n : Int) - 1) (-1) (-1))) _ _ s
  rw [back_places]
  exact wpAny_pure h
theorem back_tuple {t sl : Addr} {items : Array Value} {u : Tok} {Q : Value → Shared → Prop} (ht : IsTup s.heap t items) (hs : s.heap.IsSliceOf sl .none .none (.int (-1) u))
    (h : Q (.ref s.heap.objs.size) { s with heap := s.heap.push { cls := .type "tuple", data := .seq items.toList.reverse.toArray } }) (hsz : items.size ≤ sizeLine) :
    wpAny (model prog w) A (getItem (.ref t) (.ref sl)) Q E s := by
  have fits : sizeOk (.seq items.toList.reverse.toArray) := by
    show items.toList.reverse.toArray.size ≤ sizeLine
    rw [List.size_toArray, List.length_reverse, Array.length_toList]
    exact hsz
  obtain ⟨ob, hob, hcl, hda⟩ := id hs
  have isS : s.TypeIs (.ref sl) "slice" := ⟨ob, hob, hcl⟩
  unfold getItem
  try with_reducible refine wpAny_holding ?_
  first | refine wpAny_bind (wpAny_pure ?_) | skip
  refine wpAny_bind (wpAny_sequenceKey ht.typeIs (by decide) ?_)
  refine wpAny_bind (wpAny_callSpecial?_slot (name := Str.ofString "__getitem__") ht.typeIs PyProof.Rows.slot_tuple_getitem
    (wpAny_call_entry PyProof.Rows.slot_tuple_getitem ht.typeIs entry_tuple_getitem ?_ (args_tuple_getitem _ _)))
  show wpAny _ _ (Builtin.Tuple.tupleItemsOf (.ref t) >>= _) _ _ s
  refine wpAny_bind (tupleItemsOf_ ht (wpAny_bind (wpAny_typeOf isS ?_)))
  rw [if_pos (by decide)]
  refine wpAny_bind (back_applied hs ?_)
  have hno : ¬ ((((items.size : Nat) : Int) - 1 == 0 && (-1 : Int) == 1 && items.size == items.size) = true) := by simp
  show wpAny _ _ (if (((items.size : Nat) : Int) - 1 == 0 && (-1 : Int) == 1 && items.size == items.size) = true then _ else _) _ _ s
  rw [if_neg hno, back_pick items]
  first
    | exact wpAny_bind (m := Builtin.Tuple.tupleExact _) (wpAny_newObj_type (wpAny_pure ⟨_, rfl, wpAny_pure h⟩) fits)
    | exact wpAny_bind (m := Builtin.Tuple.tupleExact _) (wpAny_newObj_type (wpAny_bind (wpAny_pure (wpAny_pure ⟨_, rfl, wpAny_pure h⟩))) fits)
    | exact wpAny_bind (wpAny_bind (m := Builtin.Tuple.tupleExact _) (wpAny_newObj_type (wpAny_pure (wpAny_pure ⟨_, rfl, wpAny_pure h⟩)) fits))
    | exact wpAny_bind (wpAny_bind (m := Builtin.Tuple.tupleExact _) (wpAny_newObj_type (wpAny_pure ⟨_, rfl, wpAny_pure h⟩) fits))
end
section
variable {X : Cx} {RX : RXT} {W : WX} {α α' : AM} {H H' : Hp} {σ : St} {S S' : Store} {env : DEnv} {pos : Pos} {tg : Expr}
def tBackA (K : PySem.W.Frag) (te : TE) : TE := fun σ H Q => te σ H fun x H1 => ∃ a xs, x = .ref a ∧
  ((SqL K H1 a xs ∧ ∀ p, H1 p = none → Q (.ref p) (upd H1 p (.lst xs.reverse))) ∨ (SqT K H1 a xs ∧ ∀ p, H1 p = none → Q (.ref p) (upd H1 p (.tup xs.reverse))))
theorem pe_backA {e : Expr} {te : TE} {k : Nat} {p1 p2 p3 : Pos} (he : PE X e te) : PE X (.Subscript e (.Slice none none (some (.UnaryOp .USub (.Constant (.int 1) k p1) p2)) p3) pos) (tBackA X.K te) := by
  refine ⟨fun pins s σ H Q I h => Subscript_ (thn (he.run pins s σ H _ I h) fun v s1 ⟨x, H1, I1, r1, a, xs, ex, q1⟩ => ?_)⟩
  subst ex; cases r1
  have mone : PO X (some (.UnaryOp .USub (.Constant (.int 1) k p1) p2)) (tPart (tUn (rU fun i => .int (-i)) (tC (.int 1)))) := po_some (pe_un un_neg pe_int)
  refine wpAny_Slice (thn (po_none.run pins s1 σ H1 (fun o H2 => o = none ∧ H2 = H1) I1 ⟨rfl, rfl⟩) fun vl s2 ⟨l, H2, I2, pl, el, e2⟩ => ?_)
  subst el e2
  refine thn (po_none.run pins s2 σ H2 (fun o H3 => o = none ∧ H3 = H2) I2 ⟨rfl, rfl⟩) fun vu s3 ⟨u, H3, I3, pu, eu, e3⟩ => ?_
  subst eu e3
  refine thn (mone.run pins s3 σ H3 (fun o H4 => o = some (-1) ∧ H4 = H3) I3 ⟨1, rfl, -1, rfl, rfl, rfl⟩) fun vs s4 ⟨o, H4, I4, ps, eo, e4⟩ => ?_
  subst eo e4
  have I5 : Inv X pins σ H4 { s4 with heap := s4.heap.push { cls := .type "slice", data := .fields #[vl, vu, vs] } } := I4.kept (t' := s4.toks) fun b ob q => Heap.get?_push_of_some _ q
  show wpAny (model X.prog X.w) X.A (subscriptTail e (.Slice none none (some (.UnaryOp .USub (.Constant (.int 1) k p1) p2)) p3) (.ref a) (.ref s4.heap.objs.size)) (EP X pins σ Q) X.xe { s4 with heap := s4.heap.push { cls := .type "slice", data := .fields #[vl, vu, vs] } }
  cases q1 with
  | inl hq =>
    obtain ⟨hx, q⟩ := hq
    obtain ⟨its, r, ht, hz⟩ := I5.list hx
    have hlen := r.length
    refine tail_any (ops := [.ref a, .ref s4.heap.objs.size]) ht.isList.typeIs (PySem.slot_list_getitem.lookup) ?_ (by with_unfolding_all rfl)
    refine wpAny_getItem_list_slice ht.isList (Heap.IsSliceOf.new _ vl vu vs) pl pu ps (by decide) ?_ (by rw [List.size_toArray]; omega)
    rw [PySem.W.krv_pick]
    refine ⟨.ref _, _, I5.laid (t' := s4.toks) (o := .lst xs.reverse) (fun b ob q => Heap.get?_push_of_some _ q) (Nat.le_refl _) ?_, rfl, q _ (I5.hok.fresh (Nat.le_refl _))⟩
    exact ⟨by rw [List.length_reverse]; exact hz, _, 0, r.reverse, Heap.get?_push_size _ rfl⟩
  | inr hq =>
    obtain ⟨hx, q⟩ := hq
    obtain ⟨its, r, ht, hz⟩ := I5.tuple hx
    have hlen := r.length
    cases pl
    cases pu
    cases ps
    refine tail_any (ops := [.ref a, .ref s4.heap.objs.size]) ht.typeIs (PyProof.Rows.slot_tuple_getitem.lookup) ?_ (by with_unfolding_all rfl)
    refine back_tuple ht (Heap.IsSliceOf.new _ _ _ _) ?_ (by rw [List.size_toArray]; omega)
    refine ⟨.ref _, _, I5.laid (t' := s4.toks) (o := .tup xs.reverse) (fun b ob q => Heap.get?_push_of_some _ q) (Nat.le_refl _) ?_, rfl, q _ (I5.hok.fresh (Nat.le_refl _))⟩
    exact ⟨by rw [List.length_reverse]; exact hz, _, r.reverse, IsTup.new _ _⟩
/-- x[::-1]: a list's is a list, a tuple's a tuple -/
def dBack (f : FE) : FE := fun env S => (f env S).bind fun d S1 => match d with
  | .v (.tuple xs) => .ok (.v (.tuple xs.reverse)) S1
  | d => match listOf S1 d with
    | some xs => .ok (.v (.list xs.reverse)) S1
    | none => .stuck
theorem de_back {e : Expr} {f : FE} {k : Nat} {p1 p2 p3 : Pos} (he : DE X RX W e f) : DE X RX W (.Subscript e (.Slice none none (some (.UnaryOp .USub (.Constant (.int 1) k p1) p2)) p3) pos) (dBack f) :=
  peW (pe_backA he) fun σ H Q ⟨α, env, S, h, o⟩ => tE_seq h o fun d S1 α1 H1 v e1 h1 r1 o1 => by
    split at o1
    · cases r1 with
      | tup hx q => exact ⟨_, _, rfl, .inr ⟨hx.sq, fun p hp => o1.newT h1.wr q.reverse hp⟩⟩
    · split at o1
      · rename_i xs hx
        obtain ⟨a, vs, rfl, h2, q⟩ := list_at h1.wr r1 hx
        exact ⟨a, vs, rfl, .inl ⟨.inl h2, fun p hp => o1.newL h1.wr q.reverse hp⟩⟩
      · exact o1.elim
/-! ### xs[::c], c a number above 0 -/
def pickX {β : Type} (c : Int) (xs : List β) : List β := (sliceRange 0 xs.length c).filterMap fun i => xs[i]?
theorem vals_fm {xs : List V} {us : List Value} (r : Vals xs us) : ∀ idx : List Nat, Vals (idx.filterMap fun i => xs[i]?) (idx.filterMap fun i => us[i]?)
  | [] => .nil
  | i :: t => by
    cases h : xs[i]? with
    | none =>
      rw [List.filterMap_cons_none h, List.filterMap_cons_none (r.none_of h)]
      exact vals_fm r t
    | some x =>
      obtain ⟨u, hu, q⟩ := r.get h
      rw [List.filterMap_cons_some h, List.filterMap_cons_some hu]
      exact .cons q (vals_fm r t)
theorem rpl_fm {vs : List V} {xs : List PyData} (r : RpL X.K α H vs xs) : ∀ idx : List Nat, RpL X.K α H (idx.filterMap fun i => vs[i]?) (idx.filterMap fun i => xs[i]?)
  | [] => .nil
  | i :: t => by
    cases h : xs[i]? with
    | none =>
      have hv : vs[i]? = none := List.getElem?_eq_none_iff.mpr (by rw [r.length]; exact List.getElem?_eq_none_iff.mp h)
      rw [List.filterMap_cons_none h, List.filterMap_cons_none hv]
      exact rpl_fm r t
    | some x =>
      obtain ⟨u, hu, q⟩ := r.get h
      rw [List.filterMap_cons_some h, List.filterMap_cons_some hu]
      exact .cons q (rpl_fm r t)
theorem pick_of (c : Int) (hc : c > 0) (its : List Value) : slicePick its.toArray none none (some c) = (pickX c its).toArray := by
  unfold slicePick pickX
  simp [sliceBounds, hc]
theorem pick_len (c : Int) (hc : c > 0) (its : List Value) : (pickX c its).length ≤ its.length := by
  have := slicePick_size_le its.toArray none none (some c)
  rw [pick_of c hc] at this
  simpa using this
def tStepX (c : Int) (K : PySem.W.Frag) (te : TE) : TE := fun σ H Q => te σ H fun x H1 => ∃ a xs, x = .ref a ∧ SqL K H1 a xs ∧ ∀ p, H1 p = none → Q (.ref p) (upd H1 p (.lst (pickX c xs)))
theorem pe_stepX {e : Expr} {te : TE} {c : Int} {k : Nat} {p2 p3 : Pos} (hc : c > 0) (he : PE X e te) : PE X (.Subscript e (.Slice none none (some (.Constant (.int c) k p2)) p3) pos) (tStepX c X.K te) := by
  refine ⟨fun pins s σ H Q I h => Subscript_ (thn (he.run pins s σ H _ I h) fun v s1 ⟨x, H1, I1, r1, a, xs, ex, hx, q⟩ => ?_)⟩
  subst ex; cases r1
  have mone : PO X (some (.Constant (.int c) k p2)) (tPart (tC (.int c))) := po_some pe_int
  refine wpAny_Slice (thn (po_none.run pins s1 σ H1 (fun o H2 => o = none ∧ H2 = H1) I1 ⟨rfl, rfl⟩) fun vl s2 ⟨l, H2, I2, pl, el, e2⟩ => ?_)
  subst el e2
  refine thn (po_none.run pins s2 σ H2 (fun o H3 => o = none ∧ H3 = H2) I2 ⟨rfl, rfl⟩) fun vu s3 ⟨u, H3, I3, pu, eu, e3⟩ => ?_
  subst eu e3
  refine thn (mone.run pins s3 σ H3 (fun o H4 => o = some c ∧ H4 = H3) I3 ⟨c, rfl, rfl, rfl⟩) fun vs s4 ⟨o, H4, I4, ps, eo, e4⟩ => ?_
  subst eo e4
  have I5 : Inv X pins σ H4 { s4 with heap := s4.heap.push { cls := .type "slice", data := .fields #[vl, vu, vs] } } := I4.kept (t' := s4.toks) fun b ob q => Heap.get?_push_of_some _ q
  show wpAny (model X.prog X.w) X.A (subscriptTail e (.Slice none none (some (.Constant (.int c) k p2)) p3) (.ref a) (.ref s4.heap.objs.size)) (EP X pins σ Q) X.xe { s4 with heap := s4.heap.push { cls := .type "slice", data := .fields #[vl, vu, vs] } }
  obtain ⟨its, r, ht, hz⟩ := I5.list hx
  have hlen := r.length
  refine tail_any (ops := [.ref a, .ref s4.heap.objs.size]) ht.isList.typeIs (PySem.slot_list_getitem.lookup) ?_ (by with_unfolding_all rfl)
  refine wpAny_getItem_list_slice ht.isList (Heap.IsSliceOf.new _ vl vu vs) pl pu ps (by simp only [ne_eq, Option.some.injEq]; omega) ?_ (by rw [List.size_toArray]; omega)
  rw [pick_of c hc]
  have e2 : (pickX c xs).length = (pickX c its).length := by
    have := (vals_fm r (sliceRange 0 its.length c)).length
    unfold pickX
    rw [hlen]
    exact this
  have hv : Vals (pickX c xs) (pickX c its) := by
    have := vals_fm r (sliceRange 0 its.length c)
    unfold pickX
    rw [hlen]
    exact this
  refine ⟨.ref _, _, I5.laid (t' := s4.toks) (o := .lst (pickX c xs)) (fun b ob q => Heap.get?_push_of_some _ q) (Nat.le_refl _) ?_, rfl, q _ (I5.hok.fresh (Nat.le_refl _))⟩
  exact ⟨by rw [e2]; exact Nat.le_trans (pick_len c hc its) (by rw [← hlen]; exact hz), _, 0, hv, Heap.get?_push_size _ rfl⟩
def dStep (c : Int) (f : FE) : FE := fun env S => (f env S).bind fun d S1 => match listOf S1 d with
  | some xs => .ok (.v (.list (pickX c xs))) S1
  | none => .stuck
theorem de_step {e : Expr} {f : FE} {c : Int} {k : Nat} {p2 p3 : Pos} (hc : c > 0) (he : DE X RX W e f) : DE X RX W (.Subscript e (.Slice none none (some (.Constant (.int c) k p2)) p3) pos) (dStep c f) :=
  peW (pe_stepX hc he) fun σ H Q ⟨α, env, S, h, o⟩ => tE_seq h o fun d S1 α1 H1 v e1 h1 r1 o1 => by
    split at o1
    · rename_i xs hx
      obtain ⟨a, vs, rfl, h2, q⟩ := list_at h1.wr r1 hx
      refine ⟨a, vs, rfl, .inl h2, fun p hp => o1.newL h1.wr ?_ hp⟩
      have := rpl_fm q (sliceRange 0 xs.length c)
      unfold pickX
      rw [q.length]
      exact this
    · exact o1.elim
/-! ### x, y = e, f where a comprehension reads x or y: a tuple is built and taken apart -/
theorem ds_parC {i j : Nat} {x y : Str} {a b : Expr} {g : FA} {px py pt : Pos} {kt k2 : Nat} {pt2 : Pos} (hc : X.calm = true) (hN : X.N.Nodup) (ha : DA X RX W [a, b] g)
    (hw : swappedStores [.Tuple [.Name x px, .Name y py] kt pt] (.Tuple [a, b] k2 pt2) X.env = pure none := by rfl) (hi : X.N[i]? = some x := by rfl) (hj : X.N[j]? = some y := by rfl)
    (hx : Loc X.env.scope x := by first | exact .inl rfl | exact .inr rfl) (hy : Loc X.env.scope y := by first | exact .inl rfl | exact .inr rfl)
    (hfx : X.fn x = true ∨ X.env.scope.names.lookup x = some .local := by first | exact .inl rfl | exact .inr rfl) (hfy : X.fn y = true ∨ X.env.scope.names.lookup y = some .local := by first | exact .inl rfl | exact .inr rfl)
    (hs : swapsWithSole [.Tuple [.Name x px, .Name y py] kt pt] (.Tuple [a, b] k2 pt2) pos.line X.env = pure false := by rfl)
    (h1 : (assignEach [.Tuple [.Name x px, .Name y py] kt pt] X.env).map (·.2) = [assign (.Tuple [.Name x px, .Name y py] kt pt) X.env] := by rfl)
    (hn : (assignEach [.Name x px, .Name y py] X.env).length = 2 := by rfl) (hst : (assignEach [.Name x px, .Name y py] X.env).findIdx? (·.1) = none := by rfl)
    (e1 : (assignEach [.Name x px, .Name y py] X.env).map (·.2) = assign (.Name x px) X.env :: (assignEach [.Name y py] X.env).map (·.2) := by rfl) (e2 : (assignEach [.Name y py] X.env).map (·.2) = assign (.Name y py) X.env :: (assignEach [] X.env).map (·.2) := by rfl) :
    DS X RX W (.Assign [.Tuple [.Name x px, .Name y py] kt pt] (.Tuple [a, b] k2 pt2) pos) (sPar [i, j] g) :=
  psW (ps_asg (pe_tup ha) (pg_tup hc (pgs_cons (pg_name hN hi hx hfx) (pgs_cons (pg_name hN hj hy hfy) pgs_nil e2) e1) hn hst) hs hw h1) fun D σ H ⟨α, env, S, h, o⟩ => by
  refine ⟨α, env, S, h, ?_⟩
  unfold sPar at o
  cases hr : g env S with
  | ok ds S1 =>
    rw [hr] at o
    intro α1 H1 e1 w1 vs rs
    simp only [lift] at o
    split at o
    · rename_i hl
      cases rs with
      | nil => simp at hl
      | @cons va _ _ _ r rs => cases rs with
        | nil => simp at hl
        | @cons vb _ _ _ r2 rs => cases rs with
          | cons => simp at hl
          | nil =>
            refine ⟨Nat.le_trans (show (2 : Nat) ≤ 16 by decide) (show 16 ≤ sizeLine by decide), fun p hp => ⟨p, _, rfl, .inl (.inl (upd_same ..)), rfl, ?_⟩⟩
            have e2 := Ext.new (o := HO.tup [va, vb]) w1 hp
            have w2 := w1.new (o := HO.tup [va, vb]) hp
            refine ⟨_, _, rfl, _, _, rfl, rfl, ?_⟩
            simp only [List.zip_cons_cons, List.zip_nil_right, List.foldl_cons, List.foldl_nil] at o
            have h1 : Here X α1 _ σ env S1 := h.ext X (e1.trans e2) w2
            exact o α1 _ _ (e1.trans e2) ⟨(h1.re.set (r.ext e2)).set (r2.ext e2), w2⟩
    · exact o.elim
  | exc x S' => rw [hr] at o; exact fun β2 H2 c dx e2 w2 rx => o β2 H2 σ c dx e2 (h.ext X e2 w2) rx
  | stuck => rw [hr] at o; exact o
end
end G

set_option Elab.async false
set_option linter.all false
set_option autoImplicit false
set_option maxRecDepth 100000
set_option maxHeartbeats 4000000
/-! sorted(set(xs)), xs a list of whole numbers or of tuples of such -/
namespace G
open PySem PySem.Calls PySem.Spec PyProof.Rows L2
section
variable {P : Program} {w : World} {A : Around} {E : Value → Shared → Prop} {sv : Shared}
abbrev newSet (w : World) : Obj := { cls := .type "set", dict := none, data := .set #[] 0 (.fresh 0 0 (!w.params.followText "set-order")) }
theorem set_of_list {l : Addr} {items : Array Value} (ns : List Int) {Q : Value → Shared → Prop} (hh : A.handled = none) (hl : sv.heap.IsList l items) (git : IntsAre items.toList ns) (hb : ns.length + 1 < scanBound)
    (h : ∀ (h' : Heap) (tk c : Nat), SetR w h' sv.heap.objs.size (fun j => decide (j ∈ ns)) c → c ≤ ns.length → (∀ b o, sv.heap.get? b = some o → h'.get? b = some o) → Q (.ref sv.heap.objs.size) { sv with heap := h', toks := tk }) :
    wpAny (model P w) A (call (.type "set") [.ref l]) Q E sv := by
  have gsz : items.size = ns.length := by
    have q := IntsAre.length git
    rw [Array.length_toList] at q
    exact q
  obtain ⟨c, tl, gmro⟩ := F.called_set.mro
  have gmade := F.called_set.made
  have gsub := F.called_set.sub
  refine wpAny_call (codeAny_of_tree ?_); show wpAny _ _ (callAny (.type "set") _) _ _ _
  refine wpAny_pure ⟨Code.quiet_builtin _ (by decide +kernel), codeAny_builtin F.entry_type_call ?_⟩; rw [Around.under_plain (weight_type_call_type "set" [.ref l] []) rfl]
  have h1 := F.called_set.notType; have h2 := F.called_set.canCreate
  have gct := F.typeCall_set_1 (.ref l)
  (repeat (any_goals (first | assumption | wp_step)))
  refine codeAny_mono (code_set_led1 (.ref l) (E := E) (Q₁ := fun obj t₁ => obj = .ref sv.heap.objs.size ∧ t₁ = { sv with heap := sv.heap.push (newSet w) }) ⟨rfl, rfl⟩) fun r t₁ hr => ?_
  cases r with
  | error e => exact hr
  | ok fl =>
    cases fl with
    | ret obj =>
      obtain ⟨rfl, rfl⟩ := hr
      have gS : (sv.heap.push (newSet w)).get? sv.heap.objs.size = some (newSet w) := Heap.get?_push_size _ rfl
      have gT : Shared.TypeIs { sv with heap := sv.heap.push (newSet w) } (.ref sv.heap.objs.size) "set" := ⟨_, gS, rfl⟩
      have gli := F.called_set.init.lookup
      have gbi := F.called_set.init.bind (.ref sv.heap.objs.size)
      (repeat (any_goals (first | assumption | wp_step)))
      refine codeAny_mono (codeAny_call_builtin (R := wants (fun r t₂ => r = .none ∧ ∃ h' tk c, t₂ = { sv with heap := h', toks := tk } ∧ SetR w h' sv.heap.objs.size (fun j => decide (j ∈ ns)) c ∧ c ≤ ns.length ∧
          (∀ b o, sv.heap.get? b = some o → h'.get? b = some o)) E) F.called_set.init.plain F.entry_set_init (check_set_init_1 gT ?_)) fun q₂ t₂ hq₂ => ?_
      · obtain ⟨ol, gol, gcl, nl, gdl⟩ := hl
        obtain ⟨ocl, odi, oda, osl⟩ := ol
        simp only at gcl gdl
        subst gcl; subst gdl
        have gol2 : (sv.heap.push (newSet w)).get? l = some { cls := .type "list", dict := odi, data := .seq items nl, slots := osl } := Heap.get?_push_of_some _ gol
        have gsl := F.sub_list_set
        have gsf := F.sub_list_frozenset
        have gne : (Value.type "list" == Value.type "dict") = false := by decide
        have gl1 : (sv.heap.push (newSet w)).IsList l items := ⟨_, gol2, rfl, nl, rfl⟩
        unfold Builtin.«set.__init__» noKeywords Builtin.Frozenset.updateFrom; generalize hPI : pyIter = PI
        wp_walk
        subst hPI
        refine wpAny_pyIter_list gl1 ?_
        refine wpAny_bind (wpAny_runValue ?_); have glS : l < sv.heap.objs.size := Heap.lt_size gol
        have gh3 : A.in1.in1.in1.handled = none := by simp [hh]
        have gz1 : (sv.heap.push (newSet w)).objs.size = sv.heap.objs.size + 1 := Heap.size_push ..
        have gnI : l ≠ (sv.heap.push (newSet w)).objs.size := by
          rw [Heap.size_push]; exact Nat.ne_of_lt (Nat.lt_succ_of_lt glS)
        have gSf : sv.heap.objs.size ∉ [(sv.heap.push (newSet w)).objs.size, l] := by
          rw [Heap.size_push]; simp only [List.mem_cons, List.mem_singleton, List.not_mem_nil, or_false, not_or]; exact ⟨Nat.ne_of_lt (Nat.lt_succ_self _), Nat.ne_of_gt glS⟩
        have gval : ∀ (i : Nat) (v : Value), items[i]? = some v → ∃ k t, ns[i]? = some k ∧ v = .int k t := fun i v hv => by
          have hi : i < ns.length := by rw [← gsz]; exact (Array.getElem?_eq_some_iff.mp hv).1
          obtain ⟨t, e⟩ := PyProof.Rows.IntsAre.int_at git i v (by rw [Array.getElem?_toList]; exact hv)
          refine ⟨ns[i], t, List.getElem?_eq_getElem hi, ?_⟩; rw [e, List.getD_eq_getElem?_getD, List.getElem?_eq_getElem hi] <;> rfl
        refine set_update_ints ((Walks.list gh3 _ l gnI items).toS) sv.heap.objs.size
          gSf ns gsz hb gval (items.size - 0) 0 _ (by omega) (Nat.zero_le _)
          ⟨⟨_, Heap.get?_push_size _ rfl, rfl, rfl⟩, (gl1.push _)⟩ ?case0 ?caseR
        case case0 =>
          have ggt : ((sv.heap.push (newSet w)).push { cls := .type "list_iterator", data := .fields #[.ref l, .int 0 0] }).get? sv.heap.objs.size
              = some (newSet w) := Heap.get?_push_of_some _ gS
          exact ⟨0, Nat.le_refl 0, setR_new_at ggt⟩
        case caseR =>
          intro s' c' gm hc' gS2
          obtain ⟨h', g2, d', tk', os'⟩ := s'; have eg : g2 = sv.gens := gm.gens
          have ed : d' = sv.drawn := gm.drawn
          have eo : os' = sv.os := gm.os
          subst eg; subst ed; subst eo
          show wpAny _ _ _ _ _ _
          refine wpAny_pure ?_
          show wpAny _ _ (ret Value.none) _ _ _; rw [gsz] at hc'
          refine wpAny_pure ⟨rfl, h', tk', c', rfl, gS2, hc', fun b o e => ?_⟩
          have gb0 : b < sv.heap.objs.size := Heap.lt_size e
          have gb1 : b ≠ sv.heap.objs.size := Nat.ne_of_lt gb0
          have gb2 : b ≠ (sv.heap.push (newSet w)).objs.size := by
            rw [Heap.size_push]; exact Nat.ne_of_lt (Nat.lt_succ_of_lt gb0)
          exact gm.heap b o (by simp only [List.mem_cons, List.mem_singleton, List.not_mem_nil, or_false, not_or]; exact ⟨gb1, gb2⟩) (Heap.get?_push_of_some _ (Heap.get?_push_of_some _ e))
      · cases q₂ with
        | error e => exact hq₂
        | ok gl₂ =>
          cases gl₂ with
          | ret r =>
            obtain ⟨rfl, h', tk, c', rfl, gS2, hc', hk'⟩ := hq₂
            (repeat (any_goals (first | assumption | wp_step)))
            exact h _ _ _ gS2 hc' hk'
          | _ => exact hq₂.elim
    | _ => exact hr.elim
end

section
variable {X : Cx} {RX : RXT} {W : WX} {α α' : AM} {H H' : Hp} {σ : L2.St} {S S' : Store} {env : DEnv} {pos : Pos}
/-- set(xs), xs a list of whole numbers -/
def rSetOfI (K : PySem.W.Frag) (w : World) : List V → Hp → VK → Prop := fun xs H Q => ∃ (l : Addr) (ns : List Int), xs = [V.ref l] ∧ SqL K H l (ns.map V.int) ∧ ns.length + 1 < scanBound ∧
  ∀ a c, H a = none → c ≤ ns.length → Q (.ref a) (upd H a (SetO w a (fun j => decide (j ∈ ns)) c))
theorem cr_setOfI (hc : X.calm = true) : CallR X (.type "set") (rSetOfI X.K X.w) := by
  intro pins s σ H xs us Q I r h
  obtain ⟨l, ns, rfl, hl, hf, q⟩ := h
  rw [Vals.ref1 r]
  obtain ⟨its, rv, pl, hz⟩ := I.list hl
  refine set_of_list (P := X.prog) (w := X.w) ns (I.ok.hd hc) pl.isList (by simpa using Vals.ints rv) hf fun h' tk c R hcn k => ?_
  exact ⟨.ref s.heap.objs.size, upd H s.heap.objs.size (SetO X.w s.heap.objs.size (fun j => decide (j ∈ ns)) c), I.laid (t' := tk) k (Nat.le_refl _) (setO_new R), rfl, q _ c (I.hok.fresh (Nat.le_refl _)) hcn⟩
def dedI : List Int → List Int
  | [] => []
  | a :: r => if a ∈ dedI r then dedI r else a :: dedI r
def insI (a : Int) : List Int → List Int
  | [] => [a]
  | b :: r => if a ≤ b then a :: b :: r else b :: insI a r
def sortI : List Int → List Int
  | [] => []
  | a :: r => insI a (sortI r)
theorem mem_dedI {x : Int} : ∀ {l : List Int}, x ∈ dedI l ↔ x ∈ l
  | [] => Iff.rfl
  | a :: r => by
    rw [dedI]
    by_cases h : a ∈ dedI r
    · rw [if_pos h, mem_dedI, List.mem_cons]
      exact ⟨.inr, fun z => z.elim (fun e => by rw [e]; exact mem_dedI.mp h) id⟩
    · rw [if_neg h, List.mem_cons, List.mem_cons, mem_dedI]
theorem nodup_dedI : ∀ l : List Int, (dedI l).Nodup
  | [] => List.nodup_nil
  | a :: r => by
    rw [dedI]
    by_cases h : a ∈ dedI r
    · rw [if_pos h]; exact nodup_dedI r
    · rw [if_neg h]; exact List.nodup_cons.mpr ⟨h, nodup_dedI r⟩
theorem insI_perm (a : Int) : ∀ l, (insI a l).Perm (a :: l)
  | [] => .refl _
  | b :: r => by
    rw [insI]
    by_cases h : a ≤ b
    · rw [if_pos h]
    · rw [if_neg h]; exact ((insI_perm a r).cons b).trans (List.Perm.swap a b r)
theorem sortI_perm : ∀ l, (sortI l).Perm l
  | [] => .refl _
  | a :: r => by rw [sortI]; exact (insI_perm a _).trans ((sortI_perm r).cons a)
theorem insI_rises (a : Int) : ∀ {l : List Int}, l.Pairwise (· ≤ ·) → (insI a l).Pairwise (· ≤ ·)
  | [], _ => by rw [insI]; exact List.pairwise_singleton _ _
  | b :: r, h => by
    rw [insI]
    have ⟨h1, h2⟩ := List.pairwise_cons.mp h
    by_cases hab : a ≤ b
    · rw [if_pos hab]
      exact List.pairwise_cons.mpr ⟨fun x hx => (List.mem_cons.mp hx).elim (fun e => by rw [e]; exact hab) fun m => Int.le_trans hab (h1 x m), h⟩
    · rw [if_neg hab]
      refine List.pairwise_cons.mpr ⟨fun x hx => ?_, insI_rises a h2⟩
      rcases List.mem_cons.mp ((insI_perm a r).mem_iff.mp hx) with e | m
      · rw [e]; omega
      · exact h1 x m
theorem sortI_rises : ∀ l : List Int, (sortI l).Pairwise (· ≤ ·)
  | [] => .nil
  | a :: r => by rw [sortI]; exact insI_rises a (sortI_rises r)
theorem sortI_one {l m : List Int} (h : m.Pairwise (· < ·)) (hm : ∀ x, x ∈ m ↔ x ∈ l) : m = sortI (dedI l) := by
  have nd : m.Nodup := h.imp fun z e => by subst e; exact absurd z (Int.lt_irrefl _)
  have p : m.Perm (dedI l) := (List.perm_ext_iff_of_nodup nd (nodup_dedI l)).mpr fun x => (hm x).trans mem_dedI.symm
  exact List.Perm.eq_of_pairwise (fun a b _ _ x y => Int.le_antisymm x y) (h.imp Int.le_of_lt) (sortI_rises _) (p.trans (sortI_perm _).symm)
def opSetSortI : Op := fun ds S => match ds with
  | [d] => (match listOf S d with
    | some xs => (match intsOf xs with
      | some ns => if ns.length < 64 then .ok (.v (.list ((sortI (dedI ns)).map .int))) S else .stuck
      | none => .stuck)
    | none => .stuck)
  | _ => .stuck
theorem rpl_ints : ∀ l : List Int, RpL X.K α H (l.map V.int) (l.map PyData.int)
  | [] => .nil
  | a :: l => .cons (.int a) (rpl_ints l)
theorem de_sortedSetI {e : Expr} {f : FA} {p p2 q : Pos} (hc : X.calm = true) (hg : Gl X "sorted") (hm : X.mg "sorted" = none) (hg2 : Gl X "set") (hm2 : X.mg "set" = none) (ha : DA X RX W [e] f)
    (he2 : starEach [e] X.env = (false, eval e X.env) :: starEach [] X.env := by rfl)
    (he : starEach [.Call (.Name "set" p2) [e] [] q] X.env = (false, eval (.Call (.Name "set" p2) [e] [] q) X.env) :: starEach [] X.env := by rfl)
    (hpl : (backTo pos (starEach [] X.env)).any (·.1) = false := by rfl) (hpl2 : (backTo q (starEach [] X.env)).any (·.1) = false := by rfl) :
    DE X RX W (.Call (.Name "sorted" p) [.Call (.Name "set" p2) [e] [] q] [] pos) (dBlt opSetSortI f) := by
  refine peW (pe_callB (cr_sortedSet hc) hg hm bt_sorted (pa_cons (pe_callTy (cr_setOfI hc) hg2 hm2 PyProof.Rows.boot_set ha (by decide) (by decide) he2 hpl2) pa_nil he) (by decide) (by decide) he hpl) ?_
  intro σ H Q ⟨α, env, S, h, o⟩
  refine tA_seq h o fun ds S1 α1 H1 vs e1 h1 rs o1 => ?_
  unfold opSetSortI at o1
  split at o1
  · obtain ⟨v, rfl, r⟩ := RepDs.inv1 rs
    split at o1
    · rename_i xs hx
      split at o1
      · rename_i ns hk
        split at o1
        · rename_i hs
          obtain ⟨a, ys, rfl, g1, g2⟩ := list_at h1.wr r hx
          have ex := intsOf_eq hk
          subst ex
          have ey := g2.ints
          subst ey
          refine ⟨a, ns, rfl, .inl g1, by unfold scanBound; omega, fun b c hb hcn => ?_⟩
          have w2 := h1.wr.new (o := SetO X.w b (fun j => decide (j ∈ ns)) c) hb
          have x2 := Ext.new (o := SetO X.w b (fun j => decide (j ∈ ns)) c) h1.wr hb
          refine ⟨b, _, c, rfl, upd_same, by omega, fun ms d hp hmm hlm hd => ?_⟩
          have em := sortI_one (l := ns) hp fun x => by rw [hmm x, decide_eq_true_eq]
          subst em
          exact (o1.ext x2).newL w2 (rpl_ints _) hd
        · exact o1.elim
      · exact o1.elim
    · exact o1.elim
  · exact o1.elim
end
end G

set_option Elab.async false
set_option linter.all false
set_option autoImplicit false
set_option maxRecDepth 100000
/-! list comprehensions of two clauses -/
namespace G
open PySem PySem.Spec PyProof.Rows L2
def comp2 (p : Pat) (t : FT) (vs1 : List Nat) (p2 : Pat) (i2 : FI) (t2 : FT) (f : FE) (env : DEnv) : List PyData → List PyData → Store → Res (List PyData)
  | [], acc, S => .ok acc S
  | x :: xs, acc, S => match gPat p x env with
    | none => .stuck
    | some env1 => (noX (t env1 S)).bind fun b S1 => if b then (noX (i2 env1 S1)).bind fun zs S2 => if small (acc.length + zs.length) then (compL p2 t2 f (wipeE env1 vs1) zs S2).bind fun ys S3 => comp2 p t vs1 p2 i2 t2 f env xs (acc ++ ys) S3 else .stuck
      else comp2 p t vs1 p2 i2 t2 f env xs acc S1
theorem comp2_cons (p : Pat) (t : FT) (vs1 : List Nat) (p2 : Pat) (i2 : FI) (t2 : FT) (f : FE) (env : DEnv) (x : PyData) (xs acc : List PyData) (S : Store) : comp2 p t vs1 p2 i2 t2 f env (x :: xs) acc S = match gPat p x env with
    | none => .stuck
    | some env1 => (noX (t env1 S)).bind fun b S1 => if b then (noX (i2 env1 S1)).bind fun zs S2 => if small (acc.length + zs.length) then (compL p2 t2 f (wipeE env1 vs1) zs S2).bind fun ys S3 => comp2 p t vs1 p2 i2 t2 f env xs (acc ++ ys) S3 else .stuck
      else comp2 p t vs1 p2 i2 t2 f env xs acc S1 := rfl
def compR2 (own : List Nat) (p : Pat) (i : FI) (t : FT) (vs1 : List Nat) (p2 : Pat) (i2 : FI) (t2 : FT) (f : FE) : DEnv → Store → Res (List PyData) := fun env S => (i env S).bind fun xs S1 => comp2 p t vs1 p2 i2 t2 f (wipeE env own) xs [] S1
def dLc2 (own : List Nat) (p : Pat) (i : FI) (t : FT) (vs1 : List Nat) (p2 : Pat) (i2 : FI) (t2 : FT) (f : FE) : FE := fun env S => (compR2 own p i t vs1 p2 i2 t2 f env S).bind fun ys S1 => .ok (.v (.list ys)) S1
def dLc2C (own : List Nat) (p : Pat) (i : FI) (t : FT) (vs1 : List Nat) (p2 : Pat) (i2 : FI) (t2 : FT) (f : FE) : FE := fun env S => (compR2 own p i t vs1 p2 i2 t2 f env S).bind fun ys S1 => .ok (.r S1.length) (S1 ++ [.lst ys])
section
variable {X : Cx} {RX : RXT} {W : WX} {α α' : AM} {H H' : Hp} {σ : St} {S S' : Store} {env : DEnv} {pos : Pos} {tg tg1 : Expr}
/-- how the list in the making stands -/
def Blk (X : Cx) (α1 : AM) (H1 : Hp) (D : Addr) (α2 : AM) (Hc : Hp) (vs : List V) (acc : List PyData) : Prop := α2.b = D :: α1.b ∧ Hc D = some (.lst vs) ∧ RpL X.K α2 Hc vs acc ∧ Keep α1 H1 α2 Hc ∧
  (∀ (n : Nat) (x : Option Addr), α1.c[n]? = some x → α2.c[n]? = some x ∨ α2.c[n]? = some none) ∧ ∀ a ∈ α1.b, Hc a = H1 a
section
variable {α1 α2 α3 : AM} {H1 H2 H3 : Hp} {D : Addr} {vs : List V} {acc : List PyData}
theorem Blk.ext (b : Blk X α1 H1 D α2 H2 vs acc) (e : Ext α2 H2 α3 H3) : Blk X α1 H1 D α3 H3 vs acc := by
  obtain ⟨b1, b2, b3, b4, b5, b6⟩ := b
  refine ⟨e.bl.trans b1, (e.blk D (by rw [b1]; exact List.mem_cons_self)).trans b2, b3.ext e, fun a u hu hn => ?_, fun n x q => ?_, fun a ha => (e.blk a (by rw [b1]; exact List.mem_cons_of_mem _ ha)).trans (b6 a ha)⟩
  · obtain ⟨z1, z2⟩ := b4 a u hu hn; exact e.keep a u z1 z2
  · rcases b5 n x q with z | z
    · exact e.ref n x z
    · rcases e.ref n _ z with y | y <;> exact .inr y
theorem Blk.push (b : Blk X α1 H1 D α2 H2 vs acc) (w1 : WR X.prog X.w X.K α1 H1 S) (hD : H1 D = none) {u : V} {y : PyData} (ru : Rp X.K α2 H2 u y) : Blk X α1 H1 D α2 (upd H2 D (.lst (vs ++ [u]))) (vs ++ [u]) (acc ++ [y]) := by
  obtain ⟨b1, b2, b3, b4, b5, b6⟩ := b
  have gk : ∀ {o : HO}, Keep α2 H2 α2 (upd H2 D o) := fun {o} => Keep.grow (by rw [b1]; exact List.mem_cons_self)
  refine ⟨b1, upd_same, (b3.snoc ru).keep gk, fun a z hz hn => ?_, b5, fun a ha => ?_⟩
  · obtain ⟨z1, z2⟩ := b4 a z hz hn
    exact gk a z z1 z2
  · have ne : a ≠ D := fun z => by subst z; obtain ⟨_, u, q⟩ := w1.bl _ ha; rw [hD] at q; cases q
    rw [upd_ne ne]
    exact b6 a ha
theorem Blk.mem (b : Blk X α1 H1 D α2 H2 vs acc) : D ∈ α2.b := by rw [b.1]; exact List.mem_cons_self
end
theorem agr_wipe {τ σ' : St} {slots own : List Nat} (hp : ∀ j ∈ slots, j ∈ own) (ag : Agr slots (wipe τ own) σ') : wipe σ' own = wipe τ own := by
  have : Agr own (wipe τ own) σ' := ⟨ag.1, fun j hj => ag.2 j fun z => hj (hp j z)⟩
  rw [wipe_agr this]; exact wipe_idem
theorem lc2_read {own vs1 : List Nat} {p p2 : Pat} {i i2 : FI} {t t2 : FT} {f : FE} {Q : VK} {fin : List PyData → Store → Res D} (hp : ∀ j ∈ p.slots, j ∈ own) (hp2 : ∀ j ∈ p2.slots, j ∈ vs1)
    (h : Here X α H σ env S) (o : Want X RX W α H σ ((compR2 own p i t vs1 p2 i2 t2 f env S).bind fin) Q)
    (hfin : ∀ (α1 : AM) (H1 : Hp) (α2 : AM) (H2 : Hp) (ys : List PyData) (S2 : Store) (vs : List V) (D : Addr), α2.pw = α1.pw → WR X.prog X.w X.K α2 H2 S2 → α2.b = D :: α1.b → H1 D = none → α1.no D → H2 D = some (.lst vs) → RpL X.K α2 H2 vs ys → Keep α1 H1 α2 H2 →
      (∀ (n : Nat) (x : Option Addr), α1.c[n]? = some x → α2.c[n]? = some x ∨ α2.c[n]? = some none) → (∀ a ∈ α1.b, H2 a = H1 a) → Want X RX W α1 H1 σ (fin ys S2) Q → Q (.ref D) H2) :
    tLc2 (tI X RX W i (IterOk X)) (tG X p) (tT X RX WF t) (tI X RX WF i2 (IterOk X)) (tG X p2) (tT X RX WF t2) (tE X RX WF f) own vs1 σ H Q := by
  refine ⟨α, env, S, h, ?_⟩
  unfold compR2 at o
  rw [bind_assoc] at o
  have ob := o.bind
  have key : ∀ {xs : List PyData} {S1 : Store} {α1 : AM} {H1 : Hp}, Ext α H α1 H1 → WR X.prog X.w X.K α1 H1 S1 → Want X RX W α1 H1 σ ((comp2 p t vs1 p2 i2 t2 f (wipeE env own) xs [] S1).bind fin) Q → ∀ J, IterOk X J xs α1 H1 →
      ∀ D, H1 D = none → ∃ W' : Nat → Nat → Hp → Prop, (∃ m, W' 0 m (upd H1 D (.lst []))) ∧ ∀ i m H, W' i m H →
  (J.stop i H ∧ Q (.ref D) H) ∨ (J.go i H ∧ ∃ Nx : Hp → Prop, (∀ H', Nx H' → ∃ m', m' < m ∧ W' (i + 1) m' H') ∧ ∀ x H', J.yld i H x H' → tG X p x (wipe σ own) H' fun σ2 H2 => wipe σ2 own = wipe σ own ∧ tT X RX WF t σ2 H2 fun b H3 =>
    if b = true then tI X RX WF i2 (IterOk X) σ2 H3 fun J1 H4 => ∃ W1 : Nat → Nat → Hp → Prop, (∃ m, W1 0 m H4) ∧ ∀ j k H, W1 j k H →
      (J1.stop j H ∧ Nx H) ∨ (J1.go j H ∧ ∃ Nx1 : Hp → Prop, (∀ H', Nx1 H' → ∃ k', k' < k ∧ W1 (j + 1) k' H') ∧ ∀ x H', J1.yld j H x H' → tG X p2 x (wipe σ2 vs1) H' fun σ3 H5 => wipe σ3 vs1 = wipe σ2 vs1 ∧ tT X RX WF t2 σ3 H5 fun b H6 =>
        if b = true then tE X RX WF f σ3 H6 fun y H7 => ∃ acc, H7 D = some (.lst acc) ∧ acc.length < sizeLine ∧ Nx1 (upd H7 D (.lst (acc ++ [y]))) else Nx1 H6)
    else Nx H3) := by
    intro xs S1 α1 H1 e1 w1 o1 J hJ D hD
    let re0 : AM → Hp → Prop := fun α2 Hc => RE X.K α2 Hc (wipe σ own) (wipeE env own)
    refine ⟨fun i m Hc => ∃ (α2 : AM) (S2 : Store) (acc : List PyData) (vs : List V), i + m = xs.length ∧ acc.length ≤ 16000000 ∧ Here X α2 Hc (wipe σ own) (wipeE env own) S2 ∧ Blk X α1 H1 D α2 Hc vs acc ∧
      comp2 p t vs1 p2 i2 t2 f (wipeE env own) xs [] S1 = comp2 p t vs1 p2 i2 t2 f (wipeE env own) (xs.drop i) acc S2, ⟨xs.length, α1.block D, S1, [], [], Nat.zero_add _, Nat.zero_le _, ⟨(re_wipe (h.re.ext e1) own).keepK (Keep.block D hD) (fun n x q => .inl q), w1.block hD⟩, ⟨rfl, upd_same, .nil, Keep.block D hD, fun n x q => .inl q, fun a ha => upd_ne fun z => ?_⟩, rfl⟩, ?_⟩
    · subst z; obtain ⟨_, u, q⟩ := w1.bl _ ha; rw [hD] at q; cases q
    · rintro i m Hc ⟨α2, S2, acc, vs, em, hacc, h2, bl, eq⟩
      obtain ⟨go, stop⟩ := hJ α2 Hc bl.2.2.2.1 fun p hp => h2.wr.fresh hp
      by_cases hi : i < xs.length
      · have gi := List.getElem?_eq_getElem hi
        obtain ⟨g1, g2⟩ := go i _ gi
        rw [List.drop_eq_getElem_cons hi, comp2_cons] at eq
        cases q1 : gPat p xs[i] (wipeE env own) with
        | none => rw [q1] at eq; simp only at eq; rw [eq] at o1; exact o1.elim
        | some env1 =>
        rw [q1] at eq
        cases q2 : t env1 S2 with
        | stuck => simp only [q2, noX, Res.bind] at eq; rw [eq] at o1; exact o1.elim
        | exc x S3 => simp only [q2, noX, Res.bind] at eq; rw [eq] at o1; exact o1.elim
        | ok b S3 =>
        simp only [q2, noX, Res.bind] at eq
        refine .inr ⟨g1, fun Hn => ∃ (α2 : AM) (S2 : Store) (acc : List PyData) (vs : List V), acc.length ≤ 16000000 ∧ Here X α2 Hn (wipe σ own) (wipeE env own) S2 ∧ Blk X α1 H1 D α2 Hn vs acc ∧
          comp2 p t vs1 p2 i2 t2 f (wipeE env own) xs [] S1 = comp2 p t vs1 p2 i2 t2 f (wipeE env own) (xs.drop (i + 1)) acc S2, fun H' ⟨a, b, c, d, h1, r⟩ => ⟨m - 1, by omega, a, b, c, d, by omega, h1, r⟩, fun v H'' hy => ?_⟩
        obtain ⟨rv, up⟩ := g2 v H'' hy
        have eu : Ext α2 Hc α2 H'' := Ext.up h2.wr up
        refine ⟨α2, wipeE env own, S2, _, env1, ⟨h2.re.ext eu, h2.wr.up up⟩, rv, q1, fun σ3 h3 ag => ⟨agr_wipe hp ag, α2, env1, S2, h3, ?_⟩⟩
        rw [q2]
        intro α3 H3 e3 w3
        have ebase : Ext α2 Hc α3 H3 := eu.trans e3
        have bl3 := bl.ext ebase
        cases b with
        | false =>
          simp only [Bool.false_eq_true, if_false] at eq ⊢
          exact ⟨α3, S3, acc, vs, hacc, ⟨h2.re.ext ebase, w3⟩, bl3, eq⟩
        | true =>
          simp only [if_true] at eq ⊢
          have h3' : Here X α3 H3 σ3 env1 S3 := h3.ext X e3 w3
          refine ⟨α3, env1, S3, h3', ?_⟩
          cases q3 : i2 env1 S3 with
          | stuck => simp only [q3, noX, Res.bind] at eq; rw [eq] at o1; exact o1.elim
          | exc x S4 => simp only [q3, noX, Res.bind] at eq; rw [eq] at o1; exact o1.elim
          | ok zs S4 =>
          simp only [q3, noX, Res.bind] at eq
          by_cases hsm' : ¬ small (acc.length + zs.length) = true
          · rw [if_neg hsm'] at eq; rw [eq] at o1; exact o1.elim
          have hsm := Classical.not_not.mp hsm'
          rw [if_pos hsm] at eq
          have hz : acc.length + zs.length ≤ 16000000 := of_decide_eq_true hsm
          intro α4 H4 e4 w4 J1 hJ1
          have e24 : Ext α2 Hc α4 H4 := ebase.trans e4
          have bl4 := bl.ext e24
          have r4 : re0 α4 H4 := h2.re.ext e24
          have r4' : RE X.K α4 H4 (wipe σ3 vs1) (wipeE env1 vs1) := re_wipe (h3'.re.ext e4) vs1
          refine ⟨fun j k Hd => ∃ (α5 : AM) (S5 : Store) (ys : List PyData) (vs : List V), j + k = zs.length ∧ ys.length ≤ j ∧ Here X α5 Hd (wipe σ3 vs1) (wipeE env1 vs1) S5 ∧ re0 α5 Hd ∧ Blk X α1 H1 D α5 Hd vs (acc ++ ys) ∧ Keep α4 H4 α5 Hd ∧
            compL p2 t2 f (wipeE env1 vs1) zs S4 = (compL p2 t2 f (wipeE env1 vs1) (zs.drop j) S5).bind fun zs' S' => .ok (ys ++ zs') S', ⟨zs.length, α4, S4, [], vs, Nat.zero_add _, Nat.zero_le _, ⟨r4', w4⟩, r4, by rw [List.append_nil]; exact bl4, fun _ _ a b => ⟨a, b⟩, ?_⟩, ?_⟩
          · rw [List.drop_zero]; cases compL p2 t2 f (wipeE env1 vs1) zs S4 <;> rfl
          · rintro j k Hd ⟨α5, S5, ys, vs5, ek, hys, h5, r5, bl5, kp5, eq5⟩
            obtain ⟨go1, stop1⟩ := hJ1 α5 Hd kp5 fun p hp => h5.wr.fresh hp
            by_cases hj : j < zs.length
            · have gj := List.getElem?_eq_getElem hj
              obtain ⟨f1, f2⟩ := go1 j _ gj
              rw [List.drop_eq_getElem_cons hj, compL_cons] at eq5
              cases u1 : gPat p2 zs[j] (wipeE env1 vs1) with
              | none => rw [u1] at eq5; simp only [Res.bind] at eq5; rw [eq5] at eq; simp only at eq; rw [eq] at o1; exact o1.elim
              | some env2 =>
              rw [u1] at eq5
              cases u2 : t2 env2 S5 with
              | stuck => simp only [u2, noX, Res.bind] at eq5; rw [eq5] at eq; simp only at eq; rw [eq] at o1; exact o1.elim
              | exc x S6 => simp only [u2, noX, Res.bind] at eq5; rw [eq5] at eq; simp only at eq; rw [eq] at o1; exact o1.elim
              | ok b2 S6 =>
              simp only [u2, noX, Res.bind] at eq5
              refine .inr ⟨f1, fun Hn => ∃ (α5 : AM) (S5 : Store) (ys : List PyData) (vs : List V), ys.length ≤ j + 1 ∧ Here X α5 Hn (wipe σ3 vs1) (wipeE env1 vs1) S5 ∧ re0 α5 Hn ∧ Blk X α1 H1 D α5 Hn vs (acc ++ ys) ∧ Keep α4 H4 α5 Hn ∧
                compL p2 t2 f (wipeE env1 vs1) zs S4 = (compL p2 t2 f (wipeE env1 vs1) (zs.drop (j + 1)) S5).bind fun zs' S' => .ok (ys ++ zs') S', fun H' ⟨a, b, c, d, h1, r⟩ => ⟨k - 1, by omega, a, b, c, d, by omega, h1, r⟩, fun v2 H6 hy2 => ?_⟩
              obtain ⟨rv2, up2⟩ := f2 v2 H6 hy2
              have eu2 : Ext α5 Hd α5 H6 := Ext.up h5.wr up2
              refine ⟨α5, wipeE env1 vs1, S5, _, env2, ⟨h5.re.ext eu2, h5.wr.up up2⟩, rv2, u1, fun σ4 h6 ag2 => ⟨agr_wipe hp2 ag2, α5, env2, S5, h6, ?_⟩⟩
              rw [u2]
              intro α6 H7 e6 w6
              have eb : Ext α5 Hd α6 H7 := eu2.trans e6
              have kp6 : Keep α4 H4 α6 H7 := fun a u hu hn => let ⟨z1, z2⟩ := kp5 a u hu hn; eb.keep a u z1 z2
              cases b2 with
              | false =>
                simp only [Bool.false_eq_true, if_false] at eq5 ⊢
                exact ⟨α6, S6, ys, vs5, by omega, ⟨h5.re.ext eb, w6⟩, r5.ext eb, bl5.ext eb, kp6, eq5⟩
              | true =>
                simp only [if_true] at eq5 ⊢
                refine ⟨α6, env2, S6, h6.ext X e6 w6, ?_⟩
                cases u3 : f env2 S6 with
                | stuck => simp only [u3, noX, Res.bind] at eq5; rw [eq5] at eq; simp only at eq; rw [eq] at o1; exact o1.elim
                | exc x S7 => simp only [u3, noX, Res.bind] at eq5; rw [eq5] at eq; simp only at eq; rw [eq] at o1; exact o1.elim
                | ok d S7 =>
                  simp only [u3, noX, Res.bind] at eq5
                  cases d with
                  | v y =>
                    intro α7 H8 e7 w7 u ru
                    have e57 : Ext α5 Hd α7 H8 := eb.trans e7
                    have bl7 := bl5.ext e57
                    have gk : ∀ {o : HO}, Keep α7 H8 α7 (upd H8 D o) := fun {o} => Keep.grow bl7.mem
                    have ln := bl7.2.2.1.length
                    rw [List.length_append] at ln
                    refine ⟨vs5, bl7.2.1, by rw [ln, sizeLine_eq]; omega, α7, S7, ys ++ [y], vs5 ++ [u], by rw [List.length_append, List.length_singleton]; omega, ⟨(h5.re.ext e57).keepK gk (fun n x q => .inl q), w7.grow bl7.mem⟩, (RE.ext e57 r5).keepK gk (fun n x q => .inl q), by rw [← List.append_assoc]; exact bl7.push w1 hD ru, fun a u hu hn => ?_, ?_⟩
                    · obtain ⟨z1, z2⟩ := kp5 a u hu hn
                      obtain ⟨y1, y2⟩ := e57.keep a u z1 z2
                      exact gk a u y1 y2
                    · rw [eq5]
                      cases compL p2 t2 f (wipeE env1 vs1) (zs.drop (j + 1)) S7 with
                      | ok zs' S8 => simp only [Res.bind, List.append_assoc, List.singleton_append]
                      | exc x S8 => rfl
                      | stuck => rfl
                  | _ => simp only [Res.bind] at eq5; rw [eq5] at eq; simp only at eq; rw [eq] at o1; exact o1.elim
            · have e : j = zs.length := by omega
              subst e
              rw [List.drop_length] at eq5
              simp only [compL, Res.bind, List.append_nil] at eq5
              rw [eq5] at eq
              simp only at eq
              exact .inl ⟨stop1, α5, S5, acc ++ ys, vs5, by rw [List.length_append]; omega, ⟨r5, h5.wr⟩, bl5, eq⟩
      · have e : i = xs.length := by omega
        subst e
        rw [List.drop_length] at eq
        simp only [comp2] at eq
        rw [eq] at o1
        obtain ⟨b1, b2, b3, b4, b5, b6⟩ := bl
        exact .inl ⟨stop, hfin α1 H1 α2 Hc acc S2 vs D (h2.wr.pw.trans w1.pw.symm) h2.wr b1 hD (w1.fresh hD) b2 b3 b4 b5 b6 o1⟩
  cases hr : i env S with
  | ok xs S1 => rw [hr] at ob; exact fun α1 H1 e1 w1 J hJ D hD => key e1 w1 (ob α1 H1 e1 w1) J hJ D hD
  | exc x S1 => rw [hr] at ob; exact ob
  | stuck => rw [hr] at ob; exact ob
section
variable {elt iter iter1 : Expr} {ifs ifs1 : List Expr} {scope : Scope} {p p2 : Pat} {i i2 : FI} {t t2 : FT} {f : FE}
theorem pe_dlc2 {own : List (Str × Nat)} {vs1 : List Nat} (hc : X.calm = true) (hN : X.N.Nodup) (hi : DI X RX W tg iter i) (ok : BlkOk X.N X.env.scope scope own) (hv : ∀ i ∈ vs1, i ∈ own.map (·.2))
    (hg : ∀ (s : Shared) (H : Hp) (C : Addr) (cl : List (Str × Addr)) (fp : List Addr), DG (blkX X s H scope C cl fp) tg p) (ht : ∀ (s : Shared) (H : Hp) (C : Addr) (cl : List (Str × Addr)) (fp : List Addr), PTsD (blkX X s H scope C cl fp) RX WF ifs t)
    (hi1 : ∀ (s : Shared) (H : Hp) (C : Addr) (cl : List (Str × Addr)) (fp : List Addr), DI (blkX X s H scope C cl fp) RX WF tg1 iter1 i2)
    (hg1 : ∀ (s : Shared) (H : Hp) (C : Addr) (cl : List (Str × Addr)) (fp : List Addr), DG (blkX X s H scope C cl fp) tg1 p2) (ht1 : ∀ (s : Shared) (H : Hp) (C : Addr) (cl : List (Str × Addr)) (fp : List Addr), PTsD (blkX X s H scope C cl fp) RX WF ifs1 t2)
    (he : ∀ (s : Shared) (H : Hp) (C : Addr) (cl : List (Str × Addr)) (fp : List Addr), DE (blkX X s H scope C cl fp) RX WF elt f) (hs : ∀ x, foldedSetIterable iter X.env x = pure x) (hs1 : ∀ env x, foldedSetIterable iter1 env x = pure x) :
    PE X (.ListComp elt [⟨tg, iter, ifs, 0⟩, ⟨tg1, iter1, ifs1, 0⟩] scope pos) (tLc2 (tI X RX W i (IterOk X)) (tG X p) (tT X RX WF t) (tI X RX WF i2 (IterOk X)) (tG X p2) (tT X RX WF t2) (tE X RX WF f) (own.map (·.2)) vs1) :=
  pe_lc2 hc hN hi ok hv hg (fun s H C cl fp => (ht s H C cl fp).run) hi1 hg1 (fun s H C cl fp => (ht1 s H C cl fp).run) he hs hs1
theorem de_lc2 (own : List (Str × Nat)) (vs1 : List Nat) (hc : X.calm = true) (hN : X.N.Nodup) (hi : DI X RX W tg iter i) (ok : BlkOk X.N X.env.scope scope own) (hv : ∀ i ∈ vs1, i ∈ own.map (·.2))
    (hg : ∀ (s : Shared) (H : Hp) (C : Addr) (cl : List (Str × Addr)) (fp : List Addr), DG (blkX X s H scope C cl fp) tg p) (ht : ∀ (s : Shared) (H : Hp) (C : Addr) (cl : List (Str × Addr)) (fp : List Addr), PTsD (blkX X s H scope C cl fp) RX WF ifs t)
    (hi1 : ∀ (s : Shared) (H : Hp) (C : Addr) (cl : List (Str × Addr)) (fp : List Addr), DI (blkX X s H scope C cl fp) RX WF tg1 iter1 i2)
    (hg1 : ∀ (s : Shared) (H : Hp) (C : Addr) (cl : List (Str × Addr)) (fp : List Addr), DG (blkX X s H scope C cl fp) tg1 p2) (ht1 : ∀ (s : Shared) (H : Hp) (C : Addr) (cl : List (Str × Addr)) (fp : List Addr), PTsD (blkX X s H scope C cl fp) RX WF ifs1 t2)
    (he : ∀ (s : Shared) (H : Hp) (C : Addr) (cl : List (Str × Addr)) (fp : List Addr), DE (blkX X s H scope C cl fp) RX WF elt f) (hp : ∀ j ∈ p.slots, j ∈ own.map (·.2)) (hp2 : ∀ j ∈ p2.slots, j ∈ vs1) (hs : ∀ x, foldedSetIterable iter X.env x = pure x := by intro _; rfl) (hs1 : ∀ env x, foldedSetIterable iter1 env x = pure x := by intro _ _; rfl) :
    DE X RX W (.ListComp elt [⟨tg, iter, ifs, 0⟩, ⟨tg1, iter1, ifs1, 0⟩] scope pos) (dLc2 (own.map (·.2)) p i t vs1 p2 i2 t2 f) :=
  peW (pe_dlc2 hc hN hi ok hv hg ht hi1 hg1 ht1 he hs hs1) fun σ H Q ⟨α, env, S, h, o⟩ => lc2_read hp hp2 h o fin_lst
theorem ds_setLc2 {j : Nat} {y : Str} {py lpos : Pos} (own : List (Str × Nat)) (vs1 : List Nat) (hc : X.calm = true) (hN : X.N.Nodup) (hi : DI X RX W tg iter i) (ok : BlkOk X.N X.env.scope scope own) (hv : ∀ i ∈ vs1, i ∈ own.map (·.2))
    (hg : ∀ (s : Shared) (H : Hp) (C : Addr) (cl : List (Str × Addr)) (fp : List Addr), DG (blkX X s H scope C cl fp) tg p) (ht : ∀ (s : Shared) (H : Hp) (C : Addr) (cl : List (Str × Addr)) (fp : List Addr), PTsD (blkX X s H scope C cl fp) RX WF ifs t)
    (hi1 : ∀ (s : Shared) (H : Hp) (C : Addr) (cl : List (Str × Addr)) (fp : List Addr), DI (blkX X s H scope C cl fp) RX WF tg1 iter1 i2)
    (hg1 : ∀ (s : Shared) (H : Hp) (C : Addr) (cl : List (Str × Addr)) (fp : List Addr), DG (blkX X s H scope C cl fp) tg1 p2) (ht1 : ∀ (s : Shared) (H : Hp) (C : Addr) (cl : List (Str × Addr)) (fp : List Addr), PTsD (blkX X s H scope C cl fp) RX WF ifs1 t2)
    (he : ∀ (s : Shared) (H : Hp) (C : Addr) (cl : List (Str × Addr)) (fp : List Addr), DE (blkX X s H scope C cl fp) RX WF elt f) (hp : ∀ j ∈ p.slots, j ∈ own.map (·.2)) (hp2 : ∀ j ∈ p2.slots, j ∈ vs1)
    (hsw : swapsWith (.ListComp elt [⟨tg, iter, ifs, 0⟩, ⟨tg1, iter1, ifs1, 0⟩] scope lpos) (some (.Name y py)) pos.line X.env = pure true) (hy : X.N[j]? = some y := by rfl) (hyl : X.env.scope.names.lookup y = some .local := by rfl)
    (hs : ∀ x, foldedSetIterable iter X.env x = pure x := by intro _; rfl) (hs1 : ∀ env x, foldedSetIterable iter1 env x = pure x := by intro _ _; rfl) :
    DS X RX W (.Assign [.Name y py] (.ListComp elt [⟨tg, iter, ifs, 0⟩, ⟨tg1, iter1, ifs1, 0⟩] scope lpos) pos) (sSet j (dLc2 (own.map (·.2)) p i t vs1 p2 i2 t2 f)) :=
  psW (ps_setLc2 hc hN hy hyl hsw hi ok hv hg (fun s H C cl fp => (ht s H C cl fp).run) hi1 hg1 (fun s H C cl fp => (ht1 s H C cl fp).run) he hs hs1) fun D σ H ⟨α, env, S, h, o⟩ => lc2_read hp hp2 h (want_set h o) fin_lst
theorem de_lc2C (own : List (Str × Nat)) (vs1 : List Nat) (hc : X.calm = true) (hN : X.N.Nodup) (hi : DI X RX W tg iter i) (ok : BlkOk X.N X.env.scope scope own) (hv : ∀ i ∈ vs1, i ∈ own.map (·.2))
    (hg : ∀ (s : Shared) (H : Hp) (C : Addr) (cl : List (Str × Addr)) (fp : List Addr), DG (blkX X s H scope C cl fp) tg p) (ht : ∀ (s : Shared) (H : Hp) (C : Addr) (cl : List (Str × Addr)) (fp : List Addr), PTsD (blkX X s H scope C cl fp) RX WF ifs t)
    (hi1 : ∀ (s : Shared) (H : Hp) (C : Addr) (cl : List (Str × Addr)) (fp : List Addr), DI (blkX X s H scope C cl fp) RX WF tg1 iter1 i2)
    (hg1 : ∀ (s : Shared) (H : Hp) (C : Addr) (cl : List (Str × Addr)) (fp : List Addr), DG (blkX X s H scope C cl fp) tg1 p2) (ht1 : ∀ (s : Shared) (H : Hp) (C : Addr) (cl : List (Str × Addr)) (fp : List Addr), PTsD (blkX X s H scope C cl fp) RX WF ifs1 t2)
    (he : ∀ (s : Shared) (H : Hp) (C : Addr) (cl : List (Str × Addr)) (fp : List Addr), DE (blkX X s H scope C cl fp) RX WF elt f) (hp : ∀ j ∈ p.slots, j ∈ own.map (·.2)) (hp2 : ∀ j ∈ p2.slots, j ∈ vs1) (hs : ∀ x, foldedSetIterable iter X.env x = pure x := by intro _; rfl) (hs1 : ∀ env x, foldedSetIterable iter1 env x = pure x := by intro _ _; rfl) :
    DE X RX W (.ListComp elt [⟨tg, iter, ifs, 0⟩, ⟨tg1, iter1, ifs1, 0⟩] scope pos) (dLc2C (own.map (·.2)) p i t vs1 p2 i2 t2 f) :=
  peW (pe_dlc2 hc hN hi ok hv hg ht hi1 hg1 ht1 he hs hs1) fun σ H Q ⟨α, env, S, h, o⟩ => lc2_read hp hp2 h o fin_cell
theorem ds_setLc2C {j : Nat} {y : Str} {py lpos : Pos} (own : List (Str × Nat)) (vs1 : List Nat) (hc : X.calm = true) (hN : X.N.Nodup) (hi : DI X RX W tg iter i) (ok : BlkOk X.N X.env.scope scope own) (hv : ∀ i ∈ vs1, i ∈ own.map (·.2))
    (hg : ∀ (s : Shared) (H : Hp) (C : Addr) (cl : List (Str × Addr)) (fp : List Addr), DG (blkX X s H scope C cl fp) tg p) (ht : ∀ (s : Shared) (H : Hp) (C : Addr) (cl : List (Str × Addr)) (fp : List Addr), PTsD (blkX X s H scope C cl fp) RX WF ifs t)
    (hi1 : ∀ (s : Shared) (H : Hp) (C : Addr) (cl : List (Str × Addr)) (fp : List Addr), DI (blkX X s H scope C cl fp) RX WF tg1 iter1 i2)
    (hg1 : ∀ (s : Shared) (H : Hp) (C : Addr) (cl : List (Str × Addr)) (fp : List Addr), DG (blkX X s H scope C cl fp) tg1 p2) (ht1 : ∀ (s : Shared) (H : Hp) (C : Addr) (cl : List (Str × Addr)) (fp : List Addr), PTsD (blkX X s H scope C cl fp) RX WF ifs1 t2)
    (he : ∀ (s : Shared) (H : Hp) (C : Addr) (cl : List (Str × Addr)) (fp : List Addr), DE (blkX X s H scope C cl fp) RX WF elt f) (hp : ∀ j ∈ p.slots, j ∈ own.map (·.2)) (hp2 : ∀ j ∈ p2.slots, j ∈ vs1)
    (hsw : swapsWith (.ListComp elt [⟨tg, iter, ifs, 0⟩, ⟨tg1, iter1, ifs1, 0⟩] scope lpos) (some (.Name y py)) pos.line X.env = pure true) (hy : X.N[j]? = some y := by rfl) (hyl : X.env.scope.names.lookup y = some .local := by rfl)
    (hs : ∀ x, foldedSetIterable iter X.env x = pure x := by intro _; rfl) (hs1 : ∀ env x, foldedSetIterable iter1 env x = pure x := by intro _ _; rfl) :
    DS X RX W (.Assign [.Name y py] (.ListComp elt [⟨tg, iter, ifs, 0⟩, ⟨tg1, iter1, ifs1, 0⟩] scope lpos) pos) (sSet j (dLc2C (own.map (·.2)) p i t vs1 p2 i2 t2 f)) :=
  psW (ps_setLc2 hc hN hy hyl hsw hi ok hv hg (fun s H C cl fp => (ht s H C cl fp).run) hi1 hg1 (fun s H C cl fp => (ht1 s H C cl fp).run) he hs hs1) fun D σ H ⟨α, env, S, h, o⟩ => lc2_read hp hp2 h (want_set h o) fin_cell
end
end
end G

set_option Elab.async false
set_option linter.all false
set_option autoImplicit false
set_option maxRecDepth 100000
/-! sorting tuples of which some are empty -/
namespace G
open PySem PySem.Calls PyProof.Rows PySem.W PySem.SeqAt
def Fsts (h : Heap) : List Value → List (Option Value) → Prop
  | [], [] => True
  | v :: vs, f :: fs => (∃ a o xs n, v = .ref a ∧ h.get? a = some o ∧ o.cls = .type "tuple" ∧ o.data = .seq xs n ∧ xs[0]? = f) ∧ Fsts h vs fs
  | _, _ => False
section
variable {M : Model} {A : Around} {E : Value → Shared → Prop} {s : Shared}
theorem fsts_run : ∀ (vs : List Value) (fs : List (Option Value)) {Q : List (Option Value) → Shared → Prop}, Fsts s.heap vs fs → Q fs s → wpAny M A (vs.mapM firstOfTuple') Q E s
  | [], [], _, _, h => by rw [List.mapM_nil]; exact wpAny_pure h
  | [], _ :: _, _, t, _ => t.elim
  | _ :: _, [], _, t, _ => t.elim
  | v :: vs, f :: fs, Q, t, h => by
    obtain ⟨⟨a, o, xs, n, rfl, ho, hc, hd, hf⟩, t⟩ := t
    rw [List.mapM_cons]
    refine wpAny_bind ?_
    rw [kas_first_eq]
    refine wpAny_bind (Looks.here (show Looks M s.heap (typeOf (.ref a)) o.cls from (Looks.ld ho).andThen .now) ?_)
    rw [hc, if_neg (by first | decide | simp)]
    refine wpAny_bind (listItems_at ho hd (wpAny_pure ?_))
    rw [hf]
    exact wpAny_bind (fsts_run vs fs (Q := fun bs s' => wpAny M A (pure (f :: bs)) Q E s') t (wpAny_pure h))
theorem fsts_kind {vs : List Value} {fs : List (Option Value)} {Q : SortKind → Shared → Prop} (t : Fsts s.heap vs fs) (h2 : 2 ≤ vs.length) (hT : ∀ v ∈ vs, Looks M s.heap (typeOf v) (.type "tuple")) (hno : (fs.all fun x => x.isSome) = false)
    (h : Q (if (fs[0]?.bind id).isSome then general' else oneType') s) : wpAny M A (keyKind' vs.toArray) Q E s := by
  obtain ⟨v₁, v₂, rest, rfl⟩ : ∃ v₁ v₂ rest, vs = v₁ :: v₂ :: rest := by
    match vs, h2 with
    | [], h2 => simp at h2
    | [_], h2 => simp at h2
    | v₁ :: v₂ :: rest, _ => exact ⟨v₁, v₂, rest, rfl⟩
  rw [keyKind'_eq, List.mapM_toArray, map_eq_pure_bind]
  refine wpAny_bind (wpAny_bind (fsts_run _ _ t (wpAny_pure ?_)))
  rw [if_neg (by simp only [List.all_toArray, hno]; decide)]
  have e0 : fs.toArray[0]? = fs[0]? := by simp
  rw [e0]
  by_cases hf : (fs[0]?.bind id).isSome = true
  · rw [if_pos hf] at h ⊢
    exact wpAny_pure h
  · rw [if_neg hf] at h ⊢
    rw [oneTypeOnly'_eq, List.mapM_toArray, map_eq_pure_bind]
    refine wpAny_bind (wpAny_bind (wpAny_bind (kas_mapM (r := Value.type "tuple") _ (fun v hv Q' hq => (hT v hv).here hq) (wpAny_pure ?_))))
    have hall : ((List.map (fun _ => Value.type "tuple") (v₁ :: v₂ :: rest)).toArray.all fun x => x == Value.type "tuple") = true := by
      simp only [List.all_toArray, List.all_map, List.all_eq_true]
      intro _ _
      exact beq_self_eq_true _
    have h0 : (List.map (fun _ => Value.type "tuple") (v₁ :: v₂ :: rest)).toArray[0]? = some (Value.type "tuple") := by simp
    rw [h0]
    simp only [hall, if_true]
    exact wpAny_pure (wpAny_pure h)
end
section
variable {prog : Program} {w : World} {A : Around} {E : Value → Shared → Prop} {s : Shared}
theorem call_tuple_lt {Q : Value → Shared → Prop} {l b : Addr} {items items2 : Array Value} {e r : Nat → Bool} (hl : s.heap.IsTuple l items) (hb : s.heap.IsTuple b items2)
    (he : ∀ j (h1 : j < items.size) (h2 : j < items2.size), EqAt A.in1 s items[j] items2[j] (e j)) (hr : ∀ j (h1 : j < items.size) (h2 : j < items2.size), e j = false → RcLt A.in1 s items[j] items2[j] (r j))
    (h : Q (.bool (firstLt e r (decide (items.size < items2.size)) (List.range (min items.size items2.size)))) s) : wpAny (model prog w) A (call (.builtin "tuple.__lt__") [.ref l, .ref b]) Q E s := by
  obtain ⟨⟨cls, dd, data, sl⟩, ho, hc, n, hd⟩ := id hl
  obtain ⟨⟨cls2, dd2, data2, sl2⟩, ho2, hc2, n2, hd2⟩ := id hb
  simp only at hc hd hc2 hd2
  subst hc hd hc2 hd2
  exact call_meets F.slot_tuple_lt ⟨_, ho, rfl⟩ F.entry_tuple_lt (F.args_tuple_lt_2 _ _) (tuple_ltAt l b items items2 n n2 dd dd2 sl sl2 e r) ⟨ho, ho2, he, hr, h⟩
theorem oneLt_tuples {xs ys : List PyData} {a b : Value} {as bs : List Addr} {Q : Bool → Shared → Prop} (ra : Reads s.heap a (.tuple xs) as) (rb : Reads s.heap b (.tuple ys) bs) (hal : alikeAll xs ys = true)
    (hu : A.units + min (PyData.tuple xs).depth (PyData.tuple ys).depth < cLine) (hq : Q (dataLt (.tuple xs) (.tuple ys)) s) : wpAny (model prog w) A (oneLt' true a b) Q E s := by
  cases ra with
  | @tuple l o vs n _ as₁ h1 h2 h3 h4 =>
    cases rb with
    | @tuple l' o' vs' n' _ bs₁ k1 k2 k3 k4 =>
      have n1 : vs.size = xs.length := by simpa using SeqAt.ReadsAll.length _ _ _ h4
      have n2 : vs'.size = ys.length := by simpa using SeqAt.ReadsAll.length _ _ _ k4
      rw [dataLt_tuple, ← firstLt_toks xs ys hal, ← n1, ← n2] at hq
      rw [oneLt'_eq]
      simp only [if_true]
      refine wpAny_bind (wpAny_cRoomFor (room_here hu) ?_)
      refine wpAny_bind (wpAny_callSpecialIfBound?_slot (T := "tuple") ⟨_, h1, h2⟩ F.slot_tuple_lt (call_tuple_lt (e := pairEq xs ys) (r := fun j => dataLt (xs.getD j .none) (ys.getD j .none)) ⟨_, h1, h2, _, h3⟩ ⟨_, k1, k2, _, k3⟩ (fun j j1 j2 => ?_) (fun j j1 j2 hj => ?_) ?_))
      · have := eqAt_alikeAll xs ys A.in1 s vs.toList vs'.toList _ _ h4 k4 hal (room_in hu) j (by simpa using j1) (by simpa using j2)
        simpa using this
      · have := rcLt_alikeAll xs ys A.in1 s vs.toList vs'.toList _ _ h4 k4 hal (room_in hu) j (by simpa using j1) (by simpa using j2) hj
        simpa using this
      · exact wpAny_truthy_bool hq
theorem fsts_of {h : Heap} : ∀ {vs : List Value} {ds : List PyData}, EachIs (fun v d => ∃ as, Reads h v d as) vs ds → (∀ d ∈ ds, ∃ xs, d = .tuple xs) → ∃ fs, Fsts h vs fs ∧ (fs.all fun x => x.isSome) = ds.all isTup1
  | _, _, .nil, _ => ⟨[], trivial, rfl⟩
  | _, _, .cons (b := d) ⟨as, r⟩ t, ht => by
    obtain ⟨fs, h1, h2⟩ := fsts_of t fun d hd => ht d (List.mem_cons_of_mem _ hd)
    obtain ⟨xs, rfl⟩ := ht d List.mem_cons_self
    cases r with
    | @tuple a o vs n _ _ ho hc hd hr =>
      refine ⟨vs[0]? :: fs, ⟨⟨a, o, vs, n, rfl, ho, hc, hd, rfl⟩, h1⟩, ?_⟩
      rw [List.all_cons, List.all_cons, h2]
      congr 1
      cases q : vs.toList with
      | nil =>
        rw [q] at hr
        cases hr
        have : vs[0]? = none := by rw [← Array.getElem?_toList, q]; rfl
        rw [this]; rfl
      | cons f fr =>
        rw [q] at hr
        cases hr with
        | cons r1 r2 =>
          have : vs[0]? = some f := by rw [← Array.getElem?_toList, q]; rfl
          rw [this]; rfl
theorem sortsAt_tuples {vs : List Value} {ds : List PyData} (e : EachIs (fun v d => ∃ as, Reads s.heap v d as) vs ds) (hal : AllAlike ds) (ht : ∀ d ∈ ds, ∃ xs, d = .tuple xs) (hno : ds.all isTup1 = false) (hu : ∀ d, d ∈ ds → A.units + d.depth < cLine) : SortsAt prog w A s (dataKind s.heap ds) vs := by
  have room : ∀ {d d' : PyData}, d ∈ ds → A.units + min d.depth d'.depth < cLine := fun {d d'} hd => Nat.lt_of_le_of_lt (Nat.add_le_add_left (Nat.min_le_left _ _) _) (hu d hd)
  obtain ⟨fs, hf, hall⟩ := fsts_of e ht
  refine ⟨fun v hv => ?_, if (fs[0]?.bind id).isSome then general' else oneType', ?_, fun h2 E Q hq => ?_⟩
  · obtain ⟨d, hd, as, r⟩ := e.left v hv
    exact ⟨_, dataKind_some hal hd r⟩
  · intro E x y a b Q ha hb hq
    obtain ⟨d, as, hd, ra, rfl⟩ := dataKind_inv ha
    obtain ⟨d', as', hd', rb, rfl⟩ := dataKind_inv hb
    have hdd := hal d hd d' hd'
    have hroom := room (d' := d') hd
    obtain ⟨xs, rfl⟩ := ht d hd
    obtain ⟨ys, rfl⟩ := ht d' hd'
    by_cases hg : (fs[0]?.bind id).isSome = true
    · rw [if_pos hg]
      show wpAny _ _ (oneLt' false x y) _ _ _
      exact oneLt_alike (fun h => absurd h (by decide)) ra rb hdd (fun h => by cases h) hroom hq
    · rw [if_neg hg, keyLt'_oneType]
      exact oneLt_tuples ra rb (by simpa [alike] using hdd) hroom hq
  · refine fsts_kind hf h2 (fun v hv => ?_) (hall.trans hno) hq
    obtain ⟨d, hd, as, r⟩ := e.left v hv
    obtain ⟨xs, rfl⟩ := ht d hd
    exact looks_reads r
end
/-! the calls -/
def SortE (ds : List PyData) : Prop := (∀ d, d ∈ ds → ∃ xs, d = .tuple xs) ∨ ∀ d, d ∈ ds → d ≠ .none ∧ ∀ xs, d ≠ .tuple xs
theorem sortsAtE {prog : Program} {w : World} {A : Around} {s : Shared} {vs : List Value} {ds : List PyData} (e : EachIs (fun v d => ∃ as, Reads s.heap v d as) vs ds) (hal : AllAlike ds) (hk : SortE ds) (hu : ∀ d, d ∈ ds → A.units + d.depth < cLine) : SortsAt prog w A s (dataKind s.heap ds) vs := by
  rcases hk with ht | hn
  · cases h : ds.all isTup1 with
    | true =>
      refine SortsAt.data e hal (.inl fun d hd => ?_) hu
      have := List.all_eq_true.mp h d hd
      unfold isTup1 at this
      split at this
      · exact ⟨_, _, rfl⟩
      · cases this
    | false => exact sortsAt_tuples e hal ht h hu
  · exact SortsAt.data e hal (.inr hn) hu
section
variable {prog : Program} {w : World} {A : Around} {E : Value → Shared → Prop} {s : Shared} {β : Type} {vs : List Value} {bs : List β} {enc : β → PyData} {R : Value → β → Prop}
theorem list_sort_dataE {a : Addr} {n : Nat}
    {Q : Value → Shared → Prop} (ho : s.heap.get? a = some (seqObj "list" vs.toArray n)) (e : EachIs R vs bs) (er : EachIs (fun v b => ∃ as, Reads s.heap v (enc b) as ∧ a ∉ as) vs bs) (hal : AllAlike (bs.map enc)) (hk : SortE (bs.map enc))
    (hL : bs.length ≤ sizeLine)
    (hu : ∀ b, b ∈ bs → A.units + 1 + (enc b).depth < cLine)
    (h : ∀ out, out.length = bs.length → EachIs R out (bs.mergeSort (dataLe false enc)) → Q .none { s with heap := sortedHeap s.heap a vs (List.toArray out) }) :
    wpAny (model prog w) A (call (.builtin "list.sort") [.ref a]) Q E s := by
  have er' : EachIs (fun v b => ∃ as, Reads (sortingHeap s.heap a vs) v (enc b) as) vs bs := each_keepBut (h' := sortingHeap s.heap a vs) (fun _ _ hb2 q => sortingHeap_old hb2 q) (fun o q2 => by rw [ho] at q2; rw [← Option.some.inj q2]) hal er
  refine wpAny_call_entry slot_list_sort ⟨_, ho, rfl⟩
    entry_list_sort (list_sort_vals (κ := dataKind (sortingHeap s.heap a vs) (bs.map enc)) ho (sortsAtE (s := { s with heap := (sortingHeap s.heap a vs) }) (each_map (R := fun v d => ∃ as, Reads (sortingHeap s.heap a vs) v d as) enc er') hal hk (bound_map hu)) (by rw [e.length]; exact hL) ⟨.none, rfl, ?_⟩) (args_list_sort _)
  exact h _ (by rw [sortVals_length false rfl]
                exact e.length) (sortVals_data false e er' hal)
end
end G
namespace G
open PySem PySem.Calls PySem.Spec PyProof.Rows L2
def sortOkE (xs : List PyData) : Bool := allAlikeB xs && (xs.all isTup || xs.all fun y => !isNone y && !isTup y) && xs.all shallow
def opSortedE : Op := fun ds S => match ds with
  | [d] => (match seqOf S d with
    | some xs => if sortOkE xs && decide (xs.length ≤ 16777216) then .ok (.v (.list (sortD xs))) S else .stuck
    | none => .stuck)
  | _ => .stuck
def opSortedTE : Op := fun ds S => match ds with
  | [d] => (match dtOf S d with
    | some kvs => if sortOkE (kvs.map (·.1)) then .ok (.v (.list (sortD (kvs.map (·.1))))) S else .stuck
    | none => .stuck)
  | _ => .stuck
section
variable {X : Cx} {RX : RXT} {W : WX} {α α' : AM} {H H' : Hp} {σ : St} {S S' : Store} {env : DEnv} {pos : Pos}
theorem sort_newE {pins : List (Addr × Obj)} {s : Shared} {vs : List Value} {xs : List PyData} {Q : VK} (hu : X.A.units + 70 < cLine) (I1 : Inv X pins σ H s) (er : PySem.W.EachIs (fun u x => ∃ y, RelV y u ∧ Rp X.K α H y x) vs xs) (hs : sortOkE xs = true) (hl : xs.length ≤ sizeLine)
    (wr : WR X.prog X.w X.K α H S) (o : Want X RX W α H σ (.ok (.v (.list (sortD xs))) S) Q) :
    wpAny (model X.prog X.w) X.A.in1 (call (.builtin "list.sort") [.ref s.heap.objs.size]) (fun _ s' => EP X pins σ Q (.ref s.heap.objs.size) s') X.xe { s with heap := s.heap.push { cls := .type "list", data := .seq vs.toArray } } := by
  unfold sortOkE at hs
  rw [Bool.and_eq_true, Bool.and_eq_true] at hs
  obtain ⟨⟨ha, hk⟩, hd⟩ := hs
  have kp2 : ∀ b o, s.heap.get? b = some o → (s.heap.push { cls := .type "list", data := .seq vs.toArray }).get? b = some o := fun b o e => Heap.get?_push_of_some _ e
  have hD : (s.heap.push { cls := .type "list", data := .seq vs.toArray }).get? s.heap.objs.size = some (seqObj "list" vs.toArray 0) := Heap.get?_push_size _ rfl
  have er2 : PySem.W.EachIs (fun u x => ∃ as, Reads (s.heap.push { cls := .type "list", data := .seq vs.toArray }) u (id x) as ∧ s.heap.objs.size ∉ as) vs xs := each_imp (fun u x ⟨y, ry, q⟩ => by
    obtain ⟨as, r1⟩ := Dp.reads I1 x y u q.dp ry
    refine ⟨as, Reads.keeps kp2 r1, fun hm => ?_⟩
    obtain ⟨o1, e1⟩ := PyProof.On.reads_mem_get r1 _ hm
    exact absurd (Heap.lt_size e1) (Nat.lt_irrefl _)) er
  refine list_sort_dataE (s := { s with heap := s.heap.push { cls := .type "list", data := .seq vs.toArray } }) (R := fun u x => ∃ y, RelV y u ∧ Rp X.K α H y x) (enc := id) hD er er2 ?_ ?_ ?_ ?_ ?_
  · rw [List.map_id]; exact allAlike_of ha
  · rw [List.map_id]
    rw [Bool.or_eq_true] at hk
    rcases hk with hk | hk
    · refine .inl fun d hd => ?_
      have := List.all_eq_true.mp hk d hd
      unfold isTup at this
      split at this
      · exact ⟨_, rfl⟩
      · cases this
    · refine .inr fun d hd => ?_
      have := List.all_eq_true.mp hk d hd
      rw [Bool.and_eq_true] at this
      refine ⟨fun e => ?_, fun xs e => ?_⟩
      · subst e; exact absurd this.1 (by decide)
      · subst e; exact absurd this.2 (by simp [isTup])
  · exact hl
  · intro b hb
    have := of_decide_eq_true (List.all_eq_true.mp hd b hb)
    show X.A.units + 1 + 1 + (id b).depth < cLine
    show X.A.units + 1 + 1 + b.depth < cLine
    omega
  · intro out ho2 eo
    obtain ⟨ws, w1, w2⟩ := each_back eo
    obtain ⟨e, he'⟩ := sortedHeap_at (vs := vs) (out := out.toArray) hD
    have hp : H s.heap.objs.size = none := I1.hok.fresh (Nat.le_refl _)
    have hlen2 : ws.length ≤ sizeLine := by rw [w1.length, ho2]; exact hl
    rw [sortD_eq] at o
    refine ⟨.ref _, upd H s.heap.objs.size (.lst ws), I1.laid (t' := s.toks) (fun b u e => ?_) (Nat.le_refl _) ⟨hlen2, out, e, w1, he'⟩, rfl, o.newL wr w2 hp⟩
    exact (sortedHeap_old (Nat.ne_of_lt (Heap.lt_size e)) (Heap.lt_size (kp2 _ _ e))).trans (kp2 _ _ e)
theorem cd_sortedE (hu : X.A.units + 70 < cLine) : CallD X RX W (.builtin "sorted") opSortedE := by
  intro pins s σ α H S vs us ds Q I rv wr rd o
  unfold opSortedE at o
  split at o
  · obtain ⟨v, rfl, r⟩ := RepDs.inv1 rd
    split at o
    · rename_i xs hx
      split at o
      · rename_i hs
        rw [Bool.and_eq_true] at hs
        have hl : xs.length ≤ sizeLine := by rw [sizeLine_eq]; exact of_decide_eq_true hs.2
        obtain ⟨a, ys, rfl, h1, h2⟩ := seq_sq wr r hx
        rw [Vals.ref1 rv]
        have core : ∀ (its : Array Value), Vals ys its.toList → ∀ (T : String) (ob : Obj) (n : Nat), T = "list" ∨ T = "tuple" → s.heap.get? a = some ob → ob.cls = .type T → ob.data = .seq its n →
            wpAny (model X.prog X.w) X.A (call (.builtin "sorted") [.ref a]) (EP X pins σ Q) X.xe s := fun its rits T ob n hT ho hcl hdt => by
          have il : its.size ≤ sizeLine := by
            have e1 := rits.length
            have e2 := h2.length
            have e3 : its.toList.length = its.size := Array.length_toList
            omega
          refine call_function_entry kind_sorted plain_sorted entry_sorted (args_sorted1 _) ?_
          unfold Builtin.«sorted»
          refine wpAny_bind (m := checkCount "sorted" 1 1 _) (wpAny_pure ?_)
          refine wpAny_bind (wpAny_collect_seq (A := X.A.in1) a hT ho hcl hdt (fun h' kp => ?_) il)
          refine wpAny_bind (wpAny_newList ?_ (by rw [Array.length_toList]; exact il))
          have I1 : Inv X pins σ H { s with heap := h', toks := s.toks } := I.kept kp
          refine wpAny_bind (wpAny_holding (wpAny_mono (sort_newE (s := { s with heap := h', toks := s.toks }) hu I1 (each_of I1 rits h2) hs.1 hl wr o) (fun _ s' x => ?_) fun _ _ e => e))
          exact wpAny_pure ⟨_, rfl, x⟩
        rcases h1 with h1 | h1
        · obtain ⟨its, rits, ⟨ob, n, ho, hcl, _, hdt⟩, _⟩ := I.list h1
          exact core its.toArray (by simpa using rits) "list" ob n (.inl rfl) ho hcl (by first | exact hdt | exact hdt.1)
        · obtain ⟨its, rits, ⟨ob, ho, hcl, n, hdt⟩, _⟩ := I.tuple h1
          exact core its.toArray (by simpa using rits) "tuple" ob n (.inr rfl) ho hcl hdt
      · exact o.elim
    · exact o.elim
  · exact o.elim
theorem cd_sortedTE (hc : X.calm = true) (hu : X.A.units + 70 < cLine) : CallD X RX W (.builtin "sorted") opSortedTE := by
  intro pins s σ α H S vs us ds Q I rv wr rd o
  unfold opSortedTE at o
  split at o
  · obtain ⟨v, rfl, r⟩ := RepDs.inv1 rd
    split at o
    · rename_i kvs hx
      split at o
      · rename_i hs
        unfold sortOkE at hs
        rw [Bool.and_eq_true, Bool.and_eq_true] at hs
        obtain ⟨⟨ha, hk⟩, hd⟩ := hs
        obtain ⟨a, rfl, hcell⟩ := dtOf_at wr r hx
        rw [Vals.ref1 rv]
        obtain ⟨ob, es, ep, xs, h0, h1, h2, h3, h4, h5, h6, pr⟩ := hcell
        have ho : s.heap.get? a = some ob := (I.hok a _ h0).1
        have hlen : es.size = kvs.length := by
          have : es.toList.length = xs.length := by rw [h4, List.length_map]
          rw [Array.length_toList] at this
          rw [this]; exact Paired.length pr
        refine sorted_src (kdl_exact h1 h2 h3) (I.ok.hd hc) ho (by rw [hlen]; exact h6) fun h' tk acc kp items => ?_
        have eacc : acc.toList = xs.map fun x => Value.ref x.2.1 := by
          have l1 : acc.toList.length = (xs.map fun x => Value.ref x.2.1).length := by
            rw [Array.length_toList, items.1, List.length_map, hlen]; exact (Paired.length pr).symm
          refine List.ext_getElem l1 fun i g1 g2 => ?_
          obtain ⟨e, e1, e2⟩ := items.2 i acc.toList[i] (by rw [← Array.getElem?_toList]; exact List.getElem?_eq_getElem g1)
          have : es.toList[i]? = some e := by rw [Array.getElem?_toList]; exact e1
          rw [h4, List.getElem?_map] at this
          obtain ⟨x, e3, e4⟩ := Option.map_eq_some_iff.mp this
          rw [e2, ← e4]
          have e5 := List.getElem?_eq_some_iff.mp e3
          obtain ⟨e6, e7⟩ := e5
          rw [List.getElem_map, e7]
          rfl
        have I1 : Inv X pins σ H { s with heap := h', toks := tk } := I.kept kp
        have kp2 : ∀ b o, h'.get? b = some o → (h'.push { cls := .type "list", data := .seq acc.toList.toArray }).get? b = some o := fun b o e => Heap.get?_push_of_some _ e
        have er : PySem.W.EachIs (fun u x => ∃ y, RelV y u ∧ Rp X.K α H y x) acc.toList (kvs.map (·.1)) := each_at (keys_each (P := X.prog) (w := X.w) (s := s) (k := fun x => Value.ref x.2.1) pr fun _ => rfl) eacc
        have hD : (h'.push { cls := .type "list", data := .seq acc.toList.toArray }).get? h'.objs.size = some (seqObj "list" acc.toList.toArray 0) := Heap.get?_push_size _ rfl
        have er2 : PySem.W.EachIs (fun u x => ∃ as, Reads (h'.push { cls := .type "list", data := .seq acc.toList.toArray }) u (id x) as ∧ h'.objs.size ∉ as) acc.toList (kvs.map (·.1)) := each_imp (fun u x ⟨y, ry, q⟩ => by
          obtain ⟨as, r1⟩ := Dp.reads I1 x y u q.dp ry
          refine ⟨as, Reads.keeps kp2 r1, fun hm => ?_⟩
          obtain ⟨o1, e1⟩ := PyProof.On.reads_mem_get r1 _ hm
          exact absurd (Heap.lt_size e1) (Nat.lt_irrefl _)) er
        refine list_sort_dataE (R := fun u x => ∃ y, RelV y u ∧ Rp X.K α H y x) (enc := id) hD er er2 ?_ ?_ ?_ ?_ ?_
        · rw [List.map_id]; exact allAlike_of ha
        · rw [List.map_id]
          rw [Bool.or_eq_true] at hk
          rcases hk with hk | hk
          · refine .inl fun d hd => ?_
            have := List.all_eq_true.mp hk d hd
            unfold isTup at this
            split at this
            · exact ⟨_, rfl⟩
            · cases this
          · refine .inr fun d hd => ?_
            have := List.all_eq_true.mp hk d hd
            rw [Bool.and_eq_true] at this
            refine ⟨fun e => ?_, fun xs e => ?_⟩
            · subst e; exact absurd this.1 (by decide)
            · subst e; exact absurd this.2 (by simp [isTup])
        · rw [List.length_map]; exact h6
        · intro b hb
          have := of_decide_eq_true (List.all_eq_true.mp hd b hb)
          show X.A.units + 1 + 1 + (id b).depth < cLine
          show X.A.units + 1 + 1 + b.depth < cLine
          omega
        · intro out ho2 eo
          obtain ⟨ws, w1, w2⟩ := each_back eo
          obtain ⟨e, he'⟩ := sortedHeap_at (vs := acc.toList) (out := out.toArray) hD
          have hp : H h'.objs.size = none := I1.hok.fresh (Nat.le_refl _)
          have hlen2 : ws.length ≤ sizeLine := by rw [w1.length, ho2, List.length_map]; exact h6
          have o : Want X RX W α H σ (.ok (.v (.list (sortD (kvs.map (·.1))))) S) Q := o
          rw [sortD_eq] at o
          refine ⟨.ref _, upd H h'.objs.size (.lst ws), I1.laid (t' := tk) (fun b u e => ?_) (Nat.le_refl _) ⟨hlen2, out, e, w1, he'⟩, rfl, o.newL wr w2 hp⟩
          exact (sortedHeap_old (Nat.ne_of_lt (Heap.lt_size e)) (Heap.lt_size (kp2 _ _ e))).trans (kp2 _ _ e)
      · exact o.elim
    · exact o.elim
  · exact o.elim
end
section
variable {P : Program} {w : World} {A : Around} {E : Value → Shared → Prop} {s : Shared}
theorem sorted_setE {a : Addr} {L : List (Addr × List Int)} {es : Array (Int × Value)} {ep : Nat} {t : SetTable} {Q : Value → Shared → Prop} (R : SetTR P w s.heap a L es ep t) (hh : A.handled = none) (hu : A.units + 4 < cLine)
    (hQ : ∀ s' p (out : Array Value) (c : Nat) (L' : List (Addr × List Int)), (∀ b o, s.heap.get? b = some o → s'.heap.get? b = some o) → s'.gens = s.gens → s'.os = s.os → s.heap.objs.size ≤ p →
      s'.heap.get? p = some (seqObj "list" out c) → out.toList = L'.map (fun q => Value.ref q.1) → L'.Perm L → L'.Pairwise (fun q r => q.2 ≤ r.2) → Q (.ref p) s') :
    wpAny (model P w) A (call (.builtin "sorted") [.ref a]) Q E s := by
  obtain ⟨o, ho, hex, hd⟩ := R.ob
  have hsz := R.size
  have hfew := R.few
  refine Calls.call_function_entry kind_sorted plain_sorted entry_sorted (args_sorted1 _) ?_
  unfold Builtin.«sorted»
  refine wpAny_bind (m := checkCount "sorted" 1 1 _) (wpAny_pure ?_)
  refine wpAny_bind (collect_set (A := A.in1) hh ⟨o, ho, hex.1, hd⟩ R.fits (by unfold scanBound; omega) R.tab.ris R.led fun s1 vs k1 hz g1 o1 pm => ?_)
  have hes : es.toList.map (·.2) = L.map fun q => Value.ref q.1 := by
    rw [R.rows]
    unfold rowsOf
    rw [List.map_map] <;> rfl
  rw [hes] at pm
  have ord : ∀ vs : List Value, (∀ v ∈ vs, ∃ q ∈ L, v = Value.ref q.1) → ∃ L1 : List (Addr × List Int), vs = L1.map (fun q => Value.ref q.1) ∧ ∀ q ∈ L1, q ∈ L := by
    intro vs
    induction vs with
    | nil => intro _; exact ⟨[], rfl, fun q hq => (by cases hq)⟩
    | cons v vs ih =>
      intro hv
      obtain ⟨q, hq, e⟩ := hv v List.mem_cons_self
      obtain ⟨L1, e1, hs⟩ := ih fun u hu => hv u (List.mem_cons_of_mem _ hu)
      refine ⟨q :: L1, by rw [List.map_cons, e, e1], fun r hr => ?_⟩
      rcases List.mem_cons.mp hr with z | z
      · rw [z]; exact hq
      · exact hs r z
  have one : ∀ q ∈ L, ∀ r ∈ L, q.1 = r.1 → q = r := fun q hq r hr e => by
    have a1 := R.tup q hq
    have a2 := R.tup r hr
    rw [e] at a1
    exact Prod.ext e (a1.inj a2)
  have perm_of : ∀ L1 : List (Addr × List Int), (∀ q ∈ L1, q ∈ L) → (L1.map (fun q => Value.ref q.1)).Perm (L.map fun q => Value.ref q.1) → L1.Perm L := by
    intro L1 hs pm1
    have nL : L.Nodup := nodup_of_map R.nd
    have nref : (L.map fun q => Value.ref q.1).Nodup := by
      refine List.pairwise_map.mpr (List.Pairwise.imp_of_mem (fun {q r} hq hr hne e => ?_) nL)
      injection e with e
      exact hne (one q hq r hr e)
    have n1 : L1.Nodup := nodup_of_map (pm1.nodup_iff.mpr nref)
    refine (List.perm_ext_iff_of_nodup n1 nL).mpr fun q => ⟨hs q, fun hq => ?_⟩
    have hm : Value.ref q.1 ∈ L1.map (fun q => Value.ref q.1) := pm1.mem_iff.mpr (List.mem_map.mpr ⟨q, hq, rfl⟩)
    obtain ⟨r, hr, e⟩ := List.mem_map.mp hm
    injection e with e
    rw [← one r (hs r hr) q hq e]
    exact hr
  obtain ⟨L1, e1, hs1⟩ := ord vs fun v hv => by
    obtain ⟨q, hq, e⟩ := List.mem_map.mp (pm.mem_iff.mp hv)
    exact ⟨q, hq, e.symm⟩
  have pm1 : L1.Perm L := perm_of L1 hs1 (by rw [← e1]; exact pm)
  have hvl : L1.length < 64 := by rw [pm1.length_eq]; exact hfew
  have hvl2 : vs.length < 64 := by rw [e1, List.length_map]; exact hvl
  refine wpAny_bind (wpAny_newList ?_ (by rw [sizeLine_eq]; omega))
  have hoL : (s1.heap.push (seqObj "list" vs.toArray 0)).get? s1.heap.objs.size = some (seqObj "list" vs.toArray 0) := Heap.get?_push_size _ rfl
  have e : PySem.W.EachIs (fun u (q : Addr × List Int) => u = Value.ref q.1) vs L1 := e1 ▸ each_refs L1
  have rdq : ∀ q ∈ L, Reads (s1.heap.push (seqObj "list" vs.toArray 0)) (.ref q.1) (encT q.2) [] := fun q hq => reads_isT (isT_keep (R.tup q hq) fun b u e => Heap.get?_push_of_some _ (k1 b u e))
  have er : PySem.W.EachIs (fun v (q : Addr × List Int) => ∃ as, Reads (s1.heap.push (seqObj "list" vs.toArray 0)) v (encT q.2) as ∧ s1.heap.objs.size ∉ as) vs L1 :=
    (PySem.W.each_mem e).mono fun v q ⟨ev, hq⟩ => ⟨[], ev ▸ rdq q (hs1 q hq), fun z => nomatch z⟩
  refine wpAny_bind (wpAny_holding (list_sort_dataE (s := { s1 with heap := s1.heap.push (seqObj "list" vs.toArray 0) }) (enc := fun q : Addr × List Int => encT q.2) hoL e er ?_ ?_ ?_ ?_ fun out h1 h2 => ?_))
  · intro d hd d' hd'
    obtain ⟨q, _, rfl⟩ := List.mem_map.mp hd
    obtain ⟨q', _, rfl⟩ := List.mem_map.mp hd'
    exact alike_encT _ _
  · refine .inl fun d hd => ?_
    obtain ⟨q, hq, rfl⟩ := List.mem_map.mp hd
    exact ⟨q.2.map .int, rfl⟩
  · rw [sizeLine_eq]; omega
  · intro b hb
    have := depth_encT b.2
    show A.units + 1 + 1 + _ < cLine
    omega
  obtain ⟨c, hc⟩ := sortedHeap_at (vs := vs) (out := out.toArray) hoL
  have e3 := each_refs_inv h2
  have pm2 : (L1.mergeSort (PySem.W.dataLe false fun q => encT q.2)).Perm L := (List.mergeSort_perm _ _).trans pm1
  have pw : (L1.mergeSort (PySem.W.dataLe false fun q => encT q.2)).Pairwise (fun q r => q.2 ≤ r.2) := by
    have el : (PySem.W.dataLe false fun q : Addr × List Int => encT q.2) = fun p q => decide (p.2 ≤ q.2) := by
      funext p q
      exact dataLe_encT p.2 q.2
    rw [el]
    have := List.pairwise_mergeSort (le := fun p q : Addr × List Int => decide (p.2 ≤ q.2)) (fun a b c x y => decide_eq_true (List.le_trans (of_decide_eq_true x) (of_decide_eq_true y))) (fun a b => by
      rw [Bool.or_eq_true]
      exact (List.le_total a.2 b.2).imp decide_eq_true decide_eq_true) L1
    exact this.imp fun h => of_decide_eq_true h
  refine wpAny_pure ⟨_, rfl, hQ _ s1.heap.objs.size out.toArray c _ (fun b u e => ?_) g1 o1 hz hc e3 pm2 pw⟩
  have q := k1 b u e
  have hlt := Heap.lt_size q
  show (sortedHeap (s1.heap.push (seqObj "list" vs.toArray 0)) s1.heap.objs.size vs out.toArray).get? b = some u
  rw [sortedHeap_old (Nat.ne_of_lt hlt) (by rw [size_push']; exact Nat.lt_succ_of_lt hlt)]
  exact Heap.get?_push_of_some _ q
end
def opSetSortedE : Op := fun ds S => match ds with
  | [d] => (match listOf S d with
    | some xs => (match tupsOf xs with
      | some ks => if ks.length < 64 then .ok (.v (.list ((sortK (dedK ks)).map encT))) S else .stuck
      | none => .stuck)
    | none => .stuck)
  | _ => .stuck
section
variable {X : Cx} {RX : RXT} {W : WX} {α α' : AM} {H H' : Hp} {σ : St} {S S' : Store} {env : DEnv} {pos : Pos}
/-- sorted(set) -/
def rSortedSE (K : PySem.W.Frag) (P : Program) (w : World) : List V → Hp → VK → Prop := fun vs H Q => ∃ (a : Addr) (L : List (Addr × List Int)), vs = [V.ref a] ∧ H a = some (SetTO P w a L) ∧ (∀ p ∈ L, SqT K H p.1 (p.2.map V.int)) ∧
  ∀ (L' : List (Addr × List Int)) (p : Addr), L'.Perm L → (L'.map (·.2)).Nodup → L'.Pairwise (fun q r => q.2 ≤ r.2) → H p = none → Q (.ref p) (upd H p (.lst (L'.map fun q => V.ref q.1)))
theorem cr_sortedSE (hc : X.calm = true) (hu : X.A.units + 70 < cLine) : CallR X (.builtin "sorted") (rSortedSE X.K X.prog X.w) := by
  intro pins s σ H vs us Q I r h
  obtain ⟨a, L, rfl, ha, hk, q⟩ := h
  have R0 : SetT0 X.prog X.w s.heap a L := (I.hok a _ ha).1
  obtain ⟨es, ep, t, R⟩ := R0.full fun p hp => I.isT (hk p hp)
  rw [Vals.ref1 r]
  refine sorted_setE R (I.ok.hd hc) (by omega) fun s' p out c L' k g o hp hg hout pm pw => ?_
  have hfew : L'.length < 64 := by rw [pm.length_eq]; exact R.few
  have hlen : (L'.map fun q => V.ref q.1).length ≤ sizeLine := by rw [List.length_map, sizeLine_eq]; omega
  have hn : H p = none := I.hok.fresh hp
  have hv : Vals (L'.map fun q => V.ref q.1) out.toList := by rw [hout]; exact vals_of_refs L'
  have J : Inv X pins σ (upd H p (.lst (L'.map fun q => V.ref q.1))) { s with heap := s'.heap, gens := s'.gens, drawn := s'.drawn, toks := s'.toks } :=
    I.call (ch := []) (Un.laid k hp hn) (I.hok.laid k hp ⟨hlen, out.toList, c, hv, hg⟩) (by rw [g]; exact I.bare) (fun _ z => nomatch z)
  have e : s' = { s with heap := s'.heap, gens := s'.gens, drawn := s'.drawn, toks := s'.toks } := by
    cases s'
    cases s
    cases o
    rfl
  rw [e]
  exact ⟨.ref p, _, J, rfl, q L' p pm ((pm.map (·.2)).nodup_iff.mpr R.nd) pw hn⟩
theorem de_sortedSetE {e : Expr} {f : FA} {p p2 q : Pos} (hc : X.calm = true) (hu : X.A.units + 70 < cLine) (hg : Gl X "sorted") (hm : X.mg "sorted" = none) (hg2 : Gl X "set") (hm2 : X.mg "set" = none) (ha : DA X RX W [e] f)
    (he2 : starEach [e] X.env = (false, eval e X.env) :: starEach [] X.env := by rfl)
    (he : starEach [.Call (.Name "set" p2) [e] [] q] X.env = (false, eval (.Call (.Name "set" p2) [e] [] q) X.env) :: starEach [] X.env := by rfl)
    (hpl : (backTo pos (starEach [] X.env)).any (·.1) = false := by rfl) (hpl2 : (backTo q (starEach [] X.env)).any (·.1) = false := by rfl) :
    DE X RX W (.Call (.Name "sorted" p) [.Call (.Name "set" p2) [e] [] q] [] pos) (dBlt opSetSortedE f) := by
  refine peW (pe_callB (cr_sortedSE hc hu) hg hm bt_sorted (pa_cons (pe_callTy (cr_setOfT hc (by omega)) hg2 hm2 PyProof.Rows.boot_set ha (by decide) (by decide) he2 hpl2) pa_nil he) (by decide) (by decide) he hpl) ?_
  intro σ H Q ⟨α, env, S, h, o⟩
  refine tA_seq h o fun ds S1 α1 H1 vs e1 h1 rs o1 => ?_
  unfold opSetSortedE at o1
  split at o1
  · obtain ⟨v, rfl, r⟩ := RepDs.inv1 rs
    split at o1
    · rename_i xs hx
      split at o1
      · rename_i ks hk
        split at o1
        · rename_i hs
          have h64 := hs
          obtain ⟨a, ys, rfl, g1, g2⟩ := list_at h1.wr r hx
          obtain ⟨kp, rfl, rfl, g3, g4⟩ := rows_of hk g2
          refine ⟨a, kp, rfl, .inl g1, g3, by simpa using h64, fun b L hb hL hall => ?_⟩
          have w2 := h1.wr.new (o := SetTO X.prog X.w b L) hb
          have x2 := Ext.new (o := SetTO X.prog X.w b L) h1.wr hb
          refine ⟨b, L, rfl, upd_same, fun p hp => ((Rp.ext x2 (g4 p (hL p hp))).sqT), fun L' d pm nd pw hd => ?_⟩
          · have pk : (L'.map (·.2)).Perm (dedK (kp.map (·.2))) := set_perm nd (fun x hx => by
                obtain ⟨p, hp, rfl⟩ := List.mem_map.mp hx
                exact List.mem_map.mpr ⟨p, hL p (pm.mem_iff.mp hp), rfl⟩) fun x hx => by
                obtain ⟨p, hp, rfl⟩ := List.mem_map.mp hx
                exact (pm.map (·.2)).mem_iff.mpr (hall p hp)
            have ek := sortK_one pk (List.pairwise_map.mpr pw)
            rw [← ek, List.map_map] at o1
            exact (o1.ext x2).newL w2 (rpl_refs fun p hp => Rp.ext x2 (g4 p (hL p (pm.mem_iff.mp hp)))) hd
        · exact o1.elim
      · exact o1.elim
    · exact o1.elim
  · exact o1.elim
end
end G

set_option Elab.async false
set_option linter.all false
set_option autoImplicit false
set_option maxRecDepth 100000
/-! d.pop(k) and sorted(d) of a dict with whole numbers as keys -/
namespace G
open PySem PySem.Spec PyProof.Rows L2
def dkDrop (kvs : List (Key × PyData)) (k : Key) : List (Key × PyData) := kvs.filter fun q => decide (q.1 ≠ k)
def dPopK (fo fi : FE) : FE := fun env S => (fo env S).bind fun o S1 => match dkOf S1 o with
  | some _ => (fi env S1).bind fun i S2 => (match o, i with
    | .r n, .v x => (match S2[n]?, keyA x with
      | some (.dk kvs), some k => (match dkGet kvs k with
        | some y => .ok (.v y) (S2.set n (.dk (dkDrop kvs k)))
        | none => .stuck)
      | _, _ => .stuck)
    | _, _ => .stuck)
  | none => .stuck
def intK : List (Key × PyData) → Option (List Int)
  | [] => some []
  | (.inl i, _) :: r => (intK r).map (i :: ·)
  | (.inr _, _) :: _ => none
def opSortedK : Op := fun ds S => match ds with
  | [d] => (match dkOf S d with
    | some kvs => (match intK kvs with
      | some ks => if ks.length < 64 then .ok (.v (.list ((sortI ks).map .int))) S else .stuck
      | none => .stuck)
    | none => .stuck)
  | _ => .stuck
theorem intK_eq : ∀ {kvs : List (Key × PyData)} {ks : List Int}, intK kvs = some ks → kvs.map (·.1) = ks.map Sum.inl
  | [], ks, h => by cases h; rfl
  | (.inl i, y) :: r, ks, h => by
    simp only [intK] at h
    obtain ⟨l, h1, rfl⟩ := Option.map_eq_some_iff.mp h
    rw [List.map_cons, intK_eq h1]; rfl
  | (.inr _, _) :: _, ks, h => by simp [intK] at h
section
variable {X : Cx} {RX : RXT} {W : WX} {α α' : AM} {H H' : Hp} {σ : St} {S S' : Store} {env : DEnv} {pos : Pos}
theorem dk_drop {kv : List (Key × V)} {kvs : List (Key × PyData)} (k : Key) (r : KP X.K α H kv kvs) : KP X.K α H (dropK kv k) (dkDrop kvs k) := by
  induction r with
  | nil => exact .nil
  | @cons p q ps qs h t ih =>
    unfold dropK dkDrop at *
    rw [List.filter_cons, List.filter_cons, h.1]
    split
    · exact .cons h ih
    · exact ih
theorem keys_same {kv : List (Key × V)} {kvs : List (Key × PyData)} (r : KP X.K α H kv kvs) : kv.map (·.1) = kvs.map (·.1) := by
  induction r with
  | nil => rfl
  | cons h _ ih => rw [List.map_cons, List.map_cons, h.1, ih]
theorem de_popK {o e : Expr} {fo fi : FE} {apos cpos : Pos} (ho : DE X RX W o fo) (he : DE X RX W e fi) (m : M1 X o "pop" apos e cpos) : DE X RX W (.Call (.Attribute o "pop" apos) [e] [] cpos) (dPopK fo fi) :=
  peW (pe_dpop1 ho he m) fun σ H Q ⟨α, env, S, h, oo⟩ => by
    refine tE_seq h oo fun d S1 α1 H1 v e1 h1 r1 o1 => ?_
    split at o1
    · rename_i kvs0 hd
      obtain ⟨n, a, kv0, rfl, rfl, ha, hH, _⟩ := dkOf_at h1.wr r1 hd
      refine ⟨a, rfl, .inl ⟨_, .inl hH⟩, ?_⟩
      refine tE_seq h1 o1 fun i S2 α2 H2 u e2 h2 r2 o2 => ?_
      cases i with
      | v x =>
        have r1' := r1.ext e2
        simp only at o2
        split at o2
        · rename_i kvs k hc hk
          split at o2
          · rename_i y hy
            obtain ⟨a', ea, ha2, kv, hH2, rr⟩ := cell_at h2.wr r1' hc (by intro z; cases z)
            cases ea
            have ev := keyA_v r2 hk
            subst ev
            rcases dk_at k rr with ⟨h3, _⟩ | ⟨y', v', h3, h4, h5⟩
            · rw [h3] at hy; cases hy
            · rw [h3] at hy; cases hy
              have ew := Ext.write (o := .dK (dropK kv k)) h2.wr ha2
              exact ⟨kv, k, v', hH2, rfl, h4, o2 α2 _ ew (h2.wr.write ha2 ⟨_, upd_same, Paired.mapP (dk_drop k rr) fun _ _ z => ⟨z.1, z.2.ext ew⟩⟩) v' (h5.ext ew)⟩
          · exact o2.elim
        · exact o2.elim
      | r n => exact o2.elim
      | k n => exact o2.elim
      | g lo hi => exact o2.elim
      | z kvs => exact o2.elim
      | y kvs => exact o2.elim
    · exact o1.elim
theorem cd_sortedK (hc : X.calm = true) : CallD X RX W (.builtin "sorted") opSortedK := by
  intro pins s σ α H S vs us ds Q I rv wr rd o
  unfold opSortedK at o
  split at o
  · obtain ⟨v, rfl, r⟩ := RepDs.inv1 rd
    split at o
    · rename_i kvs hx
      split at o
      · rename_i ks hk
        split at o
        · rename_i h64
          obtain ⟨n, a, kv, rfl, rfl, ha, hH, rr⟩ := dkOf_at wr r hx
          refine call_sortedDI hc pins s σ H _ us Q I rv ⟨a, kv, ks, rfl, .inl hH, ?_, h64, fun ys p pm pw hp => ?_⟩
          · rw [keys_same rr.1]; exact intK_eq hk
          · have e : ys = sortI ks := (pm.trans (sortI_perm ks).symm).eq_of_pairwise (le := (· ≤ ·)) (fun a b _ _ h1 h2 => Int.le_antisymm h1 h2) pw (sortI_rises ks)
            subst e
            exact o.newL wr (RpL.mkInts _) hp
        · exact o.elim
      · exact o.elim
    · exact o.elim
  · exact o.elim
end
end G

set_option Elab.async false
set_option linter.all false
set_option autoImplicit false
set_option maxRecDepth 100000
/-! {k: v}, a dict of one pair with a whole number or a text as key -/
namespace G
open PySem PySem.Spec PyProof.Rows L2
def dDisp1 (fk fv : FE) : FE := fun env S => (noX (fk env S)).bind fun k S1 => (noX (fv env S1)).bind fun v S2 => match k, v with
  | .v x, .v y => (match keyA x with
    | some key => .ok (.r S2.length) (S2 ++ [.dk [(key, y)]])
    | none => .stuck)
  | _, _ => .stuck
section
variable {X : Cx} {RX : RXT} {W : WX} {α α' : AM} {H H' : Hp} {σ : St} {S S' : Store} {env : DEnv} {pos : Pos}
theorem de_disp1 {ek ev : Expr} {fk fv : FE} (hk : DE X RX W ek fk) (hv : DE X RX W ev fv) : DE X RX W (.Dict [some ek] [ev] pos) (dDisp1 fk fv) :=
  peW (pe_disp (pps_cons hk hv pps_nil) rfl rfl (by simp) (show 1 ≤ 15 by decide)) fun σ H Q ⟨α, env, S, h, o⟩ p hp => by
    have hb : Here X (α.block p) (upd H p (.dK [])) σ env S := ⟨h.re.keepK (Keep.block p hp) (fun n x q => .inl q), h.wr.block hp⟩
    refine ⟨α.block p, env, S, hb, ?_⟩
    cases h1 : fk env S with
    | stuck => unfold dDisp1 at o; rw [h1] at o; exact o.elim
    | exc x S1 => unfold dDisp1 at o; rw [h1] at o; exact o.elim
    | ok k S1 =>
      intro α1 H1 e1 w1 xk rk
      have hb1 : Here X α1 H1 σ env S1 := hb.ext X e1 w1
      refine ⟨α1, env, S1, hb1, ?_⟩
      cases h2 : fv env S1 with
      | stuck => unfold dDisp1 at o; rw [h1] at o; simp only [noX, Res.bind, h2] at o; exact o.elim
      | exc x S2 => unfold dDisp1 at o; rw [h1] at o; simp only [noX, Res.bind, h2] at o; exact o.elim
      | ok v S2 =>
        intro α2 H2 e2 w2 yv rv
        unfold dDisp1 at o
        rw [h1] at o
        simp only [noX, Res.bind, h2] at o
        split at o
        · rename_i x y
          split at o
          · rename_i key hkey
            have ee := e1.trans e2
            have hbl : α2.b = p :: α.b := ee.bl
            have hD : H2 p = some (.dK []) := (ee.blk p List.mem_cons_self).trans upd_same
            have ek2 := keyA_v (Rp.ext e2 rk) hkey
            subst ek2
            refine ⟨hD, [(key, yv)], rfl, show 1 ≤ 15 by decide, ?_⟩
            have gk : Keep α2 H2 α2 (upd H2 p (.dK (mergeK [] [(key, yv)]))) := Keep.grow (by rw [hbl]; exact List.mem_cons_self)
            have w3 := w2.grow (o := .dK (mergeK [] [(key, yv)])) (by rw [hbl]; exact List.mem_cons_self)
            have kall : Keep α H α2 (upd H2 p (.dK (mergeK [] [(key, yv)]))) := fun a u hu hn => by
              obtain ⟨z1, z2⟩ := (Keep.block p hp) a u hu hn
              obtain ⟨y1, y2⟩ := ee.keep a u z1 z2
              exact gk a u y1 y2
            refine fin_any α H α2 _ S2 p (w2.pw.trans h.wr.pw.symm) w3 hbl (h.wr.fresh hp) (c := .dk [(key, y)]) ⟨[(key, yv)], upd_same, ?_⟩ kall (fun n x q => ee.ref n x q) (fun a ha => ?_) o
            · exact .cons ⟨rfl, Rp.keep gk rv⟩ .nil
            · have ne : a ≠ p := fun z => by subst z; obtain ⟨_, u, q⟩ := h.wr.bl _ ha; rw [hp] at q; cases q
              rw [upd_ne ne, ee.blk a (List.mem_cons_of_mem _ ha), upd_ne ne]
          · exact o.elim
        · exact o.elim
end
end G

set_option Elab.async false
set_option linter.all false
set_option autoImplicit false
set_option maxRecDepth 100000
/-! list * int: a list of data, or a cell -/
namespace G
open PySem PySem.Calls PySem.Spec PyProof.Rows L2
def repOk (xs : List PyData) (k : Int) : Bool := decide (xs.length ≤ 1000 ∧ 0 ≤ k ∧ k ≤ 1000)
def dRepL : D → D → Store → Res D := fun a b S => match listOf S a, b with
  | some xs, .v (.int k) => if repOk xs k then .ok (.v (.list (List.replicate k.toNat xs).flatten)) S else .stuck
  | _, _ => .stuck
def dRepC : D → D → Store → Res D := fun a b S => match listOf S a, b with
  | some xs, .v (.int k) => if repOk xs k then .ok (.r S.length) (S ++ [.lst (List.replicate k.toNat xs).flatten]) else .stuck
  | _, _ => .stuck
section
variable {X : Cx} {RX : RXT} {W : WX} {α α' : AM} {H H' : Hp} {σ : St} {S S' : Store} {env : DEnv} {pos : Pos}
def rRepD : R2 := fun x y H Q => ∃ l k xs, x = .ref l ∧ y = .int k ∧ Rd H l (.lst xs) ∧ xs.length ≤ 1000 ∧ 0 ≤ k ∧ k ≤ 1000 ∧ ∀ p, H p = none → Q (.ref p) (upd H p (.lst (List.replicate k.toNat xs).flatten))
theorem rep_fold (its : List Value) (k : Nat) : List.foldl (fun x1 x2 => x1 ++ x2) #[] (List.replicate (if its.toArray.isEmpty = true then 0 else k) its.toArray) = (List.replicate k its).flatten.toArray := by
  have go : ∀ (m : Nat) (acc : List Value), List.foldl (fun x1 x2 => x1 ++ x2) acc.toArray (List.replicate m its.toArray) = (acc ++ (List.replicate m its).flatten).toArray := fun m => by
    induction m with
    | zero => intro acc; simp
    | succ m ih =>
      intro acc
      rw [List.replicate_succ, List.foldl_cons, List.append_toArray, ih, List.replicate_succ, List.flatten_cons, List.append_assoc]
  cases its with
  | nil => simp
  | cons a r =>
    rw [if_neg (by simp)]
    have h := go k []
    rw [List.nil_append] at h
    exact h
theorem op_repD : OpR X (binaryOp .Mult) rRepD := by
  intro pins s σ H x y v u Q I rx ry h
  obtain ⟨l, k, xs, rfl, rfl, hH, hx, k0, k1, q⟩ := h
  cases rx
  obtain ⟨t, rfl⟩ := ry
  obtain ⟨z, its, n, r, hl, e⟩ := imL_of I hH
  have hz : xs.length * k.toNat ≤ 1000000 := Nat.le_trans (Nat.mul_le_mul hx (show k.toNat ≤ 1000 by omega)) (by decide)
  have hz2 : xs.length * k.toNat ≤ sizeLine := Nat.le_trans hz (by rw [sizeLine_eq]; decide)
  have hlen : its.toArray.size * k.toNat ≤ sizeLine := by rw [List.size_toArray, ← hl]
                                                          exact hz2
  have hsz : its.toArray.size * k.toNat ≤ 1000000 := by rw [List.size_toArray, ← hl]; exact hz
  have hcap : ¬ its.toArray.size * k.toNat > (2 ^ 63 - 1) / 8 := fun c => by
    have b : (1000000 : Nat) ≤ (2 ^ 63 - 1) / 8 := by decide
    omega
  have hfit : ¬ (!Builtin.List.listFitsIndex k) = true := by rw [fitsIndex_both (by omega) (by omega)]; exact Bool.false_ne_true
  have hlong : ¬ Builtin.List.listTooLong (its.toArray.size * k.toNat) = true := by rw [notLongL hlen]; exact Bool.false_ne_true
  have body := AutoListH.list___mul___list_int_3 l its.toArray n k t hfit hcap hlong
  have outer := int___rmul___int_list k t l its.toArray n
  refine wpAny_binaryOp_repeat_ref (T := "list") (U := "int") (by decide) ⟨_, e, rfl⟩ (fun s' => typeIs_int s' k t) noFill_list_mul
    F.fills_int_mul F.slot_int_rmul repeat_list F.slot_int_index.lookup (call_meets F.slot_int_rmul (typeIs_int s k t) F.entry_int_rmul (F.args_int_rmul_2 _ _) outer
      ⟨e, rfl, ⟨_, e, rfl⟩, call_meets F.slot_list_mul ⟨_, e, rfl⟩ F.entry_list_mul (F.args_list_mul_2 _ _) body ⟨e, ?_⟩⟩)
  rw [rep_fold]
  refine ⟨.ref _, _, I.lnew (t' := s.toks) (r.rep k.toNat) ?_, rfl, q _ I.fresh⟩
  rw [PyProof.Rows.lm_len_rep_flat, Nat.mul_comm]; exact hz2
theorem sem_rep {a b : D} {xs : List PyData} {k : Int} {x y : V} {Q : VK} (wr : WR X.prog X.w X.K α H S) (rx : RepD X.K α H x a) (ry : RepD X.K α H y (.v (.int k))) (ha : listOf S a = some xs) (hk : repOk xs k = true)
    (q : ∀ (vs : List V) (p : Addr), RpL X.K α H vs xs → H p = none → Q (.ref p) (upd H p (.lst (List.replicate k.toNat vs).flatten))) : rRepD x y H Q := by
  obtain ⟨h1, h2, h3⟩ := of_decide_eq_true hk
  obtain ⟨l, vs, rfl, hl, r⟩ := list_at wr rx ha
  cases ry
  exact ⟨l, k, vs, rfl, rfl, hl, by rw [r.length]; exact h1, h2, h3, fun p hp => q vs p r hp⟩
theorem od_repL : OpD X RX W (binaryOp .Mult) dRepL := .of op_repD fun σ α H S x y d e Q wr rx ry o => by
  unfold dRepL at o
  split at o
  · rename_i xs k ha
    split at o
    · rename_i hk
      exact sem_rep (b := .v (.int k)) wr rx ry ha hk fun vs p r hp => o.newL wr (rpl_rep r _) hp
    · exact o.elim
  · exact o.elim
theorem od_repC : OpD X RX W (binaryOp .Mult) dRepC := .of op_repD fun σ α H S x y d e Q wr rx ry o => by
  unfold dRepC at o
  split at o
  · rename_i xs k ha
    split at o
    · rename_i hk
      exact sem_rep (b := .v (.int k)) wr rx ry ha hk fun vs p r hp => o.newC wr (rpl_rep r _) hp
    · exact o.elim
  · exact o.elim
end
end G

set_option Elab.async false
set_option linter.all false
set_option autoImplicit false
set_option maxRecDepth 100000
/-! [x for pattern in xs], xs a list that still changes, x a name of the pattern -/
namespace G
open PySem PySem.Spec PyProof.Rows L2
def projL (p : Pat) (j : Nat) (env : DEnv) : List PyData → Option (List PyData)
  | [] => some []
  | x :: xs => match gPat p x env with
    | some env1 => (match env1[j]? with
      | some (some (.v y)) => (projL p j env xs).map (y :: ·)
      | _ => none)
    | none => none
def dProj (i : Nat) (own : List Nat) (p : Pat) (j : Nat) : FE := fun env S => match env[i]? with
  | some (some (.r n)) => (match S[n]? with
    | some (.lst xs) => if small xs.length then (match projL p j (wipeE env own) xs with
      | some ys => .ok (.v (.list ys)) S
      | none => .stuck) else .stuck
    | _ => .stuck)
  | _ => .stuck
theorem projL_at {p : Pat} {j : Nat} {env : DEnv} : ∀ {xs ys : List PyData}, projL p j env xs = some ys → ∀ (k : Nat) (x : PyData), xs[k]? = some x → ∃ env1 y, gPat p x env = some env1 ∧ env1[j]? = some (some (.v y)) ∧ ys[k]? = some y
  | [], ys, h, k, x, hx => by simp at hx
  | z :: xs, ys, h, k, x, hx => by
    unfold projL at h
    split at h
    · rename_i env1 h1
      split at h
      · rename_i y h2
        obtain ⟨l, h3, rfl⟩ := Option.map_eq_some_iff.mp h
        cases k with
        | zero =>
          simp at hx
          subst hx
          exact ⟨env1, y, h1, h2, rfl⟩
        | succ k => exact projL_at h3 k x (by simpa using hx)
      · cases h
    · cases h
theorem projL_len {p : Pat} {j : Nat} {env : DEnv} : ∀ {xs ys : List PyData}, projL p j env xs = some ys → ys.length = xs.length
  | [], ys, h => by cases h; rfl
  | z :: xs, ys, h => by
    unfold projL at h
    split at h
    · split at h
      · obtain ⟨l, h3, rfl⟩ := Option.map_eq_some_iff.mp h
        rw [List.length_cons, List.length_cons, projL_len h3]
      · cases h
    · cases h
section
variable {X : Cx} {RX : RXT} {W : WX} {α α' : AM} {H H' : Hp} {σ : St} {S S' : Store} {env : DEnv} {pos : Pos} {tg : Expr}
theorem proj_read {own : List Nat} {p : Pat} {i j : Nat} {Q : VK} (hp : ∀ k ∈ p.slots, k ∈ own) (h : Here X α H σ env S) (o : Want X RX W α H σ (dProj i own p j env S) Q) :
    tLc (iSq X.K (tVar i)) (tG X p) tYes (tVar j) own σ H Q := by
  unfold dProj at o
  split at o
  case h_2 => exact o.elim
  rename_i n he
  split at o
  case h_2 => exact o.elim
  rename_i xs hc
  split at o
  case isFalse => exact o.elim
  rename_i hsm
  split at o
  case h_2 => exact o.elim
  rename_i ys hy
  obtain ⟨v, hv, rv⟩ := h.re.get i _ he
  obtain ⟨a, rfl, ha, ⟨vs, hH, rr⟩⟩ := cell_at h.wr rv hc (by intro z; cases z)
  have hz : xs.length ≤ 16000000 := of_decide_eq_true hsm
  have hly := projL_len hy
  refine ⟨.ref a, hv, a, rfl, .inl ⟨⟨vs, .inl (.inl hH)⟩, fun D hD => ?_⟩⟩
  have ne : a ≠ D := fun z => by rw [z, hD] at hH; cases hH
  let A := α.block D
  have hA : D ∈ A.b := List.mem_cons_self
  have hlen : vs.length = xs.length := rr.length
  have base : ∀ ws : List V, Keep α H A (upd H D (.lst ws)) := fun ws => Keep.block D hD
  have wrk : ∀ ws : List V, WR X.prog X.w X.K A (upd H D (.lst ws)) S := fun ws => h.wr.block hD
  have rek : ∀ ws : List V, RE X.K A (upd H D (.lst ws)) (wipe σ own) (wipeE env own) := fun ws => (re_wipe h.re own).keepK (base ws) (fun n x q => .inl q)
  refine ⟨fun i m Hc => ∃ ws, i + m = xs.length ∧ Hc = upd H D (.lst ws) ∧ ws.length = i ∧ RpL X.K A Hc ws (ys.take i), ⟨xs.length, [], Nat.zero_add _, rfl, rfl, by rw [List.take_zero]; exact .nil⟩, ?_⟩
  rintro k m Hc ⟨ws, em, rfl, hw, rw'⟩
  have hHa : upd H D (.lst ws) a = some (.lst vs) := by rw [upd_ne ne]; exact hH
  have sq : SqL X.K (upd H D (.lst ws)) a vs := .inl (.inl hHa)
  by_cases hk : k < xs.length
  · have gx := List.getElem?_eq_getElem hk
    obtain ⟨u, gu, ru⟩ := rr.get gx
    refine .inr ⟨⟨vs, u, sq, gu⟩, fun Hn => ∃ ws, Hn = upd H D (.lst ws) ∧ ws.length = k + 1 ∧ RpL X.K A Hn ws (ys.take (k + 1)), fun H' ⟨ws', e1, e2, e3⟩ => ⟨m - 1, by omega, ws', by omega, e1, e2, e3⟩, fun z H' hyld => ?_⟩
    obtain ⟨eH, hall⟩ := hyld
    subst eH
    have ez : z = u := by
      have := hall vs sq
      rw [gu] at this
      exact (Option.some.inj this).symm
    subst ez
    obtain ⟨env1, y, h1, h2, h3⟩ := projL_at hy k _ gx
    refine ⟨A, wipeE env own, S, _, env1, ⟨rek ws, wrk ws⟩, Rp.keep (base ws) ru, h1, fun σ3 g3 ag => ⟨agr_wipe hp ag, ?_⟩⟩
    unfold tYes
    simp only [if_true]
    obtain ⟨t, ht, rt⟩ := g3.re.get j _ h2
    refine ⟨t, ht, ws, upd_same, by rw [hw, sizeLine_eq]; omega, ws ++ [t], by rw [upd_upd], by rw [List.length_append, hw]; rfl, ?_⟩
    have gk : Keep A (upd H D (.lst ws)) A (upd (upd H D (.lst ws)) D (.lst (ws ++ [t]))) := Keep.grow hA
    have e : ys.take (k + 1) = ys.take k ++ [y] := by rw [List.take_add_one, h3]; rfl
    rw [e]
    exact (rw'.snoc rt).keep gk
  · have ek : k = xs.length := by omega
    refine .inl ⟨⟨vs, sq, by omega⟩, ?_⟩
    have et : ys.take k = ys := List.take_of_length_le (by omega)
    rw [et] at rw'
    exact fin_lst α H A _ ys S ws D rfl (wrk ws) rfl hD (h.wr.fresh hD) upd_same rw' (base ws) (fun n x q => .inl q) (fun b hb => upd_ne fun z => by subst z; obtain ⟨_, u, q⟩ := h.wr.bl _ hb; rw [hD] at q; cases q) o
/-- [x for pattern in xs] -/
theorem de_proj {x y : Str} {px py : Pos} {scope : Scope} {i j : Nat} (own : List (Str × Nat)) {p : Pat} (hc : X.calm = true) (hN : X.N.Nodup) (hi : PE X (.Name y py) (tVar i)) (ok : BlkOk X.N X.env.scope scope own)
    (hg : ∀ (s : Shared) (H : Hp) (C : Addr) (cl : List (Str × Addr)) (fp : List Addr), DG (blkX X s H scope C cl fp) tg p)
    (he : ∀ (s : Shared) (H : Hp) (C : Addr) (cl : List (Str × Addr)) (fp : List Addr), PE (blkX X s H scope C cl fp) (.Name x px) (tVar j)) (hp : ∀ k ∈ p.slots, k ∈ own.map (·.2)) (hs : ∀ x, foldedSetIterable (.Name y py) X.env x = pure x := by intro _; rfl) :
    DE X RX W (.ListComp (.Name x px) [⟨tg, .Name y py, [], 0⟩] scope pos) (dProj i (own.map (·.2)) p j) :=
  peW (pe_lc hc hN (pi_sq hi) ok hg (fun s H C cl fp => pts_nil) he hs) fun σ H Q ⟨α, env, S, h, o⟩ => proj_read hp h o
theorem od_notB : OpD X RX W (compareOp .IsNot) (dIsB true) := .of op_notBl fun σ α H S x y d e Q wr rx ry o => by
  unfold dIsB at o
  split at o
  · cases rx; cases ry
    refine ⟨_, _, rfl, rfl, ?_⟩
    have := o.get wr _ (.bl _)
    simpa using this
  · exact o.elim
end
end G

set_option Elab.async false
set_option linter.all false
set_option autoImplicit false
set_option maxRecDepth 100000
/-! d.get(k, x) of a dict with whole numbers or texts as keys -/
namespace G
open PySem PySem.Spec PyProof.Rows L2
def dGetK (fo fi fx : FE) : FE := fun env S => (fo env S).bind fun o S1 => match dkOf S1 o with
  | some _ => (fi env S1).bind fun i S2 => (fx env S2).bind fun x S3 => (match dkOf S3 o, i, x with
    | some kvs, .v i, .v x => (match keyA i with
      | some k => .ok (.v ((dkGet kvs k).getD x)) S3
      | none => .stuck)
    | _, _, _ => .stuck)
  | none => .stuck
section
variable {X : Cx} {RX : RXT} {W : WX} {α α' : AM} {H H' : Hp} {σ : St} {S S' : Store} {env : DEnv} {pos : Pos}
theorem de_getK {o e f : Expr} {fo fi fx : FE} {apos cpos : Pos} (hu : X.A.units + 1 < cLine) (ho : DE X RX W o fo) (he : DE X RX W e fi) (hf : DE X RX W f fx) (m : M2 X o "get" apos e f cpos) : DE X RX W (.Call (.Attribute o "get" apos) [e, f] [] cpos) (dGetK fo fi fx) :=
  peW (pe_dget2 hu ho he hf m) fun σ H Q ⟨α, env, S, h, oo⟩ => by
    refine tE_seq h oo fun d S1 α1 H1 v e1 h1 r1 o1 => ?_
    split at o1
    · rename_i kvs0 hd
      obtain ⟨n, a, kv0, rfl, rfl, ha, hH, _⟩ := dkOf_at h1.wr r1 hd
      refine ⟨a, rfl, .inl ⟨_, .inl hH⟩, ?_⟩
      refine tE_seq h1 o1 fun i S2 α2 H2 u e2 h2 r2 o2 => ?_
      refine tE_seq h2 o2 fun x S3 α3 H3 z e3 h3 r3 o3 => ?_
      split at o3
      · rename_i kvs i x hk
        split at o3
        · rename_i k hkey
          obtain ⟨n', a', kv, en, ea, ha3, hH3, rr, _⟩ := dkOf_at h3.wr ((r1.ext e2).ext e3) hk
          cases ea
          have ev := keyA_v (Rp.ext e3 r2) hkey
          subst ev
          rcases dk_at k rr with ⟨g1, g2⟩ | ⟨y, w, g1, g2, g3⟩
          · rw [g1] at o3
            exact ⟨none, .inl ⟨kv, k, .inl hH3, rfl, g2.symm⟩, o3.get h3.wr z r3⟩
          · rw [g1] at o3
            exact ⟨some w, .inl ⟨kv, k, .inl hH3, rfl, g2.symm⟩, o3.get h3.wr w g3⟩
        · exact o3.elim
      · exact o3.elim
    · exact o1.elim
end
end G

set_option Elab.async false
set_option linter.all false
set_option autoImplicit false
set_option maxRecDepth 100000
/-! x[i], y[j] = a, b -/
namespace G
open PySem PySem.Spec PyProof.Rows L2
def sIx2 (fo fi fo2 fi2 : FE) (fe : FE) : FS := fun env S => lift env (fe env S) fun d S1 => match d with
  | .v (.tuple [x, y]) => sSeq (sSetIx fo fi (dC x)) (sSetIx fo2 fi2 (dC y)) env S1
  | _ => .stuck
section
variable {X : Cx} {RX : RXT} {W : WX} {α α' : AM} {H H' : Hp} {σ : St} {S S' : Store} {env : DEnv}
def tIx (X : Cx) (RX : RXT) (W : WX) (fo fi : FE) : TG := fun v σ H Q => ∃ α env S x, Here X α H σ env S ∧ Rp X.K α H v x ∧ ∃ D : Ends, OkS X RX W α H (sSetIx fo fi (dC x) env S) D ∧ ∀ H', D.nx σ H' → Q σ H'
theorem pg_ix {o i : Expr} {fo fi : FE} {pos' : Pos} (ho : DE X RX W o fo) (hi : DE X RX W i fi)
    (ha : ∀ v, assign (.Subscript o i pos') X.env v = (do
      let ov ← holding [v] (eval o X.env)
      let iv ← holding [v, ov] (eval i X.env)
      standAt pos'
      holding [v, ov, iv] (setItem ov iv v)
      release [v, ov, iv] []) := by intro _; rfl) : PG X (.Subscript o i pos') (tIx X RX W fo fi) :=
  pgW (pg_sub ho hi set_list ha) fun v σ H Q ⟨α, env, S, x, h1, r1, D, o1, hQ⟩ => by
    have o1 : OkS X RX W α H (lift env (fo env S) fun d2 S2 => match d2 with
      | .r n => lift env (fi env S2) fun d3 S3 => (match d3 with
        | .v (.int k) => (match S3[n]? with
          | some (.lst xs) => (match ixN xs.length k with
            | some j => .ok (.nx env) (S3.set n (.lst (xs.set j x)))
            | none => .stuck)
          | _ => .stuck)
        | _ => .stuck)
      | _ => .stuck) D := o1
    refine tE_lift h1 o1 fun d2 S2 α2 H2 v2 e2 h2 r2 o2 => ?_
    cases d2 with
    | v y => exact o2.elim
    | k y => exact o2.elim
    | g lo hi => exact o2.elim
    | z kvs => exact o2.elim
    | y kvs => exact o2.elim
    | r n =>
      refine tE_lift h2 o2 fun d3 S3 α3 H3 v3 e3 h3 r3 o3 => ?_
      have r1 := (Rp.ext e3 (Rp.ext e2 r1))
      have r2 := r2.ext e3
      split at o3
      · rename_i k
        cases r3
        split at o3
        · rename_i xs hc
          split at o3
          · rename_i j hj
            obtain ⟨a, rfl, ha, vs, hl, q⟩ := cell_at h3.wr r2 hc (by intro z; cases z)
            have ew := Ext.write (o := .lst (vs.set j v)) h3.wr ha
            refine ⟨a, vs, k, j, rfl, rfl, hl, by rw [q.length]; exact hj, ?_⟩
            exact hQ _ (o3 α3 _ σ ew ⟨h3.re.ext ew, h3.wr.write ha ⟨_, upd_same, (q.set r1 j).ext ew⟩⟩)
          · exact o3.elim
        · exact o3.elim
      · exact o3.elim
theorem ds_ix2 {o i o2 i2 e : Expr} {fo fi fo2 fi2 fe : FE} {p1 p2 pt pos : Pos} {kt : Nat} (hc : X.calm = true) (ho : DE X RX W o fo) (hi : DE X RX W i fi) (ho2 : DE X RX W o2 fo2) (hi2 : DE X RX W i2 fi2) (he : DE X RX W e fe)
    (ha : ∀ v, assign (.Subscript o i p1) X.env v = (do
      let ov ← holding [v] (eval o X.env)
      let iv ← holding [v, ov] (eval i X.env)
      standAt p1
      holding [v, ov, iv] (setItem ov iv v)
      release [v, ov, iv] []) := by intro _; rfl)
    (ha2 : ∀ v, assign (.Subscript o2 i2 p2) X.env v = (do
      let ov ← holding [v] (eval o2 X.env)
      let iv ← holding [v, ov] (eval i2 X.env)
      standAt p2
      holding [v, ov, iv] (setItem ov iv v)
      release [v, ov, iv] []) := by intro _; rfl)
    (hn : (assignEach [.Subscript o i p1, .Subscript o2 i2 p2] X.env).length = 2 := by rfl) (hst : (assignEach [.Subscript o i p1, .Subscript o2 i2 p2] X.env).findIdx? (·.1) = none := by rfl)
    (hs1 : (assignEach [.Subscript o i p1, .Subscript o2 i2 p2] X.env).map (·.2) = assign (.Subscript o i p1) X.env :: (assignEach [.Subscript o2 i2 p2] X.env).map (·.2) := by rfl)
    (hs2 : (assignEach [.Subscript o2 i2 p2] X.env).map (·.2) = assign (.Subscript o2 i2 p2) X.env :: (assignEach [] X.env).map (·.2) := by rfl)
    (hs : swapsWithSole [.Tuple [.Subscript o i p1, .Subscript o2 i2 p2] kt pt] e pos.line X.env = pure false := by rfl) (hw : swappedStores [.Tuple [.Subscript o i p1, .Subscript o2 i2 p2] kt pt] e X.env = pure none := by rfl)
    (h1 : (assignEach [.Tuple [.Subscript o i p1, .Subscript o2 i2 p2] kt pt] X.env).map (·.2) = [assign (.Tuple [.Subscript o i p1, .Subscript o2 i2 p2] kt pt) X.env] := by rfl) :
    DS X RX W (.Assign [.Tuple [.Subscript o i p1, .Subscript o2 i2 p2] kt pt] e pos) (sIx2 fo fi fo2 fi2 fe) :=
  psW (ps_asg he (pg_tup hc (pgs_cons (pg_ix ho hi ha) (pgs_cons (pg_ix ho2 hi2 ha2) pgs_nil hs2) hs1) hn hst) hs hw h1) fun D σ H ⟨α, env, S, h, oo⟩ => tE_lift h oo fun d S1 α1 H1 v e1 h1 r1 o1 => by
    split at o1
    · rename_i x y
      cases r1 with
      | tup hq rs =>
        have hl := rs.length
        cases rs with
        | cons rx rs => cases rs with
          | cons ry rs => cases rs with
            | nil =>
              refine ⟨_, _, rfl, hq.sq, rfl, _, _, rfl, ⟨α1, env, S1, x, h1, rx, ⟨fun σ' H' => ∃ α' env' S', Ext α1 H1 α' H' ∧ Here X α' H' σ' env' S' ∧ OkS X RX W α' H' (sSetIx fo2 fi2 (dC y) env' S') D, D.rt, D.bk, D.ct⟩, ?_, ?_⟩⟩
              · unfold sSeq thenS at o1
                cases hr : sSetIx fo fi (dC x) env S1 with
                | ok u S2 =>
                  rw [hr] at o1
                  cases u with
                  | nx env1 => exact fun a b c e2 h2 => ⟨a, env1, S2, e2, h2, OkS.ext o1 e2⟩
                  | bk env => exact o1
                  | ct env => exact o1
                  | rt d => exact o1
                  | ex x env => exact o1
                | exc x S' => rw [hr] at o1; exact o1
                | stuck => rw [hr] at o1; exact o1
              · rintro H' ⟨α', env', S', e2, h2, o2⟩
                exact ⟨_, _, rfl, ⟨α', env', S', y, h2, ry.ext e2, D, o2, fun H' hd => ⟨rfl, hd⟩⟩⟩
    · exact o1.elim
end
end G

set_option Elab.async false
set_option linter.all false
set_option autoImplicit false
set_option maxRecDepth 100000
set_option maxHeartbeats 4000000
/-! tuple * 0; len of a dict with tuple keys -/
namespace G
open PySem PySem.Spec PyProof.Rows L2
theorem tuple_mul0 (l : Addr) (items : Array Value) (n : Nat) (dd : Option Addr) (sl : Array (Option Value)) (u : Tok) (hi : items.isEmpty = false) :
    Meets (Builtin.«tuple.__mul__» ⟨[.ref l, .int 0 u], []⟩) (fun _ R s => s.heap.get? l = some { cls := .type "tuple", dict := dd, data := .seq items n, slots := sl } ∧
      R (.ok (.ret (Value.ref s.heap.objs.size))) { s with heap := s.heap.push { cls := Value.type "tuple", data := Data.seq #[] }, toks := s.toks }) :=
  .of_wp fun prog w A R s h => by
    obtain ⟨hp, g, d, tk, os⟩ := s
    obtain ⟨hl, h⟩ := h
    have f1 := AutoSeq1.idx_int
    have c1 : (items.isEmpty || (0 : Int) == 1) = false := by rw [hi]; rfl
    wp_walk using wpAny_loadPart' hl
    exact ⟨_, rfl, h⟩
section
variable {X : Cx} {RX : RXT} {W : WX} {α α' : AM} {H H' : Hp} {σ : St} {S S' : Store} {env : DEnv}
def rRep0 (K : PySem.W.Frag) : R2 := fun x y H Q => ∃ l xs, x = .ref l ∧ y = .int 0 ∧ SqT K H l xs ∧ xs ≠ [] ∧ ∀ p, H p = none → Q (.ref p) (upd H p (.tup []))
theorem op_rep0 : OpR X (binaryOp .Mult) (rRep0 X.K) := by
  intro pins s σ H x y v u Q I rx ry h
  obtain ⟨l, xs, rfl, rfl, hT, hne, q⟩ := h
  cases rx
  obtain ⟨t, rfl⟩ := ry
  obtain ⟨its, r, ⟨⟨cls, dd, data, sl⟩, ho, hc, n, hd⟩, hs⟩ := I.tuple hT
  simp only at hc hd
  subst hc hd
  have hle : its.length = xs.length := r.length.symm
  have hi : its.toArray.isEmpty = false := by
    cases its with
    | nil => exact absurd (List.eq_nil_of_length_eq_zero (by simpa using hle.symm)) hne
    | cons a b => rfl
  refine wpAny_binaryOp_repeat_ref (T := "tuple") (U := "int") (by decide) ⟨_, ho, rfl⟩ (fun s' => typeIs_int s' 0 t) noFill_tuple_mul F.fills_int_mul F.slot_int_rmul repeat_tuple F.slot_int_index.lookup
    (call_meets F.slot_int_rmul (typeIs_int s 0 t) F.entry_int_rmul (F.args_int_rmul_2 _ _) (int_rmul_tuple 0 t l its.toArray n dd sl)
      ⟨ho, rfl, ⟨_, ho, rfl⟩, call_meets F.slot_tuple_mul ⟨_, ho, rfl⟩ F.entry_tuple_mul (F.args_tuple_mul_2 _ _) (tuple_mul0 l its.toArray n dd sl t hi) ⟨ho, ?_⟩⟩)
  refine ⟨.ref s.heap.objs.size, _, I.laid (t' := s.toks) (o := .tup []) (fun b ob q => Heap.get?_push_of_some _ q) (Nat.le_refl _) ?_, rfl, q _ (I.hok.fresh (Nat.le_refl _))⟩
  exact ⟨by rw [sizeLine_eq]; decide, _, .nil, IsTup.new _ _⟩
/-- tuple * int, 0 too -/
def dRepZ : D → D → Store → Res D := fun a b S => match a, b with
  | .v (.tuple xs), .v (.int k) => if xs ≠ [] ∧ k = 0 then .ok (.v (.tuple [])) S else dRepT a b S
  | _, _ => .stuck
theorem od_repZ : OpD X RX W (binaryOp .Mult) dRepZ := by
  intro pins s σ α H S x y v u d e Q I rx ry wr r1 r2 o
  have o' := o
  unfold dRepZ at o
  split at o
  · rename_i xs k
    split at o
    · rename_i h
      obtain ⟨hne, rfl⟩ := h
      cases r2
      cases r1 with
      | tup hi q =>
        refine op_rep0 pins s σ H _ _ v u Q I rx ry ⟨_, _, rfl, rfl, hi.sq, fun z => ?_, fun p hp => o.newT wr .nil hp⟩
        subst z; cases q; exact hne rfl
    · exact od_repT pins s σ α H S x y v u _ _ Q I rx ry wr r1 r2 o
  · exact o.elim
/-- len, of a dict with tuple keys too -/
def opLenT : Op := fun ds S => match ds with
  | [d] => (match dtOf S d with | some kvs => okI (kvs.length : Nat) S | none => opLen ds S)
  | _ => .stuck
theorem cd_lenT : CallD X RX W (.builtin "len") opLenT := by
  intro pins s σ α H S vs us ds Q I rv wr rd o
  unfold opLenT at o
  split at o
  · rename_i d
    split at o
    · rename_i kvs hk
      obtain ⟨v, rfl, r⟩ := RepDs.inv1 rd
      obtain ⟨a, rfl, hc⟩ := dtOf_at wr r hk
      obtain ⟨h1, h2, xs, h3, h4⟩ := dt_keyed I hc
      obtain ⟨u, rfl, ru⟩ := vals1 rv
      cases ru
      have hl : xs.length = kvs.length := Paired.length h4
      refine call_len_dictH h1 h3 (by rw [hl]; rw [sizeLine_eq] at h2; omega) ?_
      rw [hl]
      exact ⟨.int kvs.length, H, I.tok _, ⟨_, rfl⟩, o.get wr _ (.int _)⟩
    · exact cd_len pins s σ α H S vs us _ Q I rv wr rd o
  · exact o.elim
end
end G

set_option Elab.async false
set_option linter.all false
set_option autoImplicit false
set_option maxRecDepth 100000
/-! d.update(e): two dicts with whole numbers or texts as keys -/
namespace G
open PySem PySem.Spec PyProof.Rows L2
def dkMerge (kvs more : List (Key × PyData)) : List (Key × PyData) := more.foldl (fun acc q => dkPut acc q.1 q.2) kvs
def dUpdK (fo fi : FE) : FE := fun env S => (fo env S).bind fun o S1 => match dkOf S1 o with
  | some _ => (fi env S1).bind fun i S2 => (match o, i with
    | .r n, .r m => (match S2[n]?, S2[m]? with
      | some (.dk kvs), some (.dk more) => if n ≠ m ∧ kvs.length + more.length ≤ 16000000 then okN (S2.set n (.dk (dkMerge kvs more))) else .stuck
      | _, _ => .stuck)
    | _, _ => .stuck)
  | none => .stuck
section
variable {X : Cx} {RX : RXT} {W : WX} {α α' : AM} {H H' : Hp} {σ : St} {S S' : Store} {env : DEnv} {pos : Pos}
theorem dk_merge {kv : List (Key × V)} {kvs : List (Key × PyData)} {mv : List (Key × V)} {more : List (Key × PyData)} (r2 : KP X.K α H mv more) (r : KP X.K α H kv kvs) : KP X.K α H (mergeK kv mv) (dkMerge kvs more) := by
  induction r2 generalizing kv kvs with
  | nil => exact r
  | @cons p q ps qs h t ih =>
    have step : KP X.K α H (putK kv p.1 p.2) (dkPut kvs q.1 q.2) := by rw [← h.1]; exact dk_put h.2 r
    exact ih step
def tDUpd (td ty : TE) : TE := fun σ H Q => td σ H fun x H1 => ∃ a, x = .ref a ∧ IsD H1 a ∧ ty σ H1 fun y H2 => ∃ (b : Addr) (kvs more : List (Key × V)), y = .ref b ∧ a ≠ b ∧ H2 a = some (.dK kvs) ∧ H2 b = some (.dK more) ∧ kvs.length + more.length ≤ sizeLine ∧ Q .non (upd H2 a (.dK (mergeK kvs more)))
theorem pe_dupd {o e : Expr} {apos cpos : Pos} {td ty : TE} (ho : PE X o td) (he : PE X e ty) (m : M1 X o "update" apos e cpos) : PE X (.Call (.Attribute o "update" apos) [e] [] cpos) (tDUpd td ty) := by
  refine ⟨fun pins s σ H Q I h => ?_⟩
  have walk := ho.run pins s σ H _ I h
  refine wpAny_Call_method m.base m.few m.line PySem.F.plainAttrs_dict PySem.F.slot_dict_update PySem.F.type_dict_update (thn walk fun u s1 ⟨x, H1, I1, rx, a, ex, d, q1⟩ => ?_)
  cases ex
  have eu : u = Value.ref a := rx
  rw [eu]
  have at1 := isD_at I1 d
  refine ⟨at1.1, at1.2.1, ?_⟩
  rw [m.trees]
  have arg := he.run pins s1 σ H1 _ I1 q1
  refine Calls.callWith_builtin rfl (Calls.evalArgs_plain (Calls.spliced_cons (thn arg fun iv s2 ⟨y, H2, I2, ry, b, kvs, more, ey, hne, ea, eb, hl, q2⟩ => Calls.spliced_nil ?_)))
  cases ey
  have ev : iv = Value.ref b := ry
  rw [ev]
  obtain ⟨_, hdA, vs, rel, dd⟩ := dk_of I2.hok ea
  obtain ⟨_, hdB, rs, relB, ddB⟩ := dk_of I2.hok eb
  have small : vs.length + rs.length ≤ sizeLine := by rw [← rel.length, ← relB.length]; exact hl
  refine call_meetsIn PySem.F.slot_dict_update dd.typeIs PySem.F.entry_dict_update (PySem.F.args_dict_update_2 _ _) (meets_dict_update (mixKind X.prog X.w) a b hne hdB) ⟨vs, rs, dd, ddB, small, fun h' ddN _ hsb => ?_⟩
  have relN := KV.merge relB rel
  have few : (mergeK kvs more).length ≤ sizeLine := by
    rw [relN.length]
    exact Nat.le_trans (merged_length_le vs rs) small
  have wr := d_write (t' := s2.toks) (ob := .dK (mergeK kvs more)) I2 (by rw [ea]; exact True.intro) hsb (let ⟨q, _, _, hq, _⟩ := ddN; ⟨q, hq⟩) (dk_new few hdA relN ddN)
  exact ⟨.non, _, wr, rfl, q2⟩
theorem de_updK {o e : Expr} {fo fi : FE} {apos cpos : Pos} (ho : DE X RX W o fo) (he : DE X RX W e fi) (m : M1 X o "update" apos e cpos) : DE X RX W (.Call (.Attribute o "update" apos) [e] [] cpos) (dUpdK fo fi) :=
  peW (pe_dupd ho he m) fun σ H Q ⟨α, env, S, h, oo⟩ => by
    refine tE_seq h oo fun d S1 α1 H1 v e1 h1 r1 o1 => ?_
    split at o1
    · rename_i kvs0 hd
      obtain ⟨n, a, kv0, rfl, rfl, ha, hH, _⟩ := dkOf_at h1.wr r1 hd
      refine ⟨a, rfl, .inl ⟨_, .inl hH⟩, ?_⟩
      refine tE_seq h1 o1 fun i S2 α2 H2 u e2 h2 r2 o2 => ?_
      have r1' := r1.ext e2
      cases i with
      | r m =>
        simp only at o2
        split at o2
        · rename_i kvs more hc hm
          split at o2
          · rename_i hz
            obtain ⟨hnm, hl⟩ := hz
            obtain ⟨a', ea, ha2, kv, hH2, rr⟩ := cell_at h2.wr r1' hc (by intro z; cases z)
            cases ea
            obtain ⟨b, eb, hb2, mv, hB2, rm⟩ := cell_at h2.wr r2 hm (by intro z; cases z)
            cases eb
            have hne : a ≠ b := fun z => hnm (h2.wr.one n m a ha2 (by rw [z]; exact hb2))
            have ew := Ext.write (o := .dK (mergeK kv mv)) h2.wr ha2
            refine ⟨b, kv, mv, rfl, hne, hH2, hB2, ?_, ?_⟩
            · rw [Paired.length rr, Paired.length rm, sizeLine_eq]; omega
            · exact o2 α2 _ ew (h2.wr.write ha2 ⟨_, upd_same, Paired.mapP (dk_merge rm rr) fun _ _ z => ⟨z.1, z.2.ext ew⟩⟩) .non .non
          · exact o2.elim
        · exact o2.elim
      | v x => exact o2.elim
      | k n => exact o2.elim
      | g lo hi => exact o2.elim
      | z kvs => exact o2.elim
      | y kvs => exact o2.elim
    · exact o1.elim
end
end G

set_option Elab.async false
set_option linter.all false
set_option autoImplicit false
set_option maxRecDepth 100000
/-! exceptions of the program: Refused('..'), its making and raising -/
namespace G
open PySem PySem.Spec PyProof.Rows L2
section
variable {X : Cx} {e : Expr} {es : List Expr} {ta : TA} {p1 p2 pos : Pos}
/-- B.__init__(self, ..), B a class of the program that has no __init__ of its own -/
theorem pe_binit {pl : Sem Bool} {B : Str} {CB : Addr} (hg : Gl X B) (hm : X.mg B = some (.ref CB)) (hr : PySem.W.readsIn X.K CB (.type "type") = true) (hga : PySem.W.specialIn X.K (.ref CB) "__getattribute__" = some (some (.builtin "type.__getattribute__")))
    (vV : PySem.W.findCls X.K (.ref CB) (.type "type") "__init__" = some (.val (.builtin "ValueError.__init__"))) (ha : PA X (e :: es) ta) (hdb : (B == ("__debug__" : Str)) = false := by decide)
    (hc : eval (.Call (.Attribute (.Name B p1) "__init__" p2) (e :: es) [] pos) X.env = (do
      let ov ← eval (.Name B p1) X.env
      standAt p2.atName
      let (f, first) ← holding [ov] (getMethod ov "__init__" pl)
      callWith pos f first (backTo pos (starEach (e :: es) X.env)) (backToKw pos (keywordEach [] X.env))) := by rfl)
    (he : starEach (e :: es) X.env = (false, eval e X.env) :: starEach es X.env := by rfl) (hpl : (backTo pos (starEach es X.env)).any (·.1) = false := by rfl) :
    PE X (.Call (.Attribute (.Name B p1) "__init__" p2) (e :: es) [] pos) (tVeI X.K ta) := by
  refine ⟨fun pins s σ H Q I h => ?_⟩
  refine PySem.W.methodCall_KW (ld_glob I hg hm ?_ hdb) hc
  refine PySem.W.method_cls I.kIn hga (PySem.W.cls_value I.kIn hr vV (by decide +kernel) ?_)
  show wpAny _ _ (callWith pos (Value.builtin "ValueError.__init__") [] (backTo pos (starEach (e :: es) X.env)) []) _ _ _
  refine PyProof.Rows.callWith_method1 (thn (ha.run pos pins _ σ H _ (I.tok _) h) fun us s1 ⟨vs, H1, I1, r1, a, C, ws, ev, hl, T, ea, q⟩ => ?_) he hpl
  subst ev
  cases r1 with
  | @cons _ u0 _ ur ra rw' =>
    obtain rfl : u0 = Value.ref a := ra
    have hlen : ur.length ≤ sizeLine := by
      rw [← Paired.length rw', sizeLine_eq]
      omega
    exact oinit_ok T I1 ea hlen fun s' J => ⟨.non, H1, J, rfl, q⟩
end
/-- what __init__(self, word) keeps: the exception's dict bears the word -/
def spInit (K : PySem.W.Frag) : Sp := fun vs H Q _ => ∃ (a C : Addr) (y : V), vs = [.ref a, y] ∧ OexC K C ∧ PySem.W.findIn K (.ref C) "word" = some none ∧ H a = some (exo a C none) ∧
  ∀ dx, H dx = none → dx ≠ a → Q .non (upd (upd H dx (exd dx [("word", y)])) a (exo a C (some dx)))
/-- the class's __init__: B.__init__(self, word); self.word = word -/
theorem init_ok {P : Program} {w : World} {K : PySem.W.Frag} {mg : Str → Option Value} {base : Heap} {B qual : Str} {CB fI : Addr} {fd : FuncData} {st : Stmt} {q1 q2 q3 q4 q5 q6 q7 q8 q9 q10 : Pos} (F : Fun K "__init__" qual st fI fd) (Sc : FnScope ["self", "word"] ["self", "word"] (defScope st))
    (hb : defBody st = [.Expr (.Call (.Attribute (.Name B q1) "__init__" q2) [.Name "self" q3, .Name "word" q4] [] q5) q6, .Assign [.Attribute (.Name "self" q7) "word" q8] (.Name "word" q9) q10])
    (hg : ∀ (cdv : Value) (A : Around) (outer : List Env) (s : Shared) (H : Hp) (E : XK), Gl (cxOf (L2N.CX P w) P w K mg base ["self", "word"] qual (defScope st) fI cdv A outer s H E) B) (v1 : Vis (defScope st) "self") (v2 : Vis (defScope st) "word")
    (hm : mg B = some (.ref CB)) (hr : PySem.W.readsIn K CB (.type "type") = true) (hga : PySem.W.specialIn K (.ref CB) "__getattribute__" = some (some (.builtin "type.__getattribute__")))
    (vV : PySem.W.findCls K (.ref CB) (.type "type") "__init__" = some (.val (.builtin "ValueError.__init__"))) (hdb : (B == ("__debug__" : Str)) = false)
    (hc : ∀ (cdv : Value) (A : Around) (outer : List Env) (s : Shared) (H : Hp) (E : XK), let env := (cxOf (L2N.CX P w) P w K mg base ["self", "word"] qual (defScope st) fI cdv A outer s H E).env
      ∃ pl : Sem Bool, eval (.Call (.Attribute (.Name B q1) "__init__" q2) [.Name "self" q3, .Name "word" q4] [] q5) env = (do
      let ov ← eval (.Name B q1) env
      standAt q2.atName
      let (f, first) ← holding [ov] (getMethod ov "__init__" pl)
      callWith q5 f first (backTo q5 (starEach [.Name "self" q3, .Name "word" q4] env)) (backToKw q5 (keywordEach [] env)))) :
    FnOk P w K mg base (L2N.CX P w) 1 fI fd ["self", "word"] (spInit K) := by
  refine okCN F Sc (fun vs H Q E ⟨a, C, y, e, _⟩ => by rw [e]; rfl) fun cdv A outer s H vs Q E hr' ⟨a, C, y, e, T, hno, ha, hQ⟩ => ?_
  subst e
  rw [hb]
  obtain ⟨pl, hcc⟩ := hc cdv A outer s H E
  refine ⟨_, pss_cons (ps_expr (pe_binit (hg cdv A outer s H E) hm hr hga vV (pa_cons (pe_var (i := 0) rfl v1) (pa_cons (pe_var (i := 1) rfl v2) pa_nil)) hdb hcc))
    (pss_one (ps_ost (pe_var (i := 0) rfl v1) (pe_var (i := 1) rfl v2))), ?_⟩
  refine ⟨.ref a, rfl, y, rfl, a, C, [y], rfl, show 1 ≤ 1000 by decide, T, ha, ?_⟩
  exact ⟨y, rfl, .ref a, rfl, a, C, rfl, T, hno, .inl ⟨ha, fun dx hdx hne => hQ dx hdx hne⟩⟩
/-- C(e): the making of an exception of the program, nothing being handled -/
theorem pmk_N {X : Cx} {CT : CXT} {x : Str} {e : Expr} {es : List Expr} {ta : TA} {p pos : Pos} {C fI : Addr} {n : Nat} {fd : FuncData} {ps : List Str} {sp : Sp} (T : OexC X.K C) (iC : PySem.W.findIn X.K (.ref C) "__init__" = some (some (.ref fI)))
    (tI : PySem.W.typeIn X.K (.ref fI) = some (.type "function")) (Fi : FnOk X.prog X.w X.K X.mg X.base CT n fI fd ps sp) (room : Room (n + 1) X.A) (bd : Binds X.K fd ps []) (pass : Passes CT X (fun _ _ _ => False)) (gl : Gl X x) (hm : X.mg x = some (.ref C)) (args : PA X (e :: es) ta)
    (hdb : (x == ("__debug__" : Str)) = false) (st : starEach (e :: es) X.env = (false, eval e X.env) :: starEach es X.env) (np : (backTo pos (starEach es X.env)).any (·.1) = false) :
    L2N.PMk X (.Call (.Name x p) (e :: es) [] pos) (tMkO C sp [] ta) := by
  intro pn z τ K1 Q inv wish
  obtain ⟨_, _, _, _, ms, _, _, _, _, _, _, _, _, _, _, atC, okms⟩ := T.cls
  refine wpAny_Call_Name_kw (ld_glob inv gl hm ?_ hdb)
  refine PySem.W.callWith_K (h₀ := X.base) inv.ok.mod.kin T.kC (thn (args.run pos pn z τ K1 _ inv wish) fun ws z1 ⟨vs, K2, J1, rel, few, made⟩ => ⟨J1.kIn, ?_⟩) st np
  show wpAny _ _ (call (.ref C) ws) _ _ _
  obtain ⟨h0, ge, dw, tk, osx⟩ := z1
  let N : Addr := h0.objs.size + 1
  let hA : Heap := (h0.push (PySem.W.kdv_tup ws)).push (PySem.HandSPX.excO C h0.objs.size)
  have small : h0.objs.size ≤ N := Nat.le_succ _
  have none1 : K2 N = none := J1.hok.fresh small
  have spA := made N none1
  rw [List.append_nil] at spA
  have old : ∀ b o, h0.get? b = some o → hA.get? b = some o := fun b o q => Heap.get?_push_of_some _ (Heap.get?_push_of_some _ q)
  have here : hA.get? N = some (PySem.HandSPX.excO C h0.objs.size) := by show Heap.get? _ (h0.objs.size + 1) = _; heap_get
  have J2 : Inv X pn τ (upd K2 N (exo N C none)) ⟨hA, ge, dw, tk, osx⟩ := J1.laid (t' := tk) (a := N) (o := exo N C none) (h' := hA) old small (exo_ok here)
  have rel2 : Vals (V.ref N :: vs) (Value.ref N :: ws) := .cons rfl rel
  have len : (Value.ref N :: ws ++ []).length = ps.length := by
    have q := rel2.length
    rw [Fi.len _ _ _ _ spA] at q
    rw [List.append_nil, ← q]
  have lw : ws.length ≤ sizeLine := by rw [← Paired.length rel, sizeLine_eq]; omega
  have bd2 := bd _ (Value.ref N :: ws) J2.kIn len
  rw [List.append_nil] at bd2
  refine wpAny_call (PySem.HandSPX.call_own F.excBase_ValueError (fun Y => PySem.HandSPX.refsVE_contains Y ms okms) (J1.kIn _ _ atC) (PySem.W.looks_findIn J1.kIn iC) (fun me => PySem.W.bind_fn J1.kIn me tI) lw ?_)
  refine codeAny_mono (Fi.run _ X.stack _ _ ⟨Value.ref N :: ws, []⟩ (Value.ref N :: ws) _ _ (fun _ _ _ => False) (room.make C ws []) (J2.env0.make C ws []) bd2 rel2 spA) fun r z2 fine => ?_
  match r, fine with
  | .error er, fine => exact pass pn τ _ _ er z2 J2 fine
  | .ok .next, fine => exact fine.elim
  | .ok .brk, fine => exact fine.elim
  | .ok .cont, fine => exact fine.elim
  | .ok (.ret u), fine =>
    obtain ⟨v, K3, os3, bare3, un3, hok3, rv, ev, d, fs, ea, ed, dnew, q3⟩ := fine
    subst ev
    obtain ⟨h3, g3, d3, t3, os4⟩ := z2
    obtain ⟨t0, G0, J3, kG, gone, at3, na⟩ := mk_end0 (d2 := d3) (t2 := t3) J1 small old un3 hok3 os3 bare3 ea ed dnew
    exact ⟨rv, N, _, _, ⟨G0, g3, d3, t3, os4⟩, _, .ref C, some d, rfl, J3, kG, gone, at3, ⟨rfl, rfl, fun vs hv => by cases hv; rfl⟩, rfl, rfl, na, rfl, bare3, raises_own T.exC T.tyC, q3⟩
/-! ### raise -/
def refused (x : Str) : Exn := ⟨"Refused", [.str x]⟩
/-- raise Refused(e) -/
def sRaiseR (f : FE) : FS := fun env S => lift env (f env S) fun d S1 => match d with
  | .v (.str x) => .ok (.ex (refused x) env) S1
  | _ => .stuck
section
variable {X : Cx} {RX : RXT} {W : WX} {α α' : AM} {H H' : Hp} {σ : St} {S S' : Store} {env : DEnv}
theorem ds_raiseR {x : Str} {C fI : Addr} {k : Nat} {fd : FuncData} {e : Expr} {f : FE} {p p2 pos : Pos} (hc : X.calm = true) (tk : L2N.Takes X W) (T : OexC X.K C) (hno : PySem.W.findIn X.K (.ref C) "word" = some none) (iC : PySem.W.findIn X.K (.ref C) "__init__" = some (some (.ref fI))) (tI : PySem.W.typeIn X.K (.ref fI) = some (.type "function"))
    (F1 : FnOk X.prog X.w X.K X.mg X.base (L2N.CX X.prog X.w) k fI fd ["self", "word"] (spInit X.K)) (hr : Room (k + 1) X.A) (hb : Binds X.K fd ["self", "word"] []) (hx : Passes (L2N.CX X.prog X.w) X (fun _ _ _ => False)) (hg : Gl X x) (hm : X.mg x = some (.ref C)) (he : DE X RX W e f)
    (hRX : ∀ (w : Str) (d : Addr) (α : AM) (H : Hp), H d = some (.xd [("word", V.str w)]) → α.no d → RX (refused w) (.ref C) (some d) α H)
    (hdb : (x == ("__debug__" : Str)) = false := by decide) (hs : starEach [e] X.env = [(false, eval e X.env)] := by rfl) :
    DS X RX W (.Raise (some (.Call (.Name x p) [e] [] p2)) none pos) (sRaiseR f) :=
  psW (L2N.ps_raise hc tk (pmk_N T iC tI F1 hr hb hx hg hm (pa_cons he pa_nil (by rw [hs]; rfl)) hdb hs rfl)) fun D σ H ⟨α, env, S, h, o⟩ => by
    refine tE_lift h o fun d S1 α1 H1 v e1 h1 r1 o1 => ?_
    split at o1
    · rename_i w
      cases r1
      refine ⟨show 1 ≤ 1000 by decide, fun a ha => ⟨a, C, .str w, rfl, T, hno, upd_same, fun dx hdx hne => ⟨rfl, dx, [("word", V.str w)], upd_same, ?_, ?_, ?_⟩⟩⟩
      · rw [upd_ne hne, upd_same]
      · rw [upd_ne hne] at hdx; exact hdx
      · have hd1 : H1 dx = none := by rw [upd_ne hne] at hdx; exact hdx
        have eH : upd (L2.del (upd (upd (upd H1 a (exo a C none)) dx (exd dx [("word", V.str w)])) a (exo a C (some dx))) a) dx (.xd [("word", V.str w)]) = upd H1 dx (.xd [("word", V.str w)]) := by
          funext b
          by_cases hb : b = dx
          · subst hb; rw [upd_same, upd_same]
          · rw [upd_ne hb, upd_ne hb]
            by_cases hba : b = a
            · subst hba; rw [L2.del_same, ha]
            · rw [L2.del_ne hba, upd_ne hba, upd_ne hb, upd_ne hba]
        rw [eH]
        exact o1 α1 _ σ (.ref C) (some dx) (Ext.new h1.wr hd1) ⟨h1.re.ext (Ext.new h1.wr hd1), h1.wr.new hd1⟩ (hRX w dx α1 _ upd_same (h1.wr.fresh hd1))
    · exact o1.elim
end
end G

set_option Elab.async false
set_option linter.all false
set_option autoImplicit false
set_option maxRecDepth 100000
/-! try .. except Refused as e; defs that are called within an except suite -/
namespace G
open PySem PySem.Spec PyProof.Rows L2
/-- how the program's exception stands: its dict bears the word -/
def RXr (C : Addr) : RXT := fun x c dx α H => ∃ (w : Str) (d : Addr), x = refused w ∧ c = .ref C ∧ dx = some d ∧ H d = some (.xd [("word", V.str w)]) ∧ α.no d
theorem rxr_ok (C : Addr) : RXok (RXr C) := fun x c dx α H n ⟨w, d, h1, h2, h3, h4, h5⟩ => ⟨w, d, h1, h2, h3, h4, fun z => h5.1 (List.mem_of_mem_take z), h5.2⟩
theorem rxr_mk (C : Addr) (w : Str) (d : Addr) (α : AM) (H : Hp) (h : H d = some (.xd [("word", V.str w)])) (n : α.no d) : RXr C (refused w) (.ref C) (some d) α H := ⟨w, d, rfl, rfl, rfl, h, n⟩
def wordOf (x : Exn) : Option Str := match x.args with
  | [.str w] => if x.cls = "Refused" then some w else none
  | _ => none
theorem wordOf_refused (w : Str) : wordOf (refused w) = some w := rfl
/-- try: body except Refused as e: hdl; slot i is e's -/
def sTryR (i : Nat) (body : FS) (hdl : Str → FS) : FS := fun env S => match body env S with
  | .ok (.ex x env1) S1 => (match wordOf x with
    | some w => if i < env1.length then (match hdl w (env1.set i none) S1 with
      | .ok (.nx env2) S2 => .ok (.nx (env2.set i none)) S2
      | .ok (.rt d) S2 => .ok (.rt d) S2
      | _ => .stuck) else .stuck
    | none => .stuck)
  | r => r
section
variable {X : Cx} {RX : RXT} {W : WX} {α α' : AM} {H H' : Hp} {σ : St} {S S' : Store} {env : DEnv}
/-- what an except suite is to do: the caught one is a, its word w -/
def tH (X : Cx) (C : Addr) (i : Nat) (g : Str → FS) (a : Addr) (cls : Value) (d : Option Addr) : TS := fun D σ H => ∃ α env S w dd, Here X α H σ env S ∧ σ[i]? = some (some (.ref a)) ∧ cls = .ref C ∧ d = some dd ∧ H dd = some (.xd [("word", V.str w)]) ∧ α.no dd ∧
  OkS X (RXr C) WF α H (g w env S) D
theorem RE.drop {K : PySem.W.Frag} (h : RE K α H σ env) (i : Nat) (u : Option V) : RE K α H (σ.set i u) (env.set i none) := by
  refine ⟨by rw [List.length_set, List.length_set]; exact h.len, fun j d hj => ?_⟩
  by_cases z : i = j
  · subst z
    have hi : i < env.length := by have := (List.getElem?_eq_some_iff.mp hj).1; simpa using this
    rw [List.getElem?_set_self hi] at hj
    cases hj
  · rw [List.getElem?_set_ne z] at hj ⊢
    exact h.get j d hj
theorem ds_tryR {i : Nat} {x n : Str} {C : Addr} {body suite : List Stmt} {b₀ : Stmt} {np pos pos' : Pos} {f : FS} {g : Str → FS} (hs : X.stack = X.env :: X.outer) (hf : X.env.frame = some X.env.locals) (hN : X.N.Nodup) (hi : X.N[i]? = some n) (hln : X.env.kindOf n = some .local) (hc : Names X x (.ref C))
    (tk : L2N.Takes X W) (hex : PySem.W.exmOne X.K (.ref C) (.ref C) = some true) (hil : i < X.N.length)
    (hb : ∀ (W : WX) (pn : List (Addr × Obj)) (xe : Value → Shared → Prop), L2N.Takes (X.tr pn xe) W → PassesOwn (model X.prog X.w) X.A X.env xe → DSs (X.tr pn xe) (RXr C) W body f)
    (hH : ∀ (a : Addr) (oe : Obj) (cls : Value) (d : Option Addr) (pn : List (Addr × Obj)), L2N.Zn cls d oe → (∃ vs, oe.data = .fields vs) → PSs (X.suite a ((a, oe) :: pn)) (b₀ :: suite) (tH X C i g a cls d)) :
    DS X (RXr C) W (.Try body [.ExceptHandler (some (.Name x np)) (some n) (b₀ :: suite) pos'] [] [] pos) (sTryR i f g) :=
  psW (L2N.ps_try_as (tb := fun W => tS X (RXr C) W f) (ts := tH X C i g) (Wout := W) hs hf hN hi hln hc tk hb hH) fun D σ H ⟨α, env, S, h, o⟩ => by
    refine ⟨α, env, S, h, ?_⟩
    unfold sTryR at o
    cases hr : f env S with
    | exc y S1 => rw [hr] at o; exact o.elim
    | stuck => rw [hr] at o; exact o.elim
    | ok u S1 =>
      rw [hr] at o
      cases u with
      | nx env1 => exact o
      | rt d => exact o
      | bk env1 => exact o
      | ct env1 => exact o
      | ex y env1 =>
        intro α1 H1 σ1 c1 dx1 e1 h1 rx
        obtain ⟨w, dd, rfl, rfl, rfl, hd, hno⟩ := rx
        simp only [wordOf_refused] at o
        split at o
        case isFalse => exact o.elim
        rename_i hl
        refine ⟨true, hex, fun _ a ha => ?_, fun z => absurd z (by decide)⟩
        refine ⟨α1, env1.set i none, S1, w, dd, ⟨RE.drop h1.re i _, h1.wr⟩, ?_, rfl, rfl, hd, hno, ?_⟩
        · exact List.getElem?_set_self (by rw [h1.re.len]; exact hl)
        · cases hg : g w (env1.set i none) S1 with
          | exc y S2 => rw [hg] at o; exact o.elim
          | stuck => rw [hg] at o; exact o.elim
          | ok u S2 =>
            rw [hg] at o
            cases u with
            | nx env2 =>
              intro α2 H2 σ2 e2 h2
              exact o α2 H2 (σ2.set i none) (e1.trans e2) ⟨RE.drop h2.re i none, h2.wr⟩
            | rt d => exact fun α2 H2 v e2 w2 rv => o α2 H2 v (e1.trans e2) w2 rv
            | bk env2 => exact o.elim
            | ct env2 => exact o.elim
            | ex y env2 => exact o.elim
/-! ### within the suite -/
theorem hot_suite {a : Addr} {oe : Obj} {cls : Value} {d : Option Addr} {pn : List (Addr × Obj)} (hz : L2N.Zn cls d oe) (hf : ∃ vs, oe.data = .fields vs) : L2H.HotC (X.suite a ((a, oe) :: pn)) := by
  obtain ⟨vs, hv⟩ := hf
  exact ⟨(a, oe), ⟨rfl, vs, hv, hz.2.2 vs hv⟩, List.mem_cons_self⟩
/-- return f(e.word, "..") -/
theorem hh_ret {C : Addr} {i : Nat} {a : Addr} {oe : Obj} {cls : Value} {d : Option Addr} {pn : List (Addr × Obj)} {k : Nat} {f : Addr} {fd : FuncData} {ps : List Str} {c : Fn} {x n m : Str} {j : Nat} {p1 p2 p3 p4 p5 p6 : Pos} (hz : L2N.Zn cls d oe) (hf : ∃ vs, oe.data = .fields vs)
    (T : XfC X.K C) (hno : PySem.W.findIn X.K (.ref C) "word" = some none)
    (F : L2H.FnH X.prog X.w X.K X.mg X.base (L2N.CX X.prog X.w) k f fd ps (spD X.prog X.w X.K (RXr C) c 2)) (room : Room k X.A) (hg : Gl X x) (hm : X.mg x = some (.ref f)) (hk : PySem.W.keepIn X.K (.ref f) = true) (hb : Binds X.K fd ps [])
    (hN : X.N[i]? = some n) (hv : Vis X.env.scope n) (hd1 : (n == ("__debug__" : Str)) = false) (hd2 : (n == ("__classdict__" : Str)) = false) (hdb : (x == ("__debug__" : Str)) = false)
    (hat : attributeBase (.Name n p2) "word" X.env (eval (.Name n p2) X.env) = eval (.Name n p2) X.env)
    (hs1 : starEach [.Attribute (.Name n p2) "word" p3, .Constant (.str m) j p4] X.env = (false, eval (.Attribute (.Name n p2) "word" p3) X.env) :: starEach [.Constant (.str m) j p4] X.env) (hs2 : starEach [.Constant (.str m) j p4] X.env = [(false, eval (.Constant (.str m) j p4) X.env)])
    (hpl : (backTo p5 (starEach [.Constant (.str m) j p4] X.env)).any (·.1) = false) :
    PSs (X.suite a ((a, oe) :: pn)) [.Return (some (.Call (.Name x p1) [.Attribute (.Name n p2) "word" p3, .Constant (.str m) j p4] [] p5)) p6]
      (tH X C i (fun w env S => lift env (trunc S.length (c [.v (.str w), .v (.str m)] S)) fun z S1 => .ok (.rt z) S1) a cls d) := by
  have r := pss_one (ps_ret (pos := p6) (L2H.pe_callH (X := X.suite a ((a, oe) :: pn)) (E := fun _ _ _ _ => False) (q := p1) (pos := p5) F ⟨room.dp, room.un⟩ (hot_suite hz hf) hg hm hk hb
    (fun σ pins H s e s' I cx => by
      obtain ⟨a, B, sI, pins, σ, H, cls, d, e, I, nb, up, sky, na, os, ag, w⟩ := L2N.XE.of_call (W := WF) I (fun _ _ _ h => h) cx
      exact w.elim)
    (pa_cons (pe_xf T hno hz.zc hf (pe_var (X := X.suite a ((a, oe) :: pn)) (i := i) hN hv hd1 hd2) hat) (pa_cons (pe_str (X := X.suite a ((a, oe) :: pn))) pa_nil hs2) hs1) hdb hs1 hpl))
  refine pssW r fun D σ H ⟨α, env, S, w, dd, h, hσ, e1, e2, hd, hn, o⟩ => ?_
  have o : OkS X (RXr C) WF α H (lift env (trunc S.length (c [.v (.str w), .v (.str m)] S)) fun z S1 => .ok (.rt z) S1) D := o
  have op : OkP X (RXr C) WF α H σ (trunc S.length (c [.v (.str w), .v (.str m)] S)) (fun z _ α' H' => ∀ v, RepD X.K α' H' v z → D.rt v H') := by
    cases hr : trunc S.length (c [.v (.str w), .v (.str m)] S) with
    | ok z S1 => rw [hr] at o; exact fun α2 H2 e2 w2 v rv => o α2 H2 v e2 w2 rv
    | exc y S1 => rw [hr] at o; exact fun α2 H2 c2 d2 e2 w2 rx => o α2 H2 σ c2 d2 e2 ⟨h.re.ext e2, w2⟩ rx
    | stuck => rw [hr] at o; exact o
  have o2 := trunc_ok (rxr_ok C) h.wr op
  exact ⟨.ref a, hσ, rfl, e1, dd, [("word", V.str w)], .str w, e2, hd, rfl, rfl, α, [.v (.str w), .v (.str m)], S, .cons (.str w) (.cons (.str m) .nil), h.wr, o2⟩
end
end G

set_option Elab.async false
set_option linter.all false
set_option autoImplicit false
set_option maxRecDepth 100000
/-! what a law with a try needs besides -/
namespace G
open PySem PySem.Spec PyProof.Rows L2
/-- the look of an exception class of the program over ValueError that has an __init__ -/
def oexB (C : Addr) (cd : ClassData) (sl : Array (Option Value)) : Bool := match cd.mro, sl.toList with
  | .ref C' :: ms, [_, _, _, _, some (.builtin nw), _] => C' == C && nw == "ValueError.__new__" && !cd.hasDel && cd.hasDict && PySem.HandSPX.refsVE ms
  | _, _ => false
theorem oexB_ok {K : PySem.W.Frag} {C : Addr} {od : Option Addr} {cd : ClassData} {sl : Array (Option Value)} (look : K.lookup C = some ⟨.type "type", od, .cls cd, sl⟩) (h : oexB C cd sl = true) (h1 : PySem.W.findIn K (.ref C) "__setattr__" = some (some (.builtin "object.__setattr__")))
    (h2 : PySem.W.subIn K (.ref C) (.type "BaseException") = some true) (h3 : PySem.W.typeIn K (.ref C) = some (.type "type")) (h4 : PySem.W.keepIn K (.ref C) = true) : OexC K C := by
  refine ⟨?_, h1, h2, h3, h4⟩
  unfold oexB at h
  split at h
  · rename_i C' ms x0 x1 x2 x3 nw x5 em es
    simp only [Bool.and_eq_true, beq_iff_eq, Bool.not_eq_true'] at h
    obtain ⟨⟨⟨⟨rfl, rfl⟩, hdel⟩, hdict⟩, hms⟩ := h
    obtain ⟨nm, bs, mro, ns, qn, hd, sn, sub, ab, col, del⟩ := cd
    dsimp only at em hdel hdict
    subst em hdel hdict
    obtain ⟨l⟩ := sl
    simp only at es
    subst es
    exact ⟨nm, qn, ns, bs, ms, sn, sub, ab, col, od, x0, x1, x2, x3, x5, look, hms⟩
  · cases h
theorem exm_ok {K : PySem.W.Frag} {C : Addr} {cd : ClassData} (h1 : PySem.W.subIn K (.ref C) (.type "BaseException") = some true) (h2 : PySem.W.clsIn K C = some cd) (h3 : PySem.W.typeIn K (.ref C) = some (.type "type")) (h4 : PySem.W.subIn K (.ref C) (.ref C) = some true) : PySem.W.exmOne K (.ref C) (.ref C) = some true := by
  unfold PySem.W.exmOne PySem.W.kitCls
  simp [h1, h2, h3, h4]
theorem _root_.L2H.RoomH.units {k : Nat} {A : Around} (hr : L2H.RoomH k A) : A.units + 64 < cLine := by have := hr.un; omega
theorem dss_stuck {X : Cx} {RX : RXT} {W : WX} {sts : List Stmt} : DSs X RX W sts (fun _ _ => .stuck) := ⟨fun _ _ _ _ _ _ ⟨_, _, _, _, o⟩ => o.elim⟩
/-- a def called within an except suite -/
theorem fnOkH {P : Program} {w : World} {K : PySem.W.Frag} {mg : Str → Option Value} {base : Heap} {RX : RXT} {x qual : Str} {st : Stmt} {f : Addr} {fd : FuncData} {N ps : List Str} {k : Nat} {body : FS} (F : Fun K x qual st f fd) (Sc : FnScope N ps (defScope st))
    (hbody : ∀ (cdv : Value) (A : Around) (outer : List Env) (s : Shared) (H : Hp) (E : XK) (p : Addr × Obj), L2H.Hot1 A p → L2H.RoomH k (A.deeper (envOfC qual (defScope st) s.heap.objs.size f cdv)) →
      DSs (L2H.cxH (L2N.CX P w) P w K mg base N qual (defScope st) f cdv A outer s H E p) RX (W0 E) (defBody st) body) :
    L2H.FnH P w K mg base (L2N.CX P w) (k + 1) f fd ps (spD P w K RX (runBody ps.length N.length body) ps.length) := by
  obtain ⟨oc, od, kV, doc, pm, an, cdv, ct, osl, rfl, lk, hcd⟩ := F.ex
  refine L2H.fn_ofH lk hcd Sc (fun vs H Q E h => h.1) fun A outer s H vs Q E p hot hr ⟨hl, α, ds, S, r, wr, o⟩ => ?_
  refine ⟨_, hbody cdv A outer s H E p hot hr, α, ds.map some ++ List.replicate (N.length - ds.length) none, S, ⟨start_re r, wr⟩, ?_⟩
  have hd : ds.length = ps.length := by rw [← hl]; exact (Paired.length r).symm
  unfold runBody at o
  rw [if_pos hd] at o
  rw [hd]
  unfold fin at o
  cases hq : body (ds.map some ++ List.replicate (N.length - ps.length) none) S with
  | stuck => rw [hq] at o; exact o
  | exc x S' => rw [hq] at o; exact o.elim
  | ok u S1 =>
    rw [hq] at o
    cases u with
    | bk env => exact o.elim
    | ct env => exact o.elim
    | rt d => exact o
    | nx env1 => exact fun a b c e2 h2 => o a b _ e2 h2.wr .non
    | ex x env => exact fun a b c d e e2 h2 rx => o a b d e e2 h2.wr rx
/-- a def whose plain run ends well -/
def spOk (P : Program) (w : World) (K : PySem.W.Frag) (c : Fn) (n : Nat) : Sp := fun vs H Q E => vs.length = n ∧ ∃ α ds S d S', RepDs K α H vs ds ∧ WR P w K α H S ∧ c ds S = .ok d S' ∧ ∀ α' H' v, Ext α H α' H' → WR P w K α' H' S' → RepD K α' H' v d → Q v H'
theorem fnOk_ok {P : Program} {w : World} {K : PySem.W.Frag} {mg : Str → Option Value} {base : Heap} {CT : CXT} {RX : RXT} {k n : Nat} {f : Addr} {fd : FuncData} {ps : List Str} {c : Fn} (F : FnOk P w K mg base CT k f fd ps (spD P w K RX c n)) : FnOk P w K mg base CT k f fd ps (spOk P w K c n) := by
  have go : ∀ vs H Q E, spOk P w K c n vs H Q E → spD P w K RX c n vs H Q E := fun vs H Q E ⟨hl, α, ds, S, d, S', r, wr, e, q⟩ => ⟨hl, α, ds, S, r, wr, by rw [e]; exact q⟩
  exact ⟨fun vs H Q E h => F.len vs H Q E (go vs H Q E h), fun A outer s H args us vs Q E a b c d h => F.run A outer s H args us vs Q E a b c d (go vs H Q E h)⟩
theorem law_spOk {P : Program} {w : World} {K : PySem.W.Frag} {c : Fn} {n : Nat} {H : Hp} {a : Addr} {ns : List Int} (hl : ns.length ≤ n) (hO : Only H) (hS : SqL K H a (ns.map V.int))
    (h : ∃ S, c [.k (ns.map .int)] [] = .ok (.v (.bool true)) S) : spOk P w K c 1 [.ref a] H (fun v _ => v = .bl true) fun _ _ _ => False := by
  obtain ⟨S, h⟩ := h
  refine ⟨rfl, ⟨[], [], (P, w)⟩, [.k (ns.map .int)], [], .v (.bool true), S, .cons ⟨a, _, rfl, ?_, RpL.mkInts ns⟩ .nil, ⟨rfl, fun i _ _ h => by simp at h, fun i _ _ h => by simp at h, fun i _ h => by simp at h, (fun _ h => by cases h), rfl⟩, h, fun α' H' v e w1 r => by cases r; rfl⟩
  rcases hS with h | h
  · exact .inl ⟨h, by simp [AM.no]⟩
  · exact .inr h
end G

set_option Elab.async false
set_option linter.all false
set_option autoImplicit false
set_option maxRecDepth 100000
/-! x //= e; tuples of texts as constants; words.append(e.word) in an except suite -/
namespace G
open PySem PySem.Spec PyProof.Rows L2
section
variable {X : Cx} {RX : RXT} {W : WX} {α α' : AM} {H H' : Hp} {σ : St} {S S' : Store} {env : DEnv}
def ipDiv : TIp := fun x y H Q => ∃ i j, x = .int i ∧ y = .int j ∧ 0 < j ∧ j < 1073741824 ∧ Q (.int (i / j)) H
theorem ip_div : PIp X .FloorDiv ipDiv := by
  intro pins s σ H x y v u Q I r1 r2 h
  obtain ⟨i, j, rfl, rfl, h1, h2, q⟩ := h
  obtain ⟨t, rfl⟩ := r1
  obtain ⟨t', rfl⟩ := r2
  exact PyProof.Rows.ifloordiv_int (by omega) (by rw [Int.fdiv_eq_ediv_of_nonneg i (by omega)]; exact ⟨.int _, H, I.tok _, ⟨_, rfl⟩, q⟩) (.inl (PyProof.noPylong_small (by omega)))
theorem id_div : IpD X RX W .FloorDiv dDiv := ⟨_, ip_div, fun σ α H S x y d e Q wr rx ry o => by
  unfold dDiv pIc at o
  split at o
  · split at o
    · rename_i hc
      have hc := of_decide_eq_true hc
      cases rx; cases ry; exact ⟨_, _, rfl, rfl, hc.1, hc.2, o.get wr _ (.int _)⟩
    · exact o.elim
  · exact o.elim⟩
end
/-! ### a tuple of texts that the written part holds -/
def strsB : List Str → List Value → Bool
  | [], [] => true
  | x :: xs, .str y _ :: vs => (x == y) && strsB xs vs
  | _, _ => false
theorem strsB_vals : ∀ (xs : List Str) (vs : List Value), strsB xs vs = true → Vals (xs.map V.str) vs
  | [], [], _ => .nil
  | x :: xs, .str y t :: vs, h => by
    simp only [strsB, Bool.and_eq_true, beq_iff_eq] at h
    obtain ⟨rfl, h⟩ := h
    exact .cons ⟨t, rfl⟩ (strsB_vals xs vs h)
  | [], _ :: _, h => by simp [strsB] at h
  | _ :: _, [], h => by simp [strsB] at h
  | _ :: _, .none :: _, h => by simp [strsB] at h
  | _ :: _, .bool _ :: _, h => by simp [strsB] at h
  | _ :: _, .int _ _ :: _, h => by simp [strsB] at h
  | _ :: _, .ref _ :: _, h => by simp [strsB] at h
  | _ :: _, .type _ :: _, h => by simp [strsB] at h
  | _ :: _, .bytes _ _ :: _, h => by simp [strsB] at h
  | _ :: _, .float _ _ :: _, h => by simp [strsB] at h
  | _ :: _, .builtin _ :: _, h => by simp [strsB] at h
  | _ :: _, .notImplemented :: _, h => by simp [strsB] at h
  | _ :: _, .ellipsis :: _, h => by simp [strsB] at h
def TupC (K : PySem.W.Frag) (a : Addr) (xs : List PyData) : Prop := ∃ (vs : List V) (o : Obj) (its : Array Value) (n : Nat), K.lookup a = some o ∧ o.cls = .type "tuple" ∧ o.data = .seq its n ∧ its.size ≤ sizeLine ∧ Vals vs its.toList ∧ ∀ α H, RpL K α H vs xs
theorem rp_strs {K : PySem.W.Frag} {α : AM} {H : Hp} : ∀ xs : List Str, RpL K α H (xs.map V.str) (xs.map PyData.str)
  | [] => .nil
  | x :: xs => .cons (.str x) (rp_strs xs)
theorem tupC_strs {K : PySem.W.Frag} {a : Addr} {od : Option Addr} {its : Array Value} {n : Nat} {sl : Array (Option Value)} {xs : List Str} (look : K.lookup a = some ⟨.type "tuple", od, .seq its n, sl⟩) (h : (decide (its.size ≤ 1000) && strsB xs its.toList) = true) : TupC K a (xs.map .str) := by
  rw [Bool.and_eq_true, decide_eq_true_iff] at h
  exact ⟨_, _, its, n, look, rfl, rfl, Nat.le_trans h.1 (by rw [sizeLine_eq]; decide), strsB_vals _ _ h.2, fun _ _ => rp_strs _⟩
theorem rp_tupC {K : PySem.W.Frag} {a : Addr} {xs : List PyData} (h : TupC K a xs) (α : AM) (H : Hp) : Rp K α H (.ref a) (.tuple xs) := by
  obtain ⟨vs, o, its, n, h1, h2, h3, h4, h5, h6⟩ := h
  exact .tup (.inr ⟨o, its, n, h1, h2, h3, h4, h5⟩) (h6 α H)
section
variable {X : Cx}
/-- words.append(e.word), the suite's one statement -/
theorem hh_app {C : Addr} {i j : Nat} {a : Addr} {oe : Obj} {cls : Value} {d : Option Addr} {pn : List (Addr × Obj)} {wn n : Str} {p1 p2 p3 p4 p5 p6 : Pos} (hz : L2N.Zn cls d oe) (hf : ∃ vs, oe.data = .fields vs)
    (T : XfC X.K C) (hno : PySem.W.findIn X.K (.ref C) "word" = some none)
    (hN : X.N[i]? = some n) (hv : Vis X.env.scope n) (hd1 : (n == ("__debug__" : Str)) = false) (hd2 : (n == ("__classdict__" : Str)) = false)
    (hNj : X.N[j]? = some wn) (hvj : Vis X.env.scope wn) (hd3 : (wn == ("__debug__" : Str)) = false) (hd4 : (wn == ("__classdict__" : Str)) = false)
    (hat : attributeBase (.Name n p3) "word" X.env (eval (.Name n p3) X.env) = eval (.Name n p3) X.env)
    (hbase : attributeBase (.Name wn p1) "append" X.env (eval (.Name wn p1) X.env) = eval (.Name wn p1) X.env)
    (hfew : ((backTo p5 (starEach [.Attribute (.Name n p3) "word" p4] X.env)).all (fun x => !x.1) && (backToKw p5 (keywordEach [] X.env)).all (fun x => x.1.isSome)
      && decide ([Expr.Attribute (.Name n p3) "word" p4].length + ([] : List Keyword).length + (if ([] : List Keyword).isEmpty then 0 else 1) < 30)) = true)
    (hline : (p2.endLine == p5.line) = true)
    (hs : starEach [.Attribute (.Name n p3) "word" p4] X.env = (false, eval (.Attribute (.Name n p3) "word" p4) X.env) :: starEach [] X.env) (hplain : (backTo p5 (starEach [] X.env)).any (·.1) = false)
    (hsw : swapsWith (.Call (.Attribute (.Name wn p1) "append" p2) [.Attribute (.Name n p3) "word" p4] [] p5) none p6.line X.env = pure false) :
    PSs (X.suite a ((a, oe) :: pn)) [.Expr (.Call (.Attribute (.Name wn p1) "append" p2) [.Attribute (.Name n p3) "word" p4] [] p5) p6]
      (tH X C i (fun w => sExpr (dMtL omAppend (dVar j) (dConsA (dC (.str w)) dNilA))) a cls d) := by
  let te : TE := fun σ H Q => ∃ α env S w dd, Here X α H σ env S ∧ σ[i]? = some (some (.ref a)) ∧ cls = .ref C ∧ d = some dd ∧ H dd = some (.xd [("word", V.str w)]) ∧ α.no dd ∧
    OkP X (RXr C) WF α H σ (dMtL omAppend (dVar j) (dConsA (dC (.str w)) dNilA) env S) fun z _ α' H' => ∀ v, RepD X.K α' H' v z → Q v H'
  have pe : PE (X.suite a ((a, oe) :: pn)) (.Call (.Attribute (.Name wn p1) "append" p2) [.Attribute (.Name n p3) "word" p4] [] p5) te := by
    refine ⟨fun pins s σ H Q I ⟨α, env, S, w, dd, h, hσ, e1, e2, hd, hn, oo⟩ => ?_⟩
    have dv : DE (X.suite a ((a, oe) :: pn)) (RXr C) WF (.Name wn p1) (dVar j) := de_var j hNj hvj hd3 hd4
    refine wpAny_Call_method_late hbase hfew hline rfl (thn (dv.run pins s σ H (fun x H1 => ∃ d1 S1 α1 xs, Here X α1 H1 σ env S1 ∧ RepD X.K α1 H1 x d1 ∧ listOf S1 d1 = some xs ∧ H1 dd = some (.xd [("word", V.str w)]) ∧ Want X (RXr C) WF α1 H1 σ (omAppend d1 [.v (.str w)] S1) Q) I (tE_seq (X := X.suite a ((a, oe) :: pn)) h oo fun d1 S1 α1 H1 v x1 h1 r1 o1 => ?_)) fun v s1 ⟨x, H1, I1, r1, d1, S1, α1, xs, h1, rd, hl, hd', o1⟩ => ?_)
    · have o1 : OkP X (RXr C) WF α1 H1 σ (match listOf S1 d1 with | some _ => (dConsA (dC (.str w)) dNilA env S1).bind fun ds S2 => omAppend d1 ds S2 | none => .stuck) (fun z _ α' H' => ∀ v, RepD X.K α' H' v z → Q v H') := o1
      split at o1
      · rename_i xs hl; exact ⟨d1, S1, α1, xs, h1, r1, hl, (x1.keep dd _ hd hn).1, o1⟩
      · exact o1.elim
    · obtain ⟨t1, t2⟩ := tyV_is I1 r1 (tyV_list (X := X) h1.wr rd hl)
      refine ⟨"list", _, PySem.F.plainAttrs_list, PySem.F.slot_list_append, PySem.F.type_list_append, t1, t2, ?_⟩
      have hA := (pa_cons (pe_xf T hno hz.zc hf (pe_var (X := X.suite a ((a, oe) :: pn)) (i := i) hN hv hd1 hd2) hat) pa_nil hs).run p5 pins s1 σ H1 (fun vs H2 => H2 = H1 ∧ vs = [V.str w]) I1 ⟨.ref a, hσ, rfl, e1, dd, [("word", V.str w)], .str w, e2, hd', rfl, rfl, rfl⟩
      have hs' : starEach [.Attribute (.Name n p3) "word" p4] (X.suite a ((a, oe) :: pn)).env = (false, eval (.Attribute (.Name n p3) "word" p4) X.env) :: starEach [] X.env := hs
      rw [hs'] at hA ⊢
      refine Calls.callWith_builtin (by show (false || (backTo p5 (starEach [] X.env)).any (·.1)) = false; rw [hplain] <;> rfl) (Calls.evalArgs_plain ?_)
      exact thn hA fun us s2 ⟨vs, H2, I2, r2, eH, ev⟩ => by
        subst eH ev
        exact md_append (X := X.suite a ((a, oe) :: pn)) (RX := RXr C) (W := WF) pins s2 σ α1 H2 S1 x v d1 [V.str w] us [.v (.str w)] Q I2 r1 r2 h1.wr rd (.cons (.str w) .nil) o1
  refine pssW (pss_one (ps_expr (pos := p6) pe hsw)) fun D σ H ⟨α, env, S, w, dd, h, hσ, e1, e2, hd, hn, o⟩ => ?_
  refine ⟨α, env, S, w, dd, h, hσ, e1, e2, hd, hn, ?_⟩
  have o : OkS X (RXr C) WF α H (lift env (dMtL omAppend (dVar j) (dConsA (dC (.str w)) dNilA) env S) fun _ S1 => .ok (.nx env) S1) D := o
  cases hr : dMtL omAppend (dVar j) (dConsA (dC (.str w)) dNilA) env S with
  | ok z S1 => rw [hr] at o; exact fun α2 H2 x2 w2 v rv => o α2 H2 σ x2 ⟨h.re.ext x2, w2⟩
  | exc y S1 => rw [hr] at o; exact fun α2 H2 c2 d2 x2 w2 rx => o α2 H2 σ c2 d2 x2 ⟨h.re.ext x2, w2⟩ rx
  | stuck => rw [hr] at o; exact o
end
end G

set_option Elab.async false
set_option linter.all false
set_option autoImplicit false
set_option maxRecDepth 100000
/-! a second exception class of the program, one without an __init__ of its own: BadGame -/
namespace G
open PySem PySem.Spec PyProof.Rows L2
def badgame : Exn := ⟨"BadGame", []⟩
/-- how the program's exceptions stand: C's bears its word, CB's bears nothing -/
def RXb (C CB : Addr) : RXT := fun x c dx α H => RXr C x c dx α H ∨ (x = badgame ∧ c = .ref CB ∧ dx = none)
theorem rxb_ok (C CB : Addr) : RXok (RXb C CB) := fun x c dx α H n h => h.elim (fun h => .inl (rxr_ok C x c dx α H n h)) fun h => .inr h
theorem rxb_mk (C CB : Addr) (w : Str) (d : Addr) (α : AM) (H : Hp) (h : H d = some (.xd [("word", V.str w)])) (n : α.no d) : RXb C CB (refused w) (.ref C) (some d) α H := .inl (rxr_mk C w d α H h n)
/-- raise BadGame('..') -/
def sRaiseB : FS := fun env S => .ok (.ex badgame env) S
/-- try: body except BadGame: hdl -/
def sTryB (body hdl : FS) : FS := fun env S => match body env S with
  | .ok (.ex x env1) S1 => if x.args.isEmpty = true then (match hdl env1 S1 with
    | .ok (.nx env2) S2 => .ok (.nx env2) S2
    | .ok (.rt d) S2 => .ok (.rt d) S2
    | _ => .stuck) else .stuck
  | r => r
section
variable {X : Cx} {RX : RXT} {W : WX} {α α' : AM} {H H' : Hp} {σ : St} {S S' : Store} {env : DEnv}
theorem ds_raiseB {x m : Str} {j : Nat} {C CB : Addr} {p p2 p3 pos : Pos} (hc : X.calm = true) (tk : L2N.Takes X W) (q : PySem.W.excIn X.K CB [.type "ValueError", .type "Exception", .type "BaseException", .type "object"] "ValueError.__new__" = true) (gC : X.mg x = some (.ref CB)) (kC : PySem.W.keepIn X.K (.ref CB) = true)
    (h2 : PySem.W.subIn X.K (.ref CB) (.type "BaseException") = some true) (h3 : PySem.W.typeIn X.K (.ref CB) = some (.type "type")) (hg : Gl X x) (hdb : (x == ("__debug__" : Str)) = false := by decide) :
    DS X (RXb C CB) W (.Raise (some (.Call (.Name x p) [.Constant (.str m) j p2] [] p3)) none pos) sRaiseB :=
  psW (L2N.ps_raise hc tk (L2N.pmk_own PySem.F.excBase_ValueError q gC kC (raises_own h2 h3) hg hdb)) fun D σ H ⟨α, env, S, h, o⟩ => o α H σ (.ref CB) none (Ext.refl _ _) h (.inr ⟨rfl, rfl, rfl⟩)
/-- what an except suite without a name is to do -/
def tB (X : Cx) (RX : RXT) (g : FS) (a : Addr) (cls : Value) (d : Option Addr) : TS := fun D σ H => ∃ α env S, Here X α H σ env S ∧ OkS X RX WF α H (g env S) D
theorem hh_plain {RX : RXT} {a : Addr} {oe : Obj} {cls : Value} {d : Option Addr} {pn : List (Addr × Obj)} {sts : List Stmt} {f : FS} (hb : DSs (X.suite a ((a, oe) :: pn)) RX WF sts f) : PSs (X.suite a ((a, oe) :: pn)) sts (tB X RX f a cls d) :=
  pssW hb fun D σ H h => h
theorem ds_tryB {x : Str} {C CB : Addr} {body suite : List Stmt} {b₀ : Stmt} {np pos pos' : Pos} {f g : FS} (hs : X.stack = X.env :: X.outer) (hf : X.env.frame = some X.env.locals) (hc : Names X x (.ref CB)) (tk : L2N.Takes X W) (hex : PySem.W.exmOne X.K (.ref CB) (.ref CB) = some true)
    (hb : ∀ (W : WX) (pn : List (Addr × Obj)) (xe : Value → Shared → Prop), L2N.Takes (X.tr pn xe) W → PassesOwn (model X.prog X.w) X.A X.env xe → DSs (X.tr pn xe) (RXb C CB) W body f)
    (hH : ∀ (a : Addr) (oe : Obj) (cls : Value) (d : Option Addr) (pn : List (Addr × Obj)), L2N.Zn cls d oe → (∃ vs, oe.data = .fields vs) → PSs (X.suite a ((a, oe) :: pn)) (b₀ :: suite) (tB X (RXb C CB) g a cls d)) :
    DS X (RXb C CB) W (.Try body [.ExceptHandler (some (.Name x np)) none (b₀ :: suite) pos'] [] [] pos) (sTryB f g) :=
  psW (L2N.ps_try_many (tb := fun W => tS X (RXb C CB) W f) (Wout := W) (l := [(.ref CB, tB X (RXb C CB) g)]) hs hf tk hb (.cons hc hH .nil)) fun D σ H ⟨α, env, S, h, o⟩ => by
    refine ⟨α, env, S, h, ?_⟩
    unfold sTryB at o
    cases hr : f env S with
    | exc y S1 => rw [hr] at o; exact o.elim
    | stuck => rw [hr] at o; exact o.elim
    | ok u S1 =>
      rw [hr] at o
      cases u with
      | nx env1 => exact o
      | rt d => exact o
      | bk env1 => exact o
      | ct env1 => exact o
      | ex y env1 =>
        intro α1 H1 σ1 c1 dx1 e1 h1 rx
        rcases rx with ⟨w, dd, rfl, rfl, rfl, hd, hno⟩ | ⟨rfl, rfl, rfl⟩
        · exact o.elim
        · have o : OkS X (RXb C CB) W α H (match g env1 S1 with
            | .ok (.nx env2) S2 => .ok (.nx env2) S2
            | .ok (.rt d) S2 => .ok (.rt d) S2
            | _ => .stuck) D := o
          refine ⟨true, hex, fun _ a ha => ⟨α1, env1, S1, h1, ?_⟩, fun z => absurd z (by decide)⟩
          cases hg : g env1 S1 with
          | exc y S2 => rw [hg] at o; exact o.elim
          | stuck => rw [hg] at o; exact o.elim
          | ok u S2 =>
            rw [hg] at o
            cases u with
            | nx env2 => exact fun α2 H2 σ2 e2 h2 => o α2 H2 σ2 (e1.trans e2) h2
            | rt d => exact fun α2 H2 v e2 w2 rv => o α2 H2 v (e1.trans e2) w2 rv
            | bk env2 => exact o.elim
            | ct env2 => exact o.elim
            | ex y env2 => exact o.elim
/-- what an except suite is to do, two classes of exceptions about: the caught one is a, its word w -/
def tHg (X : Cx) (RX : RXT) (C : Addr) (i : Nat) (g : Str → FS) (a : Addr) (cls : Value) (d : Option Addr) : TS := fun D σ H => ∃ α env S w dd, Here X α H σ env S ∧ σ[i]? = some (some (.ref a)) ∧ cls = .ref C ∧ d = some dd ∧ H dd = some (.xd [("word", V.str w)]) ∧ α.no dd ∧
  OkS X RX WF α H (g w env S) D
theorem ds_tryRb {i : Nat} {x n : Str} {C CB : Addr} {body suite : List Stmt} {b₀ : Stmt} {np pos pos' : Pos} {f : FS} {g : Str → FS} (hs : X.stack = X.env :: X.outer) (hf : X.env.frame = some X.env.locals) (hN : X.N.Nodup) (hi : X.N[i]? = some n) (hln : X.env.kindOf n = some .local) (hc : Names X x (.ref C))
    (tk : L2N.Takes X W) (hex : PySem.W.exmOne X.K (.ref C) (.ref C) = some true) (hil : i < X.N.length)
    (hb : ∀ (W : WX) (pn : List (Addr × Obj)) (xe : Value → Shared → Prop), L2N.Takes (X.tr pn xe) W → PassesOwn (model X.prog X.w) X.A X.env xe → DSs (X.tr pn xe) (RXb C CB) W body f)
    (hH : ∀ (a : Addr) (oe : Obj) (cls : Value) (d : Option Addr) (pn : List (Addr × Obj)), L2N.Zn cls d oe → (∃ vs, oe.data = .fields vs) → PSs (X.suite a ((a, oe) :: pn)) (b₀ :: suite) (tHg X (RXb C CB) C i g a cls d)) :
    DS X (RXb C CB) W (.Try body [.ExceptHandler (some (.Name x np)) (some n) (b₀ :: suite) pos'] [] [] pos) (sTryR i f g) :=
  psW (L2N.ps_try_as (tb := fun W => tS X (RXb C CB) W f) (ts := tHg X (RXb C CB) C i g) (Wout := W) hs hf hN hi hln hc tk hb hH) fun D σ H ⟨α, env, S, h, o⟩ => by
    refine ⟨α, env, S, h, ?_⟩
    unfold sTryR at o
    cases hr : f env S with
    | exc y S1 => rw [hr] at o; exact o.elim
    | stuck => rw [hr] at o; exact o.elim
    | ok u S1 =>
      rw [hr] at o
      cases u with
      | nx env1 => exact o
      | rt d => exact o
      | bk env1 => exact o
      | ct env1 => exact o
      | ex y env1 =>
        intro α1 H1 σ1 c1 dx1 e1 h1 rx
        rcases rx with ⟨w, dd, rfl, rfl, rfl, hd, hno⟩ | ⟨rfl, rfl, rfl⟩
        case inr => exact o.elim
        simp only [wordOf_refused] at o
        split at o
        case isFalse => exact o.elim
        rename_i hl
        refine ⟨true, hex, fun _ a ha => ?_, fun z => absurd z (by decide)⟩
        refine ⟨α1, env1.set i none, S1, w, dd, ⟨RE.drop h1.re i _, h1.wr⟩, ?_, rfl, rfl, hd, hno, ?_⟩
        · exact List.getElem?_set_self (by rw [h1.re.len]; exact hl)
        · cases hg : g w (env1.set i none) S1 with
          | exc y S2 => rw [hg] at o; exact o.elim
          | stuck => rw [hg] at o; exact o.elim
          | ok u S2 =>
            rw [hg] at o
            cases u with
            | nx env2 =>
              intro α2 H2 σ2 e2 h2
              exact o α2 H2 (σ2.set i none) (e1.trans e2) ⟨RE.drop h2.re i none, h2.wr⟩
            | rt d => exact fun α2 H2 v e2 w2 rv => o α2 H2 v (e1.trans e2) w2 rv
            | bk env2 => exact o.elim
            | ct env2 => exact o.elim
            | ex y env2 => exact o.elim
/-- the suite: if e.word != "..": return e2 -/
def sWordNe (m : Str) (f : FS) (w : Str) : FS := sIf (fun _ S => if SeqAt.shaped (.str w) && SeqAt.shaped (.str m) then .ok (!PyData.eqv (.str w) (.str m)) S else .stuck) f sNil
theorem hh_ifword {RX : RXT} {C : Addr} {i : Nat} {a : Addr} {oe : Obj} {cls : Value} {d : Option Addr} {pn : List (Addr × Obj)} {n m : Str} {j : Nat} {p2 p3 p4 p5 p6 : Pos} {sts : List Stmt} {f : FS} (hz : L2N.Zn cls d oe) (hf : ∃ vs, oe.data = .fields vs)
    (T : XfC X.K C) (hno : PySem.W.findIn X.K (.ref C) "word" = some none) (hu : X.A.units + 64 < cLine)
    (hN : X.N[i]? = some n) (hv : Vis X.env.scope n) (hd1 : (n == ("__debug__" : Str)) = false) (hd2 : (n == ("__classdict__" : Str)) = false)
    (hat : attributeBase (.Name n p2) "word" X.env (eval (.Name n p2) X.env) = eval (.Name n p2) X.env) (hm : behindInMarks .NotEq (.Constant (.str m) j p4) = false)
    (hb : DSs (X.suite a ((a, oe) :: pn)) RX WF sts f) :
    PSs (X.suite a ((a, oe) :: pn)) [.If (.Compare (.Attribute (.Name n p2) "word" p3) [.NotEq] [.Constant (.str m) j p4] p5) sts [] p6] (tHg X RX C i (sWordNe m f) a cls d) := by
  have t := pt_cmpR (X := X.suite a ((a, oe) :: pn)) (pos := p5) (op_neD (X := X.suite a ((a, oe) :: pn)) hu) (pe_xf (pos := p3) T hno hz.zc hf (pe_var (X := X.suite a ((a, oe) :: pn)) (i := i) hN hv hd1 hd2) hat) (pe_str (X := X.suite a ((a, oe) :: pn)) (j := j) (pos := p4)) hm
  refine pssW (pss_one (ps_if (pos := p6) t hb pss_nil)) fun D σ H ⟨α, env, S, w, dd, h, hσ, e1, e2, hd, hn, o⟩ => ?_
  have o : OkS X RX WF α H (lift env (if SeqAt.shaped (.str w) && SeqAt.shaped (.str m) then .ok (!PyData.eqv (.str w) (.str m)) S else .stuck) fun b S1 => if b then f env S1 else sNil env S1) D := o
  by_cases hsh : (SeqAt.shaped (.str w) && SeqAt.shaped (.str m)) = true
  · rw [if_pos hsh, lift_ok] at o
    have hsh := hsh
    rw [Bool.and_eq_true] at hsh
    refine ⟨.ref a, hσ, rfl, e1, dd, [("word", V.str w)], .str w, e2, hd, rfl, ?_⟩
    refine ⟨.str w, .str m, data_at (X := X) h.wr (d := .v (.str w)) (.str w) rfl, data_at (X := X) h.wr (d := .v (.str m)) (.str m) rfl, hsh.1, hsh.2, _, rfl, ?_⟩
    cases hq : (!PyData.eqv (.str w) (.str m)) with
    | true => rw [hq] at o; exact ⟨α, env, S, h, o⟩
    | false => rw [hq] at o; exact OkS.nx h o
  · rw [if_neg hsh] at o; exact o.elim
end
end G

set_option Elab.async false
set_option linter.all false
set_option autoImplicit false
set_option maxRecDepth 100000
/-! plain laws: comprehensions that change the store, dicts that remember -/
namespace G
open PySem
section
variable {env : DEnv} {S S1 : Store}
/-- a comprehension whose tests change the store, a law P kept -/
theorem compL_thr {p : Pat} {t : FT} {e : FE} (P : Store → Prop) (tt : PyData → Bool) (g : PyData → PyData) : ∀ (xs : List PyData) (S : Store), P S →
    (∀ x ∈ xs, ∀ S, P S → ∃ env1 S1, gPat p x env = some env1 ∧ t env1 S = .ok (tt x) S1 ∧ P S1 ∧ (tt x = true → ∃ S2, e env1 S1 = .ok (.v (g x)) S2 ∧ P S2)) →
    ∃ S', compL p t e env xs S = .ok ((xs.filter tt).map g) S' ∧ P S'
  | [], S, h, _ => ⟨S, rfl, h⟩
  | x :: xs, S, h, k => by
    obtain ⟨env1, S1, e1, e2, h1, e3⟩ := k x List.mem_cons_self S h
    have ih := fun S2 h2 => compL_thr P tt g xs S2 h2 fun y hy => k y (List.mem_cons_of_mem _ hy)
    rw [compL_cons, e1]
    simp only [e2, noX, Res.bind]
    cases hb : tt x with
    | false =>
      obtain ⟨S', q, hq⟩ := ih S1 h1
      refine ⟨S', ?_, hq⟩
      rw [List.filter_cons_of_neg (by rw [hb]; exact Bool.false_ne_true)]
      simpa using q
    | true =>
      obtain ⟨S2, e4, h2⟩ := e3 hb
      obtain ⟨S', q, hq⟩ := ih S2 h2
      refine ⟨S', ?_, hq⟩
      rw [List.filter_cons_of_pos hb]
      simp only [if_true, e4, Res.bind, q]
      rfl
theorem dLc_thr {own : List Nat} {p : Pat} {i : FI} {t : FT} {e : FE} {xs : List PyData} (P : Store → Prop) (tt : PyData → Bool) (g : PyData → PyData) (hi : i env S = .ok xs S1) (hl : xs.length ≤ 16000000) (hP : P S1)
    (h : ∀ x ∈ xs, ∀ S, P S → ∃ env1 S2, gPat p x (wipeE env own) = some env1 ∧ t env1 S = .ok (tt x) S2 ∧ P S2 ∧ (tt x = true → ∃ S3, e env1 S2 = .ok (.v (g x)) S3 ∧ P S3)) :
    ∃ S', dLc own p i t e env S = .ok (.v (.list ((xs.filter tt).map g))) S' ∧ P S' := by
  obtain ⟨S', q, hq⟩ := compL_thr (env := wipeE env own) P tt g xs S1 hP h
  refine ⟨S', ?_, hq⟩
  rw [dLc_ap, hi, bind_okS, if_pos (by simpa [small] using hl), q, bind_okS]
end
/-- a comprehension whose items are drawn: what they are is told by a law V alone -/
theorem compL_ex {p : Pat} {t : FT} {e : FE} {env : DEnv} (P : Store → Prop) (V : PyData → Prop) : ∀ (xs : List PyData) (S : Store), P S →
    (∀ x ∈ xs, ∀ S, P S → ∃ env1 y S2, gPat p x env = some env1 ∧ t env1 S = .ok true S ∧ e env1 S = .ok (.v y) S2 ∧ V y ∧ P S2) →
    ∃ ys S', compL p t e env xs S = .ok ys S' ∧ P S' ∧ ys.length = xs.length ∧ ∀ y ∈ ys, V y
  | [], S, h, _ => ⟨[], S, rfl, h, rfl, by simp⟩
  | x :: xs, S, h, k => by
    obtain ⟨env1, y, S2, e1, e2, e3, hV, h2⟩ := k x List.mem_cons_self S h
    obtain ⟨ys, S', q, hq, hl, hy⟩ := compL_ex P V xs S2 h2 fun y hy => k y (List.mem_cons_of_mem _ hy)
    refine ⟨y :: ys, S', ?_, hq, by simp [hl], fun z hz => ?_⟩
    · rw [compL_cons, e1]
      simp only [e2, e3, noX, Res.bind, if_true, q]
    · rcases List.mem_cons.mp hz with rfl | hz
      · exact hV
      · exact hy z hz
theorem dLc_ex {own : List Nat} {p : Pat} {i : FI} {t : FT} {e : FE} {env : DEnv} {S S1 : Store} {xs : List PyData} (P : Store → Prop) (V : PyData → Prop) (hi : i env S = .ok xs S1) (hl : xs.length ≤ 16000000) (hP : P S1)
    (h : ∀ x ∈ xs, ∀ S, P S → ∃ env1 y S2, gPat p x (wipeE env own) = some env1 ∧ t env1 S = .ok true S ∧ e env1 S = .ok (.v y) S2 ∧ V y ∧ P S2) :
    ∃ ys S', dLc own p i t e env S = .ok (.v (.list ys)) S' ∧ P S' ∧ ys.length = xs.length ∧ ∀ y ∈ ys, V y := by
  obtain ⟨ys, S', q, hq, h3, h4⟩ := compL_ex (env := wipeE env own) P V xs S1 hP h
  refine ⟨ys, S', ?_, hq, h3, h4⟩
  rw [dLc_ap, hi, bind_okS, if_pos (by simpa [small] using hl), q, bind_okS]
/-- a dict comprehension whose tests change the store, a law P kept -/
theorem compD_thr {A : Type} {putA : A → PyData → PyData → Option A} {p : Pat} {t : FT} {fk fv : FE} {env : DEnv} (P : Store → Prop) (tt : PyData → Bool) (gk gv : PyData → PyData) : ∀ (xs : List PyData) (acc acc' : A) (S : Store), P S →
    (xs.filter tt).foldlM (fun a x => putA a (gk x) (gv x)) acc = some acc' →
    (∀ x ∈ xs, ∀ S, P S → ∃ env1 S1, gPat p x env = some env1 ∧ t env1 S = .ok (tt x) S1 ∧ P S1 ∧ (tt x = true → fk env1 S1 = .ok (.v (gk x)) S1 ∧ fv env1 S1 = .ok (.v (gv x)) S1)) →
    ∃ S', compD putA p t fk fv env xs acc S = .ok acc' S' ∧ P S'
  | [], acc, acc', S, h, e, _ => by
    simp at e
    subst e
    exact ⟨S, rfl, h⟩
  | x :: xs, acc, acc', S, h, e, k => by
    obtain ⟨env1, S1, e1, e2, h1, e3⟩ := k x List.mem_cons_self S h
    have k' := fun y hy => k y (List.mem_cons_of_mem _ hy)
    unfold compD
    rw [e1]
    simp only [e2, noX, Res.bind]
    cases hb : tt x with
    | false =>
      rw [List.filter_cons_of_neg (by rw [hb]; exact Bool.false_ne_true)] at e
      simpa using compD_thr P tt gk gv xs acc acc' S1 h1 e k'
    | true =>
      obtain ⟨e4, e5⟩ := e3 hb
      rw [List.filter_cons_of_pos hb, List.foldlM_cons] at e
      cases hp : putA acc (gk x) (gv x) with
      | none => rw [hp] at e; cases e
      | some acc1 =>
        rw [hp] at e
        simp only [if_true, e4, e5, hp, noX]
        exact compD_thr P tt gk gv xs acc1 acc' S1 h1 e k'
theorem dDcG_thr {A : Type} {putA : A → PyData → PyData → Option A} {zeroA acc' : A} {cellA : A → Cell} {own : List Nat} {p : Pat} {i : FI} {t : FT} {fk fv : FE} {env : DEnv} {S S1 : Store} {xs : List PyData} (P : Store → Prop) (tt : PyData → Bool) (gk gv : PyData → PyData) (hi : i env S = .ok xs S1) (hl : xs.length ≤ 16000000) (hP : P S1)
    (hf : (xs.filter tt).foldlM (fun a x => putA a (gk x) (gv x)) zeroA = some acc')
    (h : ∀ x ∈ xs, ∀ S, P S → ∃ env1 S1, gPat p x (wipeE env own) = some env1 ∧ t env1 S = .ok (tt x) S1 ∧ P S1 ∧ (tt x = true → fk env1 S1 = .ok (.v (gk x)) S1 ∧ fv env1 S1 = .ok (.v (gv x)) S1)) :
    ∃ S', dDcG putA zeroA cellA own p i t fk fv env S = .ok (.r S'.length) (S' ++ [cellA acc']) ∧ P S' := by
  obtain ⟨S', q, hq⟩ := compD_thr (env := wipeE env own) P tt gk gv xs zeroA acc' S1 hP hf h
  refine ⟨S', ?_, hq⟩
  unfold dDcG
  rw [hi, bind_okS, if_pos (by simpa [small] using hl), q, bind_okS]
theorem sSeq_assoc (f g h : FS) : sSeq (sSeq f g) h = sSeq f (sSeq g h) := by
  funext env S
  unfold sSeq
  cases f env S with
  | exc x S1 => rfl
  | stuck => rfl
  | ok o S1 => cases o <;> rfl
/-! what a run answers, as data -/
def resX (r : Res D) : Option (PyData × Store) := match r with
  | .ok (.v x) S => some (x, S)
  | _ => none
theorem resX_ok {r : Res D} {x : PyData} {T : Store} (h : resX r = some (x, T)) : r = .ok (.v x) T := by
  unfold resX at h
  split at h
  · injection h with h
    injection h with h1 h2
    subst h1 h2
    rfl
  · cases h
def resT (r : Res Bool) : Option (Bool × Store) := match r with
  | .ok x S => some (x, S)
  | _ => none
theorem resT_ok {r : Res Bool} {x : Bool} {T : Store} (h : resT r = some (x, T)) : r = .ok x T := by
  unfold resT at h
  split at h
  · injection h with h
    injection h with h1 h2
    subst h1 h2
    rfl
  · cases h
def resV (n : Nat) (r : Res D) : Option (PyData × Store) := match r with
  | .ok (.v x) S => some (x, S.take n)
  | _ => none
theorem resV_ok {n : Nat} {r : Res D} {x : PyData} {T : Store} (h : resV n r = some (x, T)) : trunc n r = .ok (.v x) T := by
  unfold resV at h
  split at h
  · injection h with h
    injection h with h1 h2
    subst h1 h2
    rfl
  · cases h
def post (r : Res Out) : Option (DEnv × Store) := match r with
  | .ok (.nx e) S => some (e, S)
  | _ => none
theorem post_ok {r : Res Out} {e : DEnv} {S : Store} (h : post r = some (e, S)) : r = .ok (.nx e) S := by
  unfold post at h
  split at h
  · injection h with h
    injection h with h1 h2
    subst h1 h2
    rfl
  · cases h
def decT : PyData → List Int
  | .tuple xs => xs.map fun | .int i => i | _ => 0
  | _ => []
theorem dec_enc (c : List Int) : decT (encT c) = c := by
  unfold encT decT
  simp only [List.map_map]
  exact List.map_id c
theorem all_of {α : Type} {l : List α} {p : α → Bool} (h : l.all p = true) {c : α} (hc : c ∈ l) : p c = true := List.all_eq_true.mp h c hc
theorem filt_dec (p : List Int → Bool) (l : List (List Int)) : (l.map encT).filter (fun x => p (decT x)) = (l.filter p).map encT := by
  rw [List.filter_map]
  congr 1
  refine List.filter_congr fun c _ => ?_
  show p (decT (encT c)) = p c
  rw [dec_enc]
theorem at_all {α β : Type} {l : List α} {f g : α → β} (h : l.map f = l.map g) {c : α} (hc : c ∈ l) : f c = g c := List.map_inj_left.mp h c hc
/-- _law_same of the same -/
theorem same_call {k : Nat} {f g : FE} {env : DEnv} {S S1 S2 : Store} {x : PyData} (h : okD k x) (h1 : f env S = .ok (.v x) S1) (h2 : g env S1 = .ok (.v x) S2) : dCall (f__law_same k) (dConsA f (dConsA g dNilA)) [] env S = .ok (.v (.bool true)) S2 := by
  simp only [dCall_ap, dConsA_ap, dNilA_ap, h1, h2, bind_okS, List.append_nil, same_ok k x S2 h, trunc_v, List.take_length]
theorem okD_int (k : Nat) (i : Int) : okD (k + 1) (.int i) := by simp [okD]
theorem okD_bool (k : Nat) (i : Bool) : okD (k + 1) (.bool i) := by simp [okD]
theorem okD_encT (k : Nat) (l : List Int) (h : l.length ≤ 1000000) : okD (k + 2) (encT l) := by
  unfold encT
  simp only [okD, List.length_map]
  refine ⟨h, fun x hx => ?_⟩
  obtain ⟨i, _, rfl⟩ := List.mem_map.mp hx
  exact okD_int k i
theorem ints_of {p : Int → Prop} : ∀ {ys : List PyData}, (∀ y ∈ ys, ∃ i, y = .int i ∧ p i) → ∃ l : List Int, ys = l.map .int ∧ l.length = ys.length ∧ ∀ i ∈ l, p i
  | [], _ => ⟨[], rfl, rfl, by simp⟩
  | y :: ys, h => by
    obtain ⟨i, rfl, hi⟩ := h y List.mem_cons_self
    obtain ⟨l, rfl, hl, hp⟩ := ints_of fun z hz => h z (List.mem_cons_of_mem _ hz)
    exact ⟨i :: l, rfl, by simp, fun j hj => by
      rcases List.mem_cons.mp hj with rfl | hj
      · exact hi
      · exact hp j hj⟩
/-- the draws' cell, wherever it stands -/
def Drw (ns : List Int) (n : Nat) (S0 S : Store) : Prop := ∃ p q h : Int, 0 ≤ p ∧ S = S0.set n (dst ns p q h)
theorem Drw.at_n {ns : List Int} {n : Nat} {S0 S : Store} (hn : n < S0.length) (h : Drw ns n S0 S) : ∃ p q h, 0 ≤ p ∧ S[n]? = some (dst ns p q h) := by
  obtain ⟨p, q, h, hp, rfl⟩ := h
  exact ⟨p, q, h, hp, by simp [hn]⟩
/-- one draw -/
theorem draw_d {ns : List Int} {n : Nat} {S0 S : Store} (hn : n < S0.length) (hD : Drw ns n S0 S) (limit : Int) (h0 : 0 < limit) (h1 : limit < 1073741824) :
    ∃ (v : Int) (S' : Store), 0 ≤ v ∧ v < limit ∧ Drw ns n S0 S' ∧ ∀ (env : DEnv) (fd fl : FE), fd env S = .ok (.r n) S → fl env S = .ok (.v (.int limit)) S → dCall f__law_draw (dConsA fd (dConsA fl dNilA)) [] env S = .ok (.v (.int v)) S' := by
  obtain ⟨p, q, h, hp, hS⟩ := hD.at_n hn
  obtain ⟨v, p', q', h', v0, v1, hp', e⟩ := draw_call hS hp limit h0 h1
  obtain ⟨a, b, c, _, rfl⟩ := hD
  exact ⟨v, _, v0, v1, ⟨p', q', h', hp', by rw [List.set_set]⟩, e⟩
/-! ### keys -/
structure Keys (κ : Type) where
  enc : κ → PyData
  kOf : κ → NestedKey
  inj : ∀ k l, kOf k = kOf l → k = l
  keyN : ∀ k, G.keyN (enc k) = some (kOf k)
  keyT : ∀ k, G.keyT (enc k) = some (kOf k)
theorem keyNs_ints : ∀ k : List Int, keyNs (k.map .int) = some (k.map .num)
  | [] => by simp [keyNs]
  | n :: k => by simp [keyNs, keyN, keyNs_ints k]
def kOf (k : List Int) : NestedKey := .tup (k.map .num)
theorem keyN_encT (k : List Int) : keyN (encT k) = some (kOf k) := by unfold encT kOf; rw [keyN, keyNs_ints]; rfl
theorem num_inj : ∀ {k l : List Int}, k.map NestedKey.num = l.map NestedKey.num → k = l
  | [], [], _ => rfl
  | [], _ :: _, h => by cases h
  | _ :: _, [], h => by cases h
  | a :: k, b :: l, h => by
    rw [List.map_cons, List.map_cons] at h
    injection h with h1 h2
    injection h1 with h1
    rw [h1, num_inj h2]
theorem kOf_inj {k l : List Int} (h : kOf k = kOf l) : k = l := by
  unfold kOf at h
  injection h with h
  exact num_inj h
theorem num_depth : ∀ k : List Int, NestedKey.depthAll (k.map .num) ≤ 1
  | [] => by simp [NestedKey.depthAll]
  | n :: k => by
    have := num_depth k
    simp only [List.map_cons, NestedKey.depthAll, NestedKey.depth]
    omega
theorem kOf_depth (k : List Int) : (kOf k).depth ≤ 2 := by
  have := num_depth k
  unfold kOf
  simp only [NestedKey.depth]
  omega
theorem keyT_encT (k : List Int) : keyT (encT k) = some (kOf k) := by
  have h := keyN_encT k
  have d : (kOf k).depth ≤ 8 := Nat.le_trans (kOf_depth k) (by decide)
  unfold encT at h ⊢
  show (keyN _).bind _ = _
  rw [h]
  show (if _ then _ else _) = _
  rw [if_pos d]
def intsK : Keys (List Int) := ⟨encT, kOf, fun _ _ => kOf_inj, keyN_encT, keyT_encT⟩
theorem few_of {κ : Type} [DecidableEq κ] : ∀ (ks dom : List κ), ks.Nodup → (∀ k ∈ ks, k ∈ dom) → ks.length ≤ dom.length
  | [], _, _, _ => Nat.zero_le _
  | a :: ks, dom, h, h2 => by
    have ⟨h3, h4⟩ := List.nodup_cons.mp h
    have := few_of ks (dom.erase a) h4 fun k hk => (List.mem_erase_of_ne fun e => h3 (by subst e; exact hk)).mpr (h2 k (List.mem_cons_of_mem _ hk))
    have h5 := h2 a List.mem_cons_self
    have := List.length_erase_of_mem h5
    have := List.length_pos_of_mem h5
    simp only [List.length_cons]
    omega
/-! ### a dict that remembers -/
section
variable {κ : Type} [DecidableEq κ] (Y : Keys κ) (spec : κ → PyData)
def memoD (ks : List κ) : List (PyData × PyData) := ks.map fun k => (Y.enc k, spec k)
theorem memo_get (k : κ) : ∀ ks, dtGet (memoD Y spec ks) (Y.kOf k) = if k ∈ ks then some (spec k) else none
  | [] => rfl
  | l :: ks => by
    have ih := memo_get k ks
    unfold dtGet memoD at ih ⊢
    rw [List.map_cons, List.find?_cons]
    by_cases e : l = k
    · subst e
      simp [Y.keyN]
    · have : decide (keyN (Y.enc l) = some (Y.kOf k)) = false := decide_eq_false fun z => e (Y.inj _ _ (Option.some.inj ((Y.keyN l).symm.trans z)))
      simp only [this]
      rw [ih]
      simp [List.mem_cons, Ne.symm e]
theorem memo_put (k : κ) (ks : List κ) (h : k ∉ ks) : dtPut (memoD Y spec ks) (Y.kOf k) (Y.enc k) (spec k) = memoD Y spec (ks ++ [k]) := by
  unfold dtPut
  rw [memo_get, if_neg h]
  simp [memoD]
theorem memo_put2 (k : κ) (ks : List κ) (h : k ∈ ks) : dtPut (memoD Y spec ks) (Y.kOf k) (Y.enc k) (spec k) = memoD Y spec ks := by
  unfold dtPut
  rw [memo_get, if_pos h]
  simp only [Option.isSome_some, if_true]
  unfold memoD
  rw [List.map_map]
  refine List.map_congr_left fun l _ => ?_
  show (if keyN (Y.enc l) = some (Y.kOf k) then (Y.enc l, spec k) else (Y.enc l, spec l)) = _
  split
  · rename_i e
    rw [Y.keyN] at e
    rw [Y.inj _ _ (Option.some.inj e)]
  · rfl
/-- the store S0 with a dict at n that remembers -/
def Mem (dom : List κ) (n : Nat) (S0 S : Store) : Prop := ∃ ks : List κ, ks.Nodup ∧ (∀ k ∈ ks, k ∈ dom) ∧ S = S0.set n (.dt (memoD Y spec ks))
variable {Y spec} {dom : List κ} {n : Nat} {S0 : Store}
theorem Mem.len {S : Store} (h : Mem Y spec dom n S0 S) : S.length = S0.length := by
  obtain ⟨_, _, _, rfl⟩ := h
  simp
theorem Mem.take {S : Store} (h : Mem Y spec dom n S0 S) {k : Nat} (hk : k = S0.length) : S.take k = S := by
  rw [List.take_of_length_le]; rw [h.len, hk]; exact Nat.le_refl _
theorem Mem.new {S : Store} (h : S = S0.set n (.dt [])) : Mem Y spec dom n S0 S := ⟨[], by simp, by simp, h⟩
/-- a dict is asked, filled and read -/
theorem memo_body (hn : n < S0.length) (few : dom.length < 16000000) {i j : Nat} {env : DEnv} {E : FE} {c : κ} (hi : env[i]? = some (some (.v (Y.enc c)))) (hj : env[j]? = some (some (.r n))) (hd : c ∈ dom)
    (hE : ∀ S, Mem Y spec dom n S0 S → ∃ S', E env S = .ok (.v (spec c)) S' ∧ Mem Y spec dom n S0 S') : ∀ S, Mem Y spec dom n S0 S →
    ∃ S', sSeq (sIf (dTest (dBin (dInT true) (dVar i) (dVar j))) (sSetT (dVar j) (dVar i) E) sNil) (sRet (dBin dIxT (dVar j) (dVar i))) env S = .ok (.rt (.v (spec c))) S' ∧ Mem Y spec dom n S0 S' := by
  intro S hM
  obtain ⟨ks, nd, sub, rfl⟩ := hM
  have at_n : ∀ ks : List κ, (S0.set n (.dt (memoD Y spec ks)))[n]? = some (.dt (memoD Y spec ks)) := fun ks => by simp [hn]
  have dt_n : ∀ ks : List κ, dtOf (S0.set n (.dt (memoD Y spec ks))) (.r n) = some (memoD Y spec ks) := fun ks => by simp only [dtOf, at_n]
  have get : ∀ ks : List κ, c ∈ ks → dIxT (.r n) (.v (Y.enc c)) (S0.set n (.dt (memoD Y spec ks))) = .ok (.v (spec c)) (S0.set n (.dt (memoD Y spec ks))) := fun ks hc => by
    unfold dIxT
    rw [dt_n]
    simp only [Y.keyT, Option.bind_some, memo_get, if_pos hc]
  have isin : ∀ ks : List κ, dInT true (.v (Y.enc c)) (.r n) (S0.set n (.dt (memoD Y spec ks))) = .ok (.v (.bool (!(decide (c ∈ ks))))) (S0.set n (.dt (memoD Y spec ks))) := fun ks => by
    unfold dInT
    rw [dt_n]
    simp only [Y.keyT, memo_get]
    by_cases hc : c ∈ ks <;> simp [hc, okB]
  have vi : ∀ S, dVar i env S = .ok (.v (Y.enc c)) S := fun _ => by rw [dVar_ap, hi]
  have vj : ∀ S, dVar j env S = .ok (.r n) S := fun _ => by rw [dVar_ap, hj]
  rw [sSeq_ap, sIf_ap, dTest_ap, dBin_ap]
  simp only [vi, vj, bind_okS, isin, asB_b, lift_ok]
  by_cases hc : c ∈ ks
  · simp only [hc, decide_true, Bool.not_true, Bool.false_eq_true, if_false, sNil_ap, thenS_nx]
    refine ⟨_, ?_, ks, nd, sub, rfl⟩
    unfold sRet
    rw [dBin_ap, vj, bind_okS, vi, bind_okS, get ks hc, lift_ok]
  · simp only [hc, decide_false, Bool.not_false, if_true]
    obtain ⟨S', e1, ks', nd', sub', rfl⟩ := hE _ ⟨ks, nd, sub, rfl⟩
    have put : ∃ ks2 : List κ, ks2.Nodup ∧ (∀ k ∈ ks2, k ∈ dom) ∧ c ∈ ks2 ∧ dtPut (memoD Y spec ks') (Y.kOf c) (Y.enc c) (spec c) = memoD Y spec ks2 := by
      by_cases h2 : c ∈ ks'
      · exact ⟨ks', nd', sub', h2, memo_put2 Y spec c ks' h2⟩
      · refine ⟨ks' ++ [c], ?_, fun k hk => ?_, by simp, memo_put Y spec c ks' h2⟩
        · exact List.nodup_append.mpr ⟨nd', by simp, fun a ha b hb => by simp at hb; subst hb; exact fun e => h2 (e ▸ ha)⟩
        · rcases List.mem_append.mp hk with z | z
          · exact sub' k z
          · simp at z; subst z; exact hd
    obtain ⟨ks2, a1, a2, a3, a4⟩ := put
    have st : sSetT (dVar j) (dVar i) E env (S0.set n (.dt (memoD Y spec ks))) = .ok (.nx env) (S0.set n (.dt (memoD Y spec ks2))) := by
      unfold sSetT
      rw [e1, lift_ok]
      simp only [vj, vi, lift_ok, at_n, Y.keyT]
      have := few_of _ _ nd' sub'
      rw [if_pos (by unfold memoD; rw [List.length_map]; omega), a4, List.set_set]
    rw [st, thenS_nx]
    refine ⟨_, ?_, ks2, a1, a2, rfl⟩
    unfold sRet
    rw [dBin_ap, vj, bind_okS, vi, bind_okS, get ks2 a3, lift_ok]
end
end G

set_option Elab.async false
set_option linter.all false
set_option autoImplicit false
set_option maxRecDepth 100000
/-! a dict that remembers, its key and its name made by expressions -/
namespace G
open PySem
section
variable {κ : Type} [DecidableEq κ] {Y : Keys κ} {spec : κ → PyData} {dom : List κ} {n : Nat} {S0 : Store}
/-- a dict is filled -/
theorem memo_set (hn : n < S0.length) (few : dom.length < 16000000) {fk fd : FE} {env : DEnv} {E : FE} {c : κ} (hk : ∀ S, fk env S = .ok (.v (Y.enc c)) S) (hj : ∀ S, fd env S = .ok (.r n) S) (hd : c ∈ dom)
    (hE : ∀ S, Mem Y spec dom n S0 S → ∃ S', E env S = .ok (.v (spec c)) S' ∧ Mem Y spec dom n S0 S') : ∀ S, Mem Y spec dom n S0 S →
    ∃ ks, ks.Nodup ∧ (∀ k ∈ ks, k ∈ dom) ∧ c ∈ ks ∧ sSetT fd fk E env S = .ok (.nx env) (S0.set n (.dt (memoD Y spec ks))) := by
  intro S hM
  have at_n : ∀ ks : List κ, (S0.set n (.dt (memoD Y spec ks)))[n]? = some (.dt (memoD Y spec ks)) := fun ks => by simp [hn]
  obtain ⟨S', e1, ks', nd', sub', rfl⟩ := hE _ hM
  have put : ∃ ks2 : List κ, ks2.Nodup ∧ (∀ k ∈ ks2, k ∈ dom) ∧ c ∈ ks2 ∧ dtPut (memoD Y spec ks') (Y.kOf c) (Y.enc c) (spec c) = memoD Y spec ks2 := by
    by_cases h2 : c ∈ ks'
    · exact ⟨ks', nd', sub', h2, memo_put2 Y spec c ks' h2⟩
    · refine ⟨ks' ++ [c], ?_, fun k hk => ?_, by simp, memo_put Y spec c ks' h2⟩
      · exact List.nodup_append.mpr ⟨nd', by simp, fun a ha b hb => by simp at hb; subst hb; exact fun e => h2 (e ▸ ha)⟩
      · rcases List.mem_append.mp hk with z | z
        · exact sub' k z
        · simp at z; subst z; exact hd
  obtain ⟨ks2, a1, a2, a3, a4⟩ := put
  refine ⟨ks2, a1, a2, a3, ?_⟩
  unfold sSetT
  rw [e1, lift_ok]
  simp only [hj, hk, lift_ok, at_n, Y.keyT]
  have := few_of _ _ nd' sub'
  rw [if_pos (by unfold memoD; rw [List.length_map]; omega), a4, List.set_set]
/-- a dict is asked, filled and read; B fills it -/
theorem memo_bodyB (hn : n < S0.length) {fk fd : FE} {env env' : DEnv} {B : FS} {c : κ} (hk : ∀ S, fk env S = .ok (.v (Y.enc c)) S) (hj : ∀ S, fd env S = .ok (.r n) S) (hk' : ∀ S, fk env' S = .ok (.v (Y.enc c)) S) (hj' : ∀ S, fd env' S = .ok (.r n) S)
    (hB : ∀ S, Mem Y spec dom n S0 S → ∃ ks, ks.Nodup ∧ (∀ k ∈ ks, k ∈ dom) ∧ c ∈ ks ∧ B env S = .ok (.nx env') (S0.set n (.dt (memoD Y spec ks)))) : ∀ S, Mem Y spec dom n S0 S →
    ∃ S', sSeq (sIf (dTest (dBin (dInT true) fk fd)) B sNil) (sRet (dBin dIxT fd fk)) env S = .ok (.rt (.v (spec c))) S' ∧ Mem Y spec dom n S0 S' := by
  intro S hM
  obtain ⟨ks, nd, sub, rfl⟩ := hM
  have at_n : ∀ ks : List κ, (S0.set n (.dt (memoD Y spec ks)))[n]? = some (.dt (memoD Y spec ks)) := fun ks => by simp [hn]
  have dt_n : ∀ ks : List κ, dtOf (S0.set n (.dt (memoD Y spec ks))) (.r n) = some (memoD Y spec ks) := fun ks => by simp only [dtOf, at_n]
  have get : ∀ ks : List κ, c ∈ ks → dIxT (.r n) (.v (Y.enc c)) (S0.set n (.dt (memoD Y spec ks))) = .ok (.v (spec c)) (S0.set n (.dt (memoD Y spec ks))) := fun ks hc => by
    unfold dIxT
    rw [dt_n]
    simp only [Y.keyT, Option.bind_some, memo_get, if_pos hc]
  have isin : ∀ ks : List κ, dInT true (.v (Y.enc c)) (.r n) (S0.set n (.dt (memoD Y spec ks))) = .ok (.v (.bool (!(decide (c ∈ ks))))) (S0.set n (.dt (memoD Y spec ks))) := fun ks => by
    unfold dInT
    rw [dt_n]
    simp only [Y.keyT, memo_get]
    by_cases hc : c ∈ ks <;> simp [hc, okB]
  rw [sSeq_ap, sIf_ap, dTest_ap, dBin_ap]
  simp only [hk, hj, bind_okS, isin, asB_b, lift_ok]
  by_cases hc : c ∈ ks
  · simp only [hc, decide_true, Bool.not_true, Bool.false_eq_true, if_false, sNil_ap, thenS_nx]
    refine ⟨_, ?_, ks, nd, sub, rfl⟩
    unfold sRet
    rw [dBin_ap, hj, bind_okS, hk, bind_okS, get ks hc, lift_ok]
  · simp only [hc, decide_false, Bool.not_false, if_true]
    obtain ⟨ks2, a1, a2, a3, st⟩ := hB _ ⟨ks, nd, sub, rfl⟩
    rw [st, thenS_nx]
    refine ⟨_, ?_, ks2, a1, a2, rfl⟩
    unfold sRet
    rw [dBin_ap, hj', bind_okS, hk', bind_okS, get ks2 a3, lift_ok]
theorem memo_bodyE (hn : n < S0.length) (few : dom.length < 16000000) {fk fd : FE} {env : DEnv} {E : FE} {c : κ} (hk : ∀ S, fk env S = .ok (.v (Y.enc c)) S) (hj : ∀ S, fd env S = .ok (.r n) S) (hd : c ∈ dom)
    (hE : ∀ S, Mem Y spec dom n S0 S → ∃ S', E env S = .ok (.v (spec c)) S' ∧ Mem Y spec dom n S0 S') : ∀ S, Mem Y spec dom n S0 S →
    ∃ S', sSeq (sIf (dTest (dBin (dInT true) fk fd)) (sSetT fd fk E) sNil) (sRet (dBin dIxT fd fk)) env S = .ok (.rt (.v (spec c))) S' ∧ Mem Y spec dom n S0 S' :=
  memo_bodyB hn hk hj hk hj fun S hM => memo_set hn few hk hj hd hE S hM
end
/-- pairs of whole numbers as keys -/
def encP2 (q : Int × Int) : PyData := .tuple [.int q.1, .int q.2]
def pairK : Keys (Int × Int) where
  enc := encP2
  kOf := fun q => kOf [q.1, q.2]
  inj := fun k l h => by
    have := kOf_inj h
    injection this with h1 h2
    injection h2 with h2
    exact Prod.ext h1 h2
  keyN := fun k => keyN_encT [k.1, k.2]
  keyT := fun k => keyT_encT [k.1, k.2]
/-- a comprehension walked by number, its tests changing the store -/
theorem compL_thr2 {p : Pat} {t : FT} {e : FE} {env : DEnv} (P : Store → Prop) {κ : Type} (enc : κ → PyData) (tt : κ → Bool) (g : κ → PyData) : ∀ (xs : List κ) (S : Store), P S →
    (∀ x ∈ xs, ∀ S, P S → ∃ env1 S1, gPat p (enc x) env = some env1 ∧ t env1 S = .ok (tt x) S1 ∧ P S1 ∧ (tt x = true → ∃ S2, e env1 S1 = .ok (.v (g x)) S2 ∧ P S2)) →
    ∃ S', compL p t e env (xs.map enc) S = .ok ((xs.filter tt).map g) S' ∧ P S'
  | [], S, h, _ => ⟨S, rfl, h⟩
  | x :: xs, S, h, k => by
    obtain ⟨env1, S1, e1, e2, h1, e3⟩ := k x List.mem_cons_self S h
    have ih := fun S2 h2 => compL_thr2 P enc tt g xs S2 h2 fun y hy => k y (List.mem_cons_of_mem _ hy)
    rw [List.map_cons, compL_cons, e1]
    simp only [e2, noX, Res.bind]
    cases hb : tt x with
    | false =>
      obtain ⟨S', q, hq⟩ := ih S1 h1
      refine ⟨S', ?_, hq⟩
      rw [List.filter_cons_of_neg (by rw [hb]; exact Bool.false_ne_true)]
      simpa using q
    | true =>
      obtain ⟨S2, e4, h2⟩ := e3 hb
      obtain ⟨S', q, hq⟩ := ih S2 h2
      refine ⟨S', ?_, hq⟩
      rw [List.filter_cons_of_pos hb]
      simp only [if_true, e4, Res.bind, q]
      rfl
theorem dLc_thr2 {own : List Nat} {p : Pat} {i : FI} {t : FT} {e : FE} {env : DEnv} {S S1 : Store} (P : Store → Prop) {κ : Type} (enc : κ → PyData) (tt : κ → Bool) (g : κ → PyData) {xs : List κ} (hi : i env S = .ok (xs.map enc) S1) (hl : xs.length ≤ 16000000) (hP : P S1)
    (h : ∀ x ∈ xs, ∀ S, P S → ∃ env1 S2, gPat p (enc x) (wipeE env own) = some env1 ∧ t env1 S = .ok (tt x) S2 ∧ P S2 ∧ (tt x = true → ∃ S3, e env1 S2 = .ok (.v (g x)) S3 ∧ P S3)) :
    ∃ S', dLc own p i t e env S = .ok (.v (.list ((xs.filter tt).map g))) S' ∧ P S' := by
  obtain ⟨S', q, hq⟩ := compL_thr2 (env := wipeE env own) P enc tt g xs S1 hP h
  refine ⟨S', ?_, hq⟩
  rw [dLc_ap, hi, bind_okS, if_pos (by simpa [small] using hl), q, bind_okS]
@[simp] theorem opMin_ii (i j : Int) (S : Store) : opMin [.v (.int i), .v (.int j)] S = .ok (.v (.int (if j < i then j else i))) S := rfl
@[simp] theorem opMax_ii (i j : Int) (S : Store) : opMax [.v (.int i), .v (.int j)] S = .ok (.v (.int (if j > i then j else i))) S := rfl
theorem boolsOf_map : ∀ bs : List Bool, boolsOf (bs.map .bool) = some bs
  | [] => rfl
  | b :: bs => by rw [List.map_cons, boolsOf, boolsOf_map bs]; rfl
theorem opAny_bs (bs : List Bool) (S : Store) : opAny [.v (.list (bs.map .bool))] S = .ok (.v (.bool (bs.any id))) S := by
  unfold opAny
  simp only [listOf_v, boolsOf_map, okB_eq]
theorem opAll_bs (bs : List Bool) (S : Store) : opAll [.v (.list (bs.map .bool))] S = .ok (.v (.bool (bs.all id))) S := by
  unfold opAll
  simp only [listOf_v, boolsOf_map, okB_eq]
def encI (i : Int) : PyData := .int i
/-- the whole numbers from a on, n of them -/
def irow (a : Int) (n : Nat) : List Int := (List.range n).map fun (k : Nat) => a + (k : Int)
theorem rangeD_ints (a : Int) (n : Nat) : rangeD a n = (irow a n).map encI := by
  unfold rangeD irow
  rw [List.map_map]
  rfl
theorem mem_irow {a : Int} {n : Nat} {x : Int} : x ∈ irow a n ↔ a ≤ x ∧ x < a + n := by
  unfold irow
  rw [List.mem_map]
  constructor
  · rintro ⟨k, hk, rfl⟩
    have := List.mem_range.mp hk
    omega
  · rintro ⟨h1, h2⟩
    exact ⟨(x - a).toNat, List.mem_range.mpr (by omega), by omega⟩
theorem irow_len (a : Int) (n : Nat) : (irow a n).length = n := by simp [irow]
end G

set_option Elab.async false
set_option linter.all false
set_option autoImplicit false
set_option maxRecDepth 100000
namespace G
open PySem PySem.Spec PyProof.Rows L2

/-! ### the frame: a run on a store is a run on a longer store, the places moved along -/
def shD (p : Nat) : D → D
  | .r n => .r (p + n)
  | .v x => .v x | .k x => .k x | .g i j => .g i j | .z x => .z x | .y x => .y x
abbrev shE (p : Nat) (env : DEnv) : DEnv := env.map (Option.map (shD p))
def shO (p : Nat) : Out → Out
  | .nx e => .nx (shE p e) | .rt d => .rt (shD p d) | .bk e => .bk (shE p e) | .ct e => .ct (shE p e) | .ex x e => .ex x (shE p e)
def FrR {α : Type} (sh : α → α) (P : Store) (r r' : Res α) : Prop := match r with
  | .ok a S => r' = .ok (sh a) (P ++ S)
  | .exc x S => r' = .exc x (P ++ S)
  | .stuck => True
def FrE (f : FE) : Prop := ∀ P env S, FrR (shD P.length) P (f env S) (f (shE P.length env) (P ++ S))
def FrT (f : FT) : Prop := ∀ P env S, FrR id P (f env S) (f (shE P.length env) (P ++ S))
def FrA (f : FA) : Prop := ∀ P env S, FrR (List.map (shD P.length)) P (f env S) (f (shE P.length env) (P ++ S))
def FrI (f : FI) : Prop := ∀ P env S, FrR id P (f env S) (f (shE P.length env) (P ++ S))
def FrO (f : FO) : Prop := ∀ P env S, FrR id P (f env S) (f (shE P.length env) (P ++ S))
def FrS (f : FS) : Prop := ∀ P env S, FrR (shO P.length) P (f env S) (f (shE P.length env) (P ++ S))
def FrF (f : Fn) : Prop := ∀ P ds S, FrR (shD P.length) P (f ds S) (f (ds.map (shD P.length)) (P ++ S))
def Fr1 (op : D → Store → Res D) : Prop := ∀ P d S, FrR (shD P.length) P (op d S) (op (shD P.length d) (P ++ S))
def Fr2 (op : D → D → Store → Res D) : Prop := ∀ P d e S, FrR (shD P.length) P (op d e S) (op (shD P.length d) (shD P.length e) (P ++ S))
def FrM (op : OpM) : Prop := ∀ P d ds S, FrR (shD P.length) P (op d ds S) (op (shD P.length d) (ds.map (shD P.length)) (P ++ S))

theorem FrR.stuck {α : Type} {sh : α → α} {P : Store} {r' : Res α} : FrR sh P .stuck r' := trivial
theorem FrR.bind {α β : Type} {sh : α → α} {sh2 : β → β} {P : Store} {r r' : Res α} {k k' : α → Store → Res β} (h : FrR sh P r r') (hk : ∀ a S, FrR sh2 P (k a S) (k' (sh a) (P ++ S))) : FrR sh2 P (r.bind k) (r'.bind k') := by
  cases r with
  | ok a S => have h : r' = _ := h; subst h; exact hk a S
  | exc x S => have h : r' = _ := h; subst h; exact rfl
  | stuck => trivial
theorem FrR.noX {α : Type} {sh : α → α} {P : Store} {r r' : Res α} (h : FrR sh P r r') : FrR sh P (noX r) (noX r') := by
  cases r with
  | ok a S => have h : r' = _ := h; subst h; exact rfl
  | exc x S => trivial
  | stuck => trivial
theorem FrR.lift {β : Type} {sh : β → β} {P : Store} {r r' : Res β} {k k' : β → Store → Res Out} {env : DEnv} (h : FrR sh P r r') (hk : ∀ a S, FrR (shO P.length) P (k a S) (k' (sh a) (P ++ S))) :
    FrR (shO P.length) P (lift env r k) (lift (shE P.length env) r' k') := by
  cases r with
  | ok a S => have h : r' = _ := h; subst h; exact hk a S
  | exc x S => have h : r' = _ := h; subst h; exact rfl
  | stuck => trivial
theorem FrR.thenS {P : Store} {r r' : Res Out} {k k' : DEnv → Store → Res Out} (h : FrR (shO P.length) P r r') (hk : ∀ e S, FrR (shO P.length) P (k e S) (k' (shE P.length e) (P ++ S))) : FrR (shO P.length) P (thenS r k) (thenS r' k') := by
  cases r with
  | ok a S => have h : r' = _ := h; subst h; cases a <;> first | exact hk _ _ | exact rfl
  | exc x S => have h : r' = _ := h; subst h; exact rfl
  | stuck => trivial
theorem FrR.loopS {P : Store} {r r' : Res Out} {k k' : DEnv → Store → Res Out} (h : FrR (shO P.length) P r r') (hk : ∀ e S, FrR (shO P.length) P (k e S) (k' (shE P.length e) (P ++ S))) : FrR (shO P.length) P (loopS r k) (loopS r' k') := by
  cases r with
  | ok a S => have h : r' = _ := h; subst h; cases a <;> first | exact hk _ _ | exact rfl
  | exc x S => have h : r' = _ := h; subst h; exact rfl
  | stuck => trivial

section
variable {P S : Store}
@[simp] theorem at_sh (n : Nat) : (P ++ S)[P.length + n]? = S[n]? := by rw [List.getElem?_append_right (by omega)]; congr 1; omega
@[simp] theorem set_sh (n : Nat) (c : Cell) : (P ++ S).set (P.length + n) c = P ++ S.set n c := by
  rw [List.set_append_right _ _ (by omega)]; congr 2; omega
@[simp] theorem listOf_sh (d : D) : listOf (P ++ S) (shD P.length d) = listOf S d := by
  cases d with
  | v x => cases x <;> rfl
  | r n => simp only [listOf, shD, at_sh]
  | _ => rfl
@[simp] theorem seqOf_sh (d : D) : seqOf (P ++ S) (shD P.length d) = seqOf S d := by
  cases d with
  | v x => cases x <;> rfl
  | r n => simp only [seqOf, shD, at_sh]
  | _ => rfl
@[simp] theorem dataOf_sh (d : D) : dataOf (P ++ S) (shD P.length d) = dataOf S d := by
  cases d with
  | r n => simp only [dataOf, shD, at_sh]
  | _ => rfl
@[simp] theorem dtOf_sh (d : D) : dtOf (P ++ S) (shD P.length d) = dtOf S d := by
  cases d with
  | r n => simp only [dtOf, shD, at_sh]
  | _ => rfl
@[simp] theorem dkOf_sh (d : D) : dkOf (P ++ S) (shD P.length d) = dkOf S d := by
  cases d with
  | r n => simp only [dkOf, shD, at_sh]
  | _ => rfl
@[simp] theorem lenOf_sh (d : D) : lenOf (P ++ S) (shD P.length d) = lenOf S d := by
  cases d with
  | v x => cases x <;> rfl
  | r n => simp only [lenOf, shD, at_sh]
  | _ => rfl
@[simp] theorem truD_sh (d : D) : truD (P ++ S) (shD P.length d) = truD S d := by
  cases d with
  | v x => cases x <;> rfl
  | r n => simp only [truD, shD, at_sh]
  | _ => rfl
@[simp] theorem tyN_sh (d : D) : tyN (P ++ S) (shD P.length d) = tyN S d := by
  cases d with
  | v x => cases x <;> rfl
  | r n => simp only [tyN, shD, at_sh]
  | _ => rfl
@[simp] theorem vals_sh (p : Nat) (ds : List D) : vals (ds.map (shD p)) = vals ds := by
  induction ds with
  | nil => rfl
  | cons d ds ih => cases d <;> simp [vals, shD, ih]
theorem shE_at (p : Nat) (env : DEnv) (i : Nat) : (shE p env)[i]? = (env[i]?).map (Option.map (shD p)) := by simp
theorem shE_set (p : Nat) (env : DEnv) (i : Nat) (d : D) : shE p (env.set i (some d)) = (shE p env).set i (some (shD p d)) := by simp [shE, List.map_set]
theorem shE_setN (p : Nat) (env : DEnv) (i : Nat) : shE p (env.set i none) = (shE p env).set i none := by simp [shE, List.map_set]
theorem len_sh : (P ++ S).length = P.length + S.length := List.length_append
end

/-! leaves -/
theorem fr_pI (f : Int → Int → Int) : Fr2 (pI f) := by
  intro P d e S
  unfold pI
  split
  · exact rfl
  · trivial
theorem fr_pIc (c : Int → Int → Bool) (f : Int → Int → Int) : Fr2 (pIc c f) := by
  intro P d e S
  unfold pIc
  split
  · show FrR _ _ _ (if c _ _ then _ else _)
    split
    · exact rfl
    · trivial
  · trivial
theorem fr_pB (f : Int → Int → Bool) : Fr2 (pB f) := by
  intro P d e S
  unfold pB
  split
  · exact rfl
  · trivial
theorem fr_sub : Fr2 dSub := fr_pI _
theorem fr_mul : Fr2 dMul := fr_pIc _ _
theorem fr_div : Fr2 dDiv := fr_pIc _ _
theorem fr_mod : Fr2 dMod := fr_pIc _ _
theorem fr_pow : Fr2 dPow := fr_pIc _ _
theorem fr_shl : Fr2 dShl := fr_pIc _ _
theorem fr_shr : Fr2 dShr := fr_pIc _ _
theorem fr_xor : Fr2 dXor := fr_pI _
theorem fr_and : Fr2 dAnd := fr_pI _
theorem fr_or : Fr2 dOr := fr_pI _
theorem fr_lt : Fr2 dLt := fr_pB _
theorem fr_le : Fr2 dLe := fr_pB _
theorem fr_gt : Fr2 dGt := fr_pB _
theorem fr_ge : Fr2 dGe := fr_pB _
theorem fr_eq : Fr2 dEq := by
  intro P d e S
  unfold dEq
  rw [dataOf_sh, dataOf_sh]
  split
  · split
    · exact rfl
    · trivial
  · trivial
theorem fr_ne : Fr2 dNe := by
  intro P d e S
  unfold dNe
  rw [dataOf_sh, dataOf_sh]
  split
  · split
    · exact rfl
    · trivial
  · trivial
theorem fr_ite {P : Store} {c : Prop} [Decidable c] {d : D} {S : Store} : FrR (shD P.length) P (if c then Res.ok d S else .stuck) (if c then Res.ok (shD P.length d) (P ++ S) else .stuck) := by
  by_cases h : c
  · rw [if_pos h, if_pos h]; exact rfl
  · rw [if_neg h]; trivial
def catO (S : Store) (a b : Option (List PyData)) : Res D := match a, b with
  | some x, some y => if small (x.length + y.length) then .ok (.v (.list (x ++ y))) S else .stuck
  | _, _ => .stuck
theorem fr_catO (P S : Store) (a b : Option (List PyData)) : FrR (shD P.length) P (catO S a b) (catO (P ++ S) a b) := by
  cases a with
  | none => trivial
  | some x =>
    cases b with
    | none => trivial
    | some y => exact fr_ite
def notL : D → Prop
  | .v (.list _) => False
  | .r _ => False
  | _ => True
theorem dAdd_cat (d e : D) (S : Store) (hd : ¬ notL d) (he : ¬ notL e) : dAdd d e S = catO S (listOf S d) (listOf S e) := by
  cases d with
  | v x =>
    cases x with
    | list a =>
      cases e with
      | v y =>
        cases y with
        | list b => rfl
        | _ => exact absurd trivial he
      | r n =>
        simp only [dAdd, listOf]
        cases S[n]? with
        | none => rfl
        | some c => cases c <;> rfl
      | _ => exact absurd trivial he
    | _ => exact absurd trivial hd
  | r m =>
    cases e with
    | v y =>
      cases y with
      | list b =>
        simp only [dAdd, listOf]
        cases S[m]? with
        | none => rfl
        | some c => cases c <;> rfl
      | _ => exact absurd trivial he
    | r n =>
      simp only [dAdd, listOf]
      cases S[m]? with
      | none => rfl
      | some c =>
        cases S[n]? with
        | none => cases c <;> rfl
        | some c' => cases c <;> cases c' <;> rfl
    | _ => exact absurd trivial he
  | _ => exact absurd trivial hd
theorem notL_sh (p : Nat) (d : D) : notL (shD p d) = notL d := by
  cases d with
  | v x => cases x <;> rfl
  | _ => rfl
theorem fr_add : Fr2 dAdd := by
  intro P d e S
  by_cases hd : notL d
  · cases d with
    | v x =>
      cases x with
      | int i =>
        cases e with
        | v y =>
          cases y with
          | int j => exact rfl
          | _ => trivial
        | _ => trivial
      | tuple a =>
        cases e with
        | v y =>
          cases y with
          | tuple b => exact fr_ite
          | _ => trivial
        | _ => trivial
      | str a =>
        cases e with
        | v y =>
          cases y with
          | str b => exact fr_ite
          | _ => trivial
        | _ => trivial
      | list a => exact hd.elim
      | _ => trivial
    | r n => exact hd.elim
    | _ => trivial
  · by_cases he : notL e
    · cases d with
      | v x =>
        cases x with
        | list a =>
          cases e with
          | v y =>
            cases y with
            | list b => exact he.elim
            | _ => trivial
          | r n => exact he.elim
          | _ => trivial
        | _ => exact absurd trivial hd
      | r n =>
        cases e with
        | v y =>
          cases y with
          | list b => exact he.elim
          | _ => trivial
        | r n => exact he.elim
        | _ => trivial
      | _ => exact absurd trivial hd
    · rw [dAdd_cat d e S hd he, dAdd_cat _ _ _ (by rw [notL_sh]; exact hd) (by rw [notL_sh]; exact he), listOf_sh, listOf_sh]
      exact fr_catO _ _ _ _
theorem fr_catC : Fr2 dCatC := by
  intro P d e S
  unfold dCatC
  rw [listOf_sh, listOf_sh]
  split
  · split
    · show _ = _; rw [len_sh, List.append_assoc]; rfl
    · trivial
  · trivial
def ixK (S : Store) (i : Int) (o : Option (List PyData)) : Res D := match o with
  | some xs => (match atI xs i with | some x => .ok (.v x) S | none => .stuck)
  | none => .stuck
theorem fr_ixK0 (P S : Store) (i : Int) (o : Option (List PyData)) : FrR (shD P.length) P (ixK S i o) (ixK (P ++ S) i o) := by
  cases o with
  | none => trivial
  | some xs =>
    unfold ixK
    cases h : atI xs i with
    | none => simp only [h]; trivial
    | some x => simp only [h]; exact rfl
theorem dIx_i (d : D) (i : Int) (S : Store) (h : ∀ z, d ≠ .v (.str z)) : dIx d (.v (.int i)) S = ixK S i (seqOf S d) := by
  cases d with
  | v x => cases x <;> first | exact absurd rfl (h _) | rfl
  | _ => rfl
theorem fr_ix : Fr2 dIx := by
  intro P d e S
  cases e with
  | v y =>
    cases y with
    | int i =>
      by_cases h : ∃ z, d = .v (.str z)
      · obtain ⟨z, rfl⟩ := h
        simp only [dIx, shD]
        split
        · split
          · exact rfl
          · trivial
        · trivial
      · have h1 : ∀ z, d ≠ .v (.str z) := fun z q => h ⟨z, q⟩
        have h2 : ∀ z, shD P.length d ≠ .v (.str z) := fun z q => by
          cases d with
          | v x => exact h1 z q
          | _ => cases q
        show FrR _ _ _ (dIx _ (.v (.int i)) _)
        rw [dIx_i _ _ _ h1, dIx_i _ _ _ h2, seqOf_sh]
        exact fr_ixK0 _ _ _ _
    | _ => trivial
  | _ => trivial
theorem fr_inS (b : Bool) : Fr2 (dInS b) := by
  intro P d e S
  unfold dInS
  rw [dataOf_sh, seqOf_sh]
  split
  · split
    · exact rfl
    · trivial
  · trivial
theorem fr_inT (b : Bool) : Fr2 (dInT b) := by
  intro P d e S
  unfold dInT
  rw [dtOf_sh]
  cases d with
  | v x =>
    simp only [shD]
    split <;> first | (split <;> first | exact rfl | trivial) | trivial
  | _ => simp only [shD]; trivial
theorem fr_ixT : Fr2 dIxT := by
  intro P d e S
  unfold dIxT
  rw [dtOf_sh]
  cases e with
  | v x =>
    simp only [shD]
    split <;> first | (split <;> first | exact rfl | trivial) | trivial
  | _ => simp only [shD]; split <;> trivial
theorem fr_inK (b : Bool) : Fr2 (dInK b) := by
  intro P d e S
  unfold dInK
  rw [dkOf_sh]
  cases d with
  | v x =>
    simp only [shD]
    split <;> first | (split <;> first | exact rfl | trivial) | trivial
  | _ => simp only [shD]; trivial
theorem fr_ixK : Fr2 dIxK := by
  intro P d e S
  unfold dIxK
  rw [dkOf_sh]
  cases e with
  | v x =>
    simp only [shD]
    split <;> first | (split <;> first | exact rfl | trivial) | trivial
  | _ => simp only [shD]; split <;> trivial
theorem fr_neg : Fr1 dNeg := by
  intro P d S
  unfold dNeg
  split
  · exact rfl
  · trivial
theorem isN_sh (p : Nat) (d : D) : isN (shD p d) = isN d := by
  cases d with
  | v x => cases x <;> rfl
  | _ => rfl
theorem fr_isN : Fr1 dIsN := fun P d S => by unfold dIsN; rw [isN_sh]; exact rfl
theorem fr_notN : Fr1 dNotN := fun P d S => by unfold dNotN; rw [isN_sh]; exact rfl
theorem fr_isNo (b : Bool) : Fr1 (dIsNo b) := by
  intro P d S
  cases d with
  | v x => cases x <;> exact rfl
  | r n =>
    simp only [dIsNo, shD, at_sh]
    split <;> first | exact rfl | trivial
  | _ => exact rfl

/-! builtins -/
abbrev FrB (op : Op) : Prop := FrF op
theorem fr_len : FrB opLen := by
  intro P ds S
  unfold opLen
  split
  · simp only [List.map, lenOf_sh]; split <;> first | exact rfl | trivial
  · trivial
theorem fr_list : FrB opList := by
  intro P ds S
  unfold opList
  split
  · simp only [List.map, seqOf_sh]; split <;> first | exact rfl | trivial
  · trivial
theorem fr_listC : FrB opListC := by
  intro P ds S
  unfold opListC
  split
  · simp only [List.map, seqOf_sh]; split
    · show _ = _; rw [len_sh, List.append_assoc]; rfl
    · trivial
  · trivial
theorem fr_tuple : FrB opTuple := by
  intro P ds S
  unfold opTuple
  split
  · simp only [List.map, seqOf_sh]; split <;> first | exact rfl | trivial
  · trivial
theorem fr_int : FrB opInt := by
  intro P ds S
  unfold opInt
  split <;> first | exact rfl | trivial
theorem fr_abs : FrB opAbs := by
  intro P ds S
  unfold opAbs
  split <;> first | exact rfl | trivial
theorem fr_sum : FrB opSum := by
  intro P ds S
  unfold opSum
  split
  · simp only [List.map, listOf_sh]; split <;> first | (split <;> first | exact rfl | trivial) | trivial
  · trivial
theorem fr_sumS : FrB opSumS := by
  intro P ds S
  unfold opSumS
  split
  · simp only [List.map, seqOf_sh]; split <;> first | (split <;> first | exact rfl | trivial) | trivial
  · trivial
theorem fr_any : FrB opAny := by
  intro P ds S
  unfold opAny
  split
  · simp only [List.map, listOf_sh]; split <;> first | (split <;> first | exact rfl | trivial) | trivial
  · trivial
theorem fr_all : FrB opAll := by
  intro P ds S
  unfold opAll
  split
  · simp only [List.map, listOf_sh]; split <;> first | (split <;> first | exact rfl | trivial) | trivial
  · trivial
theorem fr_sortedS : FrB opSortedS := by
  intro P ds S
  unfold opSortedS
  split
  · simp only [List.map, seqOf_sh]; split <;> first | (split <;> first | exact rfl | trivial) | trivial
  · trivial
theorem fr_sorted : FrB opSorted := by
  intro P ds S
  unfold opSorted
  split
  · simp only [List.map, listOf_sh]; split <;> first | (split <;> first | exact rfl | trivial) | trivial
  · trivial
theorem fr_sortedT : FrB opSortedT := by
  intro P ds S
  unfold opSortedT
  split
  · simp only [List.map, dtOf_sh]; split <;> first | (split <;> first | exact rfl | trivial) | trivial
  · trivial
theorem fr_listT : FrB opListT := by
  intro P ds S
  unfold opListT
  split
  · simp only [List.map, dtOf_sh]; split <;> first | exact rfl | trivial
  · trivial
theorem fr_setSortI : FrB opSetSortI := by
  intro P ds S
  unfold opSetSortI
  split
  · simp only [List.map, listOf_sh]; split <;> first | (split <;> first | (split <;> first | exact rfl | trivial) | trivial) | trivial
  · trivial
theorem fr_setSorted : FrB opSetSorted := by
  intro P ds S
  unfold opSetSorted
  split
  · simp only [List.map, listOf_sh]; split <;> first | (split <;> first | (split <;> first | exact rfl | trivial) | trivial) | trivial
  · trivial
theorem fr_sortedE : FrB opSortedE := by
  intro P ds S
  unfold opSortedE
  split
  · simp only [List.map, seqOf_sh]; split <;> first | (split <;> first | exact rfl | trivial) | trivial
  · trivial
theorem fr_sortedTE : FrB opSortedTE := by
  intro P ds S
  unfold opSortedTE
  split
  · simp only [List.map, dtOf_sh]; split <;> first | (split <;> first | exact rfl | trivial) | trivial
  · trivial
theorem fr_setSortedE : FrB opSetSortedE := by
  intro P ds S
  unfold opSetSortedE
  split
  · simp only [List.map, listOf_sh]; split <;> first | (split <;> first | (split <;> first | exact rfl | trivial) | trivial) | trivial
  · trivial
theorem fr_sortedK : FrB opSortedK := by
  intro P ds S
  unfold opSortedK
  split
  · simp only [List.map, dkOf_sh]; split <;> first | (split <;> first | (split <;> first | exact rfl | trivial) | trivial) | trivial
  · trivial
theorem fr_range : FrB opRange := by
  intro P ds S
  unfold opRange
  split <;> first | exact rfl | trivial
theorem fr_max : FrB opMax := by
  intro P ds S
  match ds with
  | [] => trivial
  | [d] =>
    simp only [List.map, opMax, seqOf_sh]; split <;> first | (split <;> first | exact rfl | trivial) | trivial
  | [d, e] =>
    cases d with
    | v x =>
      cases x with
      | int i =>
        cases e with
        | v y =>
          cases y with
          | int j => exact rfl
          | _ => trivial
        | _ => trivial
      | _ => trivial
    | _ => trivial
  | a :: b :: c :: r =>
    have : opMax (a :: b :: c :: r) S = .stuck := by
      unfold opMax
      split
      · simp_all
      · simp_all
      · rfl
    rw [this]; trivial
theorem fr_min : FrB opMin := by
  intro P ds S
  match ds with
  | [] => trivial
  | [d] =>
    simp only [List.map, opMin, seqOf_sh]; split <;> first | (split <;> first | exact rfl | trivial) | trivial
  | [d, e] =>
    cases d with
    | v x =>
      cases x with
      | int i =>
        cases e with
        | v y =>
          cases y with
          | int j => exact rfl
          | _ => trivial
        | _ => trivial
      | _ => trivial
    | _ => trivial
  | a :: b :: c :: r =>
    have : opMin (a :: b :: c :: r) S = .stuck := by
      unfold opMin
      split
      · simp_all
      · simp_all
      · rfl
    rw [this]; trivial
theorem fr_append : FrM omAppend := by
  intro P d ds S
  unfold omAppend
  split
  · simp only [List.map, shD, at_sh]
    split
    · split
      · show _ = _; rw [set_sh]; rfl
      · trivial
    · trivial
  · trivial
def extO (S : Store) (n : Nat) (c : Option Cell) (o : Option (List PyData)) : Res D := match c, o with
  | some (.lst xs), some ys => if small (xs.length + ys.length) then okN (S.set n (.lst (xs ++ ys))) else .stuck
  | _, _ => .stuck
theorem fr_extend : FrM omExtend := by
  intro P d ds S
  match d, ds with
  | .r n, [e] =>
    show FrR _ _ (extO S n S[n]? (listOf S e)) (extO (P ++ S) (P.length + n) (P ++ S)[P.length + n]? (listOf (P ++ S) (shD P.length e)))
    rw [at_sh, listOf_sh]
    unfold extO
    split
    · split
      · show _ = _; rw [set_sh]; rfl
      · trivial
    · trivial
  | .r n, [] => trivial
  | .r n, _ :: _ :: _ => trivial
  | .v _, _ => trivial
  | .k _, _ => trivial
  | .g _ _, _ => trivial
  | .z _, _ => trivial
  | .y _, _ => trivial
theorem fr_index : FrM omIndex := by
  intro P d ds S
  unfold omIndex
  rw [dataOf_sh]
  match ds with
  | [.v y] =>
    simp only [List.map, shD]
    split
    · rename_i h; cases h
      split
      · split <;> first | exact rfl | trivial
      · trivial
    · trivial
  | [] => split <;> first | trivial | simp_all
  | [.r _] => split <;> first | trivial | simp_all
  | [.k _] => split <;> first | trivial | simp_all
  | [.g _ _] => split <;> first | trivial | simp_all
  | [.z _] => split <;> first | trivial | simp_all
  | [.y _] => split <;> first | trivial | simp_all
  | _ :: _ :: _ => split <;> first | trivial | simp_all

/-! expressions -/
theorem fr_var (i : Nat) : FrE (dVar i) := by
  intro P env S
  unfold dVar
  rw [shE_at]
  split
  · rename_i h; rw [h]; exact rfl
  · trivial
theorem fr_c (x : PyData) : FrE (dC x) := fun _ _ _ => rfl
theorem fr_bin {op : D → D → Store → Res D} {f g : FE} (ho : Fr2 op) (hf : FrE f) (hg : FrE g) : FrE (dBin op f g) := fun P env S => (hf P env S).bind fun a S1 => (hg P env S1).bind fun b S2 => ho P a b S2
theorem fr_un {op : D → Store → Res D} {f : FE} (ho : Fr1 op) (hf : FrE f) : FrE (dUn op f) := fun P env S => (hf P env S).bind fun a S1 => ho P a S1
theorem fr_asB (P : Store) (d : D) (S : Store) : FrR id P (asB d S) (asB (shD P.length d) (P ++ S)) := by
  unfold asB
  split
  · exact rfl
  · trivial
theorem fr_test {f : FE} (hf : FrE f) : FrT (dTest f) := fun P env S => (hf P env S).bind fun a S1 => fr_asB P a S1
theorem fr_andT {f g : FT} (hf : FrT f) (hg : FrT g) : FrT (tAndD f g) := fun P env S => (hf P env S).bind fun b S1 => by
  cases b
  · exact rfl
  · exact hg P env S1
theorem fr_orT {f g : FT} (hf : FrT f) (hg : FrT g) : FrT (tOrD f g) := fun P env S => (hf P env S).bind fun b S1 => by
  cases b
  · exact hg P env S1
  · exact rfl
theorem fr_notT {f : FT} (hf : FrT f) : FrT (tNotD f) := fun P env S => (hf P env S).bind fun b S1 => rfl
theorem fr_tru {f : FE} (hf : FrE f) : FrT (dTru f) := fun P env S => (hf P env S).bind fun d S1 => by
  show FrR id P (match truD S1 d with | some b => Res.ok b S1 | none => .stuck) (match truD (P ++ S1) (shD P.length d) with | some b => Res.ok b (P ++ S1) | none => .stuck)
  rw [truD_sh]
  split <;> first | exact rfl | trivial
theorem fr_yes : FrT fYes := fun _ _ _ => rfl
theorem fr_andV {f g : FE} (hf : FrE f) (hg : FrE g) : FrE (dAndV f g) := fun P env S => (hf P env S).bind fun d S1 => (fr_asB P d S1).bind fun b S2 => by
  cases b
  · exact rfl
  · exact hg P env S2
theorem fr_orV {f g : FE} (hf : FrE f) (hg : FrE g) : FrE (dOrV f g) := fun P env S => (hf P env S).bind fun d S1 => (fr_asB P d S1).bind fun b S2 => by
  cases b
  · exact hg P env S2
  · exact rfl
theorem fr_notV {f : FE} (hf : FrE f) : FrE (dNotV f) := fun P env S => (hf P env S).bind fun d S1 => (fr_asB P d S1).bind fun b S2 => rfl
theorem fr_if {c : FT} {f g : FE} (hc : FrT c) (hf : FrE f) (hg : FrE g) : FrE (dIf c f g) := fun P env S => (hc P env S).bind fun b S1 => by
  cases b
  · exact hg P env S1
  · exact hf P env S1
theorem fr_nilA : FrA dNilA := fun _ _ _ => rfl
theorem fr_consA {f : FE} {g : FA} (hf : FrE f) (hg : FrA g) : FrA (dConsA f g) := fun P env S => (hf P env S).bind fun d S1 => (hg P env S1).bind fun ds S2 => rfl
theorem fr_tup {g : FA} (hg : FrA g) : FrE (dTup g) := fun P env S => (hg P env S).bind fun ds S1 => by
  rw [vals_sh]
  split
  · split
    · exact rfl
    · trivial
  · trivial
theorem fr_lst {g : FA} (hg : FrA g) : FrE (dLst g) := fun P env S => (hg P env S).bind fun ds S1 => by
  rw [vals_sh]
  split
  · split
    · exact rfl
    · trivial
  · trivial
theorem fr_lstC {g : FA} (hg : FrA g) : FrE (dLstC g) := fun P env S => (hg P env S).bind fun ds S1 => by
  rw [vals_sh]
  split
  · split
    · show _ = _; rw [len_sh, List.append_assoc]; rfl
    · trivial
  · trivial
theorem fr_newT : FrE dNewT := fun P env S => by show _ = _; unfold dNewT; rw [len_sh, List.append_assoc]; rfl
theorem fr_newK : FrE dNewK := fun P env S => by show _ = _; unfold dNewK; rw [len_sh, List.append_assoc]; rfl
theorem fr_isi (T : String) {f : FE} (hf : FrE f) : FrE (dIsi T f) := fun P env S => (hf P env S).bind fun d S1 => by
  rw [tyN_sh]
  split <;> first | exact rfl | trivial
theorem fr_blt {op : Op} {g : FA} (ho : FrB op) (hg : FrA g) : FrE (dBlt op g) := fun P env S => (hg P env S).bind fun ds S1 => ho P ds S1
theorem fr_oNone : FrO oNone := fun _ _ _ => rfl
theorem fr_oSome {f : FE} (hf : FrE f) : FrO (oSome f) := fun P env S => (hf P env S).bind fun d S1 => by
  split
  · exact rfl
  · trivial
theorem fr_sl {f : FE} {lo hi : FO} (hf : FrE f) (hl : FrO lo) (hh : FrO hi) : FrE (dSl f lo hi) := fun P env S => (hf P env S).bind fun d S1 => (hl P env S1).bind fun l S2 => (hh P env S2).bind fun h S3 => by
  split
  · exact rfl
  · rename_i h1
    cases d with
    | v x => cases x <;> first | (exact absurd rfl (h1 _)) | (simp only [listOf, shD]; first | exact rfl | trivial)
    | r n =>
      rw [show listOf S3 (.r n) = listOf (P ++ S3) (shD P.length (.r n)) from (listOf_sh _).symm]
      simp only [shD]
      split <;> first | exact rfl | trivial
    | _ => trivial
theorem fr_back {f : FE} (hf : FrE f) : FrE (dBack f) := fun P env S => (hf P env S).bind fun d S1 => by
  split
  · exact rfl
  · rename_i h1
    cases d with
    | v x => cases x <;> first | (exact absurd rfl (h1 _)) | (simp only [listOf, shD]; first | exact rfl | trivial)
    | r n =>
      rw [show listOf S1 (.r n) = listOf (P ++ S1) (shD P.length (.r n)) from (listOf_sh _).symm]
      simp only [shD]
      split <;> first | exact rfl | trivial
    | _ => trivial
theorem fr_step (c : Int) {f : FE} (hf : FrE f) : FrE (dStep c f) := fun P env S => (hf P env S).bind fun d S1 => by
  rw [listOf_sh]
  split <;> first | exact rfl | trivial
theorem fr_mtL {op : OpM} {f : FE} {g : FA} (ho : FrM op) (hf : FrE f) (hg : FrA g) : FrE (dMtL op f g) := fun P env S => (hf P env S).bind fun d S1 => by
  rw [listOf_sh]
  split
  · exact (hg P env S1).bind fun ds S2 => ho P d ds S2
  · trivial

theorem fr_popK {f g : FE} (hf : FrE f) (hg : FrE g) : FrE (dPopK f g) := fun P env S => (hf P env S).bind fun o S1 => by
  rw [dkOf_sh]
  split
  · refine (hg P env S1).bind fun i S2 => ?_
    cases o with
    | r n =>
      cases i with
      | v x =>
        simp only [shD, at_sh]
        split
        · split
          · show _ = _; rw [set_sh]; rfl
          · trivial
        · trivial
      | _ => trivial
    | _ => trivial
  · trivial

/-! things walked, comprehensions -/
theorem fr_range1 {f : FE} (hf : FrE f) : FrI (iRange1 f) := fun P env S => (hf P env S).bind fun d S1 => by
  split
  · simp only [shD]
    split
    · exact rfl
    · trivial
  · trivial
theorem fr_range2 {f g : FE} (hf : FrE f) (hg : FrE g) : FrI (iRange2 f g) := fun P env S => (hf P env S).bind fun d S1 => (hg P env S1).bind fun e S2 => by
  split
  · simp only [shD]
    split
    · exact rfl
    · trivial
  · trivial
theorem fr_range3 {f g h : FE} (hf : FrE f) (hg : FrE g) (hh : FrE h) : FrI (iRange3 f g h) := fun P env S => (hf P env S).bind fun d S1 => (hg P env S1).bind fun e S2 => (hh P env S2).bind fun k S3 => by
  split
  · simp only [shD]
    split
    · exact rfl
    · trivial
  · trivial
theorem fr_seq {f : FE} (hf : FrE f) : FrI (iSeq f) := fun P env S => (hf P env S).bind fun d S1 => by
  split
  · exact rfl
  · exact rfl
  · trivial
theorem fr_enum {f : FE} (hf : FrE f) : FrI (iEnumD f) := fun P env S => (hf P env S).bind fun d S1 => by
  split
  · exact rfl
  · exact rfl
  · trivial
theorem fr_zip {f g : FE} (hf : FrE f) (hg : FrE g) : FrI (iZipD f g) := fun P env S => (hf P env S).bind fun d S1 => (hg P env S1).bind fun e S2 => by
  split
  · exact rfl
  · exact rfl
  · trivial
theorem fr_lr {i : FI} (hi : FrI i) : FrE (dLR i) := fun P env S => (hi P env S).bind fun xs S1 => rfl
theorem fr_tr {i : FI} (hi : FrI i) : FrE (dTR i) := fun P env S => (hi P env S).bind fun xs S1 => rfl
theorem fr_lrC {i : FI} (hi : FrI i) : FrE (dLRC i) := fun P env S => (hi P env S).bind fun xs S1 => by show _ = _; rw [len_sh, List.append_assoc]; rfl
theorem fr_rev {f : FE} (hf : FrE f) : FrE (dRev f) := fun P env S => (hf P env S).bind fun d S1 => by
  rw [listOf_sh]
  split <;> first | exact rfl | trivial
theorem fr_revC {f : FE} (hf : FrE f) : FrE (dRevC f) := fun P env S => (hf P env S).bind fun d S1 => by
  rw [listOf_sh]
  split
  · show _ = _; rw [len_sh, List.append_assoc]; rfl
  · trivial
theorem fr_isB (b : Bool) : Fr2 (dIsB b) := by
  intro P d e S
  unfold dIsB
  split
  · exact rfl
  · trivial
mutual
theorem gPat_sh (p : Nat) : ∀ (q : Pat) (x : PyData) (env : DEnv), gPat q x (shE p env) = (gPat q x env).map (shE p)
  | .s i, x, env => by simp only [gPat, Option.map_some, shE_set]; rfl
  | .t ps, x, env => by
    cases x with
    | tuple xs =>
      simp only [gPat]
      split
      · exact gPats_sh p ps xs env
      · rfl
    | _ => rfl
theorem gPats_sh (p : Nat) : ∀ (qs : List Pat) (xs : List PyData) (env : DEnv), gPats qs xs (shE p env) = (gPats qs xs env).map (shE p)
  | [], [], _ => by simp [gPats]
  | [], _ :: _, _ => by simp [gPats]
  | _ :: _, [], _ => by simp [gPats]
  | q :: qs, x :: xs, env => by
    simp only [gPats]
    rw [gPat_sh p q x env]
    cases gPat q x env with
    | none => rfl
    | some e1 => exact gPats_sh p qs xs e1
end
theorem wipe_sh (p : Nat) (env : DEnv) : ∀ own : List Nat, wipeE (shE p env) own = shE p (wipeE env own)
  | [] => rfl
  | i :: r => by simp only [wipeE]; rw [wipe_sh p env r, shE_setN]
theorem fr_compL {p : Pat} {t : FT} {f : FE} (ht : FrT t) (hf : FrE f) (P : Store) (env : DEnv) : ∀ (xs : List PyData) (S : Store), FrR id P (compL p t f env xs S) (compL p t f (shE P.length env) xs (P ++ S))
  | [], S => rfl
  | x :: xs, S => by
    unfold compL
    rw [gPat_sh]
    cases gPat p x env with
    | none => trivial
    | some env1 =>
      refine (ht P env1 S).noX.bind fun b S1 => ?_
      cases b with
      | false => exact fr_compL ht hf P env xs S1
      | true =>
        refine (hf P env1 S1).noX.bind fun d S2 => ?_
        cases d with
        | v y => exact (fr_compL ht hf P env xs S2).bind fun ys S3 => rfl
        | _ => trivial
theorem fr_compR {own : List Nat} {p : Pat} {i : FI} {t : FT} {f : FE} (hi : FrI i) (ht : FrT t) (hf : FrE f) (P : Store) (env : DEnv) (S : Store) : FrR id P (compR own p i t f env S) (compR own p i t f (shE P.length env) (P ++ S)) :=
  (hi P env S).bind fun xs S1 => by
    show FrR id P (if small xs.length then _ else _) (if small xs.length then _ else _)
    split
    · rw [wipe_sh]; exact fr_compL ht hf P _ xs S1
    · trivial
theorem fr_lc {own : List Nat} {p : Pat} {i : FI} {t : FT} {f : FE} (hi : FrI i) (ht : FrT t) (hf : FrE f) : FrE (dLc own p i t f) := fun P env S => (fr_compR hi ht hf P env S).bind fun ys S1 => rfl
theorem fr_lcC {own : List Nat} {p : Pat} {i : FI} {t : FT} {f : FE} (hi : FrI i) (ht : FrT t) (hf : FrE f) : FrE (dLcC own p i t f) := fun P env S => (fr_compR hi ht hf P env S).bind fun ys S1 => by
  show _ = _; rw [len_sh, List.append_assoc]; rfl
theorem fr_comp2 {p p2 : Pat} {vs1 : List Nat} {i2 : FI} {t t2 : FT} {f : FE} (ht : FrT t) (hi : FrI i2) (ht2 : FrT t2) (hf : FrE f) (P : Store) (env : DEnv) : ∀ (xs acc : List PyData) (S : Store), FrR id P (comp2 p t vs1 p2 i2 t2 f env xs acc S) (comp2 p t vs1 p2 i2 t2 f (shE P.length env) xs acc (P ++ S))
  | [], acc, S => rfl
  | x :: xs, acc, S => by
    unfold comp2
    rw [gPat_sh]
    cases gPat p x env with
    | none => trivial
    | some env1 =>
      refine (ht P env1 S).noX.bind fun b S1 => ?_
      cases b with
      | false => exact fr_comp2 ht hi ht2 hf P env xs acc S1
      | true =>
        refine (hi P env1 S1).noX.bind fun zs S2 => ?_
        show FrR id P (if small (acc.length + zs.length) then _ else _) (if small (acc.length + zs.length) then _ else _)
        split
        · rw [wipe_sh]
          exact (fr_compL ht2 hf P _ zs S2).bind fun ys S3 => fr_comp2 ht hi ht2 hf P env xs (acc ++ ys) S3
        · trivial
theorem fr_compR2 {own vs1 : List Nat} {p p2 : Pat} {i i2 : FI} {t t2 : FT} {f : FE} (hi : FrI i) (ht : FrT t) (hi2 : FrI i2) (ht2 : FrT t2) (hf : FrE f) (P : Store) (env : DEnv) (S : Store) : FrR id P (compR2 own p i t vs1 p2 i2 t2 f env S) (compR2 own p i t vs1 p2 i2 t2 f (shE P.length env) (P ++ S)) :=
  (hi P env S).bind fun xs S1 => by rw [wipe_sh]; exact fr_comp2 ht hi2 ht2 hf P _ xs [] S1
theorem fr_lc2 {own vs1 : List Nat} {p p2 : Pat} {i i2 : FI} {t t2 : FT} {f : FE} (hi : FrI i) (ht : FrT t) (hi2 : FrI i2) (ht2 : FrT t2) (hf : FrE f) : FrE (dLc2 own p i t vs1 p2 i2 t2 f) := fun P env S => (fr_compR2 hi ht hi2 ht2 hf P env S).bind fun ys S1 => rfl
theorem fr_lc2C {own vs1 : List Nat} {p p2 : Pat} {i i2 : FI} {t t2 : FT} {f : FE} (hi : FrI i) (ht : FrT t) (hi2 : FrI i2) (ht2 : FrT t2) (hf : FrE f) : FrE (dLc2C own p i t vs1 p2 i2 t2 f) := fun P env S => (fr_compR2 hi ht hi2 ht2 hf P env S).bind fun ys S1 => by
  show _ = _; rw [len_sh, List.append_assoc]; rfl
theorem fr_compD {A : Type} {putA : A → PyData → PyData → Option A} {p : Pat} {t : FT} {fk fv : FE} (ht : FrT t) (hk : FrE fk) (hv : FrE fv) (P : Store) (env : DEnv) : ∀ (xs : List PyData) (acc : A) (S : Store), FrR id P (compD putA p t fk fv env xs acc S) (compD putA p t fk fv (shE P.length env) xs acc (P ++ S))
  | [], acc, S => rfl
  | x :: xs, acc, S => by
    unfold compD
    rw [gPat_sh]
    cases gPat p x env with
    | none => trivial
    | some env1 =>
      refine (ht P env1 S).noX.bind fun b S1 => ?_
      cases b with
      | false => exact fr_compD ht hk hv P env xs acc S1
      | true =>
        refine (hk P env1 S1).noX.bind fun d S2 => (hv P env1 S2).noX.bind fun e S3 => ?_
        cases d with
        | v y =>
          cases e with
          | v z =>
            simp only [shD]
            cases putA acc y z with
            | none => trivial
            | some acc' => exact fr_compD ht hk hv P env xs acc' S3
          | _ => trivial
        | _ => trivial
theorem fr_dcG {A : Type} {putA : A → PyData → PyData → Option A} {zeroA : A} {cellA : A → Cell} {own : List Nat} {p : Pat} {i : FI} {t : FT} {fk fv : FE} (hi : FrI i) (ht : FrT t) (hk : FrE fk) (hv : FrE fv) : FrE (dDcG putA zeroA cellA own p i t fk fv) :=
  fun P env S => (hi P env S).bind fun xs S1 => by
    refine FrR.bind (sh := id) ?_ fun acc S2 => ?_
    · show FrR id P (if small xs.length then _ else _) (if small xs.length then _ else _)
      split
      · rw [wipe_sh]; exact fr_compD ht hk hv P _ xs _ S1
      · trivial
    · show _ = _; rw [len_sh, List.append_assoc]; rfl
theorem fr_dcT {own : List Nat} {p : Pat} {i : FI} {t : FT} {fk fv : FE} (hi : FrI i) (ht : FrT t) (hk : FrE fk) (hv : FrE fv) : FrE (dDcT own p i t fk fv) := fr_dcG hi ht hk hv
theorem fr_dcK {own : List Nat} {p : Pat} {i : FI} {t : FT} {fk fv : FE} (hi : FrI i) (ht : FrT t) (hk : FrE fk) (hv : FrE fv) : FrE (dDcK own p i t fk fv) := fr_dcG hi ht hk hv

/-! calls -/
theorem take_sh (P S : Store) (n : Nat) : (P ++ S).take (P.length + n) = P ++ S.take n := by rw [List.take_append, List.take_of_length_le (by omega)]; congr 2; omega
theorem fr_trunc {P : Store} {r r' : Res D} (n : Nat) (h : FrR (shD P.length) P r r') : FrR (shD P.length) P (trunc n r) (trunc (P.length + n) r') := by
  cases r with
  | ok d S =>
    have h : r' = _ := h
    subst h
    cases d with
    | r m =>
      simp only [trunc, shD, at_sh, take_sh]
      by_cases hm : m < n
      · rw [if_pos hm, if_pos (by omega)]; exact rfl
      · rw [if_neg hm, if_neg (by omega)]
        split
        · show _ = _; rw [List.append_assoc]; rfl
        · trivial
    | _ => simp only [trunc, shD, take_sh]; exact rfl
  | exc x S =>
    have h : r' = _ := h
    subst h
    simp only [trunc, take_sh]; exact rfl
  | stuck => trivial
theorem shD_v (p : Nat) (x : PyData) : shD p (.v x) = .v x := rfl
theorem fr_call {c : Fn} {g : FA} {dd : List D} (hd : ∀ p, dd.map (shD p) = dd) (hc : FrF c) (hg : FrA g) : FrE (dCall c g dd) := fun P env S => (hg P env S).bind fun ds S1 => by
  rw [len_sh]
  refine fr_trunc _ ?_
  have := hc P (ds ++ dd) S1
  rwa [List.map_append, hd] at this
theorem fr_call0 {c : Fn} {g : FA} (hc : FrF c) (hg : FrA g) : FrE (dCall c g []) := fr_call (fun _ => rfl) hc hg
theorem fr_fin {P : Store} {r r' : Res Out} (h : FrR (shO P.length) P r r') : FrR (shD P.length) P (fin r) (fin r') := by
  cases r with
  | ok o S => have h : r' = _ := h; subst h; cases o <;> first | exact rfl | trivial
  | exc x S => trivial
  | stuck => trivial
theorem fr_run {n slots : Nat} {b : FS} (hb : FrS b) : FrF (runBody n slots b) := by
  intro P ds S
  unfold runBody
  rw [List.length_map]
  split
  · have := hb P (ds.map some ++ List.replicate (slots - n) none) S
    have e : shE P.length (ds.map some ++ List.replicate (slots - n) none) = (ds.map (shD P.length)).map some ++ List.replicate (slots - n) none := by
      simp [shE]
    rw [e] at this
    exact fr_fin this
  · trivial
theorem fr_stuckF : FrF fun _ _ => .stuck := fun _ _ _ => trivial

/-! statements -/
theorem fr_nil : FrS sNil := fun _ _ _ => rfl
theorem fr_sq {f g : FS} (hf : FrS f) (hg : FrS g) : FrS (sSeq f g) := fun P env S => (hf P env S).thenS fun e S1 => hg P e S1
theorem fr_set (i : Nat) {f : FE} (hf : FrE f) : FrS (sSet i f) := fun P env S => (hf P env S).lift fun d S1 => by
  show _ = _; simp only [shO, shE_set]
theorem fr_expr {f : FE} (hf : FrE f) : FrS (sExpr f) := fun P env S => (hf P env S).lift fun d S1 => rfl
theorem fr_ret {f : FE} (hf : FrE f) : FrS (sRet f) := fun P env S => (hf P env S).lift fun d S1 => rfl
theorem fr_retN : FrS sRetN := fun _ _ _ => rfl
theorem fr_brk : FrS sBrk := fun _ _ _ => rfl
theorem fr_cont : FrS sCont := fun _ _ _ => rfl
theorem fr_ifS {c : FT} {f g : FS} (hc : FrT c) (hf : FrS f) (hg : FrS g) : FrS (sIf c f g) := fun P env S => (hc P env S).lift fun b S1 => by
  cases b
  · exact hg P env S1
  · exact hf P env S1
theorem fr_while {c : FT} {b : FS} (hc : FrT c) (hb : FrS b) : ∀ n : Nat, FrS (sWhile c b n)
  | 0 => fun _ _ _ => trivial
  | n + 1 => fun P env S => (hc P env S).lift fun x S1 => by
    cases x
    · exact rfl
    · exact (hb P env S1).loopS fun e S2 => fr_while hc hb n P e S2
theorem fr_forL {p : Pat} {b : FS} (hb : FrS b) : ∀ xs : List PyData, FrS (forL p b xs)
  | [] => fun _ _ _ => rfl
  | x :: xs => fun P env S => by
    unfold forL
    rw [gPat_sh]
    cases gPat p x env with
    | none => trivial
    | some e1 => exact (hb P e1 S).loopS fun e S2 => fr_forL hb xs P e S2
theorem fr_for {p : Pat} {i : FI} {b : FS} (hi : FrI i) (hb : FrS b) : FrS (sFor p i b) := fun P env S => (hi P env S).lift fun xs S1 => fr_forL hb xs P env S1
theorem fr_asg {p : Pat} {f : FE} (hf : FrE f) : FrS (sAsg p f) := fun P env S => (hf P env S).lift fun d S1 => by
  cases d with
  | v x =>
    simp only [shD]
    rw [gPat_sh]
    cases gPat p x env with
    | none => trivial
    | some e1 => exact rfl
  | _ => trivial
theorem fr_frz (i : Nat) {f : FS} (hf : FrS f) : FrS (sFrz i f) := by
  intro P env S
  unfold sFrz
  rw [shE_at]
  cases h : env[i]? with
  | none => exact hf P env S
  | some o =>
    cases o with
    | none => exact hf P env S
    | some d =>
      cases d with
      | r n =>
        simp only [Option.map, shD, at_sh]
        split
        · rename_i xs _
          have := hf P (env.set i (some (.v (.list xs)))) (S.set n .dead)
          rw [shE_set] at this
          rw [set_sh]
          exact this
        · trivial
      | _ => exact hf P env S
theorem fold_sh (p : Nat) : ∀ (l : List (Nat × D)) (env : DEnv), shE p (l.foldl (fun e q => e.set q.1 (some q.2)) env) = (l.map fun q => (q.1, shD p q.2)).foldl (fun e q => e.set q.1 (some q.2)) (shE p env)
  | [], _ => rfl
  | q :: l, env => by
    simp only [List.foldl, List.map]
    rw [fold_sh p l, shE_set]
theorem fr_par (is : List Nat) {g : FA} (hg : FrA g) : FrS (sPar is g) := fun P env S => (hg P env S).lift fun ds S1 => by
  rw [List.length_map]
  split
  · show _ = _
    simp only [shO, fold_sh]
    congr 3
    rw [List.zip_map_right]
    rfl
  · trivial
theorem fr_aug (i : Nat) {op : D → D → Store → Res D} {f : FE} (ho : Fr2 op) (hf : FrE f) : FrS (sAug i op f) := by
  intro P env S
  unfold sAug
  rw [shE_at]
  cases h : env[i]? with
  | none => trivial
  | some o =>
    cases o with
    | none => trivial
    | some d =>
      refine (hf P env S).lift fun e S1 => (ho P d e S1).lift fun z S2 => ?_
      show _ = _; simp only [shO, shE_set]
theorem fr_setIx {fo fi fe : FE} (ho : FrE fo) (hi : FrE fi) (he : FrE fe) : FrS (sSetIx fo fi fe) := fun P env S => (he P env S).lift fun d S1 => by
  cases d with
  | v x =>
    refine (ho P env S1).lift fun o S2 => ?_
    cases o with
    | r n =>
      refine (hi P env S2).lift fun i S3 => ?_
      cases i with
      | v y =>
        cases y with
        | int k =>
          simp only [shD, at_sh]
          split
          · split
            · show _ = _; rw [set_sh]; rfl
            · trivial
          · trivial
        | _ => trivial
      | _ => trivial
    | _ => trivial
  | _ => trivial
theorem fr_setT {fo fi fe : FE} (ho : FrE fo) (hi : FrE fi) (he : FrE fe) : FrS (sSetT fo fi fe) := fun P env S => (he P env S).lift fun d S1 => by
  cases d with
  | v x =>
    refine (ho P env S1).lift fun o S2 => ?_
    cases o with
    | r n =>
      refine (hi P env S2).lift fun i S3 => ?_
      cases i with
      | v y =>
        simp only [shD, at_sh]
        split
        · split
          · split
            · show _ = _; rw [set_sh]; rfl
            · trivial
          · trivial
        · trivial
      | _ => trivial
    | _ => trivial
  | _ => trivial
theorem fr_setK {fo fi fe : FE} (ho : FrE fo) (hi : FrE fi) (he : FrE fe) : FrS (sSetK fo fi fe) := fun P env S => (he P env S).lift fun d S1 => by
  cases d with
  | v x =>
    refine (ho P env S1).lift fun o S2 => ?_
    cases o with
    | r n =>
      refine (hi P env S2).lift fun i S3 => ?_
      cases i with
      | v y =>
        simp only [shD, at_sh]
        split
        · split
          · split
            · show _ = _; rw [set_sh]; rfl
            · trivial
          · trivial
        · trivial
      | _ => trivial
    | _ => trivial
  | _ => trivial
theorem fr_raise {f : FE} (hf : FrE f) : FrS (sRaiseR f) := fun P env S => (hf P env S).lift fun d S1 => by
  split
  · exact rfl
  · trivial

/-- the frame of a body, by its form -/
theorem fr_repC : Fr2 dRepC := by
  intro P d e S
  unfold dRepC
  rw [listOf_sh]
  split
  · rename_i xs k h
    have : shD P.length (.v (.int k)) = .v (.int k) := rfl
    rw [h]
    simp only [this]
    split
    · show _ = _; rw [len_sh, List.append_assoc]; rfl
    · trivial
  · trivial
theorem fr_repT : Fr2 dRepT := by
  intro P d e S
  unfold dRepT
  split
  · simp only [shD]; split
    · exact rfl
    · trivial
  · trivial
theorem fr_repZ : Fr2 dRepZ := by
  intro P d e S
  unfold dRepZ
  split
  · simp only [shD]; split
    · exact rfl
    · exact fr_repT P _ _ S
  · trivial
theorem fr_lenT : FrB opLenT := by
  intro P ds S
  unfold opLenT
  split
  · rename_i d
    simp only [List.map, dtOf_sh]
    split
    · exact rfl
    · exact fr_len P [d] S
  · trivial
theorem fr_ix2 {fo fi fo2 fi2 fe : FE} (ho : FrE fo) (hi : FrE fi) (ho2 : FrE fo2) (hi2 : FrE fi2) (he : FrE fe) : FrS (sIx2 fo fi fo2 fi2 fe) := fun P env S => (he P env S).lift fun d S1 => by
  split
  · rename_i x y
    exact fr_sq (fr_setIx ho hi (fr_c x)) (fr_setIx ho2 hi2 (fr_c y)) P env S1
  · trivial

/-- a data answer of a run at the empty store is the answer at every store -/
def pv (r : Res D) : Option PyData := match r with
  | .ok (.v x) _ => some x
  | _ => none
theorem any_store {c : Fn} (hc : FrF c) {xs : List PyData} {y : PyData} (h : pv (c (xs.map .v) []) = some y) (S : Store) : trunc S.length (c (xs.map .v) S) = .ok (.v y) S := by
  have := hc S (xs.map .v) []
  have e : (xs.map D.v).map (shD S.length) = xs.map D.v := by rw [List.map_map]; rfl
  rw [e, List.append_nil] at this
  cases hr : c (xs.map .v) [] with
  | ok d S' =>
    rw [hr] at h this
    cases d with
    | v x =>
      have hx : x = y := by simpa [pv] using h
      subst hx
      have this : c (xs.map .v) S = _ := this
      rw [this]
      show Res.ok _ _ = _
      simp [shD]
    | _ => simp [pv] at h
  | exc x S' => rw [hr] at h; simp [pv] at h
  | stuck => rw [hr] at h; simp [pv] at h
end G

set_option Elab.async false
set_option linter.all false
set_option autoImplicit false
set_option maxRecDepth 100000
namespace G
open PySem PySem.Spec PyProof.Rows L2

/-! ### a run beside a dead cell is a run beside a dict that remembers; the calls told by a table -/
structure Fam where
  b : Nat
  n : Nat
  M : Store → Prop
  len : ∀ B, M B → B.length = b
  hn : n < b
def Fam.ix (F : Fam) : Nat → Nat
  | 0 => F.n
  | i + 1 => F.b + i
def Fam.sh (F : Fam) : D → D
  | .r n => .r (F.ix n)
  | .v x => .v x | .k x => .k x | .g i j => .g i j | .z x => .z x | .y x => .y x
abbrev Fam.shE (F : Fam) (env : DEnv) : DEnv := env.map (Option.map F.sh)
def Fam.shO (F : Fam) : Out → Out
  | .nx e => .nx (F.shE e) | .rt d => .rt (F.sh d) | .bk e => .bk (F.shE e) | .ct e => .ct (F.shE e) | .ex x e => .ex x (F.shE e)
def SmR {α : Type} (F : Fam) (sh : α → α) (r r' : Res α) : Prop := match r with
  | .ok a S => ∃ L B, S = .dead :: L ∧ F.M B ∧ r' = .ok (sh a) (B ++ L)
  | .exc x S => ∃ L B, S = .dead :: L ∧ F.M B ∧ r' = .exc x (B ++ L)
  | .stuck => True
section
variable (F : Fam)
def SmE (f f' : FE) : Prop := ∀ env L B, F.M B → SmR F F.sh (f env (.dead :: L)) (f' (F.shE env) (B ++ L))
def SmT (f f' : FT) : Prop := ∀ env L B, F.M B → SmR F id (f env (.dead :: L)) (f' (F.shE env) (B ++ L))
def SmA (f f' : FA) : Prop := ∀ env L B, F.M B → SmR F (List.map F.sh) (f env (.dead :: L)) (f' (F.shE env) (B ++ L))
def SmI (f f' : FI) : Prop := ∀ env L B, F.M B → SmR F id (f env (.dead :: L)) (f' (F.shE env) (B ++ L))
def SmO (f f' : FO) : Prop := ∀ env L B, F.M B → SmR F id (f env (.dead :: L)) (f' (F.shE env) (B ++ L))
def SmS (f f' : FS) : Prop := ∀ env L B, F.M B → SmR F F.shO (f env (.dead :: L)) (f' (F.shE env) (B ++ L))
def SmF (f f' : Fn) : Prop := ∀ ds L B, F.M B → SmR F F.sh (f ds (.dead :: L)) (f' (ds.map F.sh) (B ++ L))
def SmC (f f' : Fn) : Prop := ∀ ds L B, F.M B → SmR F F.sh (trunc (L.length + 1) (f ds (.dead :: L))) (trunc (B ++ L).length (f' (ds.map F.sh) (B ++ L)))
def Sm1 (op : D → Store → Res D) : Prop := ∀ d L B, F.M B → SmR F F.sh (op d (.dead :: L)) (op (F.sh d) (B ++ L))
def Sm2 (op : D → D → Store → Res D) : Prop := ∀ d e L B, F.M B → SmR F F.sh (op d e (.dead :: L)) (op (F.sh d) (F.sh e) (B ++ L))
def SmM (op : OpM) : Prop := ∀ d ds L B, F.M B → SmR F F.sh (op d ds (.dead :: L)) (op (F.sh d) (ds.map F.sh) (B ++ L))
end
section
variable {F : Fam}
theorem SmR.mk {α : Type} {sh : α → α} {a : α} {L B : Store} (hB : F.M B) : SmR F sh (.ok a (.dead :: L)) (.ok (sh a) (B ++ L)) := ⟨L, B, rfl, hB, rfl⟩
theorem SmR.bind {α β : Type} {sh : α → α} {sh2 : β → β} {r r' : Res α} {k k' : α → Store → Res β} (h : SmR F sh r r') (hk : ∀ a L B, F.M B → SmR F sh2 (k a (.dead :: L)) (k' (sh a) (B ++ L))) : SmR F sh2 (r.bind k) (r'.bind k') := by
  cases r with
  | ok a S => obtain ⟨L, B, rfl, hB, rfl⟩ := h; exact hk a L B hB
  | exc x S => obtain ⟨L, B, rfl, hB, rfl⟩ := h; exact ⟨L, B, rfl, hB, rfl⟩
  | stuck => trivial
theorem SmR.noX {α : Type} {sh : α → α} {r r' : Res α} (h : SmR F sh r r') : SmR F sh (noX r) (noX r') := by
  cases r with
  | ok a S => obtain ⟨L, B, rfl, hB, rfl⟩ := h; exact ⟨L, B, rfl, hB, rfl⟩
  | exc x S => trivial
  | stuck => trivial
theorem SmR.lift {β : Type} {sh : β → β} {r r' : Res β} {k k' : β → Store → Res Out} {env : DEnv} (h : SmR F sh r r') (hk : ∀ a L B, F.M B → SmR F F.shO (k a (.dead :: L)) (k' (sh a) (B ++ L))) :
    SmR F F.shO (lift env r k) (lift (F.shE env) r' k') := by
  cases r with
  | ok a S => obtain ⟨L, B, rfl, hB, rfl⟩ := h; exact hk a L B hB
  | exc x S => obtain ⟨L, B, rfl, hB, rfl⟩ := h; exact ⟨L, B, rfl, hB, rfl⟩
  | stuck => trivial
theorem SmR.thenS {r r' : Res Out} {k k' : DEnv → Store → Res Out} (h : SmR F F.shO r r') (hk : ∀ e L B, F.M B → SmR F F.shO (k e (.dead :: L)) (k' (F.shE e) (B ++ L))) : SmR F F.shO (thenS r k) (thenS r' k') := by
  cases r with
  | ok a S => obtain ⟨L, B, rfl, hB, rfl⟩ := h; cases a <;> first | exact hk _ _ _ hB | exact ⟨L, B, rfl, hB, rfl⟩
  | exc x S => obtain ⟨L, B, rfl, hB, rfl⟩ := h; exact ⟨L, B, rfl, hB, rfl⟩
  | stuck => trivial
theorem SmR.loopS {r r' : Res Out} {k k' : DEnv → Store → Res Out} (h : SmR F F.shO r r') (hk : ∀ e L B, F.M B → SmR F F.shO (k e (.dead :: L)) (k' (F.shE e) (B ++ L))) : SmR F F.shO (loopS r k) (loopS r' k') := by
  cases r with
  | ok a S => obtain ⟨L, B, rfl, hB, rfl⟩ := h; cases a <;> first | exact hk _ _ _ hB | exact ⟨L, B, rfl, hB, rfl⟩
  | exc x S => obtain ⟨L, B, rfl, hB, rfl⟩ := h; exact ⟨L, B, rfl, hB, rfl⟩
  | stuck => trivial
section
variable {L B : Store}
theorem at_sm (hB : F.M B) (i : Nat) : (B ++ L)[F.ix (i + 1)]? = (Cell.dead :: L)[i + 1]? := by
  have := F.len B hB
  show (B ++ L)[F.b + i]? = _
  rw [List.getElem?_append_right (by omega), List.getElem?_cons_succ]; congr 1; omega
theorem set_sm (hB : F.M B) (i : Nat) (c : Cell) : (B ++ L).set (F.ix (i + 1)) c = B ++ L.set i c := by
  have := F.len B hB
  show (B ++ L).set (F.b + i) c = _
  rw [List.set_append_right _ _ (by omega)]; congr 2; omega
theorem d0 (d : D) : d = .r 0 ∨ d ≠ .r 0 := by
  cases d with
  | r n => cases n with
    | zero => exact .inl rfl
    | succ n => exact .inr fun h => by cases h
  | _ => exact .inr fun h => by cases h
theorem listOf_sm (hB : F.M B) {d : D} (h : d ≠ .r 0) : listOf (B ++ L) (F.sh d) = listOf (.dead :: L) d := by
  cases d with
  | v x => cases x <;> rfl
  | r n =>
    cases n with
    | zero => exact absurd rfl h
    | succ n => simp only [listOf, Fam.sh, at_sm hB]
  | _ => rfl
theorem seqOf_sm (hB : F.M B) {d : D} (h : d ≠ .r 0) : seqOf (B ++ L) (F.sh d) = seqOf (.dead :: L) d := by
  cases d with
  | v x => cases x <;> rfl
  | r n =>
    cases n with
    | zero => exact absurd rfl h
    | succ n => simp only [seqOf, Fam.sh, at_sm hB]
  | _ => rfl
theorem dataOf_sm (hB : F.M B) {d : D} (h : d ≠ .r 0) : dataOf (B ++ L) (F.sh d) = dataOf (.dead :: L) d := by
  cases d with
  | v x => cases x <;> rfl
  | r n =>
    cases n with
    | zero => exact absurd rfl h
    | succ n => simp only [dataOf, Fam.sh, at_sm hB]
  | _ => rfl
theorem dtOf_sm (hB : F.M B) {d : D} (h : d ≠ .r 0) : dtOf (B ++ L) (F.sh d) = dtOf (.dead :: L) d := by
  cases d with
  | v x => cases x <;> rfl
  | r n =>
    cases n with
    | zero => exact absurd rfl h
    | succ n => simp only [dtOf, Fam.sh, at_sm hB]
  | _ => rfl
theorem dkOf_sm (hB : F.M B) {d : D} (h : d ≠ .r 0) : dkOf (B ++ L) (F.sh d) = dkOf (.dead :: L) d := by
  cases d with
  | v x => cases x <;> rfl
  | r n =>
    cases n with
    | zero => exact absurd rfl h
    | succ n => simp only [dkOf, Fam.sh, at_sm hB]
  | _ => rfl
theorem lenOf_sm (hB : F.M B) {d : D} (h : d ≠ .r 0) : lenOf (B ++ L) (F.sh d) = lenOf (.dead :: L) d := by
  cases d with
  | v x => cases x <;> rfl
  | r n =>
    cases n with
    | zero => exact absurd rfl h
    | succ n => simp only [lenOf, Fam.sh, at_sm hB]
  | _ => rfl
theorem truD_sm (hB : F.M B) {d : D} (h : d ≠ .r 0) : truD (B ++ L) (F.sh d) = truD (.dead :: L) d := by
  cases d with
  | v x => cases x <;> rfl
  | r n =>
    cases n with
    | zero => exact absurd rfl h
    | succ n => simp only [truD, Fam.sh, at_sm hB]
  | _ => rfl
theorem tyN_sm (hB : F.M B) {d : D} (h : d ≠ .r 0) : tyN (B ++ L) (F.sh d) = tyN (.dead :: L) d := by
  cases d with
  | v x => cases x <;> rfl
  | r n =>
    cases n with
    | zero => exact absurd rfl h
    | succ n => simp only [tyN, Fam.sh, at_sm hB]
  | _ => rfl
theorem vals_sm (ds : List D) : vals (ds.map F.sh) = vals ds := by
  induction ds with
  | nil => rfl
  | cons d ds ih => cases d <;> simp [vals, Fam.sh, ih]
theorem smE_at (env : DEnv) (i : Nat) : (F.shE env)[i]? = (env[i]?).map (Option.map F.sh) := by simp
theorem smE_set (env : DEnv) (i : Nat) (d : D) : F.shE (env.set i (some d)) = (F.shE env).set i (some (F.sh d)) := by simp [Fam.shE, List.map_set]
theorem smE_setN (env : DEnv) (i : Nat) : F.shE (env.set i none) = (F.shE env).set i none := by simp [Fam.shE, List.map_set]
theorem len_sm (hB : F.M B) : (B ++ L).length = F.ix (L.length + 1) := by rw [List.length_append, F.len B hB]; rfl
theorem sm_new (hB : F.M B) (c : Cell) : SmR F F.sh (.ok (D.r (Cell.dead :: L).length) (Cell.dead :: L ++ [c])) (.ok (D.r (B ++ L).length) (B ++ L ++ [c])) := by
  refine ⟨L ++ [c], B, rfl, hB, ?_⟩
  rw [List.append_assoc, len_sm hB]; rfl
theorem sm_ite {c : Prop} [Decidable c] {d : D} (hB : F.M B) : SmR F F.sh (if c then Res.ok d (.dead :: L) else .stuck) (if c then Res.ok (F.sh d) (B ++ L) else .stuck) := by
  by_cases h : c
  · rw [if_pos h, if_pos h]; exact .mk hB
  · rw [if_neg h]; trivial
theorem sm_opt {β : Type} {o : Option β} {g g' : β → Res D} (h : ∀ x, SmR F F.sh (g x) (g' x)) : SmR F F.sh (match o with | some x => g x | none => .stuck) (match o with | some x => g' x | none => .stuck) := by
  cases o with
  | none => trivial
  | some x => exact h x
end

/-! leaves -/
theorem sm_pI (f : Int → Int → Int) : Sm2 F (pI f) := by
  intro d e L B hB
  unfold pI
  split
  · exact .mk hB
  · trivial
theorem sm_pIc (c : Int → Int → Bool) (f : Int → Int → Int) : Sm2 F (pIc c f) := by
  intro d e L B hB
  unfold pIc
  split
  · exact sm_ite hB
  · trivial
theorem sm_pB (f : Int → Int → Bool) : Sm2 F (pB f) := by
  intro d e L B hB
  unfold pB
  split
  · exact .mk hB
  · trivial
theorem sm_sub : Sm2 F dSub := sm_pI _
theorem sm_mul : Sm2 F dMul := sm_pIc _ _
theorem sm_div : Sm2 F dDiv := sm_pIc _ _
theorem sm_mod : Sm2 F dMod := sm_pIc _ _
theorem sm_pow : Sm2 F dPow := sm_pIc _ _
theorem sm_shl : Sm2 F dShl := sm_pIc _ _
theorem sm_shr : Sm2 F dShr := sm_pIc _ _
theorem sm_xor : Sm2 F dXor := sm_pI _
theorem sm_and : Sm2 F dAnd := sm_pI _
theorem sm_or : Sm2 F dOr := sm_pI _
theorem sm_lt : Sm2 F dLt := sm_pB _
theorem sm_le : Sm2 F dLe := sm_pB _
theorem sm_gt : Sm2 F dGt := sm_pB _
theorem sm_ge : Sm2 F dGe := sm_pB _
theorem sm_eq : Sm2 F dEq := by
  intro d e L B hB
  rcases d0 d with rfl | hd
  · trivial
  rcases d0 e with rfl | he
  · unfold dEq
    cases dataOf (.dead :: L) d <;> trivial
  unfold dEq
  rw [dataOf_sm hB hd, dataOf_sm hB he]
  split
  · exact sm_ite hB
  · trivial
theorem sm_ne : Sm2 F dNe := by
  intro d e L B hB
  rcases d0 d with rfl | hd
  · trivial
  rcases d0 e with rfl | he
  · unfold dNe
    cases dataOf (.dead :: L) d <;> trivial
  unfold dNe
  rw [dataOf_sm hB hd, dataOf_sm hB he]
  split
  · exact sm_ite hB
  · trivial
theorem sm_catO {L B : Store} (hB : F.M B) (a b : Option (List PyData)) : SmR F F.sh (catO (.dead :: L) a b) (catO (B ++ L) a b) := by
  cases a with
  | none => trivial
  | some x =>
    cases b with
    | none => trivial
    | some y => exact sm_ite hB
theorem notL_sm (d : D) : notL (F.sh d) = notL d := by
  cases d with
  | v x => cases x <;> rfl
  | _ => rfl
theorem sm_add : Sm2 F dAdd := by
  intro d e L B hB
  by_cases hd : notL d
  · cases d with
    | v x =>
      cases x with
      | int i =>
        cases e with
        | v y =>
          cases y with
          | int j => exact .mk hB
          | _ => trivial
        | _ => trivial
      | tuple a =>
        cases e with
        | v y =>
          cases y with
          | tuple b => exact sm_ite hB
          | _ => trivial
        | _ => trivial
      | str a =>
        cases e with
        | v y =>
          cases y with
          | str b => exact sm_ite hB
          | _ => trivial
        | _ => trivial
      | list a => exact hd.elim
      | _ => trivial
    | r n => exact hd.elim
    | _ => trivial
  · by_cases he : notL e
    · cases d with
      | v x =>
        cases x with
        | list a =>
          cases e with
          | v y =>
            cases y with
            | list b => exact he.elim
            | _ => trivial
          | r n => exact he.elim
          | _ => trivial
        | _ => exact absurd trivial hd
      | r n =>
        cases e with
        | v y =>
          cases y with
          | list b => exact he.elim
          | _ => trivial
        | r n => exact he.elim
        | _ => trivial
      | _ => exact absurd trivial hd
    · rw [dAdd_cat _ _ _ hd he, dAdd_cat _ _ _ (by rw [notL_sm]; exact hd) (by rw [notL_sm]; exact he)]
      rcases d0 d with rfl | h1
      · trivial
      rcases d0 e with rfl | h2
      · show SmR _ _ (catO _ _ none) _
        cases listOf (.dead :: L) d <;> trivial
      rw [listOf_sm hB h1, listOf_sm hB h2]
      exact sm_catO hB _ _
theorem sm_catC : Sm2 F dCatC := by
  intro d e L B hB
  rcases d0 d with rfl | h1
  · trivial
  rcases d0 e with rfl | h2
  · unfold dCatC
    cases listOf (.dead :: L) d <;> trivial
  unfold dCatC
  rw [listOf_sm hB h1, listOf_sm hB h2]
  split
  · split
    · exact sm_new hB _
    · trivial
  · trivial
theorem sm_ixK0 {L B : Store} (hB : F.M B) (i : Int) (o : Option (List PyData)) : SmR F F.sh (ixK (.dead :: L) i o) (ixK (B ++ L) i o) := by
  cases o with
  | none => trivial
  | some xs =>
    unfold ixK
    cases h : atI xs i with
    | none => simp only [h]; trivial
    | some x => simp only [h]; exact .mk hB
theorem sm_ix : Sm2 F dIx := by
  intro d e L B hB
  cases e with
  | v y =>
    cases y with
    | int i =>
      by_cases h : ∃ z, d = .v (.str z)
      · obtain ⟨z, rfl⟩ := h
        simp only [dIx, Fam.sh]
        split
        · split
          · exact .mk hB
          · trivial
        · trivial
      · have h1 : ∀ z, d ≠ .v (.str z) := fun z q => h ⟨z, q⟩
        have h2 : ∀ z, F.sh d ≠ .v (.str z) := fun z q => by
          cases d with
          | v x => exact h1 z q
          | _ => cases q
        show SmR _ _ _ (dIx _ (.v (.int i)) _)
        rcases d0 d with rfl | hd
        · trivial
        rw [dIx_i _ _ _ h1, dIx_i _ _ _ h2, seqOf_sm hB hd]
        exact sm_ixK0 hB _ _
    | _ => trivial
  | _ => trivial
theorem sm_inS (b : Bool) : Sm2 F (dInS b) := by
  intro d e L B hB
  rcases d0 d with rfl | h1
  · trivial
  rcases d0 e with rfl | h2
  · unfold dInS
    cases dataOf (.dead :: L) d <;> trivial
  unfold dInS
  rw [dataOf_sm hB h1, seqOf_sm hB h2]
  split
  · exact sm_ite hB
  · trivial
theorem sm_inT (b : Bool) : Sm2 F (dInT b) := by
  intro d e L B hB
  rcases d0 e with rfl | h2
  · cases d <;> trivial
  unfold dInT
  rw [dtOf_sm hB h2]
  cases d with
  | v x =>
    simp only [Fam.sh]
    split <;> first | (split <;> first | exact .mk hB | trivial) | trivial
  | _ => simp only [Fam.sh]; trivial
theorem sm_ixT : Sm2 F dIxT := by
  intro d e L B hB
  rcases d0 d with rfl | h1
  · trivial
  unfold dIxT
  rw [dtOf_sm hB h1]
  cases e with
  | v x =>
    simp only [Fam.sh]
    split <;> first | (split <;> first | exact .mk hB | trivial) | trivial
  | _ => simp only [Fam.sh]; split <;> trivial
theorem sm_inK (b : Bool) : Sm2 F (dInK b) := by
  intro d e L B hB
  rcases d0 e with rfl | h2
  · cases d <;> trivial
  unfold dInK
  rw [dkOf_sm hB h2]
  cases d with
  | v x =>
    simp only [Fam.sh]
    split <;> first | (split <;> first | exact .mk hB | trivial) | trivial
  | _ => simp only [Fam.sh]; trivial
theorem sm_ixK : Sm2 F dIxK := by
  intro d e L B hB
  rcases d0 d with rfl | h1
  · trivial
  unfold dIxK
  rw [dkOf_sm hB h1]
  cases e with
  | v x =>
    simp only [Fam.sh]
    split <;> first | (split <;> first | exact .mk hB | trivial) | trivial
  | _ => simp only [Fam.sh]; split <;> trivial
theorem sm_neg : Sm1 F dNeg := by
  intro d L B hB
  unfold dNeg
  split
  · exact .mk hB
  · trivial
theorem isN_sm (d : D) : isN (F.sh d) = isN d := by
  cases d with
  | v x => cases x <;> rfl
  | _ => rfl
theorem sm_isN : Sm1 F dIsN := fun d L B hB => by unfold dIsN; rw [isN_sm]; exact .mk hB
theorem sm_notN : Sm1 F dNotN := fun d L B hB => by unfold dNotN; rw [isN_sm]; exact .mk hB
theorem sm_isNo (b : Bool) : Sm1 F (dIsNo b) := by
  intro d L B hB
  cases d with
  | v x => cases x <;> exact .mk hB
  | r n =>
    cases n with
    | zero => trivial
    | succ n =>
      simp only [dIsNo, Fam.sh, at_sm hB]
      generalize (Cell.dead :: L)[n + 1]? = o
      cases o with
      | none => trivial
      | some c => cases c <;> first | exact .mk hB | trivial
  | _ => exact .mk hB

/-! builtins -/
abbrev SmB (F : Fam) (op : Op) : Prop := SmF F op op
theorem sm_len : SmB F opLen := by
  intro ds L B hB
  unfold opLen
  split
  · rename_i d
    rcases d0 d with rfl | hd
    · trivial
    simp only [List.map, lenOf_sm hB hd]; split <;> first | exact .mk hB | trivial
  · trivial
theorem sm_list : SmB F opList := by
  intro ds L B hB
  unfold opList
  split
  · rename_i d
    rcases d0 d with rfl | hd
    · trivial
    simp only [List.map, seqOf_sm hB hd]; split <;> first | exact .mk hB | trivial
  · trivial
theorem sm_listC : SmB F opListC := by
  intro ds L B hB
  unfold opListC
  split
  · rename_i d
    rcases d0 d with rfl | hd
    · trivial
    simp only [List.map, seqOf_sm hB hd]; split <;> first | exact sm_new hB _ | trivial
  · trivial
theorem sm_tuple : SmB F opTuple := by
  intro ds L B hB
  unfold opTuple
  split
  · rename_i d
    rcases d0 d with rfl | hd
    · trivial
    simp only [List.map, seqOf_sm hB hd]; split <;> first | exact .mk hB | trivial
  · trivial
theorem sm_int : SmB F opInt := by
  intro ds L B hB
  unfold opInt
  split <;> first | exact .mk hB | trivial
theorem sm_abs : SmB F opAbs := by
  intro ds L B hB
  unfold opAbs
  split <;> first | exact .mk hB | trivial
theorem sm_sum : SmB F opSum := by
  intro ds L B hB
  unfold opSum
  split
  · rename_i d
    rcases d0 d with rfl | hd
    · trivial
    simp only [List.map, listOf_sm hB hd]; split <;> first | (split <;> first | exact .mk hB | trivial) | trivial
  · trivial
theorem sm_sumS : SmB F opSumS := by
  intro ds L B hB
  unfold opSumS
  split
  · rename_i d
    rcases d0 d with rfl | hd
    · trivial
    simp only [List.map, seqOf_sm hB hd]; split <;> first | (split <;> first | exact .mk hB | trivial) | trivial
  · trivial
theorem sm_any : SmB F opAny := by
  intro ds L B hB
  unfold opAny
  split
  · rename_i d
    rcases d0 d with rfl | hd
    · trivial
    simp only [List.map, listOf_sm hB hd]; split <;> first | (split <;> first | exact .mk hB | trivial) | trivial
  · trivial
theorem sm_all : SmB F opAll := by
  intro ds L B hB
  unfold opAll
  split
  · rename_i d
    rcases d0 d with rfl | hd
    · trivial
    simp only [List.map, listOf_sm hB hd]; split <;> first | (split <;> first | exact .mk hB | trivial) | trivial
  · trivial
theorem sm_sortedS : SmB F opSortedS := by
  intro ds L B hB
  unfold opSortedS
  split
  · rename_i d
    rcases d0 d with rfl | hd
    · trivial
    simp only [List.map, seqOf_sm hB hd]; split <;> first | (split <;> first | exact .mk hB | trivial) | trivial
  · trivial
theorem sm_sorted : SmB F opSorted := by
  intro ds L B hB
  unfold opSorted
  split
  · rename_i d
    rcases d0 d with rfl | hd
    · trivial
    simp only [List.map, listOf_sm hB hd]; split <;> first | (split <;> first | exact .mk hB | trivial) | trivial
  · trivial
theorem sm_sortedT : SmB F opSortedT := by
  intro ds L B hB
  unfold opSortedT
  split
  · rename_i d
    rcases d0 d with rfl | hd
    · trivial
    simp only [List.map, dtOf_sm hB hd]; split <;> first | (split <;> first | exact .mk hB | trivial) | trivial
  · trivial
theorem sm_listT : SmB F opListT := by
  intro ds L B hB
  unfold opListT
  split
  · rename_i d
    rcases d0 d with rfl | hd
    · trivial
    simp only [List.map, dtOf_sm hB hd]; split <;> first | exact .mk hB | trivial
  · trivial
theorem sm_setSortI : SmB F opSetSortI := by
  intro ds L B hB
  unfold opSetSortI
  split
  · rename_i d
    rcases d0 d with rfl | hd
    · trivial
    simp only [List.map, listOf_sm hB hd]; split <;> first | (split <;> first | (split <;> first | exact .mk hB | trivial) | trivial) | trivial
  · trivial
theorem sm_setSorted : SmB F opSetSorted := by
  intro ds L B hB
  unfold opSetSorted
  split
  · rename_i d
    rcases d0 d with rfl | hd
    · trivial
    simp only [List.map, listOf_sm hB hd]; split <;> first | (split <;> first | (split <;> first | exact .mk hB | trivial) | trivial) | trivial
  · trivial
theorem sm_sortedE : SmB F opSortedE := by
  intro ds L B hB
  unfold opSortedE
  split
  · rename_i d
    rcases d0 d with rfl | hd
    · trivial
    simp only [List.map, seqOf_sm hB hd]; split <;> first | (split <;> first | exact .mk hB | trivial) | trivial
  · trivial
theorem sm_sortedTE : SmB F opSortedTE := by
  intro ds L B hB
  unfold opSortedTE
  split
  · rename_i d
    rcases d0 d with rfl | hd
    · trivial
    simp only [List.map, dtOf_sm hB hd]; split <;> first | (split <;> first | exact .mk hB | trivial) | trivial
  · trivial
theorem sm_setSortedE : SmB F opSetSortedE := by
  intro ds L B hB
  unfold opSetSortedE
  split
  · rename_i d
    rcases d0 d with rfl | hd
    · trivial
    simp only [List.map, listOf_sm hB hd]; split <;> first | (split <;> first | (split <;> first | exact .mk hB | trivial) | trivial) | trivial
  · trivial
theorem sm_sortedK : SmB F opSortedK := by
  intro ds L B hB
  unfold opSortedK
  split
  · rename_i d
    rcases d0 d with rfl | hd
    · trivial
    simp only [List.map, dkOf_sm hB hd]; split <;> first | (split <;> first | (split <;> first | exact .mk hB | trivial) | trivial) | trivial
  · trivial
theorem sm_range : SmB F opRange := by
  intro ds L B hB
  unfold opRange
  split <;> first | exact .mk hB | trivial
theorem sm_max : SmB F opMax := by
  intro ds L B hB
  match ds with
  | [] => trivial
  | [d] =>
    rcases d0 d with rfl | hd
    · trivial
    simp only [List.map, opMax, seqOf_sm hB hd]; split <;> first | (split <;> first | exact .mk hB | trivial) | trivial
  | [d, e] =>
    cases d with
    | v x =>
      cases x with
      | int i =>
        cases e with
        | v y =>
          cases y with
          | int j => exact .mk hB
          | _ => trivial
        | _ => trivial
      | _ => trivial
    | _ => trivial
  | a :: b :: c :: r =>
    have : opMax (a :: b :: c :: r) (.dead :: L) = .stuck := by
      unfold opMax
      split
      · simp_all
      · simp_all
      · rfl
    rw [this]; trivial
theorem sm_min : SmB F opMin := by
  intro ds L B hB
  match ds with
  | [] => trivial
  | [d] =>
    rcases d0 d with rfl | hd
    · trivial
    simp only [List.map, opMin, seqOf_sm hB hd]; split <;> first | (split <;> first | exact .mk hB | trivial) | trivial
  | [d, e] =>
    cases d with
    | v x =>
      cases x with
      | int i =>
        cases e with
        | v y =>
          cases y with
          | int j => exact .mk hB
          | _ => trivial
        | _ => trivial
      | _ => trivial
    | _ => trivial
  | a :: b :: c :: r =>
    have : opMin (a :: b :: c :: r) (.dead :: L) = .stuck := by
      unfold opMin
      split
      · simp_all
      · simp_all
      · rfl
    rw [this]; trivial
theorem sm_append : SmM F omAppend := by
  intro d ds L B hB
  unfold omAppend
  split
  · rename_i n x
    cases n with
    | zero => trivial
    | succ n =>
      simp only [List.map, Fam.sh, at_sm hB]
      generalize (Cell.dead :: L)[n + 1]? = o
      cases o with
      | none => trivial
      | some c =>
        cases c with
        | lst xs =>
          simp only
          split
          · refine ⟨L.set n _, B, rfl, hB, ?_⟩; rw [set_sm hB]; rfl
          · trivial
        | _ => trivial
  · trivial
theorem sm_extend : SmM F omExtend := by
  intro d ds L B hB
  match d, ds with
  | .r 0, [e] => trivial
  | .r (n + 1), [e] =>
    show SmR _ _ (extO (.dead :: L) (n + 1) (Cell.dead :: L)[n + 1]? (listOf (.dead :: L) e)) (extO (B ++ L) (F.ix (n + 1)) (B ++ L)[F.ix (n + 1)]? (listOf (B ++ L) (F.sh e)))
    rw [at_sm hB]
    rcases d0 e with rfl | he
    · show SmR _ _ (extO (.dead :: L) (n + 1) (Cell.dead :: L)[n + 1]? none) _
      generalize (Cell.dead :: L)[n + 1]? = o
      cases o with
      | none => trivial
      | some c => cases c <;> trivial
    rw [listOf_sm hB he]
    unfold extO
    split
    · split
      · refine ⟨L.set n _, B, rfl, hB, ?_⟩; rw [set_sm hB]; rfl
      · trivial
    · trivial
  | .r n, [] => trivial
  | .r n, _ :: _ :: _ => trivial
  | .v _, _ => trivial
  | .k _, _ => trivial
  | .g _ _, _ => trivial
  | .z _, _ => trivial
  | .y _, _ => trivial
/-! expressions -/
theorem sm_var (i : Nat) : SmE F (dVar i) (dVar i) := by
  intro env L B hB
  unfold dVar
  rw [smE_at]
  split
  · rename_i h; rw [h]; exact .mk hB
  · trivial
theorem sm_c (x : PyData) : SmE F (dC x) (dC x) := fun _ _ _ hB => .mk hB
theorem sm_bin {op : D → D → Store → Res D} {f g f' g' : FE} (ho : Sm2 F op) (hf : SmE F f f') (hg : SmE F g g') : SmE F (dBin op f g) (dBin op f' g') := fun env L B hB => (hf env L B hB).bind fun a L1 B1 h1 => (hg env L1 B1 h1).bind fun b L2 B2 h2 => ho a b L2 B2 h2
theorem sm_un {op : D → Store → Res D} {f f' : FE} (ho : Sm1 F op) (hf : SmE F f f') : SmE F (dUn op f) (dUn op f') := fun env L B hB => (hf env L B hB).bind fun a L1 B1 h1 => ho a L1 B1 h1
theorem sm_asB (d : D) {L B : Store} (hB : F.M B) : SmR F id (asB d (.dead :: L)) (asB (F.sh d) (B ++ L)) := by
  unfold asB
  split
  · exact .mk hB
  · trivial
theorem sm_test {f f' : FE} (hf : SmE F f f') : SmT F (dTest f) (dTest f') := fun env L B hB => (hf env L B hB).bind fun a L1 B1 h1 => sm_asB a h1
theorem sm_andT {f g f' g' : FT} (hf : SmT F f f') (hg : SmT F g g') : SmT F (tAndD f g) (tAndD f' g') := fun env L B hB => (hf env L B hB).bind fun b L1 B1 h1 => by
  cases b
  · exact .mk h1
  · exact hg env L1 B1 h1
theorem sm_orT {f g f' g' : FT} (hf : SmT F f f') (hg : SmT F g g') : SmT F (tOrD f g) (tOrD f' g') := fun env L B hB => (hf env L B hB).bind fun b L1 B1 h1 => by
  cases b
  · exact hg env L1 B1 h1
  · exact .mk h1
theorem sm_notT {f f' : FT} (hf : SmT F f f') : SmT F (tNotD f) (tNotD f') := fun env L B hB => (hf env L B hB).bind fun b L1 B1 h1 => .mk h1
theorem sm_tru {f f' : FE} (hf : SmE F f f') : SmT F (dTru f) (dTru f') := fun env L B hB => (hf env L B hB).bind fun d L1 B1 h1 => by
  show SmR F id (match truD (.dead :: L1) d with | some b => Res.ok b (.dead :: L1) | none => .stuck) (match truD (B1 ++ L1) (F.sh d) with | some b => Res.ok b (B1 ++ L1) | none => .stuck)
  rcases d0 d with rfl | hd
  · trivial
  rw [truD_sm h1 hd]
  split <;> first | exact .mk h1 | trivial
theorem sm_yes : SmT F fYes fYes := fun _ _ _ hB => .mk hB
theorem sm_andV {f g f' g' : FE} (hf : SmE F f f') (hg : SmE F g g') : SmE F (dAndV f g) (dAndV f' g') := fun env L B hB => (hf env L B hB).bind fun d L1 B1 h1 => (sm_asB d h1).bind fun b L2 B2 h2 => by
  cases b
  · exact .mk h2
  · exact hg env L2 B2 h2
theorem sm_orV {f g f' g' : FE} (hf : SmE F f f') (hg : SmE F g g') : SmE F (dOrV f g) (dOrV f' g') := fun env L B hB => (hf env L B hB).bind fun d L1 B1 h1 => (sm_asB d h1).bind fun b L2 B2 h2 => by
  cases b
  · exact hg env L2 B2 h2
  · exact .mk h2
theorem sm_notV {f f' : FE} (hf : SmE F f f') : SmE F (dNotV f) (dNotV f') := fun env L B hB => (hf env L B hB).bind fun d L1 B1 h1 => (sm_asB d h1).bind fun b L2 B2 h2 => .mk h2
theorem sm_if {c c' : FT} {f g f' g' : FE} (hc : SmT F c c') (hf : SmE F f f') (hg : SmE F g g') : SmE F (dIf c f g) (dIf c' f' g') := fun env L B hB => (hc env L B hB).bind fun b L1 B1 h1 => by
  cases b
  · exact hg env L1 B1 h1
  · exact hf env L1 B1 h1
theorem sm_nilA : SmA F dNilA dNilA := fun _ _ _ hB => .mk (sh := List.map F.sh) (a := []) hB
theorem sm_consA {f f' : FE} {g g' : FA} (hf : SmE F f f') (hg : SmA F g g') : SmA F (dConsA f g) (dConsA f' g') := fun env L B hB => (hf env L B hB).bind fun d L1 B1 h1 => (hg env L1 B1 h1).bind fun ds L2 B2 h2 => .mk (sh := List.map F.sh) (a := d :: ds) h2
theorem sm_tup {g g' : FA} (hg : SmA F g g') : SmE F (dTup g) (dTup g') := fun env L B hB => (hg env L B hB).bind fun ds L1 B1 h1 => by
  rw [vals_sm]
  split
  · exact sm_ite h1
  · trivial
theorem sm_lst {g g' : FA} (hg : SmA F g g') : SmE F (dLst g) (dLst g') := fun env L B hB => (hg env L B hB).bind fun ds L1 B1 h1 => by
  rw [vals_sm]
  split
  · exact sm_ite h1
  · trivial
theorem sm_lstC {g g' : FA} (hg : SmA F g g') : SmE F (dLstC g) (dLstC g') := fun env L B hB => (hg env L B hB).bind fun ds L1 B1 h1 => by
  rw [vals_sm]
  split
  · split
    · exact sm_new h1 _
    · trivial
  · trivial
theorem sm_newT : SmE F dNewT dNewT := fun env L B hB => sm_new hB _
theorem sm_newK : SmE F dNewK dNewK := fun env L B hB => sm_new hB _
theorem sm_isi (T : String) {f f' : FE} (hf : SmE F f f') : SmE F (dIsi T f) (dIsi T f') := fun env L B hB => (hf env L B hB).bind fun d L1 B1 h1 => by
  rcases d0 d with rfl | hd
  · trivial
  rw [tyN_sm h1 hd]
  split <;> first | exact .mk h1 | trivial
theorem sm_blt {op : Op} {g g' : FA} (ho : SmB F op) (hg : SmA F g g') : SmE F (dBlt op g) (dBlt op g') := fun env L B hB => (hg env L B hB).bind fun ds L1 B1 h1 => ho ds L1 B1 h1
theorem sm_oNone : SmO F oNone oNone := fun _ _ _ hB => .mk hB
theorem sm_oSome {f f' : FE} (hf : SmE F f f') : SmO F (oSome f) (oSome f') := fun env L B hB => (hf env L B hB).bind fun d L1 B1 h1 => by
  split
  · exact .mk h1
  · trivial
/-- a tuple, or a list wherever it stands -/
theorem sm_tl {d : D} {L B : Store} (hB : F.M B) (t l : List PyData → PyData) {r r' : Res D}
    (hr : r = match d with | .v (.tuple xs) => .ok (.v (t xs)) (.dead :: L) | d => match listOf (.dead :: L) d with | some xs => .ok (.v (l xs)) (.dead :: L) | none => .stuck)
    (hr' : r' = match F.sh d with | .v (.tuple xs) => .ok (.v (t xs)) (B ++ L) | d => match listOf (B ++ L) d with | some xs => .ok (.v (l xs)) (B ++ L) | none => .stuck) : SmR F F.sh r r' := by
  subst hr hr'
  cases d with
  | v x => cases x <;> first | exact .mk hB | trivial
  | r n =>
    cases n with
    | zero => trivial
    | succ n =>
      have := listOf_sm (F := F) (L := L) hB (d := .r (n + 1)) (fun h => by cases h)
      simp only [Fam.sh] at this ⊢
      rw [this]
      split <;> first | exact .mk hB | trivial
  | _ => trivial
theorem sm_sl {f f' : FE} {lo hi lo' hi' : FO} (hf : SmE F f f') (hl : SmO F lo lo') (hh : SmO F hi hi') : SmE F (dSl f lo hi) (dSl f' lo' hi') := fun env L B hB => (hf env L B hB).bind fun d L1 B1 h1 => (hl env L1 B1 h1).bind fun l L2 B2 h2 => (hh env L2 B2 h2).bind fun h L3 B3 h3 =>
  sm_tl h3 (fun xs => .tuple (cutD xs l h)) (fun xs => .list (cutD xs l h)) rfl rfl
theorem sm_back {f f' : FE} (hf : SmE F f f') : SmE F (dBack f) (dBack f') := fun env L B hB => (hf env L B hB).bind fun d L1 B1 h1 => sm_tl h1 (fun xs => .tuple xs.reverse) (fun xs => .list xs.reverse) rfl rfl
theorem sm_step (c : Int) {f f' : FE} (hf : SmE F f f') : SmE F (dStep c f) (dStep c f') := fun env L B hB => (hf env L B hB).bind fun d L1 B1 h1 => by
  rcases d0 d with rfl | hd
  · trivial
  rw [listOf_sm h1 hd]
  split <;> first | exact .mk h1 | trivial
theorem sm_mtL {op : OpM} {f f' : FE} {g g' : FA} (ho : SmM F op) (hf : SmE F f f') (hg : SmA F g g') : SmE F (dMtL op f g) (dMtL op f' g') := fun env L B hB => (hf env L B hB).bind fun d L1 B1 h1 => by
  rcases d0 d with rfl | hd
  · trivial
  rw [listOf_sm h1 hd]
  split
  · exact (hg env L1 B1 h1).bind fun ds L2 B2 h2 => ho d ds L2 B2 h2
  · trivial

theorem sm_popK {f g f' g' : FE} (hf : SmE F f f') (hg : SmE F g g') : SmE F (dPopK f g) (dPopK f' g') := fun env L B hB => (hf env L B hB).bind fun o L1 B1 h1 => by
  rcases d0 o with rfl | ho
  · trivial
  rw [dkOf_sm h1 ho]
  split
  · refine (hg env L1 B1 h1).bind fun i L2 B2 h2 => ?_
    cases o with
    | r n =>
      cases n with
      | zero => trivial
      | succ n =>
        cases i with
        | v x =>
          simp only [Fam.sh, at_sm h2]
          generalize (Cell.dead :: L2)[n + 1]? = q
          split
          · split
            · refine ⟨L2.set n _, B2, rfl, h2, ?_⟩; rw [set_sm h2]; rfl
            · trivial
          · trivial
        | _ => trivial
    | _ => trivial
  · trivial

/-! things walked, comprehensions -/
theorem sm_iteI {L B : Store} {c : Prop} [Decidable c] {xs : List PyData} (hB : F.M B) : SmR F id (if c then Res.ok xs (.dead :: L) else .stuck) (if c then Res.ok xs (B ++ L) else .stuck) := by
  by_cases h : c
  · rw [if_pos h, if_pos h]; exact .mk hB
  · rw [if_neg h]; trivial
theorem sm_range1 {f f' : FE} (hf : SmE F f f') : SmI F (iRange1 f) (iRange1 f') := fun env L B hB => (hf env L B hB).bind fun d L1 B1 h1 => by
  split
  · exact sm_iteI h1
  · trivial
theorem sm_range2 {f g f' g' : FE} (hf : SmE F f f') (hg : SmE F g g') : SmI F (iRange2 f g) (iRange2 f' g') := fun env L B hB => (hf env L B hB).bind fun d L1 B1 h1 => (hg env L1 B1 h1).bind fun e L2 B2 h2 => by
  split
  · exact sm_iteI h2
  · trivial
theorem sm_range3 {f g h f' g' h' : FE} (hf : SmE F f f') (hg : SmE F g g') (hh : SmE F h h') : SmI F (iRange3 f g h) (iRange3 f' g' h') := fun env L B hB => (hf env L B hB).bind fun d L1 B1 h1 => (hg env L1 B1 h1).bind fun e L2 B2 h2 => (hh env L2 B2 h2).bind fun k L3 B3 h3 => by
  split
  · exact sm_iteI h3
  · trivial
theorem sm_seq {f f' : FE} (hf : SmE F f f') : SmI F (iSeq f) (iSeq f') := fun env L B hB => (hf env L B hB).bind fun d L1 B1 h1 => by
  split
  · exact .mk h1
  · exact .mk h1
  · trivial
theorem sm_enum {f f' : FE} (hf : SmE F f f') : SmI F (iEnumD f) (iEnumD f') := fun env L B hB => (hf env L B hB).bind fun d L1 B1 h1 => by
  split
  · exact .mk h1
  · exact .mk h1
  · trivial
theorem sm_zip {f g f' g' : FE} (hf : SmE F f f') (hg : SmE F g g') : SmI F (iZipD f g) (iZipD f' g') := fun env L B hB => (hf env L B hB).bind fun d L1 B1 h1 => (hg env L1 B1 h1).bind fun e L2 B2 h2 => by
  split
  · exact .mk h2
  · exact .mk h2
  · trivial
theorem sm_lr {i i' : FI} (hi : SmI F i i') : SmE F (dLR i) (dLR i') := fun env L B hB => (hi env L B hB).bind fun xs L1 B1 h1 => .mk h1
theorem sm_tr {i i' : FI} (hi : SmI F i i') : SmE F (dTR i) (dTR i') := fun env L B hB => (hi env L B hB).bind fun xs L1 B1 h1 => .mk h1
theorem sm_lrC {i i' : FI} (hi : SmI F i i') : SmE F (dLRC i) (dLRC i') := fun env L B hB => (hi env L B hB).bind fun xs L1 B1 h1 => sm_new h1 _
theorem sm_rev {f f' : FE} (hf : SmE F f f') : SmE F (dRev f) (dRev f') := fun env L B hB => (hf env L B hB).bind fun d L1 B1 h1 => by
  rcases d0 d with rfl | hd
  · trivial
  rw [listOf_sm h1 hd]
  split <;> first | exact .mk h1 | trivial
theorem sm_revC {f f' : FE} (hf : SmE F f f') : SmE F (dRevC f) (dRevC f') := fun env L B hB => (hf env L B hB).bind fun d L1 B1 h1 => by
  rcases d0 d with rfl | hd
  · trivial
  rw [listOf_sm h1 hd]
  split
  · exact sm_new h1 _
  · trivial
theorem sm_isB (b : Bool) : Sm2 F (dIsB b) := by
  intro d e L B hB
  unfold dIsB
  split
  · exact .mk hB
  · trivial
mutual
theorem gPat_sm : ∀ (q : Pat) (x : PyData) (env : DEnv), gPat q x (F.shE env) = (gPat q x env).map F.shE
  | .s i, x, env => by simp only [gPat, Option.map_some, smE_set]; rfl
  | .t ps, x, env => by
    cases x with
    | tuple xs =>
      simp only [gPat]
      split
      · exact gPats_sm ps xs env
      · rfl
    | _ => rfl
theorem gPats_sm : ∀ (qs : List Pat) (xs : List PyData) (env : DEnv), gPats qs xs (F.shE env) = (gPats qs xs env).map F.shE
  | [], [], _ => by simp [gPats]
  | [], _ :: _, _ => by simp [gPats]
  | _ :: _, [], _ => by simp [gPats]
  | q :: qs, x :: xs, env => by
    simp only [gPats]
    rw [gPat_sm q x env]
    cases gPat q x env with
    | none => rfl
    | some e1 => exact gPats_sm qs xs e1
end
theorem wipe_sm (env : DEnv) : ∀ own : List Nat, wipeE (F.shE env) own = F.shE (wipeE env own)
  | [] => rfl
  | i :: r => by simp only [wipeE]; rw [wipe_sm env r, smE_setN]
theorem sm_compL {p : Pat} {t t' : FT} {f f' : FE} (ht : SmT F t t') (hf : SmE F f f') (env : DEnv) : ∀ (xs : List PyData) (L B : Store), F.M B → SmR F id (compL p t f env xs (.dead :: L)) (compL p t' f' (F.shE env) xs (B ++ L))
  | [], L, B, hB => .mk hB
  | x :: xs, L, B, hB => by
    unfold compL
    rw [gPat_sm]
    cases gPat p x env with
    | none => trivial
    | some env1 =>
      refine (ht env1 L B hB).noX.bind fun b L1 B1 h1 => ?_
      cases b with
      | false => exact sm_compL ht hf env xs L1 B1 h1
      | true =>
        refine (hf env1 L1 B1 h1).noX.bind fun d L2 B2 h2 => ?_
        cases d with
        | v y => exact (sm_compL ht hf env xs L2 B2 h2).bind fun ys L3 B3 h3 => .mk h3
        | _ => trivial
theorem sm_compR {own : List Nat} {p : Pat} {i i' : FI} {t t' : FT} {f f' : FE} (hi : SmI F i i') (ht : SmT F t t') (hf : SmE F f f') (env : DEnv) (L B : Store) (hB : F.M B) : SmR F id (compR own p i t f env (.dead :: L)) (compR own p i' t' f' (F.shE env) (B ++ L)) :=
  (hi env L B hB).bind fun xs L1 B1 h1 => by
    show SmR F id (if small xs.length then _ else _) (if small xs.length then _ else _)
    split
    · rw [wipe_sm]; exact sm_compL ht hf _ xs L1 B1 h1
    · trivial
theorem sm_lc {own : List Nat} {p : Pat} {i i' : FI} {t t' : FT} {f f' : FE} (hi : SmI F i i') (ht : SmT F t t') (hf : SmE F f f') : SmE F (dLc own p i t f) (dLc own p i' t' f') := fun env L B hB => (sm_compR hi ht hf env L B hB).bind fun ys L1 B1 h1 => .mk h1
theorem sm_lcC {own : List Nat} {p : Pat} {i i' : FI} {t t' : FT} {f f' : FE} (hi : SmI F i i') (ht : SmT F t t') (hf : SmE F f f') : SmE F (dLcC own p i t f) (dLcC own p i' t' f') := fun env L B hB => (sm_compR hi ht hf env L B hB).bind fun ys L1 B1 h1 => sm_new h1 _
theorem sm_comp2 {p p2 : Pat} {vs1 : List Nat} {i2 i2' : FI} {t t2 t' t2' : FT} {f f' : FE} (ht : SmT F t t') (hi : SmI F i2 i2') (ht2 : SmT F t2 t2') (hf : SmE F f f') (env : DEnv) : ∀ (xs acc : List PyData) (L B : Store), F.M B → SmR F id (comp2 p t vs1 p2 i2 t2 f env xs acc (.dead :: L)) (comp2 p t' vs1 p2 i2' t2' f' (F.shE env) xs acc (B ++ L))
  | [], acc, L, B, hB => .mk hB
  | x :: xs, acc, L, B, hB => by
    unfold comp2
    rw [gPat_sm]
    cases gPat p x env with
    | none => trivial
    | some env1 =>
      refine (ht env1 L B hB).noX.bind fun b L1 B1 h1 => ?_
      cases b with
      | false => exact sm_comp2 ht hi ht2 hf env xs acc L1 B1 h1
      | true =>
        refine (hi env1 L1 B1 h1).noX.bind fun zs L2 B2 h2 => ?_
        show SmR F id (if small (acc.length + zs.length) then _ else _) (if small (acc.length + zs.length) then _ else _)
        split
        · rw [wipe_sm]
          exact (sm_compL ht2 hf _ zs L2 B2 h2).bind fun ys L3 B3 h3 => sm_comp2 ht hi ht2 hf env xs (acc ++ ys) L3 B3 h3
        · trivial
theorem sm_compR2 {own vs1 : List Nat} {p p2 : Pat} {i i2 i' i2' : FI} {t t2 t' t2' : FT} {f f' : FE} (hi : SmI F i i') (ht : SmT F t t') (hi2 : SmI F i2 i2') (ht2 : SmT F t2 t2') (hf : SmE F f f') (env : DEnv) (L B : Store) (hB : F.M B) : SmR F id (compR2 own p i t vs1 p2 i2 t2 f env (.dead :: L)) (compR2 own p i' t' vs1 p2 i2' t2' f' (F.shE env) (B ++ L)) :=
  (hi env L B hB).bind fun xs L1 B1 h1 => by rw [wipe_sm]; exact sm_comp2 ht hi2 ht2 hf _ xs [] L1 B1 h1
theorem sm_lc2 {own vs1 : List Nat} {p p2 : Pat} {i i2 i' i2' : FI} {t t2 t' t2' : FT} {f f' : FE} (hi : SmI F i i') (ht : SmT F t t') (hi2 : SmI F i2 i2') (ht2 : SmT F t2 t2') (hf : SmE F f f') : SmE F (dLc2 own p i t vs1 p2 i2 t2 f) (dLc2 own p i' t' vs1 p2 i2' t2' f') := fun env L B hB => (sm_compR2 hi ht hi2 ht2 hf env L B hB).bind fun ys L1 B1 h1 => .mk h1
theorem sm_lc2C {own vs1 : List Nat} {p p2 : Pat} {i i2 i' i2' : FI} {t t2 t' t2' : FT} {f f' : FE} (hi : SmI F i i') (ht : SmT F t t') (hi2 : SmI F i2 i2') (ht2 : SmT F t2 t2') (hf : SmE F f f') : SmE F (dLc2C own p i t vs1 p2 i2 t2 f) (dLc2C own p i' t' vs1 p2 i2' t2' f') := fun env L B hB => (sm_compR2 hi ht hi2 ht2 hf env L B hB).bind fun ys L1 B1 h1 => sm_new h1 _
theorem sm_compD {A : Type} {putA : A → PyData → PyData → Option A} {p : Pat} {t t' : FT} {fk fv fk' fv' : FE} (ht : SmT F t t') (hk : SmE F fk fk') (hv : SmE F fv fv') (env : DEnv) : ∀ (xs : List PyData) (acc : A) (L B : Store), F.M B → SmR F id (compD putA p t fk fv env xs acc (.dead :: L)) (compD putA p t' fk' fv' (F.shE env) xs acc (B ++ L))
  | [], acc, L, B, hB => .mk hB
  | x :: xs, acc, L, B, hB => by
    unfold compD
    rw [gPat_sm]
    cases gPat p x env with
    | none => trivial
    | some env1 =>
      refine (ht env1 L B hB).noX.bind fun b L1 B1 h1 => ?_
      cases b with
      | false => exact sm_compD ht hk hv env xs acc L1 B1 h1
      | true =>
        refine (hk env1 L1 B1 h1).noX.bind fun d L2 B2 h2 => (hv env1 L2 B2 h2).noX.bind fun e L3 B3 h3 => ?_
        cases d with
        | v y =>
          cases e with
          | v z =>
            simp only [Fam.sh]
            cases putA acc y z with
            | none => trivial
            | some acc' => exact sm_compD ht hk hv env xs acc' L3 B3 h3
          | _ => trivial
        | _ => trivial
theorem sm_dcG {A : Type} {putA : A → PyData → PyData → Option A} {zeroA : A} {cellA : A → Cell} {own : List Nat} {p : Pat} {i i' : FI} {t t' : FT} {fk fv fk' fv' : FE} (hi : SmI F i i') (ht : SmT F t t') (hk : SmE F fk fk') (hv : SmE F fv fv') : SmE F (dDcG putA zeroA cellA own p i t fk fv) (dDcG putA zeroA cellA own p i' t' fk' fv') :=
  fun env L B hB => (hi env L B hB).bind fun xs L1 B1 h1 => by
    refine SmR.bind (sh := id) ?_ fun acc L2 B2 h2 => ?_
    · show SmR F id (if small xs.length then _ else _) (if small xs.length then _ else _)
      split
      · rw [wipe_sm]; exact sm_compD ht hk hv _ xs _ L1 B1 h1
      · trivial
    · exact sm_new h2 _
theorem sm_dcT {own : List Nat} {p : Pat} {i i' : FI} {t t' : FT} {fk fv fk' fv' : FE} (hi : SmI F i i') (ht : SmT F t t') (hk : SmE F fk fk') (hv : SmE F fv fv') : SmE F (dDcT own p i t fk fv) (dDcT own p i' t' fk' fv') := sm_dcG hi ht hk hv
theorem sm_dcK {own : List Nat} {p : Pat} {i i' : FI} {t t' : FT} {fk fv fk' fv' : FE} (hi : SmI F i i') (ht : SmT F t t') (hk : SmE F fk fk') (hv : SmE F fv fv') : SmE F (dDcK own p i t fk fv) (dDcK own p i' t' fk' fv') := sm_dcG hi ht hk hv

/-! calls -/
theorem sm_trunc {L : Store} {r r' : Res D} (n : Nat) (h : SmR F F.sh r r') : SmR F F.sh (trunc (n + 1) r) (trunc (F.ix (n + 1)) r') := by
  have tk : ∀ (M B : Store), F.M B → (B ++ M).take (F.ix (n + 1)) = B ++ M.take n := fun M B hB => by
    show (B ++ M).take (F.b + n) = _
    rw [List.take_append, List.take_of_length_le (by rw [F.len B hB]; omega), F.len B hB]; congr 2; omega
  cases r with
  | ok d S =>
    obtain ⟨M, B, rfl, hB, rfl⟩ := h
    cases d with
    | r m =>
      cases m with
      | zero =>
        have hn := F.hn
        simp only [trunc, Fam.sh, tk M B hB]
        rw [if_pos (by omega), if_pos (by show F.n < F.b + n; omega)]
        exact ⟨M.take n, B, rfl, hB, rfl⟩
      | succ m =>
        simp only [trunc, Fam.sh, at_sm hB, tk M B hB]
        by_cases hm : m + 1 < n + 1
        · rw [if_pos hm, if_pos (by show F.b + m < F.b + n; omega)]; exact ⟨M.take n, B, rfl, hB, rfl⟩
        · rw [if_neg hm, if_neg (by show ¬ F.b + m < F.b + n; omega)]
          generalize (Cell.dead :: M)[m + 1]? = o
          cases o with
          | none => trivial
          | some c => refine ⟨M.take n ++ [c], B, rfl, hB, ?_⟩; simp only; rw [List.append_assoc]; rfl
    | _ => simp only [trunc, Fam.sh, tk M B hB]; exact ⟨M.take n, B, rfl, hB, rfl⟩
  | exc x S =>
    obtain ⟨M, B, rfl, hB, rfl⟩ := h
    simp only [trunc, tk M B hB]; exact ⟨M.take n, B, rfl, hB, rfl⟩
  | stuck => trivial
theorem SmF.call {c c' : Fn} (h : SmF F c c') : SmC F c c' := fun ds L B hB => by
  rw [len_sm hB]
  exact sm_trunc (L := L) _ (h ds L B hB)
theorem sm_call0 {c c' : Fn} {g g' : FA} (hc : SmC F c c') (hg : SmA F g g') : SmE F (dCall c g []) (dCall c' g' []) := fun env L B hB => (hg env L B hB).bind fun ds L1 B1 h1 => by
  have := hc ds L1 B1 h1
  rw [List.append_nil, List.append_nil]
  exact this
theorem sm_callF {c c' : Fn} {g g' : FA} (hc : SmF F c c') (hg : SmA F g g') : SmE F (dCall c g []) (dCall c' g' []) := sm_call0 hc.call hg
theorem sm_fin {r r' : Res Out} (h : SmR F F.shO r r') : SmR F F.sh (fin r) (fin r') := by
  cases r with
  | ok o S => obtain ⟨M, B, rfl, hB, rfl⟩ := h; cases o <;> first | exact ⟨M, B, rfl, hB, rfl⟩ | trivial
  | exc x S => trivial
  | stuck => trivial
theorem sm_run {n slots : Nat} {b b' : FS} (hb : SmS F b b') : SmF F (runBody n slots b) (runBody n slots b') := by
  intro ds L B hB
  unfold runBody
  rw [List.length_map]
  split
  · have := hb (ds.map some ++ List.replicate (slots - n) none) L B hB
    have e : F.shE (ds.map some ++ List.replicate (slots - n) none) = (ds.map F.sh).map some ++ List.replicate (slots - n) none := by
      simp [Fam.shE]
    rw [e] at this
    exact sm_fin this
  · trivial
theorem sm_stuckF {c : Fn} : SmF F (fun _ _ => .stuck) c := fun _ _ _ _ => trivial

/-! statements -/
theorem sm_nil : SmS F sNil sNil := fun _ _ _ hB => .mk hB
theorem sm_sq {f g f' g' : FS} (hf : SmS F f f') (hg : SmS F g g') : SmS F (sSeq f g) (sSeq f' g') := fun env L B hB => (hf env L B hB).thenS fun e L1 B1 h1 => hg e L1 B1 h1
theorem sm_set (i : Nat) {f f' : FE} (hf : SmE F f f') : SmS F (sSet i f) (sSet i f') := fun env L B hB => (hf env L B hB).lift fun d L1 B1 h1 => by
  refine ⟨L1, B1, rfl, h1, ?_⟩; simp only [Fam.shO, smE_set]
theorem sm_expr {f f' : FE} (hf : SmE F f f') : SmS F (sExpr f) (sExpr f') := fun env L B hB => (hf env L B hB).lift fun d L1 B1 h1 => .mk h1
theorem sm_ret {f f' : FE} (hf : SmE F f f') : SmS F (sRet f) (sRet f') := fun env L B hB => (hf env L B hB).lift fun d L1 B1 h1 => .mk h1
theorem sm_retN : SmS F sRetN sRetN := fun _ _ _ hB => .mk hB
theorem sm_brk : SmS F sBrk sBrk := fun _ _ _ hB => .mk hB
theorem sm_cont : SmS F sCont sCont := fun _ _ _ hB => .mk hB
theorem sm_ifS {c c' : FT} {f g f' g' : FS} (hc : SmT F c c') (hf : SmS F f f') (hg : SmS F g g') : SmS F (sIf c f g) (sIf c' f' g') := fun env L B hB => (hc env L B hB).lift fun b L1 B1 h1 => by
  cases b
  · exact hg env L1 B1 h1
  · exact hf env L1 B1 h1
theorem sm_while {c c' : FT} {b b' : FS} (hc : SmT F c c') (hb : SmS F b b') : ∀ n : Nat, SmS F (sWhile c b n) (sWhile c' b' n)
  | 0 => fun _ _ _ _ => trivial
  | n + 1 => fun env L B hB => (hc env L B hB).lift fun x L1 B1 h1 => by
    cases x
    · exact .mk h1
    · exact (hb env L1 B1 h1).loopS fun e L2 B2 h2 => sm_while hc hb n e L2 B2 h2
theorem sm_forL {p : Pat} {b b' : FS} (hb : SmS F b b') : ∀ xs : List PyData, SmS F (forL p b xs) (forL p b' xs)
  | [] => fun _ _ _ hB => .mk hB
  | x :: xs => fun env L B hB => by
    unfold forL
    rw [gPat_sm]
    cases gPat p x env with
    | none => trivial
    | some e1 => exact (hb e1 L B hB).loopS fun e L1 B1 h1 => sm_forL hb xs e L1 B1 h1
theorem sm_for {p : Pat} {i i' : FI} {b b' : FS} (hi : SmI F i i') (hb : SmS F b b') : SmS F (sFor p i b) (sFor p i' b') := fun env L B hB => (hi env L B hB).lift fun xs L1 B1 h1 => sm_forL hb xs env L1 B1 h1
theorem sm_asg {p : Pat} {f f' : FE} (hf : SmE F f f') : SmS F (sAsg p f) (sAsg p f') := fun env L B hB => (hf env L B hB).lift fun d L1 B1 h1 => by
  cases d with
  | v x =>
    simp only [Fam.sh]
    rw [gPat_sm]
    cases gPat p x env with
    | none => trivial
    | some e1 => exact .mk h1
  | _ => trivial
theorem sm_frz (i : Nat) {f f' : FS} (hf : SmS F f f') : SmS F (sFrz i f) (sFrz i f') := by
  intro env L B hB
  unfold sFrz
  rw [smE_at]
  cases h : env[i]? with
  | none => exact hf env L B hB
  | some o =>
    cases o with
    | none => exact hf env L B hB
    | some d =>
      cases d with
      | r n =>
        cases n with
        | zero => trivial
        | succ n =>
          simp only [Option.map, Fam.sh, at_sm hB]
          generalize (Cell.dead :: L)[n + 1]? = o
          cases o with
          | none => trivial
          | some c =>
            cases c with
            | lst xs =>
              have := hf (env.set i (some (.v (.list xs)))) (L.set n .dead) B hB
              rw [smE_set] at this
              simp only
              rw [set_sm hB]
              exact this
            | _ => trivial
      | _ => exact hf env L B hB
theorem foldE_sm : ∀ (l : List (Nat × D)) (env : DEnv), F.shE (l.foldl (fun e q => e.set q.1 (some q.2)) env) = (l.map fun q => (q.1, F.sh q.2)).foldl (fun e q => e.set q.1 (some q.2)) (F.shE env)
  | [], _ => rfl
  | q :: l, env => by
    simp only [List.foldl, List.map]
    rw [foldE_sm l, smE_set]
theorem sm_par (is : List Nat) {g g' : FA} (hg : SmA F g g') : SmS F (sPar is g) (sPar is g') := fun env L B hB => (hg env L B hB).lift fun ds L1 B1 h1 => by
  rw [List.length_map]
  split
  · refine ⟨L1, B1, rfl, h1, ?_⟩
    simp only [Fam.shO, foldE_sm]
    congr 3
    rw [List.zip_map_right]
    rfl
  · trivial
theorem sm_aug (i : Nat) {op : D → D → Store → Res D} {f f' : FE} (ho : Sm2 F op) (hf : SmE F f f') : SmS F (sAug i op f) (sAug i op f') := by
  intro env L B hB
  unfold sAug
  rw [smE_at]
  cases h : env[i]? with
  | none => trivial
  | some o =>
    cases o with
    | none => trivial
    | some d =>
      refine (hf env L B hB).lift fun e L1 B1 h1 => (ho d e L1 B1 h1).lift fun z L2 B2 h2 => ?_
      refine ⟨L2, B2, rfl, h2, ?_⟩; simp only [Fam.shO, smE_set]
theorem sm_setIx {fo fi fe fo' fi' fe' : FE} (ho : SmE F fo fo') (hi : SmE F fi fi') (he : SmE F fe fe') : SmS F (sSetIx fo fi fe) (sSetIx fo' fi' fe') := fun env L B hB => (he env L B hB).lift fun d L1 B1 h1 => by
  cases d with
  | v x =>
    refine (ho env L1 B1 h1).lift fun o L2 B2 h2 => ?_
    cases o with
    | r n =>
      refine (hi env L2 B2 h2).lift fun i L3 B3 h3 => ?_
      cases i with
      | v y =>
        cases y with
        | int k =>
          cases n with
          | zero => trivial
          | succ n =>
            simp only [Fam.sh, at_sm h3]
            generalize (Cell.dead :: L3)[n + 1]? = o
            cases o with
            | none => trivial
            | some c =>
              cases c with
              | lst xs =>
                simp only
                split
                · refine ⟨L3.set n _, B3, rfl, h3, ?_⟩; rw [set_sm h3]; rfl
                · trivial
              | _ => trivial
        | _ => trivial
      | _ => trivial
    | _ => trivial
  | _ => trivial
theorem sm_setT {fo fi fe fo' fi' fe' : FE} (ho : SmE F fo fo') (hi : SmE F fi fi') (he : SmE F fe fe') : SmS F (sSetT fo fi fe) (sSetT fo' fi' fe') := fun env L B hB => (he env L B hB).lift fun d L1 B1 h1 => by
  cases d with
  | v x =>
    refine (ho env L1 B1 h1).lift fun o L2 B2 h2 => ?_
    cases o with
    | r n =>
      refine (hi env L2 B2 h2).lift fun i L3 B3 h3 => ?_
      cases i with
      | v y =>
        cases n with
        | zero => trivial
        | succ n =>
          simp only [Fam.sh, at_sm h3]
          generalize (Cell.dead :: L3)[n + 1]? = o
          cases o with
          | none => trivial
          | some c =>
            cases c with
            | dt kvs =>
              simp only
              split
              · split
                · refine ⟨L3.set n _, B3, rfl, h3, ?_⟩; rw [set_sm h3]; rfl
                · trivial
              · trivial
            | _ => trivial
      | _ => trivial
    | _ => trivial
  | _ => trivial
theorem sm_setK {fo fi fe fo' fi' fe' : FE} (ho : SmE F fo fo') (hi : SmE F fi fi') (he : SmE F fe fe') : SmS F (sSetK fo fi fe) (sSetK fo' fi' fe') := fun env L B hB => (he env L B hB).lift fun d L1 B1 h1 => by
  cases d with
  | v x =>
    refine (ho env L1 B1 h1).lift fun o L2 B2 h2 => ?_
    cases o with
    | r n =>
      refine (hi env L2 B2 h2).lift fun i L3 B3 h3 => ?_
      cases i with
      | v y =>
        cases n with
        | zero => trivial
        | succ n =>
          simp only [Fam.sh, at_sm h3]
          generalize (Cell.dead :: L3)[n + 1]? = o
          cases o with
          | none => trivial
          | some c =>
            cases c with
            | dk kvs =>
              simp only
              split
              · split
                · refine ⟨L3.set n _, B3, rfl, h3, ?_⟩; rw [set_sm h3]; rfl
                · trivial
              · trivial
            | _ => trivial
      | _ => trivial
    | _ => trivial
  | _ => trivial
theorem sm_raise {f f' : FE} (hf : SmE F f f') : SmS F (sRaiseR f) (sRaiseR f') := fun env L B hB => (hf env L B hB).lift fun d L1 B1 h1 => by
  split
  · exact ⟨L1, B1, rfl, h1, rfl⟩
  · trivial
end


/-! ### recursions that remember -/
/-- an expression that reads names only -/
def Pure (f : FE) : Prop := ∀ env S a S1, f env S = .ok a S1 → S1 = S ∧ ∀ S', f env S' = .ok a S'
def PureA (g : FA) : Prop := ∀ env S a S1, g env S = .ok a S1 → S1 = S ∧ ∀ S', g env S' = .ok a S'
theorem pure_var (i : Nat) : Pure (dVar i) := by
  intro env S a S1 h
  unfold dVar at h ⊢
  split at h
  · cases h; exact ⟨rfl, fun _ => rfl⟩
  · cases h
theorem pure_c (x : PyData) : Pure (dC x) := by
  intro env S a S1 h
  cases h
  exact ⟨rfl, fun _ => rfl⟩
theorem pure_nil : PureA dNilA := by
  intro env S a S1 h
  cases h
  exact ⟨rfl, fun _ => rfl⟩
theorem pure_cons {f : FE} {g : FA} (hf : Pure f) (hg : PureA g) : PureA (dConsA f g) := by
  intro env S a S1 h
  unfold dConsA at h ⊢
  cases h1 : f env S with
  | ok x T =>
    obtain ⟨rfl, q⟩ := hf _ _ _ _ h1
    rw [h1, bind_ok] at h
    cases h2 : g env T with
    | ok y U =>
      obtain ⟨rfl, q2⟩ := hg _ _ _ _ h2
      rw [h2, bind_ok] at h
      cases h
      exact ⟨rfl, fun S' => by rw [q, bind_ok, q2, bind_ok]⟩
    | exc x S2 => rw [h2] at h; cases h
    | stuck => rw [h2] at h; cases h
  | exc x S2 => rw [h1] at h; cases h
  | stuck => rw [h1] at h; cases h
theorem pure_tup {g : FA} (hg : PureA g) : Pure (dTup g) := by
  intro env S a S1 h
  unfold dTup at h ⊢
  cases h1 : g env S with
  | ok x T =>
    obtain ⟨rfl, q⟩ := hg _ _ _ _ h1
    rw [h1, bind_ok] at h
    cases h2 : vals x with
    | none => rw [h2] at h; cases h
    | some xs =>
      rw [h2] at h
      simp only at h
      split at h
      · rename_i hs
        cases h
        refine ⟨rfl, fun S' => ?_⟩
        rw [q, bind_ok, h2]
        simp only
        rw [if_pos hs]
      · cases h
  | exc x S2 => rw [h1] at h; cases h
  | stuck => rw [h1] at h; cases h
theorem sFrz_seq (i : Nat) (f : FS) : sFrz i f = sSeq (sFrz i sNil) f := by
  funext env S
  unfold sSeq sFrz
  split
  · split <;> rfl
  · rfl
/-- calls told by a table -/
def orac (tb : List D → Option PyData) : Fn := fun ds S => match tb ds with
  | some y => .ok (.v y) S
  | none => .stuck
/-- a body beside a dead cell: what it keeps, and by which key -/
def chk (K0 B0 : FS) (E fk fd : FE) (env : DEnv) : Option (PyData × PyData × PyData) := match K0 env [.dead] with
  | .ok (.nx e1) [.dead] => (match fd e1 [], fk e1 [] with
    | .ok (.r 0) _, .ok (.v x1) _ => (match B0 e1 [.dead] with
      | .ok (.nx e2) S2 => (match E e2 S2 with
        | .ok (.v y) _ => (match fd e2 [], fk e2 [] with
          | .ok (.r 0) _, .ok (.v x2) _ => some (y, x1, x2)
          | _, _ => none)
        | _ => none)
      | _ => none)
    | _, _ => none)
  | _ => none
theorem chk_inv {K0 B0 : FS} {E fk fd : FE} {env : DEnv} {y x1 x2 : PyData} (h : chk K0 B0 E fk fd env = some (y, x1, x2)) :
    ∃ e1 e2 S2 S3 T1 T2 T3 T4, K0 env [.dead] = .ok (.nx e1) [.dead] ∧ fd e1 [] = .ok (.r 0) T1 ∧ fk e1 [] = .ok (.v x1) T2 ∧ B0 e1 [.dead] = .ok (.nx e2) S2 ∧ E e2 S2 = .ok (.v y) S3 ∧ fd e2 [] = .ok (.r 0) T3 ∧ fk e2 [] = .ok (.v x2) T4 := by
  unfold chk at h
  split at h
  · rename_i e1 h1
    split at h
    · rename_i h2 h3
      split at h
      · rename_i e2 S2 h4
        split at h
        · rename_i y' S3 h5
          split at h
          · rename_i h6 h7
            injection h with h
            injection h with h8 h9
            injection h9 with h9 h10
            subst h8 h9 h10
            exact ⟨_, _, _, _, _, _, _, _, h1, h2, h3, h4, h5, h6, h7⟩
          · cases h
        · cases h
      · cases h
    · cases h
  · cases h
section
variable {κ : Type} [DecidableEq κ] {Y : Keys κ} {spec : κ → PyData} {dom : List κ}
def memF (Y : Keys κ) (spec : κ → PyData) (dom : List κ) (n : Nat) (S0 : Store) (hn : n < S0.length) : Fam := ⟨S0.length, n, Mem Y spec dom n S0, fun _ h => h.len, hn⟩
theorem Mem.app {n : Nat} {S0 S : Store} (hn : n < S0.length) (h : Mem Y spec dom n S0 S) (L : Store) : Mem Y spec dom n (S0 ++ L) (S ++ L) := by
  obtain ⟨ks, a, b, rfl⟩ := h
  exact ⟨ks, a, b, by rw [List.set_append_left _ _ hn]⟩
theorem Mem.unapp {n : Nat} {S0 S L : Store} (hn : n < S0.length) (h : Mem Y spec dom n (S0 ++ L) S) : ∃ T, S = T ++ L ∧ Mem Y spec dom n S0 T := by
  obtain ⟨ks, a, b, rfl⟩ := h
  exact ⟨_, by rw [List.set_append_left _ _ hn], ks, a, b, rfl⟩
def AnsM (Y : Keys κ) (spec : κ → PyData) (dom : List κ) (f : Fn) (ws : List PyData) (y : PyData) : Prop := ∀ (n : Nat) (S0 S : Store), n < S0.length → Mem Y spec dom n S0 S →
  ∃ S', trunc S.length (f (ws.map .v ++ [.r n]) S) = .ok (.v y) S' ∧ Mem Y spec dom n S0 S'
theorem orac_sm {n : Nat} {S0 : Store} (hn : n < S0.length) {tb : List D → Option PyData} {f : Fn} (h : ∀ ds y, tb ds = some y → ∃ ws, ds = ws.map D.v ++ [D.r 0] ∧ AnsM Y spec dom f ws y) : SmC (memF Y spec dom n S0 hn) (orac tb) f := by
  intro ds L B hB
  unfold orac
  cases ht : tb ds with
  | none => trivial
  | some y =>
    obtain ⟨ws, rfl, ha⟩ := h ds y ht
    obtain ⟨S', e, hS'⟩ := ha n (S0 ++ L) (B ++ L) (by rw [List.length_append]; omega) (Mem.app hn hB L)
    obtain ⟨T, rfl, hT⟩ := Mem.unapp hn hS'
    have e1 : ((ws.map D.v ++ [D.r 0]).map (memF Y spec dom n S0 hn).sh) = ws.map D.v ++ [D.r n] := by
      rw [List.map_append, List.map_map]; rfl
    rw [e1, e]
    show SmR _ _ (Res.ok (D.v y) ((Cell.dead :: L).take (L.length + 1))) _
    rw [List.take_of_length_le (by simp)]
    exact ⟨L, T, rfl, hT, rfl⟩
theorem sm_pure {F : Fam} {f : FE} (hp : Pure f) (hs : SmE F f f) {env : DEnv} {B : Store} (hB : F.M B) {d : D} {T : Store} (h : f env [] = .ok d T) (S : Store) : f (F.shE env) S = .ok (F.sh d) S := by
  obtain ⟨_, q⟩ := hp _ _ _ _ h
  have := hs env [] B hB
  rw [q] at this
  obtain ⟨L, B', _, _, e⟩ := this
  exact (hp _ _ _ _ e).2 S
theorem memo_sim (few : dom.length < 16000000) (f : Nat → Fn) {m slots : Nat} {K0 : FS} {B0 : Fn → FS} {E : Fn → FE} {fk fd : FE} (pk : Pure fk) (pd : Pure fd)
    (hf : ∀ k, f (k + 1) = runBody (m + 1) slots (sSeq K0 (sSeq (sIf (dTest (dBin (dInT true) fk fd)) (sSeq (B0 (f k)) (sSetT fd fk (E (f k)))) sNil) (sRet (dBin dIxT fd fk)))))
    (sK : ∀ F, SmS F K0 K0) (sB : ∀ F c c', SmC F c c' → SmS F (B0 c) (B0 c')) (sE : ∀ F c c', SmC F c c' → SmE F (E c) (E c')) (sk : ∀ F, SmE F fk fk) (sd : ∀ F, SmE F fd fd)
    {α : Type} (domA : List α) (ws : α → List PyData) (kf : α → κ) (rank : α → Nat) (tb : α → List D → Option PyData) (hlen : ∀ a ∈ domA, (ws a).length = m)
    (htb : ∀ a ∈ domA, ∀ ds y, tb a ds = some y → ∃ a' ∈ domA, rank a' < rank a ∧ ds = (ws a').map D.v ++ [D.r 0] ∧ y = spec (kf a')) (hkd : ∀ a ∈ domA, kf a ∈ dom)
    (hc : ∀ a ∈ domA, chk K0 (B0 (orac (tb a))) (E (orac (tb a))) fk fd (((ws a).map D.v ++ [D.r 0]).map some ++ List.replicate (slots - (m + 1)) none) = some (spec (kf a), Y.enc (kf a), Y.enc (kf a))) :
    ∀ (k : Nat) (a : α), a ∈ domA → rank a < k → AnsM Y spec dom (f k) (ws a) (spec (kf a))
  | 0, _, _, h => absurd h (Nat.not_lt_zero _)
  | k + 1, a, ha, hr => by
    intro n S0 S hn hM
    have ih := memo_sim few f pk pd hf sK sB sE sk sd domA ws kf rank tb hlen htb hkd hc k
    let F : Fam := memF Y spec dom n S0 hn
    have hcall : SmC F (orac (tb a)) (f k) := orac_sm hn fun ds y h => by
      obtain ⟨a', h1, h2, h3, rfl⟩ := htb a ha ds y h
      exact ⟨_, h3, ih a' h1 (by omega)⟩
    obtain ⟨e1, e2, S2, S3, T1, T2, T3, T4, q1, q2, q3, q4, q5, q6, q7⟩ := chk_inv (hc a ha)
    have hlenS : S.length = S0.length := hM.len
    have hmem : kf a ∈ dom := hkd a ha
    have at_n : ∀ (ks : List κ) (L : Store), (S0.set n (.dt (memoD Y spec ks)) ++ L)[n]? = some (.dt (memoD Y spec ks)) := fun ks L => by
      rw [List.getElem?_append_left (by rw [List.length_set]; exact hn)]; simp [hn]
    have get : ∀ (ks : List κ) (L : Store), kf a ∈ ks → dIxT (.r n) (.v (Y.enc (kf a))) (S0.set n (.dt (memoD Y spec ks)) ++ L) = .ok (.v (spec (kf a))) (S0.set n (.dt (memoD Y spec ks)) ++ L) := fun ks L hk => by
      unfold dIxT
      simp only [dtOf, at_n, Y.keyT, Option.bind_some, memo_get, if_pos hk]
    have isin : ∀ (ks : List κ) (L : Store), dInT true (.v (Y.enc (kf a))) (.r n) (S0.set n (.dt (memoD Y spec ks)) ++ L) = .ok (.v (.bool (!(decide (kf a ∈ ks))))) (S0.set n (.dt (memoD Y spec ks)) ++ L) := fun ks L => by
      unfold dInT
      simp only [dtOf, at_n, Y.keyT, memo_get]
      by_cases hk : kf a ∈ ks <;> simp [hk, okB]
    -- the first statements
    have r1 := sK F (((ws a).map D.v ++ [D.r 0]).map some ++ List.replicate (slots - (m + 1)) none) [] S hM
    rw [q1] at r1
    obtain ⟨L1, B1, hL1, hB1, r1⟩ := r1
    obtain rfl : L1 = [] := by injection hL1 with _ h; exact h.symm
    have envs : F.shE (((ws a).map D.v ++ [D.r 0]).map some ++ List.replicate (slots - (m + 1)) none) = ((ws a).map D.v ++ [D.r n]).map some ++ List.replicate (slots - (m + 1)) none := by
      simp only [Fam.shE, List.map_append, List.map_map, List.map_replicate, List.map_cons, List.map_nil]
      rfl
    rw [envs, List.append_nil, List.append_nil] at r1
    have v1 : ∀ T, fd (F.shE e1) T = .ok (.r n) T := fun T => sm_pure pd (sd F) hM q2 T
    have v2 : ∀ T, fk (F.shE e1) T = .ok (.v (Y.enc (kf a))) T := fun T => sm_pure pk (sk F) hM q3 T
    obtain ⟨ks, nd, sub, rfl⟩ := hB1
    have hlen2 : (((ws a).map D.v ++ [D.r n]) : List D).length = m + 1 := by rw [List.length_append, List.length_map, hlen a ha]; rfl
    have i1 := isin ks []
    rw [List.append_nil] at i1
    have head : ∀ R : FS, sSeq K0 R (((ws a).map D.v ++ [D.r n]).map some ++ List.replicate (slots - (m + 1)) none) S = R (F.shE e1) (S0.set n (.dt (memoD Y spec ks))) := fun R => by
      rw [sSeq_ap, r1]; rfl
    rw [hf k]
    unfold runBody
    rw [if_pos hlen2, head, sSeq_ap, sIf_ap, dTest_ap, dBin_ap, v2, bind_okS, v1, bind_okS, i1]
    simp only [bind_okS, asB_b, lift_ok]
    by_cases hk : kf a ∈ ks
    · simp only [hk, decide_true, Bool.not_true, Bool.false_eq_true, if_false, sNil_ap, thenS_nx]
      have g := get ks [] hk
      rw [List.append_nil] at g
      unfold sRet
      rw [dBin_ap, v1, bind_okS, v2, bind_okS, g, lift_ok, fin_rt, trunc_v]
      refine ⟨_, rfl, ks, nd, sub, ?_⟩
      rw [List.take_of_length_le (by rw [List.length_set, hlenS]; exact Nat.le_refl _)]
    · simp only [hk, decide_false, Bool.not_false, if_true]
      have r2 := sB F (orac (tb a)) (f k) hcall e1 [] (S0.set n (.dt (memoD Y spec ks))) ⟨ks, nd, sub, rfl⟩
      rw [q4] at r2
      obtain ⟨L2, B2, rfl, hB2, r2⟩ := r2
      rw [List.append_nil] at r2
      have r3 := sE F (orac (tb a)) (f k) hcall e2 L2 B2 hB2
      rw [q5] at r3
      obtain ⟨L3, B3, rfl, hB3, r3⟩ := r3
      have w1 : ∀ T, fd (F.shE e2) T = .ok (.r n) T := fun T => sm_pure pd (sd F) hM q6 T
      have w2 : ∀ T, fk (F.shE e2) T = .ok (.v (Y.enc (kf a))) T := fun T => sm_pure pk (sk F) hM q7 T
      obtain ⟨ks3, nd3, sub3, rfl⟩ := hB3
      have fl : (memoD Y spec ks3).length < 16000000 := by
        unfold memoD
        rw [List.length_map]
        exact Nat.lt_of_le_of_lt (few_of ks3 dom nd3 sub3) few
      have put : ∃ ks4 : List κ, ks4.Nodup ∧ (∀ k ∈ ks4, k ∈ dom) ∧ kf a ∈ ks4 ∧ dtPut (memoD Y spec ks3) (Y.kOf (kf a)) (Y.enc (kf a)) (spec (kf a)) = memoD Y spec ks4 := by
        by_cases h3 : kf a ∈ ks3
        · exact ⟨ks3, nd3, sub3, h3, memo_put2 _ _ _ _ h3⟩
        · refine ⟨ks3 ++ [kf a], ?_, ?_, by simp, memo_put _ _ _ _ h3⟩
          · rw [List.nodup_append]
            exact ⟨nd3, by simp, fun x hx y hy => by rw [List.mem_singleton] at hy; subst hy; exact fun h => h3 (h ▸ hx)⟩
          · intro x hx
            rcases List.mem_append.mp hx with hx | hx
            · exact sub3 x hx
            · rw [List.mem_singleton] at hx; subst hx; exact hmem
      obtain ⟨ks4, nd4, sub4, in4, put⟩ := put
      have st : sSetT fd fk (E (f k)) (F.shE e2) (B2 ++ L2) = .ok (.nx (F.shE e2)) (S0.set n (.dt (memoD Y spec ks4)) ++ L3) := by
        unfold sSetT
        rw [r3, lift_ok]
        simp only [Fam.sh]
        rw [w1, lift_ok]
        simp only
        rw [w2, lift_ok]
        simp only [at_n, Y.keyT]
        rw [if_pos fl, put]
        rw [List.set_append_left _ _ (by rw [List.length_set]; exact hn), List.set_set]
      rw [sSeq_ap, r2]
      simp only [Fam.shO, thenS_nx]
      rw [st]
      simp only [thenS_nx]
      unfold sRet
      rw [dBin_ap, w1, bind_okS, w2, bind_okS, get ks4 L3 in4, lift_ok, fin_rt, trunc_v]
      refine ⟨_, rfl, ks4, nd4, sub4, ?_⟩
      rw [List.take_append_of_le_length (by rw [List.length_set, hlenS]; exact Nat.le_refl _), List.take_of_length_le (by rw [List.length_set, hlenS]; exact Nat.le_refl _)]
end
/-! rows of whole numbers as keys -/
theorem tupOf_eq {x : PyData} {c : List Int} (h : tupOf x = some c) : x = encT c := by
  unfold tupOf at h
  split at h
  · rw [intsOf_eq h]; rfl
  · cases h
def tbI (inA : List Int → Bool) (rank : List Int → Nat) (spec : List Int → PyData) (a : List Int) : List D → Option PyData
  | [.v x, .r 0] => match tupOf x with
    | some c => if inA c && decide (rank c < rank a) then some (spec c) else none
    | none => none
  | _ => none
theorem tbI_ok {inA : List Int → Bool} {rank : List Int → Nat} {spec : List Int → PyData} {a : List Int} {ds : List D} {y : PyData} (h : tbI inA rank spec a ds = some y) :
    ∃ c, inA c = true ∧ rank c < rank a ∧ ds = [encT c].map D.v ++ [.r 0] ∧ y = spec c := by
  unfold tbI at h
  split at h
  · rename_i x
    split at h
    · rename_i c hc
      split at h
      · rename_i hs
        rw [Bool.and_eq_true, decide_eq_true_iff] at hs
        injection h with h
        exact ⟨c, hs.1, hs.2, by rw [tupOf_eq hc]; rfl, h.symm⟩
      · cases h
    · cases h
  · cases h
theorem memo_ints {spec : List Int → PyData} {dom : List (List Int)} (few : dom.length < 16000000) (f : Nat → Fn) {slots : Nat} {K0 : FS} {B0 : Fn → FS} {E : Fn → FE} {fk fd : FE} (pk : Pure fk) (pd : Pure fd)
    (hf : ∀ k, f (k + 1) = runBody 2 slots (sSeq K0 (sSeq (sIf (dTest (dBin (dInT true) fk fd)) (sSeq (B0 (f k)) (sSetT fd fk (E (f k)))) sNil) (sRet (dBin dIxT fd fk)))))
    (sK : ∀ F, SmS F K0 K0) (sB : ∀ F c c', SmC F c c' → SmS F (B0 c) (B0 c')) (sE : ∀ F c c', SmC F c c' → SmE F (E c) (E c')) (sk : ∀ F, SmE F fk fk) (sd : ∀ F, SmE F fd fd)
    (inA : List Int → Bool) (hin : ∀ c, inA c = true → c ∈ dom) (rank : List Int → Nat)
    (hc : ∀ a ∈ dom, chk K0 (B0 (orac (tbI inA rank spec a))) (E (orac (tbI inA rank spec a))) fk fd ([some (.v (encT a)), some (.r 0)] ++ List.replicate (slots - 2) none) = some (spec a, encT a, encT a)) :
    ∀ (k : Nat) (a : List Int), a ∈ dom → rank a < k → AnsM intsK spec dom (f k) [encT a] (spec a) :=
  memo_sim few f (m := 1) pk pd hf sK sB sE sk sd dom (fun a => [encT a]) id rank (tbI inA rank spec) (fun _ _ => rfl)
    (fun a ha ds y h => let ⟨c, h1, h2, h3, h4⟩ := tbI_ok h; ⟨c, hin c h1, h2, h3, h4⟩) (fun _ h => h) hc
/-- a call with a new dict -/
theorem AnsM.fresh {κ : Type} [DecidableEq κ] {Y : Keys κ} {spec : κ → PyData} {dom : List κ} {f : Fn} {ws : List PyData} {y : PyData} (h : AnsM Y spec dom f ws y) (S : Store) :
    ∃ c, trunc (S.length + 1) (f (ws.map D.v ++ [.r S.length]) (S ++ [.dt []])) = .ok (.v y) (S ++ [c]) := by
  obtain ⟨S', e, ks, _, _, rfl⟩ := h S.length (S ++ [.dt []]) (S ++ [.dt []]) (by simp) ⟨[], by simp, by simp, by rw [List.set_append_right _ _ (Nat.le_refl _)]; simp [memoD]⟩
  refine ⟨.dt (memoD Y spec ks), ?_⟩
  rw [List.length_append] at e
  rw [show S.length + 1 = S.length + [Cell.dt []].length from rfl, e, List.set_append_right _ _ (Nat.le_refl _)]
  simp
/-- a call with a new dict, seen at the least store -/
def pv1 (r : Res D) : Option PyData := match r with
  | .ok (.v x) (_ :: _) => some x
  | _ => none
theorem fresh_store {c : Fn} (hc : FrF c) {ws : List PyData} {y : PyData} (h : pv1 (c (ws.map D.v ++ [D.r 0]) [.dt []]) = some y) (S : Store) :
    ∃ d, trunc (S.length + 1) (c (ws.map D.v ++ [D.r S.length]) (S ++ [.dt []])) = .ok (.v y) (S ++ [d]) := by
  have := hc S (ws.map D.v ++ [D.r 0]) [.dt []]
  have e : (ws.map D.v ++ [D.r 0]).map (shD S.length) = ws.map D.v ++ [D.r S.length] := by rw [List.map_append, List.map_map]; rfl
  rw [e] at this
  cases hr : c (ws.map D.v ++ [D.r 0]) [.dt []] with
  | ok d S' =>
    rw [hr] at h this
    cases d with
    | v x =>
      cases S' with
      | nil => simp [pv1] at h
      | cons d S' =>
        have hx : x = y := by simpa [pv1] using h
        subst hx
        have this : c _ _ = _ := this
        refine ⟨d, ?_⟩
        rw [this]
        simp only [shD, trunc]
        rw [take_sh]; rfl
    | _ => simp [pv1] at h
  | exc x S' => rw [hr] at h; simp [pv1] at h
  | stuck => rw [hr] at h; simp [pv1] at h
/-! calls in expressions -/
def Fresh (c : Fn) (ws : List PyData) (y : PyData) : Prop := ∀ S : Store, ∃ d, trunc (S.length + 1) (c (ws.map D.v ++ [D.r S.length]) (S ++ [.dt []])) = .ok (.v y) (S ++ [d])
theorem AnsM.new {κ : Type} [DecidableEq κ] {Y : Keys κ} {spec : κ → PyData} {dom : List κ} {f : Fn} {ws : List PyData} {y : PyData} (h : AnsM Y spec dom f ws y) : Fresh f ws y := fun S => h.fresh S
theorem fresh_of {c : Fn} (hc : FrF c) {ws : List PyData} {y : PyData} (h : pv1 (c (ws.map D.v ++ [D.r 0]) [.dt []]) = some y) : Fresh c ws y := fun S => fresh_store hc h S
theorem Fresh.call1 {c : Fn} {x y : PyData} (h : Fresh c [x] y) {f : FE} {env : DEnv} {S S1 : Store} (hf : f env S = .ok (.v x) S1) : ∃ d, dCall c (dConsA f (dConsA dNewT dNilA)) [] env S = .ok (.v y) (S1 ++ [d]) := by
  obtain ⟨d, e⟩ := h S1
  refine ⟨d, ?_⟩
  rw [dCall_ap, dConsA_ap, hf, bind_okS, dConsA_ap, show dNewT env S1 = .ok (.r S1.length) (S1 ++ [.dt []]) from rfl]
  simp only [bind_okS, dNilA_ap, List.append_nil]
  rw [List.length_append]
  exact e
theorem Fresh.call2 {c : Fn} {x x' y : PyData} (h : Fresh c [x, x'] y) {f g : FE} {env : DEnv} {S S1 S2 : Store} (hf : f env S = .ok (.v x) S1) (hg : g env S1 = .ok (.v x') S2) : ∃ d, dCall c (dConsA f (dConsA g (dConsA dNewT dNilA))) [] env S = .ok (.v y) (S2 ++ [d]) := by
  obtain ⟨d, e⟩ := h S2
  refine ⟨d, ?_⟩
  rw [dCall_ap, dConsA_ap, hf, bind_okS, dConsA_ap, hg, bind_okS, dConsA_ap, show dNewT env S2 = .ok (.r S2.length) (S2 ++ [.dt []]) from rfl]
  simp only [bind_okS, dNilA_ap, List.append_nil]
  rw [List.length_append]
  exact e
theorem AnsM.call1 {κ : Type} [DecidableEq κ] {Y : Keys κ} {spec : κ → PyData} {dom : List κ} {c : Fn} {x y : PyData} (h : AnsM Y spec dom c [x] y) {n : Nat} {S0 : Store} {f fd : FE} {env : DEnv} {S S1 : Store} (hn : n < S0.length) (hf : f env S = .ok (.v x) S1) (hd : fd env S1 = .ok (.r n) S1) (hM : Mem Y spec dom n S0 S1) :
    ∃ S', dCall c (dConsA f (dConsA fd dNilA)) [] env S = .ok (.v y) S' ∧ Mem Y spec dom n S0 S' := by
  obtain ⟨S', e, hS'⟩ := h n S0 S1 hn hM
  refine ⟨S', ?_, hS'⟩
  rw [dCall_ap, dConsA_ap, hf, bind_okS, dConsA_ap, hd]
  simp only [bind_okS, dNilA_ap, List.append_nil]
  exact e
theorem call_any {c : Fn} (hc : FrF c) {x y : PyData} (h : pv (c [.v x] []) = some y) {f : FE} {env : DEnv} {S S1 : Store} (hf : f env S = .ok (.v x) S1) : dCall c (dConsA f dNilA) [] env S = .ok (.v y) S1 := by
  rw [dCall_ap, dConsA_ap, hf]
  simp only [bind_okS, dNilA_ap, List.append_nil]
  exact any_store hc (xs := [x]) h S1
/-- shaped all through, and of what kinds: told by a look -/
def okDb : Nat → PyData → Bool
  | 0, _ => false
  | k + 1, .list xs => decide (xs.length ≤ 1000000) && xs.all (okDb k)
  | k + 1, .tuple xs => decide (xs.length ≤ 1000000) && xs.all (okDb k)
  | _ + 1, .none => true
  | _ + 1, .bool _ => true
  | _ + 1, .int _ => true
  | _ + 1, _ => false
theorem okDb_ok : ∀ (k : Nat) (x : PyData), okDb k x = true → okD k x
  | 0, _, h => by simp [okDb] at h
  | k + 1, .list xs, h => by
    simp only [okDb, Bool.and_eq_true, decide_eq_true_eq, List.all_eq_true] at h
    simp only [okD]
    exact ⟨h.1, fun x hx => okDb_ok k x (h.2 x hx)⟩
  | k + 1, .tuple xs, h => by
    simp only [okDb, Bool.and_eq_true, decide_eq_true_eq, List.all_eq_true] at h
    simp only [okD]
    exact ⟨h.1, fun x hx => okDb_ok k x (h.2 x hx)⟩
  | k + 1, .none, _ => by simp [okD]
  | k + 1, .bool _, _ => by simp [okD]
  | k + 1, .int _, _ => by simp [okD]
  | k + 1, .str _, h => by simp [okDb] at h
  | k + 1, .dict _, h => by simp [okDb] at h
/-- a map by another name: so that no kernel compares the functions before the rows -/
def mapR {α β : Type} (g : α → β) : List α → List β
  | [] => []
  | a :: l => g a :: mapR g l
theorem mapR_eq {α β : Type} (g : α → β) : ∀ l : List α, mapR g l = l.map g
  | [] => rfl
  | a :: l => by rw [mapR, mapR_eq g l]; rfl
theorem at_allR {α β : Type} {l : List α} {f g : α → β} (h : l.map f = mapR g l) {c : α} (hc : c ∈ l) : f c = g c := at_all (h.trans (mapR_eq g l)) hc
/-- a row in pieces -/
theorem mem_chunk {α : Type} {l : List α} {a : α} (c n : Nat) (hc : 0 < c) (hl : l.length ≤ c * n) (h : a ∈ l) : ∃ i, i < n ∧ a ∈ (l.drop (c * i)).take c := by
  obtain ⟨j, hj⟩ := List.mem_iff_getElem?.mp h
  have hlt : j < l.length := (List.getElem?_eq_some_iff.mp hj).1
  have hm := Nat.div_add_mod j c
  have hmod := Nat.mod_lt j hc
  refine ⟨j / c, Nat.div_lt_of_lt_mul (by omega), List.mem_of_getElem? (i := j % c) ?_⟩
  rw [List.getElem?_take_of_lt hmod, List.getElem?_drop, hm]
  exact hj
end G

set_option Elab.async false
set_option linter.all false
set_option autoImplicit false
set_option maxRecDepth 100000
set_option maxHeartbeats 4000000
namespace K33
open PySem PySem.Spec PyProof.Rows L2 G
def topS (i : Nat) : Stmt := PySem.Challenge.pw_movesworth_k33_whole_places_taken.main.body.getD i (.Pass ⟨0, 0, 0, 0⟩)
abbrev st__law_draw : Stmt := topS 22
abbrev N__law_draw : List Str := ["draws", "limit", "cell", "value"]
theorem sc__law_draw : FnScope N__law_draw ["draws", "limit"] (defScope st__law_draw) := ⟨rfl, rfl, rfl, by decide +kernel, rfl, by decide +kernel, by decide +kernel⟩
abbrev st__law_draws : Stmt := topS 21
abbrev N__law_draws : List Str := ["script"]
theorem sc__law_draws : FnScope N__law_draws ["script"] (defScope st__law_draws) := ⟨rfl, rfl, rfl, by decide +kernel, rfl, by decide +kernel, by decide +kernel⟩
abbrev st__law_number : Stmt := topS 25
abbrev N__law_number : List Str := ["ties", "left", "whole", "known", "used", "place", "near", "gones", "a", "b", "one", "gone", "k"]
theorem sc__law_number : FnScope N__law_number ["ties", "left", "whole", "known"] (defScope st__law_number) := ⟨rfl, rfl, rfl, by decide +kernel, rfl, by decide +kernel, by decide +kernel⟩
abbrev st__law_same : Stmt := topS 24
abbrev N__law_same : List Str := ["actual", "expected", "k"]
theorem sc__law_same : FnScope N__law_same ["actual", "expected"] (defScope st__law_same) := ⟨rfl, rfl, rfl, by decide +kernel, rfl, by decide +kernel, by decide +kernel⟩
abbrev st_is_whole : Stmt := topS 5
abbrev N_is_whole : List Str := ["value"]
theorem sc_is_whole : FnScope N_is_whole ["value"] (defScope st_is_whole) := ⟨rfl, rfl, rfl, by decide +kernel, rfl, by decide +kernel, by decide +kernel⟩
abbrev st_is_code : Stmt := topS 16
abbrev N_is_code : List Str := ["value", "one"]
theorem sc_is_code : FnScope N_is_code ["value"] (defScope st_is_code) := ⟨rfl, rfl, rfl, by decide +kernel, rfl, by decide +kernel, by decide +kernel⟩
abbrev st_look_at_code : Stmt := topS 17
abbrev N_look_at_code : List Str := ["code"]
theorem sc_look_at_code : FnScope N_look_at_code ["code"] (defScope st_look_at_code) := ⟨rfl, rfl, rfl, by decide +kernel, rfl, by decide +kernel, by decide +kernel⟩
abbrev st_least_missing : Stmt := topS 7
abbrev N_least_missing : List Str := ["numbers", "known", "found", "one"]
theorem sc_least_missing : FnScope N_least_missing ["numbers"] (defScope st_least_missing) := ⟨rfl, rfl, rfl, by decide +kernel, rfl, by decide +kernel, by decide +kernel⟩
abbrev st_nim_sum : Stmt := topS 8
abbrev N_nim_sum : List Str := ["first", "other"]
theorem sc_nim_sum : FnScope N_nim_sum ["first", "other"] (defScope st_nim_sum) := ⟨rfl, rfl, rfl, by decide +kernel, rfl, by decide +kernel, by decide +kernel⟩
abbrev st_next_number : Stmt := topS 19
abbrev N_next_number : List Str := ["code", "found", "size", "used", "k", "digit", "left", "one"]
theorem sc_next_number : FnScope N_next_number ["code", "found", "size"] (defScope st_next_number) := ⟨rfl, rfl, rfl, by decide +kernel, rfl, by decide +kernel, by decide +kernel⟩
abbrev st_heap_numbers : Stmt := topS 18
abbrev N_heap_numbers : List Str := ["code", "count", "found", "size"]
theorem sc_heap_numbers : FnScope N_heap_numbers ["code", "count"] (defScope st_heap_numbers) := ⟨rfl, rfl, rfl, by decide +kernel, rfl, by decide +kernel, by decide +kernel⟩
abbrev st_parts_left : Stmt := topS 13
abbrev N_parts_left : List Str := ["near", "left", "found", "seen", "place", "part", "todo", "one"]
theorem sc_parts_left : FnScope N_parts_left ["near", "left"] (defScope st_parts_left) := ⟨rfl, rfl, rfl, by decide +kernel, rfl, by decide +kernel, by decide +kernel⟩
abbrev st_web_left : Stmt := topS 12
abbrev N_web_left : List Str := ["near", "left", "whole", "known", "parts", "found", "part", "used", "place", "inside", "gones", "gone", "one"]
theorem sc_web_left : FnScope N_web_left ["near", "left", "whole", "known"] (defScope st_web_left) := ⟨rfl, rfl, rfl, by decide +kernel, rfl, by decide +kernel, by decide +kernel⟩
abbrev st_web_number : Stmt := topS 11
abbrev N_web_number : List Str := ["count", "ties", "whole", "near", "k", "a", "b"]
theorem sc_web_number : FnScope N_web_number ["count", "ties", "whole"] (defScope st_web_number) := ⟨rfl, rfl, rfl, by decide +kernel, rfl, by decide +kernel, by decide +kernel⟩
abbrev st_law : Stmt := topS 26
abbrev N_law : List Str := ["script", "draws", "count", "thick", "ties", "a", "whole", "size", "road", "e", "b", "k"]
theorem sc_law : FnScope N_law ["script"] (defScope st_law) := ⟨rfl, rfl, rfl, by decide +kernel, rfl, by decide +kernel, by decide +kernel⟩
def methS (i j : Nat) : Stmt := match topS i with
  | .ClassDef _ _ _ body _ _ _ _ _ _ _ => body.getD j (.Pass ⟨0, 0, 0, 0⟩)
  | _ => .Pass ⟨0, 0, 0, 0⟩
abbrev st__init : Stmt := methS 3 0
theorem sc__init : FnScope ["self", "word"] ["self", "word"] (defScope st__init) := ⟨rfl, rfl, rfl, by decide +kernel, rfl, by decide +kernel, by decide +kernel⟩
def b_hot_same : FS := (sSeq (sIf (tOrD (dTru (dIsi "tuple" (dVar 1))) (dTru (dIsi "list" (dVar 1)))) (fun _ _ => .stuck) sNil)
  (sSeq (sIf (tOrD (dTru (dIsi "bool" (dVar 1))) (dTru (dIsi "bool" (dVar 0))))
  (sRet (dAndV (dIsi "bool" (dVar 1)) (dAndV (dIsi "bool" (dVar 0)) (dBin dEq (dVar 0) (dVar 1)))))
  sNil)
  (sSeq (sIf (tOrD (dTest (dUn (dIsNo false) (dVar 1))) (dTest (dUn (dIsNo false) (dVar 0))))
  (sRet (dAndV (dUn (dIsNo false) (dVar 1)) (dUn (dIsNo false) (dVar 0))))
  sNil)
  (sSeq (sIf (tOrD (dTru (dIsi "str" (dVar 1))) (dTru (dIsi "str" (dVar 0))))
  (sRet (dAndV (dIsi "str" (dVar 1)) (dAndV (dIsi "str" (dVar 0)) (dBin dEq (dVar 0) (dVar 1)))))
  sNil)
  (sRet (dAndV (dIsi "int" (dVar 0)) (dAndV (dIsi "int" (dVar 1)) (dBin dEq (dVar 0) (dVar 1)))))))))
def f_hot_same : Fn := runBody 2 3 b_hot_same
def b__law_number (r__law_number : Fn) : FS := (sSeq (sIf (dTest (dBin (dInT true) (dVar 1) (dVar 3)))
  (sSeq (sSet 4 (dLst dNilA))
  (sSeq (sFor (.s 5) (iSeq (dVar 1))
  (sSeq (sSet 6 (dLc [8, 9] (.t [(.s 8), (.s 9)]) (iSeq (dVar 0)) (tAndD (dTest (dBin (dInS false) (dVar 5) (dTup (dConsA (dVar 8) (dConsA (dVar 9) dNilA))))) (tAndD (dTest (dBin (dInS false) (dVar 8) (dVar 1))) (dTest (dBin (dInS false) (dVar 9) (dVar 1))))) (dIf (dTest (dBin dEq (dVar 9) (dVar 5))) (dVar 8) (dVar 9))))
  (sSeq (sSet 7 (dIf (tNotD (dTru (dVar 2))) (dLst (dConsA (dBin dAdd (dLst (dConsA (dVar 5) dNilA)) (dVar 6)) dNilA)) (dBin dAdd (dLst (dConsA (dLst (dConsA (dVar 5) dNilA)) dNilA)) (dLc [10] (.s 10) (iSeq (dVar 6)) fYes (dLst (dConsA (dVar 5) (dConsA (dVar 10) dNilA)))))))
  (sSet 4 (dBin dAdd (dVar 4) (dLc [11] (.s 11) (iSeq (dVar 7)) fYes (dCall r__law_number (dConsA (dVar 0) (dConsA (dBlt opTuple (dConsA (dLc [10] (.s 10) (iSeq (dVar 1)) (dTest (dBin (dInS true) (dVar 10) (dVar 11))) (dVar 10)) dNilA)) (dConsA (dVar 2) (dConsA (dVar 3) dNilA)))) [])))))))
  (sSetT (dVar 3) (dVar 1) (dBin dIx (dLc [12] (.s 12) (iRange1 (dBin dAdd (dBlt opLen (dConsA (dVar 4) dNilA)) (dC (.int 1)))) (dTest (dBin (dInS true) (dVar 12) (dVar 4))) (dVar 12)) (dC (.int 0))))))
  sNil)
  (sRet (dBin dIxT (dVar 3) (dVar 1))))
def f__law_number : Nat → Fn
  | 0 => fun _ _ => .stuck
  | k + 1 => runBody 4 13 (b__law_number (f__law_number k))
theorem len__law_number (k : Nat) (ds : List D) (S : Store) (h : ds.length ≠ 4) : f__law_number k ds S = .stuck := by
  cases k with
  | zero => rfl
  | succ k => exact runBody_len ds S h
def S_is_whole_0 : FS := (sRet (dAndV (dIsi "int" (dVar 0)) (dNotV (dIsi "bool" (dVar 0)))))
def b_is_whole : FS := S_is_whole_0
def f_is_whole : Fn := runBody 1 1 b_is_whole
theorem len_is_whole (ds : List D) (S : Store) (h : ds.length ≠ 1) : f_is_whole ds S = .stuck := runBody_len ds S h
def S_is_code_0 : FS := (sIf (tOrD (tNotD (dTru (dIsi "tuple" (dVar 0)))) (tNotD (dTest (dChain dLe dLe (dC (.int 1)) (dBlt opLen (dConsA (dVar 0) dNilA)) (dC (.int 12))))))
  (sRet (dC (.bool false)))
  sNil)
def S_is_code_1 : FS := (sRet (dBlt opAll (dConsA (dLc [1] (.s 1) (iSeq (dVar 0)) fYes (dAndV (dCall f_is_whole (dConsA (dVar 1) dNilA) []) (dChain dLe dLe (dC (.int 0)) (dVar 1) (dC (.int 7))))) dNilA)))
def b_is_code : FS := (sSeq S_is_code_0
  S_is_code_1)
def f_is_code : Fn := runBody 1 2 b_is_code
theorem len_is_code (ds : List D) (S : Store) (h : ds.length ≠ 1) : f_is_code ds S = .stuck := runBody_len ds S h
def S_look_at_code_0 : FS := (sIf (tNotD (dTru (dCall f_is_code (dConsA (dVar 0) dNilA) [])))
  sNever
  sNil)
def b_look_at_code : FS := S_look_at_code_0
def f_look_at_code : Fn := runBody 1 1 b_look_at_code
theorem len_look_at_code (ds : List D) (S : Store) (h : ds.length ≠ 1) : f_look_at_code ds S = .stuck := runBody_len ds S h
def L_least_missing_0 : FS := (sAug 2 (pI fun i j => i + j) (dC (.int 1)))
def S_least_missing_1 : FS := (sSet 1 (dDcK [3] (.s 3) (iSeq (dVar 0)) fYes (dVar 3) (dC (.bool true))))
def S_least_missing_2 : FS := (sSet 2 (dC (.int 0)))
def S_least_missing_3 : FS := (sWhile (dTest (dBin (dInK false) (dVar 2) (dVar 1)))
  L_least_missing_0 100000)
def S_least_missing_4 : FS := (sRet (dVar 2))
def b_least_missing : FS := (sSeq S_least_missing_1
  (sSeq S_least_missing_2
  (sSeq S_least_missing_3
  S_least_missing_4)))
def f_least_missing : Fn := runBody 1 4 b_least_missing
theorem len_least_missing (ds : List D) (S : Store) (h : ds.length ≠ 1) : f_least_missing ds S = .stuck := runBody_len ds S h
def S_nim_sum_0 : FS := (sRet (dBin dXor (dVar 0) (dVar 1)))
def b_nim_sum : FS := S_nim_sum_0
def f_nim_sum : Fn := runBody 2 2 b_nim_sum
theorem len_nim_sum (ds : List D) (S : Store) (h : ds.length ≠ 2) : f_nim_sum ds S = .stuck := runBody_len ds S h
def L_next_number_0 : FS := (sSeq (sSet 6 (dBin dSub (dBin dSub (dVar 2) (dVar 4)) (dC (.int 1))))
  (sSeq (sIf (tAndD (dTru (dBin dAnd (dVar 5) (dC (.int 1)))) (dTest (dBin dEq (dVar 6) (dC (.int 0)))))
  (sExpr (dMtL omAppend (dVar 3) (dConsA (dC (.int 0)) dNilA)))
  sNil)
  (sSeq (sIf (tAndD (dTru (dBin dAnd (dVar 5) (dC (.int 2)))) (dTest (dBin dGt (dVar 6) (dC (.int 0)))))
  (sExpr (dMtL omAppend (dVar 3) (dConsA (dBin dIx (dVar 1) (dVar 6)) dNilA)))
  sNil)
  (sIf (dTru (dBin dAnd (dVar 5) (dC (.int 4))))
  (sExpr (dMtL omExtend (dVar 3) (dConsA (dLc [7] (.s 7) (iRange2 (dC (.int 1)) (dBin dAdd (dBin dDiv (dVar 6) (dC (.int 2))) (dC (.int 1)))) fYes (dCall f_nim_sum (dConsA (dBin dIx (dVar 1) (dVar 7)) (dConsA (dBin dIx (dVar 1) (dBin dSub (dVar 6) (dVar 7))) dNilA)) [])) dNilA)))
  sNil))))
def S_next_number_1 : FS := (sSet 3 (dLstC dNilA))
def S_next_number_2 : FS := (sFor (.t [(.s 4), (.s 5)]) (iEnumD (dVar 0))
  L_next_number_0)
def S_next_number_3 : FS := (sFrz 3 (sRet (dCall f_least_missing (dConsA (dVar 3) dNilA) [])))
def b_next_number : FS := (sSeq S_next_number_1
  (sSeq S_next_number_2
  S_next_number_3))
def f_next_number : Fn := runBody 3 8 b_next_number
theorem len_next_number (ds : List D) (S : Store) (h : ds.length ≠ 3) : f_next_number ds S = .stuck := runBody_len ds S h
def L_heap_numbers_0 : FS := (sExpr (dMtL omAppend (dVar 2) (dConsA (dCall f_next_number (dConsA (dVar 0) (dConsA (dVar 2) (dConsA (dVar 3) dNilA))) []) dNilA)))
def S_heap_numbers_1 : FS := (sExpr (dCall f_look_at_code (dConsA (dVar 0) dNilA) []))
def S_heap_numbers_2 : FS := (sIf (dTest (dBin dGt (dVar 1) (dC (.int (3000)))))
  (sRaiseR (dC (.str (PySem.Str.ofString "size"))))
  sNil)
def S_heap_numbers_3 : FS := (sSet 2 (dLstC dNilA))
def S_heap_numbers_4 : FS := (sFor (.s 3) (iRange1 (dVar 1))
  L_heap_numbers_0)
def S_heap_numbers_5 : FS := (sRet (dBlt opTuple (dConsA (dVar 2) dNilA)))
def b_heap_numbers : FS := (sSeq S_heap_numbers_1
  (sSeq S_heap_numbers_2
  (sSeq S_heap_numbers_3
  (sSeq S_heap_numbers_4
  S_heap_numbers_5))))
def f_heap_numbers : Fn := runBody 2 4 b_heap_numbers
theorem len_heap_numbers (ds : List D) (S : Store) (h : ds.length ≠ 2) : f_heap_numbers ds S = .stuck := runBody_len ds S h
def L_parts_left_0 : FS := (sIf (tAndD (dTest (dBin (dInS false) (dVar 7) (dVar 1))) (dTest (dBin (dInK true) (dVar 7) (dVar 5))))
  (sSeq (sSetK (dVar 5) (dVar 7) (dC (.bool true)))
  (sExpr (dMtL omAppend (dVar 6) (dConsA (dVar 7) dNilA))))
  sNil)
def L_parts_left_1 : FS := (sFor (.s 7) (iSeq (dBin dIx (dVar 0) (dMtL omPop (dVar 6) dNilA)))
  L_parts_left_0)
def L_parts_left_2 : FS := (sIf (dTest (dBin (dInK true) (dVar 4) (dVar 3)))
  (sSeq (sSet 5 (dDisp1 (dVar 4) (dC (.bool true))))
  (sSeq (sSet 6 (dLstC (dConsA (dVar 4) dNilA)))
  (sSeq (sWhile (dTest (dBin dGt (dBlt opLen (dConsA (dVar 6) dNilA)) (dC (.int 0))))
  L_parts_left_1 100000)
  (sSeq (sExpr (dUpdK (dVar 3) (dVar 5)))
  (sExpr (dMtL omAppend (dVar 2) (dConsA (dBlt opTuple (dConsA (dBlt opSortedK (dConsA (dVar 5) dNilA)) dNilA)) dNilA)))))))
  sNil)
def S_parts_left_3 : FS := (sSet 2 (dLstC dNilA))
def S_parts_left_4 : FS := (sSet 3 dNewK)
def S_parts_left_5 : FS := (sFor (.s 4) (iSeq (dVar 1))
  L_parts_left_2)
def S_parts_left_6 : FS := (sFrz 2 (sRet (dVar 2)))
def b_parts_left : FS := (sSeq S_parts_left_3
  (sSeq S_parts_left_4
  (sSeq S_parts_left_5
  S_parts_left_6)))
def f_parts_left : Fn := runBody 2 8 b_parts_left
theorem len_parts_left (ds : List D) (S : Store) (h : ds.length ≠ 2) : f_parts_left ds S = .stuck := runBody_len ds S h
def b_web_left (r_web_left : Fn) : FS := (sSeq (sSet 4 (dCall f_parts_left (dConsA (dVar 0) (dConsA (dVar 1) dNilA)) []))
  (sSeq (sIf (dTest (dBin dNe (dBlt opLen (dConsA (dVar 4) dNilA)) (dC (.int 1))))
  (sSeq (sSet 5 (dC (.int 0)))
  (sSeq (sFor (.s 6) (iSeq (dVar 4))
  (sSet 5 (dCall f_nim_sum (dConsA (dVar 5) (dConsA (dCall r_web_left (dConsA (dVar 0) (dConsA (dVar 6) (dConsA (dVar 2) (dConsA (dVar 3) dNilA)))) []) dNilA)) [])))
  (sRet (dVar 5))))
  sNil)
  (sSeq (sIf (dTest (dBin (dInT true) (dVar 1) (dVar 3)))
  (sSeq (sSet 7 (dLstC dNilA))
  (sSeq (sFor (.s 8) (iSeq (dVar 1))
  (sSeq (sSet 9 (dLc [12] (.s 12) (iSeq (dBin dIx (dVar 0) (dVar 8))) (dTest (dBin (dInS false) (dVar 12) (dVar 1))) (dVar 12)))
  (sSeq (sSet 10 (dIf (tNotD (dTru (dVar 2))) (dLst (dConsA (dBin dAdd (dLst (dConsA (dVar 8) dNilA)) (dVar 9)) dNilA)) (dBin dAdd (dLst (dConsA (dLst (dConsA (dVar 8) dNilA)) dNilA)) (dLc [12] (.s 12) (iSeq (dVar 9)) fYes (dLst (dConsA (dVar 8) (dConsA (dVar 12) dNilA)))))))
  (sFor (.s 11) (iSeq (dVar 10))
  (sExpr (dMtL omAppend (dVar 7) (dConsA (dCall r_web_left (dConsA (dVar 0) (dConsA (dBlt opTuple (dConsA (dLc [12] (.s 12) (iSeq (dVar 1)) (dTest (dBin (dInS true) (dVar 12) (dVar 11))) (dVar 12)) dNilA)) (dConsA (dVar 2) (dConsA (dVar 3) dNilA)))) []) dNilA)))))))
  (sFrz 7 (sSetT (dVar 3) (dVar 1) (dCall f_least_missing (dConsA (dVar 7) dNilA) [])))))
  sNil)
  (sRet (dBin dIxT (dVar 3) (dVar 1))))))
def f_web_left : Nat → Fn
  | 0 => fun _ _ => .stuck
  | k + 1 => runBody 4 13 (b_web_left (f_web_left k))
theorem len_web_left (k : Nat) (ds : List D) (S : Store) (h : ds.length ≠ 4) : f_web_left k ds S = .stuck := by
  cases k with
  | zero => rfl
  | succ k => exact runBody_len ds S h
def S_web_number_0 : FS := (sIf (dTest (dBin dGt (dVar 0) (dC (.int (14)))))
  (sRaiseR (dC (.str (PySem.Str.ofString "size"))))
  sNil)
def S_web_number_1 : FS := (sSet 3 (dLc [4] (.s 4) (iRange1 (dVar 0)) fYes (dLc [5, 6] (.t [(.s 5), (.s 6)]) (iSeq (dVar 1)) (dTest (dBin (dInS false) (dVar 4) (dTup (dConsA (dVar 5) (dConsA (dVar 6) dNilA))))) (dIf (dTest (dBin dEq (dVar 5) (dVar 4))) (dVar 6) (dVar 5)))))
def S_web_number_2 : FS := (sRet (dCall (f_web_left 24) (dConsA (dVar 3) (dConsA (dTR (iRange1 (dVar 0))) (dConsA (dVar 2) (dConsA dNewT dNilA)))) []))
def b_web_number : FS := (sSeq S_web_number_0
  (sSeq S_web_number_1
  S_web_number_2))
def f_web_number : Fn := runBody 3 7 b_web_number
theorem len_web_number (ds : List D) (S : Store) (h : ds.length ≠ 3) : f_web_number ds S = .stuck := runBody_len ds S h
def L_law_0 : FS := (sSet 4 (dBin dAdd (dVar 4) (dLc [10] (.s 10) (iRange2 (dBin dAdd (dVar 5) (dC (.int 1))) (dVar 2)) (dTest (dBin dEq (dCall f__law_draw (dConsA (dVar 1) (dConsA (dVar 3) dNilA)) []) (dC (.int 0)))) (dTup (dConsA (dVar 5) (dConsA (dVar 10) dNilA))))))
def L_law_1 : FS := (sIf (tNotD (dTru (dCall (f__law_same 12) (dConsA (dCall f_web_number (dConsA (dVar 2) (dConsA (dBlt opTuple (dConsA (dVar 4) dNilA)) (dConsA (dVar 6) dNilA))) []) (dConsA (dCall (f__law_number 12) (dConsA (dBlt opTuple (dConsA (dVar 4) dNilA)) (dConsA (dTR (iRange1 (dVar 2))) (dConsA (dVar 6) (dConsA dNewT dNilA)))) []) dNilA)) [])))
  (sRet (dC (.bool false)))
  sNil)
def S_law_2 : FS := (sSet 1 (dCall f__law_draws (dConsA (dVar 0) dNilA) []))
def S_law_3 : FS := (sSet 2 (dCall f__law_draw (dConsA (dVar 1) (dConsA (dC (.int 7)) dNilA)) []))
def S_law_4 : FS := (sSet 3 (dBin dAdd (dC (.int 1)) (dCall f__law_draw (dConsA (dVar 1) (dConsA (dC (.int 4)) dNilA)) [])))
def S_law_5 : FS := (sSet 4 (dLst dNilA))
def S_law_6 : FS := (sFor (.s 5) (iRange1 (dVar 2))
  L_law_0)
def S_law_7 : FS := (sFor (.s 6) (iSeq (dTup (dConsA (dC (.bool false)) (dConsA (dC (.bool true)) dNilA))))
  L_law_1)
def S_law_8 : FS := (sSet 7 (dBin dAdd (dC (.int 1)) (dCall f__law_draw (dConsA (dVar 1) (dConsA (dC (.int 9)) dNilA)) [])))
def S_law_9 : FS := (sSet 8 (dBlt opTuple (dConsA (dLc [11] (.s 11) (iRange1 (dBin dSub (dVar 7) (dC (.int 1)))) fYes (dTup (dConsA (dVar 11) (dConsA (dBin dAdd (dVar 11) (dC (.int 1))) dNilA)))) dNilA)))
def S_law_10 : FS := (sIf (dTest (dBin dNe (dCall f_web_number (dConsA (dVar 7) (dConsA (dVar 8) (dConsA (dC (.bool true)) dNilA))) []) (dBin dIx (dCall f_heap_numbers (dConsA (dTup (dConsA (dC (.int 7)) (dConsA (dC (.int 7)) dNilA))) (dConsA (dBin dAdd (dVar 7) (dC (.int 1))) dNilA)) []) (dVar 7))))
  (sRet (dC (.bool false)))
  sNil)
def S_law_11 : FS := (sIf (dTest (dBin dNe (dCall f_web_number (dConsA (dVar 7) (dConsA (dVar 8) (dConsA (dC (.bool false)) dNilA))) []) (dBin dIx (dCall f_heap_numbers (dConsA (dTup (dConsA (dC (.int 1)) (dConsA (dC (.int 3)) (dConsA (dC (.int 7)) dNilA)))) (dConsA (dBin dAdd (dVar 7) (dC (.int 1))) dNilA)) []) (dVar 7))))
  (sRet (dC (.bool false)))
  sNil)
def S_law_12 : FS := (sTryR 9 (sRet (dBin dEq (dCall f_web_number (dConsA (dC (.int 15)) (dConsA (dTup dNilA) (dConsA (dC (.bool true)) dNilA))) []) (dC (.str (PySem.Str.ofString "refused"))))) (fun w env S => lift env (trunc S.length (f_hot_same [.v (.str w), .v (.str (PySem.Str.ofString "size"))] S)) fun z S1 => .ok (.rt z) S1))
def b_law : FS := (sSeq S_law_2
  (sSeq S_law_3
  (sSeq S_law_4
  (sSeq S_law_5
  (sSeq S_law_6
  (sSeq S_law_7
  (sSeq S_law_8
  (sSeq S_law_9
  (sSeq S_law_10
  (sSeq S_law_11
  S_law_12))))))))))
def f_law : Fn := runBody 1 12 b_law
theorem len_law (ds : List D) (S : Store) (h : ds.length ≠ 1) : f_law ds S = .stuck := runBody_len ds S h
structure Tab (K : PySem.W.Frag) (mg : Str → Option Value) where
  a__law_draw : Addr
  d__law_draw : FuncData
  F__law_draw : L2.Fun K "_law_draw" "_law_draw" st__law_draw a__law_draw d__law_draw
  b__law_draw : Binds K d__law_draw ["draws", "limit"] []
  m__law_draw : mg "_law_draw" = some (.ref a__law_draw)
  a__law_draws : Addr
  d__law_draws : FuncData
  F__law_draws : L2.Fun K "_law_draws" "_law_draws" st__law_draws a__law_draws d__law_draws
  b__law_draws : Binds K d__law_draws ["script"] []
  m__law_draws : mg "_law_draws" = some (.ref a__law_draws)
  a__law_number : Addr
  d__law_number : FuncData
  F__law_number : L2.Fun K "_law_number" "_law_number" st__law_number a__law_number d__law_number
  b__law_number : Binds K d__law_number ["ties", "left", "whole", "known"] []
  m__law_number : mg "_law_number" = some (.ref a__law_number)
  a__law_same : Addr
  d__law_same : FuncData
  F__law_same : L2.Fun K "_law_same" "_law_same" st__law_same a__law_same d__law_same
  b__law_same : Binds K d__law_same ["actual", "expected"] []
  m__law_same : mg "_law_same" = some (.ref a__law_same)
  a_is_whole : Addr
  d_is_whole : FuncData
  F_is_whole : L2.Fun K "is_whole" "is_whole" st_is_whole a_is_whole d_is_whole
  b_is_whole : Binds K d_is_whole ["value"] []
  m_is_whole : mg "is_whole" = some (.ref a_is_whole)
  a_is_code : Addr
  d_is_code : FuncData
  F_is_code : L2.Fun K "is_code" "is_code" st_is_code a_is_code d_is_code
  b_is_code : Binds K d_is_code ["value"] []
  m_is_code : mg "is_code" = some (.ref a_is_code)
  a_look_at_code : Addr
  d_look_at_code : FuncData
  F_look_at_code : L2.Fun K "look_at_code" "look_at_code" st_look_at_code a_look_at_code d_look_at_code
  b_look_at_code : Binds K d_look_at_code ["code"] []
  m_look_at_code : mg "look_at_code" = some (.ref a_look_at_code)
  a_least_missing : Addr
  d_least_missing : FuncData
  F_least_missing : L2.Fun K "least_missing" "least_missing" st_least_missing a_least_missing d_least_missing
  b_least_missing : Binds K d_least_missing ["numbers"] []
  m_least_missing : mg "least_missing" = some (.ref a_least_missing)
  a_nim_sum : Addr
  d_nim_sum : FuncData
  F_nim_sum : L2.Fun K "nim_sum" "nim_sum" st_nim_sum a_nim_sum d_nim_sum
  b_nim_sum : Binds K d_nim_sum ["first", "other"] []
  m_nim_sum : mg "nim_sum" = some (.ref a_nim_sum)
  a_next_number : Addr
  d_next_number : FuncData
  F_next_number : L2.Fun K "next_number" "next_number" st_next_number a_next_number d_next_number
  b_next_number : Binds K d_next_number ["code", "found", "size"] []
  m_next_number : mg "next_number" = some (.ref a_next_number)
  a_heap_numbers : Addr
  d_heap_numbers : FuncData
  F_heap_numbers : L2.Fun K "heap_numbers" "heap_numbers" st_heap_numbers a_heap_numbers d_heap_numbers
  b_heap_numbers : Binds K d_heap_numbers ["code", "count"] []
  m_heap_numbers : mg "heap_numbers" = some (.ref a_heap_numbers)
  a_parts_left : Addr
  d_parts_left : FuncData
  F_parts_left : L2.Fun K "parts_left" "parts_left" st_parts_left a_parts_left d_parts_left
  b_parts_left : Binds K d_parts_left ["near", "left"] []
  m_parts_left : mg "parts_left" = some (.ref a_parts_left)
  a_web_left : Addr
  d_web_left : FuncData
  F_web_left : L2.Fun K "web_left" "web_left" st_web_left a_web_left d_web_left
  b_web_left : Binds K d_web_left ["near", "left", "whole", "known"] []
  m_web_left : mg "web_left" = some (.ref a_web_left)
  a_web_number : Addr
  d_web_number : FuncData
  F_web_number : L2.Fun K "web_number" "web_number" st_web_number a_web_number d_web_number
  b_web_number : Binds K d_web_number ["count", "ties", "whole"] []
  m_web_number : mg "web_number" = some (.ref a_web_number)
  a_law : Addr
  d_law : FuncData
  F_law : L2.Fun K "law" "law" st_law a_law d_law
  b_law : Binds K d_law ["script"] []
  m_law : mg "law" = some (.ref a_law)
  CR : Addr
  CG : Addr
  fI : Addr
  dI : FuncData
  T : OexC K CR
  hno : PySem.W.findIn K (.ref CR) "word" = some none
  iC : PySem.W.findIn K (.ref CR) "__init__" = some (some (.ref fI))
  tI : PySem.W.typeIn K (.ref fI) = some (.type "function")
  FI : L2.Fun K "__init__" "Refused.__init__" st__init fI dI
  bI : Binds K dI ["self", "word"] []
  m_Refused : mg "Refused" = some (.ref CR)
  m_base : mg "GameError" = some (.ref CG)
  rG : PySem.W.readsIn K CG (.type "type") = true
  gG : PySem.W.specialIn K (.ref CG) "__getattribute__" = some (some (.builtin "type.__getattribute__"))
  vG : PySem.W.findCls K (.ref CG) (.type "type") "__init__" = some (.val (.builtin "ValueError.__init__"))
  ex : PySem.W.exmOne K (.ref CR) (.ref CR) = some true
  xf : XfC K CR
  g_MOST_HEAPS : ∃ u, mg "MOST_HEAPS" = some u ∧ RelV (.int (3000)) u
  g_MOST_THINGS : ∃ u, mg "MOST_THINGS" = some u ∧ RelV (.int (14)) u
  z_all : mg "all" = none
  z_bool : mg "bool" = none
  z_enumerate : mg "enumerate" = none
  z_int : mg "int" = none
  z_isinstance : mg "isinstance" = none
  z_len : mg "len" = none
  z_list : mg "list" = none
  z_range : mg "range" = none
  z_sorted : mg "sorted" = none
  z_str : mg "str" = none
  z_tuple : mg "tuple" = none
section
variable {P : Program} {w : World} {K : PySem.W.Frag} {mg : Str → Option Value} {base : Heap}
theorem ok__law_draw (t : Tab K mg) : FnOk P w K mg base (L2N.CX P w) 1 t.a__law_draw t.d__law_draw ["draws", "limit"] (spD P w K (RXr t.CR) f__law_draw 2) :=
  fnOk t.F__law_draw sc__law_draw fun cdv A outer s H E hr => by
    have px : ∀ σ, PassesAt (L2N.CX P w) (cxOf (L2N.CX P w) P w K mg base N__law_draw "_law_draw" (defScope st__law_draw) t.a__law_draw cdv A outer s H E) σ (fun c d H => W0 E c d σ H) := fun σ => L2N.passAt (L2N.takes_of rfl rfl rfl rfl) σ
    have tk : L2N.Takes (cxOf (L2N.CX P w) P w K mg base N__law_draw "_law_draw" (defScope st__law_draw) t.a__law_draw cdv A outer s H E) (W0 E) := L2N.takes_of rfl rfl rfl rfl
    have po := passes_of (X := cxOf (L2N.CX P w) P w K mg base N__law_draw "_law_draw" (defScope st__law_draw) t.a__law_draw cdv A outer s H E) (K := fun e s'' => L2N.CX P w outer H s E e s'') rfl
    exact (dss_cons (ds_if (dt_pw (dw_and (dt_cmp (od_eq hr.units) (de_ix (de_var 0) de_int) de_int) (dw_and1 (dt_cmp od_lt (de_ix (de_var 0) de_int) (de_callB cd_len bt_len (by rfl) t.z_len (da_cons (de_ix (de_var 0) de_int) da_nil))))))
  (dss_cons (ds_set (i := 2) sc__law_draw.nd (de_ix (de_ix (de_var 0) de_int) (de_ix (de_var 0) de_int)))
  (dss_cons (ds_setIx (de_var 0) de_int (de_bin od_add (de_ix (de_var 0) de_int) de_int))
  (dss_cons (ds_if (dt_cmp od_ge (de_var 2) (de_bin od_pow de_int de_int))
  (dss_one (ds_setIx (de_var 0) de_int (de_var 2)))
  dss_nil)
  (dss_one (ds_setIx (de_var 0) de_int (de_bin od_mod (de_callTy cd_int bt_int (by rfl) t.z_int (da_cons (de_bin od_add (de_bin od_add (de_bin od_mul (de_ix (de_var 0) de_int) de_int) (de_var 2)) de_int) da_nil)) de_int))))))
  dss_nil)
  (dss_cons (ds_if (dt_cmp od_gt (de_ix (de_var 0) de_int) de_int)
  (dss_cons (ds_set (i := 3) sc__law_draw.nd (de_bin od_mod (de_callTy cd_int bt_int (by rfl) t.z_int (da_cons (de_ix (de_var 0) de_int) da_nil)) (de_var 1)))
  (dss_cons (ds_setIx (de_var 0) de_int (de_bin od_div (de_ix (de_var 0) de_int) (de_var 1)))
  (dss_one (ds_ret (de_var 3)))))
  dss_nil)
  (dss_cons (ds_setIx (de_var 0) de_int (de_bin od_mod (de_callTy cd_int bt_int (by rfl) t.z_int (da_cons (de_bin od_add (de_bin od_mul (de_ix (de_var 0) de_int) de_int) de_int) da_nil)) de_int))
  (dss_one (ds_ret (de_bin od_mod (de_callTy cd_int bt_int (by rfl) t.z_int (da_cons (de_bin od_div (de_ix (de_var 0) de_int) de_int) da_nil)) (de_var 1)))))))
theorem ok__law_draws (t : Tab K mg) : FnOk P w K mg base (L2N.CX P w) 1 t.a__law_draws t.d__law_draws ["script"] (spD P w K (RXr t.CR) f__law_draws 1) :=
  fnOk t.F__law_draws sc__law_draws fun cdv A outer s H E hr => by
    have px : ∀ σ, PassesAt (L2N.CX P w) (cxOf (L2N.CX P w) P w K mg base N__law_draws "_law_draws" (defScope st__law_draws) t.a__law_draws cdv A outer s H E) σ (fun c d H => W0 E c d σ H) := fun σ => L2N.passAt (L2N.takes_of rfl rfl rfl rfl) σ
    have tk : L2N.Takes (cxOf (L2N.CX P w) P w K mg base N__law_draws "_law_draws" (defScope st__law_draws) t.a__law_draws cdv A outer s H E) (W0 E) := L2N.takes_of rfl rfl rfl rfl
    have po := passes_of (X := cxOf (L2N.CX P w) P w K mg base N__law_draws "_law_draws" (defScope st__law_draws) t.a__law_draws cdv A outer s H E) (K := fun e s'' => L2N.CX P w outer H s E e s'') rfl
    exact (dss_one (ds_ret (de_lstC (da_cons (de_callTy cd_list bt_list (by rfl) t.z_list (da_cons (de_var 0) da_nil)) (da_cons de_int (da_cons de_int (da_cons de_int da_nil)))))))
theorem ok__law_number (t : Tab K mg) : ∀ k : Nat, FnOk P w K mg base (L2N.CX P w) (k + 0) t.a__law_number t.d__law_number ["ties", "left", "whole", "known"] (spD P w K (RXr t.CR) (f__law_number k) 4)
  | 0 => ⟨fun vs H Q E h => h.1, fun A outer s H args us vs Q E hr he hb hv hs => by obtain ⟨_, α, ds, S, _, _, o⟩ := hs; exact o.elim⟩
  | k + 1 => by
    have ih__law_number := ok__law_number t k
    refine FnOk.mono (j := (k + 0) + 1) (fnOk t.F__law_number sc__law_number fun cdv A outer s H E hr => ?_) (by omega)
    have px : ∀ σ, PassesAt (L2N.CX P w) (cxOf (L2N.CX P w) P w K mg base N__law_number "_law_number" (defScope st__law_number) t.a__law_number cdv A outer s H E) σ (fun c d H => W0 E c d σ H) := fun σ => L2N.passAt (L2N.takes_of rfl rfl rfl rfl) σ
    have tk : L2N.Takes (cxOf (L2N.CX P w) P w K mg base N__law_number "_law_number" (defScope st__law_number) t.a__law_number cdv A outer s H E) (W0 E) := L2N.takes_of rfl rfl rfl rfl
    have po := passes_of (X := cxOf (L2N.CX P w) P w K mg base N__law_number "_law_number" (defScope st__law_number) t.a__law_number cdv A outer s H E) (K := fun e s'' => L2N.CX P w outer H s E e s'') rfl
    exact (dss_cons (ds_if (dt_cmp (od_notInT hr.units) (de_var 1) (de_var 3))
  (dss_cons (ds_set (i := 4) sc__law_number.nd (de_lst da_nil))
  (dss_cons (ds_for po rfl (di_seq (de_var 1)) (dg_name (i := 5) sc__law_number.nd)
  (dss_cons (ds_setLc (i := 6) [("a", 8), ("b", 9)] rfl sc__law_number.nd (di_seq (de_var 0)) (blkOk_by (N := N__law_number) (sc := defScope st__law_number) (by decide +kernel)) (fun _ _ _ _ _ => (dg_tup rfl (dgs_cons (dg_name (i := 8) sc__law_number.nd) (dgs_cons (dg_name (i := 9) sc__law_number.nd) dgs_nil)))) (fun _ _ _ _ _ => (dts_one (dt_pw (dw_and (dt_cmp (od_inS (hu65 hr)) (de_var 5) (de_tup (da_cons (de_var 8) (da_cons (de_var 9) da_nil)))) (dw_and (dt_cmp (od_inS (hu65 hr)) (de_var 8) (de_var 1)) (dw_and1 (dt_cmp (od_inS (hu65 hr)) (de_var 9) (de_var 1)))))))) (fun _ _ _ _ _ => (de_if (dt_cmp (od_eq hr.units) (de_var 9) (de_var 5)) (de_var 8) (de_var 9))) (by decide) (sw_true rfl rfl rfl (by decide +kernel)))
  (dss_cons (ds_set (i := 7) sc__law_number.nd (de_if (dt_not (dt_tru (de_var 2))) (de_lst (da_cons (de_bin od_add (de_lst (da_cons (de_var 5) da_nil)) (de_var 6)) da_nil)) (de_bin od_add (de_lst (da_cons (de_lst (da_cons (de_var 5) da_nil)) da_nil)) (de_lc [("one", 10)] rfl sc__law_number.nd (di_seq (de_var 6)) (blkOk_by (N := N__law_number) (sc := defScope st__law_number) (by decide +kernel)) (fun _ _ _ _ _ => (dg_name (i := 10) sc__law_number.nd)) (fun _ _ _ _ _ => dts_nil) (fun _ _ _ _ _ => (de_lst (da_cons (de_var 5) (da_cons (de_var 10) da_nil)))) (by decide)))))
  (dss_one (ds_set (i := 4) sc__law_number.nd (de_bin od_add (de_var 4) (de_lc [("gone", 11)] rfl sc__law_number.nd (di_seq (de_var 7)) (blkOk_by (N := N__law_number) (sc := defScope st__law_number) (by decide +kernel)) (fun _ _ _ _ _ => (dg_name (i := 11) sc__law_number.nd)) (fun _ _ _ _ _ => dts_nil) (fun _ _ _ _ _ => (de_fn ih__law_number t.m__law_number t.F__law_number.kp t.b__law_number (fun ds S h => (len__law_number k) ds S h) (rxr_ok t.CR) (fun _ => passF) (hr.mono (by omega)) (da_cons (de_var 0) (da_cons (de_callTy cd_tuple bt_tuple (by rfl) t.z_tuple (da_cons (de_lc [("one", 10)] rfl sc__law_number.nd (di_seq (de_var 1)) (blkOk_in (N := N__law_number) (by decide +kernel)) (fun _ _ _ _ _ => (dg_name (i := 10) sc__law_number.nd)) (fun _ _ _ _ _ => (dts_one (dt_cmp (od_notInS (hu65 hr)) (de_var 10) (de_var 11)))) (fun _ _ _ _ _ => (de_var 10)) (by decide)) da_nil)) (da_cons (de_var 2) (da_cons (de_var 3) da_nil)))))) (by decide))))))))
  (dss_one (ds_setT hr.units (de_var 3) (de_var 1) (de_ix (de_lc [("k", 12)] rfl sc__law_number.nd (di_range1 (by rfl) t.z_range (de_bin od_add (de_callB cd_len bt_len (by rfl) t.z_len (da_cons (de_var 4) da_nil)) de_int)) (blkOk_by (N := N__law_number) (sc := defScope st__law_number) (by decide +kernel)) (fun _ _ _ _ _ => (dg_name (i := 12) sc__law_number.nd)) (fun _ _ _ _ _ => (dts_one (dt_cmp (od_notInS (hu65 hr)) (de_var 12) (de_var 4)))) (fun _ _ _ _ _ => (de_var 12)) (by decide)) de_int)))))
  dss_nil)
  (dss_one (ds_ret (de_ixT hr.units (de_var 3) (de_var 1)))))
theorem ok__law_same (t : Tab K mg) : ∀ k : Nat, FnOk P w K mg base (L2N.CX P w) (k + 0) t.a__law_same t.d__law_same ["actual", "expected"] (spD P w K (RXr t.CR) (f__law_same k) 2)
  | 0 => ⟨fun vs H Q E h => h.1, fun A outer s H args us vs Q E hr he hb hv hs => by obtain ⟨_, α, ds, S, _, _, o⟩ := hs; exact o.elim⟩
  | k + 1 => by
    have ih__law_same := ok__law_same t k
    refine FnOk.mono (j := (k + 0) + 1) (fnOk t.F__law_same sc__law_same fun cdv A outer s H E hr => ?_) (by omega)
    have px : ∀ σ, PassesAt (L2N.CX P w) (cxOf (L2N.CX P w) P w K mg base N__law_same "_law_same" (defScope st__law_same) t.a__law_same cdv A outer s H E) σ (fun c d H => W0 E c d σ H) := fun σ => L2N.passAt (L2N.takes_of rfl rfl rfl rfl) σ
    have tk : L2N.Takes (cxOf (L2N.CX P w) P w K mg base N__law_same "_law_same" (defScope st__law_same) t.a__law_same cdv A outer s H E) (W0 E) := L2N.takes_of rfl rfl rfl rfl
    have po := passes_of (X := cxOf (L2N.CX P w) P w K mg base N__law_same "_law_same" (defScope st__law_same) t.a__law_same cdv A outer s H E) (K := fun e s'' => L2N.CX P w outer H s E e s'') rfl
    exact (dss_cons (ds_if (dt_pw (dw_or (dt_tru (de_isi kit_tuple bt_tuple bt_isinstance (by rfl) t.z_isinstance (by rfl) t.z_tuple (de_var 1))) (dw_or1 (dt_tru (de_isi kit_list bt_list bt_isinstance (by rfl) t.z_isinstance (by rfl) t.z_list (de_var 1))))))
  (dss_cons (ds_if (dt_pw (dw_or (dt_cmp (od_ne hr.units) (de_isi kit_tuple bt_tuple bt_isinstance (by rfl) t.z_isinstance (by rfl) t.z_tuple (de_var 0)) (de_isi kit_tuple bt_tuple bt_isinstance (by rfl) t.z_isinstance (by rfl) t.z_tuple (de_var 1))) (dw_or1 (dt_cmp (od_ne hr.units) (de_isi kit_list bt_list bt_isinstance (by rfl) t.z_isinstance (by rfl) t.z_list (de_var 0)) (de_isi kit_list bt_list bt_isinstance (by rfl) t.z_isinstance (by rfl) t.z_list (de_var 1))))))
  (dss_one (ds_ret de_bl))
  dss_nil)
  (dss_cons (ds_if (dt_cmp (od_ne hr.units) (de_callB cd_len bt_len (by rfl) t.z_len (da_cons (de_var 0) da_nil)) (de_callB cd_len bt_len (by rfl) t.z_len (da_cons (de_var 1) da_nil)))
  (dss_one (ds_ret de_bl))
  dss_nil)
  (dss_one (ds_ret (de_cmp (od_eq hr.units) (de_callB cd_len bt_len (by rfl) t.z_len (da_cons (de_lc [("k", 2)] rfl sc__law_same.nd (di_range1 (by rfl) t.z_range (de_callB cd_len bt_len (by rfl) t.z_len (da_cons (de_var 1) da_nil))) (blkOk_by (N := N__law_same) (sc := defScope st__law_same) (by decide +kernel)) (fun _ _ _ _ _ => (dg_name (i := 2) sc__law_same.nd)) (fun _ _ _ _ _ => (dts_one (dt_not (dt_tru (de_fn ih__law_same t.m__law_same t.F__law_same.kp t.b__law_same (fun ds S h => (len__law_same k) ds S h) (rxr_ok t.CR) (fun _ => passF) (hr.mono (by omega)) (da_cons (de_ix (de_var 0) (de_var 2)) (da_cons (de_ix (de_var 1) (de_var 2)) da_nil))))))) (fun _ _ _ _ _ => (de_var 2)) (by decide)) da_nil)) de_int)))))
  dss_nil)
  (dss_cons (ds_if (dt_pw (dw_or (dt_tru (de_isi kit_bool bt_bool bt_isinstance (by rfl) t.z_isinstance (by rfl) t.z_bool (de_var 1))) (dw_or1 (dt_tru (de_isi kit_bool bt_bool bt_isinstance (by rfl) t.z_isinstance (by rfl) t.z_bool (de_var 0))))))
  (dss_one (ds_ret (de_and (de_isi kit_bool bt_bool bt_isinstance (by rfl) t.z_isinstance (by rfl) t.z_bool (de_var 1)) (de_and (de_isi kit_bool bt_bool bt_isinstance (by rfl) t.z_isinstance (by rfl) t.z_bool (de_var 0)) (de_one (de_cmp (od_eq hr.units) (de_var 0) (de_var 1)))))))
  dss_nil)
  (dss_cons (ds_if (dt_pw (dw_or (dt_isN (de_var 1)) (dw_or1 (dt_isN (de_var 0)))))
  (dss_one (ds_ret (de_and (de_isN (de_var 1)) (de_one (de_isN (de_var 0))))))
  dss_nil)
  (dss_cons (ds_if (dt_pw (dw_or (dt_tru (de_isi kit_str bt_str bt_isinstance (by rfl) t.z_isinstance (by rfl) t.z_str (de_var 1))) (dw_or1 (dt_tru (de_isi kit_str bt_str bt_isinstance (by rfl) t.z_isinstance (by rfl) t.z_str (de_var 0))))))
  (dss_one (ds_ret (de_and (de_isi kit_str bt_str bt_isinstance (by rfl) t.z_isinstance (by rfl) t.z_str (de_var 1)) (de_and (de_isi kit_str bt_str bt_isinstance (by rfl) t.z_isinstance (by rfl) t.z_str (de_var 0)) (de_one (de_cmp (od_eq hr.units) (de_var 0) (de_var 1)))))))
  dss_nil)
  (dss_one (ds_ret (de_and (de_isi kit_int bt_int bt_isinstance (by rfl) t.z_isinstance (by rfl) t.z_int (de_var 0)) (de_and (de_isi kit_int bt_int bt_isinstance (by rfl) t.z_isinstance (by rfl) t.z_int (de_var 1)) (de_one (de_cmp (od_eq hr.units) (de_var 0) (de_var 1)))))))))))
theorem ok_is_whole (t : Tab K mg) : FnOk P w K mg base (L2N.CX P w) 1 t.a_is_whole t.d_is_whole ["value"] (spD P w K (RXr t.CR) f_is_whole 1) :=
  fnOk t.F_is_whole sc_is_whole fun cdv A outer s H E hr => by
    have px : ∀ σ, PassesAt (L2N.CX P w) (cxOf (L2N.CX P w) P w K mg base N_is_whole "is_whole" (defScope st_is_whole) t.a_is_whole cdv A outer s H E) σ (fun c d H => W0 E c d σ H) := fun σ => L2N.passAt (L2N.takes_of rfl rfl rfl rfl) σ
    have tk : L2N.Takes (cxOf (L2N.CX P w) P w K mg base N_is_whole "is_whole" (defScope st_is_whole) t.a_is_whole cdv A outer s H E) (W0 E) := L2N.takes_of rfl rfl rfl rfl
    have po := passes_of (X := cxOf (L2N.CX P w) P w K mg base N_is_whole "is_whole" (defScope st_is_whole) t.a_is_whole cdv A outer s H E) (K := fun e s'' => L2N.CX P w outer H s E e s'') rfl
    exact (dss_one (ds_ret (de_and (de_isi kit_int bt_int bt_isinstance (by rfl) t.z_isinstance (by rfl) t.z_int (de_var 0)) (de_one (de_not (de_isi kit_bool bt_bool bt_isinstance (by rfl) t.z_isinstance (by rfl) t.z_bool (de_var 0)))))))
theorem ok_is_code (t : Tab K mg) : FnOk P w K mg base (L2N.CX P w) 2 t.a_is_code t.d_is_code ["value"] (spD P w K (RXr t.CR) f_is_code 1) :=
  fnOk t.F_is_code sc_is_code fun cdv A outer s H E hr => by
    have px : ∀ σ, PassesAt (L2N.CX P w) (cxOf (L2N.CX P w) P w K mg base N_is_code "is_code" (defScope st_is_code) t.a_is_code cdv A outer s H E) σ (fun c d H => W0 E c d σ H) := fun σ => L2N.passAt (L2N.takes_of rfl rfl rfl rfl) σ
    have tk : L2N.Takes (cxOf (L2N.CX P w) P w K mg base N_is_code "is_code" (defScope st_is_code) t.a_is_code cdv A outer s H E) (W0 E) := L2N.takes_of rfl rfl rfl rfl
    have po := passes_of (X := cxOf (L2N.CX P w) P w K mg base N_is_code "is_code" (defScope st_is_code) t.a_is_code cdv A outer s H E) (K := fun e s'' => L2N.CX P w outer H s E e s'') rfl
    exact (dss_cons (ds_if (dt_pw (dw_or (dt_not (dt_tru (de_isi kit_tuple bt_tuple bt_isinstance (by rfl) t.z_isinstance (by rfl) t.z_tuple (de_var 0)))) (dw_or1 (dt_not (dt_chain od_le od_le de_int (de_callB cd_len bt_len (by rfl) t.z_len (da_cons (de_var 0) da_nil)) de_int)))))
  (dss_one (ds_ret de_bl))
  dss_nil)
  (dss_one (ds_ret (de_callB (cd_all rfl) bt_all (by rfl) t.z_all (da_cons (de_lc [("one", 1)] rfl sc_is_code.nd (di_seq (de_var 0)) (blkOk_by (N := N_is_code) (sc := defScope st_is_code) (by decide +kernel)) (fun _ _ _ _ _ => (dg_name (i := 1) sc_is_code.nd)) (fun _ _ _ _ _ => dts_nil) (fun _ _ _ _ _ => (de_and (de_fn (ok_is_whole t) t.m_is_whole t.F_is_whole.kp t.b_is_whole (fun ds S h => len_is_whole ds S h) (rxr_ok t.CR) (fun _ => passF) (hr.mono (by decide)) (da_cons (de_var 1) da_nil)) (de_one (de_chain od_le od_le de_int (de_var 1) de_int)))) (by decide)) da_nil)))))
theorem ok_look_at_code (t : Tab K mg) : FnOk P w K mg base (L2N.CX P w) 3 t.a_look_at_code t.d_look_at_code ["code"] (spD P w K (RXr t.CR) f_look_at_code 1) :=
  fnOk t.F_look_at_code sc_look_at_code fun cdv A outer s H E hr => by
    have px : ∀ σ, PassesAt (L2N.CX P w) (cxOf (L2N.CX P w) P w K mg base N_look_at_code "look_at_code" (defScope st_look_at_code) t.a_look_at_code cdv A outer s H E) σ (fun c d H => W0 E c d σ H) := fun σ => L2N.passAt (L2N.takes_of rfl rfl rfl rfl) σ
    have tk : L2N.Takes (cxOf (L2N.CX P w) P w K mg base N_look_at_code "look_at_code" (defScope st_look_at_code) t.a_look_at_code cdv A outer s H E) (W0 E) := L2N.takes_of rfl rfl rfl rfl
    have po := passes_of (X := cxOf (L2N.CX P w) P w K mg base N_look_at_code "look_at_code" (defScope st_look_at_code) t.a_look_at_code cdv A outer s H E) (K := fun e s'' => L2N.CX P w outer H s E e s'') rfl
    exact (dss_one (ds_if (dt_not (dt_tru (de_fn (ok_is_code t) t.m_is_code t.F_is_code.kp t.b_is_code (fun ds S h => len_is_code ds S h) (rxr_ok t.CR) px (hr.mono (by decide)) (da_cons (de_var 0) da_nil))))
  (dss_one ds_never)
  dss_nil))
theorem ok_least_missing (t : Tab K mg) : FnOk P w K mg base (L2N.CX P w) 1 t.a_least_missing t.d_least_missing ["numbers"] (spD P w K (RXr t.CR) f_least_missing 1) :=
  fnOk t.F_least_missing sc_least_missing fun cdv A outer s H E hr => by
    have px : ∀ σ, PassesAt (L2N.CX P w) (cxOf (L2N.CX P w) P w K mg base N_least_missing "least_missing" (defScope st_least_missing) t.a_least_missing cdv A outer s H E) σ (fun c d H => W0 E c d σ H) := fun σ => L2N.passAt (L2N.takes_of rfl rfl rfl rfl) σ
    have tk : L2N.Takes (cxOf (L2N.CX P w) P w K mg base N_least_missing "least_missing" (defScope st_least_missing) t.a_least_missing cdv A outer s H E) (W0 E) := L2N.takes_of rfl rfl rfl rfl
    have po := passes_of (X := cxOf (L2N.CX P w) P w K mg base N_least_missing "least_missing" (defScope st_least_missing) t.a_least_missing cdv A outer s H E) (K := fun e s'' => L2N.CX P w outer H s E e s'') rfl
    exact (dss_cons (ds_setDc run_K (i := 1) [("one", 3)] hr.units rfl sc_least_missing.nd (di_seq (de_var 0)) (blkOk_by (N := N_least_missing) (sc := defScope st_least_missing) (by decide +kernel)) (fun _ _ _ _ _ => (dg_name (i := 3) sc_least_missing.nd)) (fun _ _ _ _ _ => dts_nil) (fun _ _ _ _ _ => (de_var 3)) (fun _ _ _ _ _ => de_bl) (by decide) (sw_trueD rfl rfl rfl (by decide +kernel)))
  (dss_cons (ds_set (i := 2) sc_least_missing.nd de_int)
  (dss_cons (ds_while 100000 po (dt_cmp (od_inK hr.units) (de_var 2) (de_var 1))
  (dss_one (ds_aug (i := 2) sc_least_missing.nd id_add de_int)))
  (dss_one (ds_ret (de_var 2))))))
theorem ok_nim_sum (t : Tab K mg) : FnOk P w K mg base (L2N.CX P w) 1 t.a_nim_sum t.d_nim_sum ["first", "other"] (spD P w K (RXr t.CR) f_nim_sum 2) :=
  fnOk t.F_nim_sum sc_nim_sum fun cdv A outer s H E hr => by
    have px : ∀ σ, PassesAt (L2N.CX P w) (cxOf (L2N.CX P w) P w K mg base N_nim_sum "nim_sum" (defScope st_nim_sum) t.a_nim_sum cdv A outer s H E) σ (fun c d H => W0 E c d σ H) := fun σ => L2N.passAt (L2N.takes_of rfl rfl rfl rfl) σ
    have tk : L2N.Takes (cxOf (L2N.CX P w) P w K mg base N_nim_sum "nim_sum" (defScope st_nim_sum) t.a_nim_sum cdv A outer s H E) (W0 E) := L2N.takes_of rfl rfl rfl rfl
    have po := passes_of (X := cxOf (L2N.CX P w) P w K mg base N_nim_sum "nim_sum" (defScope st_nim_sum) t.a_nim_sum cdv A outer s H E) (K := fun e s'' => L2N.CX P w outer H s E e s'') rfl
    exact (dss_one (ds_ret (de_bin od_xor (de_var 0) (de_var 1))))
theorem ok_next_number (t : Tab K mg) : FnOk P w K mg base (L2N.CX P w) 2 t.a_next_number t.d_next_number ["code", "found", "size"] (spD P w K (RXr t.CR) f_next_number 3) :=
  fnOk t.F_next_number sc_next_number fun cdv A outer s H E hr => by
    have px : ∀ σ, PassesAt (L2N.CX P w) (cxOf (L2N.CX P w) P w K mg base N_next_number "next_number" (defScope st_next_number) t.a_next_number cdv A outer s H E) σ (fun c d H => W0 E c d σ H) := fun σ => L2N.passAt (L2N.takes_of rfl rfl rfl rfl) σ
    have tk : L2N.Takes (cxOf (L2N.CX P w) P w K mg base N_next_number "next_number" (defScope st_next_number) t.a_next_number cdv A outer s H E) (W0 E) := L2N.takes_of rfl rfl rfl rfl
    have po := passes_of (X := cxOf (L2N.CX P w) P w K mg base N_next_number "next_number" (defScope st_next_number) t.a_next_number cdv A outer s H E) (K := fun e s'' => L2N.CX P w outer H s E e s'') rfl
    exact (dss_cons (ds_set (i := 3) sc_next_number.nd (de_lstC da_nil))
  (dss_cons (ds_for po rfl (di_enum (by rfl) t.z_enumerate (de_var 0)) (dg_tup rfl (dgs_cons (dg_name (i := 4) sc_next_number.nd) (dgs_cons (dg_name (i := 5) sc_next_number.nd) dgs_nil)))
  (dss_cons (ds_set (i := 6) sc_next_number.nd (de_bin od_sub (de_bin od_sub (de_var 2) (de_var 4)) de_int))
  (dss_cons (ds_if (dt_pw (dw_and (dt_tru (de_bin od_and (de_var 5) de_int)) (dw_and1 (dt_cmp (od_eq hr.units) (de_var 6) de_int))))
  (dss_one (ds_expr (de_mtL PySem.F.slot_list_append PySem.F.type_list_append md_append (de_var 3) (da_cons de_int da_nil))))
  dss_nil)
  (dss_cons (ds_if (dt_pw (dw_and (dt_tru (de_bin od_and (de_var 5) de_int)) (dw_and1 (dt_cmp od_gt (de_var 6) de_int))))
  (dss_one (ds_expr (de_mtL PySem.F.slot_list_append PySem.F.type_list_append md_append (de_var 3) (da_cons (de_ix (de_var 1) (de_var 6)) da_nil))))
  dss_nil)
  (dss_one (ds_if (dt_tru (de_bin od_and (de_var 5) de_int))
  (dss_one (ds_expr (de_mtL PySem.F.slot_list_extend PySem.F.type_list_extend md_extend (de_var 3) (da_cons (de_lc [("one", 7)] rfl sc_next_number.nd (di_range2 (by rfl) t.z_range de_int (de_bin od_add (de_bin od_div (de_var 6) de_int) de_int)) (blkOk_by (N := N_next_number) (sc := defScope st_next_number) (by decide +kernel)) (fun _ _ _ _ _ => (dg_name (i := 7) sc_next_number.nd)) (fun _ _ _ _ _ => dts_nil) (fun _ _ _ _ _ => (de_fn (ok_nim_sum t) t.m_nim_sum t.F_nim_sum.kp t.b_nim_sum (fun ds S h => len_nim_sum ds S h) (rxr_ok t.CR) (fun _ => passF) (hr.mono (by decide)) (da_cons (de_ix (de_var 1) (de_var 7)) (da_cons (de_ix (de_var 1) (de_bin od_sub (de_var 6) (de_var 7))) da_nil)))) (by decide)) da_nil))))
  dss_nil))))))
  (dss_one (ds_frz 3 (ds_ret (de_fn (ok_least_missing t) t.m_least_missing t.F_least_missing.kp t.b_least_missing (fun ds S h => len_least_missing ds S h) (rxr_ok t.CR) px (hr.mono (by decide)) (da_cons (de_var 3) da_nil)))))))
theorem ok_heap_numbers (t : Tab K mg) : FnOk P w K mg base (L2N.CX P w) 4 t.a_heap_numbers t.d_heap_numbers ["code", "count"] (spD P w K (RXr t.CR) f_heap_numbers 2) :=
  fnOk t.F_heap_numbers sc_heap_numbers fun cdv A outer s H E hr => by
    have px : ∀ σ, PassesAt (L2N.CX P w) (cxOf (L2N.CX P w) P w K mg base N_heap_numbers "heap_numbers" (defScope st_heap_numbers) t.a_heap_numbers cdv A outer s H E) σ (fun c d H => W0 E c d σ H) := fun σ => L2N.passAt (L2N.takes_of rfl rfl rfl rfl) σ
    have tk : L2N.Takes (cxOf (L2N.CX P w) P w K mg base N_heap_numbers "heap_numbers" (defScope st_heap_numbers) t.a_heap_numbers cdv A outer s H E) (W0 E) := L2N.takes_of rfl rfl rfl rfl
    have po := passes_of (X := cxOf (L2N.CX P w) P w K mg base N_heap_numbers "heap_numbers" (defScope st_heap_numbers) t.a_heap_numbers cdv A outer s H E) (K := fun e s'' => L2N.CX P w outer H s E e s'') rfl
    exact (dss_cons (ds_expr (de_fn (ok_look_at_code t) t.m_look_at_code t.F_look_at_code.kp t.b_look_at_code (fun ds S h => len_look_at_code ds S h) (rxr_ok t.CR) px (hr.mono (by decide)) (da_cons (de_var 0) da_nil)))
  (dss_cons (ds_if (dt_cmp od_gt (de_var 1) (de_glob (v := .int (3000)) (d := .int (3000)) (by rfl) t.g_MOST_HEAPS.choose_spec.1 t.g_MOST_HEAPS.choose_spec.2 fun _ _ => .int _))
  (dss_one (ds_raiseR rfl tk t.T t.hno t.iC t.tI (init_ok t.FI sc__init rfl (fun _ _ _ _ _ _ => by rfl) (Or.inl rfl) (Or.inl rfl) t.m_base t.rG t.gG t.vG (by decide) (fun _ _ _ _ _ _ => ⟨_, by rfl⟩)) (hr.mono (by decide)) t.bI (L2N.passes_call tk fun _ _ _ _ h => h.elim) (by rfl) t.m_Refused de_str (rxr_mk t.CR)))
  dss_nil)
  (dss_cons (ds_set (i := 2) sc_heap_numbers.nd (de_lstC da_nil))
  (dss_cons (ds_for po rfl (di_range1 (by rfl) t.z_range (de_var 1)) (dg_name (i := 3) sc_heap_numbers.nd)
  (dss_one (ds_expr (de_mtL PySem.F.slot_list_append PySem.F.type_list_append md_append (de_var 2) (da_cons (de_fn (ok_next_number t) t.m_next_number t.F_next_number.kp t.b_next_number (fun ds S h => len_next_number ds S h) (rxr_ok t.CR) px (hr.mono (by decide)) (da_cons (de_var 0) (da_cons (de_var 2) (da_cons (de_var 3) da_nil)))) da_nil)))))
  (dss_one (ds_ret (de_callTy cd_tuple bt_tuple (by rfl) t.z_tuple (da_cons (de_var 2) da_nil))))))))
theorem ok_parts_left (t : Tab K mg) : FnOk P w K mg base (L2N.CX P w) 1 t.a_parts_left t.d_parts_left ["near", "left"] (spD P w K (RXr t.CR) f_parts_left 2) :=
  fnOk t.F_parts_left sc_parts_left fun cdv A outer s H E hr => by
    have px : ∀ σ, PassesAt (L2N.CX P w) (cxOf (L2N.CX P w) P w K mg base N_parts_left "parts_left" (defScope st_parts_left) t.a_parts_left cdv A outer s H E) σ (fun c d H => W0 E c d σ H) := fun σ => L2N.passAt (L2N.takes_of rfl rfl rfl rfl) σ
    have tk : L2N.Takes (cxOf (L2N.CX P w) P w K mg base N_parts_left "parts_left" (defScope st_parts_left) t.a_parts_left cdv A outer s H E) (W0 E) := L2N.takes_of rfl rfl rfl rfl
    have po := passes_of (X := cxOf (L2N.CX P w) P w K mg base N_parts_left "parts_left" (defScope st_parts_left) t.a_parts_left cdv A outer s H E) (K := fun e s'' => L2N.CX P w outer H s E e s'') rfl
    exact (dss_cons (ds_set (i := 2) sc_parts_left.nd (de_lstC da_nil))
  (dss_cons (ds_set (i := 3) sc_parts_left.nd de_newK)
  (dss_cons (ds_for po rfl (di_seq (de_var 1)) (dg_name (i := 4) sc_parts_left.nd)
  (dss_one (ds_if (dt_cmp (od_notInK hr.units) (de_var 4) (de_var 3))
  (dss_cons (ds_set (i := 5) sc_parts_left.nd (de_disp1 (de_var 4) de_bl))
  (dss_cons (ds_set (i := 6) sc_parts_left.nd (de_lstC (da_cons (de_var 4) da_nil)))
  (dss_cons (ds_while 100000 po (dt_cmp od_gt (de_callB cd_len bt_len (by rfl) t.z_len (da_cons (de_var 6) da_nil)) de_int)
  (dss_one (ds_for po rfl (di_seq (de_ix (de_var 0) (de_mtL0 PySem.F.slot_list_pop PySem.F.type_list_pop md_pop (de_var 6) ))) (dg_name (i := 7) sc_parts_left.nd)
  (dss_one (ds_if (dt_pw (dw_and (dt_cmp (od_inS (hu65 hr)) (de_var 7) (de_var 1)) (dw_and1 (dt_cmp (od_notInK hr.units) (de_var 7) (de_var 5)))))
  (dss_cons (ds_setK hr.units (de_var 5) (de_var 7) de_bl)
  (dss_one (ds_expr (de_mtL PySem.F.slot_list_append PySem.F.type_list_append md_append (de_var 6) (da_cons (de_var 7) da_nil)))))
  dss_nil)))))
  (dss_cons (ds_expr (de_updK (de_var 3) (de_var 5) ⟨by rfl, by rfl, by rfl, by rfl⟩))
  (dss_one (ds_expr (de_mtL PySem.F.slot_list_append PySem.F.type_list_append md_append (de_var 2) (da_cons (de_callTy cd_tuple bt_tuple (by rfl) t.z_tuple (da_cons (de_callB (cd_sortedK rfl) bt_sorted (by rfl) t.z_sorted (da_cons (de_var 5) da_nil)) da_nil)) da_nil))))))))
  dss_nil)))
  (dss_one (ds_frz 2 (ds_ret (de_var 2)))))))
theorem ok_web_left (t : Tab K mg) : ∀ k : Nat, FnOk P w K mg base (L2N.CX P w) (k + 1) t.a_web_left t.d_web_left ["near", "left", "whole", "known"] (spD P w K (RXr t.CR) (f_web_left k) 4)
  | 0 => ⟨fun vs H Q E h => h.1, fun A outer s H args us vs Q E hr he hb hv hs => by obtain ⟨_, α, ds, S, _, _, o⟩ := hs; exact o.elim⟩
  | k + 1 => by
    have ih_web_left := ok_web_left t k
    refine FnOk.mono (j := (k + 1) + 1) (fnOk t.F_web_left sc_web_left fun cdv A outer s H E hr => ?_) (by omega)
    have px : ∀ σ, PassesAt (L2N.CX P w) (cxOf (L2N.CX P w) P w K mg base N_web_left "web_left" (defScope st_web_left) t.a_web_left cdv A outer s H E) σ (fun c d H => W0 E c d σ H) := fun σ => L2N.passAt (L2N.takes_of rfl rfl rfl rfl) σ
    have tk : L2N.Takes (cxOf (L2N.CX P w) P w K mg base N_web_left "web_left" (defScope st_web_left) t.a_web_left cdv A outer s H E) (W0 E) := L2N.takes_of rfl rfl rfl rfl
    have po := passes_of (X := cxOf (L2N.CX P w) P w K mg base N_web_left "web_left" (defScope st_web_left) t.a_web_left cdv A outer s H E) (K := fun e s'' => L2N.CX P w outer H s E e s'') rfl
    exact (dss_cons (ds_set (i := 4) sc_web_left.nd (de_fn (ok_parts_left t) t.m_parts_left t.F_parts_left.kp t.b_parts_left (fun ds S h => len_parts_left ds S h) (rxr_ok t.CR) px (hr.mono (by omega)) (da_cons (de_var 0) (da_cons (de_var 1) da_nil))))
  (dss_cons (ds_if (dt_cmp (od_ne hr.units) (de_callB cd_len bt_len (by rfl) t.z_len (da_cons (de_var 4) da_nil)) de_int)
  (dss_cons (ds_set (i := 5) sc_web_left.nd de_int)
  (dss_cons (ds_for po rfl (di_seq (de_var 4)) (dg_name (i := 6) sc_web_left.nd)
  (dss_one (ds_set (i := 5) sc_web_left.nd (de_fn (ok_nim_sum t) t.m_nim_sum t.F_nim_sum.kp t.b_nim_sum (fun ds S h => len_nim_sum ds S h) (rxr_ok t.CR) px (hr.mono (by omega)) (da_cons (de_var 5) (da_cons (de_fn ih_web_left t.m_web_left t.F_web_left.kp t.b_web_left (fun ds S h => (len_web_left k) ds S h) (rxr_ok t.CR) px (hr.mono (by omega)) (da_cons (de_var 0) (da_cons (de_var 6) (da_cons (de_var 2) (da_cons (de_var 3) da_nil))))) da_nil))))))
  (dss_one (ds_ret (de_var 5)))))
  dss_nil)
  (dss_cons (ds_if (dt_cmp (od_notInT hr.units) (de_var 1) (de_var 3))
  (dss_cons (ds_set (i := 7) sc_web_left.nd (de_lstC da_nil))
  (dss_cons (ds_for po rfl (di_seq (de_var 1)) (dg_name (i := 8) sc_web_left.nd)
  (dss_cons (ds_setLc (i := 9) [("one", 12)] rfl sc_web_left.nd (di_seq (de_ix (de_var 0) (de_var 8))) (blkOk_by (N := N_web_left) (sc := defScope st_web_left) (by decide +kernel)) (fun _ _ _ _ _ => (dg_name (i := 12) sc_web_left.nd)) (fun _ _ _ _ _ => (dts_one (dt_cmp (od_inS (hu65 hr)) (de_var 12) (de_var 1)))) (fun _ _ _ _ _ => (de_var 12)) (by decide) (sw_true rfl rfl rfl (by decide +kernel)))
  (dss_cons (ds_set (i := 10) sc_web_left.nd (de_if (dt_not (dt_tru (de_var 2))) (de_lst (da_cons (de_bin od_add (de_lst (da_cons (de_var 8) da_nil)) (de_var 9)) da_nil)) (de_bin od_add (de_lst (da_cons (de_lst (da_cons (de_var 8) da_nil)) da_nil)) (de_lc [("one", 12)] rfl sc_web_left.nd (di_seq (de_var 9)) (blkOk_by (N := N_web_left) (sc := defScope st_web_left) (by decide +kernel)) (fun _ _ _ _ _ => (dg_name (i := 12) sc_web_left.nd)) (fun _ _ _ _ _ => dts_nil) (fun _ _ _ _ _ => (de_lst (da_cons (de_var 8) (da_cons (de_var 12) da_nil)))) (by decide)))))
  (dss_one (ds_for po rfl (di_seq (de_var 10)) (dg_name (i := 11) sc_web_left.nd)
  (dss_one (ds_expr (de_mtL PySem.F.slot_list_append PySem.F.type_list_append md_append (de_var 7) (da_cons (de_fn ih_web_left t.m_web_left t.F_web_left.kp t.b_web_left (fun ds S h => (len_web_left k) ds S h) (rxr_ok t.CR) px (hr.mono (by omega)) (da_cons (de_var 0) (da_cons (de_callTy cd_tuple bt_tuple (by rfl) t.z_tuple (da_cons (de_lc [("one", 12)] rfl sc_web_left.nd (di_seq (de_var 1)) (blkOk_by (N := N_web_left) (sc := defScope st_web_left) (by decide +kernel)) (fun _ _ _ _ _ => (dg_name (i := 12) sc_web_left.nd)) (fun _ _ _ _ _ => (dts_one (dt_cmp (od_notInS (hu65 hr)) (de_var 12) (de_var 11)))) (fun _ _ _ _ _ => (de_var 12)) (by decide)) da_nil)) (da_cons (de_var 2) (da_cons (de_var 3) da_nil))))) da_nil)))))))))
  (dss_one (ds_frz 7 (ds_setT hr.units (de_var 3) (de_var 1) (de_fn (ok_least_missing t) t.m_least_missing t.F_least_missing.kp t.b_least_missing (fun ds S h => len_least_missing ds S h) (rxr_ok t.CR) px (hr.mono (by omega)) (da_cons (de_var 7) da_nil)))))))
  dss_nil)
  (dss_one (ds_ret (de_ixT hr.units (de_var 3) (de_var 1)))))))
theorem ok_web_number (t : Tab K mg) : FnOk P w K mg base (L2N.CX P w) 26 t.a_web_number t.d_web_number ["count", "ties", "whole"] (spD P w K (RXr t.CR) f_web_number 3) :=
  fnOk t.F_web_number sc_web_number fun cdv A outer s H E hr => by
    have px : ∀ σ, PassesAt (L2N.CX P w) (cxOf (L2N.CX P w) P w K mg base N_web_number "web_number" (defScope st_web_number) t.a_web_number cdv A outer s H E) σ (fun c d H => W0 E c d σ H) := fun σ => L2N.passAt (L2N.takes_of rfl rfl rfl rfl) σ
    have tk : L2N.Takes (cxOf (L2N.CX P w) P w K mg base N_web_number "web_number" (defScope st_web_number) t.a_web_number cdv A outer s H E) (W0 E) := L2N.takes_of rfl rfl rfl rfl
    have po := passes_of (X := cxOf (L2N.CX P w) P w K mg base N_web_number "web_number" (defScope st_web_number) t.a_web_number cdv A outer s H E) (K := fun e s'' => L2N.CX P w outer H s E e s'') rfl
    exact (dss_cons (ds_if (dt_cmp od_gt (de_var 0) (de_glob (v := .int (14)) (d := .int (14)) (by rfl) t.g_MOST_THINGS.choose_spec.1 t.g_MOST_THINGS.choose_spec.2 fun _ _ => .int _))
  (dss_one (ds_raiseR rfl tk t.T t.hno t.iC t.tI (init_ok t.FI sc__init rfl (fun _ _ _ _ _ _ => by rfl) (Or.inl rfl) (Or.inl rfl) t.m_base t.rG t.gG t.vG (by decide) (fun _ _ _ _ _ _ => ⟨_, by rfl⟩)) (hr.mono (by decide)) t.bI (L2N.passes_call tk fun _ _ _ _ h => h.elim) (by rfl) t.m_Refused de_str (rxr_mk t.CR)))
  dss_nil)
  (dss_cons (ds_setLc (i := 3) [("k", 4)] rfl sc_web_number.nd (di_range1 (by rfl) t.z_range (de_var 0)) (blkOk_by (N := N_web_number) (sc := defScope st_web_number) (by decide +kernel)) (fun _ _ _ _ _ => (dg_name (i := 4) sc_web_number.nd)) (fun _ _ _ _ _ => dts_nil) (fun _ _ _ _ _ => (de_lc [("a", 5), ("b", 6)] rfl sc_web_number.nd (di_seq (de_var 1)) (blkOk_in (N := N_web_number) (by decide +kernel)) (fun _ _ _ _ _ => (dg_tup rfl (dgs_cons (dg_name (i := 5) sc_web_number.nd) (dgs_cons (dg_name (i := 6) sc_web_number.nd) dgs_nil)))) (fun _ _ _ _ _ => (dts_one (dt_cmp (od_inS (hu65 hr)) (de_var 4) (de_tup (da_cons (de_var 5) (da_cons (de_var 6) da_nil)))))) (fun _ _ _ _ _ => (de_if (dt_cmp (od_eq hr.units) (de_var 5) (de_var 4)) (de_var 6) (de_var 5))) (by decide))) (by decide) (sw_true rfl rfl rfl (by decide +kernel)))
  (dss_one (ds_ret (de_fn (ok_web_left t 24) t.m_web_left t.F_web_left.kp t.b_web_left (fun ds S h => (len_web_left 24) ds S h) (rxr_ok t.CR) px (hr.mono (by decide)) (da_cons (de_var 3) (da_cons (de_tr1 rfl (by rfl) t.z_tuple (by rfl) t.z_range (de_var 0)) (da_cons (de_var 2) (da_cons de_newT da_nil)))))))))
theorem hot_same (t : Tab K mg) : L2H.FnH P w K mg base (L2N.CX P w) 1 t.a__law_same t.d__law_same ["actual", "expected"] (spD P w K (RXr t.CR) f_hot_same 2) :=
  fnOkH t.F__law_same sc__law_same fun cdv A outer s H E p hot hr => by
    exact (dss_cons (ds_if (dt_pw (dw_or (dt_tru (de_isi kit_tuple bt_tuple bt_isinstance (by rfl) t.z_isinstance (by rfl) t.z_tuple (de_var 1))) (dw_or1 (dt_tru (de_isi kit_list bt_list bt_isinstance (by rfl) t.z_isinstance (by rfl) t.z_list (de_var 1)))))) dss_stuck dss_nil)
  (dss_cons (ds_if (dt_pw (dw_or (dt_tru (de_isi kit_bool bt_bool bt_isinstance (by rfl) t.z_isinstance (by rfl) t.z_bool (de_var 1))) (dw_or1 (dt_tru (de_isi kit_bool bt_bool bt_isinstance (by rfl) t.z_isinstance (by rfl) t.z_bool (de_var 0))))))
  (dss_one (ds_ret (de_and (de_isi kit_bool bt_bool bt_isinstance (by rfl) t.z_isinstance (by rfl) t.z_bool (de_var 1)) (de_and (de_isi kit_bool bt_bool bt_isinstance (by rfl) t.z_isinstance (by rfl) t.z_bool (de_var 0)) (de_one (de_cmp (od_eq hr.units) (de_var 0) (de_var 1)))))))
  dss_nil)
  (dss_cons (ds_if (dt_pw (dw_or (dt_isN (de_var 1)) (dw_or1 (dt_isN (de_var 0)))))
  (dss_one (ds_ret (de_and (de_isN (de_var 1)) (de_one (de_isN (de_var 0))))))
  dss_nil)
  (dss_cons (ds_if (dt_pw (dw_or (dt_tru (de_isi kit_str bt_str bt_isinstance (by rfl) t.z_isinstance (by rfl) t.z_str (de_var 1))) (dw_or1 (dt_tru (de_isi kit_str bt_str bt_isinstance (by rfl) t.z_isinstance (by rfl) t.z_str (de_var 0))))))
  (dss_one (ds_ret (de_and (de_isi kit_str bt_str bt_isinstance (by rfl) t.z_isinstance (by rfl) t.z_str (de_var 1)) (de_and (de_isi kit_str bt_str bt_isinstance (by rfl) t.z_isinstance (by rfl) t.z_str (de_var 0)) (de_one (de_cmp (od_eq hr.units) (de_var 0) (de_var 1)))))))
  dss_nil)
  (dss_one (ds_ret (de_and (de_isi kit_int bt_int bt_isinstance (by rfl) t.z_isinstance (by rfl) t.z_int (de_var 0)) (de_and (de_isi kit_int bt_int bt_isinstance (by rfl) t.z_isinstance (by rfl) t.z_int (de_var 1)) (de_one (de_cmp (od_eq hr.units) (de_var 0) (de_var 1)))))))))))
theorem ok_law (t : Tab K mg) : FnOk P w K mg base (L2N.CX P w) 27 t.a_law t.d_law ["script"] (spD P w K (RXr t.CR) f_law 1) :=
  fnOk t.F_law sc_law fun cdv A outer s H E hr => by
    have px : ∀ σ, PassesAt (L2N.CX P w) (cxOf (L2N.CX P w) P w K mg base N_law "law" (defScope st_law) t.a_law cdv A outer s H E) σ (fun c d H => W0 E c d σ H) := fun σ => L2N.passAt (L2N.takes_of rfl rfl rfl rfl) σ
    have tk : L2N.Takes (cxOf (L2N.CX P w) P w K mg base N_law "law" (defScope st_law) t.a_law cdv A outer s H E) (W0 E) := L2N.takes_of rfl rfl rfl rfl
    have po := passes_of (X := cxOf (L2N.CX P w) P w K mg base N_law "law" (defScope st_law) t.a_law cdv A outer s H E) (K := fun e s'' => L2N.CX P w outer H s E e s'') rfl
    exact (dss_cons (ds_set (i := 1) sc_law.nd (de_fn (ok__law_draws t) t.m__law_draws t.F__law_draws.kp t.b__law_draws (fun ds S h => len__law_draws ds S h) (rxr_ok t.CR) px (hr.mono (by decide)) (da_cons (de_var 0) da_nil)))
  (dss_cons (ds_set (i := 2) sc_law.nd (de_fn (ok__law_draw t) t.m__law_draw t.F__law_draw.kp t.b__law_draw (fun ds S h => len__law_draw ds S h) (rxr_ok t.CR) px (hr.mono (by decide)) (da_cons (de_var 1) (da_cons de_int da_nil))))
  (dss_cons (ds_set (i := 3) sc_law.nd (de_bin od_add de_int (de_fn (ok__law_draw t) t.m__law_draw t.F__law_draw.kp t.b__law_draw (fun ds S h => len__law_draw ds S h) (rxr_ok t.CR) px (hr.mono (by decide)) (da_cons (de_var 1) (da_cons de_int da_nil)))))
  (dss_cons (ds_set (i := 4) sc_law.nd (de_lst da_nil))
  (dss_cons (ds_for po rfl (di_range1 (by rfl) t.z_range (de_var 2)) (dg_name (i := 5) sc_law.nd)
  (dss_one (ds_set (i := 4) sc_law.nd (de_bin od_add (de_var 4) (de_lc [("b", 10)] rfl sc_law.nd (di_range2 (by rfl) t.z_range (de_bin od_add (de_var 5) de_int) (de_var 2)) (blkOk_by (N := N_law) (sc := defScope st_law) (by decide +kernel)) (fun _ _ _ _ _ => (dg_name (i := 10) sc_law.nd)) (fun _ _ _ _ _ => (dts_one (dt_cmp (od_eq hr.units) (de_fn (ok__law_draw t) t.m__law_draw t.F__law_draw.kp t.b__law_draw (fun ds S h => len__law_draw ds S h) (rxr_ok t.CR) (fun _ => passF) (hr.mono (by decide)) (da_cons (de_var 1) (da_cons (de_var 3) da_nil))) de_int))) (fun _ _ _ _ _ => (de_tup (da_cons (de_var 5) (da_cons (de_var 10) da_nil)))) (by decide))))))
  (dss_cons (ds_for po rfl (di_seq (de_tup (da_cons de_bl (da_cons de_bl da_nil)))) (dg_name (i := 6) sc_law.nd)
  (dss_one (ds_if (dt_not (dt_tru (de_fn (ok__law_same t 12) t.m__law_same t.F__law_same.kp t.b__law_same (fun ds S h => (len__law_same 12) ds S h) (rxr_ok t.CR) px (hr.mono (by decide)) (da_cons (de_fn (ok_web_number t) t.m_web_number t.F_web_number.kp t.b_web_number (fun ds S h => len_web_number ds S h) (rxr_ok t.CR) px (hr.mono (by decide)) (da_cons (de_var 2) (da_cons (de_callTy cd_tuple bt_tuple (by rfl) t.z_tuple (da_cons (de_var 4) da_nil)) (da_cons (de_var 6) da_nil)))) (da_cons (de_fn (ok__law_number t 12) t.m__law_number t.F__law_number.kp t.b__law_number (fun ds S h => (len__law_number 12) ds S h) (rxr_ok t.CR) px (hr.mono (by decide)) (da_cons (de_callTy cd_tuple bt_tuple (by rfl) t.z_tuple (da_cons (de_var 4) da_nil)) (da_cons (de_tr1 rfl (by rfl) t.z_tuple (by rfl) t.z_range (de_var 2)) (da_cons (de_var 6) (da_cons de_newT da_nil))))) da_nil)))))
  (dss_one (ds_ret de_bl))
  dss_nil)))
  (dss_cons (ds_set (i := 7) sc_law.nd (de_bin od_add de_int (de_fn (ok__law_draw t) t.m__law_draw t.F__law_draw.kp t.b__law_draw (fun ds S h => len__law_draw ds S h) (rxr_ok t.CR) px (hr.mono (by decide)) (da_cons (de_var 1) (da_cons de_int da_nil)))))
  (dss_cons (ds_set (i := 8) sc_law.nd (de_callTy cd_tuple bt_tuple (by rfl) t.z_tuple (da_cons (de_lc [("k", 11)] rfl sc_law.nd (di_range1 (by rfl) t.z_range (de_bin od_sub (de_var 7) de_int)) (blkOk_by (N := N_law) (sc := defScope st_law) (by decide +kernel)) (fun _ _ _ _ _ => (dg_name (i := 11) sc_law.nd)) (fun _ _ _ _ _ => dts_nil) (fun _ _ _ _ _ => (de_tup (da_cons (de_var 11) (da_cons (de_bin od_add (de_var 11) de_int) da_nil)))) (by decide)) da_nil)))
  (dss_cons (ds_if (dt_cmp (od_ne hr.units) (de_fn (ok_web_number t) t.m_web_number t.F_web_number.kp t.b_web_number (fun ds S h => len_web_number ds S h) (rxr_ok t.CR) px (hr.mono (by decide)) (da_cons (de_var 7) (da_cons (de_var 8) (da_cons de_bl da_nil)))) (de_ix (de_fn (ok_heap_numbers t) t.m_heap_numbers t.F_heap_numbers.kp t.b_heap_numbers (fun ds S h => len_heap_numbers ds S h) (rxr_ok t.CR) px (hr.mono (by decide)) (da_cons (de_tup (da_cons de_int (da_cons de_int da_nil))) (da_cons (de_bin od_add (de_var 7) de_int) da_nil))) (de_var 7)))
  (dss_one (ds_ret de_bl))
  dss_nil)
  (dss_cons (ds_if (dt_cmp (od_ne hr.units) (de_fn (ok_web_number t) t.m_web_number t.F_web_number.kp t.b_web_number (fun ds S h => len_web_number ds S h) (rxr_ok t.CR) px (hr.mono (by decide)) (da_cons (de_var 7) (da_cons (de_var 8) (da_cons de_bl da_nil)))) (de_ix (de_fn (ok_heap_numbers t) t.m_heap_numbers t.F_heap_numbers.kp t.b_heap_numbers (fun ds S h => len_heap_numbers ds S h) (rxr_ok t.CR) px (hr.mono (by decide)) (da_cons (de_tup (da_cons de_int (da_cons de_int (da_cons de_int da_nil)))) (da_cons (de_bin od_add (de_var 7) de_int) da_nil))) (de_var 7)))
  (dss_one (ds_ret de_bl))
  dss_nil)
  (dss_one (ds_tryR (i := 9) rfl rfl sc_law.nd rfl (by rfl) ⟨by rfl, by decide, .inl t.m_Refused⟩ tk t.ex (show 9 < 12 by decide) (fun W1 pn1 xe1 tk po => by
    have px : ∀ σ, PassesAt (L2N.CX P w) _ σ (fun c d H => W1 c d σ H) := fun σ => L2N.passAt tk σ
    exact (dss_one (ds_ret (de_cmp (od_eq hr.units) (de_fn (ok_web_number t) t.m_web_number t.F_web_number.kp t.b_web_number (fun ds S h => len_web_number ds S h) (rxr_ok t.CR) px (hr.mono (by decide)) (da_cons de_int (da_cons (de_tup da_nil) (da_cons de_bl da_nil)))) de_str)))) (fun a oe cls d pn hz hf => hh_ret (i := 9) hz hf t.xf t.hno (hot_same t) (hr.mono (by decide)) (by rfl) t.m__law_same t.F__law_same.kp t.b__law_same (by rfl) (by first | exact Or.inl rfl | exact Or.inr (Or.inl rfl)) (by decide) (by decide) (by decide) (by rfl) (by rfl) (by rfl) (by rfl))))))))))))))
end
theorem all_mk {l : PySem.W.OpenLaw} {w : World} {K : PySem.W.Frag} {h : Heap} {mg : Str → Option Value} {fa : Addr} (X : K.In h) (G : h.Ns mainGlobals mg) (hfa : mg "law" = some (.ref fa))
    {od0 an0 : Option Addr} {sl0 : Array (Option Value)} {oc0 kV0 dc0 pm0 cd0 ct0 : Value} {f0 : Addr}
    {od1 an1 : Option Addr} {sl1 : Array (Option Value)} {oc1 kV1 dc1 pm1 cd1 ct1 : Value} {f1 : Addr}
    {od2 an2 : Option Addr} {sl2 : Array (Option Value)} {oc2 kV2 dc2 pm2 cd2 ct2 : Value} {f2 : Addr}
    {od3 an3 : Option Addr} {sl3 : Array (Option Value)} {oc3 kV3 dc3 pm3 cd3 ct3 : Value} {f3 : Addr}
    {od4 an4 : Option Addr} {sl4 : Array (Option Value)} {oc4 kV4 dc4 pm4 cd4 ct4 : Value} {f4 : Addr}
    {od5 an5 : Option Addr} {sl5 : Array (Option Value)} {oc5 kV5 dc5 pm5 cd5 ct5 : Value} {f5 : Addr}
    {od6 an6 : Option Addr} {sl6 : Array (Option Value)} {oc6 kV6 dc6 pm6 cd6 ct6 : Value} {f6 : Addr}
    {od7 an7 : Option Addr} {sl7 : Array (Option Value)} {oc7 kV7 dc7 pm7 cd7 ct7 : Value} {f7 : Addr}
    {od8 an8 : Option Addr} {sl8 : Array (Option Value)} {oc8 kV8 dc8 pm8 cd8 ct8 : Value} {f8 : Addr}
    {od9 an9 : Option Addr} {sl9 : Array (Option Value)} {oc9 kV9 dc9 pm9 cd9 ct9 : Value} {f9 : Addr}
    {od10 an10 : Option Addr} {sl10 : Array (Option Value)} {oc10 kV10 dc10 pm10 cd10 ct10 : Value} {f10 : Addr}
    {od11 an11 : Option Addr} {sl11 : Array (Option Value)} {oc11 kV11 dc11 pm11 cd11 ct11 : Value} {f11 : Addr}
    {od12 an12 : Option Addr} {sl12 : Array (Option Value)} {oc12 kV12 dc12 pm12 cd12 ct12 : Value} {f12 : Addr}
    {od13 an13 : Option Addr} {sl13 : Array (Option Value)} {oc13 kV13 dc13 pm13 cd13 ct13 : Value} {f13 : Addr}
    {od14 an14 : Option Addr} {sl14 : Array (Option Value)} {oc14 kV14 dc14 pm14 cd14 ct14 : Value} {f14 : Addr}
    (a0 : PySem.W.nsIn K mainGlobals "_law_draw" = some (some (.ref f0))) (l0 : K.lookup f0 = some ⟨oc0, od0, .func (PySem.W.fnOf "_law_draw" "_law_draw" (defArgs st__law_draw) (defBody st__law_draw) (defScope st__law_draw) .none kV0 dc0 pm0 an0 cd0 ct0), sl0⟩) (c0 : PySem.W.codeIn K cd0 "_law_draw" = true) (k0 : PySem.W.keepIn K (.ref f0) = true)
    (a1 : PySem.W.nsIn K mainGlobals "_law_draws" = some (some (.ref f1))) (l1 : K.lookup f1 = some ⟨oc1, od1, .func (PySem.W.fnOf "_law_draws" "_law_draws" (defArgs st__law_draws) (defBody st__law_draws) (defScope st__law_draws) .none kV1 dc1 pm1 an1 cd1 ct1), sl1⟩) (c1 : PySem.W.codeIn K cd1 "_law_draws" = true) (k1 : PySem.W.keepIn K (.ref f1) = true)
    (a2 : PySem.W.nsIn K mainGlobals "_law_number" = some (some (.ref f2))) (l2 : K.lookup f2 = some ⟨oc2, od2, .func (PySem.W.fnOf "_law_number" "_law_number" (defArgs st__law_number) (defBody st__law_number) (defScope st__law_number) .none kV2 dc2 pm2 an2 cd2 ct2), sl2⟩) (c2 : PySem.W.codeIn K cd2 "_law_number" = true) (k2 : PySem.W.keepIn K (.ref f2) = true)
    (a3 : PySem.W.nsIn K mainGlobals "_law_same" = some (some (.ref f3))) (l3 : K.lookup f3 = some ⟨oc3, od3, .func (PySem.W.fnOf "_law_same" "_law_same" (defArgs st__law_same) (defBody st__law_same) (defScope st__law_same) .none kV3 dc3 pm3 an3 cd3 ct3), sl3⟩) (c3 : PySem.W.codeIn K cd3 "_law_same" = true) (k3 : PySem.W.keepIn K (.ref f3) = true)
    (a4 : PySem.W.nsIn K mainGlobals "is_whole" = some (some (.ref f4))) (l4 : K.lookup f4 = some ⟨oc4, od4, .func (PySem.W.fnOf "is_whole" "is_whole" (defArgs st_is_whole) (defBody st_is_whole) (defScope st_is_whole) .none kV4 dc4 pm4 an4 cd4 ct4), sl4⟩) (c4 : PySem.W.codeIn K cd4 "is_whole" = true) (k4 : PySem.W.keepIn K (.ref f4) = true)
    (a5 : PySem.W.nsIn K mainGlobals "is_code" = some (some (.ref f5))) (l5 : K.lookup f5 = some ⟨oc5, od5, .func (PySem.W.fnOf "is_code" "is_code" (defArgs st_is_code) (defBody st_is_code) (defScope st_is_code) .none kV5 dc5 pm5 an5 cd5 ct5), sl5⟩) (c5 : PySem.W.codeIn K cd5 "is_code" = true) (k5 : PySem.W.keepIn K (.ref f5) = true)
    (a6 : PySem.W.nsIn K mainGlobals "look_at_code" = some (some (.ref f6))) (l6 : K.lookup f6 = some ⟨oc6, od6, .func (PySem.W.fnOf "look_at_code" "look_at_code" (defArgs st_look_at_code) (defBody st_look_at_code) (defScope st_look_at_code) .none kV6 dc6 pm6 an6 cd6 ct6), sl6⟩) (c6 : PySem.W.codeIn K cd6 "look_at_code" = true) (k6 : PySem.W.keepIn K (.ref f6) = true)
    (a7 : PySem.W.nsIn K mainGlobals "least_missing" = some (some (.ref f7))) (l7 : K.lookup f7 = some ⟨oc7, od7, .func (PySem.W.fnOf "least_missing" "least_missing" (defArgs st_least_missing) (defBody st_least_missing) (defScope st_least_missing) .none kV7 dc7 pm7 an7 cd7 ct7), sl7⟩) (c7 : PySem.W.codeIn K cd7 "least_missing" = true) (k7 : PySem.W.keepIn K (.ref f7) = true)
    (a8 : PySem.W.nsIn K mainGlobals "nim_sum" = some (some (.ref f8))) (l8 : K.lookup f8 = some ⟨oc8, od8, .func (PySem.W.fnOf "nim_sum" "nim_sum" (defArgs st_nim_sum) (defBody st_nim_sum) (defScope st_nim_sum) .none kV8 dc8 pm8 an8 cd8 ct8), sl8⟩) (c8 : PySem.W.codeIn K cd8 "nim_sum" = true) (k8 : PySem.W.keepIn K (.ref f8) = true)
    (a9 : PySem.W.nsIn K mainGlobals "next_number" = some (some (.ref f9))) (l9 : K.lookup f9 = some ⟨oc9, od9, .func (PySem.W.fnOf "next_number" "next_number" (defArgs st_next_number) (defBody st_next_number) (defScope st_next_number) .none kV9 dc9 pm9 an9 cd9 ct9), sl9⟩) (c9 : PySem.W.codeIn K cd9 "next_number" = true) (k9 : PySem.W.keepIn K (.ref f9) = true)
    (a10 : PySem.W.nsIn K mainGlobals "heap_numbers" = some (some (.ref f10))) (l10 : K.lookup f10 = some ⟨oc10, od10, .func (PySem.W.fnOf "heap_numbers" "heap_numbers" (defArgs st_heap_numbers) (defBody st_heap_numbers) (defScope st_heap_numbers) .none kV10 dc10 pm10 an10 cd10 ct10), sl10⟩) (c10 : PySem.W.codeIn K cd10 "heap_numbers" = true) (k10 : PySem.W.keepIn K (.ref f10) = true)
    (a11 : PySem.W.nsIn K mainGlobals "parts_left" = some (some (.ref f11))) (l11 : K.lookup f11 = some ⟨oc11, od11, .func (PySem.W.fnOf "parts_left" "parts_left" (defArgs st_parts_left) (defBody st_parts_left) (defScope st_parts_left) .none kV11 dc11 pm11 an11 cd11 ct11), sl11⟩) (c11 : PySem.W.codeIn K cd11 "parts_left" = true) (k11 : PySem.W.keepIn K (.ref f11) = true)
    (a12 : PySem.W.nsIn K mainGlobals "web_left" = some (some (.ref f12))) (l12 : K.lookup f12 = some ⟨oc12, od12, .func (PySem.W.fnOf "web_left" "web_left" (defArgs st_web_left) (defBody st_web_left) (defScope st_web_left) .none kV12 dc12 pm12 an12 cd12 ct12), sl12⟩) (c12 : PySem.W.codeIn K cd12 "web_left" = true) (k12 : PySem.W.keepIn K (.ref f12) = true)
    (a13 : PySem.W.nsIn K mainGlobals "web_number" = some (some (.ref f13))) (l13 : K.lookup f13 = some ⟨oc13, od13, .func (PySem.W.fnOf "web_number" "web_number" (defArgs st_web_number) (defBody st_web_number) (defScope st_web_number) .none kV13 dc13 pm13 an13 cd13 ct13), sl13⟩) (c13 : PySem.W.codeIn K cd13 "web_number" = true) (k13 : PySem.W.keepIn K (.ref f13) = true)
    (a14 : PySem.W.nsIn K mainGlobals "law" = some (some (.ref f14))) (l14 : K.lookup f14 = some ⟨oc14, od14, .func (PySem.W.fnOf "law" "law" (defArgs st_law) (defBody st_law) (defScope st_law) .none kV14 dc14 pm14 an14 cd14 ct14), sl14⟩) (c14 : PySem.W.codeIn K cd14 "law" = true) (k14 : PySem.W.keepIn K (.ref f14) = true)
    {CR CG fI : Addr} {odC : Option Addr} {cdC cdX : ClassData} {slC : Array (Option Value)} {odI anI : Option Addr} {slI : Array (Option Value)} {ocI kVI dcI pmI cdI ctI : Value}
    (x_R : PySem.W.nsIn K mainGlobals "Refused" = some (some (.ref CR))) (x_G : PySem.W.nsIn K mainGlobals "GameError" = some (some (.ref CG))) (x_lC : K.lookup CR = some ⟨.type "type", odC, .cls cdC, slC⟩) (x_oc : oexB CR cdC slC = true) (x_sa : PySem.W.findIn K (.ref CR) "__setattr__" = some (some (.builtin "object.__setattr__"))) (x_sb : PySem.W.subIn K (.ref CR) (.type "BaseException") = some true) (x_ty : PySem.W.typeIn K (.ref CR) = some (.type "type")) (x_kC : PySem.W.keepIn K (.ref CR) = true) (x_cl : PySem.W.clsIn K CR = some cdX) (x_ss : PySem.W.subIn K (.ref CR) (.ref CR) = some true) (x_ga : PySem.W.findIn K (.ref CR) "__getattribute__" = some (some (.builtin "BaseException.__getattribute__"))) (x_gg : PySem.W.findIn K (.ref CR) "__getattr__" = some none) (x_hd : PySem.W.hasDictIn K CR = true) (x_hno : PySem.W.findIn K (.ref CR) "word" = some none) (x_iC : PySem.W.findIn K (.ref CR) "__init__" = some (some (.ref fI))) (x_tI : PySem.W.typeIn K (.ref fI) = some (.type "function"))
    (x_lI : K.lookup fI = some ⟨ocI, odI, .func (PySem.W.fnOf "__init__" "Refused.__init__" (defArgs st__init) (defBody st__init) (defScope st__init) .none kVI dcI pmI anI cdI ctI), slI⟩) (x_cI : PySem.W.codeIn K cdI "Refused.__init__" = true) (x_kI : PySem.W.keepIn K (.ref fI) = true)
    (x_rG : PySem.W.readsIn K CG (.type "type") = true) (x_gG : PySem.W.specialIn K (.ref CG) "__getattribute__" = some (some (.builtin "type.__getattribute__"))) (x_vG : PySem.W.findCls K (.ref CG) (.type "type") "__init__" = some (.val (.builtin "ValueError.__init__")))
    {tk_MOST_HEAPS : Tok} (g_MOST_HEAPS : PySem.W.nsIn K mainGlobals "MOST_HEAPS" = some (some (.int (3000) tk_MOST_HEAPS)))
    {tk_MOST_THINGS : Tok} (g_MOST_THINGS : PySem.W.nsIn K mainGlobals "MOST_THINGS" = some (some (.int (14) tk_MOST_THINGS)))
    (z_all : PySem.W.nsIn K mainGlobals "all" = some none)
    (z_bool : PySem.W.nsIn K mainGlobals "bool" = some none)
    (z_enumerate : PySem.W.nsIn K mainGlobals "enumerate" = some none)
    (z_int : PySem.W.nsIn K mainGlobals "int" = some none)
    (z_isinstance : PySem.W.nsIn K mainGlobals "isinstance" = some none)
    (z_len : PySem.W.nsIn K mainGlobals "len" = some none)
    (z_list : PySem.W.nsIn K mainGlobals "list" = some none)
    (z_range : PySem.W.nsIn K mainGlobals "range" = some none)
    (z_sorted : PySem.W.nsIn K mainGlobals "sorted" = some none)
    (z_str : PySem.W.nsIn K mainGlobals "str" = some none)
    (z_tuple : PySem.W.nsIn K mainGlobals "tuple" = some none) :
    ∃ fd : FuncData, (∀ (s : Shared) (v : Value), BindsTo s fd ⟨[v], []⟩ [("script", v)]) ∧ ∀ base : Heap, K.In base → base.Ns mainGlobals mg → FnOk l.prog w K mg base (L2N.CX l.prog w) 27 fa fd ["script"] (spOk l.prog w K f_law 1) := by
  have e := hfa.symm.trans (PySem.W.mg_of X G a14)
  cases e
  have F0 := L2.fun_mk (st := st__law_draw) l0 c0 k0
  have b0 := F0.binds (ps := ["draws", "limit"]) fun _ _ _ _ _ _ us hl => match us, hl with | [_, _], _ => rfl
  have F1 := L2.fun_mk (st := st__law_draws) l1 c1 k1
  have b1 := F1.binds (ps := ["script"]) fun _ _ _ _ _ _ us hl => match us, hl with | [_], _ => rfl
  have F2 := L2.fun_mk (st := st__law_number) l2 c2 k2
  have b2 := F2.binds (ps := ["ties", "left", "whole", "known"]) fun _ _ _ _ _ _ us hl => match us, hl with | [_, _, _, _], _ => rfl
  have F3 := L2.fun_mk (st := st__law_same) l3 c3 k3
  have b3 := F3.binds (ps := ["actual", "expected"]) fun _ _ _ _ _ _ us hl => match us, hl with | [_, _], _ => rfl
  have F4 := L2.fun_mk (st := st_is_whole) l4 c4 k4
  have b4 := F4.binds (ps := ["value"]) fun _ _ _ _ _ _ us hl => match us, hl with | [_], _ => rfl
  have F5 := L2.fun_mk (st := st_is_code) l5 c5 k5
  have b5 := F5.binds (ps := ["value"]) fun _ _ _ _ _ _ us hl => match us, hl with | [_], _ => rfl
  have F6 := L2.fun_mk (st := st_look_at_code) l6 c6 k6
  have b6 := F6.binds (ps := ["code"]) fun _ _ _ _ _ _ us hl => match us, hl with | [_], _ => rfl
  have F7 := L2.fun_mk (st := st_least_missing) l7 c7 k7
  have b7 := F7.binds (ps := ["numbers"]) fun _ _ _ _ _ _ us hl => match us, hl with | [_], _ => rfl
  have F8 := L2.fun_mk (st := st_nim_sum) l8 c8 k8
  have b8 := F8.binds (ps := ["first", "other"]) fun _ _ _ _ _ _ us hl => match us, hl with | [_, _], _ => rfl
  have F9 := L2.fun_mk (st := st_next_number) l9 c9 k9
  have b9 := F9.binds (ps := ["code", "found", "size"]) fun _ _ _ _ _ _ us hl => match us, hl with | [_, _, _], _ => rfl
  have F10 := L2.fun_mk (st := st_heap_numbers) l10 c10 k10
  have b10 := F10.binds (ps := ["code", "count"]) fun _ _ _ _ _ _ us hl => match us, hl with | [_, _], _ => rfl
  have F11 := L2.fun_mk (st := st_parts_left) l11 c11 k11
  have b11 := F11.binds (ps := ["near", "left"]) fun _ _ _ _ _ _ us hl => match us, hl with | [_, _], _ => rfl
  have F12 := L2.fun_mk (st := st_web_left) l12 c12 k12
  have b12 := F12.binds (ps := ["near", "left", "whole", "known"]) fun _ _ _ _ _ _ us hl => match us, hl with | [_, _, _, _], _ => rfl
  have F13 := L2.fun_mk (st := st_web_number) l13 c13 k13
  have b13 := F13.binds (ps := ["count", "ties", "whole"]) fun _ _ _ _ _ _ us hl => match us, hl with | [_, _, _], _ => rfl
  have F14 := L2.fun_mk (st := st_law) l14 c14 k14
  have b14 := F14.binds (ps := ["script"]) fun _ _ _ _ _ _ us hl => match us, hl with | [_], _ => rfl
  have FIx := L2.fun_mk (st := st__init) x_lI x_cI x_kI
  have bIx := FIx.binds (ps := ["self", "word"]) fun _ _ _ _ _ _ us hl => match us, hl with | [_, _], _ => rfl
  let t : Tab K mg := ⟨f0, _, F0, b0, (PySem.W.mg_of X G a0), f1, _, F1, b1, (PySem.W.mg_of X G a1), f2, _, F2, b2, (PySem.W.mg_of X G a2), f3, _, F3, b3, (PySem.W.mg_of X G a3), f4, _, F4, b4, (PySem.W.mg_of X G a4), f5, _, F5, b5, (PySem.W.mg_of X G a5), f6, _, F6, b6, (PySem.W.mg_of X G a6), f7, _, F7, b7, (PySem.W.mg_of X G a7), f8, _, F8, b8, (PySem.W.mg_of X G a8), f9, _, F9, b9, (PySem.W.mg_of X G a9), f10, _, F10, b10, (PySem.W.mg_of X G a10), f11, _, F11, b11, (PySem.W.mg_of X G a11), f12, _, F12, b12, (PySem.W.mg_of X G a12), f13, _, F13, b13, (PySem.W.mg_of X G a13), fa, _, F14, b14, (PySem.W.mg_of X G a14), CR, CG, fI, _, (oexB_ok x_lC x_oc x_sa x_sb x_ty x_kC), x_hno, x_iC, x_tI, FIx, bIx, (PySem.W.mg_of X G x_R), (PySem.W.mg_of X G x_G), x_rG, x_gG, x_vG, (exm_ok x_sb x_cl x_ty x_ss), ⟨x_ga, x_gg, x_sb, x_hd⟩, ⟨_, PySem.W.mg_of X G g_MOST_HEAPS, ⟨_, rfl⟩⟩, ⟨_, PySem.W.mg_of X G g_MOST_THINGS, ⟨_, rfl⟩⟩, (PySem.W.mg_none_of X G z_all), (PySem.W.mg_none_of X G z_bool), (PySem.W.mg_none_of X G z_enumerate), (PySem.W.mg_none_of X G z_int), (PySem.W.mg_none_of X G z_isinstance), (PySem.W.mg_none_of X G z_len), (PySem.W.mg_none_of X G z_list), (PySem.W.mg_none_of X G z_range), (PySem.W.mg_none_of X G z_sorted), (PySem.W.mg_none_of X G z_str), (PySem.W.mg_none_of X G z_tuple)⟩
  exact ⟨_, fun s v => .of_eq rfl, fun base _ _ => fnOk_ok (ok_law t)⟩
end K33

set_option Elab.async false
set_option linter.all false
set_option autoImplicit false
/-! k38: numbers of heaps by codes, in plain mathematics -/
namespace K38
/-- the least number that is not among some -/
def mexF (l : List Nat) : Nat → Nat → Nat
  | 0, k => k
  | f + 1, k => if k ∈ l then mexF l f (k + 1) else k
def mex (l : List Nat) : Nat := mexF l l.length 0
theorem few_nat : ∀ (n : Nat) (l : List Nat), (∀ j, j < n → j ∈ l) → n ≤ l.length
  | 0, _, _ => Nat.zero_le _
  | n + 1, l, h => by
    have := few_nat n (l.erase n) fun j hj => (List.mem_erase_of_ne (by omega)).mpr (h j (by omega))
    have h2 := h n (by omega)
    have := List.length_erase_of_mem h2
    have := List.length_pos_of_mem h2
    omega
theorem mexF_spec (l : List Nat) : ∀ (f k : Nat), k + f = l.length → (∀ j, j < k → j ∈ l) → mexF l f k ∉ l ∧ ∀ j, j < mexF l f k → j ∈ l
  | 0, k, h, hk => by
    refine ⟨fun hm => ?_, hk⟩
    have := few_nat (k + 1) l fun j hj => by
      by_cases e : j = k
      · subst e; exact hm
      · exact hk j (by omega)
    omega
  | f + 1, k, h, hk => by
    unfold mexF
    by_cases hm : k ∈ l
    · rw [if_pos hm]
      exact mexF_spec l f (k + 1) (by omega) fun j hj => by
        by_cases e : j = k
        · subst e; exact hm
        · exact hk j (by omega)
    · rw [if_neg hm]
      exact ⟨hm, hk⟩
theorem mex_spec (l : List Nat) : mex l ∉ l ∧ ∀ j, j < mex l → j ∈ l := mexF_spec l l.length 0 (by omega) fun j hj => by omega
theorem mex_uniq {l : List Nat} {m : Nat} (h1 : m ∉ l) (h2 : ∀ j, j < m → j ∈ l) : mex l = m := by
  have ⟨a, b⟩ := mex_spec l
  by_cases h : mex l < m
  · exact absurd (h2 _ h) a
  · by_cases h' : m < mex l
    · exact absurd (b _ h') h1
    · omega
theorem mex_congr {l l' : List Nat} (h : ∀ x, x ∈ l ↔ x ∈ l') : mex l = mex l' := by
  have ⟨a, b⟩ := mex_spec l'
  exact mex_uniq (fun z => a ((h _).mp z)) fun j hj => (h _).mpr (b j hj)
theorem mex_le (l : List Nat) : mex l ≤ l.length := few_nat _ l (mex_spec l).2
/-- what moves come to by a digit that stands at k -/
def digS (g : Nat → Nat) (n k d : Nat) : List Nat :=
  (if d % 2 = 1 ∧ n = k + 1 then [0] else []) ++ ((if d / 2 % 2 = 1 ∧ k + 1 < n then [g (n - (k + 1))] else []) ++
  (if d / 4 % 2 = 1 then (List.range ((n - (k + 1)) / 2)).map (fun a => g (a + 1) ^^^ g (n - (k + 1) - (a + 1))) else []))
def usedF (g : Nat → Nat) (n : Nat) : Nat → List Nat → List Nat
  | _, [] => []
  | k, d :: r => digS g n k d ++ usedF g n (k + 1) r
def usedS (g : Nat → Nat) (code : List Nat) (n : Nat) : List Nat := usedF g n 0 code
theorem mem_usedF {g : Nat → Nat} {n x : Nat} : ∀ {code : List Nat} {k : Nat}, x ∈ usedF g n k code ↔ ∃ j d, code[j]? = some d ∧ x ∈ digS g n (k + j) d
  | [], k => by simp [usedF]
  | d :: r, k => by
    rw [usedF, List.mem_append, mem_usedF (code := r)]
    constructor
    · rintro (h | ⟨j, e, h1, h2⟩)
      · exact ⟨0, d, by simp, h⟩
      · exact ⟨j + 1, e, by simpa using h1, by rwa [show k + (j + 1) = k + 1 + j by omega]⟩
    · rintro ⟨j, e, h1, h2⟩
      cases j with
      | zero => simp at h1; subst h1; exact .inl h2
      | succ j => exact .inr ⟨j, e, by simpa using h1, by rwa [show k + 1 + j = k + (j + 1) by omega]⟩
theorem mem_digS {g : Nat → Nat} {n k d x : Nat} : x ∈ digS g n k d ↔ (d % 2 = 1 ∧ n = k + 1 ∧ x = 0) ∨ (d / 2 % 2 = 1 ∧ k + 1 < n ∧ x = g (n - (k + 1))) ∨ (d / 4 % 2 = 1 ∧ ∃ a b, 1 ≤ a ∧ a ≤ b ∧ a + b + (k + 1) = n ∧ x = g a ^^^ g b) := by
  unfold digS
  rw [List.mem_append, List.mem_append]
  refine or_congr ?_ (or_congr ?_ ?_)
  · by_cases h : d % 2 = 1 ∧ n = k + 1
    · rw [if_pos h]; simp [h.1, h.2]
    · rw [if_neg h]; simp only [List.not_mem_nil, false_iff]; exact fun z => h ⟨z.1, z.2.1⟩
  · by_cases h : d / 2 % 2 = 1 ∧ k + 1 < n
    · rw [if_pos h]; simp [h.1, h.2]
    · rw [if_neg h]; simp only [List.not_mem_nil, false_iff]; exact fun z => h ⟨z.1, z.2.1⟩
  · by_cases h : d / 4 % 2 = 1
    · rw [if_pos h, List.mem_map]
      constructor
      · rintro ⟨a, ha, rfl⟩
        have := List.mem_range.mp ha
        exact ⟨h, a + 1, n - (k + 1) - (a + 1), by omega, by omega, by omega, rfl⟩
      · rintro ⟨_, a, b, h1, h2, h3, rfl⟩
        refine ⟨a - 1, List.mem_range.mpr (by omega), ?_⟩
        rw [show a - 1 + 1 = a by omega, show n - (k + 1) - a = b by omega]
    · rw [if_neg h]; simp only [List.not_mem_nil, false_iff]; exact fun z => h z.1
/-- the same, whichever of two heaps is the greater -/
theorem mem_pair {g : Nat → Nat} {n k x : Nat} : (∃ a b, 1 ≤ a ∧ a ≤ b ∧ a + b + (k + 1) = n ∧ x = g a ^^^ g b) ↔ ∃ a b, 1 ≤ a ∧ 1 ≤ b ∧ a + b + (k + 1) = n ∧ x = g a ^^^ g b := by
  constructor
  · rintro ⟨a, b, h1, h2, h3, h4⟩; exact ⟨a, b, h1, by omega, h3, h4⟩
  · rintro ⟨a, b, h1, h2, h3, h4⟩
    by_cases h : a ≤ b
    · exact ⟨a, b, h1, h, h3, h4⟩
    · exact ⟨b, a, h2, by omega, by omega, by rw [h4, Nat.xor_comm]⟩
/-- the numbers of the first heaps -/
def numsS (code : List Nat) : Nat → List Nat
  | 0 => []
  | n + 1 => numsS code n ++ [mex (usedS (fun i => (numsS code n).getD i 0) code n)]
theorem numsS_len (code : List Nat) : ∀ n, (numsS code n).length = n
  | 0 => rfl
  | n + 1 => by rw [numsS, List.length_append, numsS_len code n]; rfl
def gS (code : List Nat) (n : Nat) : Nat := (numsS code (n + 1)).getD n 0
theorem numsS_get (code : List Nat) : ∀ (n i : Nat), i < n → (numsS code n)[i]? = some (gS code i)
  | 0, _, h => absurd h (Nat.not_lt_zero _)
  | n + 1, i, h => by
    by_cases e : i = n
    · subst e
      unfold gS
      have : i < (numsS code (i + 1)).length := by rw [numsS_len]; omega
      rw [List.getElem?_eq_getElem this, List.getD_eq_getElem?_getD, List.getElem?_eq_getElem this]; rfl
    · rw [numsS, List.getElem?_append_left (by rw [numsS_len]; omega)]
      exact numsS_get code n i (by omega)
theorem numsS_map (code : List Nat) (n : Nat) : numsS code n = (List.range n).map (gS code) := by
  refine List.ext_getElem? fun i => ?_
  by_cases h : i < n
  · rw [numsS_get code n i h]; simp [h]
  · rw [List.getElem?_eq_none (by rw [numsS_len]; omega), List.getElem?_eq_none (by simp; omega)]
theorem usedF_congr {g g' : Nat → Nat} {n : Nat} (h : ∀ i, i < n → g i = g' i) : ∀ (code : List Nat) (k : Nat), usedF g n k code = usedF g' n k code
  | [], _ => rfl
  | d :: r, k => by
    rw [usedF, usedF, usedF_congr h r]
    congr 1
    unfold digS
    congr 1
    congr 1
    · by_cases e : d / 2 % 2 = 1 ∧ k + 1 < n
      · rw [if_pos e, if_pos e, h _ (by omega)]
      · rw [if_neg e, if_neg e]
    · by_cases e : d / 4 % 2 = 1
      · rw [if_pos e, if_pos e]
        refine List.map_congr_left fun a ha => ?_
        have := List.mem_range.mp ha
        rw [h _ (by omega), h _ (by omega)]
      · rw [if_neg e, if_neg e]
theorem gS_eq (code : List Nat) (n : Nat) : gS code n = mex (usedS (gS code) code n) := by
  have : gS code n = mex (usedS (fun i => (numsS code n).getD i 0) code n) := by
    unfold gS
    rw [numsS, List.getD_eq_getElem?_getD, List.getElem?_append_right (by rw [numsS_len]; omega), numsS_len]
    simp
  rw [this]
  unfold usedS
  rw [usedF_congr (g' := gS code) fun i hi => by rw [List.getD_eq_getElem?_getD, numsS_get code n i hi]; rfl]
/-- numbers that repeat so long repeat for ever -/
theorem for_ever (code : List Nat) {s p : Nat} (hp : 1 ≤ p) (h : ∀ k, s ≤ k → k < 2 * s + p + code.length + 1 → gS code k = gS code (k + p)) : ∀ k, s ≤ k → gS code k = gS code (k + p) := by
  intro k
  induction k using Nat.strongRecOn with
  | _ k ih =>
    intro hk
    by_cases hs : k < 2 * s + p + code.length + 1
    · exact h k hk hs
    rw [gS_eq code k, gS_eq code (k + p)]
    refine mex_congr fun x => ?_
    unfold usedS
    rw [mem_usedF, mem_usedF]
    refine exists_congr fun j => exists_congr fun d => and_congr_right fun hj => ?_
    have hl : j < code.length := (List.getElem?_eq_some_iff.mp hj).1
    rw [mem_digS, mem_digS, mem_pair, mem_pair]
    refine or_congr ?_ (or_congr ?_ (and_congr_right fun _ => ?_))
    · exact ⟨fun z => by omega, fun z => by omega⟩
    · refine and_congr_right fun _ => ?_
      have e := ih (k - (0 + j + 1)) (by omega) (by omega)
      rw [show k - (0 + j + 1) + p = k + p - (0 + j + 1) by omega] at e
      rw [e]
      exact ⟨fun z => ⟨by omega, z.2⟩, fun z => ⟨by omega, z.2⟩⟩
    · have up : ∀ a b, 1 ≤ a → 1 ≤ b → a + b + (0 + j + 1) = k → x = gS code a ^^^ gS code b → a ≤ b → ∃ a b, 1 ≤ a ∧ 1 ≤ b ∧ a + b + (0 + j + 1) = k + p ∧ x = gS code a ^^^ gS code b := by
        intro a b h1 h2 h3 h4 h5
        exact ⟨a, b + p, h1, by omega, by omega, by rw [h4, ih b (by omega) (by omega)]⟩
      have dn : ∀ a b, 1 ≤ a → 1 ≤ b → a + b + (0 + j + 1) = k + p → x = gS code a ^^^ gS code b → a ≤ b → ∃ a b, 1 ≤ a ∧ 1 ≤ b ∧ a + b + (0 + j + 1) = k ∧ x = gS code a ^^^ gS code b := by
        intro a b h1 h2 h3 h4 h5
        have e := ih (b - p) (by omega) (by omega)
        rw [show b - p + p = b by omega] at e
        exact ⟨a, b - p, h1, by omega, by omega, by rw [h4, e]⟩
      constructor
      · rintro ⟨a, b, h1, h2, h3, h4⟩
        by_cases h : a ≤ b
        · exact up a b h1 h2 h3 h4 h
        · exact up b a h2 h1 (by omega) (by rw [h4, Nat.xor_comm]) (by omega)
      · rintro ⟨a, b, h1, h2, h3, h4⟩
        by_cases h : a ≤ b
        · exact dn a b h1 h2 h3 h4 h
        · exact dn b a h2 h1 (by omega) (by rw [h4, Nat.xor_comm]) (by omega)
end K38

set_option Elab.async false
set_option linter.all false
set_option autoImplicit false
/-! k33: taking places of webs, in plain mathematics -/
namespace K33
open K38 (mex mex_spec mex_uniq mex_congr mex_le)
abbrev NR := List Nat
abbrev Ties := List (Nat × Nat)
/-- the neighbours of a place -/
def nb (t : Ties) (k : Nat) : NR := (t.filter fun q => decide (k = q.1 ∨ k = q.2)).map fun q => if q.1 = k then q.2 else q.1
def ins (t : Ties) (left : NR) (k : Nat) : NR := (nb t k).filter fun o => decide (o ∈ left)
def gones (t : Ties) (whole : Bool) (left : NR) (k : Nat) : List NR := if whole then [k] :: (ins t left k).map (fun o => [k, o]) else [k :: ins t left k]
def cut (left gone : NR) : NR := left.filter fun o => decide (o ∉ gone)
def opts (t : Ties) (w : Bool) (left : NR) : List NR := left.flatMap fun k => (gones t w left k).map (cut left)
def gN (t : Ties) (w : Bool) : Nat → NR → Nat
  | 0, _ => 0
  | n + 1, left => mex ((opts t w left).map (gN t w n))
def gW (t : Ties) (w : Bool) (left : NR) : Nat := gN t w left.length left
theorem mem_nb {t : Ties} {k o : Nat} : o ∈ nb t k ↔ (k, o) ∈ t ∨ (o, k) ∈ t := by
  unfold nb
  rw [List.mem_map]
  constructor
  · rintro ⟨q, hq, rfl⟩
    obtain ⟨h1, h2⟩ := List.mem_filter.mp hq
    have h2 := of_decide_eq_true h2
    by_cases e : q.1 = k
    · rw [if_pos e]; exact .inl (by rw [← e]; exact h1)
    · rw [if_neg e]
      rcases h2 with h2 | h2
      · exact absurd h2.symm e
      · exact .inr (by rw [h2]; exact h1)
  · rintro (h | h)
    · exact ⟨(k, o), List.mem_filter.mpr ⟨h, by simp⟩, by simp⟩
    · by_cases e : o = k
      · subst e; exact ⟨(o, o), List.mem_filter.mpr ⟨h, by simp⟩, by simp⟩
      · exact ⟨(o, k), List.mem_filter.mpr ⟨h, by simp⟩, by simp [e]⟩
theorem nb_symm {t : Ties} {k o : Nat} (h : o ∈ nb t k) : k ∈ nb t o := by
  rw [mem_nb] at h ⊢
  exact h.symm
theorem mem_ins {t : Ties} {left : NR} {k o : Nat} : o ∈ ins t left k ↔ o ∈ nb t k ∧ o ∈ left := by
  unfold ins
  rw [List.mem_filter, decide_eq_true_iff]
theorem gone_has {t : Ties} {w : Bool} {left gone : NR} {k : Nat} (h : gone ∈ gones t w left k) : k ∈ gone ∧ ∀ o ∈ gone, o = k ∨ o ∈ ins t left k := by
  unfold gones at h
  split at h
  · rcases List.mem_cons.mp h with rfl | h
    · exact ⟨by simp, fun o ho => .inl (by simpa using ho)⟩
    · obtain ⟨a, ha, rfl⟩ := List.mem_map.mp h
      refine ⟨by simp, fun o ho => ?_⟩
      simp only [List.mem_cons, List.not_mem_nil, or_false] at ho
      rcases ho with rfl | rfl
      · exact .inl rfl
      · exact .inr ha
  · rw [List.mem_singleton.mp h]
    refine ⟨by simp, fun o ho => ?_⟩
    rcases List.mem_cons.mp ho with rfl | ho
    · exact .inl rfl
    · exact .inr ho
theorem filter_lt {α : Type} {p : α → Bool} : ∀ {l : List α} {a : α}, a ∈ l → p a = false → (l.filter p).length < l.length
  | b :: l, a, h, hp => by
    rcases List.mem_cons.mp h with rfl | h
    · rw [List.filter_cons_of_neg (by rw [hp]; exact Bool.false_ne_true)]
      have := List.length_filter_le p l
      rw [List.length_cons]; omega
    · have := filter_lt h hp
      rw [List.filter_cons]
      split
      · rw [List.length_cons, List.length_cons]; omega
      · rw [List.length_cons]; omega
theorem opt_lt {t : Ties} {w : Bool} {left x : NR} (h : x ∈ opts t w left) : x.length < left.length := by
  obtain ⟨k, hk, h⟩ := List.mem_flatMap.mp h
  obtain ⟨g, hg, rfl⟩ := List.mem_map.mp h
  exact filter_lt hk (by simp [(gone_has hg).1])
theorem gN_fuel (t : Ties) (w : Bool) : ∀ (n m : Nat) (left : NR), left.length ≤ n → left.length ≤ m → gN t w n left = gN t w m left
  | 0, 0, _, _, _ => rfl
  | 0, m + 1, left, h, _ => by
    have : left = [] := List.eq_nil_of_length_eq_zero (by omega)
    subst this; rfl
  | n + 1, 0, left, _, h => by
    have : left = [] := List.eq_nil_of_length_eq_zero (by omega)
    subst this; rfl
  | n + 1, m + 1, left, h1, h2 => by
    unfold gN
    congr 1
    refine List.map_congr_left fun x hx => ?_
    have := opt_lt hx
    exact gN_fuel t w n m x (by omega) (by omega)
theorem gW_eq (t : Ties) (w : Bool) (left : NR) : gW t w left = mex ((opts t w left).map (gW t w)) := by
  unfold gW
  cases hl : left.length with
  | zero =>
    have : left = [] := List.eq_nil_of_length_eq_zero hl
    subst this; rfl
  | succ n =>
    rw [gN]
    congr 1
    refine List.map_congr_left fun x hx => ?_
    have := opt_lt hx
    exact gN_fuel t w n x.length x (by omega) (Nat.le_refl _)
theorem gW_nil (t : Ties) (w : Bool) : gW t w [] = 0 := rfl
/-! sums of numbers -/
theorem lt_of_bit {x y i : Nat} (hx : x.testBit i = false) (hy : y.testBit i = true) (h : x >>> (i + 1) = y >>> (i + 1)) : x < y := by
  rw [Nat.testBit_eq_decide_div_mod_eq] at hx hy
  have hx := of_decide_eq_false hx
  have hy := of_decide_eq_true hy
  rw [Nat.shiftRight_eq_div_pow, Nat.shiftRight_eq_div_pow, Nat.pow_succ, ← Nat.div_div_eq_div_mul, ← Nat.div_div_eq_div_mul] at h
  apply Nat.lt_of_not_le
  intro hle
  have : y / 2 ^ i ≤ x / 2 ^ i := Nat.div_le_div_right hle
  omega
theorem flip_lt {g d : Nat} (hd : d ≠ 0) (hg : g.testBit d.log2 = true) : g ^^^ d < g := by
  refine lt_of_bit (i := d.log2) ?_ hg ?_
  · rw [Nat.testBit_xor, hg, Nat.testBit_log2 hd]; rfl
  · rw [Nat.shiftRight_xor_distrib]
    have : d >>> (d.log2 + 1) = 0 := by
      rw [Nat.shiftRight_eq_div_pow]; exact Nat.div_eq_of_lt Nat.lt_log2_self
    rw [this, Nat.xor_zero]
theorem lt_xor {v a b : Nat} (h : v < a ^^^ b) : v ^^^ b < a ∨ v ^^^ a < b := by
  generalize hd : v ^^^ a ^^^ b = d
  have hd0 : d ≠ 0 := fun z => by
    have : v = a ^^^ b := by
      have h2 : v ^^^ (a ^^^ b) = 0 := by rw [← Nat.xor_assoc, hd, z]
      have := congrArg (· ^^^ (a ^^^ b)) h2
      simpa [Nat.xor_assoc] using this
    omega
  have e1 : a ^^^ d = v ^^^ b := by rw [← hd, show a ^^^ (v ^^^ a ^^^ b) = (a ^^^ a) ^^^ (v ^^^ b) by ac_rfl, Nat.xor_self, Nat.zero_xor]
  have e2 : b ^^^ d = v ^^^ a := by rw [← hd, show b ^^^ (v ^^^ a ^^^ b) = (b ^^^ b) ^^^ (v ^^^ a) by ac_rfl, Nat.xor_self, Nat.zero_xor]
  have e3 : v ^^^ d = a ^^^ b := by rw [← hd, show v ^^^ (v ^^^ a ^^^ b) = (v ^^^ v) ^^^ (a ^^^ b) by ac_rfl, Nat.xor_self, Nat.zero_xor]
  have hb := Nat.testBit_log2 hd0
  rw [← hd, Nat.testBit_xor, Nat.testBit_xor, hd] at hb
  by_cases ha : a.testBit d.log2 = true
  · exact .inl (by rw [← e1]; exact flip_lt hd0 ha)
  · by_cases hb2 : b.testBit d.log2 = true
    · exact .inr (by rw [← e2]; exact flip_lt hd0 hb2)
    · rw [Bool.not_eq_true] at ha hb2
      rw [ha, hb2] at hb
      have hv : v.testBit d.log2 = true := by simpa using hb
      have := flip_lt hd0 hv
      rw [e3] at this
      omega
theorem xor_r {X a b : Nat} (h : X ^^^ b = a ^^^ b) : X = a := by
  have := congrArg (· ^^^ b) h
  rwa [Nat.xor_assoc, Nat.xor_self, Nat.xor_zero, Nat.xor_assoc, Nat.xor_self, Nat.xor_zero] at this
theorem xor_l {X a b : Nat} (h : b ^^^ X = b ^^^ a) : X = a := by
  rw [Nat.xor_comm b X, Nat.xor_comm b a] at h
  exact xor_r h
/-- no ties between the places of p and the others -/
def Apart (t : Ties) (left : NR) (p : Nat → Bool) : Prop := ∀ k ∈ left, ∀ o ∈ left, o ∈ nb t k → p k = p o
theorem Apart.sub {t : Ties} {left x : NR} {p : Nat → Bool} (h : Apart t left p) (hs : ∀ o ∈ x, o ∈ left) : Apart t x p := fun k hk o ho hn => h k (hs k hk) o (hs o ho) hn
theorem ins_part {t : Ties} {left : NR} {p : Nat → Bool} (h : Apart t left p) {k : Nat} (hk : k ∈ left) (b : Bool) (hp : p k = b) : ins t (left.filter fun o => p o == b) k = ins t left k := by
  unfold ins
  refine List.filter_congr fun o ho => ?_
  rw [decide_eq_decide, List.mem_filter, beq_iff_eq]
  exact ⟨fun z => z.1, fun z => ⟨z, by rw [← h k hk o z ho, hp]⟩⟩
theorem gones_part {t : Ties} {w : Bool} {left : NR} {p : Nat → Bool} (h : Apart t left p) {k : Nat} (hk : k ∈ left) (b : Bool) (hp : p k = b) : gones t w (left.filter fun o => p o == b) k = gones t w left k := by
  unfold gones
  rw [ins_part h hk b hp]
/-- a move in one part leaves the other -/
theorem cut_part {t : Ties} {w : Bool} {left gone : NR} {p : Nat → Bool} (h : Apart t left p) {k : Nat} (hk : k ∈ left) (b : Bool) (hp : p k = b) (hg : gone ∈ gones t w left k) :
    ((cut left gone).filter fun o => p o == b) = cut (left.filter fun o => p o == b) gone ∧ ((cut left gone).filter fun o => p o == !b) = left.filter fun o => p o == !b := by
  constructor
  · unfold cut
    rw [List.filter_filter, List.filter_filter]
    exact List.filter_congr fun o _ => Bool.and_comm _ _
  · unfold cut
    rw [List.filter_filter]
    refine List.filter_congr fun o ho => ?_
    by_cases hpo : p o = b
    · rw [hpo]; cases b <;> rfl
    · have : o ∉ gone := fun z => by
        rcases (gone_has hg).2 o z with rfl | z
        · exact hpo hp
        · rw [mem_ins] at z
          exact hpo (by rw [← h k hk o ho z.1, hp])
      rw [decide_eq_true this, Bool.and_true]
/-- parts are summed -/
theorem add_parts (t : Ties) (w : Bool) (p : Nat → Bool) : ∀ (n : Nat) (left : NR), left.length ≤ n → Apart t left p → gW t w left = gW t w (left.filter fun o => p o == true) ^^^ gW t w (left.filter fun o => p o == false)
  | 0, left, h, _ => by
    have : left = [] := List.eq_nil_of_length_eq_zero (by omega)
    subst this
    show gW t w [] = gW t w [] ^^^ gW t w []
    rw [gW_nil]
    rfl
  | n + 1, left, h, hA => by
    have ih := add_parts t w p n
    let A := left.filter fun o => p o == true
    let B := left.filter fun o => p o == false
    have sub : ∀ x ∈ opts t w left, ∀ o ∈ x, o ∈ left := fun x hx o ho => by
      obtain ⟨k, hk, hx⟩ := List.mem_flatMap.mp hx
      obtain ⟨g, hg, rfl⟩ := List.mem_map.mp hx
      exact (List.mem_filter.mp ho).1
    have ihx : ∀ x ∈ opts t w left, gW t w x = gW t w (x.filter fun o => p o == true) ^^^ gW t w (x.filter fun o => p o == false) := fun x hx => ih x (by have := opt_lt hx; omega) (hA.sub (sub x hx))
    have gA := gW_eq t w A
    have gB := gW_eq t w B
    have mA := mex_spec ((opts t w A).map (gW t w))
    have mB := mex_spec ((opts t w B).map (gW t w))
    rw [← gA] at mA
    rw [← gB] at mB
    -- moves of a part, and moves of the whole
    have up : ∀ (b : Bool) (y : NR), y ∈ opts t w (left.filter fun o => p o == b) → ∃ x ∈ opts t w left, (x.filter fun o => p o == b) = y ∧ (x.filter fun o => p o == !b) = left.filter fun o => p o == !b := by
      intro b y hy
      obtain ⟨k, hk, hy⟩ := List.mem_flatMap.mp hy
      obtain ⟨g, hg, rfl⟩ := List.mem_map.mp hy
      obtain ⟨hkl, hpk⟩ := List.mem_filter.mp hk
      have hpk : p k = b := eq_of_beq hpk
      rw [gones_part hA hkl b hpk] at hg
      exact ⟨cut left g, List.mem_flatMap.mpr ⟨k, hkl, List.mem_map.mpr ⟨g, hg, rfl⟩⟩, (cut_part hA hkl b hpk hg).1, (cut_part hA hkl b hpk hg).2⟩
    have dn : ∀ x ∈ opts t w left, ∃ b : Bool, (x.filter fun o => p o == b) ∈ opts t w (left.filter fun o => p o == b) ∧ (x.filter fun o => p o == !b) = left.filter fun o => p o == !b := by
      intro x hx
      obtain ⟨k, hk, hx⟩ := List.mem_flatMap.mp hx
      obtain ⟨g, hg, rfl⟩ := List.mem_map.mp hx
      refine ⟨p k, ?_, (cut_part hA hk (p k) rfl hg).2⟩
      rw [(cut_part hA hk (p k) rfl hg).1]
      exact List.mem_flatMap.mpr ⟨k, List.mem_filter.mpr ⟨hk, by simp⟩, List.mem_map.mpr ⟨g, by rw [gones_part hA hk (p k) rfl]; exact hg, rfl⟩⟩
    rw [gW_eq t w left]
    refine mex_uniq (fun hm => ?_) fun v hv => ?_
    · obtain ⟨x, hx, ex⟩ := List.mem_map.mp hm
      rw [ihx x hx] at ex
      obtain ⟨b, h1, h2⟩ := dn x hx
      cases b with
      | true =>
        rw [show (x.filter fun o => p o == false) = B from h2] at ex
        have : gW t w (x.filter fun o => p o == true) = gW t w A := by
          exact xor_r ex
        exact mA.1 (List.mem_map.mpr ⟨_, h1, this⟩)
      | false =>
        rw [show (x.filter fun o => p o == true) = A from h2] at ex
        have : gW t w (x.filter fun o => p o == false) = gW t w B := by
          exact xor_l ex
        exact mB.1 (List.mem_map.mpr ⟨_, h1, this⟩)
    · rcases lt_xor hv with hv | hv
      · obtain ⟨y, hy, ey⟩ := List.mem_map.mp (mA.2 _ hv)
        obtain ⟨x, hx, h1, h2⟩ := up true y hy
        refine List.mem_map.mpr ⟨x, hx, ?_⟩
        rw [ihx x hx, h1, show (x.filter fun o => p o == false) = B from h2, ey, Nat.xor_assoc, Nat.xor_self, Nat.xor_zero]
      · obtain ⟨y, hy, ey⟩ := List.mem_map.mp (mB.2 _ hv)
        obtain ⟨x, hx, h1, h2⟩ := up false y hy
        refine List.mem_map.mpr ⟨x, hx, ?_⟩
        rw [ihx x hx, h1, show (x.filter fun o => p o == true) = A from h2, ey, ← Nat.xor_assoc, Nat.xor_comm _ v, Nat.xor_assoc, Nat.xor_self, Nat.xor_zero]
end K33

set_option Elab.async false
set_option linter.all false
set_option autoImplicit false
set_option maxRecDepth 1000000
/-! k38: the program's numbers -/
namespace K33
open PySem G L2 K38
def encN (n : Nat) : PyData := .int (n : Int)
/-- a loop that counts -/
theorem wh_count {c : FT} {body : FS} {S : Store} (E : Nat → DEnv) (m : Nat) (hc : ∀ k, k < m → c (E k) S = .ok true S) (hb : ∀ k, k < m → body (E k) S = .ok (.nx (E (k + 1))) S) (he : c (E m) S = .ok false S) : ∀ fuel, m < fuel → sWhile c body fuel (E 0) S = .ok (.nx (E m)) S := by
  suffices h : ∀ (j k fuel : Nat), k + j = m → j < fuel → sWhile c body fuel (E k) S = .ok (.nx (E m)) S from fun fuel hf => h m 0 fuel (by omega) hf
  intro j
  induction j with
  | zero =>
    intro k fuel h1 h2
    cases fuel with
    | zero => omega
    | succ f =>
      have : k = m := by omega
      subst this
      show lift _ (c (E k) S) _ = _
      rw [he]; rfl
  | succ j ih =>
    intro k fuel h1 h2
    cases fuel with
    | zero => omega
    | succ f =>
      show lift _ (c (E k) S) _ = _
      rw [hc k (by omega), lift_ok, if_pos rfl, hb k (by omega)]
      exact ih (k + 1) f (by omega) (by omega)
/-- the dict of some numbers -/
theorem putK_fold : ∀ (xs : List Nat) (acc : List (Key × PyData)), acc.length + xs.length ≤ 16000000 → ∃ acc', (xs.map encN).foldlM (fun a x => putK' a x (.bool true)) acc = some acc' ∧ ∀ k : Nat, (dkGet acc' (.inl (k : Int))).isSome = (decide (k ∈ xs) || (dkGet acc (.inl (k : Int))).isSome)
  | [], acc, _ => ⟨acc, rfl, fun k => by simp⟩
  | x :: xs, acc, h => by
    have get : ∀ k : Key, (dkGet (dkPut acc (.inl (x : Int)) (.bool true)) k).isSome = (decide (k = .inl (x : Int)) || (dkGet acc k).isSome) := by
      intro k
      unfold dkPut
      by_cases hs : (dkGet acc (.inl (x : Int))).isSome = true
      · rw [if_pos hs]
        have e : (dkGet (acc.map fun q => if q.1 = .inl (x : Int) then (q.1, .bool true) else q) k).isSome = (dkGet acc k).isSome := by
          unfold dkGet
          rw [Option.isSome_map, Option.isSome_map, List.find?_map, Option.isSome_map]
          congr 2
          funext q
          simp only [Function.comp]
          split <;> rfl
        rw [e]
        by_cases hk : k = .inl (x : Int)
        · subst hk; rw [hs]; simp
        · simp [hk]
      · rw [if_neg hs]
        unfold dkGet
        rw [List.find?_append]
        by_cases hk : k = .inl (x : Int)
        · subst hk; simp
        · have : ¬ (.inl (x : Int) : Key) = k := fun z => hk z.symm
          cases hf : acc.find? (fun q => decide (q.1 = k)) with
          | none => simp [this, hk]
          | some q => simp [hk]
    have hl : (dkPut acc (.inl (x : Int)) (.bool true)).length ≤ acc.length + 1 := by
      unfold dkPut; split <;> simp
    obtain ⟨acc', e, h'⟩ := putK_fold xs (dkPut acc (.inl (x : Int)) (.bool true)) (by simp only [List.length_cons] at h; omega)
    refine ⟨acc', ?_, fun k => ?_⟩
    · rw [List.map_cons, List.foldlM_cons]
      have : putK' acc (encN x) (.bool true) = some (dkPut acc (.inl (x : Int)) (.bool true)) := by
        show (if acc.length < 16000000 then some _ else none) = _
        rw [if_pos (by simp only [List.length_cons] at h; omega)]
      rw [this]; exact e
    · rw [h', get, ← Bool.or_assoc]
      congr 1
      rw [Bool.eq_iff_iff]
      simp only [Bool.or_eq_true, decide_eq_true_iff, List.mem_cons]
      constructor
      · rintro (h | h)
        · exact .inr h
        · injection h with h; exact .inl (by omega)
      · rintro (h | h)
        · exact .inr (by rw [h])
        · exact .inl h
theorem least_ok {l : List Nat} (S : Store) (hl : l.length ≤ 90000) : ∃ kvs, f_least_missing [.v (.list (l.map encN))] S = .ok (.v (.int (mex l : Nat))) (S ++ [.dk kvs]) := by
  obtain ⟨kvs, e, hk⟩ := putK_fold l [] (by simp; omega)
  refine ⟨kvs, ?_⟩
  have hk : ∀ k : Nat, (dkGet kvs (.inl (k : Int))).isSome = decide (k ∈ l) := fun k => by rw [hk k]; simp [dkGet]
  show fin (b_least_missing [some (.v (.list (l.map encN))), none, none, none] S) = _
  unfold b_least_missing
  obtain ⟨S', q, hS'⟩ := dDcG_thr (A := List (Key × PyData)) (putA := putK') (zeroA := []) (acc' := kvs) (cellA := Cell.dk) (own := [3]) (p := .s 3) (i := iSeq (dVar 0)) (t := fYes) (fk := dVar 3) (fv := dC (.bool true)) (env := [some (.v (.list (l.map encN))), none, none, none]) (S := S) (S1 := S) (xs := l.map encN) (fun T => T = S) (fun _ => true) id (fun _ => .bool true) rfl (by simp; omega) rfl (by
      rw [List.filter_eq_self.mpr (fun _ _ => rfl)]; exact e) (by
      rintro x hx S rfl
      exact ⟨_, S, gPat_s _ _, rfl, rfl, fun _ => ⟨rfl, rfl⟩⟩)
  subst hS'
  have s1 : S_least_missing_1 [some (.v (.list (l.map encN))), none, none, none] S' = .ok (.nx [some (.v (.list (l.map encN))), some (.r S'.length), none, none]) (S' ++ [.dk kvs]) := by
    unfold S_least_missing_1 dDcK
    rw [sSet_ap, q]; rfl
  rw [sSeq_ap, s1, thenS_nx, sSeq_ap]
  have s2 : ∀ T, S_least_missing_2 [some (.v (.list (l.map encN))), some (.r S'.length), none, none] T = .ok (.nx [some (.v (.list (l.map encN))), some (.r S'.length), some (.v (.int ((0 : Nat) : Int))), none]) T := fun T => rfl
  rw [s2, thenS_nx, sSeq_ap]
  have ml := mex_le l
  have isin : ∀ k : Nat, dTest (dBin (dInK false) (dVar 2) (dVar 1)) [some (.v (.list (l.map encN))), some (.r S'.length), some (.v (.int (k : Int))), none] (S' ++ [.dk kvs]) = .ok (decide (k ∈ l)) (S' ++ [.dk kvs]) := by
    intro k
    rw [dTest_ap, dBin_ap]
    simp only [dVar_0, dVar_s, bind_okS]
    have : dInK false (.v (.int (k : Int))) (.r S'.length) (S' ++ [.dk kvs]) = .ok (.v (.bool (decide (k ∈ l)))) (S' ++ [.dk kvs]) := by
      unfold dInK
      simp only [dkOf, snoc_get, keyA, hk]
      simp
    rw [this]; rfl
  have s3 : S_least_missing_3 [some (.v (.list (l.map encN))), some (.r S'.length), some (.v (.int ((0 : Nat) : Int))), none] (S' ++ [.dk kvs]) = .ok (.nx [some (.v (.list (l.map encN))), some (.r S'.length), some (.v (.int (mex l : Nat))), none]) (S' ++ [.dk kvs]) := by
    refine wh_count (fun k => [some (.v (.list (l.map encN))), some (.r S'.length), some (.v (.int (k : Int))), none]) (mex l) (fun k hk => ?_) (fun k hk => ?_) ?_ 100000 (by omega)
    · rw [isin, decide_eq_true ((mex_spec l).2 k hk)]
    · rfl
    · rw [isin, decide_eq_false (mex_spec l).1]
  rw [s3, thenS_nx]
  rfl
end K33

set_option Elab.async false
set_option linter.all false
set_option autoImplicit false
set_option maxRecDepth 1000000
/-! k38: the number of a heap by those of lesser ones, in the program -/
namespace K33
open PySem G L2 K38
theorem bit1 : ∀ d : Nat, d < 8 → (Builtin.bitAnd (d : Int) 1 != 0) = decide (d % 2 = 1) := by decide +kernel
theorem bit2 : ∀ d : Nat, d < 8 → (Builtin.bitAnd (d : Int) 2 != 0) = decide (d / 2 % 2 = 1) := by decide +kernel
theorem bit4 : ∀ d : Nat, d < 8 → (Builtin.bitAnd (d : Int) 4 != 0) = decide (d / 4 % 2 = 1) := by decide +kernel
theorem bit1' : ∀ d : Nat, d < 8 → decide (Builtin.bitAnd (d : Int) 1 = 1) = decide (d % 2 = 1) := by decide +kernel
theorem bit2' : ∀ d : Nat, d < 8 → decide (Builtin.bitAnd (d : Int) 2 = 2) = decide (d / 2 % 2 = 1) := by decide +kernel
theorem bit4' : ∀ d : Nat, d < 8 → decide (Builtin.bitAnd (d : Int) 4 = 4) = decide (d / 4 % 2 = 1) := by decide +kernel
theorem xor_nat (a b : Nat) : Builtin.bitXor (a : Int) (b : Int) = ((a ^^^ b : Nat) : Int) := by
  rw [Bits.bitXor_pp (by omega) (by omega)]; simp
theorem atI_map {l : List Nat} {i : Int} {j x : Nat} (hj : i = (j : Int)) (h : l[j]? = some x) : atI (l.map encN) i = some (encN x) := by
  subst hj
  have hl := (List.getElem?_eq_some_iff.mp h).1
  rw [atI_nat' (by simpa using hl)]
  simp only [List.getElem_map, Option.some.injEq]
  rw [List.getElem?_eq_getElem hl] at h
  injection h with h
  rw [h]
def envN (code : List Nat) (n size u : Nat) (d4 d5 d6 : Option D) : DEnv := [some (.v (.tuple (code.map encN))), some (.r n), some (.v (.int (size : Int))), some (.r u), d4, d5, d6, none]
section
variable {code : List Nat} {n size : Nat} {S0 : Store} {row : List Nat} {g : Nat → Nat}
theorem ix_row {S : Store} (hn : S[n]? = some (.lst (row.map encN))) (hr : ∀ i, i < size → row[i]? = some (g i)) {i : Int} {j : Nat} (hj : i = (j : Int)) (h : j < size) : dIx (.r n) (.v (.int i)) S = .ok (.v (.int (g j : Nat))) S := by
  rw [dIx_r hn, atI_map hj (hr j h)]; rfl
theorem next_step (hn : S0[n]? = some (.lst (row.map encN))) (hr : ∀ i, i < size → row[i]? = some (g i)) (hs : size ≤ 3000) {k d : Nat} (hd : d < 8) (hk : k < 12) (acc : List Nat) (ha : acc.length ≤ 80000) (d6 : Option D) :
    L_next_number_0 (envN code n size S0.length (some (.v (.int (k : Int)))) (some (.v (.int (d : Int)))) d6) (S0 ++ [.lst (acc.map encN)]) = .ok (.nx (envN code n size S0.length (some (.v (.int (k : Int)))) (some (.v (.int (d : Int)))) (some (.v (.int ((size : Int) - (k : Int) - 1)))))) (S0 ++ [.lst ((acc ++ digS g size k d).map encN)]) := by
  have hn' : ∀ a : List Nat, (S0 ++ [.lst (a.map encN)])[n]? = some (.lst (row.map encN)) := fun a => by
    rw [List.getElem?_append_left (List.getElem?_eq_some_iff.mp hn).1, hn]
  let E := envN code n size S0.length (some (.v (.int (k : Int)))) (some (.v (.int (d : Int)))) (some (.v (.int ((size : Int) - (k : Int) - 1))))
  let P1 : List Nat := if d % 2 = 1 ∧ size = k + 1 then [0] else []
  let P2 : List Nat := if d / 2 % 2 = 1 ∧ k + 1 < size then [g (size - (k + 1))] else []
  let P3 : List Nat := if d / 4 % 2 = 1 then (List.range ((size - (k + 1)) / 2)).map (fun a => g (a + 1) ^^^ g (size - (k + 1) - (a + 1))) else []
  have l1 : P1.length ≤ 1 := by show (if _ then [0] else []).length ≤ 1; split <;> simp
  have l2 : P2.length ≤ 1 := by show (if _ then [_] else []).length ≤ 1; split <;> simp
  have s0 : ∀ T, sSet 6 (dBin dSub (dBin dSub (dVar 2) (dVar 4)) (dC (.int 1))) (envN code n size S0.length (some (.v (.int (k : Int)))) (some (.v (.int (d : Int)))) d6) T = .ok (.nx E) T := fun T => rfl
  have app : ∀ (a : List Nat) (x : Nat) (f : FE), a.length ≤ 80010 → f E (S0 ++ [.lst (a.map encN)]) = .ok (.v (encN x)) (S0 ++ [.lst (a.map encN)]) → sExpr (dMtL omAppend (dVar 3) (dConsA f dNilA)) E (S0 ++ [.lst (a.map encN)]) = .ok (.nx E) (S0 ++ [.lst ((a ++ [x]).map encN)]) := by
    intro a x f hl hf
    have e := dMtL_ok (env := E) (op := omAppend) (f := dVar 3) (g := dConsA f dNilA) (d := .r S0.length) (ds := [.v (encN x)]) (xs := a.map encN) (S := S0 ++ [.lst (a.map encN)]) rfl (listOf_r (snoc_get _ _)) (S2 := S0 ++ [.lst (a.map encN)]) (by rw [dConsA_ap, hf]; rfl)
    rw [sExpr_ap, e, omAppend_ok (snoc_get _ _) (by simp; omega), lift_ok, snoc_set, List.map_append]; rfl
  have s1 : sIf (tAndD (dTru (dBin dAnd (dVar 5) (dC (.int 1)))) (dTest (dBin dEq (dVar 6) (dC (.int 0))))) (sExpr (dMtL omAppend (dVar 3) (dConsA (dC (.int 0)) dNilA))) sNil E (S0 ++ [.lst (acc.map encN)]) = .ok (.nx E) (S0 ++ [.lst ((acc ++ P1).map encN)]) := by
    have t : ∀ T, tAndD (dTru (dBin dAnd (dVar 5) (dC (.int 1)))) (dTest (dBin dEq (dVar 6) (dC (.int 0)))) E T = .ok (decide (d % 2 = 1 ∧ size = k + 1)) T := fun T => by
      show ((dTru (dBin dAnd (dVar 5) (dC (.int 1)))) E T).bind _ = _
      rw [show dTru (dBin dAnd (dVar 5) (dC (.int 1))) E T = .ok (Builtin.bitAnd (d : Int) 1 != 0) T from rfl, bit1 d hd, bind_okS]
      by_cases h : d % 2 = 1
      · rw [decide_eq_true h, if_pos rfl]
        show (((dEq (.v (.int ((size : Int) - (k : Int) - 1))) (.v (.int 0)) T)).bind asB) = _
        rw [dEq_ii, bind_okS, asB_b]
        congr 1
        rw [decide_eq_decide]
        omega
      · rw [decide_eq_false h, decide_eq_false (fun z => h z.1)]; rfl
    rw [sIf_ap, t, lift_ok]
    by_cases h : d % 2 = 1 ∧ size = k + 1
    · rw [decide_eq_true h, if_pos rfl, app acc 0 _ (by omega) rfl]
      show _ = Res.ok _ (S0 ++ [.lst ((acc ++ (if d % 2 = 1 ∧ size = k + 1 then [0] else [])).map encN)])
      rw [if_pos h]
    · rw [decide_eq_false h]
      show _ = Res.ok _ (S0 ++ [.lst ((acc ++ (if d % 2 = 1 ∧ size = k + 1 then [0] else [])).map encN)])
      rw [if_neg h, List.append_nil]; rfl
  have s2 : sIf (tAndD (dTru (dBin dAnd (dVar 5) (dC (.int 2)))) (dTest (dBin dGt (dVar 6) (dC (.int 0))))) (sExpr (dMtL omAppend (dVar 3) (dConsA (dBin dIx (dVar 1) (dVar 6)) dNilA))) sNil E (S0 ++ [.lst ((acc ++ P1).map encN)]) = .ok (.nx E) (S0 ++ [.lst ((acc ++ P1 ++ P2).map encN)]) := by
    have t : ∀ T, tAndD (dTru (dBin dAnd (dVar 5) (dC (.int 2)))) (dTest (dBin dGt (dVar 6) (dC (.int 0)))) E T = .ok (decide (d / 2 % 2 = 1 ∧ k + 1 < size)) T := fun T => by
      show ((dTru (dBin dAnd (dVar 5) (dC (.int 2)))) E T).bind _ = _
      rw [show dTru (dBin dAnd (dVar 5) (dC (.int 2))) E T = .ok (Builtin.bitAnd (d : Int) 2 != 0) T from rfl, bit2 d hd, bind_okS]
      by_cases h : d / 2 % 2 = 1
      · rw [decide_eq_true h, if_pos rfl]
        show (((dGt (.v (.int ((size : Int) - (k : Int) - 1))) (.v (.int 0)) T)).bind asB) = _
        rw [dGt_ii, bind_okS, asB_b]
        congr 1
        rw [decide_eq_decide]
        omega
      · rw [decide_eq_false h, decide_eq_false (fun z => h z.1)]; rfl
    rw [sIf_ap, t, lift_ok]
    by_cases h : d / 2 % 2 = 1 ∧ k + 1 < size
    · rw [decide_eq_true h, if_pos rfl, app (acc ++ P1) (g (size - (k + 1))) _ (by rw [List.length_append]; omega) (ix_row (hn' _) hr (j := size - (k + 1)) (by omega) (by omega))]
      show _ = Res.ok _ (S0 ++ [.lst ((acc ++ P1 ++ (if d / 2 % 2 = 1 ∧ k + 1 < size then [g (size - (k + 1))] else [])).map encN)])
      rw [if_pos h]
    · rw [decide_eq_false h]
      show _ = Res.ok _ (S0 ++ [.lst ((acc ++ P1 ++ (if d / 2 % 2 = 1 ∧ k + 1 < size then [g (size - (k + 1))] else [])).map encN)])
      rw [if_neg h, List.append_nil]; rfl
  have s3 : sIf (dTru (dBin dAnd (dVar 5) (dC (.int 4)))) (sExpr (dMtL omExtend (dVar 3) (dConsA (dLc [7] (.s 7) (iRange2 (dC (.int 1)) (dBin dAdd (dBin dDiv (dVar 6) (dC (.int 2))) (dC (.int 1)))) fYes (dCall f_nim_sum (dConsA (dBin dIx (dVar 1) (dVar 7)) (dConsA (dBin dIx (dVar 1) (dBin dSub (dVar 6) (dVar 7))) dNilA)) [])) dNilA))) sNil E (S0 ++ [.lst ((acc ++ P1 ++ P2).map encN)]) = .ok (.nx E) (S0 ++ [.lst ((acc ++ P1 ++ P2 ++ P3).map encN)]) := by
    generalize hT : acc ++ P1 ++ P2 = a
    have hla : a.length ≤ 80002 := by rw [← hT, List.length_append, List.length_append]; omega
    rw [sIf_ap, show ∀ T, dTru (dBin dAnd (dVar 5) (dC (.int 4))) E T = .ok (Builtin.bitAnd (d : Int) 4 != 0) T from fun T => rfl, bit4 d hd, lift_ok]
    by_cases h : d / 4 % 2 = 1
    · rw [decide_eq_true h, if_pos rfl]
      have hc : dLc [7] (.s 7) (iRange2 (dC (.int 1)) (dBin dAdd (dBin dDiv (dVar 6) (dC (.int 2))) (dC (.int 1)))) fYes (dCall f_nim_sum (dConsA (dBin dIx (dVar 1) (dVar 7)) (dConsA (dBin dIx (dVar 1) (dBin dSub (dVar 6) (dVar 7))) dNilA)) []) E (S0 ++ [.lst (a.map encN)]) = .ok (.v (.list (P3.map encN))) (S0 ++ [.lst (a.map encN)]) := by
        have h0 : iRange2 (dC (.int 1)) (dBin dAdd (dBin dDiv (dVar 6) (dC (.int 2))) (dC (.int 1))) E (S0 ++ [.lst (a.map encN)]) = .ok (rangeD 1 ((size - (k + 1)) / 2)) (S0 ++ [.lst (a.map encN)]) := by
          refine iRange2_ok (a := 1) (b := ((size : Int) - k - 1) / 2 + 1) rfl ?_ (by omega) (by decide) (by decide) (by omega) (by omega)
          show ((dDiv (.v (.int ((size : Int) - (k : Int) - 1))) (.v (.int 2)) _).bind _) = _
          rw [dDiv_ii _ _ (by decide) (by decide)]; rfl
        rw [dLc_ok (xs := rangeD 1 ((size - (k + 1)) / 2)) (fun _ => true) (fun x => match x with | .int i => encN (g i.toNat ^^^ g (size - (k + 1) - i.toNat)) | _ => .none) h0 (by rw [rangeD_len]; omega)]
        · rw [List.filter_eq_self.mpr (fun _ _ => rfl)]
          congr 3
          show _ = (if d / 4 % 2 = 1 then (List.range ((size - (k + 1)) / 2)).map (fun a => g (a + 1) ^^^ g (size - (k + 1) - (a + 1))) else []).map encN
          rw [if_pos h]
          unfold rangeD
          rw [List.map_map, List.map_map]
          refine List.map_congr_left fun i hi => ?_
          show encN (g (1 + (i : Int)).toNat ^^^ g (size - (k + 1) - (1 + (i : Int)).toNat)) = _
          rw [show (1 + (i : Int)).toNat = i + 1 by omega]; rfl
        · intro x hx
          obtain ⟨i, hi, rfl⟩ := mem_range.mp hx
          refine ⟨_, gPat_s _ _, rfl, fun _ => ?_⟩
          show ((dIx (.r n) (.v (.int (1 + (i : Int)))) (S0 ++ [.lst (a.map encN)])).bind _).bind _ = _
          rw [ix_row (hn' _) hr (j := i + 1) (by omega) (by omega), bind_okS]
          show (((dIx (.r n) (.v (.int (((size : Int) - (k : Int) - 1) - (1 + (i : Int))))) (S0 ++ [.lst (a.map encN)])).bind _).bind _).bind _ = _
          rw [ix_row (hn' _) hr (j := size - (k + 1) - (i + 1)) (by omega) (by omega), bind_okS]
          show trunc _ (f_nim_sum [.v (.int (g (i + 1) : Nat)), .v (.int (g (size - (k + 1) - (i + 1)) : Nat))] (S0 ++ [.lst (a.map encN)])) = _
          show trunc _ (Res.ok (D.v (.int (Builtin.bitXor (g (i + 1) : Nat) (g (size - (k + 1) - (i + 1)) : Nat)))) (S0 ++ [.lst (a.map encN)])) = _
          rw [xor_nat, trunc_v, List.take_length]
          show _ = Res.ok (D.v (encN (g (1 + (i : Int)).toNat ^^^ g (size - (k + 1) - (1 + (i : Int)).toNat)))) _
          rw [show (1 + (i : Int)).toNat = i + 1 by omega]; rfl
      have l3 : P3.length ≤ 3000 := by
        show (if _ then _ else []).length ≤ 3000
        rw [if_pos h, List.length_map, List.length_range]; omega
      have e := dMtL_ok (env := E) (op := omExtend) (f := dVar 3) (d := .r S0.length) (xs := a.map encN) (S := S0 ++ [.lst (a.map encN)]) rfl (listOf_r (snoc_get _ _)) (S2 := S0 ++ [.lst (a.map encN)]) (g := dConsA (dLc [7] (.s 7) (iRange2 (dC (.int 1)) (dBin dAdd (dBin dDiv (dVar 6) (dC (.int 2))) (dC (.int 1)))) fYes (dCall f_nim_sum (dConsA (dBin dIx (dVar 1) (dVar 7)) (dConsA (dBin dIx (dVar 1) (dBin dSub (dVar 6) (dVar 7))) dNilA)) [])) dNilA) (ds := [.v (.list (P3.map encN))]) (by rw [dConsA_ap, hc]; rfl)
      rw [sExpr_ap, e, omExtend_ok (snoc_get _ _) (listOf_v _) (by rw [List.length_map, List.length_map]; omega), lift_ok, snoc_set, List.map_append]
    · rw [decide_eq_false h]
      show _ = Res.ok _ (S0 ++ [.lst ((a ++ (if d / 4 % 2 = 1 then (List.range ((size - (k + 1)) / 2)).map (fun a => g (a + 1) ^^^ g (size - (k + 1) - (a + 1))) else [])).map encN)])
      rw [if_neg h, List.append_nil]; rfl
  unfold L_next_number_0
  rw [sSeq_ap, s0, thenS_nx, sSeq_ap, s1, thenS_nx, sSeq_ap, s2, thenS_nx, s3]
  rw [List.append_assoc, List.append_assoc]; rfl
theorem usedF_take : ∀ (code : List Nat) (k i : Nat) (d : Nat), code[i]? = some d → usedF g size k (code.take (i + 1)) = usedF g size k (code.take i) ++ digS g size (k + i) d
  | [], _, _, _, h => by simp at h
  | c :: r, k, 0, d, h => by
    simp at h; subst h
    simp [usedF]
  | c :: r, k, i + 1, d, h => by
    rw [List.take_succ_cons, List.take_succ_cons, usedF, usedF, usedF_take r (k + 1) i d (by simpa using h), List.append_assoc, show k + 1 + i = k + (i + 1) by omega]
theorem digS_len (k d : Nat) : (digS g size k d).length ≤ size + 2 := by
  unfold digS
  rw [List.length_append, List.length_append]
  have : (if d % 2 = 1 ∧ size = k + 1 then [0] else []).length ≤ 1 := by split <;> simp
  have : (if d / 2 % 2 = 1 ∧ k + 1 < size then [g (size - (k + 1))] else []).length ≤ 1 := by split <;> simp
  have : (if d / 4 % 2 = 1 then (List.range ((size - (k + 1)) / 2)).map (fun a => g (a + 1) ^^^ g (size - (k + 1) - (a + 1))) else []).length ≤ size := by
    split
    · rw [List.length_map, List.length_range]; omega
    · simp
  omega
theorem usedF_len : ∀ (code : List Nat) (k : Nat), (usedF g size k code).length ≤ code.length * (size + 2)
  | [], _ => by simp [usedF]
  | c :: r, k => by
    rw [usedF, List.length_append, List.length_cons, Nat.succ_mul]
    have := usedF_len r (k + 1)
    have := digS_len (g := g) (size := size) k c
    omega
theorem enum_at {xs : List PyData} {i : Nat} {x : PyData} (h : (enumD xs)[i]? = some x) : ∃ y, xs[i]? = some y ∧ x = .tuple [.int (i : Int), y] := by
  unfold enumD at h
  rw [List.getElem?_map, List.getElem?_zipIdx] at h
  cases hx : xs[i]? with
  | none => rw [hx] at h; simp at h
  | some y => rw [hx] at h; simp at h; exact ⟨y, rfl, h.symm⟩
theorem small_mul {a b : Nat} (h : a ≤ 12) (h2 : b ≤ 3002) : a * b ≤ 80000 := Nat.le_trans (Nat.mul_le_mul h h2) (by decide)
theorem next_ok (hn : S0[n]? = some (.lst (row.map encN))) (hr : ∀ i, i < size → row[i]? = some (g i)) (hs : size ≤ 3000) (hc : code.length ≤ 12) (h8 : ∀ d ∈ code, d < 8) :
    ∃ X, f_next_number [.v (.tuple (code.map encN)), .r n, .v (.int (size : Int))] S0 = .ok (.v (.int (mex (usedS g code size) : Nat))) (S0 ++ X) := by
  have sub : ∀ i, (usedF g size 0 (code.take i)).length ≤ 80000 := fun i => Nat.le_trans (usedF_len _ _) (small_mul (by rw [List.length_take]; omega) (by omega))
  obtain ⟨env', S', e, d4, d5, d6, he, hS'⟩ := forL_inv (p := .t [(.s 4), (.s 5)]) (body := L_next_number_0) (xs := enumD (code.map encN))
    (fun i env S => ∃ d4 d5 d6, env = envN code n size S0.length d4 d5 d6 ∧ S = S0 ++ [.lst ((usedF g size 0 (code.take i)).map encN)]) (by
      rintro i x env S hx ⟨d4, d5, d6, rfl, rfl⟩
      obtain ⟨y, hy, rfl⟩ := enum_at hx
      rw [List.getElem?_map] at hy
      cases hd : code[i]? with
      | none => rw [hd] at hy; cases hy
      | some d =>
        rw [hd] at hy
        injection hy with hy
        subst hy
        have hi := (List.getElem?_eq_some_iff.mp hd).1
        refine ⟨envN code n size S0.length (some (.v (.int (i : Int)))) (some (.v (.int (d : Int)))) d6, rfl, _, _, .inl (next_step hn hr hs (h8 d (List.mem_of_getElem? hd)) (by omega) _ (sub i) d6), _, _, _, rfl, ?_⟩
        rw [usedF_take code 0 i d hd, Nat.zero_add]) (envN code n size S0.length none none none) (S0 ++ [.lst []]) ⟨none, none, none, rfl, by simp [usedF]⟩
  subst he hS'
  rw [show (enumD (code.map encN)).length = code.length by simp [enumD], List.take_length] at e
  have lo := sub code.length
  rw [List.take_length] at lo
  show ∃ X, fin (b_next_number (envN code n size 0 none none none |>.set 3 none) S0) = _
  unfold b_next_number
  have s1 : S_next_number_1 ((envN code n size 0 none none none).set 3 none) S0 = .ok (.nx (envN code n size S0.length none none none)) (S0 ++ [.lst []]) := rfl
  have s2 : S_next_number_2 (envN code n size S0.length none none none) (S0 ++ [.lst []]) = .ok (.nx (envN code n size S0.length d4 d5 d6)) (S0 ++ [.lst ((usedF g size 0 code).map encN)]) := by
    unfold S_next_number_2
    rw [sFor_ap, show iEnumD (dVar 0) (envN code n size S0.length none none none) (S0 ++ [.lst []]) = .ok (enumD (code.map encN)) (S0 ++ [.lst []]) from rfl, lift_ok, e]
  have s3 : S_next_number_3 (envN code n size S0.length d4 d5 d6) (S0 ++ [.lst ((usedF g size 0 code).map encN)]) = .ok (.rt (.v (.int (mex (usedS g code size) : Nat)))) (S0 ++ [.dead]) := by
    unfold S_next_number_3
    rw [sFrz_r (n := S0.length) (xs := (usedF g size 0 code).map encN) rfl (snoc_get _ _), snoc_set, sRet_ap, dCall_ap]
    obtain ⟨kvs, e2⟩ := least_ok (l := usedF g size 0 code) (S0 ++ [.dead]) (by omega)
    show lift _ (trunc _ (f_least_missing [.v (.list ((usedF g size 0 code).map encN))] (S0 ++ [.dead]))) _ = _
    rw [e2, trunc_v, List.take_left]; rfl
  exact ⟨[.dead], by rw [sSeq_ap, s1, thenS_nx, sSeq_ap, s2, thenS_nx, s3, fin_rt]⟩
end
end K33

set_option Elab.async false
set_option linter.all false
set_option autoImplicit false
set_option maxRecDepth 1000000
/-! k38: heap_numbers and shows_round, in the program -/
namespace K33
open PySem G L2 K38
/-- a code of the law -/
def Code (code : List Nat) : Prop := 1 ≤ code.length ∧ code.length ≤ 12 ∧ ∀ d ∈ code, d < 8
theorem code_ok {code : List Nat} (h : Code code) (S : Store) : f_is_code [.v (.tuple (code.map encN))] S = .ok (.v (.bool true)) S := by
  obtain ⟨h1, h2, h3⟩ := h
  show fin (b_is_code [some (.v (.tuple (code.map encN))), none] S) = _
  unfold b_is_code
  have s0 : S_is_code_0 [some (.v (.tuple (code.map encN))), none] S = .ok (.nx [some (.v (.tuple (code.map encN))), none]) S := by
    unfold S_is_code_0
    have h1' : (1 : Int) ≤ code.length := by omega
    have h2' : (code.length : Int) ≤ 12 := by omega
    rw [sIf_ap]
    simp [dChain, h1', h2']
  have s1 : S_is_code_1 [some (.v (.tuple (code.map encN))), none] S = .ok (.rt (.v (.bool true))) S := by
    unfold S_is_code_1
    have hc : dLc [1] (.s 1) (iSeq (dVar 0)) fYes (dAndV (dCall f_is_whole (dConsA (dVar 1) dNilA) []) (dChain dLe dLe (dC (.int 0)) (dVar 1) (dC (.int 7)))) [some (.v (.tuple (code.map encN))), none] S = .ok (.v (.list ((code.map fun _ => true).map .bool))) S := by
      rw [dLc_ok (xs := code.map encN) (fun _ => true) (fun _ => .bool true) rfl (by rw [List.length_map]; omega)]
      · rw [List.filter_eq_self.mpr (fun _ _ => rfl), List.map_map, List.map_map]; rfl
      · intro x hx
        obtain ⟨d, hd, rfl⟩ := List.mem_map.mp hx
        refine ⟨_, gPat_s _ _, rfl, fun _ => ?_⟩
        have := h3 d hd
        have w : f_is_whole [.v (encN d)] S = .ok (.v (.bool true)) S := rfl
        have c0 : (0 : Int) ≤ d := by omega
        have c1 : (d : Int) ≤ 7 := by omega
        simp [dChain, w, encN, c0, c1] 
        simp [encN] at w
        simp [w]
    rw [sRet_ap, dBlt_ap, dConsA_ap, hc]
    simp only [bind_okS, dNilA_ap, opAll_bs, lift_ok]
    congr 3
    simp
  rw [sSeq_ap, s0, thenS_nx, s1, fin_rt]
theorem look_ok {code : List Nat} (h : Code code) (S : Store) : ∃ X, f_look_at_code [.v (.tuple (code.map encN))] S = .ok X S := by
  refine ⟨.v .none, ?_⟩
  show fin (b_look_at_code [some (.v (.tuple (code.map encN)))] S) = _
  unfold b_look_at_code S_look_at_code_0
  rw [sIf_ap, tNotD_ap, dTru_ap, dCall_ap]
  show fin (lift _ (((trunc _ (f_is_code [.v (.tuple (code.map encN))] S)).bind _).bind _) _) = _
  rw [code_ok h, trunc_v, List.take_length]
  rfl
theorem heaps_ok {code : List Nat} (h : Code code) {count : Nat} (hc : count ≤ 3000) (S0 : Store) : ∃ X, f_heap_numbers [.v (.tuple (code.map encN)), .v (.int (count : Int))] S0 = .ok (.v (.tuple ((numsS code count).map encN))) (S0 ++ X) := by
  let E (n : Nat) (d3 : Option D) : DEnv := [some (.v (.tuple (code.map encN))), some (.v (.int (count : Int))), some (.r n), d3]
  obtain ⟨env', S', e, d3, he, hS'⟩ := forL_inv (p := .s 3) (body := L_heap_numbers_0) (xs := rangeD 0 count)
    (fun i env S => ∃ d3, env = E S0.length d3 ∧ S = S0 ++ [.lst ((numsS code i).map encN)]) (by
      rintro i x env S hx ⟨d3, rfl, rfl⟩
      have hi := (List.getElem?_eq_some_iff.mp hx).1
      rw [rangeD_len] at hi
      have hxv : x = .int (i : Int) := by
        unfold rangeD at hx
        rw [List.getElem?_map, List.getElem?_range hi] at hx
        simp at hx; exact hx.symm
      subst hxv
      refine ⟨_, gPat_s _ _, _, _, .inl (?_ : _ = Res.ok (Out.nx (E S0.length (some (.v (.int (i : Int)))))) (S0 ++ [.lst ((numsS code (i + 1)).map encN)])), _, rfl, rfl⟩
      obtain ⟨X, e⟩ := next_ok (n := S0.length) (size := i) (S0 := S0 ++ [.lst ((numsS code i).map encN)]) (row := numsS code i) (g := gS code) (code := code) (snoc_get _ _) (numsS_get code i) (by omega) h.2.1 h.2.2
      have hcall : dConsA (dCall f_next_number (dConsA (dVar 0) (dConsA (dVar 2) (dConsA (dVar 3) dNilA))) []) dNilA (E S0.length (some (.v (.int (i : Int))))) (S0 ++ [.lst ((numsS code i).map encN)]) = .ok [.v (encN (gS code i))] (S0 ++ [.lst ((numsS code i).map encN)]) := by
        rw [dConsA_ap, dCall_ap]
        show (trunc _ (f_next_number [.v (.tuple (code.map encN)), .r S0.length, .v (.int (i : Int))] (S0 ++ [.lst ((numsS code i).map encN)]))).bind _ = _
        rw [e, trunc_v, List.take_left, ← gS_eq]; rfl
      have e2 := dMtL_ok (env := E S0.length (some (.v (.int (i : Int))))) (op := omAppend) (f := dVar 2) (d := .r S0.length) (xs := (numsS code i).map encN) (S := S0 ++ [.lst ((numsS code i).map encN)]) rfl (listOf_r (snoc_get _ _)) hcall
      show L_heap_numbers_0 (E S0.length (some (.v (.int (i : Int))))) _ = _
      unfold L_heap_numbers_0
      rw [sExpr_ap, e2, omAppend_ok (snoc_get _ _) (by rw [List.length_map, numsS_len]; omega), lift_ok, snoc_set]
      congr 4
      rw [numsS_map, numsS_map, List.range_succ, List.map_append, List.map_append]; rfl) (E S0.length none) (S0 ++ [.lst []]) ⟨none, rfl, rfl⟩
  subst he hS'
  rw [rangeD_len] at e
  refine ⟨[.lst ((numsS code count).map encN)], ?_⟩
  show fin (b_heap_numbers [some (.v (.tuple (code.map encN))), some (.v (.int (count : Int))), none, none] S0) = _
  unfold b_heap_numbers
  have s1 : S_heap_numbers_1 [some (.v (.tuple (code.map encN))), some (.v (.int (count : Int))), none, none] S0 = .ok (.nx [some (.v (.tuple (code.map encN))), some (.v (.int (count : Int))), none, none]) S0 := by
    obtain ⟨x, e1⟩ := look_ok h S0
    unfold S_heap_numbers_1
    rw [sExpr_ap, dCall_ap]
    show lift _ (trunc _ (f_look_at_code [.v (.tuple (code.map encN))] S0)) _ = _
    rw [show f_look_at_code [.v (.tuple (code.map encN))] S0 = .ok (.v .none) S0 from ?_, trunc_v, List.take_length]; rfl
    show fin (b_look_at_code [some (.v (.tuple (code.map encN)))] S0) = _
    unfold b_look_at_code S_look_at_code_0
    rw [sIf_ap, tNotD_ap, dTru_ap, dCall_ap]
    show fin (lift _ (((trunc _ (f_is_code [.v (.tuple (code.map encN))] S0)).bind _).bind _) _) = _
    rw [code_ok h, trunc_v, List.take_length]
    rfl
  have s2 : S_heap_numbers_2 [some (.v (.tuple (code.map encN))), some (.v (.int (count : Int))), none, none] S0 = .ok (.nx [some (.v (.tuple (code.map encN))), some (.v (.int (count : Int))), none, none]) S0 := by
    unfold S_heap_numbers_2
    have c : dTest (dBin dGt (dVar 1) (dC (.int (3000)))) [some (.v (.tuple (code.map encN))), some (.v (.int (count : Int))), none, none] S0 = .ok false S0 := by
      simp; omega
    rw [sIf_ap, c]; rfl
  have s3 : S_heap_numbers_3 [some (.v (.tuple (code.map encN))), some (.v (.int (count : Int))), none, none] S0 = .ok (.nx (E S0.length none)) (S0 ++ [.lst []]) := rfl
  have s4 : S_heap_numbers_4 (E S0.length none) (S0 ++ [.lst []]) = .ok (.nx (E S0.length d3)) (S0 ++ [.lst ((numsS code count).map encN)]) := by
    unfold S_heap_numbers_4
    rw [sFor_ap, iRange1_ok (b := (count : Int)) (n := count) (S1 := S0 ++ [.lst []]) rfl (by omega) (by omega) (by omega), lift_ok, e]
  have s5 : S_heap_numbers_5 (E S0.length d3) (S0 ++ [.lst ((numsS code count).map encN)]) = .ok (.rt (.v (.tuple ((numsS code count).map encN)))) (S0 ++ [.lst ((numsS code count).map encN)]) := by
    unfold S_heap_numbers_5
    rw [sRet_ap, dBlt_ap]
    have : opTuple [.r S0.length] (S0 ++ [.lst ((numsS code count).map encN)]) = .ok (.v (.tuple ((numsS code count).map encN))) (S0 ++ [.lst ((numsS code count).map encN)]) := by
      simp [opTuple, seqOf]
    show lift _ ((Res.ok [D.r S0.length] (S0 ++ [.lst ((numsS code count).map encN)])).bind opTuple) _ = _
    rw [bind_okS, this]; rfl
  rw [sSeq_ap, s1, thenS_nx, sSeq_ap, s2, thenS_nx, sSeq_ap, s3, thenS_nx, sSeq_ap, s4, thenS_nx, s5, fin_rt]
end K33

set_option Elab.async false
set_option linter.all false
set_option autoImplicit false
set_option maxRecDepth 1000000
/-! k33: the parts of a web -/
namespace K33
open PySem G L2 K38
def toI (r : NR) : List Int := r.map fun n : Nat => (n : Int)
def encW (r : NR) : PyData := .tuple (r.map encN)
def encL (r : NR) : PyData := .list (r.map encN)
def nearD (t : Ties) (count : Nat) : PyData := .list ((List.range count).map fun k => encL (nb t k))
theorem app_get (S X : Store) (j : Nat) : (S ++ X)[S.length + j]? = X[j]? := by
  rw [List.getElem?_append_right (by omega)]; congr 1; omega
theorem app_get0 (S X : Store) : (S ++ X)[S.length]? = X[0]? := app_get S X 0
theorem app_set (S X : Store) (j : Nat) (c : Cell) : (S ++ X).set (S.length + j) c = S ++ X.set j c := by
  rw [List.set_append_right _ _ (by omega)]; congr 2; omega
theorem app_set0 (S X : Store) (c : Cell) : (S ++ X).set S.length c = S ++ X.set 0 c := app_set S X 0 c
/-! dicts of some numbers -/
def pd (p : NR) : List (Key × PyData) := p.map fun k : Nat => (.inl (k : Int), .bool true)
theorem pd_len (p : NR) : (pd p).length = p.length := by unfold pd; rw [List.length_map]
theorem pd_get (k : Nat) : ∀ p : NR, (dkGet (pd p) (.inl (k : Int))).isSome = decide (k ∈ p)
  | [] => rfl
  | a :: p => by
    have ih := pd_get k p
    unfold dkGet pd at ih ⊢
    rw [List.map_cons, List.find?_cons]
    by_cases h : a = k
    · subst h
      simp
    · have : ¬ ((Sum.inl (a : Int) : Key) = .inl (k : Int)) := fun z => by injection z with z; omega
      rw [decide_eq_false this, ih, decide_eq_decide, List.mem_cons]
      exact ⟨.inr, fun z => z.elim (fun e => absurd e.symm h) id⟩
theorem pd_put {p : NR} {k : Nat} (h : k ∉ p) : dkPut (pd p) (.inl (k : Int)) (.bool true) = pd (p ++ [k]) := by
  unfold dkPut
  rw [pd_get, decide_eq_false h, if_neg Bool.false_ne_true]
  unfold pd
  rw [List.map_append]; rfl
theorem pd_merge : ∀ (s p : NR), (∀ x ∈ p, x ∉ s) → p.Nodup → dkMerge (pd s) (pd p) = pd (s ++ p)
  | s, [], _, _ => by rw [List.append_nil]; rfl
  | s, a :: p, h, nd => by
    have := pd_merge (s ++ [a]) p (fun x hx => by
      rw [List.mem_append, List.mem_singleton]
      rintro (z | z)
      · exact h x (List.mem_cons_of_mem _ hx) z
      · subst z; exact (List.nodup_cons.mp nd).1 hx) (List.nodup_cons.mp nd).2
    unfold dkMerge at this ⊢
    rw [List.append_assoc] at this
    rw [show pd (a :: p) = (.inl (a : Int), .bool true) :: pd p from rfl, List.foldl_cons, pd_put (h a List.mem_cons_self), this]; rfl
theorem pd_ints : ∀ p : NR, intK (pd p) = some (toI p)
  | [] => rfl
  | a :: p => by
    show (intK (pd p)).map _ = _
    rw [pd_ints p]; rfl
theorem mem_toI {k : Nat} {r : NR} : (k : Int) ∈ toI r ↔ k ∈ r := by
  unfold toI
  rw [List.mem_map]
  exact ⟨fun ⟨a, h, e⟩ => by rwa [← Int.ofNat.inj e], fun h => ⟨k, h, rfl⟩⟩
theorem dedI_id : ∀ {l : List Int}, l.Nodup → dedI l = l
  | [], _ => rfl
  | a :: l, h => by
    have h := List.nodup_cons.mp h
    rw [dedI, dedI_id h.2, if_neg h.1]
theorem sort_part {left p : NR} (hl : left.Pairwise (· < ·)) (hn : p.Nodup) (hs : ∀ x ∈ p, x ∈ left) : sortI (toI p) = toI (left.filter fun o => decide (o ∈ p)) := by
  have nd : (toI p).Nodup := List.pairwise_map.mpr (hn.imp fun h e => h (by omega))
  rw [sortI_one (l := toI p) (m := toI (left.filter fun o => decide (o ∈ p))) ?_ ?_, dedI_id nd]
  · exact List.pairwise_map.mpr ((hl.filter _).imp fun h => by omega)
  · intro x
    unfold toI
    rw [List.mem_map, List.mem_map]
    constructor
    · rintro ⟨a, ha, rfl⟩
      exact ⟨a, of_decide_eq_true (List.mem_filter.mp ha).2, rfl⟩
    · rintro ⟨a, ha, rfl⟩
      exact ⟨a, List.mem_filter.mpr ⟨hs a ha, decide_eq_true ha⟩, rfl⟩
/-! membership -/
theorem in_seqN {l : NR} {k : Nat} (neg : Bool) (S : Store) : dInS neg (.v (.int (k : Int))) (.v (.list (l.map encN))) S = .ok (.v (.bool (neg != decide (k ∈ l)))) S := by
  rw [dIn_l (k := 1) (j := 2) (show nD 1 (.int (k : Int)) from trivial) (fun x hx => by obtain ⟨i, _, rfl⟩ := List.mem_map.mp hx; exact trivial) (by decide) (by decide) neg (decide (k ∈ l))]
  rw [decide_eq_true_iff, List.mem_map]
  constructor
  · exact fun hk => ⟨k, hk, rfl⟩
  · rintro ⟨j, hj, e⟩
    unfold encN at e
    injection e with e
    rw [show k = j by omega]; exact hj
theorem in_tupN {l : NR} {k : Nat} (neg : Bool) (S : Store) : dInS neg (.v (.int (k : Int))) (.v (encW l)) S = .ok (.v (.bool (neg != decide (k ∈ l)))) S := (show dInS neg (.v (.int (k : Int))) (.v (encW l)) S = dInS neg (.v (.int (k : Int))) (.v (.list (l.map encN))) S from rfl).trans (in_seqN neg S)
theorem in_pd {p : NR} {k n : Nat} {S : Store} (neg : Bool) (h : S[n]? = some (.dk (pd p))) : dInK neg (.v (.int (k : Int))) (.r n) S = .ok (.v (.bool (neg != decide (k ∈ p)))) S := by
  have : dkOf S (.r n) = some (pd p) := by simp only [dkOf, h]
  unfold dInK
  rw [this]
  simp only [keyA, pd_get]; rfl
/-- a loop with a measure -/
theorem wh_meas {c : FT} {body : FS} (Inv : Nat → DEnv → Store → Prop) (Fin : DEnv → Store → Prop)
    (step : ∀ n env S, Inv n env S → (c env S = .ok false S ∧ Fin env S) ∨ (c env S = .ok true S ∧ ∃ env' S' n', n' < n ∧ body env S = .ok (.nx env') S' ∧ Inv n' env' S')) :
    ∀ (fuel n : Nat) (env : DEnv) (S : Store), Inv n env S → n < fuel → ∃ env' S', sWhile c body fuel env S = .ok (.nx env') S' ∧ Fin env' S'
  | 0, n, _, _, _, h => absurd h (Nat.not_lt_zero n)
  | fuel + 1, n, env, S, hI, h => by
    rcases step n env S hI with ⟨e, f⟩ | ⟨e, env', S', n', hn, eb, hI'⟩
    · refine ⟨env, S, ?_, f⟩
      show lift env (c env S) _ = _
      rw [e]; rfl
    · obtain ⟨env2, S2, e2, f2⟩ := wh_meas Inv Fin step fuel n' env' S' hI' (by omega)
      refine ⟨env2, S2, ?_, f2⟩
      show lift env (c env S) _ = _
      rw [e, lift_ok, if_pos rfl, eb]
      exact e2
/-! one part -/
def envP (t : Ties) (count : Nat) (left : NR) (f s p : Nat) (place : Nat) (d7 : Option D) : DEnv := [some (.v (nearD t count)), some (.v (encW left)), some (.r f), some (.r s), some (.v (.int (place : Int))), some (.r p), some (.r (p + 1)), d7]
theorem near_at {t : Ties} {count k : Nat} (h : k < count) (S : Store) : dIx (.v (nearD t count)) (.v (.int (k : Int))) S = .ok (.v (encL (nb t k))) S := by
  show dIx (.v (.list _)) _ _ = _
  rw [dIx_l, L2.atI_nat (show ((List.range count).map fun k => encL (nb t k))[k]? = some (encL (nb t k)) by rw [List.getElem?_map, List.getElem?_range h]; rfl)]
theorem length_le_of_sub {p left : NR} (hn : p.Nodup) (hs : ∀ x ∈ p, x ∈ left) : p.length ≤ left.length := few_of p left hn hs
section
variable {t : Ties} {count : Nat} {left : NR} {B : Store} {f s place : Nat}
/-- the neighbours of a place are put to the part -/
theorem part_for (hl : left.length ≤ 1000) (ys : NR) (p todo : NR) (hp : p.Nodup) (hs : ∀ x ∈ p, x ∈ left) (ht : todo.length ≤ p.length) (d7 : Option D) :
    ∃ d7' news, forL (.s 7) L_parts_left_0 (ys.map encN) (envP t count left f s B.length place d7) (B ++ [.dk (pd p), .lst (todo.map encN)]) = .ok (.nx (envP t count left f s B.length place d7')) (B ++ [.dk (pd (p ++ news)), .lst ((todo ++ news).map encN)])
      ∧ (p ++ news).Nodup ∧ (∀ x ∈ p ++ news, x ∈ left) ∧ (∀ x ∈ news, x ∈ ys) ∧ ∀ x ∈ ys, x ∈ left → x ∈ p ++ news := by
  let E (d7 : Option D) := envP t count left f s B.length place d7
  let T (news : NR) : Store := B ++ [.dk (pd (p ++ news)), .lst ((todo ++ news).map encN)]
  obtain ⟨env', S', e, d7', news, rfl, rfl, h1, h2, h3, h4⟩ := forL_inv (p := .s 7) (body := L_parts_left_0) (xs := ys.map encN) (fun i env S => ∃ d7 news, env = E d7 ∧ S = T news ∧ (p ++ news).Nodup ∧ (∀ x ∈ p ++ news, x ∈ left) ∧ (∀ x ∈ news, x ∈ ys) ∧ ∀ x ∈ ys.take i, x ∈ left → x ∈ p ++ news) (by
    rintro i x env S hx ⟨d7, news, rfl, rfl, h1, h2, h3, h4⟩
    rw [List.getElem?_map] at hx
    cases hz : ys[i]? with
    | none => rw [hz] at hx; cases hx
    | some y =>
    rw [hz] at hx
    injection hx with hx
    subst hx
    refine ⟨E (some (.v (.int (y : Int)))), by rw [gPat_s]; rfl, ?_⟩
    have hys : y ∈ ys := List.mem_of_getElem? hz
    have htake : ∀ x ∈ ys.take (i + 1), x ∈ ys.take i ∨ x = y := fun x hx => by
      rw [List.take_succ, hz] at hx
      simpa using hx
    let E2 := E (some (.v (.int (y : Int))))
    have g0 : (T news)[B.length]? = some (.dk (pd (p ++ news))) := app_get0 _ _
    have g1 : (T news)[B.length + 1]? = some (.lst ((todo ++ news).map encN)) := app_get _ _ 1
    have c1 : dTest (dBin (dInS false) (dVar 7) (dVar 1)) E2 (T news) = .ok (decide (y ∈ left)) (T news) := by
      rw [dTest_ap, dBin_ap]
      show ((dInS false (.v (.int (y : Int))) (.v (encW left)) (T news)).bind asB) = _
      rw [in_tupN]; simp
    have c2 : dTest (dBin (dInK true) (dVar 7) (dVar 5)) E2 (T news) = .ok (!decide (y ∈ p ++ news)) (T news) := by
      rw [dTest_ap, dBin_ap]
      show ((dInK true (.v (.int (y : Int))) (.r B.length) (T news)).bind asB) = _
      rw [in_pd true g0]; simp
    have hb : L_parts_left_0 E2 (T news) = if y ∈ left ∧ y ∉ p ++ news then sSeq (sSetK (dVar 5) (dVar 7) (dC (.bool true))) (sExpr (dMtL omAppend (dVar 6) (dConsA (dVar 7) dNilA))) E2 (T news) else .ok (.nx E2) (T news) := by
      unfold L_parts_left_0
      rw [sIf_ap, tAndD_ap, c1, bind_okS]
      by_cases a : y ∈ left
      · rw [decide_eq_true a, if_pos rfl, c2, lift_ok]
        by_cases b : y ∈ p ++ news
        · rw [decide_eq_true b, if_neg (show ¬ (y ∈ left ∧ y ∉ p ++ news) from fun z => z.2 b)]; rfl
        · rw [decide_eq_false b, if_pos (show y ∈ left ∧ y ∉ p ++ news from ⟨a, b⟩)]; rfl
      · rw [decide_eq_false a, if_neg Bool.false_ne_true, lift_ok, if_neg (show ¬ (y ∈ left ∧ y ∉ p ++ news) from fun z => a z.1)]; rfl
    by_cases hc : y ∈ left ∧ y ∉ p ++ news
    · have hlen := length_le_of_sub h1 h2
      rw [List.length_append] at hlen
      refine ⟨E2, T (news ++ [y]), .inl ?_, _, news ++ [y], rfl, rfl, ?_, ?_, ?_, ?_⟩
      · rw [hb, if_pos hc, sSeq_ap]
        have s1 : sSetK (dVar 5) (dVar 7) (dC (.bool true)) E2 (T news) = .ok (.nx E2) (B ++ [.dk (pd (p ++ news ++ [y])), .lst ((todo ++ news).map encN)]) := by
          unfold sSetK
          rw [dC_ap, lift_ok]
          simp only [show dVar 5 E2 (T news) = .ok (.r B.length) (T news) from rfl, show dVar 7 E2 (T news) = .ok (.v (.int (y : Int))) (T news) from rfl, lift_ok, g0, keyA]
          rw [if_pos (by rw [pd_len, List.length_append]; omega), pd_put hc.2]
          show Res.ok _ ((B ++ _).set B.length _) = _
          rw [app_set0]; rfl
        rw [s1, thenS_nx, sExpr_ap]
        have g2 : (B ++ [Cell.dk (pd (p ++ news ++ [y])), .lst ((todo ++ news).map encN)])[B.length + 1]? = some (.lst ((todo ++ news).map encN)) := app_get _ _ 1
        rw [dMtL_ok (d := .r (B.length + 1)) (S1 := B ++ [Cell.dk (pd (p ++ news ++ [y])), .lst ((todo ++ news).map encN)]) (S2 := B ++ [Cell.dk (pd (p ++ news ++ [y])), .lst ((todo ++ news).map encN)]) (ds := [.v (.int (y : Int))]) rfl (listOf_r g2) rfl, omAppend_ok g2 (by rw [List.length_map, List.length_append]; omega), lift_ok, app_set]
        show Res.ok (Out.nx E2) (B ++ [Cell.dk (pd (p ++ news ++ [y])), .lst ((todo ++ news).map encN ++ [.int (y : Int)])]) = Res.ok (Out.nx E2) (B ++ [Cell.dk (pd (p ++ (news ++ [y]))), .lst ((todo ++ (news ++ [y])).map encN)])
        rw [List.append_assoc p, ← List.append_assoc todo, List.map_append (l₁ := todo ++ news)]; rfl
      · rw [← List.append_assoc]
        exact List.nodup_append.mpr ⟨h1, by simp, fun a ha b hb => by simp at hb; subst hb; exact fun e => hc.2 (e ▸ ha)⟩
      · intro x hx
        rw [← List.append_assoc, List.mem_append, List.mem_singleton] at hx
        rcases hx with hx | rfl
        · exact h2 x hx
        · exact hc.1
      · intro x hx
        rw [List.mem_append, List.mem_singleton] at hx
        rcases hx with hx | rfl
        · exact h3 x hx
        · exact hys
      · intro x hx hxl
        rw [← List.append_assoc, List.mem_append, List.mem_singleton]
        rcases htake x hx with hx | rfl
        · exact .inl (h4 x hx hxl)
        · exact .inr rfl
    · refine ⟨E2, T news, .inl (by rw [hb, if_neg hc]), _, news, rfl, rfl, h1, h2, h3, fun x hx hxl => ?_⟩
      rcases htake x hx with hx | rfl
      · exact h4 x hx hxl
      · exact Classical.byContradiction fun z => hc ⟨hxl, z⟩) (E d7) (T []) ⟨d7, [], rfl, rfl, by rw [List.append_nil]; exact hp, by rw [List.append_nil]; exact hs, fun x hx => absurd hx List.not_mem_nil, fun x hx => by simp at hx⟩
  rw [List.length_map, List.take_length] at h4
  refine ⟨d7', news, ?_, h1, h2, h3, h4⟩
  have e0 : T [] = B ++ [.dk (pd p), .lst (todo.map encN)] := by
    show B ++ _ = _
    rw [List.append_nil, List.append_nil]
  rw [← e0]; exact e
/-- the whole part of a place -/
theorem part_while (hl : left.length ≤ 1000) (hc : ∀ x ∈ left, x < count) {a : Nat} (ha : a ∈ left) (seen : NR) (hs : a ∉ seen) (hcl : ∀ k ∈ seen, k ∈ left → ∀ o ∈ left, o ∈ nb t k → o ∈ seen) (d7 : Option D) :
    ∃ d7' p, sWhile (dTest (dBin dGt (dBlt opLen (dConsA (dVar 6) dNilA)) (dC (.int 0)))) L_parts_left_1 100000 (envP t count left f s B.length a d7) (B ++ [.dk (pd [a]), .lst ([a].map encN)]) = .ok (.nx (envP t count left f s B.length a d7')) (B ++ [.dk (pd p), .lst []])
      ∧ p.Nodup ∧ a ∈ p ∧ (∀ x ∈ p, x ∈ left) ∧ (∀ x ∈ p, x ∉ seen) ∧ ∀ k ∈ p, ∀ o ∈ left, o ∈ nb t k → o ∈ p := by
  let E (d7 : Option D) := envP t count left f s B.length a d7
  let T (p todo : NR) : Store := B ++ [.dk (pd p), .lst (todo.map encN)]
  let Inv : Nat → DEnv → Store → Prop := fun n env S => ∃ d7 p todo, env = E d7 ∧ S = T p todo ∧ n = 2 * (left.length - p.length) + todo.length ∧ p.Nodup ∧ a ∈ p ∧ (∀ x ∈ p, x ∈ left) ∧ (∀ x ∈ p, x ∉ seen) ∧ (∀ x ∈ todo, x ∈ p) ∧ todo.length ≤ p.length ∧ ∀ k ∈ p, k ∉ todo → ∀ o ∈ left, o ∈ nb t k → o ∈ p
  obtain ⟨env', S', e, d7', p, rfl, rfl, q1, q2, q3, q4, q5⟩ := wh_meas (c := dTest (dBin dGt (dBlt opLen (dConsA (dVar 6) dNilA)) (dC (.int 0)))) (body := L_parts_left_1) Inv (fun env S => ∃ d7 p, env = E d7 ∧ S = T p [] ∧ p.Nodup ∧ a ∈ p ∧ (∀ x ∈ p, x ∈ left) ∧ (∀ x ∈ p, x ∉ seen) ∧ ∀ k ∈ p, ∀ o ∈ left, o ∈ nb t k → o ∈ p) (by
    rintro n env S ⟨d7, p, todo, rfl, rfl, rfl, h1, h2, h3, h4, h5, h6, h7⟩
    have g1 : (T p todo)[B.length + 1]? = some (.lst (todo.map encN)) := app_get _ _ 1
    have cnd : dTest (dBin dGt (dBlt opLen (dConsA (dVar 6) dNilA)) (dC (.int 0))) (E d7) (T p todo) = .ok (decide (0 < todo.length)) (T p todo) := by
      have ol : opLen [.r (B.length + 1)] (T p todo) = .ok (.v (.int (todo.length : Int))) (T p todo) := by
        simp only [opLen, lenOf, g1, seqOf, List.length_map, okI_eq]
      rw [dTest_ap, dBin_ap, dBlt_ap]
      show ((((opLen [.r (B.length + 1)] (T p todo))).bind _).bind asB) = _
      rw [ol]
      simp
    rcases List.eq_nil_or_concat todo with rfl | ⟨td, k, rfl⟩
    · exact .inl ⟨cnd, d7, p, rfl, rfl, h1, h2, h3, h4, fun k hk => h7 k hk List.not_mem_nil⟩
    · rw [List.concat_eq_append] at *
      refine .inr ⟨by rw [cnd, decide_eq_true (by simp)], ?_⟩
      have hkp : k ∈ p := h5 k (by simp)
      have hkl := h3 k hkp
      rw [List.length_append, List.length_singleton] at h6
      obtain ⟨d7', news, ef, f1, f2, f3, f4⟩ := part_for (t := t) (count := count) (B := B) (f := f) (s := s) (place := a) hl (nb t k) p td h1 h3 (by omega) d7
      have hdis : ∀ x ∈ news, x ∉ p := fun x hx hp => by
        have := (List.nodup_append.mp f1).2.2 x hp x hx
        exact this rfl
      have hlen := length_le_of_sub f1 f2
      rw [List.length_append] at hlen
      refine ⟨E d7', T (p ++ news) (td ++ news), 2 * (left.length - (p ++ news).length) + (td ++ news).length, ?_, ?_, d7', p ++ news, td ++ news, rfl, rfl, rfl, f1, by simp [h2], f2, ?_, ?_, ?_, ?_⟩
      · rw [List.length_append, List.length_append, List.length_append, List.length_singleton]; omega
      · unfold L_parts_left_1
        have hi : iSeq (dBin dIx (dVar 0) (dMtL omPop (dVar 6) dNilA)) (E d7) (T p (td ++ [k])) = .ok ((nb t k).map encN) (T p td) := by
          have pop : dMtL omPop (dVar 6) dNilA (E d7) (T p (td ++ [k])) = .ok (.v (.int (k : Int))) (T p td) := by
            rw [dMtL_ok (d := .r (B.length + 1)) (S1 := T p (td ++ [k])) (S2 := T p (td ++ [k])) (ds := []) rfl (listOf_r g1) rfl]
            simp only [omPop, g1]
            rw [show ((td ++ [k]).map encN)[((td ++ [k]).map encN).length - 1]? = some (.int (k : Int)) by simp [encN]]
            show Res.ok (D.v (.int (k : Int))) ((B ++ _).set (B.length + 1) _) = _
            rw [app_set, List.map_append, List.map_singleton, List.dropLast_concat]; rfl
          rw [iSeq_ap, dBin_ap, show dVar 0 (E d7) (T p (td ++ [k])) = .ok (.v (nearD t count)) (T p (td ++ [k])) from rfl, bind_okS, pop, bind_okS, near_at (hc k hkl)]; rfl
        rw [sFor_ap, hi, lift_ok]; exact ef
      · intro x hx
        rw [List.mem_append] at hx
        rcases hx with hx | hx
        · exact h4 x hx
        · intro hxs
          have hxl := f2 x (List.mem_append.mpr (.inr hx))
          exact h4 k hkp (hcl x hxs hxl k hkl (nb_symm (f3 x hx)))
      · intro x hx
        rw [List.mem_append] at hx ⊢
        rcases hx with hx | hx
        · exact .inl (h5 x (List.mem_append.mpr (.inl hx)))
        · exact .inr hx
      · rw [List.length_append, List.length_append]; omega
      · intro x hx hnt o hol ho
        rw [List.mem_append] at hx
        rcases hx with hx | hx
        · by_cases z : x = k
          · subst z; exact f4 o ho hol
          · refine List.mem_append.mpr (.inl (h7 x hx (fun zz => ?_) o hol ho))
            rw [List.mem_append, List.mem_singleton] at zz
            rcases zz with zz | zz
            · exact hnt (List.mem_append.mpr (.inl zz))
            · exact z zz
        · exact absurd (List.mem_append.mpr (.inr hx)) hnt) 100000 _ (E d7) (T [a] [a]) ⟨d7, [a], [a], rfl, rfl, rfl, by simp, by simp, fun x hx => by rw [List.mem_singleton.mp hx]; exact ha, fun x hx => by rw [List.mem_singleton.mp hx]; exact hs, fun x hx => hx, Nat.le_refl _, fun k hk hk2 => absurd hk hk2⟩ (by
        have := List.length_pos_of_mem ha
        simp only [List.length_singleton]; omega)
  exact ⟨d7', p, e, q1, q2, q3, q4, q5⟩
end
end K33

set_option Elab.async false
set_option linter.all false
set_option autoImplicit false
set_option maxRecDepth 1000000
/-! k33: all parts of a web -/
namespace K33
open PySem G L2 K38
def xorL (l : List Nat) : Nat := l.foldl (· ^^^ ·) 0
theorem xorL_snoc (l : List Nat) (a : Nat) : xorL (l ++ [a]) = xorL l ^^^ a := by
  unfold xorL
  rw [List.foldl_append]; rfl
/-- lists of places, rising -/
def Up (left : NR) : Prop := left.Pairwise (· < ·)
theorem Up.nodup {left : NR} (h : Up left) : left.Nodup := h.imp fun z e => by subst e; exact absurd z (Nat.lt_irrefl _)
structure PartsOf (t : Ties) (left : NR) (ps : List NR) : Prop where
  sum : ∀ w, xorL (ps.map (gW t w)) = gW t w left
  each : ∀ p ∈ ps, p ≠ [] ∧ Up p ∧ ∀ x ∈ p, x ∈ left
  size : (ps.map List.length).sum = left.length
theorem filt_mem_all {left p : NR} (h : ∀ x ∈ left, x ∈ p) : left.filter (fun o => decide (o ∈ p)) = left := List.filter_eq_self.mpr fun x hx => decide_eq_true (h x hx)
theorem part_len {left p : NR} (hu : Up left) (hn : p.Nodup) (hs : ∀ x ∈ p, x ∈ left) : (left.filter fun o => decide (o ∈ p)).length = p.length := by
  apply Nat.le_antisymm
  · exact few_of _ _ (hu.nodup.filter _) fun x hx => of_decide_eq_true (List.mem_filter.mp hx).2
  · exact few_of _ _ hn fun x hx => List.mem_filter.mpr ⟨hs x hx, decide_eq_true hx⟩
theorem add_part {t : Ties} {left seen p : NR} (hcs : ∀ k ∈ seen, ∀ o ∈ left, o ∈ nb t k → o ∈ seen) (hcp : ∀ k ∈ p, ∀ o ∈ left, o ∈ nb t k → o ∈ p) (hd : ∀ x ∈ p, x ∉ seen) (w : Bool) :
    gW t w (left.filter fun o => decide (o ∈ seen ++ p)) = gW t w (left.filter fun o => decide (o ∈ seen)) ^^^ gW t w (left.filter fun o => decide (o ∈ p)) := by
  rw [add_parts t w (fun o => decide (o ∈ p)) _ _ (Nat.le_refl _) ?_, Nat.xor_comm]
  · congr 1
    · rw [List.filter_filter]
      congr 1
      refine List.filter_congr fun o ho => ?_
      rw [Bool.eq_iff_iff]
      simp only [Bool.and_eq_true, beq_iff_eq, decide_eq_true_iff, decide_eq_false_iff_not, List.mem_append]
      exact ⟨fun ⟨h1, h2⟩ => h2.resolve_right h1, fun h => ⟨fun z => hd o z h, .inl h⟩⟩
    · rw [List.filter_filter]
      congr 1
      refine List.filter_congr fun o ho => ?_
      rw [Bool.eq_iff_iff]
      simp only [Bool.and_eq_true, beq_iff_eq, decide_eq_true_iff, List.mem_append]
      exact ⟨fun h => h.1, fun h => ⟨h, .inr h⟩⟩
  · intro k hk o ho hn
    have hk := (List.mem_filter.mp hk).1
    have ho := (List.mem_filter.mp ho).1
    rw [decide_eq_decide]
    exact ⟨fun z => hcp k z o ho hn, fun z => hcp o z k hk (nb_symm hn)⟩
def envO (t : Ties) (count : Nat) (left : NR) (f : Nat) (d4 d5 d6 d7 : Option D) : DEnv := [some (.v (nearD t count)), some (.v (encW left)), some (.r f), some (.r (f + 1)), d4, d5, d6, d7]
theorem app2_get (S : Store) (a b : Cell) (Y : Store) (j : Nat) : (S ++ (a :: b :: Y))[S.length + j]? = (a :: b :: Y)[j]? := app_get _ _ _
theorem len_snoc (B : Store) (c : Cell) : (B ++ [c]).length = B.length + 1 := by rw [List.length_append]; rfl
theorem two (B : Store) (c c' : Cell) : (B ++ [c]).length = B.length + 1 ∧ (B ++ [c]) ++ [c'] = B ++ [c, c'] := ⟨len_snoc B c, List.append_assoc _ _ _⟩
theorem few_parts : ∀ ps : List NR, (∀ p ∈ ps, p ≠ []) → ps.length ≤ (ps.map List.length).sum
  | [], _ => Nat.le_refl _
  | a :: ps, h => by
    have := List.length_pos_iff.mpr (h a List.mem_cons_self)
    have := few_parts ps fun p hp => h p (List.mem_cons_of_mem _ hp)
    rw [List.map_cons, List.sum_cons, List.length_cons]; omega
theorem parts_ok {t : Ties} {count : Nat} {left : NR} (hu : Up left) (hc : ∀ x ∈ left, x < count) (hl : left.length < 60) (S : Store) :
    ∃ X ps, f_parts_left [.v (nearD t count), .v (encW left)] S = .ok (.v (.list (ps.map encW))) (S ++ X) ∧ PartsOf t left ps := by
  let f := S.length
  let E := envO t count left f
  let T (ps : List NR) (seen : NR) (Y : Store) : Store := S ++ (.lst (ps.map encW) :: .dk (pd seen) :: Y)
  obtain ⟨env', S', e, d4, d5, d6, d7, ps, seen, Y, rfl, rfl, q1, q2, q3, q4, q5, q6, q7⟩ := forL_inv (p := .s 4) (body := L_parts_left_2) (xs := left.map encN) (fun i env S => ∃ d4 d5 d6 d7 ps seen Y, env = E d4 d5 d6 d7 ∧ S = T ps seen Y ∧ seen.Nodup ∧ (∀ x ∈ seen, x ∈ left) ∧ (∀ k ∈ seen, ∀ o ∈ left, o ∈ nb t k → o ∈ seen) ∧ (∀ x ∈ left.take i, x ∈ seen) ∧ (∀ w, xorL (ps.map (gW t w)) = gW t w (left.filter fun o => decide (o ∈ seen))) ∧ (∀ p ∈ ps, p ≠ [] ∧ Up p ∧ ∀ x ∈ p, x ∈ left) ∧ (ps.map List.length).sum = seen.length) (by
    rintro i x env S0 hx ⟨d4, d5, d6, d7, ps, seen, Y, rfl, rfl, q1, q2, q3, q4, q5, q6, q7⟩
    rw [List.getElem?_map] at hx
    cases hz : left[i]? with
    | none => rw [hz] at hx; cases hx
    | some a =>
    rw [hz] at hx
    injection hx with hx
    subst hx
    have hal : a ∈ left := List.mem_of_getElem? hz
    have htake : ∀ x ∈ left.take (i + 1), x ∈ left.take i ∨ x = a := fun x hx => by
      rw [List.take_succ, hz] at hx
      simpa using hx
    let dA : Option D := some (.v (.int (a : Int)))
    refine ⟨E dA d5 d6 d7, by rw [gPat_s]; rfl, ?_⟩
    let B := T ps seen Y
    have gs : B[f + 1]? = some (.dk (pd seen)) := app2_get _ _ _ _ 1
    have cnd : dTest (dBin (dInK true) (dVar 4) (dVar 3)) (E dA d5 d6 d7) B = .ok (!decide (a ∈ seen)) B := by
      rw [dTest_ap, dBin_ap]
      show ((dInK true (.v (.int (a : Int))) (.r (f + 1)) B).bind asB) = _
      rw [in_pd true gs]; simp
    by_cases has : a ∈ seen
    · refine ⟨E dA d5 d6 d7, B, .inl ?_, _, _, _, _, ps, seen, Y, rfl, rfl, q1, q2, q3, fun x hx => ?_, q5, q6, q7⟩
      · unfold L_parts_left_2
        rw [sIf_ap, cnd, lift_ok, decide_eq_true has]; rfl
      · rcases htake x hx with hx | rfl
        · exact q4 x hx
        · exact has
    · let dP : Option D := some (.r B.length)
      let dT : Option D := some (.r (B.length + 1))
      obtain ⟨d7', p, ew, p1, p2, p3, p4, p5⟩ := part_while (t := t) (count := count) (B := B) (f := f) (s := f + 1) (by omega) hc hal seen has (fun k hk _ => q3 k hk) d7
      let B2 : Store := T ps (seen ++ p) (Y ++ [.dk (pd p), .lst []])
      have hBe : B ++ [.dk (pd p), .lst []] = T ps seen (Y ++ [.dk (pd p), .lst []]) := by
        show (S ++ _) ++ _ = S ++ _
        rw [List.append_assoc]; rfl
      have hBl : B.length = S.length + (2 + Y.length) := by
        show (S ++ _).length = _
        rw [List.length_append, List.length_cons, List.length_cons]; omega
      have ssub : ∀ x ∈ seen ++ p, x ∈ left := fun x hx => by
        rcases List.mem_append.mp hx with z | z
        · exact q2 x z
        · exact p3 x z
      have snd : (seen ++ p).Nodup := List.nodup_append.mpr ⟨q1, p1, fun a ha b hb e => p4 b hb (e ▸ ha)⟩
      have slen := length_le_of_sub snd ssub
      rw [List.length_append] at slen
      let q := left.filter fun o => decide (o ∈ p)
      have hsub : ps.length ≤ seen.length := by
        rw [← q7]
        exact few_parts ps fun p hp => (q6 p hp).1
      refine ⟨E dA dP dT d7', T (ps ++ [q]) (seen ++ p) (Y ++ [.dk (pd p), .lst []]), .inl ?_, _, _, _, _, ps ++ [q], seen ++ p, Y ++ [.dk (pd p), .lst []], rfl, rfl, snd, ssub, ?_, ?_, ?_, ?_, ?_⟩
      · unfold L_parts_left_2
        rw [sIf_ap, cnd, lift_ok, decide_eq_false has, show (!false) = true from rfl, if_pos rfl, sSeq_ap]
        have s1 : sSet 5 (dDisp1 (dVar 4) (dC (.bool true))) (E dA d5 d6 d7) B = .ok (.nx (E dA dP d6 d7)) (B ++ [.dk (pd [a])]) := rfl
        rw [s1, thenS_nx, sSeq_ap]
        have s2 : sSet 6 (dLstC (dConsA (dVar 4) dNilA)) (E dA dP d6 d7) (B ++ [.dk (pd [a])]) = .ok (.nx (E dA dP dT d7)) (B ++ [.dk (pd [a]), .lst ([a].map encN)]) := by
          show Res.ok (Out.nx (E dA dP (some (.r (B ++ [Cell.dk (pd [a])]).length)) d7)) ((B ++ [Cell.dk (pd [a])]) ++ [Cell.lst [.int (a : Int)]]) = _
          rw [(two B _ _).2, len_snoc]; rfl
        rw [s2, thenS_nx, sSeq_ap]
        rw [show E dA dP dT d7 = envP t count left f (f + 1) B.length a d7 from rfl, ew, thenS_nx, sSeq_ap]
        have s3 : sExpr (dUpdK (dVar 3) (dVar 5)) (envP t count left f (f + 1) B.length a d7') (B ++ [.dk (pd p), .lst []]) = .ok (.nx (envP t count left f (f + 1) B.length a d7')) B2 := by
          rw [hBe, sExpr_ap]
          have h1 : (T ps seen (Y ++ [.dk (pd p), .lst []]))[f + 1]? = some (.dk (pd seen)) := app2_get _ _ _ _ 1
          have h2 : (T ps seen (Y ++ [.dk (pd p), .lst []]))[B.length]? = some (.dk (pd p)) := by rw [← hBe]; exact app_get0 _ _
          have : dUpdK (dVar 3) (dVar 5) (envP t count left f (f + 1) B.length a d7') (T ps seen (Y ++ [.dk (pd p), .lst []])) = .ok (.v .none) B2 := by
            unfold dUpdK
            simp only [show dVar 3 (envP t count left f (f + 1) B.length a d7') (T ps seen (Y ++ [.dk (pd p), .lst []])) = .ok (.r (f + 1)) (T ps seen (Y ++ [.dk (pd p), .lst []])) from rfl, show dVar 5 (envP t count left f (f + 1) B.length a d7') (T ps seen (Y ++ [.dk (pd p), .lst []])) = .ok (.r B.length) (T ps seen (Y ++ [.dk (pd p), .lst []])) from rfl, bind_okS, dkOf, h1, h2, pd_len]
            rw [if_pos ⟨by omega, by omega⟩, pd_merge _ _ p4 p1]
            show Res.ok _ ((S ++ _).set (S.length + 1) _) = _
            rw [app_set]; rfl
          rw [this, lift_ok]
        rw [s3, thenS_nx, sExpr_ap]
        have hf : B2[f]? = some (.lst (ps.map encW)) := app2_get _ _ _ _ 0
        have hp2 : B2[B.length]? = some (.dk (pd p)) := by
          show (S ++ (_ :: _ :: (Y ++ _)))[B.length]? = _
          rw [hBl, app_get, Nat.add_comm 2, List.getElem?_cons_succ, List.getElem?_cons_succ, List.getElem?_append_right (Nat.le_refl _), Nat.sub_self]; rfl
        have arg : dConsA (dBlt opTuple (dConsA (dBlt opSortedK (dConsA (dVar 5) dNilA)) dNilA)) dNilA (envP t count left f (f + 1) B.length a d7') B2 = .ok [.v (encW q)] B2 := by
          have : opSortedK [.r B.length] B2 = .ok (.v (.list (q.map encN))) B2 := by
            simp only [opSortedK, dkOf, hp2, pd_ints]
            rw [if_pos (by unfold toI; rw [List.length_map]; omega), sort_part hu p1 p3]
            unfold toI
            rw [List.map_map]; rfl
          rw [dConsA_ap, dBlt_ap, dConsA_ap, dBlt_ap]
          show (((((opSortedK [.r B.length] B2)).bind _).bind opTuple).bind _) = _
          rw [this]; rfl
        rw [dMtL_ok (d := .r f) (S1 := B2) (S2 := B2) (ds := [.v (encW q)]) rfl (listOf_r hf) arg, omAppend_ok hf (by rw [List.length_map]; omega), lift_ok]
        show Res.ok _ ((S ++ _).set S.length _) = _
        rw [app_set0, show (ps.map encW) ++ [encW q] = (ps ++ [q]).map encW by rw [List.map_append]; rfl]; rfl
      · intro k hk o ho hn
        rcases List.mem_append.mp hk with z | z
        · exact List.mem_append.mpr (.inl (q3 k z o ho hn))
        · exact List.mem_append.mpr (.inr (p5 k z o ho hn))
      · intro x hx
        rcases htake x hx with hx | rfl
        · exact List.mem_append.mpr (.inl (q4 x hx))
        · exact List.mem_append.mpr (.inr p2)
      · intro w
        rw [List.map_append, List.map_singleton, xorL_snoc, q5, add_part q3 p5 p4]
      · intro r hr
        rcases List.mem_append.mp hr with z | z
        · exact q6 r z
        · rw [List.mem_singleton.mp z]
          refine ⟨fun e => ?_, hu.filter _, fun x hx => (List.mem_filter.mp hx).1⟩
          have : a ∈ q := List.mem_filter.mpr ⟨hal, decide_eq_true p2⟩
          rw [e] at this
          exact absurd this List.not_mem_nil
      · rw [List.map_append, List.sum_append, q7, List.map_singleton, List.sum_singleton, part_len hu p1 p3, List.length_append]) (E none none none none) (T [] [] []) ⟨none, none, none, none, [], [], [], rfl, rfl, List.nodup_nil, fun x hx => absurd hx List.not_mem_nil, fun x hx => absurd hx List.not_mem_nil, fun x hx => by simp at hx, fun w => by
        rw [show left.filter (fun o => decide (o ∈ ([] : NR))) = [] from List.filter_eq_nil_iff.mpr fun x _ => by simp]; rfl, fun p hp => absurd hp List.not_mem_nil, rfl⟩
  rw [List.length_map, List.take_length] at q4
  have hall : (left.filter fun o => decide (o ∈ seen)) = left := filt_mem_all q4
  refine ⟨(T ps seen Y |>.set f .dead).drop f, ps, ?_, fun w => by rw [q5, hall], q6, ?_⟩
  · have s1 : sFor (.s 4) (iSeq (dVar 1)) L_parts_left_2 (E none none none none) (T [] [] []) = .ok (.nx (E d4 d5 d6 d7)) (T ps seen Y) := by
      rw [sFor_ap, show iSeq (dVar 1) (E none none none none) (T [] [] []) = .ok (left.map encN) (T [] [] []) from rfl, lift_ok, e]
    show fin (b_parts_left [some (.v (nearD t count)), some (.v (encW left)), none, none, none, none, none, none] S) = _
    unfold b_parts_left
    rw [sSeq_ap]
    have s2 : S_parts_left_3 [some (.v (nearD t count)), some (.v (encW left)), none, none, none, none, none, none] S = .ok (.nx [some (.v (nearD t count)), some (.v (encW left)), some (.r f), none, none, none, none, none]) (S ++ [.lst []]) := rfl
    rw [s2, thenS_nx, sSeq_ap]
    have s3 : S_parts_left_4 [some (.v (nearD t count)), some (.v (encW left)), some (.r f), none, none, none, none, none] (S ++ [.lst []]) = .ok (.nx (E none none none none)) (T [] [] []) := by
      show Res.ok (Out.nx (([some (.v (nearD t count)), some (.v (encW left)), some (.r f), none, none, none, none, none] : DEnv).set 3 (some (.r (S ++ [Cell.lst []]).length)))) ((S ++ [Cell.lst []]) ++ [Cell.dk []]) = _
      rw [(two S _ _).2, len_snoc]; rfl
    rw [s3, thenS_nx, sSeq_ap, show S_parts_left_5 = sFor (.s 4) (iSeq (dVar 1)) L_parts_left_2 from rfl, s1, thenS_nx]
    have hf : (T ps seen Y)[f]? = some (.lst (ps.map encW)) := app2_get _ _ _ _ 0
    unfold S_parts_left_6
    rw [sFrz_r (n := f) rfl hf]
    have hd : (T ps seen Y).set f .dead = S ++ (.dead :: .dk (pd seen) :: Y) := by
      show (S ++ _).set S.length _ = _
      rw [app_set0]; rfl
    rw [hd, show (S ++ (Cell.dead :: .dk (pd seen) :: Y)).drop f = Cell.dead :: .dk (pd seen) :: Y from List.drop_left]; rfl
  · rw [q7, ← part_len hu q1 q2, hall]
end K33

set_option Elab.async false
set_option linter.all false
set_option autoImplicit false
set_option maxRecDepth 1000000
/-! k33: the number of a web, in the program -/
namespace K33
open PySem G L2 K38
theorem up_ext {a b : NR} (ha : Up a) (hb : Up b) (h : ∀ x, x ∈ a ↔ x ∈ b) : a = b := by
  have p : a.Perm b := (List.perm_ext_iff_of_nodup ha.nodup hb.nodup).mpr h
  exact List.Perm.eq_of_pairwise (fun a b _ _ x y => Nat.le_antisymm x y) (List.Pairwise.imp Nat.le_of_lt ha) (List.Pairwise.imp Nat.le_of_lt hb) p
def subs : Nat → List NR
  | 0 => [[]]
  | n + 1 => subs n ++ (subs n).map fun x => x ++ [n]
theorem subs_len : ∀ n, (subs n).length = 2 ^ n
  | 0 => rfl
  | n + 1 => by rw [subs, List.length_append, List.length_map, subs_len n, Nat.pow_succ]; omega
theorem mem_subs : ∀ {n : Nat} {x : NR}, Up x → (∀ k ∈ x, k < n) → x ∈ subs n
  | 0, x, _, h => by
    cases x with
    | nil => exact List.mem_singleton.mpr rfl
    | cons a x => exact absurd (h a List.mem_cons_self) (Nat.not_lt_zero _)
  | n + 1, x, hu, h => by
    rw [subs, List.mem_append]
    by_cases hn : n ∈ x
    · refine .inr (List.mem_map.mpr ⟨x.filter fun k => decide (k < n), mem_subs (hu.filter _) (fun k hk => of_decide_eq_true (List.mem_filter.mp hk).2), ?_⟩)
      refine up_ext ?_ hu fun k => ?_
      · exact List.pairwise_append.mpr ⟨hu.filter _, List.pairwise_singleton _ _, fun a ha b hb => by
          rw [List.mem_singleton.mp hb]; exact of_decide_eq_true (List.mem_filter.mp ha).2⟩
      · rw [List.mem_append, List.mem_singleton, List.mem_filter, decide_eq_true_iff]
        constructor
        · rintro (z | rfl)
          · exact z.1
          · exact hn
        · intro z
          have := h k z
          by_cases e : k = n
          · exact .inr e
          · exact .inl ⟨z, by omega⟩
    · exact .inl (mem_subs hu fun k hk => by
        have := h k hk
        have : k ≠ n := fun e => hn (e ▸ hk)
        omega)
def domW (count : Nat) : List (List Int) := (subs count).map toI
theorem dom_mem {count : Nat} {x : NR} (hu : Up x) (h : ∀ k ∈ x, k < count) : toI x ∈ domW count := List.mem_map.mpr ⟨x, mem_subs hu h, rfl⟩
theorem dom_few {count : Nat} (h : count ≤ 14) : (domW count).length < 16000000 := by
  unfold domW
  rw [List.length_map, subs_len]
  have : 2 ^ count ≤ 2 ^ 14 := Nat.pow_le_pow_right (by omega) h
  omega
theorem toNat_toI (r : NR) : (toI r).map Int.toNat = r := by
  unfold toI
  rw [List.map_map]
  exact (List.map_congr_left fun a _ => by simp).trans (List.map_id r)
theorem encW_T (r : NR) : encW r = encT (toI r) := by unfold encW encT toI; rw [List.map_map]; rfl
def specW (t : Ties) (w : Bool) (k : List Int) : PyData := .int (gW t w (k.map Int.toNat) : Nat)
theorem spec_toI (t : Ties) (w : Bool) (r : NR) : specW t w (toI r) = .int (gW t w r : Nat) := by unfold specW; rw [toNat_toI]
abbrev MemW (t : Ties) (w : Bool) (count n : Nat) (S0 S : Store) : Prop := Mem intsK (specW t w) (domW count) n S0 S
section
variable {κ : Type} [DecidableEq κ] {Y : Keys κ} {spec : κ → PyData} {dom : List κ} {n : Nat} {S0 : Store}
theorem mem_snoc (hn : n < S0.length) {S : Store} (h : Mem Y spec dom n S0 S) (c : Cell) : Mem Y spec dom n (S0 ++ [c]) (S ++ [c]) := by
  obtain ⟨ks, h1, h2, rfl⟩ := h
  exact ⟨ks, h1, h2, by rw [List.set_append_left _ _ hn]⟩
theorem mem_unsnoc (hn : n < S0.length) {S : Store} {c : Cell} (h : Mem Y spec dom n (S0 ++ [c]) S) : ∃ M, S = M ++ [c] ∧ Mem Y spec dom n S0 M := by
  obtain ⟨ks, h1, h2, rfl⟩ := h
  exact ⟨_, List.set_append_left _ _ hn, ks, h1, h2, rfl⟩
/-- a dict is asked, filled and read; B fills it, and may leave more -/
theorem memo_bodyX (Post : Store → Prop) {S : Store} {ks : List κ} (hS : S[n]? = some (.dt (memoD Y spec ks))) {fk fd : FE} {env : DEnv} {B : FS} {c : κ} (hk : fk env S = .ok (.v (Y.enc c)) S) (hj : fd env S = .ok (.r n) S) (h0 : Post S)
    (hB : c ∉ ks → ∃ env' S' ks', B env S = .ok (.nx env') S' ∧ S'[n]? = some (.dt (memoD Y spec ks')) ∧ c ∈ ks' ∧ fk env' S' = .ok (.v (Y.enc c)) S' ∧ fd env' S' = .ok (.r n) S' ∧ Post S') :
    ∃ S', sSeq (sIf (dTest (dBin (dInT true) fk fd)) B sNil) (sRet (dBin dIxT fd fk)) env S = .ok (.rt (.v (spec c))) S' ∧ Post S' := by
  have get : ∀ (S : Store) (ks : List κ), S[n]? = some (.dt (memoD Y spec ks)) → c ∈ ks → dIxT (.r n) (.v (Y.enc c)) S = .ok (.v (spec c)) S := fun S ks h hc => by
    unfold dIxT
    rw [show dtOf S (.r n) = some (memoD Y spec ks) by simp only [dtOf, h]]
    simp only [Y.keyT, Option.bind_some, memo_get, if_pos hc]
  have isin : dInT true (.v (Y.enc c)) (.r n) S = .ok (.v (.bool (!(decide (c ∈ ks))))) S := by
    unfold dInT
    rw [show dtOf S (.r n) = some (memoD Y spec ks) by simp only [dtOf, hS]]
    simp only [Y.keyT, memo_get]
    by_cases hc : c ∈ ks <;> simp [hc, okB]
  rw [sSeq_ap, sIf_ap, dTest_ap, dBin_ap, hk, bind_okS, hj, bind_okS, isin, bind_okS, asB_b, lift_ok]
  by_cases hc : c ∈ ks
  · refine ⟨S, ?_, h0⟩
    rw [decide_eq_true hc, show (!true) = false from rfl, if_neg Bool.false_ne_true, sNil_ap, thenS_nx, sRet_ap, dBin_ap, hj, bind_okS, hk, bind_okS, get S ks hS hc, lift_ok]
  · obtain ⟨env', S', ks', e, h1, h2, h3, h4, h5⟩ := hB hc
    refine ⟨S', ?_, h5⟩
    rw [decide_eq_false hc, show (!false) = true from rfl, if_pos rfl, e, thenS_nx, sRet_ap, dBin_ap, h4, bind_okS, h3, bind_okS, get S' ks' h1 h2, lift_ok]
end
/-! rows of places -/
theorem filt_run {own : List Nat} {p : Pat} {i : FI} {tt : FT} {fo : FE} {env : DEnv} {S : Store} {ys : NR} (Q : Nat → Bool) (hi : i env S = .ok (ys.map encN) S) (hl : ys.length ≤ 16000000)
    (h : ∀ y ∈ ys, ∃ env1, gPat p (encN y) (wipeE env own) = some env1 ∧ tt env1 S = .ok (Q y) S ∧ fo env1 S = .ok (.v (encN y)) S) : dLc own p i tt fo env S = .ok (.v (encL (ys.filter Q))) S := by
  obtain ⟨S', e, rfl⟩ := dLc_thr2 (own := own) (p := p) (i := i) (t := tt) (e := fo) (fun S' => S' = S) encN Q encN hi hl rfl (by
    rintro y hy S' rfl
    obtain ⟨env1, h1, h2, h3⟩ := h y hy
    exact ⟨env1, S', h1, h2, rfl, fun _ => ⟨S', h3, rfl⟩⟩)
  exact e
theorem cut_run {own : List Nat} {p : Pat} {fl fo fg : FE} {env : DEnv} {S : Store} {left gone : NR} (hi : fl env S = .ok (.v (encW left)) S) (hl : left.length ≤ 16000000)
    (h : ∀ y : Nat, ∃ env1, gPat p (encN y) (wipeE env own) = some env1 ∧ fo env1 S = .ok (.v (encN y)) S ∧ fg env1 S = .ok (.v (encL gone)) S) :
    dBlt opTuple (dConsA (dLc own p (iSeq fl) (dTest (dBin (dInS true) fo fg)) fo) dNilA) env S = .ok (.v (encW (cut left gone))) S := by
  rw [dBlt_ap, dConsA_ap, filt_run (ys := left) (fun o => decide (o ∉ gone)) (by rw [iSeq_ap, hi]; rfl) hl fun y _ => ?_]
  · rfl
  · obtain ⟨env1, h1, h2, h3⟩ := h y
    refine ⟨env1, h1, ?_, h2⟩
    rw [dTest_ap, dBin_ap, h2, bind_okS, h3, bind_okS, show dInS true (.v (encN y)) (.v (encL gone)) S = _ from in_seqN true S]
    simp
theorem gones_run {own : List Nat} {p : Pat} {fw fk fi fo : FE} {env : DEnv} {S : Store} {t : Ties} {w : Bool} {left : NR} {k : Nat} (hw : fw env S = .ok (.v (.bool w)) S) (hk : fk env S = .ok (.v (encN k)) S) (hi : fi env S = .ok (.v (encL (ins t left k))) S) (hl : (ins t left k).length ≤ 1000)
    (h : ∀ y : Nat, ∃ env1, gPat p (encN y) (wipeE env own) = some env1 ∧ fo env1 S = .ok (.v (encN y)) S ∧ fk env1 S = .ok (.v (encN k)) S) :
    dIf (tNotD (dTru fw)) (dLst (dConsA (dBin dAdd (dLst (dConsA fk dNilA)) fi) dNilA)) (dBin dAdd (dLst (dConsA (dLst (dConsA fk dNilA)) dNilA)) (dLc own p (iSeq fi) fYes (dLst (dConsA fk (dConsA fo dNilA))))) env S = .ok (.v (.list ((gones t w left k).map encL))) S := by
  rw [dIf_ap, tNotD_ap, dTru_ap, hw, bind_okS]
  cases w with
  | false =>
    show dLst _ env S = _
    have : dBin dAdd (dLst (dConsA fk dNilA)) fi env S = .ok (.v (encL (k :: ins t left k))) S := by
      rw [dBin_ap, dLst_ap, dConsA_ap, hk]
      show ((fi env S).bind fun b S2 => dAdd (.v (.list [encN k])) b S2) = _
      rw [hi, bind_okS, show dAdd (.v (.list [encN k])) (.v (encL (ins t left k))) S = dAdd (.v (.list [encN k])) (.v (.list ((ins t left k).map encN))) S from rfl, dAdd_ll _ _ (by rw [List.length_map, List.length_singleton]; omega)]; rfl
    rw [dLst_ap, dConsA_ap, this]; rfl
  | true =>
    show dBin dAdd _ _ env S = _
    have e1 : dLst (dConsA (dLst (dConsA fk dNilA)) dNilA) env S = .ok (.v (.list [encL [k]])) S := by
      rw [dLst_ap, dConsA_ap, dLst_ap, dConsA_ap, hk]; rfl
    obtain ⟨S', e2, rfl⟩ := dLc_thr2 (own := own) (p := p) (i := iSeq fi) (t := fYes) (e := dLst (dConsA fk (dConsA fo dNilA))) (fun S' => S' = S) encN (fun _ => true) (fun o => encL [k, o]) (xs := ins t left k) (by rw [iSeq_ap, hi]; rfl) (by omega) rfl (by
      rintro y hy S' rfl
      obtain ⟨env1, h1, h2, h3⟩ := h y
      refine ⟨env1, S', h1, rfl, rfl, fun _ => ⟨S', ?_, rfl⟩⟩
      rw [dLst_ap, dConsA_ap, h3, bind_okS, dConsA_ap, h2]; rfl)
    rw [dBin_ap, e1, bind_okS, e2, bind_okS, dAdd_ll _ _ (by rw [List.length_map, List.length_singleton]; have := List.length_filter_le (fun _ => true) (ins t left k); omega)]
    rw [List.filter_eq_self.mpr (fun _ _ => rfl)]
    unfold gones
    rw [if_pos rfl, List.map_cons, List.map_map]; rfl
/-! bounds -/
theorem nb_len (t : Ties) (k : Nat) : (nb t k).length ≤ t.length := by
  unfold nb
  rw [List.length_map]; exact List.length_filter_le _ _
theorem ins_len (t : Ties) (left : NR) (k : Nat) : (ins t left k).length ≤ t.length := Nat.le_trans (List.length_filter_le _ _) (nb_len t k)
theorem gones_len (t : Ties) (w : Bool) (left : NR) (k : Nat) : (gones t w left k).length ≤ t.length + 1 := by
  unfold gones
  split
  · rw [List.length_cons, List.length_map]; have := ins_len t left k; omega
  · rw [List.length_singleton]; omega
theorem flat_len {α β : Type} (f : α → List β) (m : Nat) (h : ∀ a, (f a).length ≤ m) : ∀ l : List α, (l.flatMap f).length ≤ l.length * m
  | [] => by simp
  | a :: l => by
    have := flat_len f m h l
    have := h a
    rw [List.flatMap_cons, List.length_append, List.length_cons, Nat.succ_mul]; omega
theorem opts_len (t : Ties) (w : Bool) (left : NR) : (opts t w left).length ≤ left.length * (t.length + 1) := flat_len _ _ (fun k => by rw [List.length_map]; exact gones_len t w left k) left
theorem nim_ok (a b : Nat) (S : Store) : f_nim_sum [.v (.int (a : Int)), .v (.int (b : Int))] S = .ok (.v (.int ((a ^^^ b : Nat) : Int))) S := by
  show Res.ok (D.v (.int (Builtin.bitXor (a : Int) (b : Int)))) S = _
  rw [xor_nat]
theorem part_small {ps : List NR} (hne : ∀ p ∈ ps, p ≠ []) (h1 : ps.length ≠ 1) {p : NR} (hp : p ∈ ps) : p.length < (ps.map List.length).sum := by
  obtain ⟨a, b, rfl⟩ := List.append_of_mem hp
  have ha := few_parts a fun q hq => hne q (List.mem_append.mpr (.inl hq))
  have hb := few_parts b fun q hq => hne q (List.mem_append.mpr (.inr (List.mem_cons_of_mem _ hq)))
  rw [List.length_append, List.length_cons] at h1
  rw [List.map_append, List.sum_append, List.map_cons, List.sum_cons]
  omega
/-! the number of a web -/
def envW (t : Ties) (count : Nat) (left : NR) (w : Bool) (n : Nat) (d4 d5 d6 d7 d8 d9 d10 d11 : Option D) : DEnv := [some (.v (nearD t count)), some (.v (encW left)), some (.v (.bool w)), some (.r n), d4, d5, d6, d7, d8, d9, d10, d11, none]
theorem cut_up {left gone : NR} (h : Up left) : Up (cut left gone) := h.filter _
theorem map_take {α β : Type} (f : α → β) (l : List α) (i : Nat) : (l.map f).take i = (l.take i).map f := (List.map_take).symm
theorem snoc_enc (a : List Nat) (b : Nat) : a.map encN ++ [encN b] = (a ++ [b]).map encN := by rw [List.map_append]; rfl
theorem take_snoc {α β : Type} (F : α → β) (us : List β) {gs : List α} {i : Nat} {g : α} (h : gs[i]? = some g) : us ++ (gs.take (i + 1)).map F = (us ++ (gs.take i).map F) ++ [F g] := by
  rw [List.take_succ, h, Option.toList_some, List.map_append, List.map_singleton, List.append_assoc]
theorem web_ok {t : Ties} {w : Bool} {count : Nat} (h14 : count ≤ 14) (ht : t.length ≤ 100) : ∀ (fuel n : Nat) (left : NR) (S0 S : Store), left.length < fuel → Up left → (∀ x ∈ left, x < count) → n < S0.length → MemW t w count n S0 S →
    ∃ M X, f_web_left fuel [.v (nearD t count), .v (encW left), .v (.bool w), .r n] S = .ok (.v (.int (gW t w left : Nat))) (M ++ X) ∧ MemW t w count n S0 M
  | 0, _, _, _, _, h, _, _, _, _ => absurd h (Nat.not_lt_zero _)
  | fuel + 1, n, left, S0, S, hf, hu, hc, hn, hM => by
    have ih := web_ok (t := t) (w := w) h14 ht fuel
    have hleft : left.length ≤ 14 := Nat.le_trans (few_of left (List.range count) hu.nodup fun x hx => List.mem_range.mpr (hc x hx)) (by rw [List.length_range]; exact h14)
    have call : ∀ (x : NR) (S0 S : Store) (args : FA) (env : DEnv), x.length < left.length → Up x → (∀ k ∈ x, k ∈ left) → n < S0.length → MemW t w count n S0 S → args env S = .ok [.v (nearD t count), .v (encW x), .v (.bool w), .r n] S →
        ∃ M, dCall (f_web_left fuel) args [] env S = .ok (.v (.int (gW t w x : Nat))) M ∧ MemW t w count n S0 M := by
      intro x S0 S args env h1 h2 h3 h4 h5 ea
      obtain ⟨M, X, e, hM'⟩ := ih n x S0 S (by omega) h2 (fun k hk => hc k (h3 k hk)) h4 h5
      refine ⟨M, ?_, hM'⟩
      rw [dCall_ap, ea, bind_okS, List.append_nil, e, trunc_v, h5.len, ← hM'.len, List.take_left]
    obtain ⟨X0, ps, ep, hP⟩ := parts_ok (t := t) (count := count) hu hc (by omega) S
    let E := envW t count left w n
    let pa : Option D := some (.v (.list (ps.map encW)))
    have s1 : sSet 4 (dCall f_parts_left (dConsA (dVar 0) (dConsA (dVar 1) dNilA)) []) (E none none none none none none none none) S = .ok (.nx (E pa none none none none none none none)) S := by
      rw [sSet_ap, dCall_ap]
      show lift _ (trunc S.length (f_parts_left [.v (nearD t count), .v (encW left)] S)) _ = _
      rw [ep, trunc_v, List.take_left, lift_ok]; rfl
    show ∃ M X, fin (b_web_left (f_web_left fuel) (E none none none none none none none none) S) = _ ∧ _
    unfold b_web_left
    rw [sSeq_ap, s1, thenS_nx, sSeq_ap, sIf_ap]
    have cnd : dTest (dBin dNe (dBlt opLen (dConsA (dVar 4) dNilA)) (dC (.int 1))) (E pa none none none none none none none) S = .ok (decide (ps.length ≠ 1)) S := by
      show ((dNe (.v (.int ((ps.map encW).length : Int))) (.v (.int 1)) S).bind asB) = _
      rw [dNe_ii, bind_okS, asB_b, List.length_map]
      congr 1
      rw [decide_eq_decide]; omega
    rw [cnd, lift_ok]
    by_cases h1 : ps.length ≠ 1
    · rw [decide_eq_true h1, if_pos rfl, sSeq_ap]
      have s2 : sSet 5 (dC (.int 0)) (E pa none none none none none none none) S = .ok (.nx (E pa (some (.v (.int ((xorL [] : Nat) : Int)))) none none none none none none)) S := rfl
      rw [s2, thenS_nx]
      obtain ⟨env', S', e, d6, rfl, hM'⟩ := forL_inv (p := .s 6) (body := sSet 5 (dCall f_nim_sum (dConsA (dVar 5) (dConsA (dCall (f_web_left fuel) (dConsA (dVar 0) (dConsA (dVar 6) (dConsA (dVar 2) (dConsA (dVar 3) dNilA)))) []) dNilA)) [])) (xs := ps.map encW) (fun i env S => ∃ d6, env = E pa (some (.v (.int ((xorL ((ps.take i).map (gW t w)) : Nat) : Int)))) d6 none none none none none ∧ MemW t w count n S0 S) (by
        rintro i x env S hx ⟨d6, rfl, hS⟩
        rw [List.getElem?_map] at hx
        cases hz : ps[i]? with
        | none => rw [hz] at hx; cases hx
        | some p =>
        rw [hz] at hx
        injection hx with hx
        subst hx
        have hp := List.mem_of_getElem? hz
        have hpe := hP.each p hp
        let E1 := E pa (some (.v (.int ((xorL ((ps.take i).map (gW t w)) : Nat) : Int)))) (some (.v (encW p))) none none none none none
        obtain ⟨M, ec, hM'⟩ := call p S0 S (dConsA (dVar 0) (dConsA (dVar 6) (dConsA (dVar 2) (dConsA (dVar 3) dNilA)))) E1 (by rw [← hP.size]; exact part_small (fun p hp => (hP.each p hp).1) h1 hp) hpe.2.1 hpe.2.2 hn hS rfl
        refine ⟨E1, by rw [gPat_s]; rfl, _, M, .inl ?_, some (.v (encW p)), rfl, hM'⟩
        rw [sSet_ap, dCall_ap, dConsA_ap, show dVar 5 E1 S = .ok (.v (.int ((xorL ((ps.take i).map (gW t w)) : Nat) : Int))) S from rfl, bind_okS, dConsA_ap, ec]
        show lift _ (trunc M.length (f_nim_sum [.v (.int ((xorL ((ps.take i).map (gW t w)) : Nat) : Int)), .v (.int (gW t w p : Nat))] M)) _ = _
        rw [nim_ok, trunc_v, List.take_length, lift_ok, List.take_succ, hz, Option.toList_some, List.map_append, List.map_singleton, xorL_snoc]; rfl) (E pa (some (.v (.int ((xorL [] : Nat) : Int)))) none none none none none none) S ⟨none, rfl, hM⟩
      rw [List.length_map, List.take_length, hP.sum] at e
      refine ⟨S', [], ?_, hM'⟩
      rw [List.append_nil, sSeq_ap, sFor_ap, show iSeq (dVar 4) (E pa (some (.v (.int ((xorL [] : Nat) : Int)))) none none none none none none) S = .ok (ps.map encW) S from rfl, lift_ok, e]; rfl
    · rw [decide_eq_false h1, if_neg Bool.false_ne_true, sNil_ap, thenS_nx]
      obtain ⟨ks, nd, sub, hSe⟩ := hM
      have at_n : ∀ ks : List (List Int), (S0.set n (.dt (memoD intsK (specW t w) ks)))[n]? = some (.dt (memoD intsK (specW t w) ks)) := fun ks => by simp [hn]
      have hcd : toI left ∈ domW count := dom_mem hu hc
      have hlt : t.length + 1 ≤ 101 := by omega
      have hop : (opts t w left).length ≤ 1414 := Nat.le_trans (opts_len t w left) (Nat.le_trans (Nat.mul_le_mul hleft hlt) (by decide))
      obtain ⟨S', e, M, X, rfl, hM'⟩ := memo_bodyX (Y := intsK) (spec := specW t w) (n := n) (fun S' => ∃ M X, S' = M ++ X ∧ MemW t w count n S0 M) (S := S) (ks := ks) (by rw [hSe]; exact at_n ks) (fk := dVar 1) (fd := dVar 3) (env := E pa none none none none none none none) (c := toI left)
        (B := sSeq (sSet 7 (dLstC dNilA))
  (sSeq (sFor (.s 8) (iSeq (dVar 1))
  (sSeq (sSet 9 (dLc [12] (.s 12) (iSeq (dBin dIx (dVar 0) (dVar 8))) (dTest (dBin (dInS false) (dVar 12) (dVar 1))) (dVar 12)))
  (sSeq (sSet 10 (dIf (tNotD (dTru (dVar 2))) (dLst (dConsA (dBin dAdd (dLst (dConsA (dVar 8) dNilA)) (dVar 9)) dNilA)) (dBin dAdd (dLst (dConsA (dLst (dConsA (dVar 8) dNilA)) dNilA)) (dLc [12] (.s 12) (iSeq (dVar 9)) fYes (dLst (dConsA (dVar 8) (dConsA (dVar 12) dNilA)))))))
  (sFor (.s 11) (iSeq (dVar 10))
  (sExpr (dMtL omAppend (dVar 7) (dConsA (dCall (f_web_left fuel) (dConsA (dVar 0) (dConsA (dBlt opTuple (dConsA (dLc [12] (.s 12) (iSeq (dVar 1)) (dTest (dBin (dInS true) (dVar 12) (dVar 11))) (dVar 12)) dNilA)) (dConsA (dVar 2) (dConsA (dVar 3) dNilA)))) []) dNilA)))))))
  (sFrz 7 (sSetT (dVar 3) (dVar 1) (dCall f_least_missing (dConsA (dVar 7) dNilA) []))))) (by
          show Res.ok (D.v (encW left)) S = _
          rw [encW_T]; rfl) rfl ⟨S, [], by rw [List.append_nil], ks, nd, sub, hSe⟩ (fun _ => by
        let u := S0.length
        have hSl : S.length = u := by rw [hSe, List.length_set]
        let uD : Option D := some (.r u)
        let E2 := E pa none none uD
        let T (M : Store) (us : List Nat) : Store := M ++ [.lst (us.map encN)]
        have t0 : sSet 7 (dLstC dNilA) (E pa none none none none none none none) S = .ok (.nx (E2 none none none none)) (T S []) := by
          show Res.ok (Out.nx ((E pa none none none none none none none).set 7 (some (.r S.length)))) (S ++ [.lst []]) = _
          rw [hSl]; rfl
        -- one gone
        have one : ∀ (k : Nat) (d9 d10 : Option D) (gs : List NR) (M : Store) (us : List Nat) (d11 : Option D), k ∈ left → (∀ g ∈ gs, k ∈ g) → us.length + gs.length ≤ 1000000 → MemW t w count n S0 M →
            ∃ d11' M', forL (.s 11) (sExpr (dMtL omAppend (dVar 7) (dConsA (dCall (f_web_left fuel) (dConsA (dVar 0) (dConsA (dBlt opTuple (dConsA (dLc [12] (.s 12) (iSeq (dVar 1)) (dTest (dBin (dInS true) (dVar 12) (dVar 11))) (dVar 12)) dNilA)) (dConsA (dVar 2) (dConsA (dVar 3) dNilA)))) []) dNilA))) (gs.map encL) (E2 (some (.v (encN k))) d9 d10 d11) (T M us) = .ok (.nx (E2 (some (.v (encN k))) d9 d10 d11')) (T M' (us ++ gs.map fun g => gW t w (cut left g))) ∧ MemW t w count n S0 M' := by
          intro k d9 d10 gs M us d11 hk hgs hsz hMM
          obtain ⟨env', S', e, d11', M', rfl, rfl, hM'⟩ := forL_inv (p := .s 11) (body := (sExpr (dMtL omAppend (dVar 7) (dConsA (dCall (f_web_left fuel) (dConsA (dVar 0) (dConsA (dBlt opTuple (dConsA (dLc [12] (.s 12) (iSeq (dVar 1)) (dTest (dBin (dInS true) (dVar 12) (dVar 11))) (dVar 12)) dNilA)) (dConsA (dVar 2) (dConsA (dVar 3) dNilA)))) []) dNilA)))) (xs := gs.map encL) (fun i env S => ∃ d11 M, env = E2 (some (.v (encN k))) d9 d10 d11 ∧ S = T M (us ++ (gs.take i).map fun g => gW t w (cut left g)) ∧ MemW t w count n S0 M) (by
            rintro i x env S hx ⟨d11, M, rfl, rfl, hMM⟩
            rw [List.getElem?_map] at hx
            cases hz : gs[i]? with
            | none => rw [hz] at hx; cases hx
            | some g =>
            rw [hz] at hx
            injection hx with hx
            subst hx
            have hg := List.mem_of_getElem? hz
            let vs := us ++ (gs.take i).map fun g => gW t w (cut left g)
            let E3 := E2 (some (.v (encN k))) d9 d10 (some (.v (encL g)))
            have hlt : (cut left g).length < left.length := filter_lt hk (by simp [hgs g hg])
            obtain ⟨M2, ec, hM2⟩ := call (cut left g) (S0 ++ [.lst (vs.map encN)]) (T M vs) (dConsA (dVar 0) (dConsA (dBlt opTuple (dConsA (dLc [12] (.s 12) (iSeq (dVar 1)) (dTest (dBin (dInS true) (dVar 12) (dVar 11))) (dVar 12)) dNilA)) (dConsA (dVar 2) (dConsA (dVar 3) dNilA)))) E3 hlt (cut_up hu) (fun k hk => (List.mem_filter.mp hk).1) (by rw [List.length_append]; omega) (mem_snoc hn hMM _) (by
              rw [dConsA_ap, show dVar 0 E3 (T M vs) = .ok (.v (nearD t count)) (T M vs) from rfl, bind_okS, dConsA_ap, cut_run (left := left) (gone := g) rfl (by omega) (fun y => ⟨_, gPat_s _ _, rfl, rfl⟩)]; rfl)
            obtain ⟨M3, rfl, hM3⟩ := mem_unsnoc hn hM2
            have hl3 : M3.length = u := hM3.len
            refine ⟨E3, by rw [gPat_s]; rfl, E3, T M3 (us ++ (gs.take (i + 1)).map fun g => gW t w (cut left g)), .inl ?_, _, M3, rfl, rfl, hM3⟩
            have gu : ∀ M : Store, M.length = u → (T M vs)[u]? = some (.lst (vs.map encN)) := fun M h => by rw [← h]; exact snoc_get _ _
            have hvl : vs.length + 1 ≤ 1000000 := by
              have := (List.getElem?_eq_some_iff.mp hz).1
              show (us ++ (gs.take i).map _).length + 1 ≤ _
              rw [List.length_append, List.length_map, List.length_take]; omega
            rw [sExpr_ap, dMtL_ok (d := .r u) (S1 := T M vs) (S2 := T M3 vs) (ds := [.v (.int (gW t w (cut left g) : Nat))]) rfl (listOf_r (gu M hMM.len)) (by rw [dConsA_ap, ec]; rfl), omAppend_ok (gu M3 hl3) (by rw [List.length_map]; omega), lift_ok]
            show Res.ok _ ((M3 ++ [Cell.lst (vs.map encN)]).set u _) = _
            rw [← hl3, snoc_set, take_snoc (fun g => gW t w (cut left g)) us hz]
            show Res.ok _ (M3 ++ [Cell.lst (vs.map encN ++ [encN (gW t w (cut left g))])]) = Res.ok _ (M3 ++ [Cell.lst ((vs ++ [gW t w (cut left g)]).map encN)])
            rw [snoc_enc vs]) (E2 (some (.v (encN k))) d9 d10 d11) (T M us) ⟨d11, M, rfl, by rw [List.take_zero, List.map_nil, List.append_nil], hMM⟩
          rw [List.length_map, List.take_length] at e
          exact ⟨d11', M', e, hM'⟩
        obtain ⟨env', S', e, d8, d9, d10, d11, M, rfl, rfl, hM'⟩ := forL_inv (p := .s 8) (body := (sSeq (sSet 9 (dLc [12] (.s 12) (iSeq (dBin dIx (dVar 0) (dVar 8))) (dTest (dBin (dInS false) (dVar 12) (dVar 1))) (dVar 12)))
  (sSeq (sSet 10 (dIf (tNotD (dTru (dVar 2))) (dLst (dConsA (dBin dAdd (dLst (dConsA (dVar 8) dNilA)) (dVar 9)) dNilA)) (dBin dAdd (dLst (dConsA (dLst (dConsA (dVar 8) dNilA)) dNilA)) (dLc [12] (.s 12) (iSeq (dVar 9)) fYes (dLst (dConsA (dVar 8) (dConsA (dVar 12) dNilA)))))))
  (sFor (.s 11) (iSeq (dVar 10))
  (sExpr (dMtL omAppend (dVar 7) (dConsA (dCall (f_web_left fuel) (dConsA (dVar 0) (dConsA (dBlt opTuple (dConsA (dLc [12] (.s 12) (iSeq (dVar 1)) (dTest (dBin (dInS true) (dVar 12) (dVar 11))) (dVar 12)) dNilA)) (dConsA (dVar 2) (dConsA (dVar 3) dNilA)))) []) dNilA))))))) (xs := left.map encN) (fun i env S => ∃ d8 d9 d10 d11 M, env = E2 d8 d9 d10 d11 ∧ S = T M ((left.take i).flatMap fun k => (gones t w left k).map fun g => gW t w (cut left g)) ∧ MemW t w count n S0 M) (by
          rintro i x env S hx ⟨d8, d9, d10, d11, M, rfl, rfl, hMM⟩
          rw [List.getElem?_map] at hx
          cases hz : left[i]? with
          | none => rw [hz] at hx; cases hx
          | some k =>
          rw [hz] at hx
          injection hx with hx
          subst hx
          have hk := List.mem_of_getElem? hz
          let us := (left.take i).flatMap fun k => (gones t w left k).map fun g => gW t w (cut left g)
          have husl : us.length ≤ 1414 := Nat.le_trans (flat_len _ 101 (fun k => by rw [List.length_map]; exact Nat.le_trans (gones_len t w left k) hlt) (left.take i)) (by
            rw [List.length_take]
            have : min i left.length ≤ 14 := by omega
            exact Nat.le_trans (Nat.mul_le_mul_right 101 this) (by decide))
          have i1 : sSet 9 (dLc [12] (.s 12) (iSeq (dBin dIx (dVar 0) (dVar 8))) (dTest (dBin (dInS false) (dVar 12) (dVar 1))) (dVar 12)) (E2 (some (.v (encN k))) d9 d10 d11) (T M us) = .ok (.nx (E2 (some (.v (encN k))) (some (.v (encL (ins t left k)))) d10 d11)) (T M us) := by
            rw [sSet_ap, filt_run (ys := nb t k) (fun o => decide (o ∈ left)) (by
              rw [iSeq_ap, dBin_ap]
              show ((dIx (.v (nearD t count)) (.v (.int (k : Int))) (T M us)).bind _) = _
              rw [near_at (hc k hk)]; rfl) (by have := nb_len t k; omega) (fun y _ => ⟨_, gPat_s _ _, by
                rw [dTest_ap, dBin_ap]
                show ((dInS false (.v (.int (y : Int))) (.v (encW left)) (T M us)).bind asB) = _
                rw [in_tupN]; simp, rfl⟩)]; rfl
          have i2 : sSet 10 (dIf (tNotD (dTru (dVar 2))) (dLst (dConsA (dBin dAdd (dLst (dConsA (dVar 8) dNilA)) (dVar 9)) dNilA)) (dBin dAdd (dLst (dConsA (dLst (dConsA (dVar 8) dNilA)) dNilA)) (dLc [12] (.s 12) (iSeq (dVar 9)) fYes (dLst (dConsA (dVar 8) (dConsA (dVar 12) dNilA)))))) (E2 (some (.v (encN k))) (some (.v (encL (ins t left k)))) d10 d11) (T M us) = .ok (.nx (E2 (some (.v (encN k))) (some (.v (encL (ins t left k)))) (some (.v (.list ((gones t w left k).map encL)))) d11)) (T M us) := by
            rw [sSet_ap, gones_run (t := t) (w := w) (left := left) (k := k) rfl rfl rfl (by have := ins_len t left k; omega) (fun y => ⟨_, gPat_s _ _, rfl, rfl⟩)]; rfl
          have hgl := gones_len t w left k
          obtain ⟨d11', M', e3, hM3⟩ := one k (some (.v (encL (ins t left k)))) (some (.v (.list ((gones t w left k).map encL)))) (gones t w left k) M us d11 hk (fun g hg => (gone_has hg).1) (by omega) hMM
          refine ⟨E2 (some (.v (encN k))) d9 d10 d11, by rw [gPat_s]; rfl, E2 (some (.v (encN k))) (some (.v (encL (ins t left k)))) (some (.v (.list ((gones t w left k).map encL)))) d11', T M' (us ++ (gones t w left k).map fun g => gW t w (cut left g)), .inl ?_, _, _, _, d11', M', rfl, by rw [List.take_succ, hz, Option.toList_some, List.flatMap_append, List.flatMap_singleton], hM3⟩
          rw [sSeq_ap, i1, thenS_nx, sSeq_ap, i2, thenS_nx, sFor_ap, show iSeq (dVar 10) (E2 (some (.v (encN k))) (some (.v (encL (ins t left k)))) (some (.v (.list ((gones t w left k).map encL)))) d11) (T M us) = .ok ((gones t w left k).map encL) (T M us) from rfl, lift_ok, e3]) (E2 none none none none) (T S []) ⟨none, none, none, none, S, rfl, rfl, ks, nd, sub, hSe⟩
        rw [List.length_map, List.take_length] at e
        let us := left.flatMap fun k => (gones t w left k).map fun g => gW t w (cut left g)
        have hus : us = (opts t w left).map (gW t w) := by
          show _ = (left.flatMap _).map _
          rw [List.map_flatMap]
          simp only [List.map_map]; rfl
        have husl : us.length ≤ 1414 := by rw [hus, List.length_map]; exact hop
        let E4 := (E2 d8 d9 d10 d11).set 7 (some (.v (.list (us.map encN))))
        have hcall : ∀ S', MemW t w count n (S0 ++ [.dead]) S' → ∃ S'', dCall f_least_missing (dConsA (dVar 7) dNilA) [] E4 S' = .ok (.v (specW t w (toI left))) S'' ∧ MemW t w count n (S0 ++ [.dead]) S'' := fun S' h => by
          obtain ⟨kvs, el⟩ := least_ok (l := us) S' (by omega)
          refine ⟨S', ?_, h⟩
          rw [dCall_ap, dConsA_ap]
          show trunc S'.length (f_least_missing [.v (.list (us.map encN))] S') = _
          rw [el, trunc_v, List.take_left, spec_toI, gW_eq, hus]
        obtain ⟨ks2, a1, a2, a3, a4⟩ := memo_set (Y := intsK) (spec := specW t w) (dom := domW count) (n := n) (S0 := S0 ++ [.dead]) (by rw [List.length_append]; omega) (dom_few h14) (fk := dVar 1) (fd := dVar 3) (env := E4) (c := toI left) (fun S => by
          show Res.ok (D.v (encW left)) S = _
          rw [encW_T]; rfl) (fun S => rfl) hcd hcall (M ++ [.dead]) (mem_snoc hn hM' _)
        have hset : (S0 ++ [Cell.dead]).set n (.dt (memoD intsK (specW t w) ks2)) = S0.set n (.dt (memoD intsK (specW t w) ks2)) ++ [.dead] := List.set_append_left _ _ hn
        refine ⟨E4, S0.set n (.dt (memoD intsK (specW t w) ks2)) ++ [.dead], ks2, ?_, by rw [List.getElem?_append_left (by rw [List.length_set]; exact hn)]; exact at_n ks2, a3, by
          show Res.ok (D.v (encW left)) _ = _
          rw [encW_T]; rfl, rfl, S0.set n (.dt (memoD intsK (specW t w) ks2)), [.dead], rfl, ks2, a1, a2, rfl⟩
        have gu : (T M us)[u]? = some (.lst (us.map encN)) := by rw [show u = M.length from hM'.len.symm]; exact snoc_get _ _
        rw [sSeq_ap, t0, thenS_nx, sSeq_ap, sFor_ap, show iSeq (dVar 1) (E2 none none none none) (T S []) = .ok (left.map encN) (T S []) from rfl, lift_ok, e, thenS_nx, sFrz_r (n := u) rfl gu]
        rw [show (T M us).set u .dead = M ++ [.dead] by rw [show u = M.length from hM'.len.symm]; exact snoc_set _ _ _]
        rw [← hset]; exact a4)
      refine ⟨M, X, ?_, hM'⟩
      rw [e, fin_rt, spec_toI]
end K33

set_option Elab.async false
set_option linter.all false
set_option autoImplicit false
set_option maxRecDepth 1000000
/-! k33: the number of a web, in the law -/
namespace K33
open PySem G L2 K38
def encQ (q : Nat × Nat) : PyData := .tuple [encN q.1, encN q.2]
def tiesD (t : Ties) : PyData := .tuple (t.map encQ)
def Irr (t : Ties) : Prop := ∀ q ∈ t, q.1 ≠ q.2
theorem near_same {t : Ties} (ht : Irr t) {left : NR} {k : Nat} (hk : k ∈ left) :
    (t.filter fun q => decide ((k = q.1 ∨ k = q.2) ∧ q.1 ∈ left ∧ q.2 ∈ left)).map (fun q => if q.2 = k then q.1 else q.2) = ins t left k := by
  unfold ins nb
  rw [List.filter_map, List.filter_filter]
  have e : (t.filter fun q => decide ((k = q.1 ∨ k = q.2) ∧ q.1 ∈ left ∧ q.2 ∈ left)) = t.filter fun q => (((fun o => decide (o ∈ left)) ∘ fun q : Nat × Nat => if q.1 = k then q.2 else q.1) q && decide (k = q.1 ∨ k = q.2)) := by
    refine List.filter_congr fun q hq => ?_
    rw [Bool.eq_iff_iff]
    simp only [Function.comp, Bool.and_eq_true, decide_eq_true_iff]
    constructor
    · rintro ⟨h1, h2, h3⟩
      refine ⟨?_, h1⟩
      split
      · exact h3
      · exact h2
    · rintro ⟨h1, h2⟩
      refine ⟨h2, ?_⟩
      split at h1
      · rename_i z; exact ⟨z ▸ hk, h1⟩
      · rename_i z
        rcases h2 with h2 | h2
        · exact absurd h2.symm z
        · exact ⟨h1, h2 ▸ hk⟩
  rw [e]
  refine List.map_congr_left fun q hq => ?_
  obtain ⟨h1, h2⟩ := List.mem_filter.mp hq
  have hne := ht q h1
  rw [Bool.and_eq_true, decide_eq_true_iff (p := k = q.1 ∨ k = q.2)] at h2
  rcases h2.2 with z | z
  · rw [if_pos z.symm, if_neg (fun y => hne (by rw [← z, y]))]
  · rw [if_pos z.symm, if_neg (fun y => hne (by rw [y, z]))]
theorem pat_q {i j : Nat} {q : Nat × Nat} {env : DEnv} : gPat (.t [.s i, .s j]) (encQ q) env = some ((env.set i (some (.v (encN q.1)))).set j (some (.v (encN q.2)))) := by
  show (if 2 = 2 then gPats [.s i, .s j] [encN q.1, encN q.2] env else none) = _
  simp [gPats]
theorem in_two (k a b : Nat) (S : Store) : dInS false (.v (encN k)) (.v (.tuple [encN a, encN b])) S = .ok (.v (.bool (decide (k = a ∨ k = b)))) S := by
  rw [show dInS false (.v (encN k)) (.v (.tuple [encN a, encN b])) S = _ from in_tupN (l := [a, b]) false S]
  simp
theorem rangeD0 (n : Nat) : rangeD 0 n = (List.range n).map encN := by
  unfold rangeD
  exact List.map_congr_left fun i _ => by simp [encN]
theorem mex_head (l : List Nat) : ((List.range (l.length + 1)).filter fun k => decide (k ∉ l)).head? = some (mex l) := by
  rw [List.head?_filter, List.find?_range_eq_some]
  have := mex_spec l
  have hl := mex_le l
  refine ⟨by simpa using this.1, List.mem_range.mpr (by omega), fun j hj => ?_⟩
  have := this.2 j hj
  simp [this]
/-- near, in the law -/
theorem lnear {t : Ties} (ht : Irr t) (hl : t.length ≤ 100) {left : NR} {k : Nat} (hk : k ∈ left) {own : List Nat} {i j : Nat} {fk fl fi fj fT : FE} {env : DEnv} {S : Store} (hT : fT env S = .ok (.v (tiesD t)) S)
    (h : ∀ q : Nat × Nat, ∃ env1, gPat (.t [.s i, .s j]) (encQ q) (wipeE env own) = some env1 ∧ fi env1 S = .ok (.v (encN q.1)) S ∧ fj env1 S = .ok (.v (encN q.2)) S ∧ fk env1 S = .ok (.v (encN k)) S ∧ fl env1 S = .ok (.v (encW left)) S) :
    dLc own (.t [.s i, .s j]) (iSeq fT) (tAndD (dTest (dBin (dInS false) fk (dTup (dConsA fi (dConsA fj dNilA))))) (tAndD (dTest (dBin (dInS false) fi fl)) (dTest (dBin (dInS false) fj fl)))) (dIf (dTest (dBin dEq fj fk)) fi fj) env S = .ok (.v (encL (ins t left k))) S := by
  obtain ⟨S', e, rfl⟩ := dLc_thr2 (own := own) (p := .t [.s i, .s j]) (i := iSeq fT) (t := tAndD (dTest (dBin (dInS false) fk (dTup (dConsA fi (dConsA fj dNilA))))) (tAndD (dTest (dBin (dInS false) fi fl)) (dTest (dBin (dInS false) fj fl)))) (e := dIf (dTest (dBin dEq fj fk)) fi fj) (fun S' => S' = S) encQ (fun q => decide ((k = q.1 ∨ k = q.2) ∧ q.1 ∈ left ∧ q.2 ∈ left)) (fun q => encN (if q.2 = k then q.1 else q.2)) (xs := t) (by rw [iSeq_ap, hT]; rfl) (by omega) rfl (by
    rintro q hq S' rfl
    obtain ⟨env1, h1, h2, h3, h4, h5⟩ := h q
    have tup : dTup (dConsA fi (dConsA fj dNilA)) env1 S' = .ok (.v (.tuple [encN q.1, encN q.2])) S' := by rw [dTup_ap, dConsA_ap, h2, bind_okS, dConsA_ap, h3]; rfl
    have inl : ∀ (f : FE) (a : Nat), f env1 S' = .ok (.v (encN a)) S' → dTest (dBin (dInS false) f fl) env1 S' = .ok (decide (a ∈ left)) S' := fun f a hf => by
      rw [dTest_ap, dBin_ap, hf, bind_okS, h5, bind_okS, show dInS false (.v (encN a)) (.v (encW left)) S' = _ from in_tupN false S']
      simp
    refine ⟨env1, S', h1, ?_, rfl, fun _ => ⟨S', ?_, rfl⟩⟩
    · rw [tAndD_ap, dTest_ap, dBin_ap, h4, bind_okS, tup, bind_okS, in_two, bind_okS, asB_b, bind_okS, tAndD_ap, inl fi _ h2, bind_okS, inl fj _ h3]
      by_cases a : k = q.1 ∨ k = q.2 <;> by_cases b : q.1 ∈ left <;> simp [a, b]
    · rw [dIf_ap, dTest_ap, dBin_ap, h3, bind_okS, h4, bind_okS]
      show (((dEq (.v (.int (q.2 : Int))) (.v (.int (k : Int))) S').bind asB).bind _) = _
      rw [dEq_ii, bind_okS, asB_b, bind_okS]
      by_cases a : q.2 = k
      · rw [decide_eq_true (show (q.2 : Int) = (k : Int) by omega), if_pos rfl, if_pos a, h2]
      · rw [decide_eq_false (show ¬ (q.2 : Int) = (k : Int) by omega), if_neg Bool.false_ne_true, if_neg a, h3])
  rw [e, ← near_same ht hk]
  unfold encL
  rw [List.map_map]; rfl
def envLN (t : Ties) (left : NR) (w : Bool) (n : Nat) (d4 d5 d6 d7 : Option D) : DEnv := [some (.v (tiesD t)), some (.v (encW left)), some (.v (.bool w)), some (.r n), d4, d5, d6, d7, none, none, none, none, none]
theorem lnum_ok {t : Ties} (hI : Irr t) {w : Bool} {count : Nat} (h14 : count ≤ 14) (ht : t.length ≤ 100) {n : Nat} {S0 : Store} (hn : n < S0.length) : ∀ (fuel : Nat) (left : NR) (S : Store), left.length < fuel → Up left → (∀ x ∈ left, x < count) → MemW t w count n S0 S →
    ∃ S', f__law_number fuel [.v (tiesD t), .v (encW left), .v (.bool w), .r n] S = .ok (.v (.int (gW t w left : Nat))) S' ∧ MemW t w count n S0 S'
  | 0, _, _, h, _, _, _ => absurd h (Nat.not_lt_zero _)
  | fuel + 1, left, S, hf, hu, hc, hM => by
    have ih := lnum_ok hI (w := w) h14 ht hn fuel
    have hleft : left.length ≤ 14 := Nat.le_trans (few_of left (List.range count) hu.nodup fun x hx => List.mem_range.mpr (hc x hx)) (by rw [List.length_range]; exact h14)
    let E := envLN t left w n
    obtain ⟨ks, nd, sub, hSe⟩ := id hM
    have at_n : ∀ ks : List (List Int), (S0.set n (.dt (memoD intsK (specW t w) ks)))[n]? = some (.dt (memoD intsK (specW t w) ks)) := fun ks => by simp [hn]
    have hcd : toI left ∈ domW count := dom_mem hu hc
    have hlt : t.length + 1 ≤ 101 := by omega
    have hop : (opts t w left).length ≤ 1414 := Nat.le_trans (opts_len t w left) (Nat.le_trans (Nat.mul_le_mul hleft hlt) (by decide))
    have key : ∀ (d4 d5 d6 d7 : Option D) (S : Store), dVar 1 (E d4 d5 d6 d7) S = .ok (.v (intsK.enc (toI left))) S := fun _ _ _ _ S => by
      show Res.ok (D.v (encW left)) S = _
      rw [encW_T]; rfl
    show ∃ S', fin (b__law_number (f__law_number fuel) (E none none none none) S) = _ ∧ _
    unfold b__law_number
    obtain ⟨S', e, hM'⟩ := memo_bodyX (Y := intsK) (spec := specW t w) (n := n) (fun S' => MemW t w count n S0 S') (S := S) (ks := ks) (by rw [hSe]; exact at_n ks) (fk := dVar 1) (fd := dVar 3) (env := E none none none none) (c := toI left)
      (B := (sSeq (sSet 4 (dLst dNilA))
  (sSeq (sFor (.s 5) (iSeq (dVar 1))
  (sSeq (sSet 6 (dLc [8, 9] (.t [(.s 8), (.s 9)]) (iSeq (dVar 0)) (tAndD (dTest (dBin (dInS false) (dVar 5) (dTup (dConsA (dVar 8) (dConsA (dVar 9) dNilA))))) (tAndD (dTest (dBin (dInS false) (dVar 8) (dVar 1))) (dTest (dBin (dInS false) (dVar 9) (dVar 1))))) (dIf (dTest (dBin dEq (dVar 9) (dVar 5))) (dVar 8) (dVar 9))))
  (sSeq (sSet 7 (dIf (tNotD (dTru (dVar 2))) (dLst (dConsA (dBin dAdd (dLst (dConsA (dVar 5) dNilA)) (dVar 6)) dNilA)) (dBin dAdd (dLst (dConsA (dLst (dConsA (dVar 5) dNilA)) dNilA)) (dLc [10] (.s 10) (iSeq (dVar 6)) fYes (dLst (dConsA (dVar 5) (dConsA (dVar 10) dNilA)))))))
  (sSet 4 (dBin dAdd (dVar 4) (dLc [11] (.s 11) (iSeq (dVar 7)) fYes (dCall (f__law_number fuel) (dConsA (dVar 0) (dConsA (dBlt opTuple (dConsA (dLc [10] (.s 10) (iSeq (dVar 1)) (dTest (dBin (dInS true) (dVar 10) (dVar 11))) (dVar 10)) dNilA)) (dConsA (dVar 2) (dConsA (dVar 3) dNilA)))) [])))))))
  (sSetT (dVar 3) (dVar 1) (dBin dIx (dLc [12] (.s 12) (iRange1 (dBin dAdd (dBlt opLen (dConsA (dVar 4) dNilA)) (dC (.int 1)))) (dTest (dBin (dInS true) (dVar 12) (dVar 4))) (dVar 12)) (dC (.int 0)))))))
      (key _ _ _ _ S) rfl hM (fun _ => by
      let uD (us : List Nat) : Option D := some (.v (encL us))
      let U (i : Nat) : List Nat := (left.take i).flatMap fun k => (gones t w left k).map fun g => gW t w (cut left g)
      have hU : ∀ i, (U i).length ≤ 1414 := fun i => Nat.le_trans (flat_len _ 101 (fun k => by rw [List.length_map]; exact Nat.le_trans (gones_len t w left k) hlt) (left.take i)) (by
        rw [List.length_take]
        have : min i left.length ≤ 14 := by omega
        exact Nat.le_trans (Nat.mul_le_mul_right 101 this) (by decide))
      obtain ⟨env', S', e, d5, d6, d7, rfl, hM'⟩ := forL_inv (p := .s 5) (body := (sSeq (sSet 6 (dLc [8, 9] (.t [(.s 8), (.s 9)]) (iSeq (dVar 0)) (tAndD (dTest (dBin (dInS false) (dVar 5) (dTup (dConsA (dVar 8) (dConsA (dVar 9) dNilA))))) (tAndD (dTest (dBin (dInS false) (dVar 8) (dVar 1))) (dTest (dBin (dInS false) (dVar 9) (dVar 1))))) (dIf (dTest (dBin dEq (dVar 9) (dVar 5))) (dVar 8) (dVar 9))))
  (sSeq (sSet 7 (dIf (tNotD (dTru (dVar 2))) (dLst (dConsA (dBin dAdd (dLst (dConsA (dVar 5) dNilA)) (dVar 6)) dNilA)) (dBin dAdd (dLst (dConsA (dLst (dConsA (dVar 5) dNilA)) dNilA)) (dLc [10] (.s 10) (iSeq (dVar 6)) fYes (dLst (dConsA (dVar 5) (dConsA (dVar 10) dNilA)))))))
  (sSet 4 (dBin dAdd (dVar 4) (dLc [11] (.s 11) (iSeq (dVar 7)) fYes (dCall (f__law_number fuel) (dConsA (dVar 0) (dConsA (dBlt opTuple (dConsA (dLc [10] (.s 10) (iSeq (dVar 1)) (dTest (dBin (dInS true) (dVar 10) (dVar 11))) (dVar 10)) dNilA)) (dConsA (dVar 2) (dConsA (dVar 3) dNilA)))) []))))))) (xs := left.map encN) (fun i env S => ∃ d5 d6 d7, env = E (uD (U i)) d5 d6 d7 ∧ MemW t w count n S0 S) (by
        rintro i x env S hx ⟨d5, d6, d7, rfl, hMM⟩
        rw [List.getElem?_map] at hx
        cases hz : left[i]? with
        | none => rw [hz] at hx; cases hx
        | some k =>
        rw [hz] at hx
        injection hx with hx
        subst hx
        have hk := List.mem_of_getElem? hz
        have i1 : sSet 6 (dLc [8, 9] (.t [(.s 8), (.s 9)]) (iSeq (dVar 0)) (tAndD (dTest (dBin (dInS false) (dVar 5) (dTup (dConsA (dVar 8) (dConsA (dVar 9) dNilA))))) (tAndD (dTest (dBin (dInS false) (dVar 8) (dVar 1))) (dTest (dBin (dInS false) (dVar 9) (dVar 1))))) (dIf (dTest (dBin dEq (dVar 9) (dVar 5))) (dVar 8) (dVar 9))) (E (uD (U i)) (some (.v (encN k))) d6 d7) S = .ok (.nx (E (uD (U i)) (some (.v (encN k))) (some (.v (encL (ins t left k)))) d7)) S := by
          rw [sSet_ap, lnear hI ht hk rfl (fun q => ⟨_, pat_q, rfl, rfl, rfl, rfl⟩)]; rfl
        have i2 : sSet 7 (dIf (tNotD (dTru (dVar 2))) (dLst (dConsA (dBin dAdd (dLst (dConsA (dVar 5) dNilA)) (dVar 6)) dNilA)) (dBin dAdd (dLst (dConsA (dLst (dConsA (dVar 5) dNilA)) dNilA)) (dLc [10] (.s 10) (iSeq (dVar 6)) fYes (dLst (dConsA (dVar 5) (dConsA (dVar 10) dNilA)))))) (E (uD (U i)) (some (.v (encN k))) (some (.v (encL (ins t left k)))) d7) S = .ok (.nx (E (uD (U i)) (some (.v (encN k))) (some (.v (encL (ins t left k)))) (some (.v (.list ((gones t w left k).map encL)))))) S := by
          rw [sSet_ap, gones_run (t := t) (w := w) (left := left) (k := k) rfl rfl rfl (by have := ins_len t left k; omega) (fun y => ⟨_, gPat_s _ _, rfl, rfl⟩)]; rfl
        have hgl := gones_len t w left k
        let E1 := E (uD (U i)) (some (.v (encN k))) (some (.v (encL (ins t left k)))) (some (.v (.list ((gones t w left k).map encL))))
        obtain ⟨S2, e2, hM2⟩ := dLc_thr2 (own := [11]) (p := .s 11) (i := iSeq (dVar 7)) (t := fYes) (e := dCall (f__law_number fuel) (dConsA (dVar 0) (dConsA (dBlt opTuple (dConsA (dLc [10] (.s 10) (iSeq (dVar 1)) (dTest (dBin (dInS true) (dVar 10) (dVar 11))) (dVar 10)) dNilA)) (dConsA (dVar 2) (dConsA (dVar 3) dNilA)))) []) (env := E1) (S := S) (S1 := S) (fun S => MemW t w count n S0 S) encL (fun _ => true) (fun g => encN (gW t w (cut left g))) (xs := gones t w left k) rfl (by omega) hMM (by
          intro g hg S hS
          have hlt : (cut left g).length < left.length := filter_lt hk (by simp [(gone_has hg).1])
          obtain ⟨S3, e3, h3⟩ := ih (cut left g) S (by omega) (cut_up hu) (fun k hk => hc k (List.mem_filter.mp hk).1) hS
          refine ⟨_, S, gPat_s _ _, rfl, hS, fun _ => ⟨S3, ?_, h3⟩⟩
          rw [dCall_ap, dConsA_ap]
          show (((Res.ok (D.v (tiesD t)) S).bind _).bind _) = _
          rw [bind_okS, dConsA_ap, cut_run (left := left) (gone := g) rfl (by omega) (fun y => ⟨_, gPat_s _ _, rfl, rfl⟩)]
          show trunc S.length (f__law_number fuel [.v (tiesD t), .v (encW (cut left g)), .v (.bool w), .r n] S) = _
          rw [e3, trunc_v, h3.take hS.len]; rfl)
        refine ⟨E (uD (U i)) (some (.v (encN k))) d6 d7, by rw [gPat_s]; rfl, E (uD (U (i + 1))) (some (.v (encN k))) (some (.v (encL (ins t left k)))) (some (.v (.list ((gones t w left k).map encL)))), S2, .inl ?_, _, _, _, rfl, hM2⟩
        rw [sSeq_ap, i1, thenS_nx, sSeq_ap, i2, thenS_nx, sSet_ap, dBin_ap, show dVar 4 E1 S = .ok (.v (.list ((U i).map encN))) S from rfl, bind_okS, e2, bind_okS, dAdd_ll _ _ (by
          have := hU i
          have := List.length_filter_le (fun _ : NR => true) (gones t w left k)
          rw [List.length_map, List.length_map]; omega), lift_ok, List.filter_eq_self.mpr (fun _ _ => rfl)]
        have : (U i).map encN ++ (gones t w left k).map (fun g => encN (gW t w (cut left g))) = (U (i + 1)).map encN := by
          show _ = (((left.take (i + 1)).flatMap _)).map encN
          rw [List.take_succ, hz, Option.toList_some, List.flatMap_append, List.flatMap_singleton, List.map_append, List.map_map]; rfl
        rw [this]; rfl) (E (uD []) none none none) S ⟨none, none, none, rfl, hM⟩
      rw [List.length_map] at e
      let us := U left.length
      have hus : us = (opts t w left).map (gW t w) := by
        show ((left.take left.length).flatMap _) = (left.flatMap _).map _
        rw [List.take_length, List.map_flatMap]
        simp only [List.map_map]; rfl
      have husl : us.length ≤ 1414 := hU _
      let E4 := E (uD us) d5 d6 d7
      have hcall : ∀ S', MemW t w count n S0 S' → ∃ S'', dBin dIx (dLc [12] (.s 12) (iRange1 (dBin dAdd (dBlt opLen (dConsA (dVar 4) dNilA)) (dC (.int 1)))) (dTest (dBin (dInS true) (dVar 12) (dVar 4))) (dVar 12)) (dC (.int 0)) E4 S' = .ok (.v (specW t w (toI left))) S'' ∧ MemW t w count n S0 S'' := fun S' h => by
        refine ⟨S', ?_, h⟩
        have hr : iRange1 (dBin dAdd (dBlt opLen (dConsA (dVar 4) dNilA)) (dC (.int 1))) E4 S' = .ok ((List.range (us.length + 1)).map encN) S' := by
          rw [iRange1_ok (b := (us.length : Int) + 1) (n := us.length + 1) (S1 := S') (by
            show ((opLen [.v (.list (us.map encN))] S').bind fun a S1 => dAdd a (.v (.int 1)) S1) = _
            rw [opLen_l, List.length_map]; rfl) (by omega) (by omega) (by omega), rangeD0]
        rw [dBin_ap, filt_run (ys := List.range (us.length + 1)) (fun k => decide (k ∉ us)) hr (by rw [List.length_range]; omega) (fun y _ => ⟨_, gPat_s _ _, by
          rw [dTest_ap, dBin_ap]
          show ((dInS true (.v (.int (y : Int))) (.v (.list (us.map encN))) S').bind asB) = _
          rw [in_seqN]; simp, rfl⟩), bind_okS, dC_ap, bind_okS]
        have hh := mex_head us
        cases hx : (List.range (us.length + 1)).filter fun k => decide (k ∉ us) with
        | nil => rw [hx] at hh; cases hh
        | cons a r =>
          rw [hx, List.head?_cons] at hh
          have hh := Option.some.inj hh
          have hm : a = gW t w left := by
            have : mex us = gW t w left := (congrArg mex hus).trans (gW_eq t w left).symm
            exact hh.trans this
          have e0 : dIx (.v (encL (a :: r))) (.v (.int 0)) S' = .ok (.v (encN a)) S' := by
            unfold encL
            rw [dIx_l, List.map_cons, atI_0]
          rw [e0, spec_toI, hm]; rfl
      obtain ⟨ks2, a1, a2, a3, a4⟩ := memo_set (Y := intsK) (spec := specW t w) (dom := domW count) (n := n) (S0 := S0) hn (dom_few h14) (fk := dVar 1) (fd := dVar 3) (env := E4) (c := toI left) (fun S => key _ _ _ _ S) (fun S => rfl) hcd hcall S' hM'
      refine ⟨E4, S0.set n (.dt (memoD intsK (specW t w) ks2)), ks2, ?_, at_n ks2, a3, key _ _ _ _ _, rfl, ks2, a1, a2, rfl⟩
      rw [sSeq_ap, show sSet 4 (dLst dNilA) (E none none none none) S = .ok (.nx (E (uD []) none none none)) S from rfl, thenS_nx, sSeq_ap, sFor_ap, show iSeq (dVar 1) (E (uD []) none none none) S = .ok (left.map encN) S from rfl, lift_ok, e, thenS_nx]
      exact a4)
    refine ⟨S', ?_, hM'⟩
    rw [e, fin_rt, spec_toI]
end K33

set_option Elab.async false
set_option linter.all false
set_option autoImplicit false
set_option maxRecDepth 1000000
/-! k33: web_number; roads -/
namespace K33
open PySem G L2 K38
theorem up_range (n : Nat) : Up (List.range n) := List.pairwise_lt_range
theorem webnum_ok {t : Ties} {count : Nat} (h14 : count ≤ 14) (ht : t.length ≤ 100) (w : Bool) (S : Store) : ∃ X, f_web_number [.v (.int (count : Int)), .v (tiesD t), .v (.bool w)] S = .ok (.v (.int (gW t w (List.range count) : Nat))) (S ++ X) := by
  let E (d3 : Option D) : DEnv := [some (.v (.int (count : Int))), some (.v (tiesD t)), some (.v (.bool w)), d3, none, none, none]
  have s0 : S_web_number_0 (E none) S = .ok (.nx (E none)) S := by
    unfold S_web_number_0
    rw [sIf_ap, dTest_ap, dBin_ap]
    show lift _ ((dGt (.v (.int (count : Int))) (.v (.int 14)) S).bind asB) _ = _
    rw [dGt_ii, bind_okS, asB_b, lift_ok, decide_eq_false (by omega), if_neg Bool.false_ne_true]; rfl
  have s1 : S_web_number_1 (E none) S = .ok (.nx (E (some (.v (nearD t count))))) S := by
    unfold S_web_number_1
    obtain ⟨S', e, rfl⟩ := dLc_thr2 (own := [4]) (p := .s 4) (i := iRange1 (dVar 0)) (t := fYes) (e := (dLc [5, 6] (.t [(.s 5), (.s 6)]) (iSeq (dVar 1)) (dTest (dBin (dInS false) (dVar 4) (dTup (dConsA (dVar 5) (dConsA (dVar 6) dNilA))))) (dIf (dTest (dBin dEq (dVar 5) (dVar 4))) (dVar 6) (dVar 5)))) (env := E none) (S := S) (S1 := S) (fun S' => S' = S) encN (fun _ => true) (fun k => encL (nb t k)) (xs := List.range count)
      (by rw [← rangeD0]; exact iRange1_ok (b := (count : Int)) (n := count) rfl (by omega) (by omega) (by omega)) (by rw [List.length_range]; omega) rfl (by
        rintro k hk S' rfl
        refine ⟨_, S', gPat_s _ _, rfl, rfl, fun _ => ⟨S', ?_, rfl⟩⟩
        let E1 : DEnv := (wipeE (E none) [4]).set 4 (some (.v (encN k)))
        obtain ⟨S2, e, rfl⟩ := dLc_thr2 (own := [5, 6]) (p := .t [(.s 5), (.s 6)]) (i := iSeq (dVar 1)) (t := dTest (dBin (dInS false) (dVar 4) (dTup (dConsA (dVar 5) (dConsA (dVar 6) dNilA))))) (e := dIf (dTest (dBin dEq (dVar 5) (dVar 4))) (dVar 6) (dVar 5)) (env := E1) (S := S') (S1 := S') (fun S2 => S2 = S') encQ (fun q => decide (k = q.1 ∨ k = q.2)) (fun q => encN (if q.1 = k then q.2 else q.1)) (xs := t) rfl (by omega) rfl (by
          rintro q hq S2 rfl
          refine ⟨_, S2, pat_q, ?_, rfl, fun _ => ⟨S2, ?_, rfl⟩⟩
          · rw [dTest_ap, dBin_ap]
            show (((dInS false (.v (encN k)) (.v (.tuple [encN q.1, encN q.2])) S2)).bind asB) = _
            rw [in_two]; rfl
          · rw [dIf_ap, dTest_ap, dBin_ap]
            show (((dEq (.v (.int (q.1 : Int))) (.v (.int (k : Int))) S2).bind asB).bind _) = _
            rw [dEq_ii, bind_okS, asB_b, bind_okS]
            by_cases a : q.1 = k
            · rw [decide_eq_true (show (q.1 : Int) = (k : Int) by omega), if_pos rfl, if_pos a]; rfl
            · rw [decide_eq_false (show ¬ (q.1 : Int) = (k : Int) by omega), if_neg Bool.false_ne_true, if_neg a]; rfl)
        refine e.trans ?_
        unfold encL nb
        rw [List.map_map]; rfl)
    rw [sSet_ap, e, lift_ok, List.filter_eq_self.mpr (fun _ _ => rfl)]; rfl
  have hM : MemW t w count S.length (S ++ [.dt []]) (S ++ [.dt []]) := Mem.new (by rw [app_set0]; rfl)
  obtain ⟨M, X, e, ks, _, _, rfl⟩ := web_ok (t := t) (w := w) (count := count) h14 ht 24 S.length (List.range count) (S ++ [.dt []]) (S ++ [.dt []]) (by rw [List.length_range]; omega) (up_range count) (fun x hx => List.mem_range.mp hx) (by rw [List.length_append, List.length_singleton]; omega) hM
  refine ⟨[.dt (memoD intsK (specW t w) ks)], ?_⟩
  show fin (b_web_number (E none) S) = _
  unfold b_web_number
  rw [sSeq_ap, s0, thenS_nx, sSeq_ap, s1, thenS_nx]
  unfold S_web_number_2
  have arg : dConsA (dVar 3) (dConsA (dTR (iRange1 (dVar 0))) (dConsA (dVar 2) (dConsA dNewT dNilA))) (E (some (.v (nearD t count)))) S = .ok [.v (nearD t count), .v (encW (List.range count)), .v (.bool w), .r S.length] (S ++ [.dt []]) := by
    have : dTR (iRange1 (dVar 0)) (E (some (.v (nearD t count)))) S = .ok (.v (encW (List.range count))) S := by
      unfold dTR
      rw [iRange1_ok (b := (count : Int)) (n := count) (S1 := S) rfl (by omega) (by omega) (by omega), rangeD0]; rfl
    rw [dConsA_ap]
    show ((Res.ok (D.v (nearD t count)) S).bind _) = _
    rw [bind_okS, dConsA_ap, this]; rfl
  rw [sRet_ap, dCall_ap, arg, bind_okS, List.append_nil, e, trunc_v, lift_ok, fin_rt]
  have hl : (S ++ [Cell.dt []]).length = ((S ++ [Cell.dt []]).set S.length (.dt (memoD intsK (specW t w) ks))).length := by rw [List.length_set]
  rw [hl, List.take_left, app_set0]; rfl
/-! roads: the numbers of all webs that a road leaves, seen by one table -/
def roadT (n : Nat) : Ties := (List.range (n - 1)).map fun k => (k, k + 1)
def codeW (w : Bool) : List Nat := if w then [7, 7] else [1, 3, 7]
/-- the runs of places in a row that rises -/
def runsF : Option (Nat × Nat) → NR → NR
  | none, [] => []
  | some (_, m), [] => [m]
  | none, k :: r => runsF (some (k, 1)) r
  | some (l, m), k :: r => if k = l + 1 then runsF (some (k, m + 1)) r else m :: runsF (some (k, 1)) r
def tabW (w : Bool) : List Nat := if w then [0, 1, 2, 3, 1, 4, 3, 2, 1, 4] else [0, 1, 1, 2, 0, 3, 1, 1, 0, 3]
theorem tab_eq : numsS (codeW true) 10 = tabW true ∧ numsS (codeW false) 10 = tabW false := by decide +kernel
def valW (w : Bool) (left : NR) : Nat := xorL ((runsF none left).map fun m => (tabW w).getD m 0)
def valOk (w : Bool) (n : Nat) : Bool := (subs n).all fun left => Nat.beq (mex ((opts (roadT n) w left).map (valW w))) (valW w left)
theorem val_true : [1, 2, 3, 4, 5, 6, 7, 8, 9].all (valOk true) = true := by decide +kernel
theorem val_false : [1, 2, 3, 4, 5, 6, 7, 8, 9].all (valOk false) = true := by decide +kernel
theorem val_all {w : Bool} {n : Nat} (h1 : 1 ≤ n) (h9 : n ≤ 9) : valOk w n = true := by
  have hm : n ∈ [1, 2, 3, 4, 5, 6, 7, 8, 9] := by
    simp only [List.mem_cons, List.not_mem_nil, or_false]; omega
  cases w
  · exact List.all_eq_true.mp val_false n hm
  · exact List.all_eq_true.mp val_true n hm
theorem road_val {w : Bool} {n : Nat} (hv : valOk w n = true) : ∀ (m : Nat) (left : NR), left.length ≤ m → Up left → (∀ x ∈ left, x < n) → gW (roadT n) w left = valW w left
  | m, left, hm, hu, hc => by
    have h := Nat.eq_of_beq_eq_true (List.all_eq_true.mp hv left (mem_subs hu hc))
    rw [gW_eq, ← h]
    congr 1
    refine List.map_congr_left fun x hx => ?_
    have hlt := opt_lt hx
    obtain ⟨k, hk, hx⟩ := List.mem_flatMap.mp hx
    obtain ⟨g, hg, rfl⟩ := List.mem_map.mp hx
    cases m with
    | zero => omega
    | succ m => exact road_val hv m (cut left g) (by omega) (cut_up hu) fun y hy => hc y (List.mem_filter.mp hy).1
theorem val_range : [1, 2, 3, 4, 5, 6, 7, 8, 9].all (fun n => [true, false].all fun w => Nat.beq (valW w (List.range n)) ((tabW w).getD n 0)) = true := by decide +kernel
theorem road_num {n : Nat} (h1 : 1 ≤ n) (h9 : n ≤ 9) (w : Bool) : gW (roadT n) w (List.range n) = gS (codeW w) n := by
  rw [road_val (val_all h1 h9) n _ (by rw [List.length_range]; exact Nat.le_refl _) (up_range n) fun x hx => List.mem_range.mp hx]
  have hm : n ∈ [1, 2, 3, 4, 5, 6, 7, 8, 9] := by
    simp only [List.mem_cons, List.not_mem_nil, or_false]; omega
  have hw : w ∈ [true, false] := by cases w <;> decide
  rw [Nat.eq_of_beq_eq_true (List.all_eq_true.mp (List.all_eq_true.mp val_range n hm) w hw)]
  have hg : (numsS (codeW w) 10)[n]? = some (gS (codeW w) n) := numsS_get (codeW w) 10 n (by omega)
  have : numsS (codeW w) 10 = tabW w := by cases w; exact tab_eq.2; exact tab_eq.1
  rw [List.getD_eq_getElem?_getD, ← this, hg]; rfl
end K33

set_option Elab.async false
set_option linter.all false
set_option autoImplicit false
set_option maxRecDepth 1000000
/-! k33: the law -/
namespace K33
open PySem G L2 K38
def mapR {α β : Type} (f : α → β) : List α → List β
  | [] => []
  | a :: l => f a :: mapR f l
def rtB (r : Res Out) : Option PyData := match r with
  | .ok (.rt (.v x)) _ => some x
  | _ => none
theorem rtB_ok {r : Res Out} {x : PyData} (h : rtB r = some x) : ∃ S, r = .ok (.rt (.v x)) S := by
  unfold rtB at h
  split at h
  · injection h with h
    subst h
    exact ⟨_, rfl⟩
  · cases h
theorem last_ok (e0 e1 e2 e3 e4 e5 e6 e7 e8 e10 e11 : Option D) (S : Store) : rtB (S_law_12 [e0, e1, e2, e3, e4, e5, e6, e7, e8, none, e10, e11] S) = some (.bool true) := by kernel_rfl
/-- a comprehension whose tests and items are drawn -/
theorem compL_exF {p : Pat} {t : FT} {e : FE} {env : DEnv} (P : Store → Prop) (V : PyData → Prop) : ∀ (xs : List PyData) (S : Store), P S →
    (∀ x ∈ xs, ∀ S, P S → ∃ env1 b S1, gPat p x env = some env1 ∧ t env1 S = .ok b S1 ∧ P S1 ∧ (b = true → ∃ y S2, e env1 S1 = .ok (.v y) S2 ∧ V y ∧ P S2)) →
    ∃ ys S', compL p t e env xs S = .ok ys S' ∧ P S' ∧ ys.length ≤ xs.length ∧ ∀ y ∈ ys, V y
  | [], S, h, _ => ⟨[], S, rfl, h, Nat.le_refl _, by simp⟩
  | x :: xs, S, h, k => by
    obtain ⟨env1, b, S1, e1, e2, h1, e3⟩ := k x List.mem_cons_self S h
    have rest := fun S2 h2 => compL_exF P V xs S2 h2 fun y hy => k y (List.mem_cons_of_mem _ hy)
    rw [compL_cons, e1]
    simp only [e2, noX, Res.bind]
    cases b with
    | false =>
      obtain ⟨ys, S', q, hq, hl, hy⟩ := rest S1 h1
      refine ⟨ys, S', ?_, hq, by rw [List.length_cons]; omega, hy⟩
      simpa using q
    | true =>
      obtain ⟨y, S2, e4, hV, h2⟩ := e3 rfl
      obtain ⟨ys, S', q, hq, hl, hy⟩ := rest S2 h2
      refine ⟨y :: ys, S', ?_, hq, by rw [List.length_cons, List.length_cons]; omega, fun z hz => ?_⟩
      · simp only [if_true, e4, Res.bind, q]
      · rcases List.mem_cons.mp hz with rfl | hz
        · exact hV
        · exact hy z hz
theorem dLc_exF {own : List Nat} {p : Pat} {i : FI} {t : FT} {e : FE} {env : DEnv} {S S1 : Store} {xs : List PyData} (P : Store → Prop) (V : PyData → Prop) (hi : i env S = .ok xs S1) (hl : xs.length ≤ 16000000) (hP : P S1)
    (h : ∀ x ∈ xs, ∀ S, P S → ∃ env1 b S1, gPat p x (wipeE env own) = some env1 ∧ t env1 S = .ok b S1 ∧ P S1 ∧ (b = true → ∃ y S2, e env1 S1 = .ok (.v y) S2 ∧ V y ∧ P S2)) :
    ∃ ys S', dLc own p i t e env S = .ok (.v (.list ys)) S' ∧ P S' ∧ ys.length ≤ xs.length ∧ ∀ y ∈ ys, V y := by
  obtain ⟨ys, S', q, hq, h3, h4⟩ := compL_exF (env := wipeE env own) P V xs S1 hP h
  refine ⟨ys, S', ?_, hq, h3, h4⟩
  rw [dLc_ap, hi, bind_okS, if_pos (by simpa [small] using hl), q, bind_okS]
theorem ties_of {p : Nat × Nat → Prop} : ∀ {ys : List PyData}, (∀ y ∈ ys, ∃ q : Nat × Nat, y = encQ q ∧ p q) → ∃ t : Ties, ys = t.map encQ ∧ ∀ q ∈ t, p q
  | [], _ => ⟨[], rfl, by simp⟩
  | y :: ys, h => by
    obtain ⟨q, rfl, hq⟩ := h y List.mem_cons_self
    obtain ⟨t, rfl, ht⟩ := ties_of fun z hz => h z (List.mem_cons_of_mem _ hz)
    exact ⟨q :: t, rfl, fun j hj => by
      rcases List.mem_cons.mp hj with rfl | hj
      · exact hq
      · exact ht j hj⟩
theorem Drw.app {ns : List Int} {n : Nat} {S0 S : Store} (hn : n < S0.length) (h : Drw ns n S0 S) (X : Store) : Drw ns n (S0 ++ X) (S ++ X) := by
  obtain ⟨p, q, g, hp, rfl⟩ := h
  exact ⟨p, q, g, hp, by rw [List.set_append_left _ _ hn]⟩
def listQ (t : Ties) : PyData := .list (t.map encQ)
/-- one kind of taking, the program and the law -/
theorem kind_ok {t : Ties} {count : Nat} (hI : Irr t) (h14 : count ≤ 7) (ht : t.length ≤ 100) (w : Bool) (d0 d1 d3 d5 d7 d8 : Option D) (S : Store) :
    ∃ X, L_law_1 [d0, d1, some (.v (.int (count : Int))), d3, some (.v (listQ t)), d5, some (.v (.bool w)), d7, d8, none, none, none] S = .ok (.nx [d0, d1, some (.v (.int (count : Int))), d3, some (.v (listQ t)), d5, some (.v (.bool w)), d7, d8, none, none, none]) (S ++ X) := by
  let E : DEnv := [d0, d1, some (.v (.int (count : Int))), d3, some (.v (listQ t)), d5, some (.v (.bool w)), d7, d8, none, none, none]
  let g := gW t w (List.range count)
  obtain ⟨X1, e1⟩ := webnum_ok (t := t) (count := count) (by omega) ht w S
  have c1 : dCall f_web_number (dConsA (dVar 2) (dConsA (dBlt opTuple (dConsA (dVar 4) dNilA)) (dConsA (dVar 6) dNilA))) [] E S = .ok (.v (.int (g : Nat))) S := by
    show trunc S.length (f_web_number [.v (.int (count : Int)), .v (tiesD t), .v (.bool w)] S) = _
    rw [e1, trunc_v, List.take_left]
  have hM : MemW t w count S.length (S ++ [.dt []]) (S ++ [.dt []]) := Mem.new (by rw [app_set0]; rfl)
  obtain ⟨S', e2, ks, nd, sub, rfl⟩ := lnum_ok hI (w := w) (count := count) (by omega) ht (n := S.length) (S0 := S ++ [.dt []]) (by rw [List.length_append, List.length_singleton]; omega) 12 (List.range count) (S ++ [.dt []]) (by rw [List.length_range]; omega) (up_range count) (fun x hx => List.mem_range.mp hx) hM
  have hst : (S ++ [Cell.dt []]).set S.length (.dt (memoD intsK (specW t w) ks)) = S ++ [.dt (memoD intsK (specW t w) ks)] := by rw [app_set0]; rfl
  rw [hst] at e2
  have c2 : dCall (f__law_number 12) (dConsA (dBlt opTuple (dConsA (dVar 4) dNilA)) (dConsA (dTR (iRange1 (dVar 2))) (dConsA (dVar 6) (dConsA dNewT dNilA)))) [] E S = .ok (.v (.int (g : Nat))) (S ++ [.dt (memoD intsK (specW t w) ks)]) := by
    have arg : dConsA (dBlt opTuple (dConsA (dVar 4) dNilA)) (dConsA (dTR (iRange1 (dVar 2))) (dConsA (dVar 6) (dConsA dNewT dNilA))) E S = .ok [.v (tiesD t), .v (encW (List.range count)), .v (.bool w), .r S.length] (S ++ [.dt []]) := by
      have : dTR (iRange1 (dVar 2)) E S = .ok (.v (encW (List.range count))) S := by
        unfold dTR
        rw [iRange1_ok (b := (count : Int)) (n := count) (S1 := S) rfl (by omega) (by omega) (by omega), rangeD0]; rfl
      rw [dConsA_ap]
      show ((Res.ok (D.v (tiesD t)) S).bind _) = _
      rw [bind_okS, dConsA_ap, this]; rfl
    rw [dCall_ap, arg, bind_okS, List.append_nil, e2, trunc_v]
    have hl : (S ++ [Cell.dt []]).length = (S ++ [Cell.dt (memoD intsK (specW t w) ks)]).length := by rw [List.length_append, List.length_append]; rfl
    rw [hl, List.take_length]
  refine ⟨[.dt (memoD intsK (specW t w) ks)], ?_⟩
  show L_law_1 E S = _
  unfold L_law_1
  rw [sIf_ap, tNotD_ap, dTru_ap, same_call (okD_int 11 _) c1 c2]
  rfl
def kinds : List PyData := [.bool false, .bool true]
theorem plain (ns : List Int) : ∃ S, f_law [.k (ns.map .int)] [] = .ok (.v (.bool true)) S := by
  let d0 : Option D := some (.k (ns.map .int))
  let N : Option D := none
  let I (d1 d2 d3 d4 d5 d6 d7 d8 : Option D) : DEnv := [d0, d1, d2, d3, d4, d5, d6, d7, d8, N, N, N]
  have s2 : S_law_2 (I N N N N N N N N) [] = .ok (.nx (I (some (.r 0)) N N N N N N N)) [dst ns 0 0 1] := rfl
  obtain ⟨v, S3, v0, v1, hS3, e3⟩ := draw_d (ns := ns) (n := 0) (S0 := [.dead]) (S := [dst ns 0 0 1]) (by decide) ⟨0, 0, 1, by decide, rfl⟩ 7 (by decide) (by decide)
  obtain ⟨count, rfl⟩ := Int.eq_ofNat_of_zero_le v0
  let R : Option D := some (.r 0)
  let C : Option D := some (.v (.int (count : Int)))
  have s3 : S_law_3 (I R N N N N N N N) [dst ns 0 0 1] = .ok (.nx (I R C N N N N N N)) S3 := by
    unfold S_law_3
    rw [sSet_ap, e3 _ _ _ rfl rfl, lift_ok]; rfl
  obtain ⟨th, S4, t0, t1, hS4, e4⟩ := draw_d (ns := ns) (n := 0) (S0 := [.dead]) (S := S3) (by decide) hS3 4 (by decide) (by decide)
  let T : Option D := some (.v (.int (1 + th)))
  have s4 : S_law_4 (I R C N N N N N N) S3 = .ok (.nx (I R C T N N N N N)) S4 := by
    unfold S_law_4
    rw [sSet_ap, dBin_ap, dC_ap, bind_okS, e4 _ _ _ rfl rfl, bind_okS, dAdd_ii, lift_ok]; rfl
  have s5 : S_law_5 (I R C T N N N N N) S4 = .ok (.nx (I R C T (some (.v (listQ []))) N N N N)) S4 := rfl
  -- the ties
  obtain ⟨env', S6, e6, d5, t, rfl, hS6, ht1, ht2⟩ := forL_inv (p := .s 5) (body := L_law_0) (xs := rangeD 0 count) (fun i env S => ∃ d5 t, env = I R C T (some (.v (listQ t))) d5 N N N ∧ Drw ns 0 [.dead] S ∧ (∀ q ∈ t, q.1 ≠ q.2) ∧ t.length ≤ 7 * i) (by
    rintro i x env S hx ⟨d5, t, rfl, hS, ht1, ht2⟩
    rw [rangeD0, List.getElem?_map] at hx
    cases hz : (List.range count)[i]? with
    | none => rw [hz] at hx; cases hx
    | some a =>
    rw [hz] at hx
    injection hx with hx
    subst hx
    have hal : a < count := List.mem_range.mp (List.mem_of_getElem? hz)
    have hai : i < count := by
      have := (List.getElem?_eq_some_iff.mp hz).1
      rwa [List.length_range] at this
    let E1 := I R C T (some (.v (listQ t))) (some (.v (encN a))) N N N
    obtain ⟨ys, S', e, hS', hl, hV⟩ := dLc_exF (own := [10]) (p := .s 10) (i := iRange2 (dBin dAdd (dVar 5) (dC (.int 1))) (dVar 2)) (t := dTest (dBin dEq (dCall f__law_draw (dConsA (dVar 1) (dConsA (dVar 3) dNilA)) []) (dC (.int 0)))) (e := dTup (dConsA (dVar 5) (dConsA (dVar 10) dNilA))) (env := E1) (S := S) (Drw ns 0 [.dead]) (fun y => ∃ q : Nat × Nat, y = encQ q ∧ q.1 ≠ q.2)
      (iRange2_ok (a := (a : Int) + 1) (b := (count : Int)) (n := count - (a + 1)) (S1 := S) (S2 := S) rfl rfl (by omega) (by omega) (by omega) (by omega) (by omega)) (by rw [rangeD_len]; omega) hS (by
        intro x hx S hS
        obtain ⟨j, hj, rfl⟩ := mem_range.mp hx
        obtain ⟨v, S', v0, v1, hS', e⟩ := draw_d (by decide) hS (1 + th) (by omega) (by omega)
        refine ⟨_, decide (v = 0), S', gPat_s _ _, ?_, hS', fun _ => ⟨encQ (a, a + 1 + j), S', ?_, ⟨_, rfl, ?_⟩, hS'⟩⟩
        · rw [dTest_ap, dBin_ap, e _ _ _ rfl rfl, bind_okS, dC_ap, bind_okS, dEq_ii, bind_okS, asB_b]
        · show Res.ok (D.v (.tuple [encN a, .int ((a : Int) + 1 + (j : Int))])) S' = _
          unfold encQ encN
          rw [show ((a + 1 + j : Nat) : Int) = (a : Int) + 1 + (j : Int) by omega]
        · show a ≠ a + 1 + j
          omega)
    obtain ⟨t', rfl, ht'⟩ := ties_of hV
    rw [List.length_map, rangeD_len] at hl
    refine ⟨E1, by rw [gPat_s]; rfl, I R C T (some (.v (listQ (t ++ t')))) (some (.v (encN a))) N N N, S', .inl ?_, _, t ++ t', rfl, hS', fun q hq => ?_, by rw [List.length_append]; omega⟩
    · unfold L_law_0
      rw [sSet_ap, dBin_ap, show dVar 4 E1 S = .ok (.v (.list (t.map encQ))) S from rfl, bind_okS, e, bind_okS, dAdd_ll _ _ (by rw [List.length_map, List.length_map]; omega), lift_ok, ← List.map_append]; rfl
    · rcases List.mem_append.mp hq with z | z
      · exact ht1 q z
      · exact ht' q z) (I R C T (some (.v (listQ []))) N N N N) S4 ⟨N, [], rfl, hS4, by simp, Nat.zero_le _⟩
  rw [rangeD_len] at ht2
  let Ti : Option D := some (.v (listQ t))
  have s6 : S_law_6 (I R C T (some (.v (listQ []))) N N N N) S4 = .ok (.nx (I R C T Ti d5 N N N)) S6 := by
    unfold S_law_6
    rw [sFor_ap, iRange1_ok (b := (count : Int)) (n := count) (S1 := S4) rfl (by omega) (by omega) (by omega), lift_ok]
    exact e6
  -- both kinds
  obtain ⟨env', S7, e7, d6, rfl, X7, rfl⟩ := forL_inv (p := .s 6) (body := L_law_1) (xs := kinds) (fun i env S => ∃ d6, env = I R C T Ti d5 d6 N N ∧ ∃ X, S = S6 ++ X) (by
    rintro i x env S hx ⟨d6, rfl, X, rfl⟩
    have hx := List.mem_of_getElem? hx
    have : ∃ w : Bool, x = .bool w := by
      unfold kinds at hx
      rcases List.mem_cons.mp hx with rfl | hx
      · exact ⟨_, rfl⟩
      · exact ⟨true, List.mem_singleton.mp hx⟩
    obtain ⟨w, rfl⟩ := this
    obtain ⟨Y, e⟩ := kind_ok (t := t) (count := count) ht1 (by omega) (by omega) w d0 R T d5 N N (S6 ++ X)
    exact ⟨I R C T Ti d5 (some (.v (.bool w))) N N, by rw [gPat_s]; rfl, _, _, .inl e, _, rfl, X ++ Y, List.append_assoc _ _ _⟩) (I R C T Ti d5 N N N) S6 ⟨N, rfl, [], (List.append_nil _).symm⟩
  have s7 : S_law_7 (I R C T Ti d5 N N N) S6 = .ok (.nx (I R C T Ti d5 d6 N N)) (S6 ++ X7) := by
    unfold S_law_7
    rw [sFor_ap, show iSeq (dTup (dConsA (dC (.bool false)) (dConsA (dC (.bool true)) dNilA))) (I R C T Ti d5 N N N) S6 = .ok kinds S6 from rfl, lift_ok]
    exact e7
  -- a road
  obtain ⟨z, S8, z0, z1, hS8, e8⟩ := draw_d (ns := ns) (n := 0) (S0 := [.dead] ++ X7) (S := S6 ++ X7) (by rw [List.length_append]; exact Nat.lt_of_lt_of_le Nat.zero_lt_one (Nat.le_add_right _ _)) (Drw.app (by decide) hS6 X7) 9 (by decide) (by decide)
  obtain ⟨m, rfl⟩ := Int.eq_ofNat_of_zero_le z0
  let size := 1 + m
  have hsz : size ≤ 9 := by show 1 + m ≤ 9; omega
  let Sz : Option D := some (.v (.int (size : Int)))
  have s8 : S_law_8 (I R C T Ti d5 d6 N N) (S6 ++ X7) = .ok (.nx (I R C T Ti d5 d6 Sz N)) S8 := by
    unfold S_law_8
    rw [sSet_ap, dBin_ap, dC_ap, bind_okS, e8 _ _ _ rfl rfl, bind_okS, dAdd_ii, lift_ok, show (1 : Int) + (m : Int) = ((size : Nat) : Int) by show _ = ((1 + m : Nat) : Int); omega]; rfl
  let Rd : Option D := some (.v (tiesD (roadT size)))
  have s9 : S_law_9 (I R C T Ti d5 d6 Sz N) S8 = .ok (.nx (I R C T Ti d5 d6 Sz Rd)) S8 := by
    unfold S_law_9
    obtain ⟨S', e, rfl⟩ := dLc_thr2 (own := [11]) (p := .s 11) (i := iRange1 (dBin dSub (dVar 7) (dC (.int 1)))) (t := fYes) (e := dTup (dConsA (dVar 11) (dConsA (dBin dAdd (dVar 11) (dC (.int 1))) dNilA))) (env := I R C T Ti d5 d6 Sz N) (S := S8) (S1 := S8) (fun S => S = S8) encN (fun _ => true) (fun k => encQ (k, k + 1)) (xs := List.range (size - 1))
      (by rw [← rangeD0]; exact iRange1_ok (b := (size : Int) - 1) (n := size - 1) rfl (by omega) (by omega) (by omega)) (by rw [List.length_range]; omega) rfl (by
        rintro k hk S rfl
        refine ⟨_, S, gPat_s _ _, rfl, rfl, fun _ => ⟨S, ?_, rfl⟩⟩
        show Res.ok (D.v (.tuple [encN k, .int ((k : Int) + 1)])) S = _
        rfl)
    rw [sSet_ap, dBlt_ap, dConsA_ap, e, List.filter_eq_self.mpr (fun _ _ => rfl)]
    have : (List.range (size - 1)).map (fun k => encQ (k, k + 1)) = (roadT size).map encQ := by
      unfold roadT
      rw [List.map_map]; rfl
    rw [this]; rfl
  let E9 := I R C T Ti d5 d6 Sz Rd
  have hrl : (roadT size).length ≤ 100 := by unfold roadT; rw [List.length_map, List.length_range]; omega
  have web : ∀ (w : Bool), dCall f_web_number (dConsA (dVar 7) (dConsA (dVar 8) (dConsA (dC (.bool w)) dNilA))) [] E9 S8 = .ok (.v (.int (gS (codeW w) size : Nat))) S8 := fun w => by
    obtain ⟨X1, e1⟩ := webnum_ok (t := roadT size) (count := size) (by omega) hrl w S8
    show trunc S8.length (f_web_number [.v (.int (size : Int)), .v (tiesD (roadT size)), .v (.bool w)] S8) = _
    rw [e1, trunc_v, List.take_left, road_num (by show 1 ≤ 1 + m; omega) hsz]
  have heaps : ∀ (w : Bool) (f : FE), f E9 S8 = .ok (.v (.tuple ((codeW w).map encN))) S8 → dBin dIx (dCall f_heap_numbers (dConsA f (dConsA (dBin dAdd (dVar 7) (dC (.int 1))) dNilA)) []) (dVar 7) E9 S8 = .ok (.v (.int (gS (codeW w) size : Nat))) S8 := fun w f hf => by
    obtain ⟨X1, e1⟩ := heaps_ok (code := codeW w) (by cases w <;> exact ⟨by decide, by decide, by decide⟩) (count := size + 1) (by omega) S8
    rw [dBin_ap, dCall_ap, dConsA_ap, hf, bind_okS, dConsA_ap]
    show ((trunc S8.length (f_heap_numbers [.v (.tuple ((codeW w).map encN)), .v (.int ((size + 1 : Nat) : Int))] S8)).bind _) = _
    rw [e1, trunc_v, List.take_left, bind_okS]
    show dIx (.v (.tuple _)) (.v (.int (size : Int))) S8 = _
    rw [dIx_t, L2.atI_nat (v := encN (gS (codeW w) size)) (by rw [List.getElem?_map, numsS_get _ _ _ (Nat.lt_succ_self _)]; rfl)]; rfl
  have s10 : S_law_10 E9 S8 = .ok (.nx E9) S8 := by
    unfold S_law_10
    rw [sIf_ap, dTest_ap, dBin_ap, web true, bind_okS, heaps true (dTup (dConsA (dC (.int 7)) (dConsA (dC (.int 7)) dNilA))) rfl, bind_okS, dNe_ii, decide_eq_false (fun z => z rfl)]; rfl
  have s11 : S_law_11 E9 S8 = .ok (.nx E9) S8 := by
    unfold S_law_11
    rw [sIf_ap, dTest_ap, dBin_ap, web false, bind_okS, heaps false (dTup (dConsA (dC (.int 1)) (dConsA (dC (.int 3)) (dConsA (dC (.int 7)) dNilA)))) rfl, bind_okS, dNe_ii, decide_eq_false (fun z => z rfl)]; rfl
  obtain ⟨S12, e12⟩ := rtB_ok (last_ok d0 R C T Ti d5 d6 Sz Rd N N S8)
  refine ⟨S12, ?_⟩
  show fin (b_law (I N N N N N N N N) []) = _
  unfold b_law
  rw [sSeq_ap, s2, thenS_nx, sSeq_ap, s3, thenS_nx, sSeq_ap, s4, thenS_nx, sSeq_ap, s5, thenS_nx, sSeq_ap, s6, thenS_nx, sSeq_ap, s7, thenS_nx, sSeq_ap, s8, thenS_nx, sSeq_ap, s9, thenS_nx, sSeq_ap, s10, thenS_nx, sSeq_ap, s11, thenS_nx]
  exact (congrArg fin e12).trans rfl
end K33

open PySem PySem.W PyProof.Rows
set_option maxHeartbeats 0 in
theorem PySem.Challenge.cw_movesworth_k33_whole_places_taken_holds : PySem.Challenge.rw_movesworth_k33_whole_places_taken.Holds := by
  w_on; o_law; k_head; (case hw => w_witness2)
  k_fill
  refine L2.walk_of (l := PySem.Challenge.rw_movesworth_k33_whole_places_taken) (n := 63) (k := 27) (x := "script") (CX := fun w => L2N.CX PySem.Challenge.rw_movesworth_k33_whole_places_taken.prog w) (sp := fun w => G.spOk PySem.Challenge.rw_movesworth_k33_whole_places_taken.prog w _ K33.f_law 1) rfl (by decide) rfl ⟨rfl, by decide, by decide⟩ (fun w h Y => PySem.W.kIn_of Y) ?F (fun _ _ a ns hl hO hS => G.law_spOk hl hO hS (K33.plain ns)) (fun _ H s e s' c => G.cx_none c)
  case F =>
    intro w mg fa h KX G hmg
    refine' K33.all_mk KX G hmg ?a0 ?l0 ?c0 ?k0 ?a1 ?l1 ?c1 ?k1 ?a2 ?l2 ?c2 ?k2 ?a3 ?l3 ?c3 ?k3 ?a4 ?l4 ?c4 ?k4 ?a5 ?l5 ?c5 ?k5 ?a6 ?l6 ?c6 ?k6 ?a7 ?l7 ?c7 ?k7 ?a8 ?l8 ?c8 ?k8 ?a9 ?l9 ?c9 ?k9 ?a10 ?l10 ?c10 ?k10 ?a11 ?l11 ?c11 ?k11 ?a12 ?l12 ?c12 ?k12 ?a13 ?l13 ?c13 ?k13 ?a14 ?l14 ?c14 ?k14 ?x_R ?x_G ?x_lC ?x_oc ?x_sa ?x_sb ?x_ty ?x_kC ?x_cl ?x_ss ?x_ga ?x_gg ?x_hd ?x_hno ?x_iC ?x_tI ?x_lI ?x_cI ?x_kI ?x_rG ?x_gG ?x_vG ?g_MOST_HEAPS ?g_MOST_THINGS ?z_all ?z_bool ?z_enumerate ?z_int ?z_isinstance ?z_len ?z_list ?z_range ?z_sorted ?z_str ?z_tuple
    (case a0 => k_is); (case l0 => k_is); (case c0 => k_is); (case k0 => k_is); (case a1 => k_is); (case l1 => k_is); (case c1 => k_is); (case k1 => k_is); (case a2 => k_is); (case l2 => k_is); (case c2 => k_is); (case k2 => k_is); (case a3 => k_is); (case l3 => k_is); (case c3 => k_is); (case k3 => k_is); (case a4 => k_is); (case l4 => k_is); (case c4 => k_is); (case k4 => k_is); (case a5 => k_is); (case l5 => k_is); (case c5 => k_is); (case k5 => k_is); (case a6 => k_is); (case l6 => k_is); (case c6 => k_is); (case k6 => k_is); (case a7 => k_is); (case l7 => k_is); (case c7 => k_is); (case k7 => k_is); (case a8 => k_is); (case l8 => k_is); (case c8 => k_is); (case k8 => k_is); (case a9 => k_is); (case l9 => k_is); (case c9 => k_is); (case k9 => k_is); (case a10 => k_is); (case l10 => k_is); (case c10 => k_is); (case k10 => k_is); (case a11 => k_is); (case l11 => k_is); (case c11 => k_is); (case k11 => k_is); (case a12 => k_is); (case l12 => k_is); (case c12 => k_is); (case k12 => k_is); (case a13 => k_is); (case l13 => k_is); (case c13 => k_is); (case k13 => k_is); (case a14 => k_is); (case l14 => k_is); (case c14 => k_is); (case k14 => k_is); (case x_R => k_is); (case x_G => k_is); (case x_lC => k_is); (case x_oc => decide +kernel); (case x_sa => k_is); (case x_sb => k_is); (case x_ty => k_is); (case x_kC => k_is); (case x_cl => k_is); (case x_ss => k_is); (case x_ga => k_is); (case x_gg => k_is); (case x_hd => k_is); (case x_hno => k_is); (case x_iC => k_is); (case x_tI => k_is); (case x_lI => k_is); (case x_cI => k_is); (case x_kI => k_is); (case x_rG => k_is); (case x_gG => k_is); (case x_vG => k_is); (case g_MOST_HEAPS => k_is); (case g_MOST_THINGS => k_is); (case z_all => k_is); (case z_bool => k_is); (case z_enumerate => k_is); (case z_int => k_is); (case z_isinstance => k_is); (case z_len => k_is); (case z_list => k_is); (case z_range => k_is); (case z_sorted => k_is); (case z_str => k_is); (case z_tuple => k_is)
