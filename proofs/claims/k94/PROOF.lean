import PyProof.Rows.All
import Wide.All
import OpenK.AllK
import Wide.FinOn
import HandS.ForMost
import HandS.Lambda
import HandS.SlotsOwn
import KE.KDictKeyed
import KE.KeyNested
import KE.KDictWalk
import KE.DataEq
import KE.DataCmp
import KE.SortData
import KE.DataMinMax
import KE.DataFind
import HandS.Wide
import HandS.TupAny
import HandS.TupMul
import PyProof.Rows.RuleB_pow
import HandS.Conv
import HandS.Text
import KE.KStar
import KE.DataAny
import KE.DataIsa
import HandS.IsInst
import KE.SortCalls
import HandS.TupLen
import KE.KTupSum
import KE.KDictSum
import HandS.WordsExc
import HandS.Defaults
import HandS.CallSlots
import KE.GoesNew
import KE.GoesMore
import HandS.Iter
import HandS.Walk
import HandS.Comp
import HandS.Style
import HandS.DictTup
import KE.KExcIs
import PyProof.ReprRoads
import KE.KDictPairs
import HandS.SetFor
import HandS.Zip
import HandS.ExcInit
import HandS.ExcField
import HandS.ExcIs
import KE.KExcSuper
import HandS.ExcOwn
import HandS.Strs
import KE.KDictCopyH
import HandS.HeadWalk
import HandS.Head2
import HandS.HeadHook4
import PySem.Challenge.RW_whicheverturning_k94_how_many_unlike_pic
set_option Elab.async false
set_option autoImplicit false
set_option linter.all false
set_option maxRecDepth 100000
set_option maxHeartbeats 2000000
namespace DL
open PySem PySem.Spec PyProof.Rows L2
/-! ## data -/
inductive D where
  | non | bl (b : Bool) | int (i : Int) | str (x : Str) | tup (xs : List D) | ref (n : Nat) | exc (c : Nat) (d : D) | cl (xs : List D)
mutual
def D.eq : D → D → Bool
  | .non, .non => true
  | .bl a, .bl b => a == b
  | .int a, .int b => decide (a = b)
  | .str a, .str b => decide (a = b)
  | .tup a, .tup b => D.eqs a b
  | .ref a, .ref b => a == b
  | .exc c a, .exc d b => c == d && D.eq a b
  | .cl a, .cl b => D.eqs a b
  | _, _ => false
def D.eqs : List D → List D → Bool
  | [], [] => true
  | a :: r, b :: s => D.eq a b && D.eqs r s
  | _, _ => false
end
mutual
theorem D.eq_iff : ∀ a b : D, D.eq a b = true ↔ a = b
  | a, b => by
    cases a <;> cases b <;> simp [D.eq]
    · exact D.eqs_iff _ _
    · intro _; exact D.eq_iff _ _
    · exact D.eqs_iff _ _
theorem D.eqs_iff : ∀ a b : List D, D.eqs a b = true ↔ a = b
  | [], [] => by simp [D.eqs]
  | [], _ :: _ => by simp [D.eqs]
  | _ :: _, [] => by simp [D.eqs]
  | a :: r, b :: s => by
    simp only [D.eqs, Bool.and_eq_true, List.cons.injEq]
    rw [D.eq_iff a b, D.eqs_iff r s]
end
instance : DecidableEq D := fun a b => if h : D.eq a b = true then isTrue ((D.eq_iff a b).mp h) else isFalse fun e => h ((D.eq_iff a b).mpr e)
inductive Ob where
  | lst (xs : List D) | dic (kvs : List (D × D)) | ins (c : Nat) (fs : List (Option D))
  deriving DecidableEq
abbrev Store := List Ob
/-- what an expression gives: a datum, a new list, a new dict (held by nothing else), the list or dict that a slot owns -/
inductive EV where
  | v (d : D) | fl (ds : List D) | fd (kvs : List (D × D)) | sl (i : Nat)
  deriving DecidableEq
/-- what a slot holds: a datum, a list or a dict of its own -/
inductive SV where
  | v (d : D) | ol (ds : List D) | od (kvs : List (D × D))
  deriving DecidableEq
def SV.own : SV → Bool
  | .v _ => false
  | _ => true
abbrev Env := List (Option SV)
inductive R (β : Type) where
  | ok (b : β) (S : Store) | exc (c : Nat) (d : D) (S : Store) | bad
def R.bind {β γ : Type} (r : R β) (f : β → Store → R γ) : R γ := match r with
  | .ok b S => f b S
  | .exc c d S => .exc c d S
  | .bad => .bad
example : D.tup [.int 3, .tup [.int 4]] ≠ D.tup [.int 3, .tup [.int 5]] := by decide
/-! ## what stands for it -/
structure Gc where
  K : PySem.W.Frag
  P : Program
  w : World
  cls : Nat → Addr
  tabs : List (Addr × Str)
structure Lc where
  a : Addr
  dx : Addr
def inA (α : List Lc) (b : Addr) : Prop := ∃ l ∈ α, b = l.a ∨ b = l.dx
/-- a caught exception: its object -/
def XcO (cls : Value) (d : Option Addr) (a : Addr) : HO := .ext fun h => ∃ (oe : Obj) (vs : Array Value), h.get? a = some oe ∧ Zc cls d oe ∧ oe.data = .fields vs
def FzL (K : PySem.W.Frag) (H : Hp) (a : Addr) (xs : List V) : Prop := (∃ o, H a = some (.frz o (.lst xs))) ∨ SqL K (fun _ => none) a xs
/-- a tuple whose object is known to have no dict of its own -/
def TpX (K : PySem.W.Frag) (H : Hp) (a : Addr) (xs : List V) : Prop := (∃ o : Obj, H a = some (.frz o (.tup xs)) ∧ o.dict = none) ∨
  ∃ (o : Obj) (its : Array Value) (n : Nat), K.lookup a = some o ∧ o.cls = .type "tuple" ∧ o.dict = none ∧ o.data = .seq its n ∧ its.size ≤ sizeLine ∧ Vals xs its.toList
theorem TpX.sq {K : PySem.W.Frag} {H : Hp} {a : Addr} {xs : List V} (h : TpX K H a xs) : SqT K H a xs := by
  rcases h with ⟨o, h, _⟩ | ⟨o, its, n, h1, h2, _, h4, h5, h6⟩
  · exact .inl (.inr ⟨o, h⟩)
  · exact .inr ⟨o, its, n, h1, h2, h4, h5, h6⟩
mutual
def RD (G : Gc) (α : List Lc) (H : Hp) : D → V → Prop
  | .non, v => v = .non
  | .bl b, v => v = .bl b
  | .int i, v => v = .int i
  | .str x, v => v = .str x
  | .tup ds, v => ∃ a vs, v = .ref a ∧ TpX G.K H a vs ∧ RDs G α H ds vs
  | .cl ds, v => ∃ a vs, v = .ref a ∧ FzL G.K H a vs ∧ RDs G α H ds vs
  | .ref n, v => ∃ l, α[n]? = some l ∧ v = .ref l.a
  | .exc c d, v => ∃ a dx w, v = .ref a ∧ H a = some (XcO (.ref (G.cls c)) (some dx) a) ∧ H dx = some (.xd [("value", w)]) ∧ RD G α H d w
def RDs (G : Gc) (α : List Lc) (H : Hp) : List D → List V → Prop
  | [], vs => vs = []
  | d :: ds, vs => ∃ v r, vs = v :: r ∧ RD G α H d v ∧ RDs G α H ds r
end
/-! ### keys -/
mutual
/-- a key: whole numbers, texts, None, tuples of such -/
def D.key : D → Bool
  | .non => true
  | .int _ => true
  | .str _ => true
  | .tup ds => D.keys ds
  | _ => false
def D.keys : List D → Bool
  | [] => true
  | d :: r => D.key d && D.keys r
end
mutual
def D.nk : D → NestedKey
  | .int i => .num i
  | .str x => .text x
  | .tup ds => .tup (D.nks ds)
  | _ => .none
def D.nks : List D → List NestedKey
  | [] => []
  | d :: r => D.nk d :: D.nks r
end
mutual
theorem D.nk_inj : ∀ a b : D, D.key a = true → D.key b = true → D.nk a = D.nk b → a = b
  | a, b => by
    cases a <;> cases b <;> simp [D.key, D.nk]
    · exact fun h1 h2 h3 => D.nks_inj _ _ h1 h2 h3
theorem D.nks_inj : ∀ a b : List D, D.keys a = true → D.keys b = true → D.nks a = D.nks b → a = b
  | [], [] => by simp
  | [], _ :: _ => by simp [D.nks]
  | _ :: _, [] => by simp [D.nks]
  | a :: r, b :: s => by
    simp only [D.keys, D.nks, Bool.and_eq_true, List.cons.injEq]
    rintro ⟨h1, h2⟩ ⟨h3, h4⟩ ⟨h5, h6⟩
    exact ⟨D.nk_inj a b h1 h3 h5, D.nks_inj r s h2 h4 h6⟩
end
def D.isTup : D → Bool
  | .tup _ => true
  | _ => false
def D.leaf : D → Option Key
  | .int i => some (.inl i)
  | .str x => some (.inr x)
  | _ => none
/-- a dict whose keys are tuples: its entries -/
def DcO (P : Program) (w : World) (a : Addr) (xs : List (NestedKey × Addr × Value)) : HO := .ext fun h => (a == sysModules) = false ∧ xs.length ≤ sizeLine ∧ (xs.map (·.1)).Nodup ∧
  ∃ o es ep, h.get? a = some o ∧ o.ExactDict ∧ o.data = .dict es ep ∧ es.toList = xs.map (entryOfKey (nestedKind P w))
section
variable (G : Gc) (α : List Lc) (H : Hp)
def RKl (p : D × D) (q : Key × V) : Prop := p.1.leaf = some q.1 ∧ RD G α H p.2 q.2
def RKt (p : D × D) (q : NestedKey × Addr × Value) : Prop := p.1.key = true ∧ p.1.isTup = true ∧ p.1.nk.depth ≤ 8 ∧ q.1 = p.1.nk ∧ RD G α H p.1 (.ref q.2.1) ∧ ∃ v, RelV v q.2.2 ∧ RD G α H p.2 v
def RDc (a : Addr) (kvs : List (D × D)) : Prop :=
  (∃ ys, H a = some (.dK ys) ∧ Paired (RKl G α H) kvs ys) ∨ (∃ xs, H a = some (DcO G.P G.w a xs) ∧ Paired (RKt G α H) kvs xs)
def RO (l : Lc) : Ob → Prop
  | .lst ds => l.dx = l.a ∧ ∃ vs, H l.a = some (.lst vs) ∧ RDs G α H ds vs
  | .dic kvs => l.dx = l.a ∧ RDc G α H l.a kvs
  | .ins c fs => l.dx ≠ l.a ∧ (H l.dx = some (.own l.a) ∨ H l.dx = some (.xd [])) ∧ ∃ vs, SlX.Slt H l.a (G.cls c) l.dx vs ∧ ∀ (i : Nat) (d : D), fs[i]? = some (some d) → ∃ v, vs[i]? = some (some v) ∧ RD G α H d v
structure RS (S : Store) : Prop where
  len : α.length = S.length
  sep : ∀ (i j : Nat) (li lj : Lc) (b : Addr), α[i]? = some li → α[j]? = some lj → (b = li.a ∨ b = li.dx) → (b = lj.a ∨ b = lj.dx) → i = j
  obj : ∀ (i : Nat) (l : Lc) (o : Ob), α[i]? = some l → S[i]? = some o → RO G α H l o
  tab : LamX.Tabs G.tabs H
end
/-! ### what stays -/
def mutO : HO → Prop
  | .tup _ => False
  | .frz _ _ => False
  | .tbl _ => False
  | .xd fs => fs = []
  | .ext φ => (∀ cls d a, HO.ext φ ≠ XcO cls d a) ∧ ∀ c q, HO.ext φ ≠ LamX.CodeO c q
  | _ => True
theorem get_rep (a : Addr) (o : Obj) (h : ∀ z : o.data = .freed, False) : (⟨Array.replicate (a + 1) o, {}⟩ : Heap).get? a = some o := by
  unfold Heap.get?
  have e : (Array.replicate (a + 1) o)[a]? = some o := by
    rw [Array.getElem?_replicate]
    exact if_pos (Nat.lt_succ_self a)
  show (match (Array.replicate (a + 1) o)[a]? with
    | some ⟨_, _, .freed, _⟩ => none
    | o => o) = some o
  rw [e]
  obtain ⟨c, d, dt, sl⟩ := o
  cases dt <;> first | rfl | exact (h rfl).elim
theorem ext_ne_fields {φ φ2 : Heap → Prop} {a b : Addr} {oe : Obj} {vs : Array Value} (hd : oe.data = .fields vs) (h2 : ∀ h : Heap, h.get? a = some oe → φ2 h) (h : ∀ h : Heap, φ h → ∃ o, h.get? b = some o ∧ ∀ vs, o.data ≠ .fields vs) (hb : ∀ h : Heap, φ h → ∀ h' : Heap, (h'.get? b).isSome = false → ¬ φ h') : φ ≠ φ2 := fun z => by
  have e1 : (⟨Array.replicate (a + 1) oe, {}⟩ : Heap).get? a = some oe := get_rep a _ fun q => by rw [hd] at q; cases q
  have p : φ ⟨Array.replicate (a + 1) oe, {}⟩ := by rw [z]; exact h2 _ e1
  obtain ⟨o, q1, q2⟩ := h _ p
  by_cases e : b = a
  · subst e
    rw [e1] at q1
    cases q1
    exact q2 _ hd
  · let dead : Obj := ⟨.none, none, .freed, #[]⟩
    let h3 : Heap := ⟨(Array.replicate (a + b + 1) dead).set! a oe, {}⟩
    have g1 : h3.get? a = some oe := by
      unfold Heap.get?
      have q : h3.objs[a]? = some oe := by
        show ((Array.replicate (a + b + 1) dead).set! a oe)[a]? = some oe
        rw [Array.set!_eq_setIfInBounds, Array.getElem?_setIfInBounds, if_pos rfl, if_pos (by rw [Array.size_replicate]; omega)]
      show (match h3.objs[a]? with
        | some ⟨_, _, .freed, _⟩ => none
        | o => o) = some oe
      rw [q]
      obtain ⟨c, d, dt, sl⟩ := oe
      cases hd
      rfl
    have g2 : h3.get? b = none := by
      unfold Heap.get?
      have q : h3.objs[b]? = some dead := by
        show ((Array.replicate (a + b + 1) dead).set! a oe)[b]? = some dead
        rw [Array.set!_eq_setIfInBounds, Array.getElem?_setIfInBounds, if_neg (Ne.symm e), Array.getElem?_replicate, if_pos (by omega)]
      show (match h3.objs[b]? with
        | some ⟨_, _, .freed, _⟩ => none
        | o => o) = none
      rw [q]
    exact hb _ p h3 (by rw [g2]; rfl) (by rw [z]; exact h2 _ g1)
/-- an object of another kind of record -/
theorem ext_mut {φ : Heap → Prop} {b : Addr} (h : ∀ h : Heap, φ h → ∃ o, h.get? b = some o ∧ ∀ vs, o.data ≠ .fields vs) (hb : ∀ h : Heap, φ h → ∀ h' : Heap, (h'.get? b).isSome = false → ¬ φ h') : mutO (.ext φ) := by
  refine ⟨fun cls d a z => ?_, fun c q z => ?_⟩
  · unfold XcO at z
    injection z with z
    exact ext_ne_fields (a := a) (oe := ⟨cls, d, .fields #[], #[]⟩) rfl (fun h e => ⟨_, #[], e, ⟨rfl, rfl⟩, rfl⟩) h hb z
  · unfold LamX.CodeO at z
    injection z with z
    exact ext_ne_fields (a := c) (oe := ⟨.none, none, .fields #[.none, .str q 0], #[]⟩) rfl (fun h e => ⟨_, _, 0, e, rfl, rfl⟩) h hb z
theorem dcO_mut {P : Program} {w : World} {a : Addr} {xs : List (NestedKey × Addr × Value)} : mutO (DcO P w a xs) := by
  refine ext_mut (b := a) (fun h p => ?_) fun h _ h' e p => ?_
  · obtain ⟨_, _, _, o, es, ep, q1, q2, q3, _⟩ := p
    exact ⟨o, q1, fun vs z => by rw [q3] at z; cases z⟩
  · obtain ⟨_, _, _, o, es, ep, q1, _⟩ := p
    rw [q1] at e
    cases e
theorem slO_mut {a C dx : Addr} {vs : List (Option V)} : mutO (SlX.SlO a C dx vs) := by
  refine ext_mut (b := a) (fun h p => ?_) fun h _ h' e p => ?_
  · obtain ⟨sl, q1, _⟩ := p
    exact ⟨_, q1, fun vs z => by cases z⟩
  · obtain ⟨sl, q1, _⟩ := p
    rw [q1] at e
    cases e
def Adm (α : List Lc) (H : Hp) : Prop := ∀ b, inA α b → ∃ o, H b = some o ∧ mutO o
structure Post (α : List Lc) (H : Hp) (α' : List Lc) (H' : Hp) : Prop where
  pre : α <+: α'
  new : ∀ b, inA α' b → inA α b ∨ H b = none
  keep : ∀ b o, H b = some o → ¬ inA α b → (∀ ps, o ≠ .tbl ps) → H' b = some o
  there : ∀ b, H b ≠ none → H' b ≠ none
theorem inA.pre {α α' : List Lc} {b : Addr} (h : α <+: α') (x : inA α b) : inA α' b := let ⟨l, h1, h2⟩ := x; ⟨l, h.subset h1, h2⟩
theorem Post.refl (α : List Lc) (H : Hp) : Post α H α H := ⟨List.prefix_rfl, fun _ h => .inl h, fun _ _ h _ _ => h, fun _ h => h⟩
theorem Post.trans {α α1 α2 : List Lc} {H H1 H2 : Hp} (p : Post α H α1 H1) (q : Post α1 H1 α2 H2) : Post α H α2 H2 where
  pre := p.pre.trans q.pre
  new := fun b h => by
    rcases q.new b h with h1 | h1
    · exact p.new b h1
    · refine .inr ?_
      cases e : H b with
      | none => rfl
      | some o => exact absurd h1 (p.there b (by rw [e]; simp))
  keep := fun b o e n t => by
    refine q.keep b o (p.keep b o e n t) (fun z => ?_) t
    rcases p.new b z with h1 | h1
    · exact n h1
    · rw [e] at h1; cases h1
  there := fun b h => q.there b (p.there b h)
theorem RO.adm {G : Gc} {α : List Lc} {H : Hp} {l : Lc} {o : Ob} (r : RO G α H l o) : (∃ u, H l.a = some u ∧ mutO u) ∧ ∃ u, H l.dx = some u ∧ mutO u := by
  cases o with
  | lst ds =>
    obtain ⟨e, vs, h, _⟩ := r
    rw [e]
    exact ⟨⟨_, h, trivial⟩, ⟨_, h, trivial⟩⟩
  | dic kvs =>
    obtain ⟨e, ⟨ys, h, _⟩ | ⟨xs, h, _⟩⟩ := r
    · rw [e]; exact ⟨⟨_, h, trivial⟩, ⟨_, h, trivial⟩⟩
    · rw [e]; exact ⟨⟨_, h, dcO_mut⟩, ⟨_, h, dcO_mut⟩⟩
  | ins c fs =>
    obtain ⟨_, h1, vs, h2, _⟩ := r
    refine ⟨?_, ?_⟩
    · rcases h2 with ⟨h, _⟩ | ⟨h, _⟩
      · exact ⟨_, h, trivial⟩
      · exact ⟨_, h, slO_mut⟩
    · rcases h1 with h | h
      · exact ⟨_, h, trivial⟩
      · exact ⟨_, h, rfl⟩
theorem RS.adm {G : Gc} {α : List Lc} {H : Hp} {S : Store} (r : RS G α H S) : Adm α H := by
  rintro b ⟨l, hl, hb⟩
  obtain ⟨i, hi⟩ := List.getElem?_of_mem hl
  have hlt : i < S.length := by rw [← r.len]; exact (List.getElem?_eq_some_iff.mp hi).1
  obtain ⟨h1, h2⟩ := (r.obj i l S[i] hi (List.getElem?_eq_getElem hlt)).adm
  rcases hb with rfl | rfl
  · exact h1
  · exact h2
section
variable {G : Gc} {α α' : List Lc} {H H' : Hp}
theorem TpX.kept {K : PySem.W.Frag} {a : Addr} {vs : List V} (hA : Adm α H) (p : Post α H α' H') (h : TpX K H a vs) : TpX K H' a vs := by
  rcases h with ⟨o, h, d⟩ | h
  · refine .inl ⟨o, p.keep a _ h (fun z => ?_) (by intro ps; simp), d⟩
    obtain ⟨u, e, m⟩ := hA a z
    rw [h] at e; cases e; exact m
  · exact .inr h
theorem FzL.kept {K : PySem.W.Frag} {a : Addr} {vs : List V} (hA : Adm α H) (p : Post α H α' H') (h : FzL K H a vs) : FzL K H' a vs := by
  rcases h with ⟨o, h⟩ | h
  · refine .inl ⟨o, p.keep a _ h (fun z => ?_) (by intro ps; simp)⟩
    obtain ⟨u, e, m⟩ := hA a z
    rw [h] at e; cases e; exact m
  · exact .inr h
mutual
theorem RD.kept (hA : Adm α H) (p : Post α H α' H') : ∀ (d : D) (v : V), RD G α H d v → RD G α' H' d v
  | .non, _, h => h
  | .bl _, _, h => h
  | .int _, _, h => h
  | .str _, _, h => h
  | .tup ds, _, ⟨a, vs, e, h1, h2⟩ => ⟨a, vs, e, TpX.kept hA p h1, RDs.kept hA p ds vs h2⟩
  | .cl ds, _, ⟨a, vs, e, h1, h2⟩ => ⟨a, vs, e, FzL.kept hA p h1, RDs.kept hA p ds vs h2⟩
  | .ref n, _, ⟨l, e, h⟩ => ⟨l, by obtain ⟨t, rfl⟩ := p.pre; rw [List.getElem?_append_left (List.getElem?_eq_some_iff.mp e).1]; exact e, h⟩
  | .exc c d, _, ⟨a, dx, w, e, h1, h2, h3⟩ => by
    refine ⟨a, dx, w, e, p.keep _ _ h1 (fun z => ?_) (by intro ps; unfold XcO; simp), p.keep _ _ h2 (fun z => ?_) (by intro ps; simp), RD.kept hA p d w h3⟩
    · obtain ⟨u, q, m⟩ := hA a z
      rw [h1] at q; cases q
      exact m.1 _ _ _ rfl
    · obtain ⟨u, q, m⟩ := hA dx z
      rw [h2] at q; cases q
      cases m
theorem RDs.kept (hA : Adm α H) (p : Post α H α' H') : ∀ (ds : List D) (vs : List V), RDs G α H ds vs → RDs G α' H' ds vs
  | [], _, h => h
  | d :: ds, _, ⟨v, r, e, h1, h2⟩ => ⟨v, r, e, RD.kept hA p d v h1, RDs.kept hA p ds r h2⟩
end
end
end DL

set_option Elab.async false
set_option autoImplicit false
set_option linter.all false
set_option maxRecDepth 100000
set_option maxHeartbeats 2000000
namespace DL
open PySem PySem.Spec PyProof.Rows L2
section
variable (G : Gc) (α : List Lc) (H : Hp)
def RSV : SV → V → Prop
  | .v d, x => RD G α H d x
  | .ol ds, x => ∃ a vs, x = .ref a ∧ H a = some (.lst vs) ∧ RDs G α H ds vs ∧ ¬ inA α a
  | .od kvs, x => ∃ a, x = .ref a ∧ RDc G α H a kvs ∧ ¬ inA α a
structure RL (ρ : Env) (σ : L2.St) : Prop where
  len : ρ.length = σ.length
  val : ∀ (i : Nat) (s : SV), ρ[i]? = some (some s) → ∃ x, σ[i]? = some (some x) ∧ RSV G α H s x
  sep : ∀ (i j : Nat) (s t : SV) (a : Addr), ρ[i]? = some (some s) → ρ[j]? = some (some t) → s.own = true → t.own = true → σ[i]? = some (some (.ref a)) → σ[j]? = some (some (.ref a)) → i = j
/-- H0: the heap where the expression began -/
def RE (ρ : Env) (σ : L2.St) (H0 : Hp) : EV → V → Prop
  | .v d, x => RD G α H d x
  | .fl ds, x => ∃ a vs, x = .ref a ∧ H a = some (.lst vs) ∧ RDs G α H ds vs ∧ ¬ inA α a ∧ H0 a = none
  | .fd kvs, x => ∃ a, x = .ref a ∧ RDc G α H a kvs ∧ ¬ inA α a ∧ H0 a = none
  | .sl i, x => σ[i]? = some (some x) ∧ ∃ s, ρ[i]? = some (some s) ∧ s.own = true
end
section
variable {G : Gc} {α α' : List Lc} {H H' H0 : Hp} {ρ : Env} {σ : L2.St} {S : Store}
theorem Post.no (p : Post α H α' H') {b : Addr} {o : HO} (h : H b = some o) (n : ¬ inA α b) : ¬ inA α' b := fun z => by
  rcases p.new b z with z | z
  · exact n z
  · rw [h] at z; cases z
theorem Post.unt (p : Post α H α' H') {b : Addr} (h : H' b = none) : H b = none := by
  cases e : H b with
  | none => rfl
  | some o => exact absurd h (p.there b (by rw [e]; simp))
theorem paired_imp {A B : Type} {F F' : A → B → Prop} (h : ∀ a b, F a b → F' a b) : ∀ {l : List A} {m : List B}, Paired F l m → Paired F' l m
  | _, _, .nil => .nil
  | _, _, .cons r t => .cons (h _ _ r) (paired_imp h t)
theorem dcO_ne {P : Program} {w : World} {a : Addr} {xs : List (NestedKey × Addr × Value)} (ps : Array Value) : DcO P w a xs ≠ .tbl ps := fun z => by unfold DcO at z; cases z
theorem RDc.kept (hA : Adm α H) (p : Post α H α' H') {a : Addr} {kvs : List (D × D)} (n : ¬ inA α a) (h : RDc G α H a kvs) : RDc G α' H' a kvs := by
  rcases h with ⟨ys, h, r⟩ | ⟨xs, h, r⟩
  · exact .inl ⟨ys, p.keep _ _ h n (by intro ps; simp), paired_imp (fun a b q => ⟨q.1, q.2.kept hA p⟩) r⟩
  · refine .inr ⟨xs, p.keep _ _ h n dcO_ne, paired_imp (fun a b q => ?_) r⟩
    obtain ⟨h1, h2, h3, h4, h5, v, h6, h7⟩ := q
    exact ⟨h1, h2, h3, h4, h5.kept hA p, v, h6, h7.kept hA p⟩
theorem RDc.there {a : Addr} {kvs : List (D × D)} (h : RDc G α H a kvs) : ∃ o, H a = some o ∧ mutO o := by
  rcases h with ⟨ys, h, r⟩ | ⟨xs, h, r⟩
  · exact ⟨_, h, trivial⟩
  · exact ⟨_, h, dcO_mut⟩
theorem RSV.kept (hA : Adm α H) (p : Post α H α' H') : ∀ {s : SV} {x : V}, RSV G α H s x → RSV G α' H' s x
  | .v _, _, h => RD.kept hA p _ _ h
  | .ol _, _, ⟨a, vs, e, h1, h2, n⟩ => ⟨a, vs, e, p.keep _ _ h1 n (by intro ps; simp), RDs.kept hA p _ _ h2, p.no h1 n⟩
  | .od _, _, ⟨a, e, h1, n⟩ => ⟨a, e, h1.kept hA p n, let ⟨_, q, _⟩ := h1.there; p.no q n⟩
theorem RL.kept (hA : Adm α H) (p : Post α H α' H') (r : RL G α H ρ σ) : RL G α' H' ρ σ :=
  ⟨r.len, fun i s h => let ⟨x, h1, h2⟩ := r.val i s h; ⟨x, h1, h2.kept hA p⟩, r.sep⟩
theorem RE.kept (hA : Adm α H) (p : Post α H α' H') : ∀ {e : EV} {x : V}, RE G α H ρ σ H0 e x → RE G α' H' ρ σ H0 e x
  | .v _, _, h => RD.kept hA p _ _ h
  | .fl _, _, ⟨a, vs, e, h1, h2, n, h3⟩ => ⟨a, vs, e, p.keep _ _ h1 n (by intro ps; simp), RDs.kept hA p _ _ h2, p.no h1 n, h3⟩
  | .fd _, _, ⟨a, e, h1, n, h3⟩ => ⟨a, e, h1.kept hA p n, (let ⟨_, q, _⟩ := h1.there; p.no q n), h3⟩
  | .sl _, _, h => h
/-- the state in the middle of an expression that began at α, H -/
structure Mid (G : Gc) (α : List Lc) (H : Hp) (ρ : Env) (σ : L2.St) (α' : List Lc) (H' : Hp) (S : Store) : Prop where
  post : Post α H α' H'
  rs : RS G α' H' S
  rl : RL G α' H' ρ σ
  rl0 : RL G α H ρ σ
end
/-- what is wanted of what an expression gives -/
def Gd (G : Gc) (W : WX) (α : List Lc) (H : Hp) (ρ : Env) (σ : L2.St) (r : R EV) (Q : VK) : Prop := match r with
  | .ok e S' => ∀ α' H' x, Mid G α H ρ σ α' H' S' → RE G α' H' ρ σ H e x → Q x H'
  | .exc c d S' => ∀ α' H' dd v, Mid G α H ρ σ α' H' S' → H' dd = some (.xd [("value", v)]) → RD G α' H' d v → W (.ref (G.cls c)) (some dd) σ H'
  | .bad => False
def Gg {β : Type} (G : Gc) (W : WX) (α : List Lc) (H : Hp) (ρ : Env) (σ : L2.St) (r : R β) (Q : List Lc → Hp → β → Store → Prop) : Prop := match r with
  | .ok b S' => ∀ α' H', Mid G α H ρ σ α' H' S' → Q α' H' b S'
  | .exc c d S' => ∀ α' H' dd v, Mid G α H ρ σ α' H' S' → H' dd = some (.xd [("value", v)]) → RD G α' H' d v → W (.ref (G.cls c)) (some dd) σ H'
  | .bad => False
abbrev ME := Env → Store → R EV
def tOf (G : Gc) (m : ME) (W : WX) : TE := fun σ H Q => ∃ α ρ S, RS G α H S ∧ RL G α H ρ σ ∧ Gd G W α H ρ σ (m ρ S) Q
structure GOk (X : Cx) (G : Gc) : Prop where
  K : X.K = G.K
  P : X.prog = G.P
  w : X.w = G.w
structure XE (X : Cx) (G : Gc) (e : Expr) (m : ME) : Prop where
  run : ∀ W, Takes X W → PE X e (tOf G m W)
abbrev MT := Env → Store → R Bool
def tOfT (G : Gc) (m : MT) (W : WX) : TT := fun σ H Q => ∃ α ρ S, RS G α H S ∧ RL G α H ρ σ ∧ Gg G W α H ρ σ (m ρ S) fun _ H' b _ => Q b H'
structure XT (X : Cx) (G : Gc) (e : Expr) (m : MT) : Prop where
  run : ∀ W, Takes X W → PT X e (tOfT G m W)
theorem PE.imp {X : Cx} {e : Expr} {t t' : TE} (h : PE X e t) (i : ∀ σ H Q, t' σ H Q → t σ H Q) : PE X e t' := ⟨fun pins s σ H Q I q => h.run pins s σ H Q I (i _ _ _ q)⟩
theorem PT.imp {X : Cx} {e : Expr} {t t' : TT} (h : PT X e t) (i : ∀ σ H Q, t' σ H Q → t σ H Q) : PT X e t' := ⟨fun pins s σ H Q I q => h.run pins s σ H Q I (i _ _ _ q)⟩
section
variable {G : Gc} {W : WX} {α α1 α2 : List Lc} {H H1 H2 : Hp} {ρ : Env} {σ : L2.St} {S S1 S2 : Store} {Q : VK}
theorem Mid.refl (r : RS G α H S) (l : RL G α H ρ σ) : Mid G α H ρ σ α H S := ⟨Post.refl _ _, r, l, l⟩
theorem Mid.trans (m : Mid G α H ρ σ α1 H1 S1) (q : Mid G α1 H1 ρ σ α2 H2 S2) : Mid G α H ρ σ α2 H2 S2 := ⟨m.post.trans q.post, q.rs, q.rl, m.rl0⟩
theorem RE.back (p : Post α H α1 H1) : ∀ {e : EV} {x : V}, RE G α2 H2 ρ σ H1 e x → RE G α2 H2 ρ σ H e x
  | .v _, _, h => h
  | .fl _, _, ⟨a, vs, e, h1, h2, n, h3⟩ => ⟨a, vs, e, h1, h2, n, p.unt h3⟩
  | .fd _, _, ⟨a, e, h1, n, h3⟩ => ⟨a, e, h1, n, p.unt h3⟩
  | .sl _, _, h => h
/-- the next part of an expression -/
theorem step {ma : ME} {k : EV → Store → R EV} (m : Mid G α H ρ σ α1 H1 S1) (g : Gd G W α H ρ σ ((ma ρ S1).bind k) Q) :
    tOf G ma W σ H1 (fun x H2 => ∃ α2 S2 e, Post α1 H1 α2 H2 ∧ Mid G α H ρ σ α2 H2 S2 ∧ RE G α2 H2 ρ σ H e x ∧ Gd G W α H ρ σ (k e S2) Q) := by
  refine ⟨α1, ρ, S1, m.rs, m.rl, ?_⟩
  cases hr : ma ρ S1 with
  | ok e S2 =>
    rw [hr] at g
    exact fun α2 H2 x m2 r => ⟨α2, S2, e, m2.post, m.trans m2, r.back m.post, g⟩
  | exc c d S2 =>
    rw [hr] at g
    exact fun α2 H2 dd v m2 h1 h2 => g α2 H2 dd v (m.trans m2) h1 h2
  | bad =>
    rw [hr] at g
    exact g
theorem stepT {β : Type} {ma : ME} {k : EV → Store → R β} {F : List Lc → Hp → β → Store → Prop} (m : Mid G α H ρ σ α1 H1 S1) (g : Gg G W α H ρ σ ((ma ρ S1).bind k) F) :
    tOf G ma W σ H1 (fun x H2 => ∃ α2 S2 e, Post α1 H1 α2 H2 ∧ Mid G α H ρ σ α2 H2 S2 ∧ RE G α2 H2 ρ σ H e x ∧ Gg G W α H ρ σ (k e S2) F) := by
  refine ⟨α1, ρ, S1, m.rs, m.rl, ?_⟩
  cases hr : ma ρ S1 with
  | ok e S2 =>
    rw [hr] at g
    exact fun α2 H2 x m2 r => ⟨α2, S2, e, m2.post, m.trans m2, r.back m.post, g⟩
  | exc c d S2 =>
    rw [hr] at g
    exact fun α2 H2 dd v m2 h1 h2 => g α2 H2 dd v (m.trans m2) h1 h2
  | bad =>
    rw [hr] at g
    exact g
end
/-! ## names and constants -/
section
variable {X : Cx} {G : Gc} {pos : Pos}
def eV (i : Nat) : ME := fun ρ S => match ρ[i]? with
  | some (some (.v d)) => .ok (.v d) S
  | some (some _) => .ok (.sl i) S
  | _ => .bad
def eC (d : D) : ME := fun _ S => .ok (.v d) S
theorem xe_v (i : Nat) {x : Str} (hN : X.N[i]? = some x := by rfl) (hv : Vis X.env.scope x := by first | exact Or.inl rfl | exact Or.inr (Or.inl rfl) | exact Or.inr (Or.inr rfl)) (hd : (x == ("__debug__" : Str)) = false := by decide)
    (hcd : (x == ("__classdict__" : Str)) = false := by decide) : XE X G (.Name x pos) (eV i) := by
  refine ⟨fun W _ => PE.imp (pe_var (i := i) hN hv hd hcd) fun σ H Q ⟨α, ρ, S, rs, rl, g⟩ => ?_⟩
  unfold eV at g
  cases hr : ρ[i]? with
  | none => rw [hr] at g; exact g.elim
  | some o =>
    rw [hr] at g
    cases o with
    | none => exact g.elim
    | some s =>
      obtain ⟨y, h1, h2⟩ := rl.val i s hr
      refine ⟨y, h1, ?_⟩
      cases s with
      | v d => exact g α H y (.refl rs rl) h2
      | ol ds => exact g α H y (.refl rs rl) ⟨h1, _, hr, rfl⟩
      | od ds => exact g α H y (.refl rs rl) ⟨h1, _, hr, rfl⟩
theorem xe_int {i j} : XE X G (.Constant (.int i) j pos) (eC (.int i)) := ⟨fun W _ => PE.imp pe_int fun σ H Q ⟨α, ρ, S, rs, rl, g⟩ => g α H _ (.refl rs rl) rfl⟩
theorem xe_str {x j} : XE X G (.Constant (.str x) j pos) (eC (.str x)) := ⟨fun W _ => PE.imp pe_str fun σ H Q ⟨α, ρ, S, rs, rl, g⟩ => g α H _ (.refl rs rl) rfl⟩
theorem xe_bl {b j} : XE X G (.Constant (.bool b) j pos) (eC (.bl b)) := ⟨fun W _ => PE.imp pe_bl fun σ H Q ⟨α, ρ, S, rs, rl, g⟩ => g α H _ (.refl rs rl) rfl⟩
theorem xe_non {j} : XE X G (.Constant .none j pos) (eC .non) := ⟨fun W _ => PE.imp pe_non fun σ H Q ⟨α, ρ, S, rs, rl, g⟩ => g α H _ (.refl rs rl) rfl⟩
end
/-! ## operators -/
section
variable {X : Cx} {G : Gc} {pos : Pos} {a b c : Expr} {ma mb mc : ME}
/-- a two-place operation, by values -/
def Op2 (G : Gc) (r : R2) (g : EV → EV → Env → Store → R EV) : Prop := ∀ (W : WX) (α α1 : List Lc) (H H1 : Hp) (ρ : Env) (σ : L2.St) (S1 : Store) (e1 e2 : EV) (x y : V) (Q : VK),
  Mid G α H ρ σ α1 H1 S1 → RE G α1 H1 ρ σ H e1 x → RE G α1 H1 ρ σ H e2 y → Gd G W α H ρ σ (g e1 e2 ρ S1) Q → r x y H1 Q
def m2 (g : EV → EV → Env → Store → R EV) (ma mb : ME) : ME := fun ρ S => (ma ρ S).bind fun x S1 => (mb ρ S1).bind fun y S2 => g x y ρ S2
theorem tOp_of {r : R2} {g : EV → EV → Env → Store → R EV} (o : Op2 G r g) {W : WX} {σ : L2.St} {H : Hp} {Q : VK} (h : tOf G (m2 g ma mb) W σ H Q) : tOp r (tOf G ma W) (tOf G mb W) σ H Q := by
  obtain ⟨α, ρ, S, rs, rl, g1⟩ := h
  obtain ⟨α', ρ', S', q1, q2, q3⟩ := step (ma := ma) (.refl rs rl) g1
  refine ⟨α', ρ', S', q1, q2, ?_⟩
  have key : ∀ x H2, (∃ α2 S2 e, Post α H α2 H2 ∧ Mid G α H ρ σ α2 H2 S2 ∧ RE G α2 H2 ρ σ H e x ∧ Gd G W α H ρ σ ((mb ρ S2).bind fun y S2 => g e y ρ S2) Q) → tOf G mb W σ H2 (fun y H3 => r x y H3 Q) := by
    rintro x H2 ⟨α2, S2, e1, p2, m2, r1, g2⟩
    obtain ⟨β, ρ2, T, w1, w2, w3⟩ := step (ma := mb) m2 g2
    refine ⟨β, ρ2, T, w1, w2, ?_⟩
    cases hr : mb ρ2 T with
    | ok e S3 =>
      rw [hr] at w3
      intro α3 H3 y m3 r3
      obtain ⟨α4, S4, e2, p4, m4, r4, g4⟩ := w3 α3 H3 y m3 r3
      exact o W α α4 H H3 ρ σ S4 e1 e2 x y Q m4 (r1.kept m2.rs.adm p4) r4 g4
    | exc c d S3 => rw [hr] at w3; exact w3
    | bad => rw [hr] at w3; exact w3
  cases hr : ma ρ' S' with
  | ok e S2 =>
    rw [hr] at q3
    exact fun α2 H2 x m2 r2 => key x H2 (q3 α2 H2 x m2 r2)
  | exc c d S2 => rw [hr] at q3; exact q3
  | bad => rw [hr] at q3; exact q3
end
end DL

set_option Elab.async false
set_option autoImplicit false
set_option linter.all false
set_option maxRecDepth 100000
set_option maxHeartbeats 2000000
namespace DL
open PySem PySem.Spec PyProof.Rows L2
/-! ## statements -/
/-- the state between two statements of a def that began at α0, H0 -/
structure Sf (G : Gc) (α0 : List Lc) (H0 : Hp) (α : List Lc) (ρ : Env) (S : Store) (σ : L2.St) (H : Hp) : Prop where
  post : Post α0 H0 α H
  rs : RS G α H S
  rl : RL G α H ρ σ
  own : ∀ (i : Nat) (s : SV) (a : Addr), ρ[i]? = some (some s) → s.own = true → σ[i]? = some (some (.ref a)) → H0 a = none
inductive Fl where
  | next (ρ : Env) (S : Store) | ret (e : EV) (S : Store) | brk (ρ : Env) (S : Store) | cont (ρ : Env) (S : Store) | exc (c : Nat) (d : D) (ρ : Env) (S : Store) | bad
def Gf (G : Gc) (W : WX) (α0 : List Lc) (H0 : Hp) (D : Ends) : Fl → Prop
  | .next ρ S => ∀ α σ H, Sf G α0 H0 α ρ S σ H → D.nx σ H
  | .ret e S => ∀ α H x, Post α0 H0 α H → RS G α H S → RE G α H [] [] H0 e x → D.rt x H
  | .brk ρ S => ∀ α σ H, Sf G α0 H0 α ρ S σ H → D.bk σ H
  | .cont ρ S => ∀ α σ H, Sf G α0 H0 α ρ S σ H → D.ct σ H
  | .exc c d ρ S => ∀ α σ H dd v, Sf G α0 H0 α ρ S σ H → H dd = some (.xd [("value", v)]) → RD G α H d v → W (.ref (G.cls c)) (some dd) σ H
  | .bad => False
abbrev MS := Env → Store → Fl
def sOf (G : Gc) (m : MS) (W : WX) : TS := fun D σ H => ∃ α0 H0 α ρ S, Sf G α0 H0 α ρ S σ H ∧ Gf G W α0 H0 D (m ρ S)
structure XS (X : Cx) (G : Gc) (st : Stmt) (m : MS) : Prop where
  run : ∀ W, Takes X W → PS X st (sOf G m W)
structure XSs (X : Cx) (G : Gc) (st : List Stmt) (m : MS) : Prop where
  run : ∀ W, Takes X W → PSs X st (sOf G m W)
theorem PS.imp {X : Cx} {st : Stmt} {t t' : TS} (h : PS X st t) (i : ∀ D σ H, t' D σ H → t D σ H) : PS X st t' := ⟨fun pins s σ H D I q => h.run pins s σ H D I (i _ _ _ q)⟩
theorem PSs.imp {X : Cx} {st : List Stmt} {t t' : TS} (h : PSs X st t) (i : ∀ D σ H, t' D σ H → t D σ H) : PSs X st t' := ⟨fun pins s σ H D I q => h.run pins s σ H D I (i _ _ _ q)⟩
section
variable {G : Gc} {W : WX} {α0 α α1 : List Lc} {H0 H H1 : Hp} {ρ : Env} {σ : L2.St} {S S1 : Store}
theorem Sf.mid (s : Sf G α0 H0 α ρ S σ H) : Mid G α H ρ σ α H S := .refl s.rs s.rl
theorem Sf.step (s : Sf G α0 H0 α ρ S σ H) (m : Mid G α H ρ σ α1 H1 S1) : Sf G α0 H0 α1 ρ S1 σ H1 := ⟨s.post.trans m.post, m.rs, m.rl, s.own⟩
/-- what an expression within a statement wants -/
theorem exprIn {ma : ME} {k : EV → Store → Fl} {D : Ends} (s : Sf G α0 H0 α ρ S σ H)
    (g : Gf G W α0 H0 D (match ma ρ S with | .ok e S1 => k e S1 | .exc c d S1 => .exc c d ρ S1 | .bad => .bad)) :
    tOf G ma W σ H (fun x H1 => ∃ α1 S1 e, Mid G α H ρ σ α1 H1 S1 ∧ RE G α1 H1 ρ σ H e x ∧ Gf G W α0 H0 D (k e S1)) := by
  refine ⟨α, ρ, S, s.rs, s.rl, ?_⟩
  cases hr : ma ρ S with
  | ok e S1 =>
    rw [hr] at g
    exact fun α1 H1 x m r => ⟨α1, S1, e, m, r, g⟩
  | exc c d S1 =>
    rw [hr] at g
    exact fun α1 H1 dd v m h1 h2 => g α1 σ H1 dd v (s.step m) h1 h2
  | bad => rw [hr] at g; exact g
theorem testIn {ma : MT} {k : Bool → Store → Fl} {D : Ends} (s : Sf G α0 H0 α ρ S σ H)
    (g : Gf G W α0 H0 D (match ma ρ S with | .ok e S1 => k e S1 | .exc c d S1 => .exc c d ρ S1 | .bad => .bad)) :
    tOfT G ma W σ H (fun b H1 => ∃ α1 S1, Mid G α H ρ σ α1 H1 S1 ∧ Gf G W α0 H0 D (k b S1)) := by
  refine ⟨α, ρ, S, s.rs, s.rl, ?_⟩
  cases hr : ma ρ S with
  | ok e S1 =>
    rw [hr] at g
    exact fun α1 H1 m => ⟨α1, S1, m, g⟩
  | exc c d S1 =>
    rw [hr] at g
    exact fun α1 H1 dd v m h1 h2 => g α1 σ H1 dd v (s.step m) h1 h2
  | bad => rw [hr] at g; exact g
end
section
variable {X : Cx} {G : Gc} {pos : Pos}
def mNext : MS := fun ρ S => .next ρ S
def mSeq (a b : MS) : MS := fun ρ S => match a ρ S with
  | .next ρ1 S1 => b ρ1 S1
  | r => r
theorem xss_nil : XSs X G [] mNext := ⟨fun W _ => PSs.imp pss_nil fun D σ H ⟨_, _, α, _, _, s, g⟩ => g α σ H s⟩
theorem xss_one {st : Stmt} {m : MS} (h : XS X G st m) : XSs X G [st] m := ⟨fun W t => pss_one (h.run W t)⟩
theorem xss_cons {st : Stmt} {rest : List Stmt} {a b : MS} (h : XS X G st a) (k : XSs X G rest b) : XSs X G (st :: rest) (mSeq a b) := by
  refine ⟨fun W t => PSs.imp (pss_cons (h.run W t) (k.run W t)) fun D σ H ⟨α0, H0, α, ρ, S, s, g⟩ => ⟨α0, H0, α, ρ, S, s, ?_⟩⟩
  unfold mSeq at g
  cases hr : a ρ S with
  | next ρ1 S1 =>
    rw [hr] at g
    exact fun α1 σ1 H1 s1 => ⟨α0, H0, α1, ρ1, S1, s1, g⟩
  | ret e S1 => rw [hr] at g; exact g
  | brk ρ1 S1 => rw [hr] at g; exact g
  | cont ρ1 S1 => rw [hr] at g; exact g
  | exc c d ρ1 S1 => rw [hr] at g; exact g
  | bad => rw [hr] at g; exact g
def mBrk : MS := fun ρ S => .brk ρ S
def mCont : MS := fun ρ S => .cont ρ S
theorem xs_pass : XS X G (.Pass pos) mNext := ⟨fun W _ => PS.imp ps_pass fun D σ H ⟨_, _, α, _, _, s, g⟩ => g α σ H s⟩
theorem xs_break : XS X G (.Break pos) mBrk := ⟨fun W _ => PS.imp ps_break fun D σ H ⟨_, _, α, _, _, s, g⟩ => g α σ H s⟩
theorem xs_continue : XS X G (.Continue pos) mCont := ⟨fun W _ => PS.imp ps_continue fun D σ H ⟨_, _, α, _, _, s, g⟩ => g α σ H s⟩
def mIf (c : MT) (a b : MS) : MS := fun ρ S => match c ρ S with
  | .ok true S1 => a ρ S1
  | .ok false S1 => b ρ S1
  | .exc c d S1 => .exc c d ρ S1
  | .bad => .bad
theorem xs_if {c : Expr} {a b : List Stmt} {mc : MT} {ma mb : MS} (hc : XT X G c mc) (ha : XSs X G a ma) (hb : XSs X G b mb) : XS X G (.If c a b pos) (mIf mc ma mb) := by
  refine ⟨fun W t => PS.imp (ps_if (hc.run W t) (ha.run W t) (hb.run W t)) fun D σ H ⟨α0, H0, α, ρ, S, s, g⟩ => ?_⟩
  obtain ⟨α', ρ', S', q1, q2, q3⟩ := testIn (ma := mc) (k := fun v S1 => if v then ma ρ S1 else mb ρ S1) s (by
    unfold mIf at g
    cases hr : mc ρ S with
    | ok v S1 => rw [hr] at g; cases v <;> exact g
    | exc c d S1 => rw [hr] at g; exact g
    | bad => rw [hr] at g; exact g)
  refine ⟨α', ρ', S', q1, q2, ?_⟩
  cases hr : mc ρ' S' with
  | exc c d S1 => rw [hr] at q3; exact q3
  | bad => rw [hr] at q3; exact q3
  | ok v S1 =>
    rw [hr] at q3
    intro α1 H1 m
    obtain ⟨α2, S2, m2, g2⟩ := q3 α1 H1 m
    cases v with
    | true => exact ⟨α0, H0, α2, ρ, S2, s.step m2, g2⟩
    | false => exact ⟨α0, H0, α2, ρ, S2, s.step m2, g2⟩
/-! ### return -/
def outE (ρ : Env) : EV → Option EV
  | .v d => some (.v d)
  | .fl ds => some (.fl ds)
  | .fd ds => some (.fd ds)
  | .sl i => match ρ[i]? with
    | some (some (.ol ds)) => some (.fl ds)
    | some (some (.od ds)) => some (.fd ds)
    | _ => none
theorem outE_ok {α0 α1 : List Lc} {H0 H H1 : Hp} {ρ : Env} {σ : L2.St} {e e' : EV} {x : V} (p : Post α0 H0 α1 H1) (rl : RL G α1 H1 ρ σ)
    (own : ∀ (i : Nat) (s : SV) (a : Addr), ρ[i]? = some (some s) → s.own = true → σ[i]? = some (some (.ref a)) → H0 a = none) (hb : ∀ a, H a = none → H0 a = none) (r : RE G α1 H1 ρ σ H e x) (h : outE ρ e = some e') : RE G α1 H1 [] [] H0 e' x := by
  cases e with
  | v d => cases h; exact r
  | fl ds => cases h; obtain ⟨a, vs, h1, h2, h3, h4, h5⟩ := r; exact ⟨a, vs, h1, h2, h3, h4, hb a h5⟩
  | fd ds => cases h; obtain ⟨a, h1, h2, h3, h5⟩ := r; exact ⟨a, h1, h2, h3, hb a h5⟩
  | sl i =>
    obtain ⟨h1, s, h2, h3⟩ := r
    obtain ⟨y, h4, h5⟩ := rl.val i s h2
    rw [h1] at h4
    cases h4
    simp only [outE, h2] at h
    cases s with
    | v d => cases h3
    | ol ds =>
      cases h
      obtain ⟨a, vs, rfl, k1, k2, k3⟩ := h5
      exact ⟨a, vs, rfl, k1, k2, k3, own i _ a h2 rfl h1⟩
    | od ds =>
      cases h
      obtain ⟨a, rfl, k1, k3⟩ := h5
      exact ⟨a, rfl, k1, k3, own i _ a h2 rfl h1⟩
def mRet (m : ME) : MS := fun ρ S => match m ρ S with
  | .ok e S1 => match outE ρ e with
    | some e' => .ret e' S1
    | none => .bad
  | .exc c d S1 => .exc c d ρ S1
  | .bad => .bad
theorem xs_ret {e : Expr} {m : ME} (h : XE X G e m) : XS X G (.Return (some e) pos) (mRet m) := by
  refine ⟨fun W t => PS.imp (ps_ret (h.run W t)) fun D σ H ⟨α0, H0, α, ρ, S, s, g⟩ => ?_⟩
  obtain ⟨α', ρ', S', q1, q2, q3⟩ := exprIn (ma := m) (k := fun e S1 => match outE ρ e with | some e' => .ret e' S1 | none => .bad) s g
  refine ⟨α', ρ', S', q1, q2, ?_⟩
  cases hr : m ρ' S' with
  | exc c d S1 => rw [hr] at q3; exact q3
  | bad => rw [hr] at q3; exact q3
  | ok e S1 =>
    rw [hr] at q3
    intro α1 H1 x m1 r1
    obtain ⟨α2, S2, e2, m2, r2, g2⟩ := q3 α1 H1 x m1 r1
    cases ho : outE ρ e2 with
    | none => simp only [ho] at g2; exact g2.elim
    | some e3 =>
      simp only [ho] at g2
      exact g2 α2 H1 x (s.step m2).post m2.rs (outE_ok (s.step m2).post m2.rl s.own (fun a h => s.post.unt h) r2 ho)
def mRetN : MS := fun ρ S => .ret (.v .non) S
theorem xs_retN : XS X G (.Return none pos) mRetN := ⟨fun W _ => PS.imp ps_retN fun D σ H ⟨_, _, α, _, _, s, g⟩ => g α H _ s.post s.rs rfl⟩
def mExpr (m : ME) : MS := fun ρ S => match m ρ S with
  | .ok _ S1 => .next ρ S1
  | .exc c d S1 => .exc c d ρ S1
  | .bad => .bad
theorem xs_expr {e : Expr} {m : ME} (h : XE X G e m) (hs : swapsWith e none pos.line X.env = pure false := by rfl) : XS X G (.Expr e pos) (mExpr m) := by
  refine ⟨fun W t => PS.imp (ps_expr (h.run W t) hs) fun D σ H ⟨α0, H0, α, ρ, S, s, g⟩ => ?_⟩
  obtain ⟨α', ρ', S', q1, q2, q3⟩ := exprIn (ma := m) (k := fun e S1 => .next ρ S1) s g
  refine ⟨α', ρ', S', q1, q2, ?_⟩
  cases hr : m ρ' S' with
  | exc c d S1 => rw [hr] at q3; exact q3
  | bad => rw [hr] at q3; exact q3
  | ok e S1 =>
    rw [hr] at q3
    intro α1 H1 x m1 r1
    obtain ⟨α2, S2, e2, m2, r2, g2⟩ := q3 α1 H1 x m1 r1
    exact g2 α2 σ H1 (s.step m2)
/-! ### a name is set -/
/-- the slot holds what the expression gave; a new list becomes its own -/
def svE : EV → Option SV
  | .v d => some (.v d)
  | .fl ds => some (.ol ds)
  | .fd ds => some (.od ds)
  | .sl _ => none
theorem RL.set {α : List Lc} {H : Hp} {ρ : Env} {σ : L2.St} (rl : RL G α H ρ σ) (i : Nat) {s : SV} {x : V} (r : RSV G α H s x)
    (n : ∀ (a : Addr) (j : Nat) (t : SV), s.own = true → x = .ref a → j ≠ i → ρ[j]? = some (some t) → t.own = true → σ[j]? ≠ some (some (.ref a))) : RL G α H (ρ.set i (some s)) (σ.set i (some x)) := by
  have get1 : ∀ (j : Nat) (t : SV), (ρ.set i (some s))[j]? = some (some t) → (j = i ∧ t = s ∧ i < ρ.length) ∨ (j ≠ i ∧ ρ[j]? = some (some t)) := fun j t h => by
    by_cases e : j = i
    · subst e
      by_cases hl : j < ρ.length
      · rw [List.getElem?_set_self hl] at h
        cases h
        exact .inl ⟨rfl, rfl, hl⟩
      · rw [List.getElem?_eq_none (by simpa using hl)] at h
        cases h
    · rw [List.getElem?_set_ne (Ne.symm e)] at h
      exact .inr ⟨e, h⟩
  refine ⟨by rw [List.length_set, List.length_set]; exact rl.len, fun j t h => ?_, fun j k t u a h1 h2 o1 o2 e1 e2 => ?_⟩
  · rcases get1 j t h with ⟨rfl, rfl, hl⟩ | ⟨e, h⟩
    · exact ⟨x, List.getElem?_set_self (by rw [← rl.len]; exact hl), r⟩
    · obtain ⟨y, q1, q2⟩ := rl.val j t h
      exact ⟨y, by rw [List.getElem?_set_ne (Ne.symm e)]; exact q1, q2⟩
  · rcases get1 j t h1 with ⟨rfl, rfl, hl⟩ | ⟨e, h3⟩
    · rcases get1 k u h2 with ⟨rfl, _, _⟩ | ⟨e', h4⟩
      · rfl
      · rw [List.getElem?_set_self (by rw [← rl.len]; exact hl)] at e1
        rw [List.getElem?_set_ne (Ne.symm e')] at e2
        cases e1
        exact (n a k u o1 rfl e' h4 o2 e2).elim
    · rw [List.getElem?_set_ne (Ne.symm e)] at e1
      rcases get1 k u h2 with ⟨rfl, rfl, hl⟩ | ⟨e', h4⟩
      · rw [List.getElem?_set_self (by rw [← rl.len]; exact hl)] at e2
        cases e2
        exact (n a j t o2 rfl e h3 o1 e1).elim
      · rw [List.getElem?_set_ne (Ne.symm e')] at e2
        exact rl.sep j k t u a h3 h4 o1 o2 e1 e2
/-- an own list's address is tracked -/
theorem RSV.at {α : List Lc} {H : Hp} {s : SV} {x : V} (r : RSV G α H s x) (o : s.own = true) : ∃ a u, x = .ref a ∧ H a = some u ∧ mutO u := by
  cases s with
  | v d => cases o
  | ol ds => obtain ⟨a, vs, e, h, _⟩ := r; exact ⟨a, _, e, h, trivial⟩
  | od ds => obtain ⟨a, e, h, _⟩ := r; obtain ⟨u, h, m⟩ := h.there; exact ⟨a, _, e, h, m⟩
theorem Sf.set {α0 α α1 : List Lc} {H0 H H1 : Hp} {ρ : Env} {σ : L2.St} {S S1 : Store} {e : EV} {s : SV} {x : V} (f : Sf G α0 H0 α ρ S σ H) (m : Mid G α H ρ σ α1 H1 S1) (r : RE G α1 H1 ρ σ H e x) (h : svE e = some s) (i : Nat) :
    Sf G α0 H0 α1 (ρ.set i (some s)) S1 (σ.set i (some x)) H1 := by
  have key : RSV G α1 H1 s x ∧ ∀ a, s.own = true → x = .ref a → H a = none := by
    cases e with
    | v d => cases h; exact ⟨r, fun a z => by cases z⟩
    | fl ds => cases h; obtain ⟨a, vs, rfl, h2, h3, h4, h5⟩ := r; exact ⟨⟨a, vs, rfl, h2, h3, h4⟩, fun b _ z => by cases z; exact h5⟩
    | fd ds => cases h; obtain ⟨a, rfl, h2, h3, h5⟩ := r; exact ⟨⟨a, rfl, h2, h3⟩, fun b _ z => by cases z; exact h5⟩
    | sl j => cases h
  have f1 := f.step m
  refine ⟨f1.post, m.rs, m.rl.set i key.1 fun a j t o e1 hj h1 h2 z => ?_, fun j t a h1 h2 h3 => ?_⟩
  · obtain ⟨y, q1, q2⟩ := f.rl.val j t h1
    rw [z] at q1
    cases q1
    obtain ⟨b, u, e2, h4, _⟩ := q2.at h2
    cases e2
    rw [key.2 a o e1] at h4
    cases h4
  · by_cases e : j = i
    · subst e
      by_cases hl : j < ρ.length
      · rw [List.getElem?_set_self hl] at h1
        cases h1
        rw [List.getElem?_set_self (by rw [← f.rl.len]; exact hl)] at h3
        cases h3
        exact f.post.unt (key.2 a h2 rfl)
      · rw [List.getElem?_eq_none (by simpa using hl)] at h1
        cases h1
    · rw [List.getElem?_set_ne (Ne.symm e)] at h1 h3
      exact f.own j t a h1 h2 h3
def mSet (i : Nat) (m : ME) : MS := fun ρ S => match m ρ S with
  | .ok e S1 => match svE e with
    | some s => .next (ρ.set i (some s)) S1
    | none => .bad
  | .exc c d S1 => .exc c d ρ S1
  | .bad => .bad
theorem xs_set {i : Nat} {x : Str} {e : Expr} {m : ME} {pos' : Pos} (hN : X.N.Nodup) (hi : X.N[i]? = some x) (hx : Loc X.env.scope x) (h : XE X G e m) (hs : swapsWith e (some (.Name x pos')) pos.line X.env = pure false := by rfl)
    (hf : X.fn x = true ∨ X.env.scope.names.lookup x = some .local := by first | exact .inl rfl | exact .inr rfl | assumption) : XS X G (.Assign [.Name x pos'] e pos) (mSet i m) := by
  refine ⟨fun W t => PS.imp (ps_set (i := i) hN hi hx (h.run W t) hs hf) fun D σ H ⟨α0, H0, α, ρ, S, s, g⟩ => ?_⟩
  obtain ⟨α', ρ', S', q1, q2, q3⟩ := exprIn (ma := m) (k := fun e S1 => match svE e with | some s => .next (ρ.set i (some s)) S1 | none => .bad) s g
  refine ⟨α', ρ', S', q1, q2, ?_⟩
  cases hr : m ρ' S' with
  | exc c d S1 => rw [hr] at q3; exact q3
  | bad => rw [hr] at q3; exact q3
  | ok e S1 =>
    rw [hr] at q3
    intro α1 H1 x m1 r1
    obtain ⟨α2, S2, e2, m2, r2, g2⟩ := q3 α1 H1 x m1 r1
    cases ho : svE e2 with
    | none => simp only [ho] at g2; exact g2.elim
    | some e3 =>
      simp only [ho] at g2
      exact g2 α2 _ H1 (s.set m2 r2 ho i)
/-! ### while -/
def mWhile (c : MT) (b : MS) : Nat → MS
  | 0 => fun _ _ => .bad
  | n + 1 => fun ρ S => match c ρ S with
    | .ok true S1 => match b ρ S1 with
      | .next ρ2 S2 => mWhile c b n ρ2 S2
      | .cont ρ2 S2 => mWhile c b n ρ2 S2
      | .brk ρ2 S2 => .next ρ2 S2
      | r => r
    | .ok false S1 => .next ρ S1
    | .exc c d S1 => .exc c d ρ S1
    | .bad => .bad
theorem xs_while {c : Expr} {body : List Stmt} {mc : MT} {mb : MS} (n : Nat) (hp : ∀ W, Takes X W → PassesOwn (model X.prog X.w) X.A X.env X.xe) (hc : XT X G c mc) (hb : XSs X G body mb) : XS X G (.While c body [] pos) (mWhile mc mb n) := by
  refine ⟨fun W t => PS.imp (ps_while (hp W t) (hc.run W t) (hb.run W t)) fun D σ H ⟨α0, H0, α, ρ, S, s, g⟩ => ?_⟩
  refine ⟨fun k σ H => ∃ α ρ S, Sf G α0 H0 α ρ S σ H ∧ Gf G W α0 H0 D (mWhile mc mb k ρ S), ⟨n, α, ρ, S, s, g⟩, ?_⟩
  rintro k σ1 H1 ⟨α1, ρ1, S1, s1, g1⟩
  cases k with
  | zero => exact g1.elim
  | succ k =>
    have g2 : Gf G W α0 H0 D (match mc ρ1 S1 with
      | .ok v S2 => if v then (match mb ρ1 S2 with
        | .next ρ2 S2 => mWhile mc mb k ρ2 S2
        | .cont ρ2 S2 => mWhile mc mb k ρ2 S2
        | .brk ρ2 S2 => .next ρ2 S2
        | r => r) else .next ρ1 S2
      | .exc c d S1 => .exc c d ρ1 S1
      | .bad => .bad) := by
      unfold mWhile at g1
      cases hr : mc ρ1 S1 with
      | ok v S2 => rw [hr] at g1; cases v <;> exact g1
      | exc c d S2 => rw [hr] at g1; exact g1
      | bad => rw [hr] at g1; exact g1
    obtain ⟨α', ρ', S', q1, q2, q3⟩ := testIn (ma := mc) (k := fun v S2 => if v then (match mb ρ1 S2 with
        | .next ρ2 S2 => mWhile mc mb k ρ2 S2
        | .cont ρ2 S2 => mWhile mc mb k ρ2 S2
        | .brk ρ2 S2 => .next ρ2 S2
        | r => r) else .next ρ1 S2) s1 g2
    refine ⟨α', ρ', S', q1, q2, ?_⟩
    cases hr : mc ρ' S' with
    | exc c d S1 => rw [hr] at q3; exact q3
    | bad => rw [hr] at q3; exact q3
    | ok v S2 =>
      rw [hr] at q3
      intro α2 H2 m
      obtain ⟨α3, S3, m3, g3⟩ := q3 α2 H2 m
      cases v with
      | false => exact g3 α3 σ1 H2 (s1.step m3)
      | true =>
        refine (if_pos rfl).mpr ?_
        refine ⟨fun σ' H' => ∃ α ρ S, Sf G α0 H0 α ρ S σ' H' ∧ Gf G W α0 H0 D (mWhile mc mb k ρ S), fun σ' H' ⟨α4, ρ4, S4, s4, g4⟩ => ⟨k, Nat.lt_succ_self k, α4, ρ4, S4, s4, g4⟩, ?_⟩
        refine ⟨α0, H0, α3, ρ1, S3, s1.step m3, ?_⟩
        have g4 : Gf G W α0 H0 D (match mb ρ1 S3 with
          | .next ρ2 S2 => mWhile mc mb k ρ2 S2
          | .cont ρ2 S2 => mWhile mc mb k ρ2 S2
          | .brk ρ2 S2 => .next ρ2 S2
          | r => r) := g3
        cases hb2 : mb ρ1 S3 with
        | next ρ2 S4 => rw [hb2] at g4; exact fun α5 σ5 H5 s5 => ⟨α5, ρ2, S4, s5, g4⟩
        | cont ρ2 S4 => rw [hb2] at g4; exact fun α5 σ5 H5 s5 => ⟨α5, ρ2, S4, s5, g4⟩
        | brk ρ2 S4 => rw [hb2] at g4; exact g4
        | ret e S4 => rw [hb2] at g4; exact g4
        | exc c d ρ2 S4 => rw [hb2] at g4; exact g4
        | bad => rw [hb2] at g4; exact g4
end
end DL

set_option Elab.async false
set_option autoImplicit false
set_option linter.all false
set_option maxRecDepth 100000
set_option maxHeartbeats 2000000
namespace DL
open PySem PySem.Spec PyProof.Rows L2
/-! ## views -/
def asL (ρ : Env) (S : Store) : EV → Option (List D)
  | .fl ds => some ds
  | .sl i => match ρ[i]? with
    | some (some (.ol ds)) => some ds
    | _ => none
  | .v (.ref n) => match S[n]? with
    | some (.lst ds) => some ds
    | _ => none
  | .v (.cl ds) => some ds
  | _ => none
def asT : EV → Option (List D)
  | .v (.tup ds) => some ds
  | _ => none
/-- the datum that it is; a list as a list that stands still -/
def asD (ρ : Env) (S : Store) : EV → Option D
  | .fl ds => some (.cl ds)
  | .sl i => match ρ[i]? with
    | some (some (.ol ds)) => some (.cl ds)
    | _ => none
  | .v (.ref n) => match S[n]? with
    | some (.lst ds) => some (.cl ds)
    | _ => none
  | .v d => some d
  | .fd _ => none
def asI : EV → Option Int
  | .v (.int i) => some i
  | _ => none
section
variable {G : Gc} {α : List Lc} {H H0 : Hp} {ρ : Env} {σ : L2.St} {S : Store} {x : V} {e : EV}
theorem FzL.sq {K : PySem.W.Frag} {H : Hp} {a : Addr} {vs : List V} (h : FzL K H a vs) : SqL K H a vs := by
  rcases h with ⟨o, h⟩ | h
  · exact .inl (.inr ⟨o, h⟩)
  · rcases h with (h | ⟨o, h⟩) | h
    · cases h
    · cases h
    · exact .inr h
theorem asL_ok {ds : List D} (rs : RS G α H S) (rl : RL G α H ρ σ) (r : RE G α H ρ σ H0 e x) (h : asL ρ S e = some ds) : ∃ a vs, x = .ref a ∧ SqL G.K H a vs ∧ RDs G α H ds vs := by
  cases e with
  | fl xs => cases h; obtain ⟨a, vs, e, h1, h2, _⟩ := r; exact ⟨a, vs, e, SqL.of h1, h2⟩
  | fd xs => cases h
  | sl i =>
    obtain ⟨h1, s, h2, h3⟩ := r
    simp only [asL, h2] at h
    cases s with
    | ol ys =>
      cases h
      obtain ⟨y, q1, a, vs, q2, q3, q4, _⟩ := rl.val i _ h2
      rw [h1] at q1; cases q1
      exact ⟨a, vs, q2, SqL.of q3, q4⟩
    | v d => cases h
    | od ys => cases h
  | v d =>
    cases d with
    | cl xs => cases h; obtain ⟨a, vs, e, h1, h2⟩ := r; exact ⟨a, vs, e, h1.sq, h2⟩
    | ref n =>
      obtain ⟨l, h1, h2⟩ := r
      cases hs : S[n]? with
      | none => simp only [asL, hs] at h; cases h
      | some o =>
        simp only [asL, hs] at h
        cases o with
        | lst xs =>
          cases h
          obtain ⟨_, vs, q1, q2⟩ := rs.obj n l _ h1 hs
          exact ⟨_, vs, h2, SqL.of q1, q2⟩
        | dic _ => cases h
        | ins _ _ => cases h
    | _ => cases h
theorem asT_ok {ds : List D} (r : RE G α H ρ σ H0 e x) (h : asT e = some ds) : ∃ a vs, x = .ref a ∧ TpX G.K H a vs ∧ RDs G α H ds vs := by
  cases e with
  | v d =>
    cases d with
    | tup xs => cases h; exact r
    | _ => cases h
  | _ => cases h
theorem asI_ok {i : Int} (r : RE G α H ρ σ H0 e x) (h : asI e = some i) : x = .int i := by
  cases e with
  | v d =>
    cases d with
    | int j => cases h; exact r
    | _ => cases h
  | _ => cases h
/-! ### plain data -/
mutual
/-- no object of ours in it -/
def D.pure : D → Bool
  | .tup ds => D.pures ds
  | .cl ds => D.pures ds
  | .ref _ => false
  | .exc _ _ => false
  | _ => true
def D.pures : List D → Bool
  | [] => true
  | d :: r => D.pure d && D.pures r
end
mutual
def D.py : D → PyData
  | .bl b => .bool b
  | .int i => .int i
  | .str x => .str x
  | .tup ds => .tuple (D.pys ds)
  | .cl ds => .list (D.pys ds)
  | _ => .none
def D.pys : List D → List PyData
  | [] => []
  | d :: r => D.py d :: D.pys r
end
theorem D.pys_map : ∀ ds : List D, D.pys ds = ds.map D.py
  | [] => rfl
  | d :: r => by rw [D.pys, D.pys_map r]; rfl
theorem D.pures_iff : ∀ ds : List D, D.pures ds = true ↔ ∀ d ∈ ds, d.pure = true
  | [] => by simp [D.pures]
  | d :: r => by simp [D.pures, D.pures_iff r]
mutual
theorem D.plain : ∀ d : D, d.py.plain = true
  | .non => rfl
  | .bl _ => rfl
  | .int _ => rfl
  | .str _ => rfl
  | .tup ds => by rw [D.py, PyData.plain]; exact D.plains ds
  | .cl ds => by rw [D.py, PyData.plain]; exact D.plains ds
  | .ref _ => rfl
  | .exc _ _ => rfl
theorem D.plains : ∀ ds : List D, PyData.plainAll (D.pys ds) = true
  | [] => rfl
  | d :: r => by rw [D.pys, PyData.plainAll, D.plain d, D.plains r]; rfl
end
mutual
theorem RD.dp : ∀ (d : D) (v : V), d.pure = true → RD G α H d v → Dp G.K H v d.py
  | .non, _, _, h => by cases h; exact .non
  | .bl b, _, _, h => by cases h; exact .bl b
  | .int i, _, _, h => by cases h; exact .int i
  | .str i, _, _, h => by cases h; exact .str i
  | .tup ds, _, p, ⟨a, vs, e, h1, h2⟩ => by subst e; exact .tup h1.sq (RDs.dp ds vs p h2)
  | .cl ds, _, p, ⟨a, vs, e, h1, h2⟩ => by subst e; exact .lst h1.sq (RDs.dp ds vs p h2)
theorem RDs.dp : ∀ (ds : List D) (vs : List V), D.pures ds = true → RDs G α H ds vs → DpAll G.K H vs (D.pys ds)
  | [], _, _, h => by cases h; exact .nil
  | d :: ds, _, p, ⟨v, r, e, h1, h2⟩ => by
    have p' : (D.pure d && D.pures ds) = true := p
    rw [Bool.and_eq_true] at p'
    subst e
    exact .cons (RD.dp d v p'.1 h1) (RDs.dp ds r p'.2 h2)
end
theorem asD_ok {d : D} (rs : RS G α H S) (rl : RL G α H ρ σ) (r : RE G α H ρ σ H0 e x) (h : asD ρ S e = some d) (p : d.pure = true) : Dp G.K H x d.py := by
  have list : ∀ ds, asL ρ S e = some ds → d = .cl ds → Dp G.K H x d.py := fun ds q z => by
    subst z
    obtain ⟨a, vs, e, h1, h2⟩ := asL_ok rs rl r q
    subst e
    exact .lst h1 (RDs.dp ds vs p h2)
  cases e with
  | fl xs => cases h; exact list _ rfl rfl
  | fd xs => cases h
  | sl i =>
    obtain ⟨h1, s, h2, h3⟩ := id r
    simp only [asD, h2] at h
    cases s with
    | ol ys => cases h; exact list ys (by simp only [asL, h2]) rfl
    | v d => cases h
    | od ys => cases h
  | v d' =>
    cases d' with
    | ref n =>
      cases hs : S[n]? with
      | none => simp only [asD, hs] at h; cases h
      | some o =>
        simp only [asD, hs] at h
        cases o with
        | lst xs => cases h; exact list xs (by simp only [asL, hs]) rfl
        | dic _ => cases h
        | ins _ _ => cases h
    | non => cases h; exact RD.dp (α := α) _ _ p r
    | bl _ => cases h; exact RD.dp (α := α) _ _ p r
    | int _ => cases h; exact RD.dp (α := α) _ _ p r
    | str _ => cases h; exact RD.dp (α := α) _ _ p r
    | tup _ => cases h; exact RD.dp (α := α) _ _ p r
    | cl _ => cases h; exact RD.dp (α := α) _ _ p r
    | exc _ _ => cases h; cases p
theorem RDs.len : ∀ {ds : List D} {vs : List V}, RDs G α H ds vs → ds.length = vs.length
  | [], _, h => by cases h; rfl
  | d :: ds, _, ⟨v, r, e, _, h2⟩ => by subst e; rw [List.length_cons, List.length_cons, RDs.len h2]
theorem RDs.append : ∀ {ds es : List D} {vs ws : List V}, RDs G α H ds vs → RDs G α H es ws → RDs G α H (ds ++ es) (vs ++ ws)
  | [], _, _, _, h, k => by cases h; exact k
  | d :: ds, _, _, _, ⟨v, r, e, h1, h2⟩, k => by subst e; exact ⟨v, _, rfl, h1, RDs.append h2 k⟩
theorem RDs.at : ∀ {ds : List D} {vs : List V} {i : Nat} {d : D}, RDs G α H ds vs → ds[i]? = some d → ∃ v, vs[i]? = some v ∧ RD G α H d v
  | [], _, _, _, _, h => by simp at h
  | d :: ds, _, 0, _, ⟨v, r, e, h1, _⟩, h => by
    subst e
    simp only [List.getElem?_cons_zero, Option.some.injEq] at h
    subst h
    exact ⟨v, rfl, h1⟩
  | d :: ds, _, i + 1, _, ⟨v, r, e, _, h2⟩, h => by
    subst e
    simp only [List.getElem?_cons_succ] at h ⊢
    exact RDs.at h2 h
theorem RDs.set : ∀ {ds : List D} {vs : List V} (i : Nat) {d : D} {v : V}, RDs G α H ds vs → RD G α H d v → RDs G α H (ds.set i d) (vs.set i v)
  | [], _, _, _, _, h, _ => by cases h; exact rfl
  | d :: ds, _, 0, _, _, ⟨v, r, e, _, h2⟩, k => by subst e; exact ⟨_, r, rfl, k, h2⟩
  | d :: ds, _, i + 1, _, _, ⟨v, r, e, h1, h2⟩, k => by subst e; exact ⟨v, _, rfl, h1, RDs.set i h2 k⟩
theorem RDs.take : ∀ {ds : List D} {vs : List V} (n : Nat), RDs G α H ds vs → RDs G α H (ds.take n) (vs.take n)
  | _, _, 0, _ => by rw [List.take_zero, List.take_zero]; exact rfl
  | [], _, _ + 1, h => by cases h; exact rfl
  | d :: ds, _, n + 1, ⟨v, r, e, h1, h2⟩ => by subst e; exact ⟨v, _, rfl, h1, RDs.take n h2⟩
theorem RDs.drop : ∀ {ds : List D} {vs : List V} (n : Nat), RDs G α H ds vs → RDs G α H (ds.drop n) (vs.drop n)
  | _, _, 0, h => h
  | [], _, _ + 1, h => by cases h; exact rfl
  | d :: ds, _, n + 1, ⟨v, r, e, h1, h2⟩ => by subst e; exact RDs.drop n h2
theorem RDs.rev : ∀ {ds : List D} {vs : List V}, RDs G α H ds vs → RDs G α H ds.reverse vs.reverse
  | [], _, h => by cases h; exact rfl
  | d :: ds, _, ⟨v, r, e, h1, h2⟩ => by subst e; rw [List.reverse_cons, List.reverse_cons]; exact RDs.append (RDs.rev h2) ⟨v, [], rfl, h1, rfl⟩
end
/-! ### a new object -/
section
variable {G : Gc} {α α1 : List Lc} {H H1 H0 : Hp} {ρ : Env} {σ : L2.St} {S S1 : Store} {p : Addr} {o : HO}
theorem Post.laid (hn : H p = none) : Post α H α (upd H p o) where
  pre := List.prefix_rfl
  new := fun _ h => .inl h
  keep := fun b u h _ _ => by rw [upd_ne (ne_of_none h hn)]; exact h
  there := fun b h => by
    by_cases e : b = p
    · rw [e, upd_same]; simp
    · rw [upd_ne e]; exact h
theorem Tabs.laid {T : List (Addr × Str)} (t : LamX.Tabs T H) (hn : H p = none) : LamX.Tabs T (upd H p o) := t.ext fun b u h => by rw [upd_ne (ne_of_none h hn)]; exact h
theorem SlX.Slt.kept {H H' : Hp} {a C dx : Addr} {vs : List (Option V)} (ka : ∀ u, H a = some u → H' a = some u) (kd : ∀ u, H dx = some u → H' dx = some u) (h : SlX.Slt H a C dx vs) : SlX.Slt H' a C dx vs := by
  rcases h with ⟨h, e⟩ | ⟨h, e⟩
  · exact .inl ⟨ka _ h, e⟩
  · exact .inr ⟨ka _ h, kd _ e⟩
/-- an object of the store whose own cells stay, and all that it leans on -/
theorem RO.kept {H' : Hp} {α' : List Lc} {l : Lc} {ob : Ob} (rd : ∀ d v, RD G α H d v → RD G α' H' d v) (ka : ∀ u, H l.a = some u → H' l.a = some u) (kd : ∀ u, H l.dx = some u → H' l.dx = some u) (h : RO G α H l ob) : RO G α' H' l ob := by
  have rds : ∀ (ds : List D) (vs : List V), RDs G α H ds vs → RDs G α' H' ds vs := by
    intro ds
    induction ds with
    | nil => exact fun _ h => h
    | cons d ds ih => exact fun _ ⟨v, r, e, h1, h2⟩ => ⟨v, r, e, rd _ _ h1, ih _ h2⟩
  cases ob with
  | lst ds =>
    obtain ⟨e, vs, h1, h2⟩ := h
    exact ⟨e, vs, ka _ h1, rds _ _ h2⟩
  | dic kvs =>
    obtain ⟨e, h1⟩ := h
    refine ⟨e, ?_⟩
    rcases h1 with ⟨ys, h, r⟩ | ⟨xs, h, r⟩
    · exact .inl ⟨ys, ka _ h, paired_imp (fun a b q => ⟨q.1, rd _ _ q.2⟩) r⟩
    · refine .inr ⟨xs, ka _ h, paired_imp (fun a b q => ?_) r⟩
      obtain ⟨h1, h2, h3, h4, h5, v, h6, h7⟩ := q
      exact ⟨h1, h2, h3, h4, rd _ _ h5, v, h6, rd _ _ h7⟩
  | ins c fs =>
    obtain ⟨e, h1, vs, h2, h3⟩ := h
    exact ⟨e, h1.imp (kd _) (kd _), vs, SlX.Slt.kept ka kd h2, fun i d q => let ⟨v, q1, q2⟩ := h3 i d q; ⟨v, q1, rd _ _ q2⟩⟩
theorem RS.laid (r : RS G α H S) (hn : H p = none) : RS G α (upd H p o) S where
  len := r.len
  sep := r.sep
  obj := fun i l ob h1 h2 => (r.obj i l ob h1 h2).kept (fun d v h => h.kept r.adm (Post.laid hn)) (fun u h => by rw [upd_ne (ne_of_none h hn)]; exact h) (fun u h => by rw [upd_ne (ne_of_none h hn)]; exact h)
  tab := Tabs.laid r.tab hn
theorem Mid.laid (m : Mid G α H ρ σ α1 H1 S1) (hn : H1 p = none) : Mid G α H ρ σ α1 (upd H1 p o) S1 := ⟨m.post.trans (Post.laid hn), m.rs.laid hn, m.rl.kept m.rs.adm (Post.laid hn), m.rl0⟩
theorem Mid.no (m : Mid G α H ρ σ α1 H1 S1) (hn : H1 p = none) : ¬ inA α1 p := fun z => by
  obtain ⟨u, e, _⟩ := m.rs.adm p z
  rw [hn] at e; cases e
/-- a new list, a new tuple -/
theorem RE.newL {ds : List D} {vs : List V} (m : Mid G α H ρ σ α1 H1 S1) (hn : H1 p = none) (r : RDs G α1 H1 ds vs) : RE G α1 (upd H1 p (.lst vs)) ρ σ H (.fl ds) (.ref p) :=
  ⟨p, vs, rfl, upd_same, r.kept m.rs.adm (Post.laid hn), m.no hn, m.post.unt hn⟩
theorem RE.newT {ds : List D} {vs : List V} {ob : Obj} (m : Mid G α H ρ σ α1 H1 S1) (hn : H1 p = none) (hd : ob.dict = none) (r : RDs G α1 H1 ds vs) : RE G α1 (upd H1 p (.frz ob (.tup vs))) ρ σ H (.v (.tup ds)) (.ref p) :=
  ⟨p, vs, rfl, .inl ⟨ob, upd_same, hd⟩, r.kept m.rs.adm (Post.laid hn)⟩
end
end DL

set_option Elab.async false
set_option autoImplicit false
set_option linter.all false
set_option maxRecDepth 100000
set_option maxHeartbeats 2000000
namespace DL
open PySem PySem.Spec PyProof.Rows L2
/-! ## tuples made, their objects known -/
/-- wanted of a new tuple -/
def NewT (xs : List V) (H : Hp) (Q : VK) : Prop := ∀ (p : Addr) (o : Obj), H p = none → o.dict = none → Q (.ref p) (upd H p (.frz o (.tup xs)))
section
variable {X : Cx} {pins : List (Addr × Obj)} {σ : L2.St} {H : Hp} {s : Shared} {xs : List V} {Q : VK}
theorem NewT.done {its : List Value} (q : NewT xs H Q) (I : Inv X pins σ H s) (rv : Vals xs its) (hz : xs.length ≤ sizeLine) {t : Nat} : EP X pins σ Q (.ref s.heap.objs.size) { s with heap := s.heap.push { cls := .type "tuple", data := .seq its.toArray }, toks := t } := by
  have at1 : (s.heap.push ({ cls := .type "tuple", data := .seq its.toArray } : Obj)).get? s.heap.objs.size = some { cls := .type "tuple", data := .seq its.toArray } := Heap.get?_push_size _ rfl
  refine ⟨.ref s.heap.objs.size, _, I.laid (t' := t) (o := .frz { cls := .type "tuple", data := .seq its.toArray } (.tup xs)) (fun b u e => Heap.get?_push_of_some _ e) (Nat.le_refl _) ⟨at1, hz, its, rv, ⟨_, at1, rfl, _, rfl⟩⟩, rfl, ?_⟩
  exact q _ _ (I.hok.fresh (Nat.le_refl _)) rfl
end
section
variable {X : Cx} {pos : Pos} {es : List Expr} {t : TA}
def tTupX (t : TA) : TE := fun σ H Q => t σ H fun xs H1 => xs.length ≤ sizeLine ∧ NewT xs H1 Q
theorem pe_tupX {x1} (h : PA X es t) : PE X (.Tuple es x1 pos) (tTupX t) := by
  refine ⟨fun pins s σ H Q I hq => ?_⟩
  exact wpAny_Tuple_spliced (thn (h.run pos pins s σ H _ I hq) fun us s1 ⟨xs, H1, I1, r, z, q⟩ => ⟨by rw [← r.length]; exact z, q.done I1 r z⟩)
theorem call_tupleX : CallR X (.type "tuple") (fun xs H Q => ∃ p ys, xs = [.ref p] ∧ ((SqL X.K H p ys ∧ NewT ys H Q) ∨ (SqT X.K H p ys ∧ Q (.ref p) H))) := by
  intro pins s σ H xs us Q I r h
  obtain ⟨p, ys, rfl, h⟩ := h
  obtain ⟨u, rfl, rx⟩ := vals1 r
  cases rx
  rcases h with ⟨hq, q⟩ | ⟨hq, q⟩
  · obtain ⟨its, rv, pl, hz⟩ := I.list hq
    refine call_tuple_list pl.isList (fun h2 hk => ?_) (by rw [List.size_toArray, ← rv.length]; exact hz)
    exact NewT.done (s := { s with heap := h2 }) (t := s.toks) q (I.kept (t' := s.toks) hk) rv hz
  · obtain ⟨its, rv, pl, hz⟩ := I.tuple hq
    exact call_tuple_same pl ⟨.ref p, H, I, rfl, q⟩
variable {e : Expr} {te : L2.St → Hp → (Int → Int → Hp → Prop) → Prop} {p : Pos}
def tTupRgX (te : L2.St → Hp → (Int → Int → Hp → Prop) → Prop) : TE := fun σ H Q => te σ H fun a b H1 => RgOk a b ∧ NewT (rgV a b) H1 Q
theorem pe_tupRgX (hc : X.calm = true) (hg : Gl X "tuple") (hm : X.mg "tuple" = none) (he : PRg X e te) (na : starEach [e] X.env = (false, eval e X.env) :: starEach [] X.env := by rfl) : PE X (.Call (.Name "tuple" p) [e] [] pos) (tTupRgX te) := by
  refine ⟨fun pins s σ H Q I h => Call_ (ld_blt I hg hm boot_tuple (PyProof.Rows.callWith_type1 (args_cons (thn (he pins s σ H _ I h) fun x s1 ⟨r, a, b, t1, u, v, H1, ex, hr, I1, ok, q⟩ => args_nil ?_) na) na))⟩
  subst ex
  obtain ⟨b1, b2, b3, b4, b5⟩ := ok
  refine call_tuple_range (n := (b - a).toNat) (I1.ok.hd hc) hr (small_one b1 b2 b3 b4) (rangeSize_nat a b) b5 fun h' tk acc hk hi => ?_
  have z : (rgV a b).length ≤ sizeLine := by rw [rgV_length, sizeLine_eq]; omega
  have fin := NewT.done (s := { s1 with heap := h', toks := tk }) (t := tk) (its := acc.toList) q (I1.kept hk) (vals_rg hi) z
  rw [Array.toArray_toList] at fin
  exact fin
/-- t + u -/
def rCatX (K : PySem.W.Frag) : R2 := fun x y H Q => ∃ a b xs ys, x = .ref a ∧ y = .ref b ∧ SqT K H a xs ∧ SqT K H b ys ∧ xs.length + ys.length ≤ sizeLine ∧
  (xs = [] → Q (.ref b) H) ∧ (xs ≠ [] → ys = [] → Q (.ref a) H) ∧ (xs ≠ [] → ys ≠ [] → NewT (xs ++ ys) H Q)
theorem op_catX : OpR X (binaryOp .Add) (rCatX X.K) := by
  rintro pins s σ H x y v u Q I rx ry ⟨a, b, xs, ys, rfl, rfl, ha, hb, hz, q0, q1, q2⟩
  cases rx
  cases ry
  obtain ⟨its, r1, p1, _⟩ := I.tuple ha
  obtain ⟨its2, r2, p2, _⟩ := I.tuple hb
  by_cases hx : xs = []
  · subst hx
    cases r1
    exact cat_tup0 p1 p2 ⟨.ref b, H, I, rfl, q0 rfl⟩
  · refine HT.cat_tup p1 p2 (fun z => hx (r1.nil_iff.mp z)) (fun z => ⟨.ref a, H, I, rfl, q1 hx (r2.nil_iff.mp z)⟩) (fun z => ?_) (by rw [← r1.length, ← r2.length]; exact hz)
    exact (q2 hx fun w => z (r2.nil_iff.mpr w)).done (t := s.toks) I (r1.append r2) (by rw [List.length_append]; exact hz)
/-- t[lo:hi] -/
def rSlX (K : PySem.W.Frag) : V → Option Int → Option Int → Hp → VK → Prop := fun x lo hi H Q => ∃ a xs, x = .ref a ∧ SqT K H a xs ∧
  (HT.sIx xs.length 0 lo = 0 ∧ HT.sIx xs.length xs.length hi = xs.length → Q (.ref a) H) ∧ (¬ (HT.sIx xs.length 0 lo = 0 ∧ HT.sIx xs.length xs.length hi = xs.length) → NewT (cutV xs lo hi) H Q)
theorem sl_tupX : SlR X (rSlX X.K) := by
  rintro pins s σ H x v vl vu lo hi sl Q I rx hs pl pu ⟨a, xs, rfl, hx, q1, q2⟩
  cases rx
  obtain ⟨its, rv, ht, hz⟩ := I.tuple hx
  have hl : its.toArray.size = xs.length := by rw [List.size_toArray, ← rv.length]
  refine ⟨"tuple", _, PyProof.Rows.slot_tuple_getitem.lookup, ht.typeIs, ?_⟩
  by_cases hw : HT.sIx xs.length 0 lo = 0 ∧ HT.sIx xs.length xs.length hi = xs.length
  · exact getItem_tuple_whole ht hs pl pu (by rw [hl]; exact hw) ⟨.ref a, H, I, rfl, q1 hw⟩
  · refine HT.getItem_tuple_cut ht hs pl pu (by rw [hl]; exact hw) ?_ (by rw [hl]; exact hz)
    rw [hl]
    exact (q2 hw).done (t := s.toks) I ((rv.drop _).take _) (Nat.le_trans (cutV_length xs lo hi) hz)
end
end DL

set_option Elab.async false
set_option autoImplicit false
set_option linter.all false
set_option maxRecDepth 100000
set_option maxHeartbeats 2000000
namespace DL
open PySem PySem.Spec PyProof.Rows L2
/-- the list that may be changed -/
def asM (ρ : Env) (S : Store) : EV → Option (List D)
  | .fl ds => some ds
  | .sl i => match ρ[i]? with
    | some (some (.ol ds)) => some ds
    | _ => none
  | .v (.ref n) => match S[n]? with
    | some (.lst ds) => some ds
    | _ => none
  | _ => none
section
variable {G : Gc} {α : List Lc} {H H0 : Hp} {ρ : Env} {σ : L2.St} {S : Store} {x : V} {e : EV}
theorem asM_ok {ds : List D} (rs : RS G α H S) (rl : RL G α H ρ σ) (r : RE G α H ρ σ H0 e x) (h : asM ρ S e = some ds) : ∃ a vs, x = .ref a ∧ H a = some (.lst vs) ∧ RDs G α H ds vs := by
  cases e with
  | fl xs => cases h; obtain ⟨a, vs, e, h1, h2, _⟩ := r; exact ⟨a, vs, e, h1, h2⟩
  | fd xs => cases h
  | sl i =>
    obtain ⟨h1, s, h2, h3⟩ := r
    simp only [asM, h2] at h
    cases s with
    | ol ys =>
      cases h
      obtain ⟨y, q1, a, vs, q2, q3, q4, _⟩ := rl.val i _ h2
      rw [h1] at q1; cases q1
      exact ⟨a, vs, q2, q3, q4⟩
    | v d => cases h
    | od ys => cases h
  | v d =>
    cases d with
    | ref n =>
      obtain ⟨l, h1, h2⟩ := r
      cases hs : S[n]? with
      | none => simp only [asM, hs] at h; cases h
      | some o =>
        simp only [asM, hs] at h
        cases o with
        | lst xs =>
          cases h
          obtain ⟨_, vs, q1, q2⟩ := rs.obj n l _ h1 hs
          exact ⟨_, vs, h2, q1, q2⟩
        | dic _ => cases h
        | ins _ _ => cases h
    | _ => cases h
end
/-! ## operators by values -/
abbrev G2 := EV → EV → Env → Store → R EV
section
variable {X : Cx} {G : Gc} {pos : Pos} {a b c : Expr} {ma mb mc : ME}
theorem xe_op {op : Operator} {r : R2} {g : G2} (ho : OpR X (binaryOp op) r) (o : Op2 G r g) (ha : XE X G a ma) (hb : XE X G b mb) : XE X G (.BinOp a op b pos) (m2 g ma mb) :=
  ⟨fun W t => PE.imp (pe_op ho (ha.run W t) (hb.run W t)) fun _ _ _ h => tOp_of o h⟩
end
/-- of two ints -/
def gI (f : Int → Int → Option D) : G2 := fun a b _ S => match a, b with
  | .v (.int i), .v (.int j) => match f i j with
    | some d => .ok (.v d) S
    | none => .bad
  | _, _ => .bad
section
variable {X : Cx} {G : Gc}
theorem op2_I {C : Int → Int → Prop} {f : Int → Int → Option D} {g : Int → Int → V} (h : ∀ i j d, f i j = some d → C i j ∧ ∀ α H, RD G α H d (g i j)) : Op2 G (rI C g) (gI f) := by
  intro W α α1 H H1 ρ σ S1 e1 e2 x y Q m r1 r2 q
  unfold gI at q
  split at q
  · rename_i i j
    cases (show x = .int i from r1)
    cases (show y = .int j from r2)
    cases hf : f i j with
    | none => rw [hf] at q; exact q.elim
    | some d =>
      rw [hf] at q
      obtain ⟨h1, h2⟩ := h i j d hf
      exact ⟨i, j, rfl, rfl, h1, q α1 H1 _ m (h2 α1 H1)⟩
  · exact q.elim
theorem op2_I0 {f : Int → Int → Option D} {g : Int → Int → V} (h : ∀ i j d, f i j = some d → ∀ α H, RD G α H d (g i j)) : Op2 G (rI0 g) (gI f) := by
  intro W α α1 H H1 ρ σ S1 e1 e2 x y Q m r1 r2 q
  unfold gI at q
  split at q
  · rename_i i j
    cases (show x = .int i from r1)
    cases (show y = .int j from r2)
    cases hf : f i j with
    | none => rw [hf] at q; exact q.elim
    | some d => rw [hf] at q; exact ⟨i, j, rfl, rfl, q α1 H1 _ m (h i j d hf α1 H1)⟩
  · exact q.elim
def fSub (i j : Int) : Option D := some (.int (i - j))
def fMod (i j : Int) : Option D := if 0 < j then some (.int (i % j)) else none
def fDiv (i j : Int) : Option D := if 0 < j ∧ j.natAbs.log2 < 9000 then some (.int (i / j)) else none
def fMulI (i j : Int) : Option D := if i.natAbs.log2 + j.natAbs.log2 < 1000000 then some (.int (i * j)) else none
def fPow (i j : Int) : Option D := if 0 ≤ j ∧ j ≤ 1000 ∧ i.natAbs.log2 < 10000 then some (.int (i ^ j.toNat)) else none
theorem ite_some {P : Prop} [Decidable P] {A : Type} {a b : A} (h : (if P then some a else none) = some b) : P ∧ a = b := by
  by_cases p : P
  · rw [if_pos p] at h; cases h; exact ⟨p, rfl⟩
  · rw [if_neg p] at h; cases h
theorem op2_sub : Op2 G (rI0 fun i j => .int (i - j)) (gI fSub) := op2_I0 fun i j d h => by cases h; exact fun _ _ => rfl
theorem op2_mod : Op2 G (rI (fun _ j => 0 < j) fun i j => .int (i % j)) (gI fMod) := op2_I fun i j d h => by
  obtain ⟨p, rfl⟩ := ite_some h
  exact ⟨p, fun _ _ => rfl⟩
theorem op2_div : Op2 G (rI CDivW fun i j => .int (i / j)) (gI fDiv) := op2_I fun i j d h => by
  obtain ⟨p, rfl⟩ := ite_some h
  exact ⟨p, fun _ _ => rfl⟩
/-- a ** b -/
def CPw (i j : Int) : Prop := 0 ≤ j ∧ j ≤ 1000 ∧ i.natAbs.log2 < 10000
theorem op_powW : OpR X (binaryOp .Pow) (rI CPw fun i j => .int (i ^ j.toNat)) := opI fun i j _ _ _ _ _ hc q => by
  obtain ⟨h1, h2, h3⟩ := hc
  refine pow_int h1 ?_ q
  have b : Builtin.Int.intBits i ≤ i.natAbs.log2 + 1 := by unfold Builtin.Int.intBits; split <;> omega
  have e : (2 : Int) ^ 27 = 134217728 := by decide
  rw [e]
  have b1 : (Builtin.Int.intBits i : Int) ≤ 10000 := by omega
  have b2 : (Builtin.Int.intBits i : Int) * j ≤ 10000 * 1000 := Int.mul_le_mul b1 h2 h1 (by decide)
  omega
theorem op2_pow : Op2 G (rI CPw fun i j => .int (i ^ j.toNat)) (gI fPow) := op2_I fun i j d h => by
  obtain ⟨p, rfl⟩ := ite_some h
  exact ⟨p, fun _ _ => rfl⟩
theorem Op2.alt {r r' : R2} {g : G2} (h : ∀ (W : WX) (α α1 : List Lc) (H H1 : Hp) (ρ : Env) (σ : L2.St) (S1 : Store) (e1 e2 : EV) (x y : V) (Q : VK),
    Mid G α H ρ σ α1 H1 S1 → RE G α1 H1 ρ σ H e1 x → RE G α1 H1 ρ σ H e2 y → Gd G W α H ρ σ (g e1 e2 ρ S1) Q → r x y H1 Q ∨ r' x y H1 Q) : Op2 G (fun x y H Q => r x y H Q ∨ r' x y H Q) g := h
/-! ### a + b -/
def gAdd : G2 := fun a b ρ S => match a, b with
  | .v (.int i), .v (.int j) => .ok (.v (.int (i + j))) S
  | .v (.str i), .v (.str j) => if i.length + j.length ≤ sizeLine then .ok (.v (.str (i ++ j))) S else .bad
  | .v (.tup xs), .v (.tup ys) => if xs.length + ys.length ≤ sizeLine then .ok (.v (.tup (xs ++ ys))) S else .bad
  | a, b => match asM ρ S a, asM ρ S b with
    | some xs, some ys => if xs.length + ys.length ≤ sizeLine then .ok (.fl (xs ++ ys)) S else .bad
    | _, _ => .bad
def rAddA (K : PySem.W.Frag) : R2 := fun x y H Q => (rI0 (fun i j => .int (i + j)) x y H Q) ∨ (∃ i j, x = .str i ∧ y = .str j ∧ i.length + j.length ≤ sizeLine ∧ Q (.str (i ++ j)) H) ∨ rCatX K x y H Q ∨ rCat x y H Q
theorem op_addA : OpR X (binaryOp .Add) (rAddA X.K) := op_add.or (op_add_str.or (op_catX.or op_cat))
theorem ite_gd {P : Prop} [Decidable P] {W : WX} {α : List Lc} {H : Hp} {ρ : Env} {σ : L2.St} {r : R EV} {Q : VK} (h : Gd G W α H ρ σ (if P then r else .bad) Q) : P ∧ Gd G W α H ρ σ r Q := by
  by_cases p : P
  · rw [if_pos p] at h; exact ⟨p, h⟩
  · rw [if_neg p] at h; exact h.elim
theorem RDs.nil_iff {α : List Lc} {H : Hp} {ds : List D} {vs : List V} (r : RDs G α H ds vs) : vs = [] ↔ ds = [] := by
  have := r.len
  constructor
  · intro e; subst e; exact List.eq_nil_of_length_eq_zero (by simpa using this)
  · intro e; subst e; exact List.eq_nil_of_length_eq_zero (by simpa using this.symm)
theorem op2_addA : Op2 G (rAddA G.K) gAdd := by
  intro W α α1 H H1 ρ σ S1 e1 e2 x y Q m r1 r2 q
  unfold gAdd at q
  split at q
  · rename_i i j
    cases (show x = .int i from r1)
    cases (show y = .int j from r2)
    exact .inl ⟨i, j, rfl, rfl, q α1 H1 _ m rfl⟩
  · rename_i i j
    cases (show x = .str i from r1)
    cases (show y = .str j from r2)
    obtain ⟨p, q⟩ := ite_gd q
    exact .inr (.inl ⟨i, j, rfl, rfl, p, q α1 H1 _ m rfl⟩)
  · rename_i xs ys
    obtain ⟨p, q⟩ := ite_gd q
    obtain ⟨u, vs, rfl, h1, h2⟩ := r1
    obtain ⟨v, ws, rfl, h3, h4⟩ := r2
    refine .inr (.inr (.inl ⟨u, v, vs, ws, rfl, rfl, h1.sq, h3.sq, by rw [← h2.len, ← h4.len]; exact p, fun e => ?_, fun _ e => ?_, fun _ _ z ob hz hd => ?_⟩))
    · refine q α1 H1 _ m ⟨v, ws, rfl, h3, ?_⟩
      rw [h2.nil_iff.mp e]; exact h4
    · refine q α1 H1 _ m ⟨u, vs, rfl, h1, ?_⟩
      rw [h4.nil_iff.mp e, List.append_nil]; exact h2
    · exact q α1 _ _ (m.laid hz) (.newT m hz hd (h2.append h4))
  · cases ha : asM ρ S1 e1 with
    | none => rw [ha] at q; exact q.elim
    | some xs =>
      cases hb : asM ρ S1 e2 with
      | none => rw [ha, hb] at q; exact q.elim
      | some ys =>
        rw [ha, hb] at q
        obtain ⟨p, q⟩ := ite_gd q
        obtain ⟨u, vs, rfl, h1, h2⟩ := asM_ok m.rs m.rl r1 ha
        obtain ⟨v, ws, rfl, h3, h4⟩ := asM_ok m.rs m.rl r2 hb
        exact .inr (.inr (.inr ⟨u, v, vs, ws, rfl, rfl, h1, h3, by rw [← h2.len, ← h4.len]; exact p, fun z hz => q α1 _ _ (m.laid hz) (.newL m hz (h2.append h4))⟩))
/-! ### a * b -/
def gMul : G2 := fun a b ρ S => match a, b with
  | .v (.int i), .v (.int j) => if i.natAbs.log2 + j.natAbs.log2 < 1000000 then .ok (.v (.int (i * j))) S else .bad
  | a, .v (.int k) => match asM ρ S a with
    | some xs => if -(2 ^ 62) ≤ k ∧ k < 2 ^ 62 ∧ xs.length * k.toNat ≤ sizeLine then .ok (.fl (List.replicate k.toNat xs).flatten) S else .bad
    | none => .bad
  | _, _ => .bad
def rMulA (K : PySem.W.Frag) : R2 := fun x y H Q => (rI CMulW (fun i j => .int (i * j)) x y H Q) ∨ rRep x y H Q
theorem op_mulA : OpR X (binaryOp .Mult) (rMulA X.K) := op_mulW.or op_rep
theorem RDs.rep {α : List Lc} {H : Hp} {ds : List D} {vs : List V} (r : RDs G α H ds vs) : ∀ n : Nat, RDs G α H (List.replicate n ds).flatten (List.replicate n vs).flatten
  | 0 => rfl
  | n + 1 => by rw [List.replicate_succ, List.replicate_succ, List.flatten_cons, List.flatten_cons]; exact r.append (r.rep n)
theorem op2_mulA : Op2 G (rMulA G.K) gMul := by
  intro W α α1 H H1 ρ σ S1 e1 e2 x y Q m r1 r2 q
  unfold gMul at q
  split at q
  · rename_i i j
    cases (show x = .int i from r1)
    cases (show y = .int j from r2)
    obtain ⟨p, q⟩ := ite_gd q
    exact .inl ⟨i, j, rfl, rfl, p, q α1 H1 _ m rfl⟩
  · rename_i k _
    cases (show y = .int k from r2)
    cases ha : asM ρ S1 e1 with
    | none => simp only [ha] at q; exact q.elim
    | some xs =>
      simp only [ha] at q
      obtain ⟨⟨p1, p2, p3⟩, q⟩ := ite_gd q
      obtain ⟨u, vs, rfl, h1, h2⟩ := asM_ok m.rs m.rl r1 ha
      exact .inr ⟨u, k, vs, rfl, rfl, h1, by omega, by omega, by rw [← h2.len]; exact p3, fun z hz => q α1 _ _ (m.laid hz) (.newL m hz (h2.rep _))⟩
  · exact q.elim
end
/-! ### comparisons of data -/
def D.dp (d : D) : Nat := d.py.depth
def D.eqv (a b : D) : Bool := PyData.eqv a.py b.py
def D.lt (a b : D) : Bool := PySem.W.dataLt a.py b.py
def D.alike (a b : D) : Bool := PySem.W.alike a.py b.py
def D.some (d : D) : Bool := match d with
  | .non => false
  | _ => true
/-- a comparison by values: its answer -/
abbrev GB := EV → EV → Env → Store → Option Bool
def gEq (neg : Bool) : GB := fun a b ρ S => match a, b with
  | .v (.int i), .v (.int j) => some (neg.xor (decide (i = j)))
  | a, b => match asD ρ S a, asD ρ S b with
    | some d, some e => if (d.pure && e.pure) = true ∧ min d.dp e.dp ≤ 60 then some (neg.xor (d.eqv e)) else none
    | _, _ => none
def gOrd (f : D → D → Bool) (fi : Int → Int → Bool) : GB := fun a b ρ S => match a, b with
  | .v (.int i), .v (.int j) => some (fi i j)
  | a, b => match asD ρ S a, asD ρ S b with
    | some d, some e => if (d.pure && e.pure && d.alike e && d.some) = true ∧ min d.dp e.dp ≤ 60 then some (f d e) else none
    | _, _ => none
def OpB (G : Gc) (r : R2) (g : GB) : Prop := ∀ (α : List Lc) (H H0 : Hp) (ρ : Env) (σ : L2.St) (S : Store) (e1 e2 : EV) (x y : V) (k : Bool) (Q : VK),
  RS G α H S → RL G α H ρ σ → RE G α H ρ σ H0 e1 x → RE G α H ρ σ H0 e2 y → g e1 e2 ρ S = some k → Q (.bl k) H → r x y H Q
section
variable {X : Cx} {G : Gc}
def rEqP (K : PySem.W.Frag) (neg : Bool) : R2 := fun x y H Q => ∃ d e, Dp K H x d ∧ Dp K H y e ∧ d.plain = true ∧ e.plain = true ∧ min d.depth e.depth ≤ 60 ∧ Q (.bl (neg.xor (PyData.eqv d e))) H
theorem op_eqP (hu : X.A.units + 64 < cLine) : OpR X (compareOp .Eq) (rEqP X.K false) := by
  rintro pins s σ H x y v u Q I rx ry ⟨d, e, hd, he, sd, se, hz, q⟩
  obtain ⟨as, r1⟩ := Dp.reads I d x v hd rx
  obtain ⟨bs, r2⟩ := Dp.reads I e y u he ry
  rw [Bool.false_xor] at q
  exact SeqAt.eq_plain r1 r2 sd se (by omega) ⟨.bl _, H, I, rfl, q⟩
theorem op_neP (hu : X.A.units + 64 < cLine) : OpR X (compareOp .NotEq) (rEqP X.K true) := by
  rintro pins s σ H x y v u Q I rx ry ⟨d, e, hd, he, sd, se, hz, q⟩
  obtain ⟨as, r1⟩ := Dp.reads I d x v hd rx
  obtain ⟨bs, r2⟩ := Dp.reads I e y u he ry
  rw [Bool.true_xor] at q
  exact SeqAt.ne_plain r1 r2 sd se (by omega) ⟨.bl _, H, I, rfl, q⟩
theorem op2_eq {neg : Bool} : OpB G (rEqP G.K neg) (gEq neg) := by
  intro α H H0 ρ σ S e1 e2 x y k Q rs rl r1 r2 h q
  unfold gEq at h
  split at h
  · rename_i i j
    cases (show x = .int i from r1)
    cases (show y = .int j from r2)
    cases h
    refine ⟨.int i, .int j, .int i, .int j, rfl, rfl, (by simp [PyData.depth]), ?_⟩
    simpa only [PyData.eqv, Bool.beq_eq_decide_eq] using q
  · split at h
    · rename_i d e hd he
      obtain ⟨⟨p, hz⟩, rfl⟩ := ite_some h
      rw [Bool.and_eq_true] at p
      exact ⟨d.py, e.py, asD_ok rs rl r1 hd p.1, asD_ok rs rl r2 he p.2, d.plain, e.plain, hz, q⟩
    · cases h
def rOrd (K : PySem.W.Frag) (f : PyData → PyData → Bool) : R2 := fun x y H Q => ∃ d e, Dp K H x d ∧ Dp K H y e ∧ PySem.W.alike d e = true ∧ d ≠ .none ∧ min d.depth e.depth ≤ 60 ∧ Q (.bl (f d e)) H
theorem op_ltP (hu : X.A.units + 64 < cLine) : OpR X (compareOp .Lt) (rOrd X.K fun d e => PySem.W.dataLt d e) := by
  rintro pins s σ H x y v u Q I rx ry ⟨d, e, hd, he, sd, se, hz, q⟩
  obtain ⟨as, r1⟩ := Dp.reads I d x v hd rx
  obtain ⟨bs, r2⟩ := Dp.reads I e y u he ry
  exact PySem.W.lt_data r1 r2 sd se (by omega) ⟨.bl _, H, I, rfl, q⟩
theorem op_gtP (hu : X.A.units + 64 < cLine) : OpR X (compareOp .Gt) (rOrd X.K fun d e => PySem.W.dataLt e d) := by
  rintro pins s σ H x y v u Q I rx ry ⟨d, e, hd, he, sd, se, hz, q⟩
  obtain ⟨as, r1⟩ := Dp.reads I d x v hd rx
  obtain ⟨bs, r2⟩ := Dp.reads I e y u he ry
  exact PySem.W.gt_data r1 r2 sd se (by omega) ⟨.bl _, H, I, rfl, q⟩
theorem op_leP (hu : X.A.units + 64 < cLine) : OpR X (compareOp .LtE) (rOrd X.K fun d e => !PySem.W.dataLt e d) := by
  rintro pins s σ H x y v u Q I rx ry ⟨d, e, hd, he, sd, se, hz, q⟩
  obtain ⟨as, r1⟩ := Dp.reads I d x v hd rx
  obtain ⟨bs, r2⟩ := Dp.reads I e y u he ry
  exact PySem.W.le_data r1 r2 sd se (by omega) ⟨.bl _, H, I, rfl, q⟩
theorem op_geP (hu : X.A.units + 64 < cLine) : OpR X (compareOp .GtE) (rOrd X.K fun d e => !PySem.W.dataLt d e) := by
  rintro pins s σ H x y v u Q I rx ry ⟨d, e, hd, he, sd, se, hz, q⟩
  obtain ⟨as, r1⟩ := Dp.reads I d x v hd rx
  obtain ⟨bs, r2⟩ := Dp.reads I e y u he ry
  exact PySem.W.ge_data r1 r2 sd se (by omega) ⟨.bl _, H, I, rfl, q⟩
theorem D.py_some {d : D} (p : d.pure = true) (h : d.some = true) : d.py ≠ .none := by
  cases d with
  | non => cases h
  | ref _ => cases p
  | exc _ _ => cases p
  | _ => intro z; simp [D.py] at z
theorem op2_ord {f : PyData → PyData → Bool} {fi : Int → Int → Bool} (hf : ∀ i j, f (.int i) (.int j) = fi i j) : OpB G (rOrd G.K f) (gOrd (fun d e => f d.py e.py) fi) := by
  intro α H H0 ρ σ S e1 e2 x y k Q rs rl r1 r2 h q
  unfold gOrd at h
  split at h
  · rename_i i j
    cases (show x = .int i from r1)
    cases (show y = .int j from r2)
    cases h
    refine ⟨.int i, .int j, .int i, .int j, rfl, (by intro z; cases z), (by simp [PyData.depth]), ?_⟩
    rw [hf]
    exact q
  · split at h
    · rename_i d e hd he
      obtain ⟨⟨p, hz⟩, rfl⟩ := ite_some h
      simp only [Bool.and_eq_true] at p
      obtain ⟨⟨⟨p1, p2⟩, p3⟩, p4⟩ := p
      exact ⟨d.py, e.py, asD_ok rs rl r1 hd p1, asD_ok rs rl r2 he p2, p3, D.py_some p1 p4, hz, q⟩
    · cases h
def fiLt (i j : Int) : Bool := decide (i < j)
def fiGt (i j : Int) : Bool := decide (j < i)
def fiLe (i j : Int) : Bool := !decide (j < i)
def fiGe (i j : Int) : Bool := !decide (i < j)
abbrev gLt : GB := gOrd (fun d e => PySem.W.dataLt d.py e.py) fiLt
abbrev gGt : GB := gOrd (fun d e => PySem.W.dataLt e.py d.py) fiGt
abbrev gLe : GB := gOrd (fun d e => !PySem.W.dataLt e.py d.py) fiLe
abbrev gGe : GB := gOrd (fun d e => !PySem.W.dataLt d.py e.py) fiGe
theorem op2_lt : OpB G (rOrd G.K fun d e => PySem.W.dataLt d e) gLt := op2_ord fun i j => PySem.W.dataLt_int i j
theorem op2_gt : OpB G (rOrd G.K fun d e => PySem.W.dataLt e d) gGt := op2_ord fun i j => PySem.W.dataLt_int j i
theorem op2_le : OpB G (rOrd G.K fun d e => !PySem.W.dataLt e d) gLe := op2_ord fun i j => congrArg not (PySem.W.dataLt_int j i)
theorem op2_ge : OpB G (rOrd G.K fun d e => !PySem.W.dataLt d e) gGe := op2_ord fun i j => congrArg not (PySem.W.dataLt_int i j)
end
end DL

set_option Elab.async false
set_option autoImplicit false
set_option linter.all false
set_option maxRecDepth 100000
set_option maxHeartbeats 2000000
namespace DL
open PySem PySem.Spec PyProof.Rows L2
/-! ## dicts by values -/
def asK (ρ : Env) (S : Store) : EV → Option (List (D × D))
  | .fd kvs => some kvs
  | .sl i => match ρ[i]? with
    | some (some (.od kvs)) => some kvs
    | _ => none
  | .v (.ref n) => match S[n]? with
    | some (.dic kvs) => some kvs
    | _ => none
  | _ => none
def kGet (kvs : List (D × D)) (k : D) : Option D := (kvs.find? fun p => decide (p.1 = k)).map (·.2)
def kPut (kvs : List (D × D)) (k v : D) : List (D × D) := if (kvs.any fun p => decide (p.1 = k)) = true then kvs.map (fun p => if p.1 = k then (p.1, v) else p) else kvs ++ [(k, v)]
def kDrop (kvs : List (D × D)) (k : D) : List (D × D) := kvs.filter fun p => decide (p.1 ≠ k)
/-- what may be asked for in this dict: a number or text where all keys are such, a tuple where all are tuples -/
def kOk (kvs : List (D × D)) (k : D) : Bool := (k.leaf.isSome && kvs.all fun p => p.1.leaf.isSome) || (k.isTup && k.key && decide (k.nk.depth ≤ 8) && kvs.all fun p => p.1.isTup)
section
variable {G : Gc} {α : List Lc} {H H0 : Hp} {ρ : Env} {σ : L2.St} {S : Store} {x : V} {e : EV}
theorem asK_ok {kvs : List (D × D)} (rs : RS G α H S) (rl : RL G α H ρ σ) (r : RE G α H ρ σ H0 e x) (h : asK ρ S e = some kvs) : ∃ a, x = .ref a ∧ RDc G α H a kvs := by
  cases e with
  | fl xs => cases h
  | fd xs => cases h; obtain ⟨a, e, h1, _⟩ := r; exact ⟨a, e, h1⟩
  | sl i =>
    obtain ⟨h1, s, h2, h3⟩ := r
    simp only [asK, h2] at h
    cases s with
    | od ys =>
      cases h
      obtain ⟨y, q1, a, q2, q3, _⟩ := rl.val i _ h2
      rw [h1] at q1; cases q1
      exact ⟨a, q2, q3⟩
    | v d => cases h
    | ol ys => cases h
  | v d =>
    cases d with
    | ref n =>
      obtain ⟨l, h1, h2⟩ := r
      cases hs : S[n]? with
      | none => simp only [asK, hs] at h; cases h
      | some o =>
        simp only [asK, hs] at h
        cases o with
        | dic xs =>
          cases h
          obtain ⟨_, q1⟩ := rs.obj n l _ h1 hs
          exact ⟨_, h2, q1⟩
        | lst _ => cases h
        | ins _ _ => cases h
    | _ => cases h
end
/-! ### keys stand for themselves -/
section
variable {X : Cx} {G : Gc} {pins : List (Addr × Obj)} {α : List Lc} {H : Hp} {σ : L2.St} {s : Shared}
mutual
theorem RD.nested (I : Inv X pins σ H s) (hK : X.K = G.K) : ∀ (d : D) (v : V) (u : Value), d.key = true → RD G α H d v → RelV v u → NestedIs s.heap d.nk u
  | .non, _, _, _, h, r => by cases h; cases r; exact .none
  | .int i, _, _, _, h, r => by cases h; obtain ⟨t, rfl⟩ := r; exact .int i t
  | .str i, _, _, _, h, r => by cases h; obtain ⟨t, rfl⟩ := r; exact .text i t
  | .tup ds, _, _, k, ⟨a, vs, e, h1, h2⟩, r => by
    subst e
    cases r
    rw [← hK] at h1
    obtain ⟨its, rv, ⟨o, ho, hc, n, hd⟩, _⟩ := I.tuple h1.sq
    exact .tup ho hc hd (RDs.nested I hK ds vs its k h2 rv)
  | .bl _, _, _, k, _, _ => by cases k
  | .cl _, _, _, k, _, _ => by cases k
  | .ref _, _, _, k, _, _ => by cases k
  | .exc _ _, _, _, k, _, _ => by cases k
theorem RDs.nested (I : Inv X pins σ H s) (hK : X.K = G.K) : ∀ (ds : List D) (vs : List V) (us : List Value), D.keys ds = true → RDs G α H ds vs → Vals vs us → NestedAll s.heap (D.nks ds) us
  | [], _, _, _, h, r => by cases h; cases r; exact .nil
  | d :: ds, _, _, k, ⟨v, r', e, h1, h2⟩, r => by
    have k' : (D.key d && D.keys ds) = true := k
    rw [Bool.and_eq_true] at k'
    subst e
    cases r with
    | cons r1 r2 => exact .cons (RD.nested I hK d v _ k'.1 h1 r1) (RDs.nested I hK ds r' _ k'.2 h2 r2)
end
/-- a dict whose keys are tuples, as the library tells it -/
theorem dcO_of (I : Inv X pins σ H s) (hK : X.K = G.K) {a : Addr} {kvs : List (D × D)} {xs : List (NestedKey × Addr × Value)} (h : H a = some (DcO G.P G.w a xs)) (r : Paired (RKt G α H) kvs xs) :
    (a == sysModules) = false ∧ xs.length ≤ sizeLine ∧ s.heap.DictOfH (nestedKind G.P G.w) a xs := by
  obtain ⟨⟨h1, h2, h3, o, es, ep, q1, q2, q3, q4⟩, _, _⟩ := I.hok a _ h
  refine ⟨h1, h2, o, es, ep, q1, q2, q3, q4, ?_, h3⟩
  have all : ∀ {l : List (D × D)} {m : List (NestedKey × Addr × Value)}, Paired (RKt G α H) l m → ∀ x ∈ m, (nestedKind G.P G.w).is s.heap x.1 x.2.1 := by
    intro l m q
    induction q with
    | nil => intro x hx; exact nomatch hx
    | @cons p q ps qs hq t ih =>
      intro x hx
      rcases List.mem_cons.mp hx with e | hx
      · subst e
        obtain ⟨k1, k2, k3, k4, k5, _⟩ := hq
        rw [k4]
        exact ⟨RD.nested I hK _ _ _ k1 k5 rfl, k3⟩
      · exact ih x hx
  exact all r
/-- the empty dict is one of tuples, too -/
theorem dk_nil (I : Inv X pins σ H s) {a : Addr} (h : H a = some (.dK [])) : (a == sysModules) = false ∧ s.heap.DictOfH (nestedKind X.prog X.w) a [] := by
  obtain ⟨z, hd, vs, r, o, es, ep, q1, q2, q3, q4⟩ := dk_of I.hok h
  cases r
  have e : es.toList = [] := by
    obtain ⟨_, q5, _⟩ := q4
    generalize es.toList = l at q5
    cases q5
    rfl
  exact ⟨hd, o, es, ep, q1, q2, q3, e, (by intro _ hx; cases hx), List.nodup_nil⟩
/-! ### in, get -/
theorem kGet_none_iff {kvs : List (D × D)} {k : D} : (kGet kvs k).isSome = kvs.any fun p => decide (p.1 = k) := by
  induction kvs with
  | nil => rfl
  | cons p r ih =>
    unfold kGet at *
    by_cases e : p.1 = k
    · simp [List.find?_cons, e]
    · simp [List.find?_cons, e]
      simpa using ih
theorem kGet_pos {p : D × D} {r : List (D × D)} {k : D} (e : p.1 = k) : kGet (p :: r) k = some p.2 := by simp [kGet, List.find?_cons, e]
theorem kGet_neg {p : D × D} {r : List (D × D)} {k : D} (e : ¬ p.1 = k) : kGet (p :: r) k = kGet r k := by simp [kGet, List.find?_cons, e]
theorem leaf_inj {a b : D} {k : Key} (h1 : a.leaf = some k) (h2 : b.leaf = some k) : a = b := by
  cases a with
  | int i => cases h1; cases b with
    | int j => cases h2; rfl
    | _ => cases h2
  | str i => cases h1; cases b with
    | str j => cases h2; rfl
    | _ => cases h2
  | _ => cases h1
/-- what stands at a key that is a number or a text -/
theorem kl_get : ∀ {kvs : List (D × D)} {ys : List (Key × V)} {k : D} {q : Key}, Paired (RKl G α H) kvs ys → k.leaf = some q →
    (∃ d v, kGet kvs k = some d ∧ valV ys q = some v ∧ RD G α H d v) ∨ (kGet kvs k = none ∧ valV ys q = none)
  | _, _, _, _, .nil, _ => .inr ⟨rfl, rfl⟩
  | _, _, k, q, .cons (a := p) (b := y) r t, h => by
    by_cases e : p.1 = k
    · have e2 : y.1 = q := by
        have := r.1
        rw [e, h] at this
        exact (Option.some.inj this).symm
      exact .inl ⟨p.2, y.2, kGet_pos e, valV_pos e2, r.2⟩
    · have e2 : ¬ y.1 = q := fun z => e (leaf_inj r.1 (by rw [z]; exact h))
      rw [kGet_neg e, valV_neg e2]
      exact kl_get t h
theorem atKey_cons (p : NestedKey × Addr × Value) (r : List (NestedKey × Addr × Value)) (k : NestedKey) : atKey (p :: r) k = if p.1 = k then some p.2 else atKey r k := by
  by_cases e : p.1 = k <;> simp [atKey, e]
theorem kt_get : ∀ {kvs : List (D × D)} {ys : List (NestedKey × Addr × Value)} {k : D}, Paired (RKt G α H) kvs ys → k.key = true →
    (∃ d b u v, kGet kvs k = some d ∧ atKey ys k.nk = some (b, u) ∧ RelV v u ∧ RD G α H d v) ∨ (kGet kvs k = none ∧ atKey ys k.nk = none)
  | _, _, _, .nil, _ => .inr ⟨rfl, rfl⟩
  | _, _, k, .cons (a := p) (b := y) r t, h => by
    obtain ⟨h1, h2, h3, h4, h5, v, h6, h7⟩ := r
    rw [atKey_cons]
    by_cases e : p.1 = k
    · have e2 : y.1 = k.nk := by rw [h4, e]
      rw [if_pos e2]
      exact .inl ⟨p.2, y.2.1, y.2.2, v, kGet_pos e, rfl, h6, h7⟩
    · have e2 : ¬ y.1 = k.nk := fun z => e (D.nk_inj _ _ h1 h (by rw [← h4, z]))
      rw [kGet_neg e, if_neg e2]
      exact kt_get t h
/-- the dict of tuples that a dict is where a tuple may be asked for -/
theorem tupAt (I : Inv X pins σ H s) (hG : GOk X G) {a : Addr} {kvs : List (D × D)} (h : RDc G α H a kvs) (ht : (kvs.all fun p => p.1.isTup) = true) :
    ∃ xs, xs.length ≤ sizeLine ∧ (a == sysModules) = false ∧ s.heap.DictOfH (nestedKind X.prog X.w) a xs ∧ Paired (RKt G α H) kvs xs ∧ Mut (H a) := by
  rcases h with ⟨ys, h, r⟩ | ⟨xs, h, r⟩
  · cases r with
    | nil =>
      obtain ⟨h1, h2⟩ := dk_nil I h
      exact ⟨[], Nat.zero_le _, h1, h2, .nil, by rw [h]; trivial⟩
    | @cons p q ps qs r t =>
      rw [List.all_cons, Bool.and_eq_true] at ht
      have h2 := ht.1
      have h3 := r.1
      exact absurd h2 (by cases hp : p.1 <;> rw [hp] at h3 <;> simp_all [D.leaf, D.isTup])
  · obtain ⟨h1, h2, h3⟩ := dcO_of I hG.K h r
    rw [hG.P, hG.w]
    exact ⟨xs, h2, h1, h3, r, by rw [h]; trivial⟩
theorem leafAt (I : Inv X pins σ H s) (hG : GOk X G) {a : Addr} {kvs : List (D × D)} (h : RDc G α H a kvs) (ht : (kvs.all fun p => p.1.leaf.isSome) = true) :
    ∃ ys vs, ys.length ≤ sizeLine ∧ (a == sysModules) = false ∧ KV ys vs ∧ s.heap.DictOf (mixKind X.prog X.w) a vs ∧ Paired (RKl G α H) kvs ys ∧ Mut (H a) := by
  rcases h with ⟨ys, h, r⟩ | ⟨xs, h, r⟩
  · obtain ⟨h1, h2, vs, h3, h4⟩ := dk_of I.hok h
    exact ⟨ys, vs, h1, h2, h3, h4, r, by rw [h]; trivial⟩
  · cases r with
    | nil =>
      obtain ⟨⟨h1, h2, h3, o, es, ep, q1, q2, q3, q4⟩, _, _⟩ := I.hok a _ h
      have e : es.toList = [] := q4
      refine ⟨[], [], Nat.zero_le _, h1, .nil, ⟨o, es, ep, q1, q2, q3, fun e' he => ?_, by rw [e]; exact .nil, List.nodup_nil⟩, .nil, by rw [h]; trivial⟩
      have : e' ∈ es.toList := Array.mem_toList_iff.mpr he
      rw [e] at this
      cases this
    | @cons p q ps qs r t =>
      rw [List.all_cons, Bool.and_eq_true] at ht
      have h2 := ht.1
      have h3 := r.2.1
      exact absurd h2 (by cases hp : p.1 <;> rw [hp] at h3 <;> simp_all [D.leaf, D.isTup])
theorem leaf_kV {d : D} {k : Key} {v : V} (h : d.leaf = some k) (r : RD G α H d v) : v = kV k := by
  cases d with
  | int i => cases h; exact r
  | str i => cases h; exact r
  | _ => cases h
theorem tup_ref {d : D} {v : V} (h : d.isTup = true) (r : RD G α H d v) : ∃ b, v = .ref b := by
  cases d with
  | tup ds => obtain ⟨a, vs, e, _⟩ := r; exact ⟨a, e⟩
  | _ => cases h
theorem nestedRoom {A : Around} (hu : A.units + 64 < cLine) : (nestedKind X.prog X.w).room A.in1 := by
  show A.units + 1 + 8 < cLine
  omega
theorem kOk_cases {kvs : List (D × D)} {k : D} (h : kOk kvs k = true) : (∃ q, k.leaf = some q ∧ (kvs.all fun p => p.1.leaf.isSome) = true) ∨ (k.isTup = true ∧ k.key = true ∧ k.nk.depth ≤ 8 ∧ (kvs.all fun p => p.1.isTup) = true) := by
  unfold kOk at h
  simp only [Bool.or_eq_true, Bool.and_eq_true, decide_eq_true_eq] at h
  rcases h with ⟨h1, h2⟩ | ⟨⟨⟨h1, h2⟩, h3⟩, h4⟩
  · obtain ⟨q, e⟩ := Option.isSome_iff_exists.mp h1
    exact .inl ⟨q, e, h2⟩
  · exact .inr ⟨h1, h2, h3, h4⟩
theorem kv_val {ys : List (Key × V)} {vs : List (Key × Value)} (r : KV ys vs) (q : Key) : RelO (valV ys q) (valueAt vs q) := r.val q
variable {A : Around} {E : Value → Shared → Prop} {a : Addr} {kvs : List (D × D)} {k : D} {y : V} {u : Value}
/-- k in d -/
theorem dd_in {Q : Value → Shared → Prop} (hu : A.units + 64 < cLine) (I : Inv X pins σ H s) (hG : GOk X G) (h : RDc G α H a kvs) (hk : kOk kvs k = true) (r : RD G α H k y) (ry : RelV y u) (q : ∀ s', Inv X pins σ H s' → Q (.bool (kGet kvs k).isSome) s') :
    wpAny (model X.prog X.w) A (compareOp .In u (.ref a)) Q E s := by
  rcases kOk_cases hk with ⟨z, h1, h2⟩ | ⟨h1, h2, h3, h4⟩
  · obtain ⟨ys, vs, _, hd, rel, dd, p, _⟩ := leafAt I hG h h2
    cases leaf_kV h1 r
    refine wpAny_in_of (kV_is ry) hd dd.mapOf ?_
    rw [← (rel.val z).isSome_eq]
    rcases kl_get p h1 with ⟨d, v, e1, e2, _⟩ | ⟨e1, e2⟩ <;> (rw [e2]; rw [e1] at q; exact q _ (I.tok _))
  · obtain ⟨xs, _, hd, dd, p, _⟩ := tupAt I hG h h4
    obtain ⟨b, rfl⟩ := tup_ref h1 r
    cases (show u = Value.ref b from ry)
    refine wpAny_in_heap (nestedRoom hu) ⟨RD.nested I hG.K k _ _ h2 r rfl, h3⟩ hd dd ?_
    rcases kt_get p h2 with ⟨d, b', u', v, e1, e2, _⟩ | ⟨e1, e2⟩ <;> (rw [e2]; rw [e1] at q; exact q _ (I.tok _))
theorem dd_notIn {Q : Value → Shared → Prop} (hu : A.units + 64 < cLine) (I : Inv X pins σ H s) (hG : GOk X G) (h : RDc G α H a kvs) (hk : kOk kvs k = true) (r : RD G α H k y) (ry : RelV y u) (q : ∀ s', Inv X pins σ H s' → Q (.bool (!(kGet kvs k).isSome)) s') :
    wpAny (model X.prog X.w) A (compareOp .NotIn u (.ref a)) Q E s := by
  rcases kOk_cases hk with ⟨z, h1, h2⟩ | ⟨h1, h2, h3, h4⟩
  · obtain ⟨ys, vs, _, hd, rel, dd, p, _⟩ := leafAt I hG h h2
    cases leaf_kV h1 r
    refine wpAny_notIn_of (kV_is ry) hd dd.mapOf ?_
    rw [← (rel.val z).isSome_eq]
    rcases kl_get p h1 with ⟨d, v, e1, e2, _⟩ | ⟨e1, e2⟩ <;> (rw [e2]; rw [e1] at q; exact q _ (I.tok _))
  · obtain ⟨xs, _, hd, dd, p, _⟩ := tupAt I hG h h4
    obtain ⟨b, rfl⟩ := tup_ref h1 r
    cases (show u = Value.ref b from ry)
    refine wpAny_notIn_heap (nestedRoom hu) ⟨RD.nested I hG.K k _ _ h2 r rfl, h3⟩ hd dd ?_
    rcases kt_get p h2 with ⟨d, b', u', v, e1, e2, _⟩ | ⟨e1, e2⟩ <;> (rw [e2]; rw [e1] at q; exact q _ (I.tok _))
/-- d[k], there -/
theorem dd_get {d : D} {Q : Value → Shared → Prop} (hu : A.units + 64 < cLine) (I : Inv X pins σ H s) (hG : GOk X G) (h : RDc G α H a kvs) (hk : kOk kvs k = true) (hd : kGet kvs k = some d) (r : RD G α H k y) (ry : RelV y u)
    (q : ∀ v w s', Inv X pins σ H s' → RD G α H d v → RelV v w → Q w s') : wpAny (model X.prog X.w) A (getItem (.ref a) u) Q E s := by
  rcases kOk_cases hk with ⟨z, h1, h2⟩ | ⟨h1, h2, h3, h4⟩
  · obtain ⟨ys, vs, _, _, rel, dd, p, _⟩ := leafAt I hG h h2
    cases leaf_kV h1 r
    rcases kl_get p h1 with ⟨d', v, e1, e2, e3⟩ | ⟨e1, e2⟩
    · rw [hd] at e1; cases e1
      obtain ⟨w', hw, rw'⟩ := RelO.some_of (v := v) (o := valueAt vs z) (by rw [← e2]; exact rel.val z)
      exact wpAny_getItem_of (kV_is ry) dd.mapOf hw (q v w' _ (I.tok _) e3 rw')
    · rw [hd] at e1; cases e1
  · obtain ⟨xs, _, _, dd, p, _⟩ := tupAt I hG h h4
    obtain ⟨b, rfl⟩ := tup_ref h1 r
    cases (show u = Value.ref b from ry)
    rcases kt_get p h2 with ⟨d', b', u', v, e1, e2, e3, e4⟩ | ⟨e1, e2⟩
    · rw [hd] at e1; cases e1
      exact wpAny_getItem_heap (nestedRoom hu) ⟨RD.nested I hG.K k _ _ h2 r rfl, h3⟩ dd e2 (q v u' _ (I.tok _) e4 e3)
    · rw [hd] at e1; cases e1
/-! ### d[k] = v -/
theorem kPut_len (kvs : List (D × D)) (k v : D) : (kPut kvs k v).length ≤ kvs.length + 1 := by
  unfold kPut
  split
  · rw [List.length_map]; omega
  · rw [List.length_append]; exact Nat.le_refl _
theorem rkl_any {kvs : List (D × D)} {ys : List (Key × V)} {q : Key} (h : k.leaf = some q) : ∀ {kvs : List (D × D)} {ys : List (Key × V)}, Paired (RKl G α H) kvs ys → (kvs.any fun p => decide (p.1 = k)) = ys.any fun p => decide (p.1 = q)
  | _, _, .nil => rfl
  | _, _, .cons (a := p) (b := y) r t => by
    rw [List.any_cons, List.any_cons, rkl_any (kvs := kvs) (ys := ys) h t]
    congr 1
    by_cases e : p.1 = k
    · have e2 : y.1 = q := by have := r.1; rw [e, h] at this; exact (Option.some.inj this).symm
      rw [decide_eq_true e, decide_eq_true e2]
    · have e2 : ¬ y.1 = q := fun z => e (leaf_inj r.1 (by rw [z]; exact h))
      rw [decide_eq_false e, decide_eq_false e2]
theorem rkl_map {q : Key} {d : D} {v : V} (h : k.leaf = some q) (rd : RD G α H d v) : ∀ {kvs : List (D × D)} {ys : List (Key × V)}, Paired (RKl G α H) kvs ys →
    Paired (RKl G α H) (kvs.map fun p => if p.1 = k then (p.1, d) else p) (ys.map fun p => if p.1 = q then (p.1, v) else p)
  | _, _, .nil => .nil
  | _, _, .cons (a := p) (b := y) r t => by
    refine .cons ?_ (rkl_map h rd t)
    show RKl G α H (if p.1 = k then (p.1, d) else p) (if y.1 = q then (y.1, v) else y)
    by_cases e : p.1 = k
    · have e2 : y.1 = q := by have := r.1; rw [e, h] at this; exact (Option.some.inj this).symm
      rw [if_pos e, if_pos e2]
      exact ⟨r.1, rd⟩
    · have e2 : ¬ y.1 = q := fun z => e (leaf_inj r.1 (by rw [z]; exact h))
      rw [if_neg e, if_neg e2]
      exact r
theorem paired_snoc {A B : Type} {F : A → B → Prop} {a : A} {b : B} (h : F a b) : ∀ {l : List A} {m : List B}, Paired F l m → Paired F (l ++ [a]) (m ++ [b])
  | _, _, .nil => .cons h .nil
  | _, _, .cons r t => .cons r (paired_snoc h t)
theorem rkl_put {ys : List (Key × V)} {q : Key} {d : D} {v : V} (h : k.leaf = some q) (rd : RD G α H d v) (p : Paired (RKl G α H) kvs ys) : Paired (RKl G α H) (kPut kvs k d) (putK ys q v) := by
  unfold kPut putK
  rw [rkl_any (kvs := kvs) (ys := ys) h p]
  split
  · exact rkl_map h rd p
  · exact paired_snoc ⟨h, rd⟩ p
theorem rkt_put {ys : List (NestedKey × Addr × Value)} {d : D} {b : Addr} {v : V} {w : Value} (h1 : k.key = true) (h2 : k.isTup = true) (h3 : k.nk.depth ≤ 8) (rk : RD G α H k (.ref b)) (rw' : RelV v w) (rd : RD G α H d v) (p : Paired (RKt G α H) kvs ys) :
    Paired (RKt G α H) (kPut kvs k d) (storedH ys k.nk b w) := by
  have any : ∀ {l : List (D × D)} {m : List (NestedKey × Addr × Value)}, Paired (RKt G α H) l m → (l.any fun p => decide (p.1 = k)) = (atKey m k.nk).isSome := by
    intro l m q
    rw [← kGet_none_iff]
    rcases kt_get q h1 with ⟨_, _, _, _, e1, e2, _⟩ | ⟨e1, e2⟩ <;> rw [e1, e2] <;> rfl
  unfold kPut storedH
  rw [any p]
  split
  · rename_i hx
    clear any hx
    induction p with
    | nil => exact .nil
    | @cons p y ps ys r t ih =>
      refine .cons ?_ ih
      obtain ⟨k1, k2, k3, k4, k5, k6⟩ := r
      show RKt G α H (if p.1 = k then (p.1, d) else p) (putAt k.nk w y)
      by_cases e : p.1 = k
      · have e2 : y.1 = k.nk := by rw [k4, e]
        rw [if_pos e]
        unfold putAt
        rw [if_pos e2]
        exact ⟨k1, k2, k3, k4, k5, v, rw', rd⟩
      · have e2 : ¬ y.1 = k.nk := fun z => e (D.nk_inj _ _ k1 h1 (by rw [← k4, z]))
        rw [if_neg e]
        unfold putAt
        rw [if_neg e2]
        exact ⟨k1, k2, k3, k4, k5, k6⟩
  · exact paired_snoc ⟨h1, h2, h3, rfl, rk, v, rw', rd⟩ p
/-- d[k] = v: the dict stands anew -/
theorem dd_set {d : D} {v : V} {w : Value} {Q : Unit → Shared → Prop} (hu : A.units + 64 < cLine) (I : Inv X pins σ H s) (hG : GOk X G) (h : RDc G α H a kvs) (hk : kOk kvs k = true) (hl : kvs.length < sizeLine) (r : RD G α H k y) (ry : RelV y u) (rd : RD G α H d v) (rv : RelV v w)
    (q : ∀ o s', mutO o → Inv X pins σ (upd H a o) s' → ((∀ e x, RD G α H e x → RD G α (upd H a o) e x) → RDc G α (upd H a o) a (kPut kvs k d)) → Q () s') : wpAny (model X.prog X.w) A (setItem (.ref a) u w) Q E s := by
  have hp := kPut_len kvs k d
  rcases kOk_cases hk with ⟨z, h1, h2⟩ | ⟨h1, h2, h3, h4⟩
  · obtain ⟨ys, vs, hz, hd, rel, dd, p, mu⟩ := leafAt I hG h h2
    cases leaf_kV h1 r
    have pl := rkl_put h1 rd p
    refine wpAny_setItem_pairs (hsz := by rw [← rel.length]; exact hz) (kV_is ry) dd fun h' dd' hs => ?_
    have he : ∃ q, h'.get? a = some q := let ⟨q, _, _, hq, _⟩ := dd'; ⟨q, hq⟩
    refine q (.dK (putK ys z v)) _ trivial (d_write I mu hs he (dk_new (by rw [← Paired.length pl]; omega) hd (rel.put z rv) dd')) fun st => .inl ⟨_, upd_same, paired_imp (fun _ _ t => ⟨t.1, st _ _ t.2⟩) pl⟩
  · obtain ⟨xs, hz, hd, dd, p, mu⟩ := tupAt I hG h h4
    obtain ⟨b, rfl⟩ := tup_ref h1 r
    cases (show u = Value.ref b from ry)
    have pl := rkt_put h2 h1 h3 r rv rd p
    refine wpAny_setItem_heap (hsz := hz) (nestedRoom hu) ⟨RD.nested I hG.K k _ _ h2 r rfl, h3⟩ dd fun h' dd' hs => ?_
    obtain ⟨o, es, ep, q1, q2, q3, q4, _, q5⟩ := dd'
    rw [hG.P, hG.w] at q4
    have raw : ∀ g : Heap, g.get? a = some o → (a == sysModules) = false ∧ (storedH xs k.nk b w).length ≤ sizeLine ∧ ((storedH xs k.nk b w).map (·.1)).Nodup ∧ ∃ o es ep, g.get? a = some o ∧ o.ExactDict ∧ o.data = .dict es ep ∧ es.toList = (storedH xs k.nk b w).map (entryOfKey (nestedKind G.P G.w)) :=
      fun g e => ⟨hd, by rw [← Paired.length pl]; omega, q5, o, es, ep, e, q2, q3, q4⟩
    refine q (DcO G.P G.w a (storedH xs k.nk b w)) _ dcO_mut (d_write I mu hs ⟨o, q1⟩ ⟨raw h' q1, ⟨o, q1⟩, fun h1 h2 e st => ?_⟩) fun st => .inr ⟨_, upd_same, paired_imp (fun _ _ t => ?_) pl⟩
    · obtain ⟨e1, e2, e3, o', es', ep', w1, w2, w3, w4⟩ := e
      exact ⟨e1, e2, e3, o', es', ep', st _ w1, w2, w3, w4⟩
    · obtain ⟨k1, k2, k3, k4, k5, v, k6, k7⟩ := t
      exact ⟨k1, k2, k3, k4, st _ _ k5, v, k6, st _ _ k7⟩
end
end DL

set_option Elab.async false
set_option autoImplicit false
set_option linter.all false
set_option maxRecDepth 100000
set_option maxHeartbeats 2000000
namespace DL
open PySem PySem.Spec PyProof.Rows L2
/-! ## in, not in -/
def asSeq (ρ : Env) (S : Store) (e : EV) : Option (List D) := match e with
  | .v (.tup ds) => some ds
  | e => asL ρ S e
def gIn (neg : Bool) : GB := fun a b ρ S => match b with
  | .v (.str z) => match a with
    | .v (.str c) => match c.cps.toList with
      | [n] => some (neg.xor (decide (n ∈ z.cps.toList)))
      | _ => none
    | _ => none
  | b => match asK ρ S b with
    | some kvs => match a with
      | .v k => if kOk kvs k = true then some (neg.xor (kGet kvs k).isSome) else none
      | _ => none
    | none => match asSeq ρ S b, asD ρ S a with
      | some ds, some d => if (d.pure && D.pures ds) = true ∧ min (PyData.depthAll (D.pys ds)) d.dp ≤ 60 then some (neg.xor (ds.any fun y => y.eqv d)) else none
      | _, _ => none
section
variable {X : Cx} {G : Gc}
def rInK (G : Gc) (neg : Bool) : R2 := fun x y H Q => ∃ α a k kvs, y = .ref a ∧ RD G α H k x ∧ RDc G α H a kvs ∧ kOk kvs k = true ∧ Q (.bl (neg.xor (kGet kvs k).isSome)) H
def rInP (K : PySem.W.Frag) (neg : Bool) : R2 := fun x y H Q => ∃ p xs ds d, y = .ref p ∧ (SqL K H p xs ∨ SqT K H p xs) ∧ DpAll K H xs ds ∧ Dp K H x d ∧ PyData.plainAll ds = true ∧ d.plain = true ∧ min (PyData.depthAll ds) d.depth ≤ 60 ∧ Q (.bl (neg.xor (ds.any fun y => PyData.eqv y d))) H
def rInS (neg : Bool) : R2 := fun x y H Q => ∃ (c : Nat) (z : Str), x = .str ⟨#[c]⟩ ∧ y = .str z ∧ Q (.bl (neg.xor (decide (c ∈ z.cps.toList)))) H
def rInA (G : Gc) (neg : Bool) : R2 := fun x y H Q => rInK G neg x y H Q ∨ rInP G.K neg x y H Q ∨ rInS neg x y H Q
theorem op_inA (hu : X.A.units + 64 < cLine) (hG : GOk X G) : OpR X (compareOp .In) (rInA G false) := by
  rintro pins s σ H x y v u Q I rx ry (⟨α, a, k, kvs, rfl, h1, h2, h3, q⟩ | ⟨p, xs, ds, d, rfl, h1, h2, h3, h4, h5, h6, q⟩ | ⟨c, z, rfl, rfl, q⟩)
  · cases ry
    rw [Bool.false_xor] at q
    exact dd_in hu I hG h2 h3 h1 rx fun s' I' => ⟨.bl _, H, I', rfl, q⟩
  · rw [Bool.false_xor] at q
    rw [← hG.K] at h1 h2 h3
    obtain ⟨as, r1⟩ := Dp.reads I d x v h3 rx
    rcases h1 with h1 | h1
    · obtain ⟨bs, r2⟩ := Dp.reads I _ _ u (.lst h1 h2) ry
      exact SeqAt.in_list_data r2 r1 h4 h5 (by omega) ⟨.bl _, H, I, rfl, q⟩
    · obtain ⟨bs, r2⟩ := Dp.reads I _ _ u (.tup h1 h2) ry
      exact SeqAt.in_tuple_data r2 r1 h4 h5 (by omega) ⟨.bl _, H, I, rfl, q⟩
  · rw [Bool.false_xor] at q
    exact op_in_sign pins s σ H _ _ v u Q I rx ry ⟨c, z, rfl, rfl, q⟩
theorem op_notInA (hu : X.A.units + 64 < cLine) (hG : GOk X G) : OpR X (compareOp .NotIn) (rInA G true) := by
  rintro pins s σ H x y v u Q I rx ry (⟨α, a, k, kvs, rfl, h1, h2, h3, q⟩ | ⟨p, xs, ds, d, rfl, h1, h2, h3, h4, h5, h6, q⟩ | ⟨c, z, rfl, rfl, q⟩)
  · cases ry
    rw [Bool.true_xor] at q
    exact dd_notIn hu I hG h2 h3 h1 rx fun s' I' => ⟨.bl _, H, I', rfl, q⟩
  · rw [Bool.true_xor] at q
    rw [← hG.K] at h1 h2 h3
    obtain ⟨as, r1⟩ := Dp.reads I d x v h3 rx
    rcases h1 with h1 | h1
    · obtain ⟨bs, r2⟩ := Dp.reads I _ _ u (.lst h1 h2) ry
      exact SeqAt.notIn_list_data r2 r1 h4 h5 (by omega) ⟨.bl _, H, I, rfl, q⟩
    · obtain ⟨bs, r2⟩ := Dp.reads I _ _ u (.tup h1 h2) ry
      exact SeqAt.notIn_tuple_data r2 r1 h4 h5 (by omega) ⟨.bl _, H, I, rfl, q⟩
  · rw [Bool.true_xor] at q
    exact op_notIn_sign pins s σ H _ _ v u Q I rx ry ⟨c, z, rfl, rfl, q⟩
theorem asSeq_ok {α : List Lc} {H H0 : Hp} {ρ : Env} {σ : L2.St} {S : Store} {x : V} {e : EV} {ds : List D} (rs : RS G α H S) (rl : RL G α H ρ σ) (r : RE G α H ρ σ H0 e x) (h : asSeq ρ S e = some ds) : ∃ a vs, x = .ref a ∧ (SqL G.K H a vs ∨ SqT G.K H a vs) ∧ RDs G α H ds vs := by
  unfold asSeq at h
  split at h
  · cases h
    obtain ⟨a, vs, e, h1, h2⟩ := r
    exact ⟨a, vs, e, .inr h1.sq, h2⟩
  · obtain ⟨a, vs, e, h1, h2⟩ := asL_ok rs rl r h
    exact ⟨a, vs, e, .inl h1, h2⟩
theorem any_py (ds : List D) (d : D) : ((D.pys ds).any fun y => PyData.eqv y d.py) = ds.any fun y => y.eqv d := by
  rw [D.pys_map, List.any_map]
  rfl
theorem op2_in {neg : Bool} : OpB G (rInA G neg) (gIn neg) := by
  intro α H H0 ρ σ S e1 e2 x y k Q rs rl r1 r2 h q
  unfold gIn at h
  split at h
  · rename_i z
    cases (show y = .str z from r2)
    split at h
    · rename_i c
      cases (show x = .str c from r1)
      split at h
      · rename_i n hn
        have e : c = ⟨#[n]⟩ := by
          have : c.cps = #[n] := by apply Array.toList_inj.mp; rw [hn]
          cases c; simp_all
        cases h
        exact .inr (.inr ⟨n, z, by rw [e], rfl, q⟩)
      · cases h
    · cases h
  · split at h
    · rename_i kvs hk
      obtain ⟨a, rfl, h1⟩ := asK_ok rs rl r2 hk
      split at h
      · rename_i k
        obtain ⟨p, rfl⟩ := ite_some h
        exact .inl ⟨α, a, k, kvs, rfl, r1, h1, p, q⟩
      · cases h
    · split at h
      · rename_i ds d hs hd
        obtain ⟨⟨p, hz⟩, rfl⟩ := ite_some h
        rw [Bool.and_eq_true] at p
        obtain ⟨a, vs, rfl, h1, h2⟩ := asSeq_ok rs rl r2 hs
        refine .inr (.inl ⟨a, vs, D.pys ds, d.py, rfl, h1, RDs.dp ds vs p.2 h2, asD_ok rs rl r1 hd p.1, D.plains ds, D.plain d, hz, ?_⟩)
        rw [any_py]
        exact q
      · cases h
/-! ## is None -/
def isNonE : EV → Bool
  | .v .non => true
  | _ => false
def gIsN (neg : Bool) : GB := fun a b _ _ => match b with
  | .v .non => some (neg.xor (isNonE a))
  | _ => none
theorem RE.non_iff {α : List Lc} {H H0 : Hp} {ρ : Env} {σ : L2.St} {e : EV} {x : V} (rl : RL G α H ρ σ) (r : RE G α H ρ σ H0 e x) : decide (x = .non) = isNonE e := by
  cases e with
  | v d =>
    cases d with
    | non => cases r; rfl
    | bl _ => cases r; rfl
    | int _ => cases r; rfl
    | str _ => cases r; rfl
    | tup _ => obtain ⟨a, vs, e, _⟩ := r; subst e; rfl
    | cl _ => obtain ⟨a, vs, e, _⟩ := r; subst e; rfl
    | ref _ => obtain ⟨a, _, e⟩ := r; subst e; rfl
    | exc _ _ => obtain ⟨a, _, _, e, _⟩ := r; subst e; rfl
  | fl _ => obtain ⟨a, vs, e, _⟩ := r; subst e; rfl
  | fd _ => obtain ⟨a, e, _⟩ := r; subst e; rfl
  | sl i =>
    obtain ⟨h1, s, h2, h3⟩ := r
    obtain ⟨y, q1, q2⟩ := rl.val i s h2
    rw [h1] at q1; cases q1
    obtain ⟨a, u, e, _⟩ := q2.at h3
    subst e; rfl
def rIsN (neg : Bool) : R2 := fun x y H Q => y = .non ∧ Q (.bl (neg.xor (decide (x = .non)))) H
theorem op_isNN : OpR X (compareOp .Is) (rIsN false) := by
  rintro pins s σ H x y v u Q I rx ry ⟨h1, q⟩
  rw [Bool.false_xor] at q
  exact op_isN pins s σ H x y v u Q I rx ry ⟨h1, q⟩
theorem op_notNN : OpR X (compareOp .IsNot) (rIsN true) := by
  rintro pins s σ H x y v u Q I rx ry ⟨h1, q⟩
  rw [Bool.true_xor] at q
  exact op_notN pins s σ H x y v u Q I rx ry ⟨h1, q⟩
theorem op2_isN {neg : Bool} : OpB G (rIsN neg) (gIsN neg) := by
  intro α H H0 ρ σ S e1 e2 x y k Q rs rl r1 r2 h q
  unfold gIsN at h
  split at h
  · cases (show y = .non from r2)
    cases h
    exact ⟨rfl, by rw [r1.non_iff rl]; exact q⟩
  · cases h
end
/-! ## tests -/
section
variable {X : Cx} {G : Gc} {pos : Pos} {a b c : Expr} {ma mb mc : ME} {ta tb tc : MT}
def mB (m : ME) : MT := fun ρ S => match m ρ S with
  | .ok (.v (.bl b)) S1 => .ok b S1
  | .exc c d S1 => .exc c d S1
  | _ => .bad
theorem xt_val {e : Expr} {m : ME} (h : XE X G e m) (he : ∀ whole, isTrue e X.env whole = (do let v ← whole; standAt e.pos; holding [v] (truthy v)) := by intro _; rfl) : XT X G e (mB m) := by
  refine ⟨fun W t => PT.imp (pt_val (h.run W t) he) fun σ H Q ⟨α, ρ, S, rs, rl, g⟩ => ⟨α, ρ, S, rs, rl, ?_⟩⟩
  unfold mB at g
  cases hr : m ρ S with
  | exc c d S1 => rw [hr] at g; exact g
  | bad => rw [hr] at g; exact g
  | ok e S1 =>
    rw [hr] at g
    cases e with
    | v d =>
      cases d with
      | bl k =>
        intro α1 H1 x m1 r1
        cases (show x = .bl k from r1)
        exact ⟨k, rfl, g α1 H1 m1⟩
      | _ => exact g.elim
    | _ => exact g.elim
/-- two in a row, then a comparison -/
def mCmp (g : GB) (ma mb : ME) : MT := fun ρ S => (ma ρ S).bind fun x S1 => (mb ρ S1).bind fun y S2 => match g x y ρ S2 with
  | some k => .ok k S2
  | none => .bad
theorem cmpIn {r : R2} {g : GB} (o : OpB G r g) {W : WX} {σ : L2.St} {H : Hp} {Q : Bool → Hp → Prop} (h : tOfT G (mCmp g ma mb) W σ H Q) : tOp r (tOf G ma W) (tOf G mb W) σ H (fun x H' => ∃ k, x = .bl k ∧ Q k H') := by
  obtain ⟨α, ρ, S, rs, rl, g1⟩ := h
  have h1 := stepT (ma := ma) (.refl rs rl) g1
  have mono : ∀ {t : ME} {H : Hp} {Q Q' : VK}, tOf G t W σ H Q → (∀ b H', Q b H' → Q' b H') → tOf G t W σ H Q' := by
    rintro t H Q Q' ⟨α, ρ, S, rs, rl, g⟩ i
    refine ⟨α, ρ, S, rs, rl, ?_⟩
    cases hr : t ρ S with
    | ok b S1 => rw [hr] at g; exact fun α1 H1 x m r => i _ _ (g α1 H1 x m r)
    | exc c d S1 => rw [hr] at g; exact g
    | bad => rw [hr] at g; exact g
  refine mono h1 fun x H2 ⟨α2, S2, e1, p2, m2, r1, g2⟩ => ?_
  refine mono (stepT (ma := mb) m2 g2) fun y H3 ⟨α3, S3, e2, p3, m3, r2, g3⟩ => ?_
  cases hk : g e1 e2 ρ S3 with
  | none => simp only [hk] at g3; exact g3.elim
  | some k =>
    simp only [hk] at g3
    exact o α3 H3 H ρ σ S3 e1 e2 x y k _ m3.rs m3.rl (r1.kept m2.rs.adm p3) r2 hk ⟨k, rfl, g3 α3 H3 m3⟩
def mTV (t : MT) : ME := fun ρ S => match t ρ S with
  | .ok b S1 => .ok (.v (.bl b)) S1
  | .exc c d S1 => .exc c d S1
  | .bad => .bad
theorem tOf_tv {t : MT} {W : WX} {σ : L2.St} {H : Hp} {Q : VK} (h : tOf G (mTV t) W σ H Q) : tOfT G t W σ H (fun b H' => Q (.bl b) H') := by
  obtain ⟨α, ρ, S, rs, rl, g⟩ := h
  refine ⟨α, ρ, S, rs, rl, ?_⟩
  unfold mTV at g
  cases hr : t ρ S with
  | ok b S1 => rw [hr] at g; exact fun α1 H1 m => g α1 H1 _ m rfl
  | exc c d S1 => rw [hr] at g; exact g
  | bad => rw [hr] at g; exact g
theorem xe_cmp {op : CmpOp} {r : R2} {g : GB} (ho : OpR X (compareOp op) r) (o : OpB G r g) (ha : XE X G a ma) (hb : XE X G b mb) (hm : behindInMarks op b = false := by first | exact nomark _ | rfl) : XE X G (.Compare a [op] [b] pos) (mTV (mCmp g ma mb)) := by
  refine ⟨fun W t => ⟨fun pins s σ H Q I h => ?_⟩⟩
  have h1 := cmpIn o (tOf_tv h)
  exact thn ((pe_cmpR ho (ha.run W t) (hb.run W t) hm).run pins s σ H _ I h1) fun v s1 ⟨x, H1, I1, r1, k, e, q⟩ => ⟨x, H1, I1, r1, by rw [e]; exact q⟩
theorem xt_cmp {op : CmpOp} {r : R2} {g : GB} (ho : OpR X (compareOp op) r) (o : OpB G r g) (ha : XE X G a ma) (hb : XE X G b mb) (hm : behindInMarks op b = false := by first | exact nomark _ | rfl) : XT X G (.Compare a [op] [b] pos) (mCmp g ma mb) :=
  ⟨fun W t => PT.imp (pt_cmpR ho (ha.run W t) (hb.run W t) hm) fun σ H Q h => cmpIn o h⟩
def mNot (t : MT) : MT := fun ρ S => match t ρ S with
  | .ok b S1 => .ok (!b) S1
  | .exc c d S1 => .exc c d S1
  | .bad => .bad
theorem xt_not (h : XT X G a ta) : XT X G (.UnaryOp .Not a pos) (mNot ta) := by
  refine ⟨fun W t => PT.imp (pt_not (h.run W t)) fun σ H Q ⟨α, ρ, S, rs, rl, g⟩ => ⟨α, ρ, S, rs, rl, ?_⟩⟩
  unfold mNot at g
  cases hr : ta ρ S <;> rw [hr] at g <;> exact g
structure XW (X : Cx) (G : Gc) (e : Expr) (m : MT) : Prop where
  run : ∀ W, Takes X W → PW X e (tOfT G m W)
theorem XW.t (h : XW X G a ta) : XT X G a ta := ⟨fun W t => (h.run W t).pt⟩
theorem PW.imp {X : Cx} {e : Expr} {t t' : TT} (h : PW X e t) (i : ∀ σ H Q, t' σ H Q → t σ H Q) : PW X e t' := ⟨fun wh pins s σ H Q I q => h.run wh pins s σ H Q I (i _ _ _ q)⟩
/-- the next part of a test -/
theorem stepTT {G : Gc} {W : WX} {α α1 : List Lc} {H H1 : Hp} {ρ : Env} {σ : L2.St} {S1 : Store} {F : List Lc → Hp → Bool → Store → Prop} {k : Bool → Store → R Bool} (m : Mid G α H ρ σ α1 H1 S1) (g : Gg G W α H ρ σ ((ta ρ S1).bind k) F) :
    tOfT G ta W σ H1 (fun b H2 => ∃ α2 S2, Mid G α H ρ σ α2 H2 S2 ∧ Gg G W α H ρ σ (k b S2) F) := by
  refine ⟨α1, ρ, S1, m.rs, m.rl, ?_⟩
  cases hr : ta ρ S1 with
  | ok e S2 => rw [hr] at g; exact fun α2 H2 m2 => ⟨α2, S2, m.trans m2, g⟩
  | exc c d S2 => rw [hr] at g; exact fun α2 H2 dd v m2 h1 h2 => g α2 H2 dd v (m.trans m2) h1 h2
  | bad => rw [hr] at g; exact g
def mAnd (t u : MT) : MT := fun ρ S => (t ρ S).bind fun b S1 => if b then u ρ S1 else .ok false S1
def mOr (t u : MT) : MT := fun ρ S => (t ρ S).bind fun b S1 => if b then .ok true S1 else u ρ S1
theorem xw_and1 (h : XT X G a ta) : XW X G (.BoolOp .And [a] pos) ta := ⟨fun W t => pw_and1 (h.run W t)⟩
theorem xw_or1 (h : XT X G a ta) : XW X G (.BoolOp .Or [a] pos) ta := ⟨fun W t => pw_or1 (h.run W t)⟩
theorem tOfT_mono {G : Gc} {W : WX} {σ : L2.St} {H : Hp} {t : MT} {Q Q' : Bool → Hp → Prop} (h : tOfT G t W σ H Q) (i : ∀ b H', Q b H' → Q' b H') : tOfT G t W σ H Q' := by
  obtain ⟨α, ρ, S, rs, rl, g⟩ := h
  refine ⟨α, ρ, S, rs, rl, ?_⟩
  cases hr : t ρ S with
  | ok b S1 => rw [hr] at g; exact fun α1 H1 m => i _ _ (g α1 H1 m)
  | exc c d S1 => rw [hr] at g; exact g
  | bad => rw [hr] at g; exact g
theorem xw_and {rest : List Expr} (h : XT X G a ta) (k : XW X G (.BoolOp .And (b :: rest) pos) tb) : XW X G (.BoolOp .And (a :: b :: rest) pos) (mAnd ta tb) := by
  refine ⟨fun W t => PW.imp (pw_and (h.run W t) (k.run W t)) fun σ H Q ⟨α, ρ, S, rs, rl, g⟩ => ?_⟩
  refine tOfT_mono (stepTT (ta := ta) (.refl rs rl) g) fun b' H2 ⟨α2, S2, m2, g2⟩ => ?_
  cases b' with
  | true =>
    refine (if_pos rfl).mpr ⟨α2, ρ, S2, m2.rs, m2.rl, ?_⟩
    have g3 : Gg G W α H ρ σ (tb ρ S2) _ := g2
    cases hr : tb ρ S2 with
    | ok b S1 => rw [hr] at g3; exact fun α1 H1 m => g3 α1 H1 (m2.trans m)
    | exc c d S1 => rw [hr] at g3; exact fun α1 H1 dd v m h1 h2 => g3 α1 H1 dd v (m2.trans m) h1 h2
    | bad => rw [hr] at g3; exact g3
  | false => exact (if_neg Bool.false_ne_true).mpr (g2 α2 H2 m2)
theorem xw_or {rest : List Expr} (h : XT X G a ta) (k : XW X G (.BoolOp .Or (b :: rest) pos) tb) : XW X G (.BoolOp .Or (a :: b :: rest) pos) (mOr ta tb) := by
  refine ⟨fun W t => PW.imp (pw_or (h.run W t) (k.run W t)) fun σ H Q ⟨α, ρ, S, rs, rl, g⟩ => ?_⟩
  refine tOfT_mono (stepTT (ta := ta) (.refl rs rl) g) fun b' H2 ⟨α2, S2, m2, g2⟩ => ?_
  cases b' with
  | false =>
    refine (if_neg Bool.false_ne_true).mpr ⟨α2, ρ, S2, m2.rs, m2.rl, ?_⟩
    have g3 : Gg G W α H ρ σ (tb ρ S2) _ := g2
    cases hr : tb ρ S2 with
    | ok b S1 => rw [hr] at g3; exact fun α1 H1 m => g3 α1 H1 (m2.trans m)
    | exc c d S1 => rw [hr] at g3; exact fun α1 H1 dd v m h1 h2 => g3 α1 H1 dd v (m2.trans m) h1 h2
    | bad => rw [hr] at g3; exact g3
  | true => exact (if_pos rfl).mpr (g2 α2 H2 m2)
/-! ## values of and, or, not; a if t else b -/
theorem tOf_mono {G : Gc} {W : WX} {σ : L2.St} {H : Hp} {t : ME} {Q Q' : VK} (h : tOf G t W σ H Q) (i : ∀ b H', Q b H' → Q' b H') : tOf G t W σ H Q' := by
  obtain ⟨α, ρ, S, rs, rl, g⟩ := h
  refine ⟨α, ρ, S, rs, rl, ?_⟩
  cases hr : t ρ S with
  | ok b S1 => rw [hr] at g; exact fun α1 H1 x m r => i _ _ (g α1 H1 x m r)
  | exc c d S1 => rw [hr] at g; exact g
  | bad => rw [hr] at g; exact g
/-- what is left of an expression, begun anew -/
theorem tOf_go {G : Gc} {W : WX} {α α2 : List Lc} {H H2 : Hp} {ρ : Env} {σ : L2.St} {S2 : Store} {t : ME} {Q : VK} (m : Mid G α H ρ σ α2 H2 S2) (g : Gd G W α H ρ σ (t ρ S2) Q) : tOf G t W σ H2 Q := by
  refine ⟨α2, ρ, S2, m.rs, m.rl, ?_⟩
  cases hr : t ρ S2 with
  | ok b S1 => rw [hr] at g; exact fun α1 H1 x m1 r => g α1 H1 x (m.trans m1) (r.back m.post)
  | exc c d S1 => rw [hr] at g; exact fun α1 H1 dd v m1 h1 h2 => g α1 H1 dd v (m.trans m1) h1 h2
  | bad => rw [hr] at g; exact g
def mIfE (t : MT) (ma mb : ME) : ME := fun ρ S => match t ρ S with
  | .ok true S1 => ma ρ S1
  | .ok false S1 => mb ρ S1
  | .exc c d S1 => .exc c d S1
  | .bad => .bad
theorem xe_if (hc : XT X G c tc) (ha : XE X G a ma) (hb : XE X G b mb) : XE X G (.IfExp c a b pos) (mIfE tc ma mb) := by
  refine ⟨fun W t => PE.imp (pe_ifExp (hc.run W t) (ha.run W t) (hb.run W t)) fun σ H Q ⟨α, ρ, S, rs, rl, g⟩ => ?_⟩
  refine ⟨α, ρ, S, rs, rl, ?_⟩
  unfold mIfE at g
  cases hr : tc ρ S with
  | exc c d S1 => rw [hr] at g; exact g
  | bad => rw [hr] at g; exact g
  | ok k S1 =>
    rw [hr] at g
    intro α1 H1 m1
    cases k with
    | true => exact (if_pos rfl).mpr (tOf_go m1 g)
    | false => exact (if_neg Bool.false_ne_true).mpr (tOf_go m1 g)
def mAndV (ma mb : ME) : ME := fun ρ S => (ma ρ S).bind fun e S1 => match e with
  | .v (.bl true) => mb ρ S1
  | .v (.bl false) => .ok (.v (.bl false)) S1
  | _ => .bad
def mOrV (ma mb : ME) : ME := fun ρ S => (ma ρ S).bind fun e S1 => match e with
  | .v (.bl false) => mb ρ S1
  | .v (.bl true) => .ok (.v (.bl true)) S1
  | _ => .bad
def mNotV (ma : ME) : ME := fun ρ S => (ma ρ S).bind fun e S1 => match e with
  | .v (.bl b) => .ok (.v (.bl (!b))) S1
  | _ => .bad
theorem xe_one {op} (h : XE X G a ma) : XE X G (.BoolOp op [a] pos) ma := ⟨fun W t => pe_one (h.run W t)⟩
theorem xe_and {rest : List Expr} (h : XE X G a ma) (k : XE X G (.BoolOp .And (b :: rest) pos) mb) : XE X G (.BoolOp .And (a :: b :: rest) pos) (mAndV ma mb) := by
  refine ⟨fun W t => PE.imp (pe_and (h.run W t) (k.run W t)) fun σ H Q ⟨α, ρ, S, rs, rl, g⟩ => ?_⟩
  refine tOf_mono (step (ma := ma) (.refl rs rl) g) fun x H2 ⟨α2, S2, e, p2, m2, r2, g2⟩ => ?_
  split at g2
  · cases (show x = .bl true from r2); exact ⟨true, rfl, (if_pos rfl).mpr (tOf_go m2 g2)⟩
  · cases (show x = .bl false from r2); exact ⟨false, rfl, (if_neg Bool.false_ne_true).mpr (g2 α2 H2 _ m2 rfl)⟩
  · exact g2.elim
theorem xe_or {rest : List Expr} (h : XE X G a ma) (k : XE X G (.BoolOp .Or (b :: rest) pos) mb) : XE X G (.BoolOp .Or (a :: b :: rest) pos) (mOrV ma mb) := by
  refine ⟨fun W t => PE.imp (pe_or (h.run W t) (k.run W t)) fun σ H Q ⟨α, ρ, S, rs, rl, g⟩ => ?_⟩
  refine tOf_mono (step (ma := ma) (.refl rs rl) g) fun x H2 ⟨α2, S2, e, p2, m2, r2, g2⟩ => ?_
  split at g2
  · cases (show x = .bl false from r2); exact ⟨false, rfl, (if_neg Bool.false_ne_true).mpr (tOf_go m2 g2)⟩
  · cases (show x = .bl true from r2); exact ⟨true, rfl, (if_pos rfl).mpr (g2 α2 H2 _ m2 rfl)⟩
  · exact g2.elim
theorem xe_not (h : XE X G a ma) : XE X G (.UnaryOp .Not a pos) (mNotV ma) := by
  refine ⟨fun W t => PE.imp (pe_not (h.run W t)) fun σ H Q ⟨α, ρ, S, rs, rl, g⟩ => ?_⟩
  refine tOf_mono (step (ma := ma) (.refl rs rl) g) fun x H2 ⟨α2, S2, e, p2, m2, r2, g2⟩ => ?_
  split at g2
  · rename_i b; cases (show x = .bl b from r2); exact ⟨b, rfl, g2 α2 H2 _ m2 rfl⟩
  · exact g2.elim
def mNeg (ma : ME) : ME := fun ρ S => (ma ρ S).bind fun e S1 => match e with
  | .v (.int i) => .ok (.v (.int (-i))) S1
  | _ => .bad
theorem xe_neg (h : XE X G a ma) : XE X G (.UnaryOp .USub a pos) (mNeg ma) := by
  refine ⟨fun W t => PE.imp (pe_un un_neg (h.run W t)) fun σ H Q ⟨α, ρ, S, rs, rl, g⟩ => ?_⟩
  refine tOf_mono (step (ma := ma) (.refl rs rl) g) fun x H2 ⟨α2, S2, e, p2, m2, r2, g2⟩ => ?_
  split at g2
  · rename_i b; cases (show x = .int b from r2); exact ⟨b, rfl, g2 α2 H2 _ m2 rfl⟩
  · exact g2.elim
/-! ## a < b < c -/
def mChain (g g' : GB) (ma mb mc : ME) : MT := fun ρ S => (ma ρ S).bind fun x S1 => (mb ρ S1).bind fun y S2 => match g x y ρ S2 with
  | some true => (mc ρ S2).bind fun u S3 => match g' y u ρ S3 with
    | some k => .ok k S3
    | none => .bad
  | some false => .ok false S2
  | none => .bad
theorem chainIn {r r' : R2} {g g' : GB} (o : OpB G r g) (o' : OpB G r' g') {W : WX} {σ : L2.St} {H : Hp} {Q : Bool → Hp → Prop} (h : tOfT G (mChain g g' ma mb mc) W σ H Q) :
    tChain r r' (tOf G ma W) (tOf G mb W) (tOf G mc W) σ H (fun x H' => ∃ k, x = .bl k ∧ Q k H') := by
  obtain ⟨α, ρ, S, rs, rl, g1⟩ := h
  refine tOf_mono (stepT (ma := ma) (.refl rs rl) g1) fun x H2 ⟨α2, S2, e1, p2, m2, r1, g2⟩ => ?_
  refine tOf_mono (stepT (ma := mb) m2 g2) fun y H3 ⟨α3, S3, e2, p3, m3, r2, g3⟩ => ?_
  cases hk : g e1 e2 ρ S3 with
  | none => simp only [hk] at g3; exact g3.elim
  | some k =>
    refine o α3 H3 H ρ σ S3 e1 e2 x y k _ m3.rs m3.rl (r1.kept m2.rs.adm p3) r2 hk ⟨k, rfl, ?_⟩
    simp only [hk] at g3
    cases k with
    | false => exact (if_neg Bool.false_ne_true).mpr ⟨false, rfl, g3 α3 H3 m3⟩
    | true =>
      refine (if_pos rfl).mpr (tOf_mono (stepT (ma := mc) m3 g3) fun z H4 ⟨α4, S4, e3, p4, m4, r3, g4⟩ => ?_)
      cases hk2 : g' e2 e3 ρ S4 with
      | none => simp only [hk2] at g4; exact g4.elim
      | some k2 =>
        simp only [hk2] at g4
        exact o' α4 H4 H ρ σ S4 e2 e3 y z k2 _ m4.rs m4.rl (r2.kept m3.rs.adm p4) r3 hk2 ⟨k2, rfl, g4 α4 H4 m4⟩
theorem xt_chain {op op' : CmpOp} {r r' : R2} {g g' : GB} (ho : OpR X (compareOp op) r) (ho' : OpR X (compareOp op') r') (o : OpB G r g) (o' : OpB G r' g') (ha : XE X G a ma) (hb : XE X G b mb) (hc : XE X G c mc)
    (hm : lastMarks [op, op'] [b, c] = false := by with_unfolding_all rfl) : XT X G (.Compare a [op, op'] [b, c] pos) (mChain g g' ma mb mc) :=
  ⟨fun W t => PT.imp (pt_chain ho ho' (ha.run W t) (hb.run W t) (hc.run W t) hm) fun σ H Q h => chainIn o o' h⟩
theorem xe_chain {op op' : CmpOp} {r r' : R2} {g g' : GB} (ho : OpR X (compareOp op) r) (ho' : OpR X (compareOp op') r') (o : OpB G r g) (o' : OpB G r' g') (ha : XE X G a ma) (hb : XE X G b mb) (hc : XE X G c mc)
    (hm : lastMarks [op, op'] [b, c] = false := by with_unfolding_all rfl) : XE X G (.Compare a [op, op'] [b, c] pos) (mTV (mChain g g' ma mb mc)) := by
  refine ⟨fun W t => ⟨fun pins s σ H Q I h => ?_⟩⟩
  have h1 := chainIn o o' (tOf_tv h)
  exact thn ((pe_chain ho ho' (ha.run W t) (hb.run W t) (hc.run W t) hm).run pins s σ H _ I h1) fun v s1 ⟨x, H1, I1, r1, k, e, q⟩ => ⟨x, H1, I1, r1, by rw [e]; exact q⟩
end
end DL

set_option Elab.async false
set_option autoImplicit false
set_option linter.all false
set_option maxRecDepth 100000
set_option maxHeartbeats 2000000
namespace DL
open PySem PySem.Spec PyProof.Rows L2
/-! ## subscripts -/
section
variable {X : Cx} {G : Gc} {pos : Pos} {a b c : Expr} {ma mb mc : ME}
theorem RDs.atI {α : List Lc} {H : Hp} {ds : List D} {vs : List V} {i : Int} {d : D} (r : RDs G α H ds vs) (h : L2.atI ds i = some d) : ∃ v, L2.atI vs i = some v ∧ RD G α H d v := by
  unfold L2.atI at h ⊢
  rw [← r.len]
  cases hn : ixN ds.length i with
  | none => rw [hn] at h; cases h
  | some j =>
    rw [hn] at h
    exact RDs.at r h
def gIx : G2 := fun a b ρ S => match asK ρ S a with
  | some kvs => match b with
    | .v k => if kOk kvs k = true then match kGet kvs k with
      | some d => .ok (.v d) S
      | none => .bad
      else .bad
    | _ => .bad
  | none => match a with
    | .v (.str z) => match asI b with
      | some i => if z.length ≤ sizeLine then match atI z.cps.toList i with
        | some c => .ok (.v (.str ⟨#[c]⟩)) S
        | none => .bad
        else .bad
      | none => .bad
    | a => match asSeq ρ S a, asI b with
      | some ds, some i => match atI ds i with
        | some d => .ok (.v d) S
        | none => .bad
      | _, _ => .bad
def rIxK (G : Gc) : R2 := fun x y H Q => ∃ α a k kvs d, x = .ref a ∧ RD G α H k y ∧ RDc G α H a kvs ∧ kOk kvs k = true ∧ kGet kvs k = some d ∧ ∀ v, RD G α H d v → Q v H
theorem rdc_typeIs {pins : List (Addr × Obj)} {α : List Lc} {H : Hp} {σ : L2.St} {s : Shared} {a : Addr} {kvs : List (D × D)} (I : Inv X pins σ H s) (h : RDc G α H a kvs) : ∃ o es ep, s.heap.get? a = some o ∧ o.ExactDict ∧ o.data = .dict es ep := by
  rcases h with ⟨ys, h, _⟩ | ⟨xs, h, _⟩
  · obtain ⟨_, _, vs, _, o, es, ep, q1, q2, q3, _⟩ := dk_of I.hok h
    exact ⟨o, es, ep, q1, q2, q3⟩
  · obtain ⟨⟨_, _, _, o, es, ep, q1, q2, q3, _⟩, _, _⟩ := I.hok a _ h
    exact ⟨o, es, ep, q1, q2, q3⟩
theorem ix_dict (hu : X.A.units + 64 < cLine) (hG : GOk X G) : IxR X (rIxK G) := by
  rintro value slice pins s σ H x y v u Q I rx ry ⟨α, a, k, kvs, d, rfl, h1, h2, h3, h4, q⟩ hs
  cases rx
  obtain ⟨o, _, _, q1, q2, _⟩ := rdc_typeIs I h2
  have hT : s.TypeIs (.ref a) "dict" := ⟨o, q1, q2.1⟩
  have h₂ := dd_get (A := X.A) (E := X.xe) (Q := EP X pins σ Q) hu I hG h2 h3 h4 h1 ry fun v w s' I' r1 r2 => ⟨v, H, I', r2, q v r1⟩
  unfold subscriptTail
  refine wpAny_bind ?_
  rw [getitemInPython_of_ne hT.not_modules]
  refine wpAny_bind (wpAny_specialOf hT PySem.F.slot_dict_getitem.lookup ?_)
  have fin : wpAny (model X.prog X.w) X.A (subscripted slice false (.ref a) u) (fun r s₃ => wpAny (model X.prog X.w) X.A (letTemporaryGo value (.ref a) r >>= fun _ => pure r) (EP X pins σ Q) X.xe s₃) X.xe s := by
    rw [hs]
    exact wpAny_operating (wpAny_mono h₂ (fun r s₃ h₃ => wpAny_bind (wpAny_letTemporaryGo (wpAny_pure h₃))) fun _ _ x => x)
  first
    | exact wpAny_pure (wpAny_bind fin)
    | exact wpAny_bind (wpAny_pure (wpAny_bind fin))
    | exact wpAny_bind fin
def rIxA (G : Gc) : R2 := fun x y H Q => rIxK G x y H Q ∨ rIx G.K x y H Q
theorem ix_all (hu : X.A.units + 64 < cLine) (hG : GOk X G) : IxR X (rIxA G) := by
  have h := (ix_dict (X := X) hu hG).or ix_seq
  unfold rIxA
  rw [← hG.K]
  exact h
theorem op2_ix : Op2 G (rIxA G) gIx := by
  intro W α α1 H H1 ρ σ S1 e1 e2 x y Q m r1 r2 q
  unfold gIx at q
  split at q
  · rename_i kvs hk
    obtain ⟨a, rfl, h1⟩ := asK_ok m.rs m.rl r1 hk
    split at q
    · rename_i k
      obtain ⟨p, q⟩ := ite_gd q
      cases hd : kGet kvs k with
      | none => rw [hd] at q; exact q.elim
      | some d =>
        rw [hd] at q
        exact .inl ⟨α1, a, k, kvs, d, rfl, r2, h1, p, hd, fun v rv => q α1 H1 v m rv⟩
    · exact q.elim
  · split at q
    · rename_i z _
      cases (show x = .str z from r1)
      cases hi : asI e2 with
      | none => rw [hi] at q; exact q.elim
      | some i =>
        rw [hi] at q
        obtain ⟨p, q⟩ := ite_gd q
        cases asI_ok r2 hi
        cases hc : atI z.cps.toList i with
        | none => rw [hc] at q; exact q.elim
        | some c => rw [hc] at q; exact .inr (.inr (.inr ⟨z, i, c, rfl, rfl, p, hc, q α1 H1 _ m rfl⟩))
    · split at q
      · rename_i ds i hs hi
        cases asI_ok r2 hi
        cases hd : atI ds i with
        | none => rw [hd] at q; exact q.elim
        | some d =>
          rw [hd] at q
          obtain ⟨a, vs, rfl, h1, h2⟩ := asSeq_ok m.rs m.rl r1 hs
          obtain ⟨v, h3, h4⟩ := h2.atI hd
          have fin := q α1 H1 v m h4
          rcases h1 with h1 | h1
          · exact .inr (.inl ⟨a, vs, i, v, rfl, rfl, h1, h3, fin⟩)
          · exact .inr (.inr (.inl ⟨a, vs, i, v, rfl, rfl, h1, h3, fin⟩))
      · exact q.elim
theorem xe_ix (hu : X.A.units + 64 < cLine) (hG : GOk X G) (ha : XE X G a ma) (hb : XE X G b mb) (hs : PlainIx b := by exact fun _ _ => rfl) : XE X G (.Subscript a b pos) (m2 gIx ma mb) :=
  ⟨fun W t => PE.imp (pe_ix (ix_all hu hG) (ha.run W t) (hb.run W t) hs) fun _ _ _ h => tOp_of op2_ix h⟩
/-! ### slices -/
abbrev MO := Env → Store → R (Option Int)
def tOfO (G : Gc) (m : MO) (W : WX) : TO := fun σ H Q => ∃ α ρ S, RS G α H S ∧ RL G α H ρ σ ∧ Gg G W α H ρ σ (m ρ S) fun _ H' b _ => Q b H'
structure XO (X : Cx) (G : Gc) (e : Option Expr) (m : MO) : Prop where
  run : ∀ W, Takes X W → PO X e (tOfO G m W)
theorem PO.imp {X : Cx} {e : Option Expr} {t t' : TO} (h : PO X e t) (i : ∀ σ H Q, t' σ H Q → t σ H Q) : PO X e t' := ⟨fun pins s σ H Q I q => h.run pins s σ H Q I (i _ _ _ q)⟩
def mNoPart : MO := fun _ S => .ok none S
def mPart (m : ME) : MO := fun ρ S => (m ρ S).bind fun e S1 => match asI e with
  | some i => .ok (some i) S1
  | none => .bad
theorem xo_none : XO X G none mNoPart := ⟨fun W t => PO.imp po_none fun σ H Q ⟨α, ρ, S, rs, rl, g⟩ => g α H (.refl rs rl)⟩
theorem xo_some (h : XE X G a ma) : XO X G (some a) (mPart ma) := by
  refine ⟨fun W t => PO.imp (po_some (h.run W t)) fun σ H Q ⟨α, ρ, S, rs, rl, g⟩ => ?_⟩
  refine tOf_mono (stepT (ma := ma) (.refl rs rl) g) fun x H2 ⟨α2, S2, e, p2, m2, r2, g2⟩ => ?_
  cases hi : asI e with
  | none => simp only [hi] at g2; exact g2.elim
  | some i =>
    simp only [hi] at g2
    exact ⟨i, asI_ok r2 hi, g2 α2 H2 m2⟩
def cutD (xs : List D) (lo hi : Option Int) : List D := (xs.drop (HT.sIx xs.length 0 lo)).take (HT.sIx xs.length xs.length hi - HT.sIx xs.length 0 lo)
def gCut (lo hi : Option Int) (e : EV) (ρ : Env) (S : Store) : R EV := match e with
  | .v (.str z) => if z.length ≤ sizeLine then .ok (.v (.str (cutS z lo hi))) S else .bad
  | .v (.tup ds) => .ok (.v (.tup (cutD ds lo hi))) S
  | e => match asL ρ S e with
    | some ds => .ok (.fl (cutD ds lo hi)) S
    | none => .bad
def mSlice (m : ME) (l h : MO) : ME := fun ρ S => (m ρ S).bind fun e S1 => match l ρ S1 with
  | .ok lo S2 => match h ρ S2 with
    | .ok hi S3 => gCut lo hi e ρ S3
    | .exc c d S3 => .exc c d S3
    | .bad => .bad
  | .exc c d S2 => .exc c d S2
  | .bad => .bad
def rSlAll (K : PySem.W.Frag) : V → Option Int → Option Int → Hp → VK → Prop := fun x lo hi H Q => rSlL K x lo hi H Q ∨ rSlX K x lo hi H Q ∨ rSlS x lo hi H Q
theorem sl_all : SlR X (rSlAll X.K) := sl_list.or (sl_tupX.or sl_str)
theorem RDs.cut {α : List Lc} {H : Hp} {ds : List D} {vs : List V} (r : RDs G α H ds vs) (lo hi : Option Int) : RDs G α H (cutD ds lo hi) (cutV vs lo hi) := by
  unfold cutD cutV
  rw [r.len]
  exact RDs.take _ (RDs.drop _ r)
theorem stepO {G : Gc} {W : WX} {α α1 : List Lc} {H H1 : Hp} {ρ : Env} {σ : L2.St} {S1 : Store} {mo : MO} {k : Option Int → Store → R EV} {Q : VK} (m : Mid G α H ρ σ α1 H1 S1)
    (g : Gd G W α H ρ σ (match mo ρ S1 with | .ok b S2 => k b S2 | .exc c d S2 => .exc c d S2 | .bad => .bad) Q) :
    tOfO G mo W σ H1 (fun o H2 => ∃ α2 S2, Post α1 H1 α2 H2 ∧ Mid G α H ρ σ α2 H2 S2 ∧ Gd G W α H ρ σ (k o S2) Q) := by
  refine ⟨α1, ρ, S1, m.rs, m.rl, ?_⟩
  cases hr : mo ρ S1 with
  | ok e S2 => rw [hr] at g; exact fun α2 H2 m2 => ⟨α2, S2, m2.post, m.trans m2, g⟩
  | exc c d S2 => rw [hr] at g; exact fun α2 H2 dd v m2 h1 h2 => g α2 H2 dd v (m.trans m2) h1 h2
  | bad => rw [hr] at g; exact g
theorem tOfO_mono {G : Gc} {W : WX} {σ : L2.St} {H : Hp} {t : MO} {Q Q' : Option Int → Hp → Prop} (h : tOfO G t W σ H Q) (i : ∀ b H', Q b H' → Q' b H') : tOfO G t W σ H Q' := by
  obtain ⟨α, ρ, S, rs, rl, g⟩ := h
  refine ⟨α, ρ, S, rs, rl, ?_⟩
  cases hr : t ρ S with
  | ok b S1 => rw [hr] at g; exact fun α1 H1 m => i _ _ (g α1 H1 m)
  | exc c d S1 => rw [hr] at g; exact g
  | bad => rw [hr] at g; exact g
theorem gCut_of {G : Gc} {W : WX} {α α4 : List Lc} {H H4 : Hp} {ρ : Env} {σ : L2.St} {S4 : Store} {e1 : EV} {x : V} {lo hi : Option Int} {Q : VK} (m4 : Mid G α H ρ σ α4 H4 S4) (r4 : RE G α4 H4 ρ σ H e1 x)
    (g4 : Gd G W α H ρ σ (gCut lo hi e1 ρ S4) Q) : rSlAll G.K x lo hi H4 Q := by
  unfold gCut at g4
  split at g4
  · rename_i z
    cases (show x = .str z from r4)
    obtain ⟨p, g4⟩ := ite_gd g4
    exact .inr (.inr ⟨z, rfl, p, g4 α4 H4 _ m4 rfl⟩)
  · rename_i ds
    obtain ⟨u, vs, rfl, h1, h2⟩ := r4
    refine .inr (.inl ⟨u, vs, rfl, h1.sq, fun ⟨q1, q2⟩ => ?_, fun _ p ob hp hd => ?_⟩)
    · refine g4 α4 H4 _ m4 ⟨u, vs, rfl, h1, ?_⟩
      have e : cutV vs lo hi = vs := by unfold cutV; rw [q1, q2, List.drop_zero, Nat.sub_zero, List.take_length]
      have := h2.cut lo hi
      rw [e] at this
      exact this
    · exact g4 α4 _ _ (m4.laid hp) (.newT m4 hp hd (h2.cut lo hi))
  · cases hL : asL ρ S4 e1 with
    | none => simp only [hL] at g4; exact g4.elim
    | some ds =>
      simp only [hL] at g4
      obtain ⟨u, vs, rfl, h1, h2⟩ := asL_ok m4.rs m4.rl r4 hL
      exact .inl ⟨u, vs, rfl, h1, fun p hp => g4 α4 _ _ (m4.laid hp) (.newL m4 hp (h2.cut lo hi))⟩
theorem xe_slice {lo hi : Option Expr} {ml mh : MO} {p2 : Pos} (hG : GOk X G) (ha : XE X G a ma) (hl : XO X G lo ml) (hh : XO X G hi mh) : XE X G (.Subscript a (.Slice lo hi none p2) pos) (mSlice ma ml mh) := by
  refine ⟨fun W t => PE.imp (pe_slice sl_all (ha.run W t) (hl.run W t) (hh.run W t)) fun σ H Q ⟨α, ρ, S, rs, rl, g⟩ => ?_⟩
  refine tOf_mono (step (ma := ma) (.refl rs rl) g) fun x H2 ⟨α2, S2, e1, p2, m2, r1, g2⟩ => ?_
  refine tOfO_mono (stepO (mo := ml) (k := fun lo S2 => match mh ρ S2 with | .ok hi S3 => gCut lo hi e1 ρ S3 | .exc c d S3 => .exc c d S3 | .bad => .bad) m2 g2) fun lo H3 ⟨α3, S3, p3, m3, g3⟩ => ?_
  refine tOfO_mono (stepO (mo := mh) (k := fun hi S3 => gCut lo hi e1 ρ S3) m3 g3) fun hi H4 ⟨α4, S4, p4, m4, g4⟩ => ?_
  rw [hG.K]
  exact gCut_of m4 ((r1.kept m2.rs.adm p3).kept m3.rs.adm p4) g4
end
end DL

set_option Elab.async false
set_option autoImplicit false
set_option linter.all false
set_option maxRecDepth 100000
set_option maxHeartbeats 2000000
namespace DL
open PySem PySem.Spec PyProof.Rows L2
/-! ## argument lists -/
/-- the address of a new list or dict -/
def tad : EV → V → Option Addr
  | .fl _, .ref a => some a
  | .fd _, .ref a => some a
  | _, _ => none
def tads : List EV → List V → List Addr
  | e :: es, x :: xs => (tad e x).toList ++ tads es xs
  | _, _ => []
def REs (G : Gc) (α : List Lc) (H : Hp) (ρ : Env) (σ : L2.St) (H0 : Hp) : List EV → List V → Prop
  | [], xs => xs = []
  | e :: es, xs => ∃ x r, xs = x :: r ∧ RE G α H ρ σ H0 e x ∧ (∀ a, tad e x = some a → a ∉ tads es r) ∧ REs G α H ρ σ H0 es r
section
variable {G : Gc} {W : WX} {α α1 α2 : List Lc} {H H1 H2 H0 : Hp} {ρ : Env} {σ : L2.St} {S S1 : Store}
theorem tad_at {e : EV} {x : V} {a : Addr} (r : RE G α H ρ σ H0 e x) (h : tad e x = some a) : x = .ref a ∧ ¬ inA α a ∧ H0 a = none ∧ ∃ o, H a = some o := by
  cases e with
  | v d => cases h
  | sl i => cases h
  | fl ds =>
    obtain ⟨b, vs, rfl, h1, _, h2, h3⟩ := r
    cases h
    exact ⟨rfl, h2, h3, _, h1⟩
  | fd ds =>
    obtain ⟨b, rfl, h1, h2, h3⟩ := r
    cases h
    obtain ⟨o, q, _⟩ := h1.there
    exact ⟨rfl, h2, h3, o, q⟩
theorem REs.kept (hA : Adm α H) (p : Post α H α1 H1) : ∀ {es : List EV} {xs : List V}, REs G α H ρ σ H0 es xs → REs G α1 H1 ρ σ H0 es xs
  | [], _, h => h
  | _ :: _, _, ⟨x, r, e, h1, h2, h3⟩ => ⟨x, r, e, h1.kept hA p, h2, h3.kept hA p⟩
theorem REs.back (p : Post α H α1 H1) : ∀ {es : List EV} {xs : List V}, REs G α2 H2 ρ σ H1 es xs → REs G α2 H2 ρ σ H es xs
  | [], _, h => h
  | _ :: _, _, ⟨x, r, e, h1, h2, h3⟩ => ⟨x, r, e, h1.back p, h2, h3.back p⟩
theorem REs.at0 : ∀ {es : List EV} {xs : List V} {a : Addr}, REs G α H ρ σ H0 es xs → a ∈ tads es xs → H0 a = none
  | [], _, _, h, m => by cases h; cases m
  | e :: es, _, a, ⟨x, r, q, h1, h2, h3⟩, m => by
    subst q
    rcases List.mem_append.mp m with m | m
    · rw [Option.mem_toList] at m
      exact (tad_at h1 m).2.2.1
    · exact REs.at0 h3 m
end
abbrev MA := Env → Store → R (List EV)
def Ga (G : Gc) (W : WX) (α : List Lc) (H : Hp) (ρ : Env) (σ : L2.St) (r : R (List EV)) (Q : List V → Hp → Prop) : Prop := match r with
  | .ok es S' => ∀ α' H' xs, Mid G α H ρ σ α' H' S' → REs G α' H' ρ σ H es xs → Q xs H'
  | .exc c d S' => ∀ α' H' dd v, Mid G α H ρ σ α' H' S' → H' dd = some (.xd [("value", v)]) → RD G α' H' d v → W (.ref (G.cls c)) (some dd) σ H'
  | .bad => False
def tOfA (G : Gc) (m : MA) (W : WX) : TA := fun σ H Q => ∃ α ρ S, RS G α H S ∧ RL G α H ρ σ ∧ Ga G W α H ρ σ (m ρ S) Q
structure XA (X : Cx) (G : Gc) (es : List Expr) (m : MA) : Prop where
  run : ∀ W, Takes X W → PA X es (tOfA G m W)
theorem PA.imp {X : Cx} {es : List Expr} {t t' : TA} (h : PA X es t) (i : ∀ σ H Q, t' σ H Q → t σ H Q) : PA X es t' := ⟨fun pos pins s σ H Q I q => h.run pos pins s σ H Q I (i _ _ _ q)⟩
theorem tOfA_mono {G : Gc} {W : WX} {σ : L2.St} {H : Hp} {t : MA} {Q Q' : List V → Hp → Prop} (h : tOfA G t W σ H Q) (i : ∀ b H', Q b H' → Q' b H') : tOfA G t W σ H Q' := by
  obtain ⟨α, ρ, S, rs, rl, g⟩ := h
  refine ⟨α, ρ, S, rs, rl, ?_⟩
  cases hr : t ρ S with
  | ok b S1 => rw [hr] at g; exact fun α1 H1 x m r => i _ _ (g α1 H1 x m r)
  | exc c d S1 => rw [hr] at g; exact g
  | bad => rw [hr] at g; exact g
section
variable {G : Gc} {W : WX} {α α1 : List Lc} {H H1 : Hp} {ρ : Env} {σ : L2.St} {S1 : Store}
/-- the arguments, then what is left (of whatever kind C) -/
theorem stepA {C : Type} {F : R C → Prop} {ma : MA} {k : List EV → Store → R C} (m : Mid G α H ρ σ α1 H1 S1)
    (fx : ∀ c d S2 α2 H2 dd v, F (.exc c d S2) → Mid G α H ρ σ α2 H2 S2 → H2 dd = some (.xd [("value", v)]) → RD G α2 H2 d v → W (.ref (G.cls c)) (some dd) σ H2) (fb : F .bad → False) (g : F ((ma ρ S1).bind k)) :
    tOfA G ma W σ H1 (fun xs H2 => ∃ α2 S2 es, Post α1 H1 α2 H2 ∧ Mid G α H ρ σ α2 H2 S2 ∧ REs G α2 H2 ρ σ H1 es xs ∧ F (k es S2)) := by
  refine ⟨α1, ρ, S1, m.rs, m.rl, ?_⟩
  cases hr : ma ρ S1 with
  | ok e S2 => rw [hr] at g; exact fun α2 H2 x m2 r => ⟨α2, S2, e, m2.post, m.trans m2, r, g⟩
  | exc c d S2 => rw [hr] at g; exact fun α2 H2 dd v m2 h1 h2 => fx c d S2 α2 H2 dd v g (m.trans m2) h1 h2
  | bad => rw [hr] at g; exact fb g
/-- an expression, then what is left (of whatever kind C) -/
theorem stepE {C : Type} {F : R C → Prop} {ma : ME} {k : EV → Store → R C} (m : Mid G α H ρ σ α1 H1 S1)
    (fx : ∀ c d S2 α2 H2 dd v, F (.exc c d S2) → Mid G α H ρ σ α2 H2 S2 → H2 dd = some (.xd [("value", v)]) → RD G α2 H2 d v → W (.ref (G.cls c)) (some dd) σ H2) (fb : F .bad → False) (g : F ((ma ρ S1).bind k)) :
    tOf G ma W σ H1 (fun x H2 => ∃ α2 S2 e, Post α1 H1 α2 H2 ∧ Mid G α H ρ σ α2 H2 S2 ∧ RE G α2 H2 ρ σ H e x ∧ F (k e S2)) := by
  refine ⟨α1, ρ, S1, m.rs, m.rl, ?_⟩
  cases hr : ma ρ S1 with
  | ok e S2 => rw [hr] at g; exact fun α2 H2 x m2 r => ⟨α2, S2, e, m2.post, m.trans m2, r.back m.post, g⟩
  | exc c d S2 => rw [hr] at g; exact fun α2 H2 dd v m2 h1 h2 => fx c d S2 α2 H2 dd v g (m.trans m2) h1 h2
  | bad => rw [hr] at g; exact fb g
end
def mNilA : MA := fun _ S => .ok [] S
def mConsA (m : ME) (r : MA) : MA := fun ρ S => (m ρ S).bind fun e S1 => (r ρ S1).bind fun es S2 => .ok (e :: es) S2
def mStarA (m : ME) (r : MA) : MA := fun ρ S => (m ρ S).bind fun e S1 => match asSeq ρ S1 e with
  | some ds => (r ρ S1).bind fun es S2 => .ok (ds.map EV.v ++ es) S2
  | none => .bad
section
variable {X : Cx} {G : Gc} {pos : Pos} {e : Expr} {es : List Expr} {m : ME} {r : MA}
theorem xa_nil : XA X G [] mNilA := ⟨fun W t => PA.imp pa_nil fun σ H Q ⟨α, ρ, S, rs, rl, g⟩ => g α H [] (.refl rs rl) rfl⟩
theorem xa_cons (h : XE X G e m) (k : XA X G es r) (hs : starEach (e :: es) X.env = (false, eval e X.env) :: starEach es X.env := by rfl) : XA X G (e :: es) (mConsA m r) := by
  refine ⟨fun W t => PA.imp (pa_cons (h.run W t) (k.run W t) hs) fun σ H Q ⟨α, ρ, S, rs, rl, g⟩ => ?_⟩
  refine tOf_mono (stepE (F := fun z => Ga G W α H ρ σ z Q) (ma := m) (.refl rs rl) (fun c d S2 α2 H2 dd v g m h1 h2 => g α2 H2 dd v m h1 h2) (fun g => g) g) fun x H2 ⟨α2, S2, e1, p2, m2, r1, g2⟩ => ?_
  refine tOfA_mono (stepA (F := fun z => Ga G W α H ρ σ z Q) (ma := r) m2 (fun c d S2 α2 H2 dd v g m h1 h2 => g α2 H2 dd v m h1 h2) (fun g => g) g2) fun xs H3 ⟨α3, S3, es1, p3, m3, r3, g3⟩ => ?_
  refine g3 α3 H3 (x :: xs) m3 ⟨x, xs, rfl, r1.kept m2.rs.adm p3, fun a ha hm => ?_, r3.back m2.post⟩
  obtain ⟨_, _, _, o, q⟩ := tad_at r1 ha
  have z := r3.at0 hm
  rw [q] at z; cases z
theorem REs.vals {α : List Lc} {H H0 : Hp} {ρ : Env} {σ : L2.St} : ∀ {ds : List D} {vs : List V} {es : List EV} {xs : List V}, RDs G α H ds vs → REs G α H ρ σ H0 es xs → REs G α H ρ σ H0 (ds.map EV.v ++ es) (vs ++ xs)
  | [], _, _, _, h, k => by cases h; exact k
  | d :: ds, _, _, _, ⟨v, r, e, h1, h2⟩, k => by subst e; exact ⟨v, _, rfl, h1, (by intro a z; cases z), REs.vals h2 k⟩
theorem star_of {pins : List (Addr × Obj)} {σ : L2.St} {H : Hp} {s : Shared} {a : Addr} {vs : List V} {E : Value → Shared → Prop} {Q : List Value → Shared → Prop} (I : Inv X pins σ H s) (h : SqL X.K H a vs ∨ SqT X.K H a vs)
    (q : ∀ us s', Inv X pins σ H s' → Vals vs us → Q us s') : PySem.W.StarOf (model X.prog X.w) X.A E (.ref a) Q s := by
  have go : ∀ (T : String) (o : Obj) (its : List Value) (n : Nat), (T = "list" ∨ T = "tuple") → s.heap.get? a = some o → o.cls = .type T → o.data = .seq its.toArray n → Vals vs its → vs.length ≤ sizeLine → (typeLookup (.type T) "__iter__" = pure (some (.builtin (T ++ ".__iter__")))) → PySem.W.StarOf (model X.prog X.w) X.A E (.ref a) Q s := by
    intro T o its n hT h1 h2 h3 rv hz hl
    unfold PySem.W.StarOf notIterableAtAll
    refine wpAny_bind (wpAny_specialOf ⟨o, h1, h2⟩ hl ?_)
    refine wpAny_pure ⟨rfl, wpAny_collect_seq a hT h1 h2 h3 (fun h' k => q _ _ (I.kept (t' := s.toks) k) (by simpa using rv)) (by rw [List.size_toArray, ← rv.length]; exact hz)⟩
  rcases h with h | h
  · obtain ⟨its, rv, ⟨o, n, h1, h2, h3, h4⟩, hz⟩ := I.list h
    exact go "list" o its n (.inl rfl) h1 h2 h4 rv hz PySem.F.slot_list_iter.lookup
  · obtain ⟨its, rv, ⟨o, h1, h2, n, h3⟩, hz⟩ := I.tuple h
    exact go "tuple" o its n (.inr rfl) h1 h2 h3 rv hz PySem.F.slot_tuple_iter.lookup
/-- *e, .. -/
def tStarA (K : PySem.W.Frag) (te : TE) (t : TA) : TA := fun σ H Q => te σ H fun x H1 => ∃ a vs, x = .ref a ∧ (SqL K H1 a vs ∨ SqT K H1 a vs) ∧ t σ H1 fun xs H2 => Q (vs ++ xs) H2
theorem pa_star {te : TE} {t : TA} {p : Pos} (h : PE X e te) (k : PA X es t) (hs : starEach (.Starred e p :: es) X.env = (true, eval e X.env) :: starEach es X.env := by rfl) : PA X (.Starred e p :: es) (tStarA X.K te t) := by
  refine ⟨fun pos pins s σ H Q I hq => ?_⟩
  rw [hs]
  show wpAny _ _ (spliced ((true, (do let v ← eval e X.env; standAt pos; pure v)) :: backTo pos (starEach es X.env))) _ _ s
  refine PySem.W.ks_spliced (thn (h.run pins s σ H _ I hq) fun u s1 ⟨x, H1, I1, r1, a, vs, ex, hsq, q1⟩ => ?_)
  subst ex
  cases r1
  refine star_of I1 hsq fun us s2 I2 rv => ?_
  exact thn (k.run pos pins s2 σ H1 _ I2 q1) fun ws s3 ⟨xs, H2, I3, r3, q3⟩ => ⟨vs ++ xs, H2, I3, rv.append r3, q3⟩
theorem xa_star {p : Pos} (hG : GOk X G) (h : XE X G e m) (k : XA X G es r) (hs : starEach (.Starred e p :: es) X.env = (true, eval e X.env) :: starEach es X.env := by rfl) : XA X G (.Starred e p :: es) (mStarA m r) := by
  refine ⟨fun W t => PA.imp (pa_star (h.run W t) (k.run W t) hs) fun σ H Q ⟨α, ρ, S, rs, rl, g⟩ => ?_⟩
  refine tOf_mono (stepE (F := fun z => Ga G W α H ρ σ z Q) (ma := m) (.refl rs rl) (fun c d S2 α2 H2 dd v g m h1 h2 => g α2 H2 dd v m h1 h2) (fun g => g) g) fun x H2 ⟨α2, S2, e1, p2, m2, r1, g2⟩ => ?_
  cases hL : asSeq ρ S2 e1 with
  | none => simp only [hL] at g2; exact g2.elim
  | some ds =>
    simp only [hL] at g2
    obtain ⟨a, vs, rfl, h1, h2⟩ := asSeq_ok m2.rs m2.rl r1 hL
    refine ⟨a, vs, rfl, by rw [hG.K]; exact h1, ?_⟩
    refine tOfA_mono (stepA (F := fun z => Ga G W α H ρ σ z Q) (ma := r) m2 (fun c d S2 α2 H2 dd v g m h1 h2 => g α2 H2 dd v m h1 h2) (fun g => g) g2) fun xs H3 ⟨α3, S3, es1, p3, m3, r3, g3⟩ => ?_
    exact g3 α3 H3 _ m3 (REs.vals (h2.kept m2.rs.adm p3) (r3.back m2.post))
end
/-! ### new lists go to the store -/
def pub : List EV → Store → Option (List D × Store)
  | [], S => some ([], S)
  | .v d :: r, S => match pub r S with
    | some (ds, S1) => some (d :: ds, S1)
    | none => none
  | .fl xs :: r, S => match pub r (S ++ [.lst xs]) with
    | some (ds, S1) => some (.ref S.length :: ds, S1)
    | none => none
  | .fd xs :: r, S => match pub r (S ++ [.dic xs]) with
    | some (ds, S1) => some (.ref S.length :: ds, S1)
    | none => none
  | .sl _ :: _, _ => none
section
variable {G : Gc} {W : WX} {α α1 α2 : List Lc} {H H1 H0 : Hp} {ρ : Env} {σ : L2.St} {S S1 : Store}
mutual
theorem RD.grow (p : α <+: α1) : ∀ (d : D) (v : V), RD G α H d v → RD G α1 H d v
  | .non, _, h => h
  | .bl _, _, h => h
  | .int _, _, h => h
  | .str _, _, h => h
  | .tup ds, _, ⟨a, vs, e, h1, h2⟩ => ⟨a, vs, e, h1, RDs.grow p ds vs h2⟩
  | .cl ds, _, ⟨a, vs, e, h1, h2⟩ => ⟨a, vs, e, h1, RDs.grow p ds vs h2⟩
  | .ref n, _, ⟨l, e, h⟩ => ⟨l, by obtain ⟨t, rfl⟩ := p; rw [List.getElem?_append_left (List.getElem?_eq_some_iff.mp e).1]; exact e, h⟩
  | .exc c d, _, ⟨a, dx, w, e, h1, h2, h3⟩ => ⟨a, dx, w, e, h1, h2, RD.grow p d w h3⟩
theorem RDs.grow (p : α <+: α1) : ∀ (ds : List D) (vs : List V), RDs G α H ds vs → RDs G α1 H ds vs
  | [], _, h => h
  | d :: ds, _, ⟨v, r, e, h1, h2⟩ => ⟨v, r, e, RD.grow p d v h1, RDs.grow p ds r h2⟩
end
theorem RDc.grow {a : Addr} {kvs : List (D × D)} (p : α <+: α1) (h : RDc G α H a kvs) : RDc G α1 H a kvs := by
  rcases h with ⟨ys, h, r⟩ | ⟨xs, h, r⟩
  · exact .inl ⟨ys, h, paired_imp (fun _ _ q => ⟨q.1, RD.grow p _ _ q.2⟩) r⟩
  · refine .inr ⟨xs, h, paired_imp (fun a b q => ?_) r⟩
    obtain ⟨h1, h2, h3, h4, h5, v, h6, h7⟩ := q
    exact ⟨h1, h2, h3, h4, RD.grow p _ _ h5, v, h6, RD.grow p _ _ h7⟩
theorem RO.grow {l : Lc} {o : Ob} (p : α <+: α1) (h : RO G α H l o) : RO G α1 H l o := h.kept (fun d v q => RD.grow p d v q) (fun _ q => q) (fun _ q => q)
theorem inA_snoc {l : Lc} {b : Addr} (h : inA (α ++ [l]) b) : inA α b ∨ b = l.a ∨ b = l.dx := by
  obtain ⟨k, hk, hb⟩ := h
  rcases List.mem_append.mp hk with hk | hk
  · exact .inl ⟨k, hk, hb⟩
  · rw [List.mem_singleton] at hk
    subst hk
    exact .inr hb
/-- one more object in the store: an object that nothing of ours is -/
theorem RS.snoc {l : Lc} {o : Ob} (r : RS G α H S) (h : RO G (α ++ [l]) H l o) (n1 : ¬ inA α l.a) (n2 : ¬ inA α l.dx) : RS G (α ++ [l]) H (S ++ [o]) where
  len := by rw [List.length_append, List.length_append, r.len]; rfl
  sep := fun i j li lj b hi hj h1 h2 => by
    have at_ : ∀ (i : Nat) (li : Lc), (α ++ [l])[i]? = some li → α[i]? = some li ∨ (i = α.length ∧ li = l) := fun i li hi => by
      by_cases hl : i < α.length
      · rw [List.getElem?_append_left hl] at hi; exact .inl hi
      · rw [List.getElem?_append_right (by omega)] at hi
        have : i - α.length = 0 := by
          have := (List.getElem?_eq_some_iff.mp hi).1
          simpa using this
        rw [this] at hi
        cases hi
        exact .inr ⟨by omega, rfl⟩
    rcases at_ i li hi with q1 | ⟨q1, rfl⟩
    · rcases at_ j lj hj with q2 | ⟨q2, rfl⟩
      · exact r.sep i j li lj b q1 q2 h1 h2
      · have : inA α b := ⟨li, List.mem_of_getElem? q1, h1⟩
        rcases h2 with rfl | rfl
        · exact (n1 this).elim
        · exact (n2 this).elim
    · rcases at_ j lj hj with q2 | ⟨q2, rfl⟩
      · have : inA α b := ⟨lj, List.mem_of_getElem? q2, h2⟩
        rcases h1 with rfl | rfl
        · exact (n1 this).elim
        · exact (n2 this).elim
      · rw [q1, q2]
  obj := fun i k ob hi ho => by
    by_cases hl : i < α.length
    · rw [List.getElem?_append_left hl] at hi
      rw [List.getElem?_append_left (by rw [← r.len]; exact hl)] at ho
      exact (r.obj i k ob hi ho).grow (List.prefix_append _ _)
    · rw [List.getElem?_append_right (by omega)] at hi
      rw [List.getElem?_append_right (by rw [← r.len]; omega)] at ho
      have e : i - α.length = 0 := by
        have := (List.getElem?_eq_some_iff.mp hi).1
        simpa using this
      have e2 : i - S.length = 0 := by rw [← r.len]; exact e
      rw [e] at hi
      rw [e2] at ho
      cases hi; cases ho
      exact h
  tab := r.tab
theorem RSV.grow {s : SV} {x : V} {l : Lc} (h : RSV G α H s x) (n : ∀ a, s.own = true → x = .ref a → a ≠ l.a ∧ a ≠ l.dx) : RSV G (α ++ [l]) H s x := by
  have no : ∀ a, s.own = true → x = .ref a → ¬ inA α a → ¬ inA (α ++ [l]) a := fun a o e k z => by
    rcases inA_snoc z with z | z | z
    · exact k z
    · exact (n a o e).1 z
    · exact (n a o e).2 z
  cases s with
  | v d => exact RD.grow (List.prefix_append _ _) _ _ h
  | ol ds => obtain ⟨a, vs, e, h1, h2, h3⟩ := h; exact ⟨a, vs, e, h1, RDs.grow (List.prefix_append _ _) _ _ h2, no a rfl e h3⟩
  | od ds => obtain ⟨a, e, h1, h3⟩ := h; exact ⟨a, e, h1.grow (List.prefix_append _ _), no a rfl e h3⟩
theorem RL.grow {l : Lc} (r : RL G α H ρ σ) (n : ∀ (i : Nat) (s : SV) (a : Addr), ρ[i]? = some (some s) → s.own = true → σ[i]? = some (some (.ref a)) → a ≠ l.a ∧ a ≠ l.dx) : RL G (α ++ [l]) H ρ σ :=
  ⟨r.len, fun i s h => let ⟨x, h1, h2⟩ := r.val i s h; ⟨x, h1, h2.grow fun a o e => n i s a h o (by rw [h1, e])⟩, r.sep⟩
/-- a slot's own object was tracked ahead -/
theorem RL.own_at {i : Nat} {s : SV} {a : Addr} (r : RL G α H ρ σ) (h : ρ[i]? = some (some s)) (o : s.own = true) (e : σ[i]? = some (some (.ref a))) : ∃ u, H a = some u := by
  obtain ⟨x, h1, h2⟩ := r.val i s h
  obtain ⟨b, u, e2, h3, _⟩ := h2.at o
  rw [h1] at e
  cases e
  cases e2
  exact ⟨u, h3⟩
/-- a new list or dict goes to the store -/
theorem Mid.snoc {a : Addr} {o : Ob} (m : Mid G α H ρ σ α1 H1 S1) (h : RO G (α1 ++ [⟨a, a⟩]) H1 ⟨a, a⟩ o) (n : ¬ inA α1 a) (h0 : H a = none) : Mid G α H ρ σ (α1 ++ [⟨a, a⟩]) H1 (S1 ++ [o]) where
  post := ⟨m.post.pre.trans (List.prefix_append _ _), fun b hb => by
    rcases inA_snoc hb with z | z | z
    · exact m.post.new b z
    · exact .inr (by rw [z]; exact h0)
    · exact .inr (by rw [z]; exact h0), m.post.keep, m.post.there⟩
  rs := m.rs.snoc h n n
  rl := m.rl.grow fun i s b h1 h2 h3 => by
    obtain ⟨u, q⟩ := m.rl0.own_at h1 h2 h3
    have : b ≠ a := fun z => by rw [z, h0] at q; cases q
    exact ⟨this, this⟩
  rl0 := m.rl0
theorem RE.snoc {e : EV} {x : V} {l : Lc} (r : RE G α H ρ σ H0 e x) (n : ∀ a, tad e x = some a → a ≠ l.a ∧ a ≠ l.dx) : RE G (α ++ [l]) H ρ σ H0 e x := by
  cases e with
  | v d => exact RD.grow (List.prefix_append _ _) _ _ r
  | sl i => exact r
  | fl ds =>
    obtain ⟨a, vs, rfl, h1, h2, h3, h4⟩ := r
    refine ⟨a, vs, rfl, h1, RDs.grow (List.prefix_append _ _) _ _ h2, fun z => ?_, h4⟩
    rcases inA_snoc z with z | z | z
    · exact h3 z
    · exact (n a rfl).1 z
    · exact (n a rfl).2 z
  | fd ds =>
    obtain ⟨a, rfl, h1, h3, h4⟩ := r
    refine ⟨a, rfl, h1.grow (List.prefix_append _ _), fun z => ?_, h4⟩
    rcases inA_snoc z with z | z | z
    · exact h3 z
    · exact (n a rfl).1 z
    · exact (n a rfl).2 z
theorem REs.snoc {l : Lc} : ∀ {es : List EV} {xs : List V}, REs G α H ρ σ H0 es xs → (l.a ∉ tads es xs ∧ l.dx ∉ tads es xs) → REs G (α ++ [l]) H ρ σ H0 es xs
  | [], _, h, _ => h
  | e :: es, _, ⟨x, r, q, h1, h2, h3⟩, n => by
    subst q
    have n1 : l.a ∉ (tad e x).toList ++ tads es r := n.1
    have n2 : l.dx ∉ (tad e x).toList ++ tads es r := n.2
    rw [List.mem_append, not_or] at n1 n2
    refine ⟨x, r, rfl, h1.snoc fun a ha => ⟨fun z => n1.1 (by rw [← z, Option.mem_toList]; exact ha), fun z => n2.1 (by rw [← z, Option.mem_toList]; exact ha)⟩, h2, REs.snoc h3 ⟨n1.2, n2.2⟩⟩
theorem pub_ok : ∀ {es : List EV} {xs : List V} {α1 : List Lc} {S1 S2 : Store} {ds : List D}, Mid G α H ρ σ α1 H1 S1 → REs G α1 H1 ρ σ H es xs → pub es S1 = some (ds, S2) → ∃ α2, α1 <+: α2 ∧ Mid G α H ρ σ α2 H1 S2 ∧ RDs G α2 H1 ds xs
  | [], _, α1, _, _, _, m, h, p => by cases h; cases p; exact ⟨α1, List.prefix_rfl, m, rfl⟩
  | .v d :: es, _, α1, S1, S2, ds, m, ⟨x, r, q, h1, h2, h3⟩, p => by
    subst q
    unfold pub at p
    cases hp : pub es S1 with
    | none => rw [hp] at p; cases p
    | some z =>
      obtain ⟨ds', S'⟩ := z
      rw [hp] at p
      cases p
      obtain ⟨α2, pre, m2, r2⟩ := pub_ok m h3 hp
      exact ⟨α2, pre, m2, x, r, rfl, RD.grow pre _ _ h1, r2⟩
  | .fl ys :: es, _, α1, S1, S2, ds, m, ⟨x, r, q, h1, h2, h3⟩, p => by
    subst q
    unfold pub at p
    cases hp : pub es (S1 ++ [.lst ys]) with
    | none => rw [hp] at p; cases p
    | some z =>
      obtain ⟨ds', S'⟩ := z
      rw [hp] at p
      cases p
      obtain ⟨a, vs, rfl, k1, k2, k3, k4⟩ := h1
      have m1 : Mid G α H ρ σ (α1 ++ [⟨a, a⟩]) H1 (S1 ++ [.lst ys]) := m.snoc ⟨rfl, vs, k1, RDs.grow (List.prefix_append _ _) _ _ k2⟩ k3 k4
      obtain ⟨α2, pre, m2, r2⟩ := pub_ok m1 (h3.snoc ⟨h2 a rfl, h2 a rfl⟩) hp
      refine ⟨α2, (List.prefix_append _ _).trans pre, m2, .ref a, r, rfl, ⟨⟨a, a⟩, ?_, rfl⟩, r2⟩
      obtain ⟨t, rfl⟩ := pre
      rw [← m.rs.len, List.append_assoc, List.getElem?_append_right (Nat.le_refl _), Nat.sub_self]
      rfl
  | .fd ys :: es, _, α1, S1, S2, ds, m, ⟨x, r, q, h1, h2, h3⟩, p => by
    subst q
    unfold pub at p
    cases hp : pub es (S1 ++ [.dic ys]) with
    | none => rw [hp] at p; cases p
    | some z =>
      obtain ⟨ds', S'⟩ := z
      rw [hp] at p
      cases p
      obtain ⟨a, rfl, k1, k3, k4⟩ := h1
      have m1 : Mid G α H ρ σ (α1 ++ [⟨a, a⟩]) H1 (S1 ++ [.dic ys]) := m.snoc ⟨rfl, k1.grow (List.prefix_append _ _)⟩ k3 k4
      obtain ⟨α2, pre, m2, r2⟩ := pub_ok m1 (h3.snoc ⟨h2 a rfl, h2 a rfl⟩) hp
      refine ⟨α2, (List.prefix_append _ _).trans pre, m2, .ref a, r, rfl, ⟨⟨a, a⟩, ?_, rfl⟩, r2⟩
      obtain ⟨t, rfl⟩ := pre
      rw [← m.rs.len, List.append_assoc, List.getElem?_append_right (Nat.le_refl _), Nat.sub_self]
      rfl
  | .sl i :: es, _, _, _, _, _, _, _, p => by cases p
end
/-! ### displays -/
def mTup (ma : MA) : ME := fun ρ S => (ma ρ S).bind fun es S1 => match pub es S1 with
  | some (ds, S2) => if ds.length ≤ sizeLine then .ok (.v (.tup ds)) S2 else .bad
  | none => .bad
def mLst (ma : MA) : ME := fun ρ S => (ma ρ S).bind fun es S1 => match pub es S1 with
  | some (ds, S2) => if ds.length ≤ sizeLine then .ok (.fl ds) S2 else .bad
  | none => .bad
section
variable {X : Cx} {G : Gc} {pos : Pos} {es : List Expr} {m : MA}
theorem xe_tup {x1} (h : XA X G es m) : XE X G (.Tuple es x1 pos) (mTup m) := by
  refine ⟨fun W t => PE.imp (pe_tupX (h.run W t)) fun σ H Q ⟨α, ρ, S, rs, rl, g⟩ => ?_⟩
  refine tOfA_mono (stepA (F := fun z => Gd G W α H ρ σ z Q) (ma := m) (.refl rs rl) (fun c d S2 α2 H2 dd v g m h1 h2 => g α2 H2 dd v m h1 h2) (fun g => g) g) fun xs H2 ⟨α2, S2, es1, p2, m2, r2, g2⟩ => ?_
  cases hp : pub es1 S2 with
  | none => simp only [hp] at g2; exact g2.elim
  | some z =>
    obtain ⟨ds, S3⟩ := z
    simp only [hp] at g2
    obtain ⟨q, g2⟩ := ite_gd g2
    obtain ⟨α3, pre, m3, r3⟩ := pub_ok m2 r2 hp
    exact ⟨by rw [← r3.len]; exact q, fun p ob hn hd => g2 α3 _ _ (m3.laid hn) (.newT m3 hn hd r3)⟩
theorem xe_lst (h : XA X G es m) : XE X G (.List es pos) (mLst m) := by
  refine ⟨fun W t => PE.imp (pe_lst (h.run W t)) fun σ H Q ⟨α, ρ, S, rs, rl, g⟩ => ?_⟩
  refine tOfA_mono (stepA (F := fun z => Gd G W α H ρ σ z Q) (ma := m) (.refl rs rl) (fun c d S2 α2 H2 dd v g m h1 h2 => g α2 H2 dd v m h1 h2) (fun g => g) g) fun xs H2 ⟨α2, S2, es1, p2, m2, r2, g2⟩ => ?_
  cases hp : pub es1 S2 with
  | none => simp only [hp] at g2; exact g2.elim
  | some z =>
    obtain ⟨ds, S3⟩ := z
    simp only [hp] at g2
    obtain ⟨q, g2⟩ := ite_gd g2
    obtain ⟨α3, pre, m3, r3⟩ := pub_ok m2 r2 hp
    exact ⟨by rw [← r3.len]; exact q, fun p hn => g2 α3 _ _ (m3.laid hn) (.newL m3 hn r3)⟩
end
end DL

set_option Elab.async false
set_option autoImplicit false
set_option linter.all false
set_option maxRecDepth 100000
set_option maxHeartbeats 2000000
namespace DL
open PySem PySem.Spec PyProof.Rows L2
/-! ## one object is changed -/
section
variable {G : Gc} {α α1 : List Lc} {H H1 H' H0 : Hp} {ρ : Env} {σ : L2.St} {S S1 : Store} {a : Addr} {u o : HO}
/-- all that is not open to change stays -/
def Stays (H H' : Hp) : Prop := ∀ b o, H b = some o → ¬ mutO o → H' b = some o
theorem Stays.upd (h : H a = some u) (m : mutO u) : Stays H (upd H a o) := fun b v e n => by
  rw [upd_ne (fun z => by rw [z, h] at e; cases e; exact n m)]; exact e
theorem not_mut_tup {vs : List V} : ¬ mutO (.tup vs) := fun z => z
theorem not_mut_frz {o' : Obj} {w : HO} : ¬ mutO (.frz o' w) := fun z => z
theorem not_mut_xc {c : Value} {d : Option Addr} {b : Addr} : ¬ mutO (XcO c d b) := fun z => z.1 c d b rfl
theorem not_mut_code {c : Addr} {q : Str} : ¬ mutO (LamX.CodeO c q) := fun z => z.2 c q rfl
theorem not_mut_xd {w : V} : ¬ mutO (.xd [("value", w)]) := fun z => by cases z
mutual
theorem RD.stays (p : Stays H H') : ∀ (d : D) (v : V), RD G α H d v → RD G α H' d v
  | .non, _, h => h
  | .bl _, _, h => h
  | .int _, _, h => h
  | .str _, _, h => h
  | .tup ds, _, ⟨a, vs, e, h1, h2⟩ => by
    refine ⟨a, vs, e, ?_, RDs.stays p ds vs h2⟩
    rcases h1 with ⟨o, h, d⟩ | h
    · exact .inl ⟨o, p _ _ h not_mut_frz, d⟩
    · exact .inr h
  | .cl ds, _, ⟨a, vs, e, h1, h2⟩ => by
    refine ⟨a, vs, e, ?_, RDs.stays p ds vs h2⟩
    rcases h1 with ⟨o, h⟩ | h
    · exact .inl ⟨o, p _ _ h not_mut_frz⟩
    · exact .inr h
  | .ref n, _, h => h
  | .exc c d, _, ⟨a, dx, w, e, h1, h2, h3⟩ => ⟨a, dx, w, e, p _ _ h1 not_mut_xc, p _ _ h2 not_mut_xd, RD.stays p d w h3⟩
theorem RDs.stays (p : Stays H H') : ∀ (ds : List D) (vs : List V), RDs G α H ds vs → RDs G α H' ds vs
  | [], _, h => h
  | d :: ds, _, ⟨v, r, e, h1, h2⟩ => ⟨v, r, e, RD.stays p d v h1, RDs.stays p ds r h2⟩
end
theorem RDc.stays {kvs : List (D × D)} (p : Stays H H') (k : ∀ o, H a = some o → H' a = some o) (h : RDc G α H a kvs) : RDc G α H' a kvs := by
  rcases h with ⟨ys, h, r⟩ | ⟨xs, h, r⟩
  · exact .inl ⟨ys, k _ h, paired_imp (fun _ _ q => ⟨q.1, RD.stays p _ _ q.2⟩) r⟩
  · refine .inr ⟨xs, k _ h, paired_imp (fun a b q => ?_) r⟩
    obtain ⟨h1, h2, h3, h4, h5, v, h6, h7⟩ := q
    exact ⟨h1, h2, h3, h4, RD.stays p _ _ h5, v, h6, RD.stays p _ _ h7⟩
theorem not_tbl_of_mut {ps : Array Value} : ¬ mutO (.tbl ps) := fun z => z
theorem Tabs.stays {T : List (Addr × Str)} (p : Stays H H') (t : LamX.Tabs T H) : LamX.Tabs T H' := fun q hq => by
  obtain ⟨ps, e, r1, r2⟩ := t q hq
  exact ⟨ps, p _ _ e not_tbl_of_mut, r1, fun pos cv h => let ⟨c, h1, h2⟩ := r2 pos cv h; ⟨c, h1, p _ _ h2 not_mut_code⟩⟩
/-- an object that is not of the store is changed -/
theorem RS.out (r : RS G α H S) (h : H a = some u) (m : mutO u) (n : ¬ inA α a) : RS G α (upd H a o) S where
  len := r.len
  sep := r.sep
  obj := fun i l ob h1 h2 => (r.obj i l ob h1 h2).kept (fun d v q => q.stays (Stays.upd h m)) (fun w q => by rw [upd_ne (fun z => n ⟨l, List.mem_of_getElem? h1, .inl z.symm⟩)]; exact q) (fun w q => by rw [upd_ne (fun z => n ⟨l, List.mem_of_getElem? h1, .inr z.symm⟩)]; exact q)
  tab := Tabs.stays (Stays.upd h m) r.tab
/-- an object of the store is changed -/
theorem RS.put {i : Nat} {l : Lc} {ob : Ob} (r : RS G α H S) (hl : α[i]? = some l) (h : H l.a = some u) (m : mutO u) (q : RO G α (upd H l.a o) l ob) : RS G α (upd H l.a o) (S.set i ob) where
  len := by rw [List.length_set]; exact r.len
  sep := r.sep
  obj := fun j k ob' h1 h2 => by
    by_cases e : j = i
    · subst e
      have hlt : j < S.length := by rw [← r.len]; exact (List.getElem?_eq_some_iff.mp hl).1
      rw [List.getElem?_set_self hlt] at h2
      rw [hl] at h1
      cases h1; cases h2
      exact q
    · rw [List.getElem?_set_ne (Ne.symm e)] at h2
      refine (r.obj j k ob' h1 h2).kept (fun d v q => q.stays (Stays.upd h m)) (fun w q => ?_) (fun w q => ?_)
      · rw [upd_ne (fun z => e (r.sep j i k l _ h1 hl (.inl rfl) (.inl z)))]; exact q
      · rw [upd_ne (fun z => e (r.sep j i k l _ h1 hl (.inr rfl) (.inl z)))]; exact q
  tab := Tabs.stays (Stays.upd h m) r.tab
theorem RSV.stays {s : SV} {x : V} (p : Stays H H') (k : ∀ b o, s.own = true → x = .ref b → H b = some o → H' b = some o) (r : RSV G α H s x) : RSV G α H' s x := by
  cases s with
  | v d => exact RD.stays p _ _ r
  | ol ds => obtain ⟨b, vs, e, h1, h2, h3⟩ := r; exact ⟨b, vs, e, k b _ rfl e h1, RDs.stays p _ _ h2, h3⟩
  | od ds => obtain ⟨b, e, h1, h3⟩ := r; exact ⟨b, e, h1.stays p (fun o q => k b o rfl e q), h3⟩
/-- an object that no slot owns is changed -/
theorem RL.out (r : RL G α H ρ σ) (h : H a = some u) (m : mutO u) (n : ∀ (i : Nat) (s : SV), ρ[i]? = some (some s) → s.own = true → σ[i]? ≠ some (some (.ref a))) : RL G α (upd H a o) ρ σ :=
  ⟨r.len, fun i s hi => let ⟨x, h1, h2⟩ := r.val i s hi; ⟨x, h1, h2.stays (Stays.upd h m) fun b w ow e q => by
    rw [upd_ne (fun z => n i s hi ow (by rw [h1, e, z]))]; exact q⟩, r.sep⟩
/-- a store's object is no slot's -/
theorem RL.noA (r : RL G α H ρ σ) (n : inA α a) : ∀ (i : Nat) (s : SV), ρ[i]? = some (some s) → s.own = true → σ[i]? ≠ some (some (.ref a)) := fun i s hi ow z => by
  obtain ⟨x, h1, h2⟩ := r.val i s hi
  rw [z] at h1
  cases h1
  cases s with
  | v d => cases ow
  | ol ds => obtain ⟨b, vs, e, _, _, h3⟩ := h2; cases e; exact h3 n
  | od ds => obtain ⟨b, e, _, h3⟩ := h2; cases e; exact h3 n
theorem RL.noN (r : RL G α H ρ σ) (h : H a = none) : ∀ (i : Nat) (s : SV), ρ[i]? = some (some s) → s.own = true → σ[i]? ≠ some (some (.ref a)) := fun i s hi ow z => by
  obtain ⟨u, q⟩ := r.own_at hi ow z
  rw [h] at q; cases q
theorem inA.at {i : Nat} {l : Lc} (h : α[i]? = some l) : inA α l.a := ⟨l, List.mem_of_getElem? h, .inl rfl⟩
theorem Post.upA (n : inA α a) (h : H a = some u) : Post α H α (upd H a o) where
  pre := List.prefix_rfl
  new := fun _ h => .inl h
  keep := fun b v e nb _ => by rw [upd_ne (fun z => nb (by rw [z]; exact n))]; exact e
  there := fun b e => by
    by_cases z : b = a
    · rw [z, upd_same]; simp
    · rw [upd_ne z]; exact e
/-- a store's object is changed within an expression -/
theorem Mid.put {i : Nat} {l : Lc} {ob : Ob} (m : Mid G α H ρ σ α1 H1 S1) (hl : α1[i]? = some l) (h : H1 l.a = some u) (mu : mutO u) (q : RO G α1 (upd H1 l.a o) l ob) : Mid G α H ρ σ α1 (upd H1 l.a o) (S1.set i ob) :=
  ⟨m.post.trans (Post.upA (inA.at hl) h), m.rs.put hl h mu q, m.rl.out h mu (m.rl.noA (inA.at hl)), m.rl0⟩
/-- a new list is changed within an expression -/
theorem Mid.outN (m : Mid G α H ρ σ α1 H1 S1) (h : H1 a = some u) (mu : mutO u) (n : ¬ inA α1 a) (h0 : H a = none) : Mid G α H ρ σ α1 (upd H1 a o) S1 where
  post := ⟨m.post.pre, m.post.new, fun b v e nb t => by rw [upd_ne (ne_of_none e h0)]; exact m.post.keep b v e nb t, fun b e => by
    by_cases z : b = a
    · rw [z, upd_same]; simp
    · rw [upd_ne z]; exact m.post.there b e⟩
  rs := m.rs.out h mu n
  rl := m.rl.out h mu (m.rl0.noN h0)
  rl0 := m.rl0
end
/-! ## a list stands still from here on -/
def frzE : EV → Option EV
  | .fl ds => some (.v (.cl ds))
  | .v d => some (.v d)
  | _ => none
def mFrz (m : ME) : ME := fun ρ S => (m ρ S).bind fun e S1 => match frzE e with
  | some e' => .ok e' S1
  | none => .ok e S1
section
variable {X : Cx} {G : Gc} {pos : Pos} {a b : Expr} {ma mb : ME}
theorem xe_frz (h : XE X G a ma) : XE X G a (mFrz ma) := by
  refine ⟨fun W t => ⟨fun pins s σ H Q I ⟨α, ρ, S, rs, rl, g⟩ => ?_⟩⟩
  refine thn ((h.run W t).run pins s σ H (fun x H1 => Q x H1 ∨ ∃ a u, x = .ref a ∧ H1 a = some u ∧ Mut (some u) ∧ ∀ od, Q x (upd H1 a (.frz od u))) I (tOf_mono (step (ma := ma) (.refl rs rl) g) ?_)) ?_
  · rintro x H2 ⟨α2, S2, e, p2, m2, r2, g2⟩
    cases e with
    | v d => exact .inl (g2 α2 H2 x m2 r2)
    | fd d => exact .inl (g2 α2 H2 x m2 r2)
    | sl i => exact .inl (g2 α2 H2 x m2 r2)
    | fl ds =>
      obtain ⟨p, vs, rfl, h1, h2, h3, h4⟩ := r2
      refine .inr ⟨p, _, rfl, h1, trivial, fun od => ?_⟩
      exact g2 α2 _ _ (m2.outN h1 trivial h3 h4) ⟨p, vs, rfl, .inl ⟨od, upd_same⟩, RDs.stays (Stays.upd h1 trivial) _ _ h2⟩
  · rintro v s1 ⟨x, H1, I1, r1, q | ⟨p, u, e, h1, mu, q⟩⟩
    · exact ⟨x, H1, I1, r1, q⟩
    · obtain ⟨od, I2⟩ := I1.lock h1 mu
      exact ⟨x, _, I2, r1, q od⟩
end
/-- the slot's own list stands still ahead of the statement -/
def mFrzS (i : Nat) (m : MS) : MS := fun ρ S => match ρ[i]? with
  | some (some (.ol ds)) => m (ρ.set i (some (.v (.cl ds)))) S
  | _ => m ρ S
section
variable {X : Cx} {G : Gc} {st : Stmt} {m : MS}
theorem Inv.lockS {pins : List (Addr × Obj)} {σ : L2.St} {H : Hp} {s : Shared} {d : Addr} {u : HO} (I : Inv X pins σ H s) (h : H d = some u) (mu : Mut (some u)) : ∃ od, Inv X pins σ (upd H d (.frz od u)) s := I.lock h mu
theorem set_get {A : Type} {l : List A} {i j : Nat} {a b : A} (h : (l.set i a)[j]? = some b) : (j = i ∧ b = a ∧ i < l.length) ∨ (j ≠ i ∧ l[j]? = some b) := by
  by_cases e : j = i
  · subst e
    by_cases hl : j < l.length
    · rw [List.getElem?_set_self hl] at h
      cases h
      exact .inl ⟨rfl, rfl, hl⟩
    · rw [List.getElem?_eq_none (by simpa using hl)] at h
      cases h
  · rw [List.getElem?_set_ne (Ne.symm e)] at h
    exact .inr ⟨e, h⟩
theorem Sf.frz {α0 α : List Lc} {H0 H : Hp} {ρ : Env} {σ : L2.St} {S : Store} {i : Nat} {ds : List D} (f : Sf G α0 H0 α ρ S σ H) (hi : ρ[i]? = some (some (.ol ds))) :
    ∃ p vs, σ[i]? = some (some (.ref p)) ∧ H p = some (.lst vs) ∧ ∀ od, Sf G α0 H0 α (ρ.set i (some (.v (.cl ds)))) S σ (upd H p (.frz od (.lst vs))) := by
  obtain ⟨x, h1, p, vs, rfl, h2, h3, h4⟩ := f.rl.val i _ hi
  refine ⟨p, vs, h1, h2, fun od => ?_⟩
  have st : Stays H (upd H p (.frz od (.lst vs))) := Stays.upd h2 trivial
  have h0 : H0 p = none := f.own i _ p hi rfl h1
  refine ⟨⟨f.post.pre, f.post.new, fun b v e nb t => ?_, fun b e => ?_⟩, f.rs.out h2 trivial h4, ⟨?_, fun j t hj => ?_, fun j k t u a h5 h6 o1 o2 e1 e2 => ?_⟩, fun j t a h5 o1 e1 => ?_⟩
  · rw [upd_ne (ne_of_none e h0)]; exact f.post.keep b v e nb t
  · by_cases z : b = p
    · rw [z, upd_same]; simp
    · rw [upd_ne z]; exact f.post.there b e
  · rw [List.length_set]; exact f.rl.len
  · rcases set_get hj with ⟨rfl, e, _⟩ | ⟨e, hj⟩
    · cases e
      exact ⟨_, h1, p, vs, rfl, .inl ⟨od, upd_same⟩, RDs.stays st _ _ h3⟩
    · obtain ⟨y, q1, q2⟩ := f.rl.val j t hj
      refine ⟨y, q1, q2.stays st fun b o ow e' q => ?_⟩
      subst e'
      rw [upd_ne (fun z => e (f.rl.sep j i t _ p hj hi ow rfl (by rw [← z]; exact q1) h1))]; exact q
  · rcases set_get h5 with ⟨rfl, e, _⟩ | ⟨e, h5⟩
    · cases e; cases o1
    · rcases set_get h6 with ⟨rfl, e', _⟩ | ⟨e', h6⟩
      · cases e'; cases o2
      · exact f.rl.sep j k t u a h5 h6 o1 o2 e1 e2
  · rcases set_get h5 with ⟨rfl, e, _⟩ | ⟨e, h5⟩
    · cases e; cases o1
    · exact f.own j t a h5 o1 e1
theorem xs_frz (i : Nat) (h : XS X G st m) : XS X G st (mFrzS i m) := by
  refine ⟨fun W t => ⟨fun pins s σ H D I ⟨α0, H0, α, ρ, S, f, g⟩ => ?_⟩⟩
  unfold mFrzS at g
  split at g
  · rename_i ds hi
    obtain ⟨p, vs, h1, h2, h3⟩ := f.frz hi
    obtain ⟨od, I2⟩ := Inv.lockS I h2 trivial
    exact (h.run W t).run pins s σ _ D I2 ⟨α0, H0, α, _, S, h3 od, g⟩
  · exact (h.run W t).run pins s σ H D I ⟨α0, H0, α, ρ, S, f, g⟩
theorem xss_frz {sts : List Stmt} (i : Nat) (h : XSs X G sts m) : XSs X G sts (mFrzS i m) := by
  refine ⟨fun W t => ⟨fun pins s σ H D I ⟨α0, H0, α, ρ, S, f, g⟩ => ?_⟩⟩
  unfold mFrzS at g
  split at g
  · rename_i ds hi
    obtain ⟨p, vs, h1, h2, h3⟩ := f.frz hi
    obtain ⟨od, I2⟩ := Inv.lockS I h2 trivial
    exact (h.run W t).run pins s σ _ D I2 ⟨α0, H0, α, _, S, h3 od, g⟩
  · exact (h.run W t).run pins s σ H D I ⟨α0, H0, α, ρ, S, f, g⟩
end
end DL

set_option Elab.async false
set_option autoImplicit false
set_option linter.all false
set_option maxRecDepth 100000
set_option maxHeartbeats 2000000
namespace DL
open PySem PySem.Spec PyProof.Rows L2
/-! ## calls of what is built in -/
abbrev GC := List EV → Env → Store → Option EV
def CallO (X : Cx) (G : Gc) (f : Value) (g : GC) : Prop := ∀ (pins : List (Addr × Obj)) (s : Shared) (σ : L2.St) (H : Hp) (xs : List V) (us : List Value) (Q : VK), Inv X pins σ H s → Vals xs us →
  ∀ (α0 α : List Lc) (H0 : Hp) (ρ : Env) (τ : L2.St) (S : Store) (es : List EV) (e : EV), Mid G α0 H0 ρ τ α H S → REs G α H ρ τ H0 es xs → g es ρ S = some e →
    (∀ α' H' x, Mid G α0 H0 ρ τ α' H' S → RE G α' H' ρ τ H0 e x → Q x H') → wpAny (model X.prog X.w) X.A (call f us) (EP X pins σ Q) X.xe s
def rC (G : Gc) (g : GC) : List V → Hp → VK → Prop := fun xs H Q => ∃ (α0 α : List Lc) (H0 : Hp) (ρ : Env) (τ : L2.St) (S : Store) (es : List EV) (e : EV), Mid G α0 H0 ρ τ α H S ∧ REs G α H ρ τ H0 es xs ∧ g es ρ S = some e ∧
  ∀ α' H' x, Mid G α0 H0 ρ τ α' H' S → RE G α' H' ρ τ H0 e x → Q x H'
theorem CallO.r {X : Cx} {G : Gc} {f : Value} {g : GC} (c : CallO X G f g) : CallR X f (rC G g) := fun pins s σ H xs us Q I r ⟨α0, α, H0, ρ, τ, S, es, e, m, re, he, q⟩ => c pins s σ H xs us Q I r α0 α H0 ρ τ S es e m re he q
def gOr (g h : GC) : GC := fun es ρ S => match g es ρ S with
  | some e => some e
  | none => h es ρ S
theorem CallO.or {X : Cx} {G : Gc} {f : Value} {g h : GC} (c : CallO X G f g) (d : CallO X G f h) : CallO X G f (gOr g h) := by
  intro pins s σ H xs us Q I r α0 α H0 ρ τ S es e m re he q
  unfold gOr at he
  cases hg : g es ρ S with
  | some e' => rw [hg] at he; cases he; exact c pins s σ H xs us Q I r α0 α H0 ρ τ S es e m re hg q
  | none => rw [hg] at he; exact d pins s σ H xs us Q I r α0 α H0 ρ τ S es e m re he q
def mCall (g : GC) (ma : MA) : ME := fun ρ S => (ma ρ S).bind fun es S1 => match g es ρ S1 with
  | some e => .ok e S1
  | none => .bad
section
variable {X : Cx} {G : Gc} {pos p : Pos} {x : Str} {e : Expr} {es : List Expr} {m : MA} {g : GC} {id T : String}
theorem tOf_call {W : WX} {σ : L2.St} {H : Hp} {Q : VK} (h : tOf G (mCall g m) W σ H Q) : tCB (rC G g) (tOfA G m W) σ H Q := by
  obtain ⟨α, ρ, S, rs, rl, g1⟩ := h
  refine tOfA_mono (stepA (F := fun z => Gd G W α H ρ σ z Q) (ma := m) (.refl rs rl) (fun c d S2 α2 H2 dd v g m h1 h2 => g α2 H2 dd v m h1 h2) (fun g => g) g1) fun xs H2 ⟨α2, S2, es1, p2, m2, r2, g2⟩ => ?_
  cases he : g es1 ρ S2 with
  | none => simp only [he] at g2; exact g2.elim
  | some e1 =>
    simp only [he] at g2
    exact ⟨α, α2, H, ρ, σ, S2, es1, e1, m2, r2, he, fun α' H' x m' r' => g2 α' H' x m' r'⟩
theorem xe_callB (c : CallO X G (.builtin id) g) (hg : Gl X x) (hm : X.mg x = none) (hv : bootBuiltins x = some (.builtin id)) (ha : XA X G (e :: es) m) (hn : x ≠ "__name__" := by decide) (hdb : (x == ("__debug__" : Str)) = false := by decide)
    (he : starEach (e :: es) X.env = (false, eval e X.env) :: starEach es X.env := by rfl) (hpl : (backTo pos (starEach es X.env)).any (·.1) = false := by rfl) : XE X G (.Call (.Name x p) (e :: es) [] pos) (mCall g m) :=
  ⟨fun W t => PE.imp (pe_callB c.r hg hm hv (ha.run W t) hn hdb he hpl) fun _ _ _ h => tOf_call h⟩
theorem xe_callTy (c : CallO X G (.type T) g) (hg : Gl X x) (hm : X.mg x = none) (hv : bootBuiltins x = some (.type T)) (ha : XA X G (e :: es) m) (hn : x ≠ "__name__" := by decide) (hdb : (x == ("__debug__" : Str)) = false := by decide)
    (he : starEach (e :: es) X.env = (false, eval e X.env) :: starEach es X.env := by rfl) (hpl : (backTo pos (starEach es X.env)).any (·.1) = false := by rfl) : XE X G (.Call (.Name x p) (e :: es) [] pos) (mCall g m) :=
  ⟨fun W t => PE.imp (pe_callTy c.r hg hm hv (ha.run W t) hn hdb he hpl) fun _ _ _ h => tOf_call h⟩
end
section
variable {X : Cx} {G : Gc} {α : List Lc} {H H0 : Hp} {ρ : Env} {τ : L2.St} {S : Store}
theorem REs.one {e : EV} {xs : List V} (h : REs G α H ρ τ H0 [e] xs) : ∃ x, xs = [x] ∧ RE G α H ρ τ H0 e x := by
  obtain ⟨x, r, q, h1, _, h3⟩ := h
  cases h3
  exact ⟨x, q, h1⟩
theorem REs.two {e f : EV} {xs : List V} (h : REs G α H ρ τ H0 [e, f] xs) : ∃ x y, xs = [x, y] ∧ RE G α H ρ τ H0 e x ∧ RE G α H ρ τ H0 f y := by
  obtain ⟨x, r, q, h1, _, h3⟩ := h
  obtain ⟨y, rfl, h4⟩ := h3.one
  exact ⟨x, y, q, h1, h4⟩
/-- by a rule of the hand layer -/
theorem CallO.of {f : Value} {r : List V → Hp → VK → Prop} {g : GC} (c : CallR X f r) (h : ∀ (α0 α : List Lc) (H0 H : Hp) (ρ : Env) (τ : L2.St) (S : Store) (es : List EV) (e : EV) (xs : List V) (Q : VK), Mid G α0 H0 ρ τ α H S → REs G α H ρ τ H0 es xs → g es ρ S = some e →
    (∀ α' H' x, Mid G α0 H0 ρ τ α' H' S → RE G α' H' ρ τ H0 e x → Q x H') → r xs H Q) : CallO X G f g :=
  fun pins s σ H xs us Q I rv α0 α H0 ρ τ S es e m re he q => c pins s σ H xs us Q I rv (h α0 α H0 H ρ τ S es e xs Q m re he q)
/-- of one argument -/
def g1 (f : EV → Env → Store → Option EV) : GC := fun es ρ S => match es with
  | [e] => f e ρ S
  | _ => none
def g2 (f : EV → EV → Env → Store → Option EV) : GC := fun es ρ S => match es with
  | [e, e'] => f e e' ρ S
  | _ => none
theorem g1_some {f : EV → Env → Store → Option EV} {es : List EV} {e : EV} (h : g1 f es ρ S = some e) : ∃ a, es = [a] ∧ f a ρ S = some e := by
  unfold g1 at h
  split at h
  · exact ⟨_, rfl, h⟩
  · cases h
theorem g2_some {f : EV → EV → Env → Store → Option EV} {es : List EV} {e : EV} (h : g2 f es ρ S = some e) : ∃ a b, es = [a, b] ∧ f a b ρ S = some e := by
  unfold g2 at h
  split at h
  · exact ⟨_, _, rfl, h⟩
  · cases h
/-! ### len -/
def fLen : EV → Env → Store → Option EV := fun e ρ S => match asK ρ S e with
  | some kvs => some (.v (.int kvs.length))
  | none => match e with
    | .v (.str z) => if z.length ≤ sizeLine then some (.v (.int z.length)) else none
    | e => match asSeq ρ S e with
      | some ds => some (.v (.int ds.length))
      | none => none
theorem len_dict (hG : GOk X G) {pins : List (Addr × Obj)} {s : Shared} {σ : L2.St} {a : Addr} {kvs : List (D × D)} {Q : VK} (I : Inv X pins σ H s) (h : RDc G α H a kvs) (q : Q (.int kvs.length) H) :
    wpAny (model X.prog X.w) X.A (call (.builtin "len") [.ref a]) (EP X pins σ Q) X.xe s := by
  have hl := line63
  have hs : sizeLine = 16777216 := sizeLine_eq
  rcases h with ⟨ys, h, r⟩ | ⟨xs, h, r⟩
  · have e := Paired.length r
    exact call_lenD pins s σ H _ _ Q I (.cons (show L2.RelV (.ref a) (.ref a) from rfl) .nil) ⟨a, ys, rfl, h, by rw [← e]; exact q⟩
  · obtain ⟨h1, h2, h3⟩ := dcO_of I hG.K h r
    have e := Paired.length r
    rw [← hG.P, ← hG.w] at h3
    exact call_len_dictH h1 h3 (by omega) ⟨.int xs.length, H, I.tok _, ⟨_, rfl⟩, by rw [← e]; exact q⟩
theorem callO_len (hG : GOk X G) : CallO X G (.builtin "len") (g1 fLen) := by
  intro pins s σ H xs us Q I rv α0 α H0 ρ τ S es e m re he q
  obtain ⟨a, rfl, hf⟩ := g1_some he
  obtain ⟨x, rfl, r⟩ := re.one
  unfold fLen at hf
  split at hf
  · rename_i kvs hk
    cases hf
    obtain ⟨b, rfl, h1⟩ := asK_ok m.rs m.rl r hk
    obtain ⟨u, rfl, ru⟩ := vals1 rv
    cases ru
    exact len_dict hG I h1 (q α H _ m rfl)
  · split at hf
    · rename_i z _
      obtain ⟨hz, rfl⟩ := ite_some hf
      cases (show x = .str z from r)
      exact call_len pins s σ H _ us Q I rv ⟨_, _, rfl, ⟨hz, rfl⟩, q α H _ m rfl⟩
    · cases hs : asSeq ρ S a with
      | none => rw [hs] at hf; cases hf
      | some ds =>
        rw [hs] at hf
        cases hf
        obtain ⟨b, vs, rfl, h1, h2⟩ := asSeq_ok m.rs m.rl r hs
        refine call_len_seq pins s σ H _ us Q I rv ⟨b, vs, rfl, ?_, by rw [← h2.len]; exact q α H _ m rfl⟩
        rw [← hG.K]at h1
        exact h1
/-! ### tuple, list of a sequence -/
def fTup : EV → Env → Store → Option EV := fun e ρ S => match e with
  | .v (.tup ds) => some (.v (.tup ds))
  | e => match asL ρ S e with
    | some ds => some (.v (.tup ds))
    | none => none
def fLst : EV → Env → Store → Option EV := fun e ρ S => match asSeq ρ S e with
  | some ds => some (.fl ds)
  | none => none
theorem callO_tup (hG : GOk X G) : CallO X G (.type "tuple") (g1 fTup) := by
  refine CallO.of call_tupleX ?_
  intro α0 α H0 H ρ τ S es e xs Q m re he q
  obtain ⟨a, rfl, hf⟩ := g1_some he
  obtain ⟨x, rfl, r⟩ := re.one
  unfold fTup at hf
  split at hf
  · cases hf
    obtain ⟨b, vs, rfl, h1, h2⟩ := id r
    rw [← hG.K] at h1
    exact ⟨b, vs, rfl, .inr ⟨h1.sq, q α H _ m r⟩⟩
  · cases hs : asL ρ S a with
    | none => rw [hs] at hf; cases hf
    | some ds =>
      rw [hs] at hf
      cases hf
      obtain ⟨b, vs, rfl, h1, h2⟩ := asL_ok m.rs m.rl r hs
      rw [← hG.K] at h1
      exact ⟨b, vs, rfl, .inl ⟨h1, fun l ob hl hd => q α _ _ (m.laid hl) (.newT m hl hd h2)⟩⟩
theorem callO_lst (hG : GOk X G) : CallO X G (.type "list") (g1 fLst) := by
  refine CallO.of call_list_of ?_
  intro α0 α H0 H ρ τ S es e xs Q m re he q
  obtain ⟨a, rfl, hf⟩ := g1_some he
  obtain ⟨x, rfl, r⟩ := re.one
  unfold fLst at hf
  split at hf
  · rename_i ds hs
    cases hf
    obtain ⟨b, vs, rfl, h1, h2⟩ := asSeq_ok m.rs m.rl r hs
    rw [← hG.K] at h1
    exact ⟨b, vs, rfl, h1, fun l hl => q α _ _ (m.laid hl) (.newL m hl h2)⟩
  · cases hf
/-! ### int, abs, min, max of two -/
def fInt : EV → Env → Store → Option EV := fun e _ _ => match e with
  | .v (.int i) => some (.v (.int i))
  | .v (.bl k) => some (.v (.int (if k then 1 else 0)))
  | _ => none
theorem callO_int : CallO X G (.type "int") (g1 fInt) := by
  refine CallO.of call_int1 ?_
  intro α0 α H0 H ρ τ S es e xs Q m re he q
  obtain ⟨a, rfl, hf⟩ := g1_some he
  obtain ⟨x, rfl, r⟩ := re.one
  unfold fInt at hf
  split at hf
  · rename_i i
    cases hf
    cases (show x = .int i from r)
    exact .inl ⟨i, rfl, q α H _ m rfl⟩
  · rename_i k
    cases hf
    cases (show x = .bl k from r)
    exact .inr ⟨k, rfl, q α H _ m rfl⟩
  · cases hf
def fAbs : EV → Env → Store → Option EV := fun e _ _ => match e with
  | .v (.int i) => some (.v (.int (if i < 0 then -i else i)))
  | _ => none
theorem callO_abs : CallO X G (.builtin "abs") (g1 fAbs) := by
  refine CallO.of call_abs ?_
  intro α0 α H0 H ρ τ S es e xs Q m re he q
  obtain ⟨a, rfl, hf⟩ := g1_some he
  obtain ⟨x, rfl, r⟩ := re.one
  unfold fAbs at hf
  split at hf
  · rename_i i
    cases hf
    cases (show x = .int i from r)
    exact ⟨i, rfl, q α H _ m rfl⟩
  · cases hf
def fII (f : Int → Int → Int) : EV → EV → Env → Store → Option EV := fun a b _ _ => match a, b with
  | .v (.int i), .v (.int j) => some (.v (.int (f i j)))
  | _, _ => none
def iMax (i j : Int) : Int := if j > i then j else i
def iMin (i j : Int) : Int := if j < i then j else i
theorem callO_II {f : Value} {h : Int → Int → Int} (c : CallR X f fun xs H Q => ∃ i j, xs = [.int i, .int j] ∧ Q (.int (h i j)) H) : CallO X G f (g2 (fII h)) := by
  refine CallO.of c ?_
  intro α0 α H0 H ρ τ S es e xs Q m re he q
  obtain ⟨a, b, rfl, hf⟩ := g2_some he
  obtain ⟨x, y, rfl, r1, r2⟩ := re.two
  unfold fII at hf
  split at hf
  · rename_i i j
    cases hf
    cases (show x = .int i from r1)
    cases (show y = .int j from r2)
    exact ⟨i, j, rfl, q α H _ m rfl⟩
  · cases hf
theorem callO_max2 (hc : X.calm = true) : CallO X G (.builtin "max") (g2 (fII iMax)) := callO_II (call_max2 hc)
theorem callO_min2 (hc : X.calm = true) : CallO X G (.builtin "min") (g2 (fII iMin)) := callO_II (call_min2 hc)
/-! ### sequences of data, read -/
theorem D.py_inj_len : ∀ ds : List D, (D.pys ds).length = ds.length
  | [] => rfl
  | d :: r => by rw [D.pys, List.length_cons, List.length_cons, D.py_inj_len r]
mutual
theorem D.py_inj : ∀ a b : D, a.pure = true → b.pure = true → a.py = b.py → a = b
  | a, b => by
    cases a <;> cases b <;> simp [D.pure, D.py]
    · exact fun h1 h2 h3 => D.pys_inj _ _ h1 h2 h3
    · exact fun h1 h2 h3 => D.pys_inj _ _ h1 h2 h3
theorem D.pys_inj : ∀ a b : List D, D.pures a = true → D.pures b = true → D.pys a = D.pys b → a = b
  | [], [] => by simp
  | [], _ :: _ => by simp [D.pys]
  | _ :: _, [] => by simp [D.pys]
  | a :: r, b :: s => by
    simp only [D.pures, D.pys, Bool.and_eq_true, List.cons.injEq]
    rintro ⟨h1, h2⟩ ⟨h3, h4⟩ ⟨h5, h6⟩
    exact ⟨D.py_inj a b h1 h3 h5, D.pys_inj r s h2 h4 h6⟩
end
/-- a list or a tuple of pure data, as the library reads it -/
theorem seqRead {pins : List (Addr × Obj)} {s : Shared} {σ : L2.St} {ds : List D} {a : Addr} {vs : List V} (hG : GOk X G) (I : Inv X pins σ H s) (h1 : SqL G.K H a vs ∨ SqT G.K H a vs) (h2 : RDs G α H ds vs) (p : D.pures ds = true) :
    ∃ (its : List Value) (as : List Addr), Vals vs its ∧ vs.length ≤ sizeLine ∧ ReadsAll s.heap its (D.pys ds) as ∧ (s.heap.IsList a its.toArray ∨ s.heap.IsTuple a its.toArray) := by
  rw [← hG.K] at h1
  rcases h1 with h1 | h1
  · obtain ⟨its, rv, pl, hz⟩ := I.list h1
    obtain ⟨as, r⟩ := Dp.readsAll I _ _ _ (hG.K ▸ RDs.dp ds vs p h2) rv
    exact ⟨its, as, rv, hz, r, .inl pl.isList⟩
  · obtain ⟨its, rv, pl, hz⟩ := I.tuple h1
    obtain ⟨as, r⟩ := Dp.readsAll I _ _ _ (hG.K ▸ RDs.dp ds vs p h2) rv
    exact ⟨its, as, rv, hz, r, .inr pl⟩
theorem RDs.mem {ds : List D} {vs : List V} {i : Nat} {v : V} (r : RDs G α H ds vs) (h : vs[i]? = some v) : ∃ d, ds[i]? = some d ∧ RD G α H d v := by
  have hi : i < ds.length := by rw [r.len]; exact (List.getElem?_eq_some_iff.mp h).1
  obtain ⟨w, h1, h2⟩ := r.at (List.getElem?_eq_getElem hi)
  rw [h] at h1
  cases h1
  exact ⟨_, List.getElem?_eq_getElem hi, h2⟩
def D.alikes (ds : List D) : Bool := ds.all fun a => ds.all fun b => a.alike b
/-- min, max of a sequence -/
def bestD (lt : D → D → Bool) : List D → Option D
  | [] => none
  | d :: ds => some (ds.foldl (fun a y => if lt y a then y else a) d)
def fBest (lt : D → D → Bool) : EV → Env → Store → Option EV := fun e ρ S => match asSeq ρ S e with
  | some ds => if (D.pures ds && D.alikes ds && ds.all D.some) = true ∧ PyData.depthAll (D.pys ds) ≤ 60 then (bestD lt ds).map .v else none
  | none => none
theorem best_py (lt : PyData → PyData → Bool) : ∀ (ds : List D) (d : D), (ds.foldl (fun a y => if lt y.py a.py then y else a) d).py = (D.pys ds).foldl (fun a y => if lt y a then y else a) d.py
  | [], d => rfl
  | e :: ds, d => by
    rw [D.pys, List.foldl_cons, List.foldl_cons, best_py lt ds]
    by_cases h : lt e.py d.py = true
    · rw [if_pos h, if_pos h]
    · rw [if_neg h, if_neg h]
theorem best_mem (lt : D → D → Bool) : ∀ (ds : List D) (d : D), ds.foldl (fun a y => if lt y a then y else a) d ∈ d :: ds
  | [], d => List.mem_singleton.mpr rfl
  | e :: ds, d => by
    rw [List.foldl_cons]
    have := best_mem lt ds (if lt e d then e else d)
    rcases List.mem_cons.mp this with h | h
    · rw [h]
      split
      · exact List.mem_cons_of_mem _ (List.mem_cons_self)
      · exact List.mem_cons_self
    · exact List.mem_cons_of_mem _ (List.mem_cons_of_mem _ h)
theorem alikes_py {ds : List D} (h : D.alikes ds = true) (h2 : (ds.all D.some) = true) (hp : D.pures ds = true) : PySem.W.AlikeAll (D.pys ds) := by
  rw [D.pys_map]
  unfold D.alikes at h
  rw [List.all_eq_true] at h h2
  rw [D.pures_iff] at hp
  refine ⟨fun a ha b hb => ?_, fun a ha => ?_⟩
  · obtain ⟨d, hd, rfl⟩ := List.mem_map.mp ha
    obtain ⟨e, he, rfl⟩ := List.mem_map.mp hb
    exact List.all_eq_true.mp (h d hd) e he
  · obtain ⟨d, hd, rfl⟩ := List.mem_map.mp ha
    have k1 := h2 d hd
    have k2 := hp d hd
    cases d <;> simp_all [D.some, D.py, D.pure]
theorem paired_back {A B : Type} {F : A → B → Prop} : ∀ {l : List A} {m : List B} {i : Nat} {b : B}, Paired F l m → m[i]? = some b → ∃ a, l[i]? = some a ∧ F a b
  | _, _, i, _, .nil, h => by simp at h
  | _, _, 0, _, .cons r t, h => by
    simp only [List.getElem?_cons_zero, Option.some.injEq] at h
    subst h
    exact ⟨_, rfl, r⟩
  | _, _, i + 1, _, .cons r t, h => by
    simp only [List.getElem?_cons_succ] at h ⊢
    exact paired_back t h
theorem best_fin (hG : GOk X G) {pins : List (Addr × Obj)} {s : Shared} {σ : L2.St} {ds : List D} {d : D} {vs : List V} {its : List Value} {Q : VK} (I : Inv X pins σ H s) (hp : D.pures (d :: ds) = true) (h2 : RDs G α H (d :: ds) vs) (rv : Vals vs its) (lt : PyData → PyData → Bool) {as : List Addr} (hr : ReadsAll s.heap its (D.pys (d :: ds)) as)
    (q : ∀ x, RD G α H (ds.foldl (fun a y => if lt y.py a.py then y else a) d) x → Q x H)
    (i : Nat) (v : Value) (h' : Heap) (tk : Nat) (bs : List Addr) (hv : its.toArray[i]? = some v) (rd : Reads h' v ((D.pys ds).foldl (fun a y => if lt y a then y else a) d.py) bs) (hk : ∀ b o, s.heap.get? b = some o → h'.get? b = some o) : EP X pins σ Q v { s with heap := h', toks := tk } := by
  have hv' : its[i]? = some v := by simpa using hv
  obtain ⟨x, hx, rx⟩ := paired_back rv hv'
  obtain ⟨e, he, re⟩ := h2.mem hx
  refine ⟨x, H, I.kept hk, rx, q x ?_⟩
  have pe : e.pure = true := (D.pures_iff _).mp hp e (List.mem_of_getElem? he)
  have hall : D.pures (d :: ds) = true := hp
  have dp : Dp X.K H x e.py := by rw [hG.K]; exact RD.dp e x pe re
  obtain ⟨as2, r2⟩ := Dp.reads (I.kept (t' := tk) hk) e.py x v dp rx
  · have e1 := SeqAt.readOf_plain (D.plain e) r2
    have pl : ((D.pys ds).foldl (fun a y => if lt y a then y else a) d.py).plain = true := by
      rw [← best_py]; exact D.plain _
    have e2 := SeqAt.readOf_plain pl rd
    rw [e1, ← best_py] at e2
    have e3 := D.py_inj _ _ pe ((D.pures_iff _).mp hp _ (best_mem (fun a b => lt a.py b.py) ds d)) e2
    have e4 : ds.foldl (fun a y => if lt y.py a.py then y else a) d = e := e3.symm
    rw [e4]
    exact re
end
end DL

set_option Elab.async false
set_option autoImplicit false
set_option linter.all false
set_option maxRecDepth 100000
set_option maxHeartbeats 2000000
namespace DL
open PySem PySem.Spec PyProof.Rows L2
section
variable {X : Cx} {G : Gc} {α : List Lc} {H H0 : Hp} {ρ : Env} {τ : L2.St} {S : Store}
def ltR (a b : D) : Bool := D.lt b a
theorem fBest_some {lt : D → D → Bool} {a e : EV} (h : fBest lt a ρ S = some e) : ∃ d ds, asSeq ρ S a = some (d :: ds) ∧ (D.pures (d :: ds) && D.alikes (d :: ds) && (d :: ds).all D.some) = true ∧ PyData.depthAll (D.pys (d :: ds)) ≤ 60 ∧ e = .v (ds.foldl (fun a y => if lt y a then y else a) d) := by
  unfold fBest at h
  split at h
  · rename_i ds hs
    by_cases c : (D.pures ds && D.alikes ds && ds.all D.some) = true ∧ PyData.depthAll (D.pys ds) ≤ 60
    · rw [if_pos c] at h
      cases ds with
      | nil => cases h
      | cons d ds => cases h; exact ⟨d, ds, hs, c.1, c.2, rfl⟩
    · rw [if_neg c] at h; cases h
  · cases h
theorem callO_best (hG : GOk X G) {f : Value} (lt : PyData → PyData → Bool)
    (hw : ∀ (s : Shared) (l : Addr) (vs : Array Value) (x : PyData) (xs : List PyData) (as : List Addr) (Q : Value → Shared → Prop), (s.heap.IsList l vs ∨ s.heap.IsTuple l vs) → ReadsAll s.heap vs.toList (x :: xs) as → PySem.W.AlikeAll (x :: xs) → PyData.depthAll (x :: xs) ≤ 60 →
      X.A.handled = none → (∀ (i : Nat) v h' tk bs, vs[i]? = some v → Reads h' v (xs.foldl (fun a y => if lt y a then y else a) x) bs → (∀ b o, s.heap.get? b = some o → h'.get? b = some o) → Q v { s with heap := h', toks := tk }) →
      wpAny (model X.prog X.w) X.A (call f [.ref l]) Q X.xe s) (hc : X.calm = true) : CallO X G f (g1 (fBest fun a b => lt a.py b.py)) := by
  intro pins s σ H xs us Q I rv α0 α H0 ρ τ S es e m re he q
  obtain ⟨a, rfl, hf⟩ := g1_some he
  obtain ⟨x, rfl, r⟩ := re.one
  obtain ⟨d, ds, hs, h1, h2, rfl⟩ := fBest_some hf
  simp only [Bool.and_eq_true] at h1
  obtain ⟨⟨h3, h4⟩, h5⟩ := h1
  obtain ⟨b, vs, rfl, h6, h7⟩ := asSeq_ok m.rs m.rl r hs
  obtain ⟨u, rfl, ru⟩ := vals1 rv
  cases ru
  obtain ⟨its, as, rv', hz, rd, hl⟩ := seqRead hG I h6 h7 h3
  refine hw s b its.toArray d.py (D.pys ds) as _ hl (by rw [List.toList_toArray]; exact rd) (alikes_py h4 h5 h3) h2 (I.ok.hd hc) fun i v h' tk bs hv hr hk => ?_
  exact best_fin hG I h3 h7 rv' lt rd (fun x rx => q α H x m rx) i v h' tk bs hv hr hk
theorem callO_min (hu : X.A.units + 64 < cLine) (hG : GOk X G) (hc : X.calm = true) : CallO X G (.builtin "min") (g1 (fBest D.lt)) := by
  refine callO_best hG (fun a b => PySem.W.dataLt a b) (fun s l vs x xs as Q hl rd ha hd hh hq => ?_) hc
  rcases hl with hl | hl
  · exact PySem.W.min_list_data hh hl rd ha (by omega) hq
  · exact PySem.W.min_tuple_data hh hl rd ha (by omega) hq
theorem callO_max (hu : X.A.units + 64 < cLine) (hG : GOk X G) (hc : X.calm = true) : CallO X G (.builtin "max") (g1 (fBest ltR)) := by
  refine callO_best hG (fun a b => PySem.W.dataLt b a) (fun s l vs x xs as Q hl rd ha hd hh hq => ?_) hc
  rcases hl with hl | hl
  · exact PySem.W.max_list_data hh hl rd ha (by omega) hq
  · exact PySem.W.max_tuple_data hh hl rd ha (by omega) hq
/-! ### all, any of truth values -/
def D.isBl : D → Bool
  | .bl _ => true
  | _ => false
def D.yes : D → Bool
  | .bl b => b
  | _ => false
def fAll : EV → Env → Store → Option EV := fun e ρ S => match asSeq ρ S e with
  | some ds => if ds.all D.isBl = true then some (.v (.bl (ds.all D.yes))) else none
  | none => none
def fAny : EV → Env → Store → Option EV := fun e ρ S => match asSeq ρ S e with
  | some ds => if ds.all D.isBl = true then some (.v (.bl (ds.any D.yes))) else none
  | none => none
theorem bl_pure {ds : List D} (h : ds.all D.isBl = true) : D.pures ds = true := by
  rw [D.pures_iff]
  rw [List.all_eq_true] at h
  intro d hd
  have := h d hd
  cases d <;> simp_all [D.isBl, D.pure]
theorem bl_truthy {ds : List D} (h : ds.all D.isBl = true) : (D.pys ds).all PyData.truthy = ds.all D.yes ∧ (D.pys ds).any PyData.truthy = ds.any D.yes ∧ ∀ x ∈ D.pys ds, x.fits63 := by
  induction ds with
  | nil => exact ⟨rfl, rfl, fun x hx => by cases hx⟩
  | cons d ds ih =>
    rw [List.all_cons, Bool.and_eq_true] at h
    obtain ⟨i1, i2, i3⟩ := ih h.2
    cases d with
    | bl b =>
      refine ⟨?_, ?_, fun x hx => ?_⟩
      · rw [D.pys, List.all_cons, List.all_cons, i1]; rfl
      · rw [D.pys, List.any_cons, List.any_cons, i2]; rfl
      · rw [D.pys] at hx
        rcases List.mem_cons.mp hx with rfl | hx
        · exact trivial
        · exact i3 x hx
    | _ => simp_all [D.isBl]
theorem callO_all (hG : GOk X G) (hc : X.calm = true) : CallO X G (.builtin "all") (g1 fAll) := by
  intro pins s σ H xs us Q I rv α0 α H0 ρ τ S es e m re he q
  obtain ⟨a, rfl, hf⟩ := g1_some he
  obtain ⟨x, rfl, r⟩ := re.one
  unfold fAll at hf
  split at hf
  · rename_i ds hs
    obtain ⟨hb, rfl⟩ := ite_some hf
    obtain ⟨b, vs, rfl, h6, h7⟩ := asSeq_ok m.rs m.rl r hs
    obtain ⟨u, rfl, ru⟩ := vals1 rv
    cases ru
    obtain ⟨its, as, rv', hz, rd, hl⟩ := seqRead hG I h6 h7 (bl_pure hb)
    obtain ⟨k1, k2, k3⟩ := bl_truthy hb
    have fin : ∀ h' tk, (∀ b o, s.heap.get? b = some o → h'.get? b = some o) → EP X pins σ Q (.bool ((D.pys ds).all PyData.truthy)) { s with heap := h', toks := tk } := fun h' tk hk => ⟨.bl _, H, I.kept hk, rfl, by rw [k1]; exact q α H _ m rfl⟩
    rcases hl with hl | hl
    · exact PySem.W.all_list_data (I.ok.hd hc) hl (by simpa using rd) (D.plains ds) k3 fin
    · exact PySem.W.all_tuple_data (I.ok.hd hc) hl (by simpa using rd) (D.plains ds) k3 fin
  · cases hf
theorem callO_any (hG : GOk X G) (hc : X.calm = true) : CallO X G (.builtin "any") (g1 fAny) := by
  intro pins s σ H xs us Q I rv α0 α H0 ρ τ S es e m re he q
  obtain ⟨a, rfl, hf⟩ := g1_some he
  obtain ⟨x, rfl, r⟩ := re.one
  unfold fAny at hf
  split at hf
  · rename_i ds hs
    obtain ⟨hb, rfl⟩ := ite_some hf
    obtain ⟨b, vs, rfl, h6, h7⟩ := asSeq_ok m.rs m.rl r hs
    obtain ⟨u, rfl, ru⟩ := vals1 rv
    cases ru
    obtain ⟨its, as, rv', hz, rd, hl⟩ := seqRead hG I h6 h7 (bl_pure hb)
    obtain ⟨k1, k2, k3⟩ := bl_truthy hb
    have fin : ∀ h' tk, (∀ b o, s.heap.get? b = some o → h'.get? b = some o) → EP X pins σ Q (.bool ((D.pys ds).any PyData.truthy)) { s with heap := h', toks := tk } := fun h' tk hk => ⟨.bl _, H, I.kept hk, rfl, by rw [k2]; exact q α H _ m rfl⟩
    rcases hl with hl | hl
    · exact PySem.W.any_list_data (I.ok.hd hc) hl (by simpa using rd) (D.plains ds) k3 fin
    · exact PySem.W.any_tuple_data (I.ok.hd hc) hl (by simpa using rd) (D.plains ds) k3 fin
  · cases hf
/-! ### sum of ints -/
def D.toI : D → Int
  | .int i => i
  | _ => 0
def D.isI : D → Bool
  | .int _ => true
  | _ => false
def sumD : List D → Int
  | [] => 0
  | d :: ds => d.toI + sumD ds
def fSum : EV → Env → Store → Option EV := fun e ρ S => match asSeq ρ S e with
  | some ds => if ds.all D.isI = true then some (.v (.int (sumD ds))) else none
  | none => none
theorem RDs.ints : ∀ {ds : List D} {vs : List V}, ds.all D.isI = true → RDs G α H ds vs → vs = (ds.map D.toI).map V.int
  | [], _, _, h => h
  | d :: ds, _, h, ⟨v, r, e, h1, h2⟩ => by
    rw [List.all_cons, Bool.and_eq_true] at h
    subst e
    rw [List.map_cons, List.map_cons, RDs.ints h.2 h2]
    cases d with
    | int i => rw [show v = .int i from h1]; rfl
    | _ => simp_all [D.isI]
theorem sumD_eq : ∀ ds : List D, sumD ds = (ds.map D.toI).sum
  | [] => rfl
  | d :: ds => by rw [sumD, List.map_cons, List.sum_cons, sumD_eq ds]
theorem vals_ints : ∀ {ns : List Int} {us : List Value}, Vals (ns.map V.int) us → ∃ xs : List (Int × Tok), us = xs.map (fun p => .int p.1 p.2) ∧ xs.map (·.1) = ns
  | [], us, h => by cases h; exact ⟨[], rfl, rfl⟩
  | n :: ns, _, .cons r t => by
    obtain ⟨k, rfl⟩ := r
    obtain ⟨xs, h1, h2⟩ := vals_ints t
    exact ⟨(n, k) :: xs, by rw [h1]; rfl, by rw [List.map_cons, h2]⟩
theorem preSum_list (xs : List (Int × Tok)) : ∀ n, n ≤ xs.length → preSum (numAt xs.toArray) n = ((xs.map (·.1)).take n).sum
  | 0, _ => by simp [preSum]
  | n + 1, h => by
    have e : (xs.map (·.1))[n]? = some (xs[n]'h).1 := by rw [List.getElem?_map, List.getElem?_eq_getElem h]; rfl
    rw [preSum, preSum_list xs n (Nat.le_of_succ_le h), List.take_add_one, e]
    have e2 : numAt xs.toArray n = (xs[n]'h).1 := by
      unfold numAt
      rw [List.getElem?_toArray, List.getElem?_eq_getElem h]
      rfl
    rw [e2]
    simp
theorem callO_sum (hG : GOk X G) (hc : X.calm = true) : CallO X G (.builtin "sum") (g1 fSum) := by
  intro pins s σ H xs us Q I rv α0 α H0 ρ τ S es e m re he q
  obtain ⟨a, rfl, hf⟩ := g1_some he
  obtain ⟨x, rfl, r⟩ := re.one
  unfold fSum at hf
  split at hf
  · rename_i ds hs
    obtain ⟨hb, rfl⟩ := ite_some hf
    obtain ⟨b, vs, rfl, h6, h7⟩ := asSeq_ok m.rs m.rl r hs
    have hv := h7.ints hb
    subst hv
    have fq : Q (.int (ds.map D.toI).sum) H := by rw [← sumD_eq]; exact q α H _ m rfl
    rw [← hG.K] at h6
    rcases h6 with h6 | h6
    · exact cr_sum hc pins s σ H _ us Q I rv ⟨b, _, rfl, h6, fq⟩
    · obtain ⟨u, rfl, ru⟩ := vals1 rv
      cases ru
      obtain ⟨its, rv', pl, hz⟩ := I.tuple h6
      obtain ⟨xs, h1, h2⟩ := vals_ints rv'
      subst h1
      refine PySem.W.ktm_sumG (xs := xs.toArray) (I.ok.hd hc) (by rw [show intItems xs.toArray = (xs.map fun p => Value.int p.1 p.2).toArray from by unfold intItems; simp]; exact pl) fun h' tk t' hk => ⟨.int _, H, I.kept hk, ⟨t', rfl⟩, ?_⟩
      rw [preSum_list xs _ (by simp)]
      rw [List.take_of_length_le (by simp), h2]
      exact fq
  · cases hf
end
end DL

set_option Elab.async false
set_option autoImplicit false
set_option linter.all false
set_option maxRecDepth 100000
set_option maxHeartbeats 2000000
namespace DL
open PySem PySem.Spec PyProof.Rows L2
/-! ## sorted -/
def leD (a b : D) : Bool := !(D.lt b a)
def insD (a : D) : List D → List D
  | [] => [a]
  | b :: r => if leD a b = true then a :: b :: r else b :: insD a r
def sortD : List D → List D
  | [] => []
  | a :: l => insD a (sortD l)
theorem leD_eq : leD = PySem.W.dataLe false D.py := by
  rw [PySem.W.dataLe_eq]
  rfl
theorem insD_pass (a : D) (l2 : List D) : ∀ l1 : List D, (∀ b ∈ l1, (!leD a b) = true) → insD a (l1 ++ l2) = l1 ++ insD a l2
  | [], _ => rfl
  | b :: l1, h => by
    have hb := h b List.mem_cons_self
    rw [List.cons_append, insD, if_neg (by simpa using hb), insD_pass a l2 l1 fun c hc => h c (List.mem_cons_of_mem _ hc), List.cons_append]
theorem sortD_eq : ∀ l : List D, sortD l = l.mergeSort (PySem.W.dataLe false D.py)
  | [] => by rw [List.mergeSort_nil]; rfl
  | a :: l => by
    have T : PySem.W.TotalLe (PySem.W.dataLe false D.py) := PySem.W.sortLe_total _ _ _
    have tr : ∀ a b c : D, PySem.W.dataLe false D.py a b = true → PySem.W.dataLe false D.py b c = true → PySem.W.dataLe false D.py a c = true := fun a b c => T.trans a b c
    have to : ∀ a b : D, (PySem.W.dataLe false D.py a b || PySem.W.dataLe false D.py b a) = true := fun a b => by
      rw [Bool.or_eq_true]; exact T.total a b
    obtain ⟨l1, l2, h1, h2, h3⟩ := List.mergeSort_cons tr to a l
    rw [sortD, sortD_eq l, h1, h2, insD_pass a l2 l1 fun b hb => by rw [leD_eq]; exact h3 b hb]
    congr 1
    have ps : (l1 ++ a :: l2).Pairwise fun a b => PySem.W.dataLe false D.py a b = true := by rw [← h1]; exact List.pairwise_mergeSort tr to _
    cases l2 with
    | nil => rfl
    | cons c r =>
      have := (List.pairwise_append.mp ps).2.1
      have hc := (List.pairwise_cons.mp this).1 c List.mem_cons_self
      rw [insD, if_pos (by rw [leD_eq]; exact hc)]
theorem alikes_pyA {ds : List D} (h : D.alikes ds = true) : PySem.W.AllAlike (ds.map D.py) := by
  unfold D.alikes at h
  rw [List.all_eq_true] at h
  intro a ha b hb
  obtain ⟨d, hd, rfl⟩ := List.mem_map.mp ha
  obtain ⟨e, he, rfl⟩ := List.mem_map.mp hb
  exact List.all_eq_true.mp (h d hd) e he
def D.tup1 : D → Bool
  | .tup (_ :: _) => true
  | _ => false
def sortOk (ds : List D) : Bool := D.pures ds && D.alikes ds && (ds.all D.tup1 || ds.all fun d => d.some && !d.isTup) && decide (PyData.depthAll (D.pys ds) ≤ 60)
section
variable {prog : Program} {w : World} {A : Around} {E : Value → Shared → Prop} {s : Shared}
/-- sorted(x), x of any kind whose items are collected -/
theorem sorted_by {x : Value} {vs : List Value} {bs : List D} {R : Value → D → Prop} {Q : Value → Shared → Prop}
    (hcol : ∀ Q' : List Value → Shared → Prop, (∀ h' tk, (∀ b o, s.heap.get? b = some o → h'.get? b = some o) → Q' vs { s with heap := h', toks := tk }) → wpAny (model prog w) A.in1 (collect x) Q' E s)
    (e : PySem.W.EachIs R vs bs) (er : PySem.W.EachIs (fun v b => ∃ as, Reads s.heap v (D.py b) as) vs bs) (hal : PySem.W.AllAlike (bs.map D.py)) (hk : PySem.W.Sortable (bs.map D.py)) (hL : bs.length ≤ sizeLine) (hu : ∀ b, b ∈ bs → A.units + 2 + (D.py b).depth < cLine)
    (h : ∀ (out : List Value) (h1 h2 : Heap) (tk n : Nat), PySem.W.EachIs R out (bs.mergeSort (PySem.W.dataLe false D.py)) → (∀ b o, s.heap.get? b = some o → h1.get? b = some o) → (∀ b o, h1.get? b = some o → h2.get? b = some o) → h2.get? h1.objs.size = some (seqObj "list" out.toArray n) → Q (.ref h1.objs.size) { s with heap := h2, toks := tk }) :
    wpAny (model prog w) A (call (.builtin "sorted") [x]) Q E s := by
  refine Calls.call_function_entry kind_sorted plain_sorted entry_sorted (args_sorted1 _) ?_
  unfold Builtin.«sorted»
  refine wpAny_bind (m := checkCount "sorted" 1 1 _) (wpAny_pure ?_)
  refine wpAny_bind (hcol _ fun h1 tk hk1 => ?_)
  have hvl : vs.length ≤ sizeLine := by rw [e.length]; exact hL
  refine wpAny_bind (wpAny_newList ?_ hvl)
  have ho : (h1.push (seqObj "list" vs.toArray 0)).get? h1.objs.size = some (seqObj "list" vs.toArray 0) := Heap.get?_push_size _ rfl
  have er' : PySem.W.EachIs (fun v b => ∃ as, Reads (PySem.W.sortingHeap (h1.push (seqObj "list" vs.toArray 0)) h1.objs.size vs) v (D.py b) as) vs bs :=
    er.mono fun _ _ ⟨as, r⟩ => ⟨as, PyProof.Rows.Reads.keeps (fun b o q => PySem.W.sortingHeap_old (Nat.ne_of_lt (Heap.lt_size (hk1 b o q))) (Heap.get?_push_of_some _ (hk1 b o q))) r⟩
  have hsz : (h1.push (seqObj "list" vs.toArray 0)).objs.size = h1.objs.size + 1 := Heap.size_push ..
  have sa : PySem.W.SortsAt prog w A.in1.in1 { s with heap := PySem.W.sortingHeap (h1.push (seqObj "list" vs.toArray 0)) h1.objs.size vs, toks := tk } (PySem.W.dataKind (PySem.W.sortingHeap (h1.push (seqObj "list" vs.toArray 0)) h1.objs.size vs) (bs.map D.py)) vs :=
    PySem.W.SortsAt.data (A := A.in1.in1) (PySem.W.each_map (R := fun v d => ∃ as, Reads (PySem.W.sortingHeap (h1.push (seqObj "list" vs.toArray 0)) h1.objs.size vs) v d as) D.py er') hal hk (fun d hd => by
      obtain ⟨b, hb, rfl⟩ := List.mem_map.mp hd
      exact hu b hb)
  refine wpAny_bind (wpAny_holding (wpAny_call_entry slot_list_sort ⟨_, ho, rfl⟩ entry_list_sort ?body (args_list_sort _)))
  case body =>
    refine PySem.W.list_sort_vals (A := A.in1.in1) (s := { s with heap := h1.push (seqObj "list" vs.toArray 0), toks := tk }) ho sa hvl ⟨_, rfl, wpAny_pure ⟨_, rfl, ?_⟩⟩
    have ol : (PySem.W.sortVals (PySem.W.dataKind (PySem.W.sortingHeap (h1.push (seqObj "list" vs.toArray 0)) h1.objs.size vs) (bs.map D.py)) false vs vs).length = bs.length := by
      rw [PySem.W.sortVals_length false rfl]; exact e.length
    obtain ⟨n, hn⟩ := sortedHeap_at (out := (PySem.W.sortVals (PySem.W.dataKind (PySem.W.sortingHeap (h1.push (seqObj "list" vs.toArray 0)) h1.objs.size vs) (bs.map D.py)) false vs vs).toArray) ho
    exact h _ h1 _ tk n (PySem.W.sortVals_data false e er' hal) hk1 (fun b o q => by
      have hb := Heap.lt_size q
      rw [sortedHeap_old (Nat.ne_of_lt hb) (show b < (h1.push (seqObj "list" vs.toArray 0)).objs.size by rw [hsz]; exact Nat.lt_succ_of_lt hb)]
      exact Heap.get?_push_of_some _ q) hn
end
section
variable {X : Cx} {G : Gc} {α : List Lc} {H H0 : Hp} {ρ : Env} {τ : L2.St} {S : Store}
/-- sorted, by what is collected -/
theorem sorted_D (hu : X.A.units + 64 < cLine) (hG : GOk X G) {pins : List (Addr × Obj)} {s : Shared} {σ : L2.St} {x : Value} {its : List Value} {vs : List V} {ds : List D} {Q : VK} (I : Inv X pins σ H s) (rv : Vals vs its) (h2 : RDs G α H ds vs) (hz : ds.length ≤ sizeLine) (ok : sortOk ds = true)
    (hcol : ∀ Q' : List Value → Shared → Prop, (∀ h' tk, (∀ b o, s.heap.get? b = some o → h'.get? b = some o) → Q' its { s with heap := h', toks := tk }) → wpAny (model X.prog X.w) X.A.in1 (collect x) Q' X.xe s)
    (q : ∀ p vs', H p = none → RDs G α H (sortD ds) vs' → Q (.ref p) (upd H p (.lst vs'))) : wpAny (model X.prog X.w) X.A (call (.builtin "sorted") [x]) (EP X pins σ Q) X.xe s := by
  unfold sortOk at ok
  simp only [Bool.and_eq_true, decide_eq_true_eq, Bool.or_eq_true] at ok
  obtain ⟨⟨⟨hp, ha⟩, hs⟩, hd⟩ := ok
  have dep : ∀ d ∈ ds, (D.py d).depth ≤ PyData.depthAll (D.pys ds) := by
    clear rv h2 hz ha hs hd hp hcol q
    induction ds with
    | nil => intro d hd; cases hd
    | cons e ds ih =>
      intro d hd
      rw [D.pys, PyData.depthAll]
      rcases List.mem_cons.mp hd with rfl | hd
      · exact Nat.le_max_left _ _
      · exact Nat.le_trans (ih d hd) (Nat.le_max_right _ _)
  have each : ∀ {ds : List D} {vs : List V} {its : List Value}, D.pures ds = true → Vals vs its → RDs G α H ds vs → PySem.W.EachIs (fun v d => (∃ y, RelV y v ∧ RD G α H d y) ∧ ∃ as, Reads s.heap v (D.py d) as) its ds := by
    intro ds
    induction ds with
    | nil => intro vs its _ rv h; cases h; cases rv; exact .nil
    | cons d ds ih =>
      rintro vs its p rv ⟨v, r, rfl, h1, h2⟩
      have p' : (D.pure d && D.pures ds) = true := p
      rw [Bool.and_eq_true] at p'
      cases rv with
      | cons r1 rr =>
        have dp : Dp X.K H v d.py := by rw [hG.K]; exact RD.dp d v p'.1 h1
        exact .cons ⟨⟨v, r1, h1⟩, Dp.reads I d.py v _ dp r1⟩ (ih p'.2 rr h2)
  have E := each hp rv h2
  refine sorted_by (R := fun v d => ∃ y, RelV y v ∧ RD G α H d y) hcol (E.mono fun _ _ t => t.1) (E.mono fun _ _ t => t.2) ?_ ?_ hz (fun b hb => ?_) fun out h1 h3 tk n eo hk1 hk2 hn => ?_
  · have := alikes_pyA ha
    exact this
  · rcases hs with hs | hs
    · refine .inl fun d hd => ?_
      obtain ⟨b, hb, rfl⟩ := List.mem_map.mp hd
      have := List.all_eq_true.mp hs b hb
      cases b with
      | tup xs =>
        cases xs with
        | nil => cases this
        | cons y ys => exact ⟨y.py, D.pys ys, rfl⟩
      | _ => cases this
    · refine .inr fun d hd => ?_
      obtain ⟨b, hb, rfl⟩ := List.mem_map.mp hd
      have k1 := List.all_eq_true.mp hs b hb
      have k2 := (D.pures_iff _).mp hp b hb
      refine ⟨?_, fun xs => ?_⟩ <;> (cases b <;> simp_all [D.some, D.isTup, D.py, D.pure])
  · have := dep b hb
    omega
  · rw [← sortD_eq] at eo
    have back : ∀ {out : List Value} {ds : List D}, PySem.W.EachIs (fun v d => ∃ y, RelV y v ∧ RD G α H d y) out ds → ∃ vs', Vals vs' out ∧ RDs G α H ds vs' := by
      intro out ds e
      induction e with
      | nil => exact ⟨[], .nil, rfl⟩
      | cons r t ih =>
        obtain ⟨y, r1, r2⟩ := r
        obtain ⟨vs', k1, k2⟩ := ih
        exact ⟨y :: vs', .cons r1 k1, y, vs', rfl, r2, k2⟩
    obtain ⟨vs', k1, k2⟩ := back eo
    have I1 : Inv X pins σ H { s with heap := h1, toks := tk } := I.kept hk1
    have fr := I1.hok.fresh (Nat.le_refl _)
    have ll : vs'.length ≤ sizeLine := by
      rw [← k2.len, sortD_eq, List.length_mergeSort]
      exact hz
    exact ⟨.ref h1.objs.size, _, I1.laid (t' := tk) hk2 (Nat.le_refl _) (show ObjOk X.prog X.w _ _ _ (.lst vs') from ⟨ll, out, n, k1, hn⟩), rfl, q _ _ fr k2⟩
theorem pairs_keys {P : Program} {w : World} : ∀ {es : List DictEntry} {vs : List (Key × Value)}, Pairs (mixKind P w) es vs → Vals ((vs.map (·.1)).map kV) (es.map (·.key))
  | _, _, .nil => .nil
  | _, _, .cons h _ t => .cons (keyIs_rel h) (pairs_keys t)
theorem kl_keys : ∀ {kvs : List (D × D)} {ys : List (Key × V)}, Paired (RKl G α H) kvs ys → RDs G α H (kvs.map (·.1)) (ys.map fun y => kV y.1)
  | _, _, .nil => rfl
  | _, _, .cons (a := p) (b := y) r t => by
    refine ⟨_, _, rfl, ?_, kl_keys t⟩
    have h := r.1
    cases hp : p.1 with
    | int i => (rw [hp] at h; show RD G α H p.1 (kV y.1); rw [hp, ← Option.some.inj h]; exact rfl)
    | str i => (rw [hp] at h; show RD G α H p.1 (kV y.1); rw [hp, ← Option.some.inj h]; exact rfl)
    | _ => rw [hp] at h; cases h
theorem kt_keys : ∀ {kvs : List (D × D)} {ys : List (NestedKey × Addr × Value)}, Paired (RKt G α H) kvs ys → RDs G α H (kvs.map (·.1)) (ys.map fun y => V.ref y.2.1)
  | _, _, .nil => rfl
  | _, _, .cons (a := p) (b := y) r t => ⟨_, _, rfl, r.2.2.2.2.1, kt_keys t⟩
theorem refs_vals (f : NestedKey × Addr × Value → DictEntry) : ∀ xs : List (NestedKey × Addr × Value), (∀ y, (f y).key = .ref y.2.1) → Vals (xs.map fun y => V.ref y.2.1) (xs.map ((fun x => x.key) ∘ f))
  | [], _ => .nil
  | y :: ys, h => .cons (show RelV (.ref y.2.1) (f y).key by rw [h y]; exact rfl) (refs_vals f ys h)
/-- the keys of a dict, as the library's entries -/
theorem dict_keys (hG : GOk X G) {pins : List (Addr × Obj)} {s : Shared} {σ : L2.St} {a : Addr} {kvs : List (D × D)} (I : Inv X pins σ H s) (h : RDc G α H a kvs) :
    ∃ (o : Obj) (es : Array DictEntry) (ep : Nat) (vs : List V), (a == sysModules) = false ∧ s.heap.get? a = some o ∧ o.ExactDict ∧ o.data = .dict es ep ∧ Vals vs (es.toList.map (·.key)) ∧ RDs G α H (kvs.map (·.1)) vs ∧ kvs.length ≤ sizeLine := by
  rcases h with ⟨ys, h, r⟩ | ⟨xs, h, r⟩
  · obtain ⟨hz, hd, vs, rel, o, es, ep, q1, q2, q3, q4, q5, q6⟩ := dk_of I.hok h
    refine ⟨o, es, ep, ys.map fun y => kV y.1, hd, q1, q2, q3, ?_, ?_, by rw [Paired.length r]; exact hz⟩
    · have ks : ys.map (·.1) = vs.map (·.1) := KV.keys rel
      have e : (ys.map fun y => kV y.1) = (vs.map (·.1)).map kV := by rw [← ks, List.map_map]; rfl
      rw [e]
      exact pairs_keys q5
    · exact kl_keys r
  · obtain ⟨⟨hd, hz, nd, o, es, ep, q1, q2, q3, q4⟩, _, _⟩ := I.hok a _ h
    refine ⟨o, es, ep, xs.map fun y => .ref y.2.1, hd, q1, q2, q3, ?_, ?_, by rw [Paired.length r]; exact hz⟩
    · rw [q4, List.map_map]
      exact refs_vals _ xs fun _ => rfl
    · exact kt_keys r
def fSorted : EV → Env → Store → Option EV := fun e ρ S => match asK ρ S e with
  | some kvs => if sortOk (kvs.map (·.1)) = true then some (.fl (sortD (kvs.map (·.1)))) else none
  | none => match asSeq ρ S e with
    | some ds => if sortOk ds = true then some (.fl (sortD ds)) else none
    | none => none
theorem callO_sorted (hu : X.A.units + 64 < cLine) (hG : GOk X G) (hc : X.calm = true) : CallO X G (.builtin "sorted") (g1 fSorted) := by
  intro pins s σ H xs us Q I rv α0 α H0 ρ τ S es e m re he q
  obtain ⟨a, rfl, hf⟩ := g1_some he
  obtain ⟨x, rfl, r⟩ := re.one
  unfold fSorted at hf
  split at hf
  · rename_i kvs hk
    obtain ⟨ok, rfl⟩ := ite_some hf
    obtain ⟨b, rfl, h1⟩ := asK_ok m.rs m.rl r hk
    obtain ⟨u, rfl, ru⟩ := vals1 rv
    cases ru
    obtain ⟨o, es, ep, vs, hd, q1, q2, q3, k1, k2, k3⟩ := dict_keys hG I h1
    refine sorted_D hu hG I k1 k2 (by rw [List.length_map]; exact k3) ok (fun Q' hq => ?_) fun p vs' hp rs' => q α _ _ (m.laid hp) (.newL m hp rs')
    have hn : es.size ≤ sizeLine := by
      have := Paired.length k1
      rw [List.length_map] at this
      have e1 : es.toList.length = es.size := Array.length_toList
      have e2 := k2.len
      rw [List.length_map] at e2
      omega
    refine PySem.W.kdu_collect (A := X.A.in1) (kdl_raw hd q2 q3) (I.ok.hd hc) q1 hn fun h' tk acc hk2 it => ?_
    have ea : acc.toList = es.toList.map (·.key) := by
      apply List.ext_getElem?
      intro j
      rw [List.getElem?_map]
      cases hj : acc.toList[j]? with
      | none =>
        have hl := List.getElem?_eq_none_iff.mp hj
        rw [Array.length_toList, it.1] at hl
        rw [List.getElem?_eq_none (by rw [Array.length_toList]; exact hl)]
        rfl
      | some v =>
        obtain ⟨en, hen, hv⟩ := it.2 j v (by rw [← Array.getElem?_toList]; exact hj)
        rw [Array.getElem?_toList, hen, hv]
        rfl
    rw [ea]
    exact hq h' tk hk2
  · split at hf
    · rename_i ds hs
      obtain ⟨ok, rfl⟩ := ite_some hf
      obtain ⟨b, vs, rfl, h1, h2⟩ := asSeq_ok m.rs m.rl r hs
      obtain ⟨u, rfl, ru⟩ := vals1 rv
      cases ru
      have fin : ∀ p vs', H p = none → RDs G α H (sortD ds) vs' → Q (.ref p) (upd H p (.lst vs')) := fun p vs' hp rs' => q α _ _ (m.laid hp) (.newL m hp rs')
      rw [← hG.K] at h1
      rcases h1 with h1 | h1
      · obtain ⟨its, rv', pl, hz⟩ := I.list h1
        obtain ⟨o, ho, hcl, n, hd⟩ := pl.isList
        refine sorted_D hu hG I rv' h2 (by rw [h2.len]; exact hz) ok (fun Q' hq => ?_) fin
        exact wpAny_collect_seq b (.inl rfl) ho hcl hd (fun h' hk => hq h' s.toks hk) (by rw [List.size_toArray, ← rv'.length]; exact hz)
      · obtain ⟨its, rv', ⟨o, ho, hcl, n, hd⟩, hz⟩ := I.tuple h1
        refine sorted_D hu hG I rv' h2 (by rw [h2.len]; exact hz) ok (fun Q' hq => ?_) fin
        exact wpAny_collect_seq b (.inr rfl) ho hcl hd (fun h' hk => hq h' s.toks hk) (by rw [List.size_toArray, ← rv'.length]; exact hz)
    · cases hf
end
end DL

set_option Elab.async false
set_option autoImplicit false
set_option linter.all false
set_option maxRecDepth 100000
set_option maxHeartbeats 2000000
namespace DL
open PySem PySem.Spec PyProof.Rows L2
/-! ## defs -/
abbrev MF := List D → Store → R EV
def Gr (G : Gc) (α : List Lc) (H : Hp) (r : R EV) (Q : VK) (E : XK) : Prop := match r with
  | .ok e S' => ∀ α' H' x, Post α H α' H' → RS G α' H' S' → RE G α' H' [] [] H e x → Q x H'
  | .exc c d S' => ∀ α' H' dd v, Post α H α' H' → RS G α' H' S' → H' dd = some (.xd [("value", v)]) → RD G α' H' d v → E (.ref (G.cls c)) (some dd) H'
  | .bad => False
def spOf (G : Gc) (n : Nat) (m : MF) : Sp := fun vs H Q E => ∃ α S ds, RS G α H S ∧ RDs G α H ds vs ∧ ds.length = n ∧ Gr G α H (m ds S) Q E
theorem spOf_len {G : Gc} {n : Nat} {m : MF} (vs : List V) (H : Hp) (Q : VK) (E : XK) (h : spOf G n m vs H Q E) : vs.length = n := by
  obtain ⟨α, S, ds, _, r, e, _⟩ := h
  rw [← r.len, e]
/-! ### what is no longer held is dropped -/
mutual
def D.under (n : Nat) : D → Bool
  | .tup ds => D.unders n ds
  | .cl ds => D.unders n ds
  | .ref k => decide (k < n)
  | .exc _ d => D.under n d
  | _ => true
def D.unders (n : Nat) : List D → Bool
  | [] => true
  | d :: r => D.under n d && D.unders n r
end
def kvBelow (n : Nat) : List (D × D) → Bool
  | [] => true
  | p :: r => D.under n p.1 && D.under n p.2 && kvBelow n r
def obelow (n : Nat) : List (Option D) → Bool
  | [] => true
  | some d :: r => D.under n d && obelow n r
  | none :: r => obelow n r
def Ob.under (n : Nat) : Ob → Bool
  | .lst ds => D.unders n ds
  | .dic kvs => kvBelow n kvs
  | .ins _ fs => obelow n fs
def sBelow (n : Nat) : Store → Bool
  | [] => true
  | o :: r => o.under n && sBelow n r
def clipE (n : Nat) (S : Store) : EV → Option EV
  | .v (.ref k) => if k < n then some (.v (.ref k)) else match S[k]? with
    | some (.lst ds) => if D.unders n ds = true then some (.fl ds) else none
    | some (.dic kvs) => if kvBelow n kvs = true then some (.fd kvs) else none
    | _ => none
  | .v d => if d.under n = true then some (.v d) else none
  | .fl ds => if D.unders n ds = true then some (.fl ds) else none
  | .fd kvs => if kvBelow n kvs = true then some (.fd kvs) else none
  | .sl _ => none
def gcR (n : Nat) : R EV → R EV
  | .ok e S => if sBelow n (S.take n) = true then match clipE n S e with
    | some e' => .ok e' (S.take n)
    | none => .ok e S
    else .ok e S
  | .exc c d S => if (sBelow n (S.take n) && d.under n) = true then .exc c d (S.take n) else .exc c d S
  | .bad => .bad
section
variable {G : Gc} {α α1 : List Lc} {H H1 : Hp} {S S1 : Store} {n : Nat}
mutual
theorem RD.clip (p : α <+: α1) (hn : α.length = n) : ∀ (d : D) (v : V), d.under n = true → RD G α1 H d v → RD G α H d v
  | .non, _, _, h => h
  | .bl _, _, _, h => h
  | .int _, _, _, h => h
  | .str _, _, _, h => h
  | .tup ds, _, b, ⟨a, vs, e, h1, h2⟩ => ⟨a, vs, e, h1, RDs.clip p hn ds vs b h2⟩
  | .cl ds, _, b, ⟨a, vs, e, h1, h2⟩ => ⟨a, vs, e, h1, RDs.clip p hn ds vs b h2⟩
  | .ref k, _, b, ⟨l, e, h⟩ => by
    have b' : k < n := by simpa [D.under] using b
    obtain ⟨t, rfl⟩ := p
    rw [List.getElem?_append_left (by omega)] at e
    exact ⟨l, e, h⟩
  | .exc c d, _, b, ⟨a, dx, w, e, h1, h2, h3⟩ => ⟨a, dx, w, e, h1, h2, RD.clip p hn d w b h3⟩
theorem RDs.clip (p : α <+: α1) (hn : α.length = n) : ∀ (ds : List D) (vs : List V), D.unders n ds = true → RDs G α1 H ds vs → RDs G α H ds vs
  | [], _, _, h => h
  | d :: ds, _, b, ⟨v, r, e, h1, h2⟩ => by
    have b' : (D.under n d && D.unders n ds) = true := b
    rw [Bool.and_eq_true] at b'
    exact ⟨v, r, e, RD.clip p hn d v b'.1 h1, RDs.clip p hn ds r b'.2 h2⟩
end
theorem RDc.clip {a : Addr} {kvs : List (D × D)} (p : α <+: α1) (hn : α.length = n) (b : kvBelow n kvs = true) (h : RDc G α1 H a kvs) : RDc G α H a kvs := by
  have go1 : ∀ {kvs : List (D × D)} {ys : List (Key × V)}, kvBelow n kvs = true → Paired (RKl G α1 H) kvs ys → Paired (RKl G α H) kvs ys := by
    intro kvs ys b r
    induction r with
    | nil => exact .nil
    | @cons q y qs ys r t ih =>
      have b' : (D.under n q.1 && D.under n q.2 && kvBelow n qs) = true := b
      simp only [Bool.and_eq_true] at b'
      exact .cons ⟨r.1, RD.clip p hn _ _ b'.1.2 r.2⟩ (ih b'.2)
  have go2 : ∀ {kvs : List (D × D)} {ys : List (NestedKey × Addr × Value)}, kvBelow n kvs = true → Paired (RKt G α1 H) kvs ys → Paired (RKt G α H) kvs ys := by
    intro kvs ys b r
    induction r with
    | nil => exact .nil
    | @cons q y qs ys r t ih =>
      have b' : (D.under n q.1 && D.under n q.2 && kvBelow n qs) = true := b
      simp only [Bool.and_eq_true] at b'
      obtain ⟨h1, h2, h3, h4, h5, v, h6, h7⟩ := r
      exact .cons ⟨h1, h2, h3, h4, RD.clip p hn _ _ b'.1.1 h5, v, h6, RD.clip p hn _ _ b'.1.2 h7⟩ (ih b'.2)
  rcases h with ⟨ys, h, r⟩ | ⟨xs, h, r⟩
  · exact .inl ⟨ys, h, go1 b r⟩
  · exact .inr ⟨xs, h, go2 b r⟩
theorem obelow_at : ∀ {fs : List (Option D)} {i : Nat} {d : D}, obelow n fs = true → fs[i]? = some (some d) → d.under n = true
  | [], _, _, _, h => by simp at h
  | some e :: r, 0, d, b, h => by
    have b' : (D.under n e && obelow n r) = true := b
    rw [Bool.and_eq_true] at b'
    simp only [List.getElem?_cons_zero, Option.some.injEq] at h
    rw [← h]; exact b'.1
  | none :: r, 0, d, b, h => by simp at h
  | some e :: r, i + 1, d, b, h => by
    have b' : (D.under n e && obelow n r) = true := b
    rw [Bool.and_eq_true] at b'
    exact obelow_at b'.2 (by simpa using h)
  | none :: r, i + 1, d, b, h => obelow_at (fs := r) b (by simpa using h)
theorem RO.clip {l : Lc} {o : Ob} (p : α <+: α1) (hn : α.length = n) (b : o.under n = true) (h : RO G α1 H l o) : RO G α H l o := by
  cases o with
  | lst ds => obtain ⟨e, vs, h1, h2⟩ := h; exact ⟨e, vs, h1, RDs.clip p hn _ _ b h2⟩
  | dic kvs => obtain ⟨e, h1⟩ := h; exact ⟨e, h1.clip p hn b⟩
  | ins c fs => obtain ⟨e, h1, vs, h2, h3⟩ := h; exact ⟨e, h1, vs, h2, fun i d q => let ⟨v, q1, q2⟩ := h3 i d q; ⟨v, q1, RD.clip p hn _ _ (obelow_at b q) q2⟩⟩
theorem sBelow_at : ∀ {S : Store} {i : Nat} {o : Ob}, sBelow n S = true → S[i]? = some o → o.under n = true
  | [], _, _, _, h => by simp at h
  | e :: r, 0, o, b, h => by
    have b' : (Ob.under n e && sBelow n r) = true := b
    rw [Bool.and_eq_true] at b'
    simp only [List.getElem?_cons_zero, Option.some.injEq] at h
    rw [← h]; exact b'.1
  | e :: r, i + 1, o, b, h => by
    have b' : (Ob.under n e && sBelow n r) = true := b
    rw [Bool.and_eq_true] at b'
    exact sBelow_at b'.2 (by simpa using h)
theorem RS.clip (p : α <+: α1) (hn : α.length = n) (b : sBelow n (S1.take n) = true) (r : RS G α1 H1 S1) : RS G α H1 (S1.take n) := by
  have at_ : ∀ {i : Nat} {l : Lc}, α[i]? = some l → α1[i]? = some l := fun {i l} h => by
    obtain ⟨t, rfl⟩ := p
    rw [List.getElem?_append_left (List.getElem?_eq_some_iff.mp h).1]; exact h
  refine ⟨?_, fun i j li lj c h1 h2 => r.sep i j li lj c (at_ h1) (at_ h2), fun i l o h1 h2 => ?_, r.tab⟩
  · rw [List.length_take, ← r.len, hn]
    have : α.length ≤ α1.length := p.length_le
    omega
  · have h3 : S1[i]? = some o := by
      rw [List.getElem?_take] at h2
      split at h2
      · exact h2
      · cases h2
    exact (r.obj i l o (at_ h1) h3).clip p hn (sBelow_at b h2)
theorem Post.clip (p : Post α H α1 H1) : Post α H α H1 := ⟨List.prefix_rfl, fun _ h => .inl h, p.keep, p.there⟩
theorem inA.pre' (p : α <+: α1) {b : Addr} (h : ¬ inA α1 b) : ¬ inA α b := fun z => h (z.pre p)
theorem RE.clip {e e' : EV} {x : V} (p : Post α H α1 H1) (rs : RS G α1 H1 S1) (hn : α.length = n) (h : RE G α1 H1 [] [] H e x) (c : clipE n S1 e = some e') : RE G α H1 [] [] H e' x := by
  have plain : ∀ d : D, e = .v d → d.under n = true → e' = .v d → RE G α H1 [] [] H e' x := fun d q b q' => by
    subst q q'
    exact RD.clip p.pre hn d x b h
  have gen : ∀ d : D, e = .v d → (if d.under n = true then some (EV.v d) else none) = some e' → RE G α H1 [] [] H e' x := fun d q c => by
    obtain ⟨b, q'⟩ := ite_some c
    exact plain d q b q'.symm
  cases e with
  | fl ds =>
    obtain ⟨b, rfl⟩ := ite_some c
    obtain ⟨a, vs, e, h1, h2, h3, h4⟩ := h
    exact ⟨a, vs, e, h1, RDs.clip p.pre hn _ _ b h2, inA.pre' p.pre h3, h4⟩
  | fd ds =>
    obtain ⟨b, rfl⟩ := ite_some c
    obtain ⟨a, e, h1, h3, h4⟩ := h
    exact ⟨a, e, h1.clip p.pre hn b, inA.pre' p.pre h3, h4⟩
  | sl i => cases c
  | v d =>
    cases d with
    | ref k =>
      replace c : (if k < n then some (EV.v (.ref k)) else match S1[k]? with
        | some (.lst ds) => if D.unders n ds = true then some (.fl ds) else none
        | some (.dic kvs) => if kvBelow n kvs = true then some (.fd kvs) else none
        | _ => none) = some e' := c
      by_cases hk : k < n
      · rw [if_pos hk] at c
        exact plain _ rfl (by simp [D.under, hk]) (Option.some.inj c).symm
      · rw [if_neg hk] at c
        obtain ⟨l, h1, rfl⟩ := h
        have out : ¬ inA α l.a := fun ⟨l', hm, hb⟩ => by
          obtain ⟨i, hi⟩ := List.getElem?_of_mem hm
          have hlt := (List.getElem?_eq_some_iff.mp hi).1
          have h2 : α1[i]? = some l' := by
            obtain ⟨t, rfl⟩ := p.pre
            rw [List.getElem?_append_left hlt]; exact hi
          have := rs.sep k i l l' l.a h1 h2 (.inl rfl) hb
          omega
        have h0 : H l.a = none := (p.new _ (inA.at h1)).resolve_left out
        split at c
        · rename_i ds hs
          obtain ⟨b, rfl⟩ := ite_some c
          obtain ⟨_, vs, h2, h3⟩ := rs.obj k l _ h1 hs
          exact ⟨l.a, vs, rfl, h2, RDs.clip p.pre hn _ _ b h3, out, h0⟩
        · rename_i kvs hs
          obtain ⟨b, rfl⟩ := ite_some c
          obtain ⟨_, h2⟩ := rs.obj k l _ h1 hs
          exact ⟨l.a, rfl, h2.clip p.pre hn b, out, h0⟩
        · cases c
    | non => exact gen _ rfl c
    | bl _ => exact gen _ rfl c
    | int _ => exact gen _ rfl c
    | str _ => exact gen _ rfl c
    | tup _ => exact gen _ rfl c
    | cl _ => exact gen _ rfl c
    | exc _ _ => exact gen _ rfl c
theorem Gr.gc {r : R EV} {Q : VK} {E : XK} (hn : α.length = n) (g : Gr G α H (gcR n r) Q E) : Gr G α H r Q E := by
  cases r with
  | bad => exact g
  | exc c d S1 =>
    replace g : Gr G α H (if (sBelow n (S1.take n) && d.under n) = true then .exc c d (S1.take n) else .exc c d S1) Q E := g
    intro α1 H1 dd v p rs h1 h2
    by_cases b : (sBelow n (S1.take n) && d.under n) = true
    · rw [if_pos b] at g
      rw [Bool.and_eq_true] at b
      exact g α H1 dd v p.clip (rs.clip p.pre hn b.1) h1 (RD.clip p.pre hn d v b.2 h2)
    · rw [if_neg b] at g
      exact g α1 H1 dd v p rs h1 h2
  | ok e S1 =>
    replace g : Gr G α H (if sBelow n (S1.take n) = true then match clipE n S1 e with
      | some e' => .ok e' (S1.take n)
      | none => .ok e S1
      else .ok e S1) Q E := g
    intro α1 H1 x p rs h1
    by_cases b : sBelow n (S1.take n) = true
    · rw [if_pos b] at g
      cases hc : clipE n S1 e with
      | none => rw [hc] at g; exact g α1 H1 x p rs h1
      | some e' => rw [hc] at g; exact g α H1 x p.clip (rs.clip p.pre hn b) (h1.clip p rs hn hc)
    · rw [if_neg b] at g
      exact g α1 H1 x p rs h1
end
/-! ### a def's body -/
def startE (n : Nat) (ds : List D) : Env := ds.map (fun d => some (.v d)) ++ List.replicate (n - ds.length) none
def mBody (ms : MS) (ρ : Env) (S : Store) : R EV := match ms ρ S with
  | .next _ S' => .ok (.v .non) S'
  | .ret e S' => .ok e S'
  | .exc c d _ S' => .exc c d S'
  | _ => .bad
def mFun (n : Nat) (ms : MS) : MF := fun ds S => mBody ms (startE n ds) S
/-- the same, what is no longer held dropped -/
def mFunC (n : Nat) (ms : MS) : MF := fun ds S => gcR S.length (mBody ms (startE n ds) S)
theorem start_rl {G : Gc} {α : List Lc} {H : Hp} {N : List Str} {ds : List D} {vs : List V} (r : RDs G α H ds vs) : RL G α H (startE N.length ds) (start N vs) := by
  have e : ds.length = vs.length := r.len
  refine ⟨?_, fun i s h => ?_, fun i j s t a h1 _ o1 => ?_⟩
  · unfold startE L2.start
    simp [e]
  · unfold startE at h
    by_cases hi : i < ds.length
    · rw [List.getElem?_append_left (by simpa using hi), List.getElem?_map, List.getElem?_eq_getElem hi] at h
      cases h
      obtain ⟨v, h1, h2⟩ := r.at (List.getElem?_eq_getElem hi)
      refine ⟨v, ?_, h2⟩
      unfold L2.start
      rw [List.getElem?_append_left (by simp; omega), List.getElem?_map, h1]
      rfl
    · rw [List.getElem?_append_right (by simp; omega), List.getElem?_replicate] at h
      split at h <;> cases h
  · unfold startE at h1
    by_cases hi : i < ds.length
    · rw [List.getElem?_append_left (by simpa using hi), List.getElem?_map, List.getElem?_eq_getElem hi] at h1
      cases h1
      cases o1
    · rw [List.getElem?_append_right (by simp; omega), List.getElem?_replicate] at h1
      split at h1 <;> cases h1
theorem start_sf {G : Gc} {α : List Lc} {H : Hp} {S : Store} {N : List Str} {ds : List D} {vs : List V} (rs : RS G α H S) (r : RDs G α H ds vs) : Sf G α H α (startE N.length ds) S (start N vs) H := by
  refine ⟨Post.refl _ _, rs, start_rl r, fun i s a h o _ => ?_⟩
  unfold startE at h
  by_cases hi : i < ds.length
  · rw [List.getElem?_append_left (by simpa using hi), List.getElem?_map, List.getElem?_eq_getElem hi] at h
    cases h
    cases o
  · rw [List.getElem?_append_right (by simp; omega), List.getElem?_replicate] at h
    split at h <;> cases h
theorem body_reads {G : Gc} {α : List Lc} {H : Hp} {S : Store} {N : List Str} {ds : List D} {vs : List V} {ms : MS} {Q : VK} {E : XK} (rs : RS G α H S) (r : RDs G α H ds vs) (g : Gr G α H (mBody ms (startE N.length ds) S) Q E) :
    sOf G ms (fun c d _ H' => E c d H') { nx := fun _ H' => Q .non H', rt := Q, bk := fun _ _ => False, ct := fun _ _ => False } (start N vs) H := by
  refine ⟨α, H, α, _, S, start_sf rs r, ?_⟩
  unfold mBody at g
  cases hr : ms (startE N.length ds) S with
  | next ρ1 S1 => rw [hr] at g; exact fun α1 σ1 H1 f => g α1 H1 .non f.post f.rs rfl
  | ret e S1 => rw [hr] at g; exact fun α1 H1 x p q1 q2 => g α1 H1 x p q1 q2
  | brk ρ1 S1 => rw [hr] at g; exact g.elim
  | cont ρ1 S1 => rw [hr] at g; exact g.elim
  | exc c d ρ1 S1 => rw [hr] at g; exact fun α1 σ1 H1 dd v f h1 h2 => g α1 H1 dd v f.post f.rs h1 h2
  | bad => rw [hr] at g; exact g.elim
section
variable {P : Program} {w : World} {K : PySem.W.Frag} {mg : Str → Option Value} {base : Heap} {G : Gc}
/-- THE RULE for a def -/
theorem fnOk_of {qual : Str} {body : List Stmt} {scope : Scope} {dkw : List (Str × Expr)} {x : Str} {st : Stmt} {f : Addr} {fd : FuncData} {N ps : List Str} {k : Nat} {m : MF} {ms : MS}
    (F : ∀ (sp : Sp), (∀ vs H Q E, sp vs H Q E → vs.length = ps.length) →
      (∀ (cdv : Value) (A : Around) (outer : List PySem.Env) (s : Shared) (H : Hp) (vs : List V) (Q : VK) (E : XK), Room k (A.deeper (envOfC qual scope s.heap.objs.size f cdv)) → sp vs H Q E →
        ∃ t, PSs (cxOf (L2.CX P w) P w K mg base N qual scope f cdv A outer s H E) body t ∧ t { nx := fun _ H' => Q .non H', rt := Q } (start N vs) H) → FnOk P w K mg base (L2.CX P w) (k + 1) f fd ps sp)
    (hm : ∀ α H S ds Q E, α.length = S.length → Gr G α H (m ds S) Q E → Gr G α H (mBody ms (startE N.length ds) S) Q E)
    (h : ∀ (cdv : Value) (A : Around) (outer : List PySem.Env) (s : Shared) (H : Hp) (E : XK), Room k (A.deeper (envOfC qual scope s.heap.objs.size f cdv)) → XSs (cxOf (L2.CX P w) P w K mg base N qual scope f cdv A outer s H E) G body ms) :
    FnOk P w K mg base (L2.CX P w) (k + 1) f fd ps (spOf G ps.length m) := by
  refine F _ (fun vs H Q E h => spOf_len vs H Q E h) fun cdv A outer s H vs Q E hr hsp => ?_
  obtain ⟨α, S, ds, rs, r, e, g⟩ := hsp
  exact ⟨_, (h cdv A outer s H E hr).run _ (takes_of rfl rfl rfl rfl), body_reads rs r (hm α H S ds Q E rs.len g)⟩
theorem hm_plain {n : Nat} {ms : MS} : ∀ α H S ds Q E, α.length = S.length → Gr G α H (mFun n ms ds S) Q E → Gr G α H (mBody ms (startE n ds) S) Q E := fun _ _ _ _ _ _ _ g => g
theorem hm_clip {n : Nat} {ms : MS} : ∀ α H S ds Q E, α.length = S.length → Gr G α H (mFunC n ms ds S) Q E → Gr G α H (mBody ms (startE n ds) S) Q E := fun _ _ _ _ _ _ e g => Gr.gc e g
end
/-! ### calls -/
/-- a call of the def at f by values -/
def CallsTo (X : Cx) (G : Gc) (f : Addr) (n : Nat) (m : MF) : Prop := ∀ (pins : List (Addr × Obj)) (s : Shared) (σ : L2.St) (H : Hp) (vs : List V) (us : List Value) (Q : VK) (E : XK), Inv X pins σ H s → Vals vs us → spOf G n m vs H Q E → PassesAt (L2.CX X.prog X.w) X σ E →
  wpAny (model X.prog X.w) X.A (call (.ref f) us) (EP X pins σ Q) X.xe s
def mFn (n : Nat) (m : MF) (ma : MA) : ME := fun ρ S => (ma ρ S).bind fun es S1 => match pub es S1 with
  | some (ds, S2) => if ds.length = n then m ds S2 else .bad
  | none => .bad
section
variable {X : Cx} {G : Gc} {f : Addr} {n k : Nat} {m : MF} {x : Str} {p pos : Pos} {e : Expr} {es : List Expr} {ma : MA} {fd : FuncData} {ps : List Str}
theorem callsTo_fn (F : FnOk X.prog X.w X.K X.mg X.base (L2.CX X.prog X.w) k f fd ps (spOf G ps.length m)) (hr : Room k X.A) (hb : Binds X.K fd ps []) : CallsTo X G f ps.length m :=
  fun pins s σ H vs us Q E I r h hx => run_fnS (E := fun _ => E) F hr hb hx I r h
theorem Gr.of {W : WX} {α α1 : List Lc} {H H1 : Hp} {ρ : Env} {σ : L2.St} {S1 : Store} {r : R EV} {Q : VK} (m : Mid G α H ρ σ α1 H1 S1) (g : Gd G W α H ρ σ r Q) : Gr G α1 H1 r Q (WE W σ) := by
  have mid : ∀ {α' H' S'}, Post α1 H1 α' H' → RS G α' H' S' → Mid G α H ρ σ α' H' S' := fun p rs => ⟨m.post.trans p, rs, m.rl.kept m.rs.adm p, m.rl0⟩
  cases r with
  | bad => exact g
  | exc c d S' => exact fun α' H' dd v p rs h1 h2 => g α' H' dd v (mid p rs) h1 h2
  | ok e S' =>
    refine fun α' H' x p rs h => g α' H' x (mid p rs) ?_
    cases e with
    | v d => exact h
    | fl ds => obtain ⟨a, vs, q, h1, h2, h3, h4⟩ := h; exact ⟨a, vs, q, h1, h2, h3, m.post.unt h4⟩
    | fd ds => obtain ⟨a, q, h1, h3, h4⟩ := h; exact ⟨a, q, h1, h3, m.post.unt h4⟩
    | sl i => obtain ⟨h1, _⟩ := h; simp at h1
theorem tOf_fn {W : WX} {σ : L2.St} {H : Hp} {Q : VK} (h : tOf G (mFn n m ma) W σ H Q) : tOfA G ma W σ H fun vs H1 => spOf G n m vs H1 Q (WE W σ) := by
  obtain ⟨α, ρ, S, rs, rl, g1⟩ := h
  refine tOfA_mono (stepA (F := fun z => Gd G W α H ρ σ z Q) (ma := ma) (.refl rs rl) (fun c d S2 α2 H2 dd v g m h1 h2 => g α2 H2 dd v m h1 h2) (fun g => g) g1) fun xs H2 ⟨α2, S2, es1, p2, m2, r2, g2⟩ => ?_
  cases hp : pub es1 S2 with
  | none => simp only [hp] at g2; exact g2.elim
  | some z =>
    obtain ⟨ds, S3⟩ := z
    simp only [hp] at g2
    obtain ⟨hl, g3⟩ := ite_gd g2
    obtain ⟨α3, pre, m3, r3⟩ := pub_ok m2 r2 hp
    exact ⟨α3, S3, ds, m3.rs, r3, hl, Gr.of m3 g3⟩
theorem xe_call (c : CallsTo X G f n m) (hg : Gl X x) (hm : X.mg x = some (.ref f)) (hk : PySem.W.keepIn X.K (.ref f) = true) (ha : XA X G (e :: es) ma) (hdb : (x == ("__debug__" : Str)) = false := by decide)
    (he : starEach (e :: es) X.env = (false, eval e X.env) :: starEach es X.env := by rfl) (hpl : (backTo pos (starEach es X.env)).any (·.1) = false := by rfl) : XE X G (.Call (.Name x p) (e :: es) [] pos) (mFn n m ma) := by
  refine ⟨fun W t => ⟨fun pins s σ H Q I h => ?_⟩⟩
  refine wpAny_Call_Name_kw (ld_glob I hg hm ?_ hdb)
  refine PySem.W.callWith_K (h₀ := X.base) I.ok.mod.kin hk (thn ((ha.run W t).run pos pins s σ H _ I (tOf_fn h)) fun us s1 ⟨vs, H1, I1, r, q⟩ => ⟨I1.kIn, ?_⟩) he hpl
  exact c pins s1 σ H1 vs us Q _ I1 r q (passAt t σ)
theorem xe_call0 (c : CallsTo X G f n m) (hg : Gl X x) (hm : X.mg x = some (.ref f)) (hk : PySem.W.keepIn X.K (.ref f) = true) (hdb : (x == ("__debug__" : Str)) = false := by decide) : XE X G (.Call (.Name x p) [] [] pos) (mFn n m mNilA) := by
  refine ⟨fun W t => ⟨fun pins s σ H Q I h => ?_⟩⟩
  refine wpAny_Call_Name_kw (ld_glob I hg hm ?_ hdb)
  have h1 : spOf G n m [] H Q (WE W σ) := by
    obtain ⟨α, ρ, S, rs, rl, g⟩ := tOf_fn h
    exact g α H [] (.refl rs rl) rfl
  exact PySem.W.callWith_K0 I.kIn hk (c pins s σ H [] [] Q _ I .nil h1 (passAt t σ))
end
end DL

set_option Elab.async false
set_option autoImplicit false
set_option linter.all false
set_option maxRecDepth 100000
set_option maxHeartbeats 2000000
namespace DL
open PySem PySem.Spec PyProof.Rows L2
/-! ## what is walked: a list or a tuple (b: a list), enumerate and zip of such -/
def SqB (K : PySem.W.Frag) (b : Bool) (H : Hp) (a : Addr) (xs : List V) : Prop := if b = true then SqL K H a xs else SqT K H a xs
def ItB (b : Bool) (it a : Addr) (i : Nat) (h : Heap) : Prop := if b = true then h.IsListIter it a i else h.IsTupleIter it a i
def IsB (b : Bool) (h : Heap) (a : Addr) (its : Array Value) : Prop := if b = true then h.IsList a its else h.IsTuple a its
def newB (b : Bool) (a : Addr) : Obj := if b = true then { cls := .type "list_iterator", data := .fields #[.ref a, .int 0 0] } else { cls := .type "tuple_iterator", data := .fields #[.ref a, .int 0 0] }
section
variable {K : PySem.W.Frag} {b : Bool} {H : Hp} {a it : Addr} {xs ys : List V} {h h' : Heap} {i : Nat}
theorem ItB.at (x : ItB b it a i h) (e : ∀ o, h.get? it = some o → h'.get? it = some o) : ItB b it a i h' := by
  cases b with
  | true => exact Heap.IsListIter.at (show h.IsListIter it a i from x) e
  | false => exact Heap.IsTupleIter.at (show h.IsTupleIter it a i from x) e
theorem ItB.obj (x : ItB b it a i h) : ∃ o, h.get? it = some o ∧ ∀ v, o.data ≠ .cell v := by
  cases b with
  | true => obtain ⟨o, e, c, d⟩ := (show h.IsListIter it a i from x); exact ⟨o, e, fun v z => by rw [d] at z; cases z⟩
  | false => obtain ⟨o, e, c, d⟩ := (show h.IsTupleIter it a i from x); exact ⟨o, e, fun v z => by rw [d] at z; cases z⟩
theorem ItB.new (e : h.get? it = some (newB b a)) : ItB b it a 0 h := by
  cases b with
  | true => exact ⟨_, e, rfl, rfl⟩
  | false => exact ⟨_, e, rfl, rfl⟩
theorem IsB.lt {its : Array Value} (x : IsB b h a its) : a < h.objs.size := by
  cases b with
  | true => obtain ⟨o, e, _⟩ := (show h.IsList a its from x); exact Heap.lt_size e
  | false => obtain ⟨o, e, _⟩ := (show h.IsTuple a its from x); exact Heap.lt_size e
theorem sqB_of {X : Cx} {pins : List (Addr × Obj)} {σ : L2.St} {s : Shared} (I : Inv X pins σ H s) (q : SqB X.K b H a xs) : ∃ its : List Value, Vals xs its ∧ IsB b s.heap a its.toArray ∧ xs.length ≤ sizeLine := by
  cases b with
  | true => obtain ⟨its, rv, p, hz⟩ := I.list (show SqL X.K H a xs from q); exact ⟨its, rv, p.isList, hz⟩
  | false => obtain ⟨its, rv, p, hz⟩ := I.tuple (show SqT X.K H a xs from q); exact ⟨its, rv, p, hz⟩
theorem sqB_inj {X : Cx} {pins : List (Addr × Obj)} {σ : L2.St} {s : Shared} (I : Inv X pins σ H s) (q : SqB X.K b H a xs) (r : SqB X.K b H a ys) : xs = ys := by
  cases b with
  | true => exact I.list_inj q r
  | false => exact I.tuple_inj q r
theorem beginsB (b : Bool) (a : Addr) (its : Array Value) : Begins (.ref a) (newB b a) fun h => IsB b h a its := by
  cases b with
  | true => exact begins_list a its
  | false => exact begins_tuple a its
theorem drawsB {prog : Program} {w : World} {A : Around} (b : Bool) (hh : A.handled = none) (it a : Addr) (hne : a ≠ it) (its : Array Value) :
    Draws prog w A it [it, a] its.size (fun i v => its[i]? = some v) (fun i h => ItB b it a i h ∧ IsB b h a its) := by
  cases b with
  | true => exact Draws.list hh it a hne its
  | false => exact Draws.tuple hh it a hne its
end
/-! ### enumerate -/
def Itne (K : PySem.W.Frag) (b : Bool) (a : Addr) (k : Int) : It :=
  ⟨fun i H => ∃ xs x, SqB K b H a xs ∧ xs[i]? = some x, fun i H v H' => ∃ T x, v = .ref T ∧ H T = none ∧ H' = upd H T (.tup [.int (k + (i : Nat)), x]) ∧ ∀ xs, SqB K b H a xs → xs[i]? = some x, fun i H => ∃ xs, SqB K b H a xs ∧ xs.length = i⟩
theorem turn_enumB {P : Program} {w : World} {K : PySem.W.Frag} {elts : List Expr} {kk : Nat} {tpos : Pos} {b : Bool} {a e it : Addr} {k : Int} (hei : e ≠ it) (hea : e ≠ a) (hai : a ≠ it) :
    Turn P w K (.Tuple elts kk tpos) (Itne K b a k) [e, it] e (fun i h => (∃ old, IsEnum h e it (k + (i : Nat)) old) ∧ ItB b it a i h) where
  mem := by simp
  obj := fun i h st c hc => by
    obtain ⟨⟨old, he⟩, hi⟩ := st
    have e' : c = e ∨ c = it := by simpa using hc
    rcases e' with z | z
    · rw [z]; exact ⟨_, he, fun v q => nomatch q⟩
    · rw [z]; exact hi.obj
  keep := fun i h h' st k => let ⟨⟨old, he⟩, hi⟩ := st; ⟨⟨old, k e (by simp) _ he⟩, hi.at fun o q => k it (by simp) o q⟩
  item := by
    intro X hP hw hK hc i pins s σ H E I hf st hg
    subst hP hw hK
    obtain ⟨xs, x, hq, hx⟩ := hg
    obtain ⟨its, rv, p, hz⟩ := sqB_of I hq
    obtain ⟨u, hu, ru⟩ := rv.get hx
    have hlt : i < its.toArray.size := by
      rw [List.size_toArray, ← rv.length]; exact (List.getElem?_eq_some_iff.mp hx).1
    have W := GoesN.enumFrom (elts := elts) (x1 := kk) (pos := tpos) (prog := X.prog) (w := X.w) (A := X.A) k (drawsB (A := X.A.in1) b (I.ok.hd hc) it a hai its.toArray) e hei (by simp [hei, hea]) (by simp)
    refine W.goes i s _ E hlt ⟨st.1, st.2, p⟩ fun v h' tk Y st' hk htk => ?_
    obtain ⟨T, t, y, rfl, hT, hy, ht⟩ := Y
    have ey : y = u := by
      have h1 : its[i]? = some y := by simpa using hy
      rw [hu] at h1; exact (Option.some.inj h1).symm
    subst ey
    have fr : H T = none := I.hok.fresh hT
    have new : ObjOk X.prog X.w (upd H T (.tup [.int (k + (i : Nat)), x])) h' T (.tup [.int (k + (i : Nat)), x]) :=
      ⟨by show 2 ≤ sizeLine; decide, [.int (k + (i : Nat)) t, y], .cons ⟨_, rfl⟩ (.cons ru .nil), ht⟩
    have I1 : Inv X pins σ (upd H T (.tup [.int (k + (i : Nat)), x])) { s with heap := h', toks := tk } :=
      I.turnedNew (ch := [e, it]) (fun c ob hb q => hk c ob hb q) hf hT new
    refine ⟨.ref T, _, I1, rfl, ⟨T, x, rfl, fr, rfl, fun zs hzs => by rw [sqB_inj I hzs hq]; exact hx⟩, ⟨?_, st'.2.1⟩, fun c hcm => ?_⟩
    · have e1 : (k + ((i + 1 : Nat) : Int)) = k + (i : Int) + 1 := by omega
      have q := st'.1
      exact q
    · have hlt : c ≠ T := by
        obtain ⟨⟨old, he⟩, hi⟩ := st
        obtain ⟨o, ho, _⟩ := hi.obj
        have e' : c = e ∨ c = it := by simpa using hcm
        rcases e' with z | z
        · rw [z]; exact Nat.ne_of_lt (Nat.lt_of_lt_of_le (Heap.lt_size he) hT)
        · rw [z]; exact Nat.ne_of_lt (Nat.lt_of_lt_of_le (Heap.lt_size ho) hT)
      rw [upd_ne hlt]
      exact (hf c hcm).1
  done := by
    intro X hP hw hK hc i pins s σ H E I hf st hg
    subst hP hw hK
    obtain ⟨xs, hq, hx⟩ := hg
    obtain ⟨its, rv, p, hz⟩ := sqB_of I hq
    have W := GoesN.enumFrom (elts := elts) (x1 := kk) (pos := tpos) (prog := X.prog) (w := X.w) (A := X.A) k (drawsB (A := X.A.in1) b (I.ok.hd hc) it a hai its.toArray) e hei (by simp [hei, hea]) (by simp)
    have e1 : its.toArray.size = i := by rw [List.size_toArray, ← rv.length, hx]
    refine W.stops s _ E (by rw [e1]; exact ⟨st.1, st.2, p⟩) fun h' tk hk htk => ?_
    exact I.turnedL (ch := [e, it]) (fun c ob hb q => hk c ob hb q) hf
  self := fun A i s Q E st h => let ⟨⟨_, he⟩, _⟩ := st; wpAny_pyIter_enum he h
/-! ### zip -/
def Itnz (K : PySem.W.Frag) (b c : Bool) (a1 a2 : Addr) : It :=
  ⟨fun i H => ∃ xs ys x y, SqB K b H a1 xs ∧ SqB K c H a2 ys ∧ xs[i]? = some x ∧ ys[i]? = some y,
    fun i H v H' => ∃ T x y, v = .ref T ∧ H T = none ∧ H' = upd H T (.tup [x, y]) ∧ (∀ xs, SqB K b H a1 xs → xs[i]? = some x) ∧ ∀ ys, SqB K c H a2 ys → ys[i]? = some y,
    fun i H => ∃ xs ys, SqB K b H a1 xs ∧ SqB K c H a2 ys ∧ min xs.length ys.length = i⟩
theorem turn_zipB {P : Program} {w : World} {K : PySem.W.Frag} {elts : List Expr} {kk : Nat} {tpos : Pos} {b c : Bool} {a1 a2 z TI TO i1 i2 : Addr} (hs : ZipSep2 z TI TO i1 i2 [i1, a1] [i2, a2]) (h1 : a1 ≠ i1) (h2 : a2 ≠ i2) :
    Turn P w K (.Tuple elts kk tpos) (Itnz K b c a1 a2) [z, TI, TO, i1, i2] z (fun i h => IsZip h z TI TO .none ∧ IsTupOf2 h TI (.ref i1) (.ref i2) ∧ (∃ x y, IsTupOf2 h TO x y) ∧ ItB b i1 a1 i h ∧ ItB c i2 a2 i h) where
  mem := by simp
  obj := fun i h st d hc => by
    obtain ⟨hz, hTI, ⟨x, y, hTO⟩, q1, q2⟩ := st
    have e' : d = z ∨ d = TI ∨ d = TO ∨ d = i1 ∨ d = i2 := by simpa using hc
    rcases e' with q | q | q | q | q
    · rw [q]; exact ⟨_, hz, fun v q => nomatch q⟩
    · rw [q]; exact ⟨_, hTI, fun v q => nomatch q⟩
    · rw [q]; exact ⟨_, hTO, fun v q => nomatch q⟩
    · rw [q]; exact q1.obj
    · rw [q]; exact q2.obj
  keep := fun i h h' st k => by
    obtain ⟨hz, hTI, ⟨x, y, hTO⟩, q1, q2⟩ := st
    exact ⟨k z (by simp) _ hz, k TI (by simp) _ hTI, ⟨x, y, k TO (by simp) _ hTO⟩, q1.at fun o q => k i1 (by simp) o q, q2.at fun o q => k i2 (by simp) o q⟩
  item := by
    intro X hP hw hK hc i pins s σ H E I hf st hg
    subst hP hw hK
    obtain ⟨xs, ys, x, y, hqx, hqy, hx, hy⟩ := hg
    obtain ⟨its, rv, p, _⟩ := sqB_of I hqx
    obtain ⟨its2, rv2, p2, _⟩ := sqB_of I hqy
    obtain ⟨u, hu, ru⟩ := rv.get hx
    obtain ⟨u2, hu2, ru2⟩ := rv2.get hy
    have hl1 : i < its.toArray.size := by rw [List.size_toArray, ← rv.length]; exact (List.getElem?_eq_some_iff.mp hx).1
    have hl2 : i < its2.toArray.size := by rw [List.size_toArray, ← rv2.length]; exact (List.getElem?_eq_some_iff.mp hy).1
    have W := GoesN.zip2 (elts := elts) (x1 := kk) (pos := tpos) (prog := X.prog) (w := X.w) (A := X.A) hs (drawsB (A := X.A.in1) b (I.ok.hd hc) i1 a1 h1 its.toArray) (drawsB (A := X.A.in1) c (I.ok.hd hc) i2 a2 h2 its2.toArray)
    obtain ⟨s1, s2, s3, s4, s5⟩ := st
    refine W.goes i s _ E (Nat.lt_min.mpr ⟨hl1, hl2⟩) ⟨s1, s2, s3, ⟨s4, p⟩, ⟨s5, p2⟩⟩ fun v h' tk Y st' hk htk => ?_
    obtain ⟨T, y1, y2, rfl, hT, hy1, hy2, ht⟩ := Y
    have e1 : y1 = u := by
      have q : its[i]? = some y1 := by simpa using hy1
      rw [hu] at q; exact (Option.some.inj q).symm
    have e2 : y2 = u2 := by
      have q : its2[i]? = some y2 := by simpa using hy2
      rw [hu2] at q; exact (Option.some.inj q).symm
    subst e1 e2
    have fr : H T = none := I.hok.fresh hT
    have new : ObjOk X.prog X.w (upd H T (.tup [x, y])) h' T (.tup [x, y]) := ⟨by show 2 ≤ sizeLine; decide, [y1, y2], .cons ru (.cons ru2 .nil), ht⟩
    have I1 : Inv X pins σ (upd H T (.tup [x, y])) { s with heap := h', toks := tk } :=
      I.turnedNew (ch := [z, TI, TO, i1, i2]) (fun d ob hb q => hk d ob (fun w => hb (by
        have : d = z ∨ d = TO ∨ d = i1 ∨ d = i2 := by simpa using w
        rcases this with r | r | r | r <;> rw [r] <;> simp)) q) hf hT new
    obtain ⟨t1, t2, t3, ⟨t4, _⟩, ⟨t5, _⟩⟩ := st'
    refine ⟨.ref T, _, I1, rfl, ⟨T, x, y, rfl, fr, rfl, fun l hl => by rw [sqB_inj I hl hqx]; exact hx, fun l hl => by rw [sqB_inj I hl hqy]; exact hy⟩, ⟨t1, t2, t3, t4, t5⟩, fun d hcm => ?_⟩
    have hlt : d ≠ T := by
      obtain ⟨x0, y0, hTO⟩ := s3
      obtain ⟨o1, ho1, _⟩ := s4.obj
      obtain ⟨o2, ho2, _⟩ := s5.obj
      have e' : d = z ∨ d = TI ∨ d = TO ∨ d = i1 ∨ d = i2 := by simpa using hcm
      have lt : ∀ {c' : Addr} {o : Obj}, s.heap.get? c' = some o → c' ≠ T := fun q => Nat.ne_of_lt (Nat.lt_of_lt_of_le (Heap.lt_size q) hT)
      rcases e' with q | q | q | q | q
      · rw [q]; exact lt s1
      · rw [q]; exact lt s2
      · rw [q]; exact lt hTO
      · rw [q]; exact lt ho1
      · rw [q]; exact lt ho2
    rw [upd_ne hlt]
    exact (hf d hcm).1
  done := by
    intro X hP hw hK hc i pins s σ H E I hf st hg
    subst hP hw hK
    obtain ⟨xs, ys, hqx, hqy, hx⟩ := hg
    obtain ⟨its, rv, p, _⟩ := sqB_of I hqx
    obtain ⟨its2, rv2, p2, _⟩ := sqB_of I hqy
    have W := GoesN.zip2 (elts := elts) (x1 := kk) (pos := tpos) (prog := X.prog) (w := X.w) (A := X.A) hs (drawsB (A := X.A.in1) b (I.ok.hd hc) i1 a1 h1 its.toArray) (drawsB (A := X.A.in1) c (I.ok.hd hc) i2 a2 h2 its2.toArray)
    obtain ⟨s1, s2, s3, s4, s5⟩ := st
    have e1 : min its.toArray.size its2.toArray.size = i := by rw [List.size_toArray, List.size_toArray, ← rv.length, ← rv2.length, hx]
    refine W.stops s _ E (by rw [e1]; exact ⟨s1, s2, s3, ⟨s4, p⟩, ⟨s5, p2⟩⟩) fun h' tk hk htk => ?_
    exact I.turnedL (ch := [z, TI, TO, i1, i2]) (fun d ob hb q => hk d ob (fun w => hb (by
      have : d = z ∨ d = TO ∨ d = i1 ∨ d = i2 := by simpa using w
      rcases this with r | r | r | r <;> rw [r] <;> simp)) q) hf
  self := fun A i s Q E st h => wpAny_pyIter_zip st.1 h
theorem not_mem2 (k x y : Nat) (h1 : k ≠ x) (h2 : k ≠ y) : k ∉ [x, y] := fun h => by
  rcases List.mem_cons.mp h with h | h
  · exact h1 h
  · exact h2 (List.mem_singleton.mp h)
theorem zip_sep (n a1 a2 : Nat) (h1 : a1 < n) (h2 : a2 < n) : ZipSep2 (n + 4) (n + 2) (n + 3) n (n + 1) [n, a1] [n + 1, a2] where
  TIz := show (n + 2 : Nat) ≠ n + 4 by omega
  TOz := show (n + 3 : Nat) ≠ n + 4 by omega
  TITO := show (n + 2 : Nat) ≠ n + 3 by omega
  TIi1 := show (n + 2 : Nat) ≠ n by omega
  mem1 := List.mem_cons_self
  zf1 := not_mem2 _ _ _ (by omega) (by omega)
  Tf1 := not_mem2 _ _ _ (by omega) (by omega)
  TIi2 := show (n + 2 : Nat) ≠ n + 1 by omega
  mem2 := List.mem_cons_self
  zf2 := not_mem2 _ _ _ (by omega) (by omega)
  Tf2 := not_mem2 _ _ _ (by omega) (by omega)
  sep1_2 := not_mem2 _ _ _ (by omega) (by omega)
  sep2_1 := not_mem2 _ _ _ (by omega) (by omega)
/-! ### they begin -/
theorem meets_enum_one {v : Value} {o : Obj} {P : Heap → Prop} (B : Begins v o P) :
    Meets (Builtin.«enumerate.__new__» ⟨[.type "enumerate", v], []⟩) (fun _ R s => P s.heap ∧
      R (.ok (.ret (.ref (s.heap.push o).objs.size))) { s with heap := (s.heap.push o).push { cls := .type "enumerate", data := .fields #[.none, .bool false, .ref s.heap.objs.size, rawInt 0, .none, .none] } }) :=
  .of_wp fun prog w A R s h => by
    obtain ⟨hp, g, d, tk, os⟩ := s
    obtain ⟨hP, h⟩ := h
    have sub1 := sub_enumerate
    have it1 : ∀ {A' : Around} {E' : Value → Shared → Prop} {Q' : Value → Shared → Prop}, Q' (.ref hp.objs.size) ⟨hp.push o, g, d, tk, os⟩ → wpAny (model prog w) A' (pyIter v) Q' E' ⟨hp, g, d, tk, os⟩ :=
      fun z => B.iter prog w _ _ ⟨hp, g, d, tk, os⟩ _ hP z
    wp_walk using it1
    refine wpAny_stack_any fun st => wpAny_pure ?_
    split
    · rename_i c _ _ _ _ _
      cases (c == Value.type "enumerate") <;> (wp_walk using it1; exact ⟨_, rfl, h⟩)
    · wp_walk using it1
      exact ⟨_, rfl, h⟩
theorem enum_one {prog : Program} {w : World} {A : Around} {E : Value → Shared → Prop} {s : Shared} {v : Value} {o : Obj} {P : Heap → Prop} {Q : Value → Shared → Prop} (B : Begins v o P) (hP : P s.heap)
    (h : ∀ h', IsEnum h' (s.heap.objs.size + 1) s.heap.objs.size 0 .none → h'.get? s.heap.objs.size = some o → h'.objs.size = s.heap.objs.size + 2 → (∀ b u, s.heap.get? b = some u → h'.get? b = some u) → Q (.ref (s.heap.objs.size + 1)) { s with heap := h' }) :
    wpAny (model prog w) A (call (.type "enumerate") [v]) Q E s := by
  refine callType_new F.called_enumerate (by decide) (F.typeCall_enumerate_1 _) (F.newCall_enumerate_1 _) (fun obj => F.args_object_init_2 obj _) F.entry_enumerate_new (meets_enum_one B) ⟨hP, ?_⟩
  have z1 : (s.heap.push o).objs.size = s.heap.objs.size + 1 := Heap.size_push ..
  have at1 : ((s.heap.push o).push { cls := .type "enumerate", data := .fields #[.none, .bool false, .ref s.heap.objs.size, rawInt 0, .none, .none] }).get? (s.heap.push o).objs.size = some { cls := .type "enumerate", data := .fields #[.none, .bool false, .ref s.heap.objs.size, rawInt 0, .none, .none] } := Heap.get?_push_size _ rfl
  show _ ∧ _
  rw [z1] at at1 ⊢
  exact ⟨⟨_, at1, rfl⟩, h _ at1 (Heap.get?_push_of_some _ (Heap.get?_push_size _ B.free)) (by rw [Heap.size_push, z1]) fun b u x => Heap.get?_push_of_some _ (Heap.get?_push_of_some _ x)⟩
section
variable {X : Cx} {p pos tpos : Pos} {elts : List Expr} {kk : Nat} {e e2 : Expr} {ta : TA}
def iEnumB (K : PySem.W.Frag) (ta : TA) : TI := fun σ H R => ta σ H fun vs H1 => ∃ b a xs, vs = [.ref a] ∧ SqB K b H1 a xs ∧ R (Itne K b a 0) H1
theorem pi_enumB (hg : Gl X "enumerate") (hm : X.mg "enumerate" = none) (ha : PA X [e] ta) (hs : starEach [e] X.env = [(false, eval e X.env)] := by rfl) :
    PI X (.Tuple elts kk tpos) (.Call (.Name "enumerate" p) [e] [] pos) (iEnumB X.K ta) := by
  refine ⟨fun pins s σ H R I h => ?_⟩
  refine Call_ (ld_blt I hg hm boot_enumerate (PyProof.Rows.callWith_type1 (thn (ha.run pos pins s σ H _ I h) fun us s1 ⟨vs, H1, I1, r1, q1⟩ => ?_) hs rfl))
  obtain ⟨b, a, xs, ex, hq, q⟩ := q1
  subst ex
  obtain ⟨u, rfl, ru⟩ := vals1 r1
  cases ru
  obtain ⟨its, rv, p', hz⟩ := sqB_of I1 hq
  have la := p'.lt
  have hlt0 := la
  refine enum_one (beginsB b a its.toArray) p' fun h' he ho hsz hk => wpAny_pyIter_enum he ?_
  have I2 : Inv X pins σ H1 { s1 with heap := h' } := I1.kept (t' := s1.toks) hk
  refine ⟨s1.heap.objs.size + 1, [s1.heap.objs.size + 1, s1.heap.objs.size], _, _, H1, rfl, I2, turn_enumB (Nat.succ_ne_self _) (Nat.ne_of_gt (Nat.lt_succ_of_lt la)) (Nat.ne_of_lt la), ⟨⟨.none, by simpa using he⟩, ItB.new ho⟩, fun c hb => ?_, q⟩
  have e' : c = s1.heap.objs.size + 1 ∨ c = s1.heap.objs.size := by simpa using hb
  have hle : s1.heap.objs.size ≤ c := by
    rcases e' with z | z
    · rw [z]; exact Nat.le_add_right _ _
    · rw [z]; exact Nat.le_refl _
  exact I1.fpOk hle (I1.hok.fresh hle)
def iZipB (K : PySem.W.Frag) (ta : TA) : TI := fun σ H R => ta σ H fun vs H1 => ∃ b c a1 a2 xs ys, vs = [.ref a1, .ref a2] ∧ SqB K b H1 a1 xs ∧ SqB K c H1 a2 ys ∧ R (Itnz K b c a1 a2) H1
theorem pi_zipB (hg : Gl X "zip") (hm : X.mg "zip" = none) (ha : PA X [e, e2] ta)
    (hs : starEach [e, e2] X.env = (false, eval e X.env) :: starEach [e2] X.env := by rfl) (hpl : (backTo pos (starEach [e2] X.env)).any (·.1) = false := by rfl) :
    PI X (.Tuple elts kk tpos) (.Call (.Name "zip" p) [e, e2] [] pos) (iZipB X.K ta) := by
  refine ⟨fun pins s σ H R I h => ?_⟩
  refine Call_ (ld_blt I hg hm PyProof.Rows.boot_zip (PyProof.Rows.callWith_type1 (thn (ha.run pos pins s σ H _ I h) fun us s1 ⟨vs, H1, I1, r1, q1⟩ => ?_) hs hpl))
  obtain ⟨b, c, a1, a2, xs, ys, ex, hqx, hqy, q⟩ := q1
  subst ex
  obtain ⟨u, u', rfl, ru, ru'⟩ := vals2 r1
  cases ru
  cases ru'
  obtain ⟨its, rv, p1, _⟩ := sqB_of I1 hqx
  obtain ⟨its2, rv2, p2, _⟩ := sqB_of I1 hqy
  have la := p1.lt
  have lb := p2.lt
  refine zip_begins2 (beginsB b a1 its.toArray) (beginsB c a2 its2.toArray) p1 p2 fun h' hz hTI hTO h1 h2 hsz hk => wpAny_pyIter_zip hz ?_
  have I2 : Inv X pins σ H1 { s1 with heap := h' } := I1.kept (t' := s1.toks) hk
  have sep : ZipSep2 (s1.heap.objs.size + 4) (s1.heap.objs.size + 2) (s1.heap.objs.size + 3) s1.heap.objs.size (s1.heap.objs.size + 1) [s1.heap.objs.size, a1] [s1.heap.objs.size + 1, a2] := by
    exact zip_sep _ _ _ la lb
  refine ⟨s1.heap.objs.size + 4, [s1.heap.objs.size + 4, s1.heap.objs.size + 2, s1.heap.objs.size + 3, s1.heap.objs.size, s1.heap.objs.size + 1], _, _, H1, rfl, I2, turn_zipB sep (Nat.ne_of_lt la) (Nat.ne_of_lt (Nat.lt_succ_of_lt lb)), ⟨hz, hTI, ⟨_, _, hTO⟩, ItB.new h1, ItB.new h2⟩, fun d hcm => ?_, q⟩
  have e' : d = s1.heap.objs.size + 4 ∨ d = s1.heap.objs.size + 2 ∨ d = s1.heap.objs.size + 3 ∨ d = s1.heap.objs.size ∨ d = s1.heap.objs.size + 1 := by simpa using hcm
  have hle : s1.heap.objs.size ≤ d := by
    rcases e' with z | z | z | z | z
    · rw [z]; exact Nat.le_add_right _ _
    · rw [z]; exact Nat.le_add_right _ _
    · rw [z]; exact Nat.le_add_right _ _
    · rw [z]; exact Nat.le_refl _
    · rw [z]; exact Nat.le_add_right _ _
  exact I1.fpOk hle (I1.hok.fresh hle)
end
end DL

set_option Elab.async false
set_option autoImplicit false
set_option linter.all false
set_option maxRecDepth 100000
set_option maxHeartbeats 2000000
namespace DL
open PySem PySem.Spec PyProof.Rows L2
/-! ## sources -/
/-- what is walked: fixed items; a list that a slot owns; a list of the store, as it stands -/
inductive IT where
  | fix (ds : List D) | own (ds : List D) | dyn (f : Store → Nat → Option (Option D))
def IT.at : IT → Store → Nat → Option (Option D)
  | .fix ds, _, i => if i < ds.length then some ds[i]? else if i = ds.length then some none else none
  | .own ds, _, i => if i < ds.length then some ds[i]? else if i = ds.length then some none else none
  | .dyn f, S, i => f S i
def IT.isOwn : IT → Bool
  | .own _ => true
  | _ => false
def dynAt (n : Nat) : Store → Nat → Option (Option D) := fun S i => match S[n]? with
  | some (.lst ds) => if i < ds.length then some ds[i]? else if i = ds.length then some none else none
  | _ => none
def srcE (ρ : Env) (S : Store) : EV → Option IT
  | .v (.tup ds) => some (.fix ds)
  | .v (.cl ds) => some (.fix ds)
  | .fl ds => some (.fix ds)
  | .sl i => match ρ[i]? with
    | some (some (.ol ds)) => some (.own ds)
    | _ => none
  | .v (.ref n) => match S[n]? with
    | some (.lst _) => some (.dyn (dynAt n))
    | _ => none
  | _ => none
/-- the heap at a loop's start, the slots' own lists out of it where ow -/
structure Bs (ρ : Env) (σ : L2.St) (H1 Hb : Hp) (ow : Bool) : Prop where
  sub : ∀ b o, Hb b = some o → H1 b = some o
  sup : ∀ b o, H1 b = some o → (ow = true → ∀ (i : Nat) (s : SV), ρ[i]? = some (some s) → s.own = true → σ[i]? ≠ some (some (.ref b))) → Hb b = some o
section
variable {G : Gc} {α α0 α1 : List Lc} {H H0 H1 Hb : Hp} {ρ : Env} {σ : L2.St} {S S1 : Store} {ow : Bool}
theorem Bs.notOwn (rl : RL G α1 H1 ρ σ) {b : Addr} {o : HO} (h : H1 b = some o) (n : ¬ mutO o) : ow = true → ∀ (i : Nat) (s : SV), ρ[i]? = some (some s) → s.own = true → σ[i]? ≠ some (some (.ref b)) := fun _ i s hi os z => by
  obtain ⟨x, h1, h2⟩ := rl.val i s hi
  obtain ⟨a, u, rfl, h3, h4⟩ := h2.at os
  rw [z] at h1
  cases h1
  rw [h] at h3
  cases h3
  exact n h4
theorem Bs.stays (B : Bs ρ σ H1 Hb ow) (rl : RL G α1 H1 ρ σ) : Stays H1 Hb := fun b o h n => B.sup b o h (Bs.notOwn rl h n)
theorem Bs.adm (B : Bs ρ σ H1 Hb ow) (rl : RL G α1 H1 ρ σ) (hA : Adm α1 H1) : Adm α1 Hb := fun b hb => by
  obtain ⟨o, h1, h2⟩ := hA b hb
  exact ⟨o, B.sup b o h1 fun _ => rl.noA hb, h2⟩
/-- one piece of a source: the sequence at a -/
def PcOk (G : Gc) (α1 : List Lc) (Hb : Hp) (b : Bool) (a : Addr) (it : IT) : Prop := ∀ α S H, Post α1 Hb α H → RS G α H S → ∀ i,
  (∀ d, it.at S i = some (some d) → ∃ xs x, SqB G.K b H a xs ∧ xs[i]? = some x ∧ RD G α H d x) ∧ (it.at S i = some none → ∃ xs, SqB G.K b H a xs ∧ xs.length = i)
theorem at_fix {ds : List D} {i : Nat} {d : D} (h : (if i < ds.length then some ds[i]? else if i = ds.length then some none else none) = some (some d)) : ds[i]? = some d := by
  by_cases c : i < ds.length
  · rw [if_pos c] at h; exact Option.some.inj h
  · rw [if_neg c] at h
    by_cases c2 : i = ds.length
    · rw [if_pos c2] at h; cases h
    · rw [if_neg c2] at h; cases h
theorem at_end {ds : List D} {i : Nat} (h : (if i < ds.length then some ds[i]? else if i = ds.length then some none else none) = some none) : i = ds.length := by
  by_cases c : i < ds.length
  · rw [if_pos c] at h
    rw [List.getElem?_eq_getElem c] at h
    cases h
  · rw [if_neg c] at h
    by_cases c2 : i = ds.length
    · exact c2
    · rw [if_neg c2] at h; cases h
/-- a sequence that stays -/
theorem PcOk.still {b : Bool} {a : Addr} {it : IT} {ds : List D} (hf : ∀ S i, it.at S i = if i < ds.length then some ds[i]? else if i = ds.length then some none else none)
    (h : ∀ α S H, Post α1 Hb α H → RS G α H S → ∃ xs, SqB G.K b H a xs ∧ RDs G α H ds xs) : PcOk G α1 Hb b a it := by
  intro α S H p rs i
  obtain ⟨xs, h1, h2⟩ := h α S H p rs
  refine ⟨fun d hd => ?_, fun he => ?_⟩
  · rw [hf] at hd
    obtain ⟨x, h3, h4⟩ := h2.at (at_fix hd)
    exact ⟨xs, x, h1, h3, h4⟩
  · rw [hf] at he
    exact ⟨xs, h1, by rw [← h2.len, at_end he]⟩
theorem piece_ok {e : EV} {x : V} {it : IT} (m : Mid G α0 H0 ρ σ α1 H1 S1) (r : RE G α1 H1 ρ σ H0 e x) (h : srcE ρ S1 e = some it) :
    ∃ b a, x = .ref a ∧ (∃ xs, SqB G.K b H1 a xs) ∧ ∀ Hb ow, (ow = true → it.isOwn = false) → Bs ρ σ H1 Hb ow → PcOk G α1 Hb b a it := by
  have lists : ∀ a vs ds, x = .ref a → H1 a = some (.lst vs) → RDs G α1 H1 ds vs → ¬ inA α1 a → (∀ S i, it.at S i = if i < ds.length then some ds[i]? else if i = ds.length then some none else none) →
      (∀ ow, (ow = true → it.isOwn = false) → ow = true → ∀ (i : Nat) (s : SV), ρ[i]? = some (some s) → s.own = true → σ[i]? ≠ some (some (.ref a))) →
      ∃ b a, x = .ref a ∧ (∃ xs, SqB G.K b H1 a xs) ∧ ∀ Hb ow, (ow = true → it.isOwn = false) → Bs ρ σ H1 Hb ow → PcOk G α1 Hb b a it := by
    intro a vs ds e h1 h2 h3 hf ho
    refine ⟨true, a, e, ⟨vs, SqL.of h1⟩, fun Hb ow w B => .still hf fun α S H p rs => ?_⟩
    have hb := B.sup a _ h1 (ho ow w)
    exact ⟨vs, SqL.of (p.keep a _ hb h3 (by intro ps; simp)), RDs.kept (B.adm m.rl m.rs.adm) p _ _ (RDs.stays (B.stays m.rl) _ _ h2)⟩
  cases e with
  | fd _ => cases h
  | fl ds =>
    cases h
    obtain ⟨a, vs, e, h1, h2, h3, h4⟩ := r
    exact lists a vs ds e h1 h2 h3 (fun _ _ => rfl) fun _ _ _ => m.rl0.noN h4
  | sl i =>
    obtain ⟨h1, s, h2, h3⟩ := r
    simp only [srcE, h2] at h
    cases s with
    | v d => cases h
    | od _ => cases h
    | ol ds =>
      cases h
      obtain ⟨y, q1, a, vs, q2, q3, q4, q5⟩ := m.rl.val i _ h2
      rw [h1] at q1
      cases q1
      exact lists a vs ds q2 q3 q4 q5 (fun _ _ => rfl) fun ow w z => by
        have := w z
        cases this
  | v d =>
    cases d with
    | tup ds =>
      cases h
      obtain ⟨a, vs, e, h1, h2⟩ := id r
      refine ⟨false, a, e, ⟨vs, h1.sq⟩, fun Hb ow w B => .still (fun _ _ => rfl) fun α S H p rs => ?_⟩
      have q : RD G α H (.tup ds) x := RD.kept (B.adm m.rl m.rs.adm) p _ _ (RD.stays (B.stays m.rl) _ _ r)
      obtain ⟨a', vs', e', k1, k2⟩ := q
      rw [e] at e'
      cases e'
      exact ⟨vs', k1.sq, k2⟩
    | cl ds =>
      cases h
      obtain ⟨a, vs, e, h1, h2⟩ := id r
      refine ⟨true, a, e, ⟨vs, h1.sq⟩, fun Hb ow w B => .still (fun _ _ => rfl) fun α S H p rs => ?_⟩
      have q : RD G α H (.cl ds) x := RD.kept (B.adm m.rl m.rs.adm) p _ _ (RD.stays (B.stays m.rl) _ _ r)
      obtain ⟨a', vs', e', k1, k2⟩ := q
      rw [e] at e'
      cases e'
      exact ⟨vs', k1.sq, k2⟩
    | ref n =>
      simp only [srcE] at h
      split at h
      · rename_i ds hs
        cases h
        obtain ⟨l, h1, e⟩ := r
        obtain ⟨_, vs, q1, q2⟩ := m.rs.obj n l _ h1 hs
        refine ⟨true, l.a, e, ⟨vs, SqL.of q1⟩, fun Hb ow w B α S H p rs i => ?_⟩
        have h2 : α[n]? = some l := by
          obtain ⟨t, rfl⟩ := p.pre
          rw [List.getElem?_append_left (List.getElem?_eq_some_iff.mp h1).1]; exact h1
        refine ⟨fun d hd => ?_, fun he => ?_⟩
        · simp only [IT.at, dynAt] at hd
          split at hd
          · rename_i ds' hs'
            obtain ⟨_, vs', k1, k2⟩ := rs.obj n l _ h2 hs'
            obtain ⟨y, h3, h4⟩ := k2.at (at_fix hd)
            exact ⟨vs', y, SqL.of k1, h3, h4⟩
          · cases hd
        · simp only [IT.at, dynAt] at he
          split at he
          · rename_i ds' hs'
            obtain ⟨_, vs', k1, k2⟩ := rs.obj n l _ h2 hs'
            exact ⟨vs', SqL.of k1, by rw [← k2.len, at_end he]⟩
          · cases he
      · cases h
    | _ => cases h
/-- an item; a tuple that a walk made (wk): its object is not known -/
def RDw (G : Gc) (α : List Lc) (H : Hp) : D → V → Prop
  | .tup ds, x => ∃ a vs, x = .ref a ∧ SqT G.K H a vs ∧ RDs G α H ds vs
  | d, x => RD G α H d x
def RDk (wk : Bool) (G : Gc) (α : List Lc) (H : Hp) (d : D) (x : V) : Prop := if wk = true then RDw G α H d x else RD G α H d x
/-- an iterator stands for it -/
def ItOk (G : Gc) (wk : Bool) (α1 : List Lc) (Hb : Hp) (J : It) (it : IT) : Prop := ∀ α S H, Post α1 Hb α H → RS G α H S → ∀ i,
  (∀ d, it.at S i = some (some d) → J.go i H ∧ ∀ x H', J.yld i H x H' → (H' = H ∨ ∃ T vs, H T = none ∧ H' = upd H T (.tup vs)) ∧ RDk wk G α H' d x) ∧ (it.at S i = some none → J.stop i H)
end
abbrev MI := Env → Store → R IT
def iOf (G : Gc) (wk : Bool) (mi : MI) (W : WX) : TI := fun σ H R => ∃ α ρ S, RS G α H S ∧ RL G α H ρ σ ∧ match mi ρ S with
  | .ok it S' => ∀ α' H' J, Mid G α H ρ σ α' H' S' → (∀ Hb ow, (ow = true → it.isOwn = false) → Bs ρ σ H' Hb ow → ItOk G wk α' Hb J it) → R J H'
  | .exc c d S' => ∀ α' H' dd v, Mid G α H ρ σ α' H' S' → H' dd = some (.xd [("value", v)]) → RD G α' H' d v → W (.ref (G.cls c)) (some dd) σ H'
  | .bad => False
structure XI (X : Cx) (G : Gc) (wk : Bool) (tg iter : Expr) (mi : MI) : Prop where
  run : ∀ W, Takes X W → PI X tg iter (iOf G wk mi W)
theorem PI.imp {X : Cx} {tg e : Expr} {t t' : TI} (h : PI X tg e t) (i : ∀ σ H Q, t' σ H Q → t σ H Q) : PI X tg e t' := ⟨fun pins s σ H Q I q => h.run pins s σ H Q I (i _ _ _ q)⟩
section
variable {X : Cx} {G : Gc} {tg e e2 : Expr} {m m2 : ME} {ma : MA} {p pos tpos : Pos} {elts : List Expr} {kk : Nat}
/-- the first step of a source -/
theorem srcStep {W : WX} {σ : L2.St} {H : Hp} {Rr : It → Hp → Prop} (k : Env → EV → Store → R IT) {mi : MI} (hmi : ∀ ρ S, mi ρ S = (m ρ S).bind (k ρ)) {wk : Bool} (h : iOf G wk mi W σ H Rr) :
    tOf G m W σ H fun x H2 => ∃ α ρ α2 S2 e1, Mid G α H ρ σ α2 H2 S2 ∧ RE G α2 H2 ρ σ H e1 x ∧ match k ρ e1 S2 with
      | .ok it S' => ∀ α' H' J, Mid G α H ρ σ α' H' S' → (∀ Hb ow, (ow = true → it.isOwn = false) → Bs ρ σ H' Hb ow → ItOk G wk α' Hb J it) → Rr J H'
      | .exc c d S' => ∀ α' H' dd v, Mid G α H ρ σ α' H' S' → H' dd = some (.xd [("value", v)]) → RD G α' H' d v → W (.ref (G.cls c)) (some dd) σ H'
      | .bad => False := by
  obtain ⟨α, ρ, S, rs, rl, g⟩ := h
  rw [hmi] at g
  refine ⟨α, ρ, S, rs, rl, ?_⟩
  cases hr : m ρ S with
  | ok e S1 => rw [hr] at g; exact fun α1 H1 x m1 r1 => ⟨α, ρ, α1, S1, e, m1, r1, g⟩
  | exc c d S1 => rw [hr] at g; exact g
  | bad => rw [hr] at g; exact g
def mSrc (m : ME) : MI := fun ρ S => (m ρ S).bind fun e S1 => match srcE ρ S1 e with
  | some it => .ok it S1
  | none => .bad
def rSeqI (K : PySem.W.Frag) (x : V) (H : Hp) (R : It → Hp → Prop) : Prop := ∃ b a, x = .ref a ∧ (∃ xs, SqB K b H a xs) ∧ R (if b = true then Itl K a else Itt K a) H
theorem pi_seqB {te : TE} (he : PE X e te) : PI X tg e (fun σ H R => te σ H fun x H1 => rSeqI X.K x H1 R) := by
  refine ⟨fun pins s σ H R I h => ?_⟩
  refine thn (he.run pins s σ H _ I h) fun v s1 ⟨x, H1, I1, r1, q1⟩ => ?_
  obtain ⟨b, a, e, ⟨xs, hq⟩, q⟩ := q1
  subst e
  cases r1
  have fp : ∀ c ∈ [s1.heap.objs.size], FpOk X pins H1 c := fun c hb => by
    have e : c = s1.heap.objs.size := by simpa using hb
    subst e
    exact I1.fpOk (Nat.le_refl _) (I1.hok.fresh (Nat.le_refl _))
  cases b with
  | true =>
    obtain ⟨its, rv, p, hz⟩ := I1.list (show SqL X.K H1 a xs from hq)
    exact wpAny_pyIter_list p.isList ⟨s1.heap.objs.size, [s1.heap.objs.size], _, _, H1, rfl, I1.kept (t' := s1.toks) fun b o e => Heap.get?_push_of_some _ e, turn_list a _, ⟨_, Heap.get?_push_size _ rfl, rfl, rfl⟩, fp, q⟩
  | false =>
    obtain ⟨its, rv, p, hz⟩ := I1.tuple (show SqT X.K H1 a xs from hq)
    exact wpAny_pyIter_tuple (show s1.heap.IsTuple a its.toArray from p) ⟨s1.heap.objs.size, [s1.heap.objs.size], _, _, H1, rfl, I1.kept (t' := s1.toks) fun b o e => Heap.get?_push_of_some _ e, turn_tuple a _, ⟨_, Heap.get?_push_size _ rfl, rfl, rfl⟩, fp, q⟩
theorem ItOk.seq {α1 : List Lc} {Hb : Hp} {b : Bool} {a : Addr} {it : IT} (p : PcOk G α1 Hb b a it)   : ItOk G false α1 Hb (if b = true then Itl G.K a else Itt G.K a) it := by
  intro α S H po rs i
  obtain ⟨h1, h2⟩ := p α S H po rs i
  cases b with
  | true =>
    refine ⟨fun d hd => ?_, fun he => ?_⟩
    · obtain ⟨xs, x, k1, k2, k3⟩ := h1 d hd
      refine ⟨⟨xs, x, k1, k2⟩, fun y H' ⟨e, hy⟩ => ?_⟩
      subst e
      have := hy xs k1
      rw [k2] at this
      cases this
      exact ⟨.inl rfl, k3⟩
    · obtain ⟨xs, k1, k2⟩ := h2 he
      exact ⟨xs, k1, by omega⟩
  | false =>
    refine ⟨fun d hd => ?_, fun he => ?_⟩
    · obtain ⟨xs, x, k1, k2, k3⟩ := h1 d hd
      refine ⟨⟨xs, x, k1, k2⟩, fun y H' ⟨e, hy⟩ => ?_⟩
      subst e
      have := hy xs k1
      rw [k2] at this
      cases this
      exact ⟨.inl rfl, k3⟩
    · obtain ⟨xs, k1, k2⟩ := h2 he
      exact ⟨xs, k1, by omega⟩
theorem xi_seq (hG : GOk X G) (h : XE X G e m) : XI X G false tg e (mSrc m) := by
  refine ⟨fun W t => PI.imp (pi_seqB (h.run W t)) fun σ H R hh => tOf_mono (srcStep (mi := mSrc m) (fun ρ e S1 => match srcE ρ S1 e with | some it => .ok it S1 | none => .bad) (fun _ _ => rfl) hh) fun x H2 ⟨α, ρ, α2, S2, e1, m2, r2, g2⟩ => ?_⟩
  cases hs : srcE ρ S2 e1 with
  | none => simp only [hs] at g2
  | some it =>
    simp only [hs] at g2
    obtain ⟨b, a, e, hx, hp⟩ := piece_ok m2 r2 hs
    refine ⟨b, a, e, by rw [hG.K]; exact hx, ?_⟩
    rw [hG.K]
    exact g2 α2 H2 _ m2 fun Hb ow w B => .seq (hp Hb ow w B)
/-! ### range -/
def rgD (a b : Int) : List D := (List.range (b - a).toNat).map fun i => .int (a + (i : Nat))
def rgOk (a b : Int) : Bool := decide (-(2 ^ 62) ≤ a ∧ a < 2 ^ 62 ∧ -(2 ^ 62) ≤ b ∧ b < 2 ^ 62)
theorem rg_at {a b : Int} {S : Store} {i : Nat} {d : D} (h : (IT.fix (rgD a b)).at S i = some (some d)) : i < (b - a).toNat ∧ d = .int (a + (i : Nat)) := by
  have q := at_fix h
  unfold rgD at q
  rw [List.getElem?_map] at q
  have hi : i < (List.range (b - a).toNat).length := by
    apply Nat.lt_of_not_le
    intro hle
    rw [List.getElem?_eq_none hle] at q
    cases q
  rw [List.getElem?_eq_getElem hi] at q
  rw [List.length_range] at hi
  simp at q
  exact ⟨hi, q.symm⟩
theorem ItOk.rg {α1 : List Lc} {Hb : Hp} {a b : Int} : ItOk G false α1 Hb (Itr a (b - a).toNat) (.fix (rgD a b)) := by
  intro α S H po rs i
  refine ⟨fun d hd => ?_, fun he => ?_⟩
  · obtain ⟨h1, rfl⟩ := rg_at hd
    refine ⟨h1, fun x H' ⟨e, ex⟩ => ⟨.inl e, ?_⟩⟩
    exact ex
  · have := at_end he
    have e2 : (rgD a b).length = (b - a).toNat := by unfold rgD; simp
    show (b - a).toNat ≤ i
    omega
def mRg1 (m : ME) : MI := fun ρ S => (m ρ S).bind fun e S1 => match asI e with
  | some j => if rgOk 0 j = true then .ok (.fix (rgD 0 j)) S1 else .bad
  | none => .bad
theorem xi_range1 (hg : Gl X "range") (hm : X.mg "range" = none) (h : XE X G e m) (hs : starEach [e] X.env = (false, eval e X.env) :: starEach [] X.env := by rfl) : XI X G false tg (.Call (.Name "range" p) [e] [] pos) (mRg1 m) := by
  refine ⟨fun W t => PI.imp (pi_range1 hg hm (pa_cons (h.run W t) pa_nil hs) hs) fun σ H R hh => ?_⟩
  show tOf G m W σ H fun x H1 => _
  refine tOf_mono (srcStep (mi := mRg1 m) (fun _ e S1 => match asI e with | some j => if rgOk 0 j = true then .ok (.fix (rgD 0 j)) S1 else .bad | none => .bad) (fun _ _ => rfl) hh) fun x H2 ⟨α, ρ, α2, S2, e1, m2, r2, g2⟩ => ?_
  cases hi : asI e1 with
  | none => simp only [hi] at g2
  | some j =>
    simp only [hi] at g2
    cases asI_ok r2 hi
    by_cases ok : rgOk 0 j = true
    · rw [if_pos ok] at g2
      unfold rgOk at ok
      rw [decide_eq_true_eq] at ok
      refine ⟨j, rfl, ok.2.2.1, ok.2.2.2, ?_⟩
      have e0 : j.toNat = (j - 0).toNat := by rw [Int.sub_zero]
      rw [e0]
      exact g2 α2 H2 _ m2 fun Hb ow w B => .rg
    · rw [if_neg ok] at g2
      exact g2.elim
end
end DL

set_option Elab.async false
set_option autoImplicit false
set_option linter.all false
set_option maxRecDepth 100000
set_option maxHeartbeats 2000000
namespace DL
open PySem PySem.Spec PyProof.Rows L2
/-! ## sources of several arguments -/
section
variable {X : Cx} {G : Gc} {tg e e2 : Expr} {es : List Expr} {m m2 : ME} {ma : MA} {p pos tpos : Pos} {elts : List Expr} {kk : Nat}
theorem srcStepA {W : WX} {σ : L2.St} {H : Hp} {Rr : It → Hp → Prop} (k : Env → List EV → Store → R IT) {mi : MI} (hmi : ∀ ρ S, mi ρ S = (ma ρ S).bind (k ρ)) {wk : Bool} (h : iOf G wk mi W σ H Rr) :
    tOfA G ma W σ H fun xs H2 => ∃ α ρ α2 S2 es, Mid G α H ρ σ α2 H2 S2 ∧ REs G α2 H2 ρ σ H es xs ∧ match k ρ es S2 with
      | .ok it S' => ∀ α' H' J, Mid G α H ρ σ α' H' S' → (∀ Hb ow, (ow = true → it.isOwn = false) → Bs ρ σ H' Hb ow → ItOk G wk α' Hb J it) → Rr J H'
      | .exc c d S' => ∀ α' H' dd v, Mid G α H ρ σ α' H' S' → H' dd = some (.xd [("value", v)]) → RD G α' H' d v → W (.ref (G.cls c)) (some dd) σ H'
      | .bad => False := by
  obtain ⟨α, ρ, S, rs, rl, g⟩ := h
  rw [hmi] at g
  refine ⟨α, ρ, S, rs, rl, ?_⟩
  cases hr : ma ρ S with
  | ok es S1 => rw [hr] at g; exact fun α1 H1 xs m1 r1 => ⟨α, ρ, α1, S1, es, m1, r1, g⟩
  | exc c d S1 => rw [hr] at g; exact g
  | bad => rw [hr] at g; exact g
def kRg2 (es : List EV) (S : Store) : R IT := match es with
  | [.v (.int i), .v (.int j)] => if rgOk i j = true then .ok (.fix (rgD i j)) S else .bad
  | _ => .bad
def mRg2 (ma : MA) : MI := fun ρ S => (ma ρ S).bind kRg2
theorem xi_range2 (hg : Gl X "range") (hm : X.mg "range" = none) (h : XA X G [e, e2] ma) (hs : starEach [e, e2] X.env = [(false, eval e X.env), (false, eval e2 X.env)] := by rfl) (hs2 : starEach [e2] X.env = [(false, eval e2 X.env)] := by rfl) :
    XI X G false tg (.Call (.Name "range" p) [e, e2] [] pos) (mRg2 ma) := by
  refine ⟨fun W t => PI.imp (pi_range2 hg hm (h.run W t) hs hs2) fun σ H R hh => ?_⟩
  refine tOfA_mono (srcStepA (ma := ma) (mi := mRg2 ma) (fun _ es S => kRg2 es S) (fun _ _ => rfl) hh) fun xs H2 ⟨α, ρ, α2, S2, es, m2, r2, g2⟩ => ?_
  unfold kRg2 at g2
  split at g2
  · rename_i it S' hk
    split at hk
    · rename_i i j
      obtain ⟨x, y, rfl, r1, r3⟩ := r2.two
      cases (show x = .int i from r1)
      cases (show y = .int j from r3)
      by_cases ok : rgOk i j = true
      · rw [if_pos ok] at hk
        cases hk
        unfold rgOk at ok
        rw [decide_eq_true_eq] at ok
        exact ⟨i, j, rfl, ok, g2 α2 H2 _ m2 fun Hb ow w B => .rg⟩
      · rw [if_neg ok] at hk
        cases hk
    · cases hk
  · rename_i hk
    split at hk
    · split at hk <;> cases hk
    · cases hk
  · exact g2.elim
/-- a range with a step -/
def rg3N (i j c : Int) : Nat := if 0 < c then ((j - i + c - 1) / c).toNat else ((i - j + (-c) - 1) / (-c)).toNat
def rg3D (i c : Int) (n : Nat) : List D := (List.range n).map fun k => .int (i + (k : Nat) * c)
theorem rg3_at {i c : Int} {n : Nat} {S : Store} {k : Nat} {d : D} (h : (IT.fix (rg3D i c n)).at S k = some (some d)) : k < n ∧ d = .int (i + (k : Nat) * c) := by
  have q := at_fix h
  unfold rg3D at q
  rw [List.getElem?_map] at q
  have hi : k < (List.range n).length := by
    apply Nat.lt_of_not_le
    intro hle
    rw [List.getElem?_eq_none hle] at q
    cases q
  rw [List.getElem?_eq_getElem hi] at q
  rw [List.length_range] at hi
  simp at q
  exact ⟨hi, q.symm⟩
theorem ItOk.rg3 {α1 : List Lc} {Hb : Hp} {i c : Int} {n : Nat} : ItOk G false α1 Hb (Itc i c n) (.fix (rg3D i c n)) := by
  intro α S H po rs k
  refine ⟨fun d hd => ?_, fun he => ?_⟩
  · obtain ⟨h1, rfl⟩ := rg3_at hd
    refine ⟨h1, fun x H' ⟨e, ex⟩ => ⟨.inl e, ?_⟩⟩
    exact ex
  · have := at_end he
    have e2 : (rg3D i c n).length = n := by unfold rg3D; simp
    show n ≤ k
    omega
def rg3Ok (i j c : Int) (n : Nat) : Bool := c != 0 && decide (c.natAbs < 1073741824) && Builtin.Range.small i j c && decide (Builtin.Range.rangeSize i j c = (n : Int))
def kRg3 (es : List EV) (S : Store) : R IT := match es with
  | [.v (.int i), .v (.int j), .v (.int c)] => if rg3Ok i j c (Builtin.Range.rangeSize i j c).toNat = true then .ok (.fix (rg3D i c (Builtin.Range.rangeSize i j c).toNat)) S else .bad
  | _ => .bad
def mRg3 (ma : MA) : MI := fun ρ S => (ma ρ S).bind kRg3
/-! ### enumerate, zip -/
def enumD : Nat → List D → List D
  | _, [] => []
  | k, d :: ds => .tup [.int (k : Nat), d] :: enumD (k + 1) ds
def IT.enum : IT → IT
  | .fix ds => .fix (enumD 0 ds)
  | .own ds => .own (enumD 0 ds)
  | .dyn f => .dyn fun S i => match f S i with
    | some (some d) => some (some (.tup [.int (i : Nat), d]))
    | some none => some none
    | none => none
theorem enumD_len : ∀ (ds : List D) (k : Nat), (enumD k ds).length = ds.length
  | [], _ => rfl
  | d :: ds, k => by rw [enumD, List.length_cons, List.length_cons, enumD_len ds]
theorem enumD_at : ∀ (ds : List D) (k i : Nat), (enumD k ds)[i]? = (ds[i]?).map fun d => .tup [.int ((k + i : Nat) : Int), d]
  | [], _, i => by simp [enumD]
  | d :: ds, k, 0 => by simp [enumD]
  | d :: ds, k, i + 1 => by
    rw [enumD, List.getElem?_cons_succ, List.getElem?_cons_succ, enumD_at ds (k + 1) i]
    have e : k + 1 + i = k + (i + 1) := by omega
    rw [e]
theorem enum_own (it : IT) : it.enum.isOwn = it.isOwn := by cases it <;> rfl
theorem enum_list (ds : List D) (i : Nat) : (if i < (enumD 0 ds).length then some (enumD 0 ds)[i]? else if i = (enumD 0 ds).length then some none else none) = (if i < ds.length then some ds[i]? else if i = ds.length then some none else none).map fun o => o.map fun d => D.tup [.int (i : Nat), d] := by
  rw [enumD_len]
  by_cases c : i < ds.length
  · rw [if_pos c, if_pos c, enumD_at]
    simp
  · rw [if_neg c, if_neg c]
    by_cases c2 : i = ds.length
    · rw [if_pos c2]; rfl
    · rw [if_neg c2]; rfl
theorem enum_at (it : IT) (S : Store) (i : Nat) : it.enum.at S i = (it.at S i).map fun o => o.map fun d => D.tup [.int (i : Nat), d] := by
  cases it with
  | fix ds => exact enum_list ds i
  | own ds => exact enum_list ds i
  | dyn f =>
    show (match f S i with
      | some (some d) => some (some (D.tup [.int (i : Nat), d]))
      | some none => some none
      | none => none) = (f S i).map _
    cases f S i with
    | none => rfl
    | some o => cases o <;> rfl
theorem ItOk.enum {α1 : List Lc} {Hb : Hp} {b : Bool} {a : Addr} {it : IT} (p : PcOk G α1 Hb b a it) : ItOk G true α1 Hb (Itne G.K b a 0) it.enum := by
  intro α S H po rs i
  obtain ⟨h1, h2⟩ := p α S H po rs i
  rw [enum_at]
  refine ⟨fun d hd => ?_, fun he => ?_⟩
  · cases ha : it.at S i with
    | none => rw [ha] at hd; cases hd
    | some o =>
      cases o with
      | none => rw [ha] at hd; cases hd
      | some d' =>
        rw [ha] at hd
        cases hd
        obtain ⟨xs, x, k1, k2, k3⟩ := h1 d' ha
        refine ⟨⟨xs, x, k1, k2⟩, fun v H' ⟨T, y, e1, e2, e3, e4⟩ => ?_⟩
        have := e4 xs k1
        rw [k2] at this
        cases this
        subst e1 e3
        refine ⟨.inr ⟨T, _, e2, rfl⟩, T, _, rfl, SqT.of upd_same, .int (0 + (i : Nat)), _, rfl, ?_, x, [], rfl, RD.kept rs.adm (Post.laid e2) _ _ k3, rfl⟩
        show V.int _ = V.int _
        rw [Int.zero_add]
  · cases ha : it.at S i with
    | none => rw [ha] at he; cases he
    | some o =>
      cases o with
      | none => exact h2 ha
      | some d' => rw [ha] at he; cases he
def kEnum (ρ : Env) (es : List EV) (S : Store) : R IT := match es with
  | [e] => match srcE ρ S e with
    | some it => .ok it.enum S
    | none => .bad
  | _ => .bad
def mEnum (ma : MA) : MI := fun ρ S => (ma ρ S).bind (kEnum ρ)
theorem xi_enum (hG : GOk X G) (hg : Gl X "enumerate") (hm : X.mg "enumerate" = none) (h : XA X G [e] ma) (hs : starEach [e] X.env = [(false, eval e X.env)] := by rfl) :
    XI X G true (.Tuple elts kk tpos) (.Call (.Name "enumerate" p) [e] [] pos) (mEnum ma) := by
  refine ⟨fun W t => PI.imp (pi_enumB hg hm (h.run W t) hs) fun σ H R hh => ?_⟩
  refine tOfA_mono (srcStepA (ma := ma) (mi := mEnum ma) kEnum (fun _ _ => rfl) hh) fun xs H2 ⟨α, ρ, α2, S2, es, m2, r2, g2⟩ => ?_
  unfold kEnum at g2
  split at g2
  · rename_i it S' hk
    split at hk
    · rename_i e1
      split at hk
      · rename_i it0 hs0
        cases hk
        obtain ⟨x, rfl, r1⟩ := r2.one
        obtain ⟨b, a, e, ⟨xs, hx⟩, hp⟩ := piece_ok m2 r1 hs0
        subst e
        refine ⟨b, a, xs, rfl, by rw [hG.K]; exact hx, ?_⟩
        rw [hG.K]
        exact g2 α2 H2 _ m2 fun Hb ow w B => .enum (hp Hb ow (fun q => by rw [← enum_own]; exact w q) B)
      · cases hk
    · cases hk
  · rename_i hk
    split at hk
    · split at hk <;> cases hk
    · cases hk
  · exact g2.elim
def zipD : List D → List D → List D
  | x :: xs, y :: ys => .tup [x, y] :: zipD xs ys
  | _, _ => []
def IT.zip (a b : IT) : Option IT := match a, b with
  | .fix xs, .fix ys => some (.fix (zipD xs ys))
  | .fix xs, .own ys => some (.own (zipD xs ys))
  | .own xs, .fix ys => some (.own (zipD xs ys))
  | .own xs, .own ys => some (.own (zipD xs ys))
  | .own _, .dyn _ => none
  | .dyn _, .own _ => none
  | a, b => some (.dyn fun S i => match a.at S i, b.at S i with
    | some (some x), some (some y) => some (some (.tup [x, y]))
    | some none, some _ => some none
    | some _, some none => some none
    | _, _ => none)
theorem zipD_len : ∀ xs ys : List D, (zipD xs ys).length = min xs.length ys.length
  | [], _ => by simp [zipD]
  | _ :: _, [] => by simp [zipD]
  | x :: xs, y :: ys => by rw [zipD, List.length_cons, List.length_cons, List.length_cons, zipD_len xs ys]; omega
theorem zipD_at : ∀ (xs ys : List D) (i : Nat) (d : D), (zipD xs ys)[i]? = some d → ∃ x y, xs[i]? = some x ∧ ys[i]? = some y ∧ d = .tup [x, y]
  | [], _, _, _, h => by simp [zipD] at h
  | _ :: _, [], _, _, h => by simp [zipD] at h
  | x :: xs, y :: ys, 0, d, h => by simp [zipD] at h; exact ⟨x, y, rfl, rfl, h.symm⟩
  | x :: xs, y :: ys, i + 1, d, h => by
    rw [zipD, List.getElem?_cons_succ] at h
    simpa using zipD_at xs ys i d h
abbrev lsAt (ds : List D) (i : Nat) : Option (Option D) := if i < ds.length then some ds[i]? else if i = ds.length then some none else none
theorem lsAt_some {ds : List D} {i : Nat} {x : D} (h : ds[i]? = some x) : lsAt ds i = some (some x) := by
  unfold lsAt
  rw [if_pos (List.getElem?_eq_some_iff.mp h).1, h]
theorem lsAt_le {ds : List D} {i : Nat} (h : i ≤ ds.length) : ∃ z, lsAt ds i = some z := by
  unfold lsAt
  by_cases c : i < ds.length
  · exact ⟨_, if_pos c⟩
  · exact ⟨none, by rw [if_neg c, if_pos (by omega)]⟩
def ZipAt (u v w : Option (Option D)) : Prop := (∀ d, w = some (some d) → ∃ x y, d = .tup [x, y] ∧ u = some (some x) ∧ v = some (some y)) ∧ (w = some none → (u = some none ∧ ∃ z, v = some z) ∨ (v = some none ∧ ∃ z, u = some z))
theorem zipAt_ls (xs ys : List D) (i : Nat) : ZipAt (lsAt xs i) (lsAt ys i) (lsAt (zipD xs ys) i) := by
  refine ⟨fun d hd => ?_, fun he => ?_⟩
  · obtain ⟨x, y, h1, h2, rfl⟩ := zipD_at xs ys i d (at_fix hd)
    exact ⟨x, y, rfl, lsAt_some h1, lsAt_some h2⟩
  · have e := at_end he
    rw [zipD_len] at e
    by_cases c : xs.length ≤ ys.length
    · refine .inl ⟨?_, lsAt_le (by omega)⟩
      unfold lsAt
      rw [if_neg (by omega), if_pos (by omega)]
    · refine .inr ⟨?_, lsAt_le (by omega)⟩
      unfold lsAt
      rw [if_neg (by omega), if_pos (by omega)]
theorem zipAt_dyn (u v : Option (Option D)) : ZipAt u v (match u, v with
    | some (some x), some (some y) => some (some (.tup [x, y]))
    | some none, some _ => some none
    | some _, some none => some none
    | _, _ => none) := by
  refine ⟨fun d hd => ?_, fun he => ?_⟩
  · split at hd
    · cases hd; exact ⟨_, _, rfl, rfl, rfl⟩
    · cases hd
    · cases hd
    · cases hd
  · split at he
    · cases he
    · exact .inl ⟨rfl, _, rfl⟩
    · exact .inr ⟨rfl, _, rfl⟩
    · cases he
theorem zip_at {a b it : IT} (h : a.zip b = some it) (S : Store) (i : Nat) : ZipAt (a.at S i) (b.at S i) (it.at S i) := by
  cases a <;> cases b <;> simp only [IT.zip, Option.some.injEq, reduceCtorEq] at h <;> subst h
  · exact zipAt_ls _ _ i
  · exact zipAt_ls _ _ i
  · exact zipAt_dyn _ _
  · exact zipAt_ls _ _ i
  · exact zipAt_ls _ _ i
  · exact zipAt_dyn _ _
  · exact zipAt_dyn _ _
theorem zip_own {a b it : IT} (h : a.zip b = some it) (w : it.isOwn = false) : a.isOwn = false ∧ b.isOwn = false := by
  cases a <;> cases b <;> simp only [IT.zip, Option.some.injEq, reduceCtorEq] at h <;> subst h <;> first | exact ⟨rfl, rfl⟩ | cases w
theorem ItOk.zip {α1 : List Lc} {Hb : Hp} {b c : Bool} {a1 a2 : Addr} {ia ib it : IT} (p1 : PcOk G α1 Hb b a1 ia) (p2 : PcOk G α1 Hb c a2 ib) (h : ia.zip ib = some it) : ItOk G true α1 Hb (Itnz G.K b c a1 a2) it := by
  intro α S H po rs i
  obtain ⟨h1, h2⟩ := p1 α S H po rs i
  obtain ⟨h3, h4⟩ := p2 α S H po rs i
  obtain ⟨z1, z2⟩ := zip_at h S i
  refine ⟨fun d hd => ?_, fun he => ?_⟩
  · obtain ⟨dx, dy, rfl, e1, e2⟩ := z1 d hd
    obtain ⟨xs, x, k1, k2, k3⟩ := h1 dx e1
    obtain ⟨ys, y, k4, k5, k6⟩ := h3 dy e2
    refine ⟨⟨xs, ys, x, y, k1, k4, k2, k5⟩, fun v H' ⟨T, x', y', q1, q2, q3, q4, q5⟩ => ?_⟩
    have t1 := q4 xs k1
    rw [k2] at t1
    cases t1
    have t2 := q5 ys k4
    rw [k5] at t2
    cases t2
    subst q1 q3
    exact ⟨.inr ⟨T, _, q2, rfl⟩, T, _, rfl, SqT.of upd_same, x, _, rfl, RD.kept rs.adm (Post.laid q2) _ _ k3, y, [], rfl, RD.kept rs.adm (Post.laid q2) _ _ k6, rfl⟩
  · have len1 : ∀ z, ia.at S i = some z → ∃ xs, SqB G.K b H a1 xs ∧ i ≤ xs.length ∧ (z = none → xs.length = i) := fun z hz => by
      cases z with
      | none => obtain ⟨xs, k1, k2⟩ := h2 hz; exact ⟨xs, k1, by omega, fun _ => k2⟩
      | some d => obtain ⟨xs, x, k1, k2, _⟩ := h1 d hz; exact ⟨xs, k1, Nat.le_of_lt (List.getElem?_eq_some_iff.mp k2).1, fun q => by cases q⟩
    have len2 : ∀ z, ib.at S i = some z → ∃ xs, SqB G.K c H a2 xs ∧ i ≤ xs.length ∧ (z = none → xs.length = i) := fun z hz => by
      cases z with
      | none => obtain ⟨xs, k1, k2⟩ := h4 hz; exact ⟨xs, k1, by omega, fun _ => k2⟩
      | some d => obtain ⟨xs, x, k1, k2, _⟩ := h3 d hz; exact ⟨xs, k1, Nat.le_of_lt (List.getElem?_eq_some_iff.mp k2).1, fun q => by cases q⟩
    rcases z2 he with ⟨e1, z, e2⟩ | ⟨e1, z, e2⟩
    · obtain ⟨xs, k1, k2, k3⟩ := len1 none e1
      obtain ⟨ys, k4, k5, _⟩ := len2 z e2
      have := k3 rfl
      exact ⟨xs, ys, k1, k4, by omega⟩
    · obtain ⟨xs, k1, k2, _⟩ := len1 z e2
      obtain ⟨ys, k4, k5, k6⟩ := len2 none e1
      have := k6 rfl
      exact ⟨xs, ys, k1, k4, by omega⟩
def kZip (ρ : Env) (es : List EV) (S : Store) : R IT := match es with
  | [e, e'] => match srcE ρ S e, srcE ρ S e' with
    | some a, some b => match a.zip b with
      | some it => .ok it S
      | none => .bad
    | _, _ => .bad
  | _ => .bad
def mZip (ma : MA) : MI := fun ρ S => (ma ρ S).bind (kZip ρ)
theorem xi_zip (hG : GOk X G) (hg : Gl X "zip") (hm : X.mg "zip" = none) (h : XA X G [e, e2] ma)
    (hs : starEach [e, e2] X.env = (false, eval e X.env) :: starEach [e2] X.env := by rfl) (hpl : (backTo pos (starEach [e2] X.env)).any (·.1) = false := by rfl) :
    XI X G true (.Tuple elts kk tpos) (.Call (.Name "zip" p) [e, e2] [] pos) (mZip ma) := by
  refine ⟨fun W t => PI.imp (pi_zipB hg hm (h.run W t) hs hpl) fun σ H R hh => ?_⟩
  refine tOfA_mono (srcStepA (ma := ma) (mi := mZip ma) kZip (fun _ _ => rfl) hh) fun xs H2 ⟨α, ρ, α2, S2, es, m2, r2, g2⟩ => ?_
  cases hk : kZip ρ es S2 with
  | bad => rw [hk] at g2; exact g2.elim
  | exc c d S' =>
    unfold kZip at hk
    split at hk
    · split at hk
      · split at hk <;> cases hk
      · cases hk
    · cases hk
  | ok it S' =>
    rw [hk] at g2
    unfold kZip at hk
    split at hk
    · rename_i e1 e2
      split at hk
      · rename_i ia ib ha hb
        split at hk
        · rename_i it' hz
          cases hk
          obtain ⟨x, y, rfl, r1, r3⟩ := r2.two
          obtain ⟨b, a1, ea, ⟨xs, hx⟩, hp1⟩ := piece_ok m2 r1 ha
          obtain ⟨c, a2, eb, ⟨ys, hy⟩, hp2⟩ := piece_ok m2 r3 hb
          subst ea eb
          refine ⟨b, c, a1, a2, xs, ys, rfl, by rw [hG.K]; exact hx, by rw [hG.K]; exact hy, ?_⟩
          rw [hG.K]
          exact g2 α2 H2 _ m2 fun Hb ow w B => .zip (hp1 Hb ow (fun q => (zip_own hz (w q)).1) B) (hp2 Hb ow (fun q => (zip_own hz (w q)).2) B) hz
        · cases hk
      · cases hk
    · cases hk
end
end DL

set_option Elab.async false
set_option autoImplicit false
set_option linter.all false
set_option maxRecDepth 100000
set_option maxHeartbeats 2000000
namespace DL
open PySem PySem.Spec PyProof.Rows L2
/-! ## targets -/
abbrev MG := D → Env → Option Env
abbrev MGs := List D → Env → Option Env
/-- the slots' own lists were there ahead -/
def Kin (ρ : Env) (σ : L2.St) (ρ' : Env) (σ' : L2.St) : Prop := ∀ (i : Nat) (s : SV) (x : V), ρ'[i]? = some (some s) → s.own = true → σ'[i]? = some (some x) → ρ[i]? = some (some s) ∧ σ[i]? = some (some x)
def gOf (G : Gc) (wk : Bool) (t : MG) (is : List Nat) : TG := fun v σ H Q => ∃ α ρ d ρ', RL G α H ρ σ ∧ RDk wk G α H d v ∧ t d ρ = some ρ' ∧
  ∀ σ', RL G α H ρ' σ' → Kin ρ σ ρ' σ' → (∀ vs, (∀ i ∈ is, i ∈ vs) → wipe σ' vs = wipe σ vs) → Q σ' H
def gsOf (G : Gc) (t : MGs) (is : List Nat) : TGs := fun xs σ H Q => ∃ α ρ ds ρ', RL G α H ρ σ ∧ RDs G α H ds xs ∧ t ds ρ = some ρ' ∧
  ∀ σ', RL G α H ρ' σ' → Kin ρ σ ρ' σ' → (∀ vs, (∀ i ∈ is, i ∈ vs) → wipe σ' vs = wipe σ vs) → Q σ' H
structure XG (X : Cx) (G : Gc) (wk : Bool) (tg : Expr) (t : MG) (is : List Nat) : Prop where
  run : PG X tg (gOf G wk t is)
structure XGs (X : Cx) (G : Gc) (tgs : List Expr) (t : MGs) (is : List Nat) : Prop where
  run : PGs X tgs (gsOf G t is)
theorem PG.imp {X : Cx} {tg : Expr} {t t' : TG} (h : PG X tg t) (i : ∀ v σ H Q, t' v σ H Q → t v σ H Q) : PG X tg t' := ⟨fun pins s σ H v u Q I r q => h.run pins s σ H v u Q I r (i _ _ _ _ q)⟩
theorem PGs.imp {X : Cx} {tg : List Expr} {t t' : TGs} (h : PGs X tg t) (i : ∀ v σ H Q, t' v σ H Q → t v σ H Q) : PGs X tg t' := ⟨fun pins s σ H v u Q I r q => h.run pins s σ H v u Q I r (i _ _ _ _ q)⟩
theorem Kin.refl (ρ : Env) (σ : L2.St) : Kin ρ σ ρ σ := fun _ _ _ h _ h' => ⟨h, h'⟩
theorem Kin.trans {ρ ρ1 ρ2 : Env} {σ σ1 σ2 : L2.St} (a : Kin ρ σ ρ1 σ1) (b : Kin ρ1 σ1 ρ2 σ2) : Kin ρ σ ρ2 σ2 := fun i s x h o h' => let ⟨q1, q2⟩ := b i s x h o h'; a i s x q1 o q2
theorem wipe_in : ∀ (vs : List Nat) (σ : L2.St) (i : Nat), i ∈ vs → (wipe σ vs)[i]? = if i < σ.length then some none else none
  | [], _, _, h => by cases h
  | v :: vs, σ, i, h => by
    unfold wipe
    by_cases e : i = v
    · subst e
      by_cases hl : i < σ.length
      · rw [List.getElem?_set_self (by rw [wipe_length]; exact hl), if_pos hl]
      · rw [List.getElem?_eq_none (by rw [List.length_set, wipe_length]; omega), if_neg hl]
    · rw [List.getElem?_set_ne (Ne.symm e)]
      exact wipe_in vs σ i ((List.mem_cons.mp h).resolve_left e)
theorem wipe_set {σ : L2.St} {i : Nat} {o : Option V} {vs : List Nat} (h : i ∈ vs) : wipe (σ.set i o) vs = wipe σ vs := by
  apply List.ext_getElem?
  intro j
  by_cases hj : j ∈ vs
  · rw [wipe_in vs _ j hj, wipe_in vs _ j hj, List.length_set]
  · rw [wipe_out hj, wipe_out hj, List.getElem?_set_ne (fun z => hj (by rw [← z]; exact h))]
def tgN (i : Nat) : MG := fun d ρ => some (ρ.set i (some (.v d)))
def tgT (t : MGs) : MG := fun d ρ => match d with
  | .tup ds => t ds ρ
  | _ => none
def tgNil : MGs := fun ds ρ => match ds with
  | [] => some ρ
  | _ => none
def tgCons (t : MG) (u : MGs) : MGs := fun ds ρ => match ds with
  | d :: r => match t d ρ with
    | some ρ1 => u r ρ1
    | none => none
  | [] => none
section
variable {X : Cx} {G : Gc} {pos : Pos} {tg e : Expr} {es : List Expr} {t : MG} {u : MGs} {is js : List Nat}
theorem xg_name {i : Nat} {x : Str} (hN : X.N.Nodup) (hi : X.N[i]? = some x) (hx : Loc X.env.scope x) (hf : X.fn x = true ∨ X.env.scope.names.lookup x = some .local := by first | exact .inl rfl | exact .inr rfl | assumption) : XG X G false (.Name x pos) (tgN i) [i] := by
  refine ⟨PG.imp (pg_name hN hi hx hf) fun v σ H Q ⟨α, ρ, d, ρ', rl, rd, ht, q⟩ => ?_⟩
  cases ht
  refine q _ (rl.set i (s := .v d) rd (fun _ _ _ o => by cases o)) (fun j s x h o h' => ?_) fun vs hv => wipe_set (hv i List.mem_cons_self)
  rcases set_get h with ⟨rfl, e, _⟩ | ⟨e, h⟩
  · cases e; cases o
  · rw [List.getElem?_set_ne (Ne.symm e)] at h'
    exact ⟨h, h'⟩
theorem xgs_nil : XGs X G [] tgNil [] := by
  refine ⟨PGs.imp pgs_nil fun xs σ H Q ⟨α, ρ, ds, ρ', rl, rd, ht, q⟩ => ?_⟩
  cases ds with
  | nil => cases ht; exact ⟨rd, q σ rl (Kin.refl _ _) fun _ _ => rfl⟩
  | cons d r => cases ht
theorem xgs_cons (h : XG X G false e t is) (k : XGs X G es u js) (hs : (assignEach (e :: es) X.env).map (·.2) = assign e X.env :: (assignEach es X.env).map (·.2) := by rfl) : XGs X G (e :: es) (tgCons t u) (is ++ js) := by
  refine ⟨PGs.imp (pgs_cons h.run k.run hs) fun xs σ H Q ⟨α, ρ, ds, ρ', rl, rd, ht, q⟩ => ?_⟩
  cases ds with
  | nil => cases ht
  | cons d r =>
    obtain ⟨v, vr, rfl, h1, h2⟩ := rd
    refine ⟨v, vr, rfl, ?_⟩
    cases h3 : t d ρ with
    | none => simp only [tgCons, h3] at ht; cases ht
    | some ρ1 =>
      simp only [tgCons, h3] at ht
      refine ⟨α, ρ, d, ρ1, rl, h1, h3, fun σ1 rl1 k1 w1 => ⟨α, ρ1, r, ρ', rl1, h2, ht, fun σ2 rl2 k2 w2 => q σ2 rl2 (k1.trans k2) fun vs hv => ?_⟩⟩
      rw [w2 vs fun i hi => hv i (List.mem_append_right _ hi), w1 vs fun i hi => hv i (List.mem_append_left _ hi)]
theorem xg_tup {wk : Bool} {k n : Nat} (hG : GOk X G) (hc : X.calm = true) (h : XGs X G es u is) (hu : ∀ ds ρ ρ', u ds ρ = some ρ' → ds.length = n) (hn : (assignEach es X.env).length = n := by rfl) (hst : (assignEach es X.env).findIdx? (·.1) = none := by rfl) : XG X G wk (.Tuple es k pos) (tgT u) is := by
  refine ⟨PG.imp (pg_tup hc h.run hn hst) fun v σ H Q ⟨α, ρ, d, ρ', rl, rd, ht, q⟩ => ?_⟩
  cases d with
  | tup ds =>
    have rd' : ∃ a vs, v = .ref a ∧ SqT G.K H a vs ∧ RDs G α H ds vs := by
      cases wk with
      | true => exact rd
      | false => obtain ⟨a, vs, e, h1, h2⟩ := (show RD G α H (.tup ds) v from rd); exact ⟨a, vs, e, h1.sq, h2⟩
    obtain ⟨a, vs, e, h1, h2⟩ := rd'
    exact ⟨a, vs, e, by rw [hG.K]; exact h1, by rw [← h2.len]; exact hu ds ρ ρ' ht, α, ρ, ds, ρ', rl, h2, ht, q⟩
  | _ => cases ht
theorem tgNil_len : ∀ (ds : List D) (ρ ρ' : Env), tgNil ds ρ = some ρ' → ds.length = 0 := fun ds ρ ρ' h => by
  cases ds with
  | nil => rfl
  | cons d r => cases h
theorem tgCons_len {n : Nat} (h : ∀ (ds : List D) (ρ ρ' : Env), u ds ρ = some ρ' → ds.length = n) : ∀ (ds : List D) (ρ ρ' : Env), tgCons t u ds ρ = some ρ' → ds.length = n + 1 := fun ds ρ ρ' q => by
  cases ds with
  | nil => cases q
  | cons d r =>
    unfold tgCons at q
    cases h3 : t d ρ with
    | none => simp only [h3] at q; cases q
    | some ρ1 => simp only [h3] at q; rw [List.length_cons, h r ρ1 ρ' q]
end
/-! ## for -/
def mFold (tg : MG) (b : MS) : List D → MS
  | [] => fun ρ S => .next ρ S
  | d :: ds => fun ρ S => match tg d ρ with
    | none => .bad
    | some ρ1 => match b ρ1 S with
      | .next ρ2 S2 => mFold tg b ds ρ2 S2
      | .cont ρ2 S2 => mFold tg b ds ρ2 S2
      | .brk ρ2 S2 => .next ρ2 S2
      | r => r
def mLoop (tg : MG) (b : MS) (f : Store → Nat → Option (Option D)) : Nat → Nat → MS
  | 0, _ => fun _ _ => .bad
  | n + 1, i => fun ρ S => match f S i with
    | none => .bad
    | some none => .next ρ S
    | some (some d) => match tg d ρ with
      | none => .bad
      | some ρ1 => match b ρ1 S with
        | .next ρ2 S2 => mLoop tg b f n (i + 1) ρ2 S2
        | .cont ρ2 S2 => mLoop tg b f n (i + 1) ρ2 S2
        | .brk ρ2 S2 => .next ρ2 S2
        | r => r
def mFor (src : MI) (tg : MG) (b : MS) (fuel : Nat) : MS := fun ρ S => match src ρ S with
  | .ok (.fix ds) S1 => mFold tg b ds ρ S1
  | .ok (.dyn f) S1 => mLoop tg b f fuel 0 ρ S1
  | .ok (.own _) _ => .bad
  | .exc c d S1 => .exc c d ρ S1
  | .bad => .bad
section
variable {X : Cx} {G : Gc} {W : WX} {α α0 α1 : List Lc} {H H0 H1 : Hp} {ρ ρ1 : Env} {σ σ1 : L2.St} {S S1 : Store}
/-- the base of a loop: the heap at its start without the slots' own lists -/
noncomputable def baseOf (ρ : Env) (σ : L2.St) (H1 : Hp) : Hp := fun b => open Classical in if ∃ (i : Nat) (s : SV), ρ[i]? = some (some s) ∧ s.own = true ∧ σ[i]? = some (some (.ref b)) then none else H1 b
theorem baseOf_some {b : Addr} {o : HO} (h : baseOf ρ σ H1 b = some o) : H1 b = some o ∧ ∀ (i : Nat) (s : SV), ρ[i]? = some (some s) → s.own = true → σ[i]? ≠ some (some (.ref b)) := by
  unfold baseOf at h
  split at h
  · cases h
  · rename_i hn
    exact ⟨h, fun i s h1 h2 h3 => hn ⟨i, s, h1, h2, h3⟩⟩
theorem baseOf_of {b : Addr} (hn : ∀ (i : Nat) (s : SV), ρ[i]? = some (some s) → s.own = true → σ[i]? ≠ some (some (.ref b))) : baseOf ρ σ H1 b = H1 b := by
  unfold baseOf
  rw [if_neg]
  rintro ⟨i, s, h1, h2, h3⟩
  exact hn i s h1 h2 h3
theorem baseOf_own {b : Addr} {i : Nat} {s : SV} (h1 : ρ[i]? = some (some s)) (h2 : s.own = true) (h3 : σ[i]? = some (some (.ref b))) : baseOf ρ σ H1 b = none := by
  unfold baseOf
  rw [if_pos ⟨i, s, h1, h2, h3⟩]
theorem bs_base : Bs ρ σ H1 (baseOf ρ σ H1) true := ⟨fun b o h => (baseOf_some h).1, fun b o h hn => by rw [baseOf_of (hn rfl)]; exact h⟩
theorem base_none (f : Sf G α0 H0 α1 ρ S σ H1) {b : Addr} (h : baseOf ρ σ H1 b = none) : H0 b = none := by
  by_cases c : ∃ (i : Nat) (s : SV), ρ[i]? = some (some s) ∧ s.own = true ∧ σ[i]? = some (some (.ref b))
  · obtain ⟨i, s, h1, h2, h3⟩ := c
    exact f.own i s b h1 h2 h3
  · rw [baseOf_of (fun i s h1 h2 h3 => c ⟨i, s, h1, h2, h3⟩)] at h
    exact f.post.unt h
theorem Sf.rebase (f : Sf G α0 H0 α1 ρ S σ H1) : Sf G α1 (baseOf ρ σ H1) α1 ρ S σ H1 where
  post := ⟨List.prefix_rfl, fun _ h => .inl h, fun b o h _ _ => (baseOf_some h).1, fun b h => by
    cases e : baseOf ρ σ H1 b with
    | none => exact absurd e h
    | some o => rw [(baseOf_some e).1]; simp⟩
  rs := f.rs
  rl := f.rl
  own := fun i s a h1 h2 h3 => baseOf_own h1 h2 h3
theorem Post.unbase (f : Sf G α0 H0 α1 ρ S σ H1) (p : Post α1 (baseOf ρ σ H1) α H) : Post α0 H0 α H where
  pre := f.post.pre.trans p.pre
  new := fun b h => by
    rcases p.new b h with h | h
    · exact f.post.new b h
    · exact .inr (base_none f h)
  keep := fun b o h n t => by
    have h1 := f.post.keep b o h n t
    have hn : baseOf ρ σ H1 b = some o := by
      cases e : baseOf ρ σ H1 b with
      | none => rw [base_none f e] at h; cases h
      | some u =>
        rw [(baseOf_some e).1] at h1
        exact h1
    exact p.keep b o hn (f.post.no h n) t
  there := fun b h => by
    refine p.there b fun e => h ?_
    exact base_none f e
theorem Sf.unbase (f : Sf G α0 H0 α1 ρ S σ H1) (g : Sf G α1 (baseOf ρ σ H1) α ρ1 S1 σ1 H) : Sf G α0 H0 α ρ1 S1 σ1 H :=
  ⟨g.post.unbase f, g.rs, g.rl, fun i s a h1 h2 h3 => base_none f (g.own i s a h1 h2 h3)⟩
def GfB (G : Gc) (W : WX) (α0 : List Lc) (H0 : Hp) (D : Ends) : Fl → Prop
  | .next _ _ => True
  | .cont _ _ => True
  | .brk ρ2 S2 => Gf G W α0 H0 D (.next ρ2 S2)
  | r => Gf G W α0 H0 D r
/-- what a body wants, from the outer base -/
theorem Gf.unbase {D D' : Ends} {r : Fl} (f : Sf G α0 H0 α1 ρ S σ H1) (hn : ∀ ρ2 S2, (r = .next ρ2 S2 ∨ r = .cont ρ2 S2) → ∀ α' σ' H', Sf G α1 (baseOf ρ σ H1) α' ρ2 S2 σ' H' → D'.nx σ' H')
    (hc : D'.ct = D'.nx) (hr : D'.rt = D.rt) (hb : D'.bk = D.nx) (g : GfB G W α0 H0 D r) : Gf G W α1 (baseOf ρ σ H1) D' r := by
  cases r with
  | next ρ2 S2 => exact hn ρ2 S2 (.inl rfl)
  | cont ρ2 S2 => intro α σ2 H2 q; rw [hc]; exact hn ρ2 S2 (.inr rfl) α σ2 H2 q
  | brk ρ2 S2 => intro α σ2 H2 q; rw [hb]; exact g α σ2 H2 (Sf.unbase f q)
  | ret e S2 =>
    intro α H2 x p rs re
    rw [hr]
    refine g α H2 x (Post.unbase f p) rs ?_
    cases e with
    | v d => exact re
    | fl ds => obtain ⟨a, vs, q, h1, h2, h3, h4⟩ := re; exact ⟨a, vs, q, h1, h2, h3, base_none f h4⟩
    | fd ds => obtain ⟨a, q, h1, h3, h4⟩ := re; exact ⟨a, q, h1, h3, base_none f h4⟩
    | sl i => exact re
  | exc c d ρ2 S2 => intro α σ2 H2 dd v q h1 h2; exact g α σ2 H2 dd v (Sf.unbase f q) h1 h2
  | bad => exact g
/-- a tuple that the walk made -/
theorem Sf.tupled {H' : Hp} (f : Sf G α0 H0 α ρ S σ H) (h : H' = H ∨ ∃ T vs, H T = none ∧ H' = upd H T (.tup vs)) : Sf G α0 H0 α ρ S σ H' := by
  rcases h with rfl | ⟨T, vs, h1, rfl⟩
  · exact f
  · exact f.step (f.mid.laid h1)
variable {tg iter : Expr} {body : List Stmt} {pos : Pos} {t : MG} {is : List Nat} {mb : MS} {src : MI}
theorem xs_for {wk : Bool} (fuel : Nat) (hp : ∀ W, Takes X W → PassesOwn (model X.prog X.w) X.A X.env X.xe) (hc : X.calm = true) (hi : XI X G wk tg iter src) (hg : XG X G wk tg t is) (hb : XSs X G body mb)
    (hs : ∀ x, foldedSetIterable iter X.env x = pure x := by intro _; rfl) : XS X G (.For tg iter body [] pos) (mFor src t mb fuel) := by
  refine ⟨fun W tk => PS.imp (ps_for (hp W tk) hc (hi.run W tk) hg.run (hb.run W tk) hs) fun En σ H ⟨α0, H0, α, ρ, S, s, g⟩ => ?_⟩
  refine ⟨α, ρ, S, s.rs, s.rl, ?_⟩
  unfold mFor at g
  cases hr : src ρ S with
  | bad => rw [hr] at g; exact g
  | exc c d S1 => rw [hr] at g; exact fun α1 H1 dd v m h1 h2 => g α1 σ H1 dd v (s.step m) h1 h2
  | ok it S1 =>
    rw [hr] at g
    intro α1 H1 J m hit
    have f := s.step m
    -- one turn
    have turn : ∀ (rest : Env → Store → Fl) (i : Nat) (d : D) (ρ2 : Env) (S2 : Store) (α2 : List Lc) (σ2 : L2.St) (H2 : Hp) (Nx : L2.St → Hp → Prop), Sf G α1 (baseOf ρ σ H1) α2 ρ2 S2 σ2 H2 → it.at S2 i = some (some d) → ItOk G wk α1 (baseOf ρ σ H1) J it →
        Gf G W α0 H0 En (match t d ρ2 with
          | none => .bad
          | some ρ3 => match mb ρ3 S2 with
            | .next ρ4 S4 => rest ρ4 S4
            | .cont ρ4 S4 => rest ρ4 S4
            | .brk ρ4 S4 => .next ρ4 S4
            | r => r) → (∀ ρ4 S4, Gf G W α0 H0 En (rest ρ4 S4) → ∀ α σ' H', Sf G α1 (baseOf ρ σ H1) α ρ4 S4 σ' H' → Nx σ' H') →
        J.go i H2 ∧ ∀ x H', J.yld i H2 x H' → gOf G wk t is x σ2 H' fun σ3 H3 => sOf G mb W { En with nx := Nx, ct := Nx, bk := En.nx } σ3 H3 := by
      intro rest i d ρ2 S2 α2 σ2 H2 Nx f2 hat iok g2 hrest
      obtain ⟨h1, h2⟩ := (iok α2 S2 H2 f2.post f2.rs i).1 d hat
      refine ⟨h1, fun x H' hy => ?_⟩
      obtain ⟨h3, h4⟩ := h2 x H' hy
      have f3 := f2.tupled h3
      cases ht : t d ρ2 with
      | none => rw [ht] at g2; exact g2.elim
      | some ρ3 =>
        rw [ht] at g2
        refine ⟨α2, ρ2, d, ρ3, f3.rl, h4, ht, fun σ3 rl3 k3 _ => ⟨α1, baseOf ρ σ H1, α2, ρ3, S2, ⟨f3.post, f3.rs, rl3, fun j sv a q1 q2 q3 => ?_⟩, ?_⟩⟩
        · obtain ⟨w1, w2⟩ := k3 j sv (.ref a) q1 q2 q3
          exact f3.own j sv a w1 q2 w2
        · simp only at g2
          refine Gf.unbase f (D := En) (fun ρ4 S4 hh α4 σ4 H4 f4 => ?_) rfl rfl rfl ?_
          · refine hrest ρ4 S4 ?_ α4 σ4 H4 f4
            rcases hh with hh | hh <;> (rw [hh] at g2; exact g2)
          · cases hm : mb ρ3 S2 <;> rw [hm] at g2 <;> first | trivial | exact g2
    cases it with
    | own ds => exact g.elim
    | fix ds =>
      have iok := hit (baseOf ρ σ H1) true (fun _ => rfl) bs_base
      refine ⟨fun i k σ' H' => i + k = ds.length ∧ ∃ α2 ρ2 S2, Sf G α1 (baseOf ρ σ H1) α2 ρ2 S2 σ' H' ∧ Gf G W α0 H0 En (mFold t mb (ds.drop i) ρ2 S2), ⟨ds.length, by omega, α1, ρ, S1, f.rebase, g⟩, ?_⟩
      rintro i k σ2 H2 ⟨hk, α2, ρ2, S2, f2, g2⟩
      cases k with
      | zero =>
        have e : i = ds.length := by omega
        rw [List.drop_eq_nil_of_le (by omega)] at g2
        refine .inl ⟨(iok α2 S2 H2 f2.post f2.rs i).2 ?_, g2 α2 σ2 H2 (Sf.unbase f f2)⟩
        show lsAt ds i = some none
        unfold lsAt
        rw [if_neg (by omega), if_pos e]
      | succ k =>
        have hi : i < ds.length := by omega
        rw [List.drop_eq_getElem_cons hi] at g2
        have tr := turn (mFold t mb (ds.drop (i + 1))) i ds[i] ρ2 S2 α2 σ2 H2 (fun σ' H' => ∃ α2 ρ2 S2, Sf G α1 (baseOf ρ σ H1) α2 ρ2 S2 σ' H' ∧ Gf G W α0 H0 En (mFold t mb (ds.drop (i + 1)) ρ2 S2)) f2
          (lsAt_some (List.getElem?_eq_getElem hi)) iok g2 (fun ρ4 S4 h α σ' H' q => ⟨α, ρ4, S4, q, h⟩)
        exact .inr ⟨tr.1, _, fun σ' H' q => ⟨k, Nat.lt_succ_self k, by omega, q⟩, tr.2⟩
    | dyn fn =>
      have iok := hit (baseOf ρ σ H1) true (fun _ => rfl) bs_base
      refine ⟨fun i k σ' H' => ∃ α2 ρ2 S2, Sf G α1 (baseOf ρ σ H1) α2 ρ2 S2 σ' H' ∧ Gf G W α0 H0 En (mLoop t mb fn k i ρ2 S2), ⟨fuel, α1, ρ, S1, f.rebase, g⟩, ?_⟩
      rintro i k σ2 H2 ⟨α2, ρ2, S2, f2, g2⟩
      cases k with
      | zero => exact g2.elim
      | succ k =>
        unfold mLoop at g2
        cases ha : fn S2 i with
        | none => simp only [ha] at g2; exact g2.elim
        | some o =>
          cases o with
          | none =>
            simp only [ha] at g2
            exact .inl ⟨(iok α2 S2 H2 f2.post f2.rs i).2 ha, g2 α2 σ2 H2 (Sf.unbase f f2)⟩
          | some d =>
            simp only [ha] at g2
            have tr := turn (mLoop t mb fn k (i + 1)) i d ρ2 S2 α2 σ2 H2 (fun σ' H' => ∃ α2 ρ2 S2, Sf G α1 (baseOf ρ σ H1) α2 ρ2 S2 σ' H' ∧ Gf G W α0 H0 En (mLoop t mb fn k (i + 1) ρ2 S2)) f2
              ha iok g2 (fun ρ4 S4 h α σ' H' q => ⟨α, ρ4, S4, q, h⟩)
            exact .inr ⟨tr.1, _, fun σ' H' q => ⟨k, Nat.lt_succ_self k, q⟩, tr.2⟩
end
end DL

set_option Elab.async false
set_option autoImplicit false
set_option linter.all false
set_option maxRecDepth 100000
set_option maxHeartbeats 2000000
namespace DL
open PySem PySem.Spec PyProof.Rows L2
/-! ## list comprehensions -/
def wipeE (ρ : Env) : List Nat → Env
  | [] => ρ
  | v :: vs => (wipeE ρ vs).set v none
/-- one item: what it gives, or nothing -/
def lcOne (vs : List Nat) (tg : MG) (tt : MT) (te : ME) (d : D) (ρ : Env) (S : Store) : R (Option D) := match tg d (wipeE ρ vs) with
  | none => .bad
  | some ρ1 => match tt ρ1 S with
    | .ok false S1 => .ok none S1
    | .ok true S1 => match te ρ1 S1 with
      | .ok e S2 => match pub [e] S2 with
        | some ([x], S3) => .ok (some x) S3
        | _ => .bad
      | _ => .bad
    | _ => .bad
abbrev MO1 := D → Env → Store → R (Option D)
def mLcF (one : MO1) : List D → Env → Store → R (List D)
  | [], _, S => .ok [] S
  | d :: ds, ρ, S => match one d ρ S with
    | .ok none S1 => mLcF one ds ρ S1
    | .ok (some x) S1 => (mLcF one ds ρ S1).bind fun r S2 => .ok (x :: r) S2
    | _ => .bad
def mLcD (one : MO1) (f : Store → Nat → Option (Option D)) : Nat → Nat → Env → Store → R (List D)
  | 0, _, _, _ => .bad
  | n + 1, i, ρ, S => match f S i with
    | some none => .ok [] S
    | some (some d) => if i < sizeLine then match one d ρ S with
        | .ok none S1 => mLcD one f n (i + 1) ρ S1
        | .ok (some x) S1 => (mLcD one f n (i + 1) ρ S1).bind fun r S2 => .ok (x :: r) S2
        | _ => .bad
      else .bad
    | none => .bad
def lcRun (one : MO1) (fuel : Nat) (it : IT) (ρ : Env) (S : Store) : R (List D) := match it with
  | .fix ds => if ds.length ≤ sizeLine then mLcF one ds ρ S else .bad
  | .own ds => if ds.length ≤ sizeLine then mLcF one ds ρ S else .bad
  | .dyn f => mLcD one f fuel 0 ρ S
def mLc (src : MI) (one : MO1) (fuel : Nat) : ME := fun ρ S => (src ρ S).bind fun it S1 => (lcRun one fuel it ρ S1).bind fun r S2 => .ok (.fl r) S2
def W0 : WX := fun _ _ _ _ => False
section
variable {G : Gc} {α α1 α2 α3 : List Lc} {H H1 H2 H3 : Hp} {ρ : Env} {σ : L2.St} {S S1 S2 S3 : Store} {vs : List Nat}
theorem wipeE_at : ∀ (vs : List Nat) (ρ : Env) (i : Nat) (s : SV), (wipeE ρ vs)[i]? = some (some s) → ρ[i]? = some (some s) ∧ i ∉ vs
  | [], _, _, _, h => ⟨h, by simp⟩
  | v :: vs, ρ, i, s, h => by
    unfold wipeE at h
    rcases set_get h with ⟨_, e, _⟩ | ⟨e, h⟩
    · cases e
    · obtain ⟨h1, h2⟩ := wipeE_at vs ρ i s h
      exact ⟨h1, by simp only [List.mem_cons, not_or]; exact ⟨e, h2⟩⟩
theorem wipeE_len : ∀ (vs : List Nat) (ρ : Env), (wipeE ρ vs).length = ρ.length
  | [], _ => rfl
  | v :: vs, ρ => by unfold wipeE; rw [List.length_set, wipeE_len vs ρ]
theorem RL.wipe (r : RL G α H ρ σ) : RL G α H (wipeE ρ vs) (wipe σ vs) where
  len := by rw [wipeE_len, wipe_length]; exact r.len
  val := fun i s h => by
    obtain ⟨h1, h2⟩ := wipeE_at vs ρ i s h
    obtain ⟨x, q1, q2⟩ := r.val i s h1
    exact ⟨x, by rw [wipe_out h2]; exact q1, q2⟩
  sep := fun i j s t a h1 h2 o1 o2 e1 e2 => by
    obtain ⟨k1, n1⟩ := wipeE_at vs ρ i s h1
    obtain ⟨k2, n2⟩ := wipeE_at vs ρ j t h2
    rw [wipe_out n1] at e1
    rw [wipe_out n2] at e2
    exact r.sep i j s t a k1 k2 o1 o2 e1 e2
theorem wipe_idem : wipe (wipe σ vs) vs = wipe σ vs := by
  apply List.ext_getElem?
  intro j
  by_cases hj : j ∈ vs
  · rw [wipe_in vs _ j hj, wipe_in vs _ j hj, wipe_length]
  · rw [wipe_out hj]
/-- the state within a comprehension: the new list at D -/
structure LcSt (G : Gc) (α : List Lc) (H : Hp) (ρ : Env) (σ : L2.St) (α1 : List Lc) (H1 : Hp) (Dd : Addr) (α2 : List Lc) (H2 : Hp) (S2 : Store) (acc : List D) (av : List V) : Prop where
  mid : Mid G α H ρ σ α2 H2 S2
  post : Post α1 H1 α2 H2
  at_ : H2 Dd = some (.lst av)
  rds : RDs G α2 H2 acc av
  no : ¬ inA α2 Dd
  h0 : H Dd = none
  h1 : H1 Dd = none
variable {Dd : Addr} {acc : List D} {av : List V}
theorem LcSt.step (s : LcSt G α H ρ σ α1 H1 Dd α2 H2 S2 acc av) (p : Post α2 H2 α3 H3) (rs : RS G α3 H3 S3) : LcSt G α H ρ σ α1 H1 Dd α3 H3 S3 acc av :=
  ⟨⟨s.mid.post.trans p, rs, s.mid.rl.kept s.mid.rs.adm p, s.mid.rl0⟩, s.post.trans p, p.keep _ _ s.at_ s.no (by intro ps; simp), RDs.kept s.mid.rs.adm p _ _ s.rds, p.no s.at_ s.no, s.h0, s.h1⟩
theorem LcSt.push (s : LcSt G α H ρ σ α1 H1 Dd α2 H2 S2 acc av) {x : D} {y : V} (r : RD G α2 H2 x y) : LcSt G α H ρ σ α1 H1 Dd α2 (upd H2 Dd (.lst (av ++ [y]))) S2 (acc ++ [x]) (av ++ [y]) where
  mid := s.mid.outN s.at_ trivial s.no s.h0
  post := ⟨s.post.pre, s.post.new, fun b o e n t => by rw [upd_ne (ne_of_none e s.h1)]; exact s.post.keep b o e n t, fun b e => by
    by_cases z : b = Dd
    · rw [z, upd_same]; simp
    · rw [upd_ne z]; exact s.post.there b e⟩
  at_ := upd_same
  rds := RDs.stays (Stays.upd s.at_ trivial) _ _ (s.rds.append ⟨y, [], rfl, r, rfl⟩)
  no := s.no
  h0 := s.h0
  h1 := s.h1
theorem LcSt.tupled (s : LcSt G α H ρ σ α1 H1 Dd α2 H2 S2 acc av) (h : H3 = H2 ∨ ∃ T vs, H2 T = none ∧ H3 = upd H2 T (.tup vs)) : LcSt G α H ρ σ α1 H1 Dd α2 H3 S2 acc av := by
  rcases h with rfl | ⟨T, ws, h1, rfl⟩
  · exact s
  · exact s.step (Post.laid h1) (s.mid.rs.laid h1)
theorem LcSt.first {Q : VK} (m : Mid G α H ρ σ α1 H1 S1) (hD : H1 Dd = none) : LcSt G α H ρ σ α1 H1 Dd α1 (upd H1 Dd (.lst [])) S1 [] [] :=
  ⟨m.laid hD, Post.laid hD, upd_same, rfl, m.no hD, m.post.unt hD, hD⟩
theorem LcSt.last {W : WX} {Q : VK} (s : LcSt G α H ρ σ α1 H1 Dd α2 H2 S2 acc av) (g : Gd G W α H ρ σ (.ok (.fl acc) S2) Q) : Q (.ref Dd) H2 :=
  g α2 H2 _ s.mid ⟨Dd, av, rfl, s.at_, s.rds, s.no, s.h0⟩
/-- one turn -/
theorem lc_turn {wk : Bool} {W : WX} {t : MG} {is : List Nat} {mt : MT} {me : ME} {d : D} {Q : VK} {Nx : Hp → Prop} {k : Option D → Store → R EV} {J : It} {it : IT} {i : Nat} (his : ∀ i ∈ is, i ∈ vs) (hlen : acc.length < sizeLine)
    (s : LcSt G α H ρ σ α1 H1 Dd α2 H2 S2 acc av) (hat : it.at S2 i = some (some d)) (iok : ItOk G wk α1 H1 J it)
    (g : Gd G W α H ρ σ (match lcOne vs t mt me d ρ S2 with | .ok o S3 => k o S3 | _ => .bad) Q)
    (hn : ∀ α3 H3 S3, LcSt G α H ρ σ α1 H1 Dd α3 H3 S3 acc av → Gd G W α H ρ σ (k none S3) Q → Nx H3)
    (hs : ∀ x α3 H3 S3 av3, LcSt G α H ρ σ α1 H1 Dd α3 H3 S3 (acc ++ [x]) av3 → Gd G W α H ρ σ (k (some x) S3) Q → Nx H3) :
    J.go i H2 ∧ ∀ x H', J.yld i H2 x H' → gOf G wk t is x (wipe σ vs) H' fun σ2 H2 => wipe σ2 vs = wipe σ vs ∧ tOfT G mt W0 σ2 H2 fun b H3 =>
      if b = true then tOf G me W0 σ2 H3 fun y H4 => ∃ acc, H4 Dd = some (.lst acc) ∧ acc.length < sizeLine ∧ Nx (upd H4 Dd (.lst (acc ++ [y]))) else Nx H3 := by
  obtain ⟨h1, h2⟩ := (iok α2 S2 H2 s.post s.mid.rs i).1 d hat
  refine ⟨h1, fun x H' hy => ?_⟩
  obtain ⟨h3, h4⟩ := h2 x H' hy
  have s2 := s.tupled h3
  unfold lcOne at g
  cases ht : t d (wipeE ρ vs) with
  | none => simp only [ht] at g; exact g.elim
  | some ρ1 =>
    simp only [ht] at g
    refine ⟨α2, wipeE ρ vs, d, ρ1, s2.mid.rl.wipe, h4, ht, fun σ2 rl2 _ hw => ⟨by rw [hw vs his, wipe_idem], α2, ρ1, S2, s2.mid.rs, rl2, ?_⟩⟩
    cases hm : mt ρ1 S2 with
    | bad => simp only [hm] at g; exact g.elim
    | exc c e S3 => simp only [hm] at g; exact g.elim
    | ok b S3 =>
      intro α3 H3 m3
      have s3 := s2.step m3.post m3.rs
      cases b with
      | false =>
        simp only [hm] at g
        exact (if_neg Bool.false_ne_true).mpr (hn α3 H3 S3 s3 g)
      | true =>
        simp only [hm] at g
        refine (if_pos rfl).mpr ⟨α3, ρ1, S3, m3.rs, m3.rl, ?_⟩
        cases he : me ρ1 S3 with
        | bad => simp only [he] at g; exact g.elim
        | exc c e S4 => simp only [he] at g; exact g.elim
        | ok e S4 =>
          intro α4 H4 y m4 r4
          simp only [he] at g
          cases hp : pub [e] S4 with
          | none => simp only [hp] at g; exact g.elim
          | some z =>
            obtain ⟨zs, S5⟩ := z
            obtain ⟨α5, pre, m5, r5⟩ := pub_ok (es := [e]) (xs := [y]) m4 ⟨y, [], rfl, r4, (by intro a _ z; cases z), rfl⟩ hp
            obtain ⟨z0, rfl⟩ : ∃ z0, zs = [z0] := by
              have := r5.len
              match zs, this with
              | [z0], _ => exact ⟨z0, rfl⟩
            simp only [hp] at g
            obtain ⟨v, rr, e1, e2, e3⟩ := r5
            cases e1
            have s5 := s3.step m5.post m5.rs
            exact ⟨av, s5.at_, by rw [← s5.rds.len]; exact hlen, hs z0 α5 _ S5 _ (s5.push e2) g⟩
end
section
variable {G : Gc} {W : WX} {H : Hp} {σ : L2.St} {Q : VK} {src : MI} {t : MG} {is vs : List Nat} {mt : MT} {me : ME} {fuel : Nat}
/-- a comprehension's reading -/
theorem tOf_lc {wk : Bool} (his : ∀ i ∈ is, i ∈ vs) (h : tOf G (mLc src (lcOne vs t mt me) fuel) W σ H Q) : tLc (iOf G wk src W) (gOf G wk t is) (tOfT G mt W0) (tOf G me W0) vs σ H Q := by
  obtain ⟨α, ρ, S, rs, rl, g⟩ := h
  refine ⟨α, ρ, S, rs, rl, ?_⟩
  unfold mLc at g
  cases hr : src ρ S with
  | bad => rw [hr] at g; exact g
  | exc c d S1 => rw [hr] at g; exact g
  | ok it S1 =>
    rw [hr] at g
    intro α1 H1 J m hit Dd hD
    have s0 : LcSt G α H ρ σ α1 H1 Dd α1 (upd H1 Dd (.lst [])) S1 [] [] := LcSt.first (Q := Q) m hD
    replace g : Gd G W α H ρ σ ((lcRun (lcOne vs t mt me) fuel it ρ S1).bind fun r S2 => .ok (.fl r) S2) Q := g
    have iok : ItOk G wk α1 H1 J it := hit H1 false (by intro z; cases z) ⟨fun _ _ z => z, fun _ _ z _ => z⟩
    have lists : ∀ ds, (∀ S i, it.at S i = lsAt ds i) → ds.length ≤ sizeLine → Gd G W α H ρ σ ((mLcF (lcOne vs t mt me) ds ρ S1).bind fun r S2 => .ok (.fl r) S2) Q →
        ∃ Wv : Nat → Nat → Hp → Prop, (∃ m, Wv 0 m (upd H1 Dd (.lst []))) ∧ ∀ i m H2, Wv i m H2 →
          (J.stop i H2 ∧ Q (.ref Dd) H2) ∨ (J.go i H2 ∧ ∃ Nx : Hp → Prop, (∀ H', Nx H' → ∃ m', m' < m ∧ Wv (i + 1) m' H') ∧ ∀ x H', J.yld i H2 x H' → gOf G wk t is x (wipe σ vs) H' fun σ2 H2 => wipe σ2 vs = wipe σ vs ∧ tOfT G mt W0 σ2 H2 fun b H3 =>
            if b = true then tOf G me W0 σ2 H3 fun y H4 => ∃ acc, H4 Dd = some (.lst acc) ∧ acc.length < sizeLine ∧ Nx (upd H4 Dd (.lst (acc ++ [y]))) else Nx H3) := by
      intro ds hat hz g
      refine ⟨fun i k H' => i + k = ds.length ∧ ∃ α2 S2 acc av, LcSt G α H ρ σ α1 H1 Dd α2 H' S2 acc av ∧ acc.length ≤ i ∧ Gd G W α H ρ σ ((mLcF (lcOne vs t mt me) (ds.drop i) ρ S2).bind fun r S3 => .ok (.fl (acc ++ r)) S3) Q, ⟨ds.length, by omega, α1, S1, [], [], s0, Nat.le_refl _, g⟩, ?_⟩
      rintro i k H2 ⟨hk, α2, S2, acc, av, s, hl, g2⟩
      cases k with
      | zero =>
        have e : i = ds.length := by omega
        rw [List.drop_eq_nil_of_le (by omega)] at g2
        refine .inl ⟨(iok α2 S2 H2 s.post s.mid.rs i).2 ?_, ?_⟩
        · rw [hat]
          show lsAt ds i = some none
          unfold lsAt
          rw [if_neg (by omega), if_pos e]
        · have g3 : Gd G W α H ρ σ (.ok (.fl (acc ++ [])) S2) Q := g2
          rw [List.append_nil] at g3
          exact s.last g3
      | succ k =>
        have hi : i < ds.length := by omega
        rw [List.drop_eq_getElem_cons hi] at g2
        have tr := lc_turn (W := W) (Q := Q) (J := J) (it := it) (i := i) (d := ds[i]) (me := me) (mt := mt) (t := t) (is := is)
          (Nx := fun H' => ∃ α2 S2 acc av, LcSt G α H ρ σ α1 H1 Dd α2 H' S2 acc av ∧ acc.length ≤ i + 1 ∧ Gd G W α H ρ σ ((mLcF (lcOne vs t mt me) (ds.drop (i + 1)) ρ S2).bind fun r S3 => .ok (.fl (acc ++ r)) S3) Q)
          (k := fun o S3 => match o with
            | none => (mLcF (lcOne vs t mt me) (ds.drop (i + 1)) ρ S3).bind fun r S4 => .ok (.fl (acc ++ r)) S4
            | some x => (mLcF (lcOne vs t mt me) (ds.drop (i + 1)) ρ S3).bind fun r S4 => .ok (.fl (acc ++ [x] ++ r)) S4) his (by omega) s (by rw [hat]; exact lsAt_some (List.getElem?_eq_getElem hi)) iok
          (by
            unfold mLcF at g2
            cases ho : lcOne vs t mt me ds[i] ρ S2 with
            | bad => rw [ho] at g2; exact g2
            | exc c d S3 => rw [ho] at g2; exact g2
            | ok o S3 =>
              rw [ho] at g2
              cases o with
              | none => exact g2
              | some x =>
                have g3 : Gd G W α H ρ σ (((mLcF (lcOne vs t mt me) (ds.drop (i + 1)) ρ S3).bind fun r S2 => .ok (x :: r) S2).bind fun r S3 => .ok (.fl (acc ++ r)) S3) Q := g2
                show Gd G W α H ρ σ ((mLcF (lcOne vs t mt me) (ds.drop (i + 1)) ρ S3).bind fun r S4 => .ok (.fl (acc ++ [x] ++ r)) S4) Q
                cases hm : mLcF (lcOne vs t mt me) (ds.drop (i + 1)) ρ S3 <;> rw [hm] at g3 <;> first | exact g3 | (simp only [R.bind] at g3 ⊢; rw [List.append_assoc]; exact g3))
          (fun α3 H3 S3 q g3 => ⟨α3, S3, acc, av, q, by omega, g3⟩)
          (fun x α3 H3 S3 av3 q g3 => ⟨α3, S3, acc ++ [x], av3, q, by rw [List.length_append, List.length_singleton]; omega, g3⟩)
        exact .inr ⟨tr.1, _, fun H' q => ⟨k, Nat.lt_succ_self k, by omega, q⟩, tr.2⟩
    cases it with
    | fix ds =>
      by_cases hz : ds.length ≤ sizeLine
      · exact lists ds (fun _ _ => rfl) hz (by simp only [lcRun, if_pos hz] at g; exact g)
      · simp only [lcRun, if_neg hz] at g; exact g.elim
    | own ds =>
      by_cases hz : ds.length ≤ sizeLine
      · exact lists ds (fun _ _ => rfl) hz (by simp only [lcRun, if_pos hz] at g; exact g)
      · simp only [lcRun, if_neg hz] at g; exact g.elim
    | dyn fn =>
      refine ⟨fun i k H' => ∃ α2 S2 acc av, LcSt G α H ρ σ α1 H1 Dd α2 H' S2 acc av ∧ acc.length ≤ i ∧ Gd G W α H ρ σ ((mLcD (lcOne vs t mt me) fn k i ρ S2).bind fun r S3 => .ok (.fl (acc ++ r)) S3) Q, ⟨fuel, α1, S1, [], [], s0, Nat.le_refl _, g⟩, ?_⟩
      rintro i k H2 ⟨α2, S2, acc, av, s, hl, g2⟩
      cases k with
      | zero => exact g2.elim
      | succ k =>
        unfold mLcD at g2
        cases ha : fn S2 i with
        | none => simp only [ha] at g2; exact g2.elim
        | some o =>
          cases o with
          | none =>
            simp only [ha] at g2
            have g3 : Gd G W α H ρ σ (.ok (.fl (acc ++ [])) S2) Q := g2
            rw [List.append_nil] at g3
            exact .inl ⟨(iok α2 S2 H2 s.post s.mid.rs i).2 ha, s.last g3⟩
          | some d =>
            simp only [ha] at g2
            by_cases hz : i < sizeLine
            · rw [if_pos hz] at g2
              have tr := lc_turn (W := W) (Q := Q) (J := J) (it := .dyn fn) (i := i) (d := d) (me := me) (mt := mt) (t := t) (is := is)
                (Nx := fun H' => ∃ α2 S2 acc av, LcSt G α H ρ σ α1 H1 Dd α2 H' S2 acc av ∧ acc.length ≤ i + 1 ∧ Gd G W α H ρ σ ((mLcD (lcOne vs t mt me) fn k (i + 1) ρ S2).bind fun r S3 => .ok (.fl (acc ++ r)) S3) Q)
                (k := fun o S3 => match o with
                  | none => (mLcD (lcOne vs t mt me) fn k (i + 1) ρ S3).bind fun r S4 => .ok (.fl (acc ++ r)) S4
                  | some x => (mLcD (lcOne vs t mt me) fn k (i + 1) ρ S3).bind fun r S4 => .ok (.fl (acc ++ [x] ++ r)) S4) his (by omega) s ha iok
                (by
                  cases ho : lcOne vs t mt me d ρ S2 with
                  | bad => rw [ho] at g2; exact g2
                  | exc c d S3 => rw [ho] at g2; exact g2
                  | ok o S3 =>
                    rw [ho] at g2
                    cases o with
                    | none => exact g2
                    | some x =>
                      have g3 : Gd G W α H ρ σ (((mLcD (lcOne vs t mt me) fn k (i + 1) ρ S3).bind fun r S2 => .ok (x :: r) S2).bind fun r S3 => .ok (.fl (acc ++ r)) S3) Q := g2
                      show Gd G W α H ρ σ ((mLcD (lcOne vs t mt me) fn k (i + 1) ρ S3).bind fun r S4 => .ok (.fl (acc ++ [x] ++ r)) S4) Q
                      cases hm : mLcD (lcOne vs t mt me) fn k (i + 1) ρ S3 <;> rw [hm] at g3 <;> first | exact g3 | (simp only [R.bind] at g3 ⊢; rw [List.append_assoc]; exact g3))
                (fun α3 H3 S3 q g3 => ⟨α3, S3, acc, av, q, by omega, g3⟩)
                (fun x α3 H3 S3 av3 q g3 => ⟨α3, S3, acc ++ [x], av3, q, by rw [List.length_append, List.length_singleton]; omega, g3⟩)
              exact .inr ⟨tr.1, _, fun H' q => ⟨k, Nat.lt_succ_self k, q⟩, tr.2⟩
            · rw [if_neg hz] at g2
              exact g2.elim
end
end DL

set_option Elab.async false
set_option autoImplicit false
set_option linter.all false
set_option maxRecDepth 100000
set_option maxHeartbeats 2000000
namespace DL
open PySem PySem.Spec PyProof.Rows L2
/-! ## comprehensions as values, as a name's new value -/
structure XTs (X : Cx) (G : Gc) (ifs : List Expr) (m : MT) : Prop where
  run : ∀ W, Takes X W → PTs X ifs (tOfT G m W)
def mYes : MT := fun _ S => .ok true S
section
variable {X : Cx} {G : Gc}
theorem xts_nil : XTs X G [] mYes := ⟨fun W t => ⟨fun pins s σ H Q I ⟨α, ρ, S, rs, rl, g⟩ => pts_nil.run pins s σ H Q I (g α H (.refl rs rl))⟩⟩
theorem xts_one {c : Expr} {m : MT} (h : XT X G c m) : XTs X G [c] m := ⟨fun W t => pts_one (h.run W t)⟩
theorem takesF {X : Cx} : Takes X W0 := fun _ _ x => by
  obtain ⟨_, _, _, _, _, _, _, _, _, _, _, _, _, _, _, _, z⟩ := x
  exact z.elim
variable {elt tg iter : Expr} {ifs : List Expr} {scope : Scope} {own : List (Str × Nat)} {pos spos py : Pos} {src : MI} {t : MG} {is : List Nat} {mt : MT} {me : ME}
theorem xe_lc {wk : Bool} (fuel : Nat) (hc : X.calm = true) (hN : X.N.Nodup) (hi : XI X G wk tg iter src) (ok : BlkOk X.N X.env.scope scope own)
    (hg : ∀ (s : Shared) (H : Hp) (C : Addr) (cl : List (Str × Addr)) (fp : List Addr), XG (X.blk s H scope (compEnvC scope cl C X.env) fp) G wk tg t is) (ht : ∀ (s : Shared) (H : Hp) (C : Addr) (cl : List (Str × Addr)) (fp : List Addr), XTs (X.blk s H scope (compEnvC scope cl C X.env) fp) G ifs mt)
    (he : ∀ (s : Shared) (H : Hp) (C : Addr) (cl : List (Str × Addr)) (fp : List Addr), XE (X.blk s H scope (compEnvC scope cl C X.env) fp) G elt me) (his : ∀ i ∈ is, i ∈ own.map (·.2)) (hs : ∀ x, foldedSetIterable iter X.env x = pure x := by intro _; rfl) :
    XE X G (.ListComp elt [⟨tg, iter, ifs, 0⟩] scope pos) (mLc src (lcOne (own.map (·.2)) t mt me) fuel) :=
  ⟨fun W tk => PE.imp (pe_lc hc hN (hi.run W tk) ok (fun s H C cl fp => (hg s H C cl fp).run) (fun s H C cl fp => (ht s H C cl fp).run W0 takesF) (fun s H C cl fp => (he s H C cl fp).run W0 takesF) hs) fun σ H Q h => tOf_lc his h⟩
theorem asgIn {i : Nat} {m : ME} {W : WX} {D : Ends} {σ : L2.St} {H : Hp} (h : sOf G (mSet i m) W D σ H) : tOf G m W σ H fun x H1 => D.nx (σ.set i (some x)) H1 := by
  obtain ⟨α0, H0, α, ρ, S, s, g⟩ := h
  refine tOf_mono (exprIn (ma := m) (k := fun e S1 => match svE e with | some s => .next (ρ.set i (some s)) S1 | none => .bad) s g) fun x H1 ⟨α1, S1, e, m1, r1, g1⟩ => ?_
  cases ho : svE e with
  | none => simp only [ho] at g1; exact g1.elim
  | some sv => simp only [ho] at g1; exact g1 α1 _ H1 (s.set m1 r1 ho i)
theorem xs_setLc {wk : Bool} {i : Nat} {y : Str} (fuel : Nat) (hc : X.calm = true) (hN : X.N.Nodup) (hy : X.N[i]? = some y) (hyl : X.env.scope.names.lookup y = some .local)
    (hsw : swapsWith (.ListComp elt [⟨tg, iter, ifs, 0⟩] scope pos) (some (.Name y py)) spos.line X.env = pure true) (hi : XI X G wk tg iter src) (ok : BlkOk X.N X.env.scope scope own)
    (hg : ∀ (s : Shared) (H : Hp) (C : Addr) (cl : List (Str × Addr)) (fp : List Addr), XG (X.blk s H scope (compEnvC scope cl C X.env) fp) G wk tg t is) (ht : ∀ (s : Shared) (H : Hp) (C : Addr) (cl : List (Str × Addr)) (fp : List Addr), XTs (X.blk s H scope (compEnvC scope cl C X.env) fp) G ifs mt)
    (he : ∀ (s : Shared) (H : Hp) (C : Addr) (cl : List (Str × Addr)) (fp : List Addr), XE (X.blk s H scope (compEnvC scope cl C X.env) fp) G elt me) (his : ∀ i ∈ is, i ∈ own.map (·.2)) (hs : ∀ x, foldedSetIterable iter X.env x = pure x := by intro _; rfl) :
    XS X G (.Assign [.Name y py] (.ListComp elt [⟨tg, iter, ifs, 0⟩] scope pos) spos) (mSet i (mLc src (lcOne (own.map (·.2)) t mt me) fuel)) :=
  ⟨fun W tk => PS.imp (ps_setLc hc hN hy hyl hsw (hi.run W tk) ok (fun s H C cl fp => (hg s H C cl fp).run) (fun s H C cl fp => (ht s H C cl fp).run W0 takesF) (fun s H C cl fp => (he s H C cl fp).run W0 takesF) hs) fun D σ H h => tOf_lc his (asgIn h)⟩
end
/-! ## places -/
inductive Pl where
  | st (n : Nat) | sl (k : Nat)
def plOf (ρ : Env) (S : Store) : EV → Option (Pl × Ob)
  | .v (.ref n) => match S[n]? with
    | some (.lst ds) => some (.st n, .lst ds)
    | some (.dic kvs) => some (.st n, .dic kvs)
    | _ => none
  | .sl k => match ρ[k]? with
    | some (some (.ol ds)) => some (.sl k, .lst ds)
    | some (some (.od kvs)) => some (.sl k, .dic kvs)
    | _ => none
  | _ => none
def plPut : Pl → Ob → Env → Store → Env × Store
  | .st n, o, ρ, S => (ρ, S.set n o)
  | .sl k, .lst ds, ρ, S => (ρ.set k (some (.ol ds)), S)
  | .sl k, .dic kvs, ρ, S => (ρ.set k (some (.od kvs)), S)
  | .sl _, .ins _ _, ρ, S => (ρ, S)
def OAt (G : Gc) (α : List Lc) (H : Hp) (a : Addr) : Ob → Prop
  | .lst ds => ∃ vs, H a = some (.lst vs) ∧ RDs G α H ds vs
  | .dic kvs => RDc G α H a kvs
  | .ins _ _ => False
section
variable {G : Gc} {α0 α : List Lc} {H0 H H' : Hp} {ρ : Env} {σ : L2.St} {S : Store} {e : EV} {x : V} {p : Pl} {ob : Ob}
theorem OAt.mut {a : Addr} (h : OAt G α H a ob) : ∃ u, H a = some u ∧ mutO u := by
  cases ob with
  | lst ds => obtain ⟨vs, h, _⟩ := h; exact ⟨_, h, trivial⟩
  | dic kvs => exact RDc.there h
  | ins _ _ => exact h.elim
theorem slot_write {k : Nat} {s s' : SV} {a : Addr} {o : HO} (f : Sf G α0 H0 α ρ S σ H) (hk : ρ[k]? = some (some s)) (ow : s.own = true) (ha : σ[k]? = some (some (.ref a))) (mo : mutO o) (r : RSV G α (upd H a o) s' (.ref a)) (ow' : s'.own = true) : Sf G α0 H0 α (ρ.set k (some s')) S σ (upd H a o) := by
  obtain ⟨x, h1, h2⟩ := f.rl.val k s hk
  rw [ha] at h1
  cases h1
  obtain ⟨b, u, e1, h3, h4⟩ := h2.at ow
  cases e1
  have hna : ¬ inA α a := fun z => f.rl.noA z k s hk ow ha
  have h0 : H0 a = none := f.own k s a hk ow ha
  have hlen : k < ρ.length := (List.getElem?_eq_some_iff.mp hk).1
  refine ⟨⟨f.post.pre, f.post.new, fun b v e nb t => by rw [upd_ne (ne_of_none e h0)]; exact f.post.keep b v e nb t, fun b e => ?_⟩, f.rs.out h3 h4 hna, ⟨by rw [List.length_set]; exact f.rl.len, fun j t hj => ?_, fun i j t w b q1 q2 o1 o2 e1 e2 => ?_⟩, fun j t b q1 o1 e1 => ?_⟩
  · by_cases z : b = a
    · rw [z, upd_same]; simp
    · rw [upd_ne z]; exact f.post.there b e
  · rcases set_get hj with ⟨rfl, e, _⟩ | ⟨e, hj⟩
    · cases e; exact ⟨_, ha, r⟩
    · obtain ⟨y, q1, q2⟩ := f.rl.val j t hj
      refine ⟨y, q1, q2.stays (Stays.upd h3 h4) fun b w o1 e' q => ?_⟩
      subst e'
      rw [upd_ne (fun z => e (f.rl.sep j k t s a hj hk o1 ow (by rw [← z]; exact q1) ha))]; exact q
  · have back : ∀ (i : Nat) (t : SV), (ρ.set k (some s'))[i]? = some (some t) → t.own = true → ∃ t', ρ[i]? = some (some t') ∧ t'.own = true := fun i t h o => by
      rcases set_get h with ⟨rfl, e, _⟩ | ⟨e, h⟩
      · exact ⟨s, hk, ow⟩
      · exact ⟨t, h, o⟩
    obtain ⟨t', k1, k2⟩ := back i t q1 o1
    obtain ⟨w', k3, k4⟩ := back j w q2 o2
    exact f.rl.sep i j t' w' b k1 k3 k2 k4 e1 e2
  · rcases set_get q1 with ⟨rfl, e, _⟩ | ⟨e, q1⟩
    · exact f.own j s b hk ow e1
    · exact f.own j t b q1 o1 e1
/-- the object at a place; it may be changed -/
theorem Sf.place (f : Sf G α0 H0 α ρ S σ H) (r : RE G α H ρ σ H' e x) (h : plOf ρ S e = some (p, ob)) :
    ∃ a u, x = .ref a ∧ H a = some u ∧ mutO u ∧ OAt G α H a ob ∧ ∀ o ob', mutO o → OAt G α (upd H a o) a ob' → Sf G α0 H0 α (plPut p ob' ρ S).1 (plPut p ob' ρ S).2 σ (upd H a o) := by
  have slots : ∀ k s, e = .sl k → ρ[k]? = some (some s) → s.own = true → p = .sl k → (∀ a, RSV G α H s (.ref a) → OAt G α H a ob) →
      ∃ a u, x = .ref a ∧ H a = some u ∧ mutO u ∧ OAt G α H a ob ∧ ∀ o ob', mutO o → OAt G α (upd H a o) a ob' → Sf G α0 H0 α (plPut p ob' ρ S).1 (plPut p ob' ρ S).2 σ (upd H a o) := by
    intro k s e1 hk ow ep hr
    subst e1 ep
    obtain ⟨h1, _⟩ := r
    obtain ⟨y, q1, q2⟩ := f.rl.val k s hk
    rw [h1] at q1
    cases q1
    obtain ⟨a, u, rfl, h3, h4⟩ := q2.at ow
    have hna : ¬ inA α a := fun z => f.rl.noA z k s hk ow h1
    refine ⟨a, u, rfl, h3, h4, hr a q2, fun o ob' mo oa => ?_⟩
    cases ob' with
    | lst ds => obtain ⟨vs, k1, k2⟩ := oa; exact slot_write f hk ow h1 mo (s' := .ol ds) ⟨a, vs, rfl, k1, k2, hna⟩ rfl
    | dic kvs => exact slot_write f hk ow h1 mo (s' := .od kvs) ⟨a, rfl, oa, hna⟩ rfl
    | ins _ _ => exact oa.elim
  have stores : ∀ n l, e = .v (.ref n) → α[n]? = some l → l.dx = l.a → p = .st n → OAt G α H l.a ob →
      ∃ a u, x = .ref a ∧ H a = some u ∧ mutO u ∧ OAt G α H a ob ∧ ∀ o ob', mutO o → OAt G α (upd H a o) a ob' → Sf G α0 H0 α (plPut p ob' ρ S).1 (plPut p ob' ρ S).2 σ (upd H a o) := by
    intro n l e1 hl hd ep oa
    subst e1 ep
    obtain ⟨l', h1, rfl⟩ := r
    rw [hl] at h1
    cases h1
    obtain ⟨u, h3, h4⟩ := oa.mut
    refine ⟨l.a, u, rfl, h3, h4, oa, fun o ob' mo oa' => ?_⟩
    refine ⟨f.post.trans (Post.upA (inA.at hl) h3), f.rs.put hl h3 h4 ?_, f.rl.out h3 h4 (f.rl.noA (inA.at hl)), f.own⟩
    cases ob' with
    | lst ds => exact ⟨hd, oa'⟩
    | dic kvs => exact ⟨hd, oa'⟩
    | ins _ _ => exact oa'.elim
  unfold plOf at h
  split at h
  · rename_i n
    split at h
    · rename_i ds hs
      cases h
      obtain ⟨l, h1, _⟩ := id r
      obtain ⟨hd, q⟩ := f.rs.obj n l _ h1 hs
      exact stores n l rfl h1 hd rfl q
    · rename_i kvs hs
      cases h
      obtain ⟨l, h1, _⟩ := id r
      obtain ⟨hd, q⟩ := f.rs.obj n l _ h1 hs
      exact stores n l rfl h1 hd rfl q
    · cases h
  · rename_i k
    split at h
    · rename_i ds hk
      cases h
      exact slots k _ rfl hk rfl rfl fun a ⟨b, vs, e1, k1, k2, _⟩ => by cases e1; exact ⟨vs, k1, k2⟩
    · rename_i kvs hk
      cases h
      exact slots k _ rfl hk rfl rfl fun a ⟨b, e1, k1, _⟩ => by cases e1; exact k1
    · cases h
  · cases h
end
/-! ## o[i] = v -/
def flE {β : Type} (ρ : Env) (r : R β) (k : β → Store → Fl) : Fl := match r with
  | .ok b S => k b S
  | .exc c d S => .exc c d ρ S
  | .bad => .bad
def setOb : Ob → EV → D → Option Ob
  | .lst ds, .v (.int i), d => match ixN ds.length i with
    | some j => some (.lst (ds.set j d))
    | none => none
  | .dic kvs, .v k, d => if (kOk kvs k && decide (kvs.length < sizeLine)) = true then some (.dic (kPut kvs k d)) else none
  | _, _, _ => none
def mStore (me mo mi : ME) : MS := fun ρ S => flE ρ (me ρ S) fun ev S1 => match pub [ev] S1 with
  | some ([d], S2) => flE ρ (mo ρ S2) fun eo S3 => flE ρ (mi ρ S3) fun ei S4 => match plOf ρ S4 eo with
    | some (p, ob) => match setOb ob ei d with
      | some ob' => .next (plPut p ob' ρ S4).1 (plPut p ob' ρ S4).2
      | none => .bad
    | none => .bad
  | _ => .bad
section
variable {X : Cx} {G : Gc} {pos pos' : Pos} {e o i : Expr} {me mo mi : ME}
def rSetA (G : Gc) : TSet := fun o i v H Q => (rSetL o i v H Q) ∨ ∃ α a kvs k d, o = .ref a ∧ RDc G α H a kvs ∧ RD G α H k i ∧ RD G α H d v ∧ kOk kvs k = true ∧ kvs.length < sizeLine ∧
  ∀ u, mutO u → ((∀ e x, RD G α H e x → RD G α (upd H a u) e x) → RDc G α (upd H a u) a (kPut kvs k d)) → Q (upd H a u)
theorem set_all (hu : X.A.units + 64 < cLine) (hG : GOk X G) : PSet X (rSetA G) := by
  rintro pins s σ H o i v ov iv u Q I ro ri rv (q | ⟨α, a, kvs, k, d, rfl, h1, h2, h3, h4, h5, q⟩)
  · exact set_list pins s σ H o i v ov iv u Q I ro ri rv q
  · cases ro
    exact dd_set hu I hG h1 h4 h5 h2 ri h3 rv fun w s' mw I' st => ⟨_, I', q w mw st⟩
theorem exprFl {W : WX} {α0 α : List Lc} {H0 H : Hp} {ρ : Env} {σ : L2.St} {S : Store} {ma : ME} {k : EV → Store → Fl} {D : Ends} (s : Sf G α0 H0 α ρ S σ H) (g : Gf G W α0 H0 D (flE ρ (ma ρ S) k)) :
    tOf G ma W σ H (fun x H1 => ∃ α1 S1 e, Mid G α H ρ σ α1 H1 S1 ∧ RE G α1 H1 ρ σ H e x ∧ Gf G W α0 H0 D (k e S1)) := by
  refine exprIn (k := k) s ?_
  unfold flE at g
  cases hr : ma ρ S <;> rw [hr] at g <;> exact g
theorem pub_one {α α1 : List Lc} {H H1 : Hp} {ρ : Env} {σ : L2.St} {S1 S2 : Store} {e : EV} {x : V} {ds : List D} (m : Mid G α H ρ σ α1 H1 S1) (r : RE G α1 H1 ρ σ H e x) (h : pub [e] S1 = some (ds, S2)) : ∃ α2 d, ds = [d] ∧ α1 <+: α2 ∧ Mid G α H ρ σ α2 H1 S2 ∧ RD G α2 H1 d x := by
  obtain ⟨α2, pre, m2, r2⟩ := pub_ok (es := [e]) (xs := [x]) m ⟨x, [], rfl, r, (by intro a _ z; cases z), rfl⟩ h
  have hl := r2.len
  match ds, hl, r2 with
  | [d], _, ⟨v, rr, e1, e2, _⟩ => cases e1; exact ⟨α2, d, rfl, pre, m2, e2⟩
theorem xs_store (hu : X.A.units + 64 < cLine) (hG : GOk X G) (he : XE X G e me) (ho : XE X G o mo) (hi : XE X G i mi) (hs : swapsWithSole [.Subscript o i pos'] e pos.line X.env = pure false := by rfl) (hw : swappedStores [.Subscript o i pos'] e X.env = pure none := by rfl)
    (h1 : (assignEach [.Subscript o i pos'] X.env).map (·.2) = [assign (.Subscript o i pos') X.env] := by rfl)
    (ha : ∀ v, assign (.Subscript o i pos') X.env v = (do
      let ov ← holding [v] (eval o X.env)
      let iv ← holding [v, ov] (eval i X.env)
      standAt pos'
      holding [v, ov, iv] (setItem ov iv v)
      release [v, ov, iv] []) := by intro _; rfl) : XS X G (.Assign [.Subscript o i pos'] e pos) (mStore me mo mi) := by
  refine ⟨fun W t => PS.imp (ps_asg (he.run W t) (pg_sub (ho.run W t) (hi.run W t) (set_all hu hG) ha) hs hw h1) fun D σ H ⟨α0, H0, α, ρ, S, s, g⟩ => ?_⟩
  refine tOf_mono (exprFl (ma := me) s g) fun x H1 ⟨α1, S1, ev, m1, r1, g1⟩ => ?_
  cases hp : pub [ev] S1 with
  | none => simp only [hp] at g1; exact g1.elim
  | some z =>
    obtain ⟨ds, S2⟩ := z
    obtain ⟨α2, d, rfl, pre2, m2, rd2⟩ := pub_one m1 r1 hp
    simp only [hp] at g1
    have s2 := s.step m2
    refine tOf_mono (exprFl (ma := mo) s2 g1) fun y H3 ⟨α3, S3, eo, m3, r3, g3⟩ => ?_
    have s3 := s2.step m3
    refine tOf_mono (exprFl (ma := mi) s3 g3) fun w H4 ⟨α4, S4, ei, m4, r4, g4⟩ => ?_
    have s4 := s3.step m4
    have ro := r3.kept m3.rs.adm m4.post
    have rd := (rd2.kept m2.rs.adm m3.post).kept m3.rs.adm m4.post
    cases hpl : plOf ρ S4 eo with
    | none => simp only [hpl] at g4; exact g4.elim
    | some z =>
      obtain ⟨p, ob⟩ := z
      simp only [hpl] at g4
      cases hso : setOb ob ei d with
      | none => simp only [hso] at g4; exact g4.elim
      | some ob' =>
        simp only [hso] at g4
        obtain ⟨a, u, rfl, k1, k2, k3, k4⟩ := s4.place ro hpl
        have st : ∀ v, mutO v → ∀ e x, RD G α4 H4 e x → RD G α4 (upd H4 a v) e x := fun v _ e x q => q.stays (Stays.upd k1 k2)
        unfold setOb at hso
        split at hso
        · rename_i ds i
          cases (show w = .int i from r4)
          split at hso
          · rename_i j hj
            cases hso
            obtain ⟨vs, q1, q2⟩ := k3
            refine .inl ⟨a, vs, i, j, rfl, rfl, q1, by rw [← q2.len]; exact hj, ?_⟩
            exact g4 α4 σ _ (k4 (.lst (vs.set j x)) (.lst (ds.set j d)) trivial ⟨_, upd_same, (RDs.set j (RDs.stays (Stays.upd k1 k2) _ _ q2) (rd.stays (Stays.upd k1 k2)))⟩)
          · cases hso
        · rename_i kvs k
          obtain ⟨hk, rfl⟩ := ite_some hso
          rw [Bool.and_eq_true, decide_eq_true_eq] at hk
          refine .inr ⟨α4, a, kvs, k, d, rfl, k3, r4, rd, hk.1, hk.2, fun v mv hv => ?_⟩
          exact g4 α4 σ _ (k4 v (.dic (kPut kvs k d)) mv (hv fun e x q => st v mv e x q))
        · cases hso
end
end DL

set_option Elab.async false
set_option autoImplicit false
set_option linter.all false
set_option maxRecDepth 100000
set_option maxHeartbeats 2000000
namespace DL
open PySem PySem.Spec PyProof.Rows L2
/-! ## name op= e -/
def mAug (i : Nat) (g : G2) (me : ME) : MS := fun ρ S => flE ρ (eV i ρ S) fun a S0 => flE ρ (me ρ S0) fun b S1 => flE ρ (g a b ρ S1) fun e S2 => match svE e with
  | some s => .next (ρ.set i (some s)) S2
  | none => .bad
section
variable {X : Cx} {G : Gc} {pos pos' : Pos} {e : Expr} {me : ME}
theorem xs_aug {i : Nat} {x : Str} {op : Operator} {r : R2} {g : G2} (hN : X.N.Nodup) (hi : X.N[i]? = some x) (hx : Loc X.env.scope x) (ho : OpR X (inplaceOp op) r) (o : Op2 G r g) (he : XE X G e me)
    (hf : X.fn x = true ∨ X.env.scope.names.lookup x = some .local := by first | exact .inl rfl | exact .inr rfl | assumption) : XS X G (.AugAssign (.Name x pos') op e pos) (mAug i g me) := by
  refine ⟨fun W t => PS.imp (ps_aug hN hi hx (he.run W t) ho hf) fun D σ H ⟨α0, H0, α, ρ, S, s, q⟩ => ?_⟩
  unfold mAug at q
  cases hr : eV i ρ S with
  | bad => rw [hr] at q; exact q.elim
  | exc c d S0 =>
    unfold eV at hr
    split at hr <;> cases hr
  | ok a S0 =>
    rw [hr] at q
    have key : S0 = S ∧ ∃ y, σ[i]? = some (some y) ∧ RE G α H ρ σ H a y := by
      unfold eV at hr
      split at hr
      · rename_i d hd
        cases hr
        obtain ⟨y, q1, q2⟩ := s.rl.val i _ hd
        exact ⟨rfl, y, q1, q2⟩
      · rename_i sv hd hn
        cases hr
        obtain ⟨y, q1, q2⟩ := s.rl.val i _ hn
        refine ⟨rfl, y, q1, q1, sv, hn, ?_⟩
        cases sv with
        | v d => exact (hd d rfl).elim
        | ol _ => rfl
        | od _ => rfl
      · cases hr
    obtain ⟨rfl, y, hy, ry⟩ := key
    refine ⟨y, hy, tOf_mono (exprFl (ma := me) (k := fun b S1 => flE ρ (g a b ρ S1) fun e S2 => match svE e with
      | some s => .next (ρ.set i (some s)) S2
      | none => .bad) s q) fun z H1 ⟨α1, S1, b, m1, r1, g1⟩ => ?_⟩
    refine o W α α1 H H1 ρ σ S1 a b y z _ m1 (ry.kept s.rs.adm m1.post) r1 ?_
    cases hg : g a b ρ S1 with
    | bad => rw [hg] at g1; exact g1.elim
    | exc c d S2 => rw [hg] at g1; exact fun α2 H2 dd v m2 h1 h2 => g1 α2 σ H2 dd v (s.step m2) h1 h2
    | ok e S2 =>
      rw [hg] at g1
      intro α2 H2 w m2 r2
      replace g1 : Gf G W α0 H0 D (match svE e with
        | some s => .next (ρ.set i (some s)) S2
        | none => .bad) := g1
      cases ho : svE e with
      | none => rw [ho] at g1; exact g1.elim
      | some sv => rw [ho] at g1; exact g1 α2 _ H2 (s.set m2 r2 ho i)
/-! ## several names at once -/
def svs : List EV → Option (List SV)
  | [] => some []
  | e :: r => match svE e, svs r with
    | some s, some t => some (s :: t)
    | _, _ => none
def setMany : List Nat → List SV → Env → Env
  | i :: is, s :: ss, ρ => setMany is ss (ρ.set i (some s))
  | _, _, ρ => ρ
def mPar (is : List Nat) (ma : MA) : MS := fun ρ S => flE ρ (ma ρ S) fun es S1 => if es.length = is.length then match svs es with
  | some ss => .next (setMany is ss ρ) S1
  | none => .bad
  else .bad
theorem argsFl {W : WX} {α0 α : List Lc} {H0 H : Hp} {ρ : Env} {σ : L2.St} {S : Store} {ma : MA} {k : List EV → Store → Fl} {D : Ends} (s : Sf G α0 H0 α ρ S σ H) (g : Gf G W α0 H0 D (flE ρ (ma ρ S) k)) :
    tOfA G ma W σ H (fun xs H1 => ∃ α1 S1 es, Mid G α H ρ σ α1 H1 S1 ∧ REs G α1 H1 ρ σ H es xs ∧ Gf G W α0 H0 D (k es S1)) := by
  refine ⟨α, ρ, S, s.rs, s.rl, ?_⟩
  cases hr : ma ρ S with
  | ok e S1 =>
    rw [hr] at g
    exact fun α1 H1 x m r => ⟨α1, S1, e, m, r, g⟩
  | exc c d S1 =>
    rw [hr] at g
    exact fun α1 H1 dd v m h1 h2 => g α1 σ H1 dd v (s.step m) h1 h2
  | bad => rw [hr] at g; exact g
/-- one name is set; a new list's address is none of those behind -/
theorem Sf.set2 {α0 α : List Lc} {H0 H Hs : Hp} {ρ : Env} {σ : L2.St} {S : Store} {e : EV} {s : SV} {x : V} (f : Sf G α0 H0 α ρ S σ H) (r : RE G α H ρ σ Hs e x) (h : svE e = some s) (h0 : ∀ a, tad e x = some a → H0 a = none)
    (n : ∀ (a : Addr) (j : Nat) (t : SV), tad e x = some a → ρ[j]? = some (some t) → t.own = true → σ[j]? ≠ some (some (.ref a))) (i : Nat) : Sf G α0 H0 α (ρ.set i (some s)) S (σ.set i (some x)) H := by
  have key : RSV G α H s x ∧ ∀ a, s.own = true → x = .ref a → tad e x = some a := by
    cases e with
    | v d => cases h; exact ⟨r, fun a z => by cases z⟩
    | fl ds => cases h; obtain ⟨a, vs, rfl, h2, h3, h4, h5⟩ := r; exact ⟨⟨a, vs, rfl, h2, h3, h4⟩, fun b _ z => by cases z; rfl⟩
    | fd ds => cases h; obtain ⟨a, rfl, h2, h3, h5⟩ := r; exact ⟨⟨a, rfl, h2, h3⟩, fun b _ z => by cases z; rfl⟩
    | sl j => cases h
  refine ⟨f.post, f.rs, f.rl.set i key.1 fun a j t o e1 hj h1 h2 z => n a j t (key.2 a o e1) h1 h2 z, fun j t a h1 h2 h3 => ?_⟩
  rcases set_get h1 with ⟨rfl, et, hl⟩ | ⟨e', h1⟩
  · cases et
    rw [List.getElem?_set_self (by rw [← f.rl.len]; exact hl)] at h3
    cases h3
    exact h0 a (key.2 a h2 rfl)
  · rw [List.getElem?_set_ne (Ne.symm e')] at h3
    exact f.own j t a h1 h2 h3
def setManyV : List Nat → List V → L2.St → L2.St
  | i :: is, x :: xs, σ => setManyV is xs (σ.set i (some x))
  | _, _, σ => σ
theorem Sf.setMany {α0 α : List Lc} {H0 H Hs : Hp} {S : Store} {ρ0 : Env} {σ0 : L2.St} : ∀ {es : List EV} {xs : List V} {ss : List SV} {is : List Nat} {ρ : Env} {σ : L2.St}, Sf G α0 H0 α ρ S σ H → REs G α H ρ0 σ0 Hs es xs → svs es = some ss → es.length = is.length → (∀ a, a ∈ tads es xs → H0 a = none) →
    (∀ (a : Addr) (j : Nat) (t : SV), a ∈ tads es xs → ρ[j]? = some (some t) → t.own = true → σ[j]? ≠ some (some (.ref a))) → Sf G α0 H0 α (setMany is ss ρ) S (setManyV is xs σ) H
  | [], _, _, [], ρ, σ, f, r, h, _, _, _ => by cases r; cases h; exact f
  | e :: es, _, ss, i :: is, ρ, σ, f, ⟨x, xr, q, r1, r2, r3⟩, h, hl, h0, hn => by
    subst q
    unfold svs at h
    split at h
    · rename_i s t hs ht
      cases h
      have re : RE G α H ρ σ Hs e x := by
        cases e with
        | v d => exact r1
        | fl ds => exact r1
        | fd ds => exact r1
        | sl j => cases hs
      have mem : ∀ a, tad e x = some a → a ∈ tads (e :: es) (x :: xr) := fun a ha => List.mem_append_left _ (by rw [Option.mem_toList]; exact ha)
      have f2 := Sf.set2 f re hs (fun a ha => h0 a (mem a ha)) (fun a j t ha h1 h2 => hn a j t (mem a ha) h1 h2) i
      show Sf G α0 H0 α (DL.setMany is t (ρ.set i (some s))) S (setManyV is xr (σ.set i (some x))) H
      refine Sf.setMany (is := is) (ss := t) f2 r3 ht (by simpa using hl) (fun a ha => h0 a (List.mem_append_right _ ha)) fun a j u ha h1 h2 h3 => ?_
      rcases set_get h1 with ⟨rfl, et, hlt⟩ | ⟨e', h1⟩
      · cases et
        rw [List.getElem?_set_self (by rw [← f.rl.len]; exact hlt)] at h3
        cases h3
        have : tad e (.ref a) = some a := by
          cases e with
          | v d => cases hs; cases h2
          | fl ds => rfl
          | fd ds => rfl
          | sl j => cases hs
        exact r2 a this ha
      · rw [List.getElem?_set_ne (Ne.symm e')] at h3
        exact hn a j u (List.mem_append_right _ ha) h1 h2 h3
    · cases h
  | [], _, _, _ :: _, _, _, _, _, _, hl, _, _ => by cases hl
  | _ :: _, _, _, [], _, _, _, _, _, hl, _, _ => by cases hl
theorem parIn {W : WX} {D : Ends} {is : List Nat} {ma : MA} {σ : L2.St} {H : Hp} (h : sOf G (mPar is ma) W D σ H) : tOfA G ma W σ H fun xs H1 => xs.length = is.length ∧ D.nx (setManyV is xs σ) H1 := by
  obtain ⟨α0, H0, α, ρ, S, s, q⟩ := h
  refine tOfA_mono (argsFl (ma := ma) s q) fun xs H1 ⟨α1, S1, es, m1, r1, g1⟩ => ?_
  by_cases hl : es.length = is.length
  · rw [if_pos hl] at g1
    have xl : ∀ {es : List EV} {xs : List V}, REs G α1 H1 ρ σ H es xs → xs.length = es.length := by
      intro es
      induction es with
      | nil => intro xs h; cases h; rfl
      | cons e es ih => rintro xs ⟨x, r, rfl, _, _, h3⟩; rw [List.length_cons, List.length_cons, ih h3]
    refine ⟨by rw [xl r1, hl], ?_⟩
    cases hs : svs es with
    | none => rw [hs] at g1; exact g1.elim
    | some ss =>
      rw [hs] at g1
      have s1 := s.step m1
      refine g1 α1 _ H1 (Sf.setMany s1 r1 hs hl (fun a ha => s.post.unt (REs.at0 r1 ha)) fun a j t ha h1 h2 h3 => ?_)
      obtain ⟨u, hu⟩ := s.rl.own_at h1 h2 h3
      rw [REs.at0 r1 ha] at hu
      cases hu
  · rw [if_neg hl] at g1
    exact g1.elim
theorem xs_par2 {i j : Nat} {x y : Str} {a b : Expr} {ma : MA} {px py pt : Pos} {kt k2 pt2} (hc : X.calm = true) (hN : X.N.Nodup) (hi : X.N[i]? = some x) (hj : X.N[j]? = some y) (hij : i ≠ j)
    (hx : X.env.scope.names.lookup x = some .local) (hy : X.env.scope.names.lookup y = some .local) (ha : XA X G [a, b] ma)
    (hw : swappedStores [.Tuple [.Name x px, .Name y py] kt pt] (.Tuple [a, b] k2 pt2) X.env = pure (some [x, y]))
    (hs : swapsWithSole [.Tuple [.Name x px, .Name y py] kt pt] (.Tuple [a, b] k2 pt2) pos.line X.env = pure false := by rfl) :
    XS X G (.Assign [.Tuple [.Name x px, .Name y py] kt pt] (.Tuple [a, b] k2 pt2) pos) (mPar [i, j] ma) := by
  refine ⟨fun W t => PS.imp (ps_par hc hN hi hj hij hx hy (ha.run W t) hw hs) fun D σ H h => tOfA_mono (parIn h) fun xs H1 ⟨hl, g⟩ => ?_⟩
  match xs, hl, g with
  | [v, w], _, g => exact ⟨v, w, rfl, g⟩
theorem xs_par3 {i j l : Nat} {x y z : Str} {a b c : Expr} {ma : MA} {px py pz pt : Pos} {kt k2 pt2} (hc : X.calm = true) (hN : X.N.Nodup) (hi : X.N[i]? = some x) (hj : X.N[j]? = some y) (hl : X.N[l]? = some z) (hij : i ≠ j) (hil : i ≠ l) (hjl : j ≠ l)
    (hx : X.env.scope.names.lookup x = some .local) (hy : X.env.scope.names.lookup y = some .local) (hz : X.env.scope.names.lookup z = some .local) (ha : XA X G [a, b, c] ma)
    (hw : swappedStores [.Tuple [.Name x px, .Name y py, .Name z pz] kt pt] (.Tuple [a, b, c] k2 pt2) X.env = pure (some [x, y, z]))
    (hs : swapsWithSole [.Tuple [.Name x px, .Name y py, .Name z pz] kt pt] (.Tuple [a, b, c] k2 pt2) pos.line X.env = pure false := by rfl) :
    XS X G (.Assign [.Tuple [.Name x px, .Name y py, .Name z pz] kt pt] (.Tuple [a, b, c] k2 pt2) pos) (mPar [i, j, l] ma) := by
  refine ⟨fun W t => PS.imp (ps_par3 hc hN hi hj hl hij hil hjl hx hy hz (ha.run W t) hw hs) fun D σ H h => tOfA_mono (parIn h) fun xs H1 ⟨hl, g⟩ => ?_⟩
  match xs, hl, g with
  | [u, v, w], _, g => exact ⟨u, v, w, rfl, g⟩
/-- targets = a tuple -/
def mUnp (tg : MG) (me : ME) : MS := fun ρ S => flE ρ (me ρ S) fun e S1 => match e with
  | .v d => match tg d ρ with
    | some ρ' => .next ρ' S1
    | none => .bad
  | _ => .bad
theorem xs_unp {tg : Expr} {t : MG} {is : List Nat} (he : XE X G e me) (hg : XG X G false tg t is) (hs : swapsWithSole [tg] e pos.line X.env = pure false := by rfl) (hw : swappedStores [tg] e X.env = pure none := by rfl)
    (h1 : (assignEach [tg] X.env).map (·.2) = [assign tg X.env] := by rfl) : XS X G (.Assign [tg] e pos) (mUnp t me) := by
  refine ⟨fun W tk => PS.imp (ps_asg (he.run W tk) hg.run hs hw h1) fun D σ H ⟨α0, H0, α, ρ, S, s, g⟩ => ?_⟩
  refine tOf_mono (exprFl (ma := me) s g) fun x H1 ⟨α1, S1, ev, m1, r1, g1⟩ => ?_
  cases ev with
  | v d =>
    simp only at g1
    cases ht : t d ρ with
    | none => rw [ht] at g1; exact g1.elim
    | some ρ' =>
      rw [ht] at g1
      have s1 := s.step m1
      refine ⟨α1, ρ, d, ρ', m1.rl, r1, ht, fun σ' rl' kin _ => g1 α1 σ' H1 ⟨s1.post, s1.rs, rl', fun j sv a q1 q2 q3 => ?_⟩⟩
      obtain ⟨w1, w2⟩ := kin j sv (.ref a) q1 q2 q3
      exact s1.own j sv a w1 q2 w2
  | _ => exact g1.elim
end
end DL

set_option Elab.async false
set_option autoImplicit false
set_option linter.all false
set_option maxRecDepth 100000
set_option maxHeartbeats 2000000
namespace DL
open PySem PySem.Spec PyProof.Rows L2
/-! ## methods of what is built in -/
/-- the value is of the built-in type T, with no dict of its own -/
def TyS (X : Cx) (T : String) (x : V) (H : Hp) : Prop := ∀ (pins : List (Addr × Obj)) (s : Shared) (σ : L2.St) (v : Value), Inv X pins σ H s → RelV x v → s.TypeIs v T ∧ ∀ a, v = .ref a → ∃ ob, s.heap.get? a = some ob ∧ ob.dict = none
theorem TyS.of {X : Cx} {T : String} {x : V} {H : Hp} (h : tyV X.K T x H) : TyS X T x H := fun pins s σ v I r => tyV_is I r h
section
variable {X : Cx} {T id : String} {name : Str} {o e : Expr} {es : List Expr} {to : TE} {t : TA} {apos cpos : Pos} {r : V → List V → Hp → VK → Prop}
def tBMT (X : Cx) (T : String) (r : V → List V → Hp → VK → Prop) (to : TE) (t : TA) : TE := fun σ H Q => to σ H fun x H1 => TyS X T x H1 ∧ t σ H1 fun xs H2 => r x xs H2 Q
def tBMT0 (X : Cx) (T : String) (r : V → List V → Hp → VK → Prop) (to : TE) : TE := fun σ H Q => to σ H fun x H1 => TyS X T x H1 ∧ r x [] H1 Q
theorem pe_bmT (pa : PlainAttrs T) (slot : Slot T name id) (hty : typeOf (.builtin id) = pure (.type "method_descriptor")) (hm : MtR X id r) (ho : PE X o to) (ha : PA X (e :: es) t)
    (hb : attributeBase o name X.env (eval o X.env) = eval o X.env := by rfl)
    (hf : ((backTo cpos (starEach (e :: es) X.env)).all (fun x => !x.1) && (backToKw cpos (keywordEach [] X.env)).all (fun x => x.1.isSome) && decide ((e :: es).length + ([] : List Keyword).length + (if ([] : List Keyword).isEmpty then 0 else 1) < 30)) = true := by rfl)
    (hl : (apos.endLine == cpos.line) = true := by rfl) (hs : starEach (e :: es) X.env = (false, eval e X.env) :: starEach es X.env := by rfl) (hp : (backTo cpos (starEach es X.env)).any (·.1) = false := by rfl) :
    PE X (.Call (.Attribute o name apos) (e :: es) [] cpos) (tBMT X T r to t) := by
  refine ⟨fun pins s σ H Q I h => wpAny_Call_method_late hb hf hl rfl (thn (ho.run pins s σ H _ I h) fun v s1 ⟨x, H1, I1, r1, ty, q1⟩ => ?_)⟩
  obtain ⟨k1, k2⟩ := ty pins s1 σ v I1 r1
  have args := ha.run cpos pins s1 σ H1 _ I1 q1
  refine ⟨T, id, pa, slot, hty, k1, k2, ?_⟩
  rw [hs] at args ⊢
  refine Calls.callWith_builtin (show (false || (backTo cpos (starEach es X.env)).any (·.1)) = false by rw [hp]; rfl) (Calls.evalArgs_plain ?_)
  exact thn args fun us s2 ⟨vs, H2, I2, r2, q2⟩ => hm pins s2 σ H2 x vs v us Q I2 r1 r2 q2
theorem pe_bmT0 (pa : PlainAttrs T) (slot : Slot T name id) (hty : typeOf (.builtin id) = pure (.type "method_descriptor")) (hm : MtR X id r) (ho : PE X o to)
    (hb : attributeBase o name X.env (eval o X.env) = eval o X.env := by rfl) (hl : (apos.endLine == cpos.line) = true := by rfl) : PE X (.Call (.Attribute o name apos) [] [] cpos) (tBMT0 X T r to) := by
  refine ⟨fun pins s σ H Q I h => wpAny_Call_method0_late hb hl (thn (ho.run pins s σ H _ I h) fun v s1 ⟨x, H1, I1, r1, ty, q1⟩ => ?_)⟩
  obtain ⟨k1, k2⟩ := ty pins s1 σ v I1 r1
  exact ⟨T, id, pa, slot, hty, k1, k2, Calls.callWith_builtin rfl (PySem.evalArgs_none (hm pins s1 σ H1 x [] v [] Q I1 r1 .nil q1))⟩
end
theorem rdsMap {G : Gc} {α : List Lc} {H H' : Hp} (st : ∀ e x, RD G α H e x → RD G α H' e x) : ∀ {ds : List D} {vs : List V}, RDs G α H ds vs → RDs G α H' ds vs
  | [], _, h => h
  | d :: ds, _, ⟨v, r, e, h1, h2⟩ => ⟨v, r, e, st _ _ h1, rdsMap st h2⟩
/-! ### that change their object, as statements -/
def rMeS (G : Gc) (f : Ob → List D → Option Ob) : V → List V → Hp → VK → Prop := fun x xs H Q => ∃ α a ob ds ob', x = .ref a ∧ OAt G α H a ob ∧ RDs G α H ds xs ∧ f ob ds = some ob' ∧
  ∀ o, mutO o → ((∀ e x, RD G α H e x → RD G α (upd H a o) e x) → OAt G α (upd H a o) a ob') → ∀ v, Q v (upd H a o)
def obTy (T : String) : Ob → Bool
  | .lst _ => T == "list"
  | .dic _ => T == "dict"
  | .ins _ _ => false
def isOb (T : String) (ρ : Env) (S : Store) (e : EV) : Bool := match plOf ρ S e with
  | some (_, ob) => obTy T ob
  | none => false
def mMeth (T : String) (f : Ob → List D → Option Ob) (mo : ME) (ma : MA) : MS := fun ρ S => flE ρ (mo ρ S) fun eo S1 => if isOb T ρ S1 eo = true then flE ρ (ma ρ S1) fun es S2 => match pub es S2 with
  | some (ds, S3) => match plOf ρ S3 eo with
    | some (p, ob) => match f ob ds with
      | some ob' => .next (plPut p ob' ρ S3).1 (plPut p ob' ρ S3).2
      | none => .bad
    | none => .bad
  | none => .bad
  else .bad
section
variable {X : Cx} {G : Gc} {T id : String} {name : Str} {o e : Expr} {es : List Expr} {apos cpos pos : Pos} {f : Ob → List D → Option Ob} {mo : ME} {ma : MA}
theorem OAt.ty {α : List Lc} {H : Hp} {a : Addr} {ob : Ob} (h : OAt G α H a ob) (t : obTy T ob = true) : TyS X T (.ref a) H := by
  cases ob with
  | lst ds =>
    obtain ⟨vs, h1, _⟩ := h
    have : T = "list" := by simpa [obTy] using t
    exact .of (.inl ⟨this, vs, SqL.of h1⟩)
  | dic kvs =>
    have : T = "dict" := by simpa [obTy] using t
    subst this
    intro pins s σ v I r
    cases r
    obtain ⟨o, es, ep, h1, h2, h3⟩ := rdc_typeIs I h
    exact ⟨⟨o, h1, h2.1⟩, fun b e => by cases e; exact ⟨o, h1, h2.2.1⟩⟩
  | ins _ _ => cases t
theorem Gf.bad_if {P : Prop} [Decidable P] {W : WX} {α0 : List Lc} {H0 : Hp} {D : Ends} {r : Fl} (h : Gf G W α0 H0 D (if P then r else .bad)) : P ∧ Gf G W α0 H0 D r := by
  by_cases p : P
  · rw [if_pos p] at h; exact ⟨p, h⟩
  · rw [if_neg p] at h; exact h.elim
theorem xs_meth (pa : PlainAttrs T) (slot : Slot T name id) (hty : typeOf (.builtin id) = pure (.type "method_descriptor")) (hm : MtR X id (rMeS G f)) (ho : XE X G o mo) (ha : XA X G (e :: es) ma)
    (hs : swapsWith (.Call (.Attribute o name apos) (e :: es) [] cpos) none pos.line X.env = pure false := by rfl)
    (hb : attributeBase o name X.env (eval o X.env) = eval o X.env := by rfl)
    (hf : ((backTo cpos (starEach (e :: es) X.env)).all (fun x => !x.1) && (backToKw cpos (keywordEach [] X.env)).all (fun x => x.1.isSome) && decide ((e :: es).length + ([] : List Keyword).length + (if ([] : List Keyword).isEmpty then 0 else 1) < 30)) = true := by rfl)
    (hl : (apos.endLine == cpos.line) = true := by rfl) (hst : starEach (e :: es) X.env = (false, eval e X.env) :: starEach es X.env := by rfl) (hp : (backTo cpos (starEach es X.env)).any (·.1) = false := by rfl) :
    XS X G (.Expr (.Call (.Attribute o name apos) (e :: es) [] cpos) pos) (mMeth T f mo ma) := by
  refine ⟨fun W t => PS.imp (ps_expr (pe_bmT pa slot hty hm (ho.run W t) (ha.run W t) hb hf hl hst hp) hs) fun D σ H ⟨α0, H0, α, ρ, S, s, g⟩ => ?_⟩
  refine tOf_mono (exprFl (ma := mo) s g) fun x H1 ⟨α1, S1, eo, m1, r1, g1⟩ => ?_
  have s1 := s.step m1
  obtain ⟨ho', g1⟩ := Gf.bad_if g1
  unfold isOb at ho'
  cases hpl : plOf ρ S1 eo with
  | none => rw [hpl] at ho'; cases ho'
  | some z =>
    obtain ⟨p0, ob0⟩ := z
    rw [hpl] at ho'
    obtain ⟨a, u, rfl, _, _, oa, _⟩ := s1.place r1 hpl
    refine ⟨oa.ty ho', ?_⟩
    refine tOfA_mono (argsFl (ma := ma) s1 g1) fun xs H2 ⟨α2, S2, es2, m2, r2, g2⟩ => ?_
    have s2 := s1.step m2
    cases hpu : pub es2 S2 with
    | none => simp only [hpu] at g2; exact g2.elim
    | some z =>
      obtain ⟨ds, S3⟩ := z
      obtain ⟨α3, pre3, m3, rds⟩ := pub_ok m2 r2 hpu
      simp only [hpu] at g2
      have s3 := s1.step m3
      have ro := r1.kept m1.rs.adm m3.post
      cases hp2 : plOf ρ S3 eo with
      | none => simp only [hp2] at g2; exact g2.elim
      | some z =>
        obtain ⟨p, ob⟩ := z
        simp only [hp2] at g2
        obtain ⟨a', u', e', k1, k2, k3, k4⟩ := s3.place ro hp2
        cases e'
        cases hf2 : f ob ds with
        | none => simp only [hf2] at g2; exact g2.elim
        | some ob' =>
          simp only [hf2] at g2
          exact ⟨α3, a, ob, ds, ob', rfl, k3, rds, hf2, fun v mv hv w => g2 α3 σ _ (k4 v ob' mv (hv fun e x q => q.stays (Stays.upd k1 k2)))⟩
/-- append -/
def fAppend : Ob → List D → Option Ob
  | .lst ds, [d] => if ds.length < sizeLine then some (.lst (ds ++ [d])) else none
  | _, _ => none
theorem mt_appendX : MtR X "list.append" (rMeS G fAppend) := by
  rintro pins s σ H x xs v us Q I rx rv ⟨α, a, ob, ds, ob', rfl, oa, rd, hf, q⟩
  unfold fAppend at hf
  split at hf
  · rename_i ys d
    obtain ⟨hz, rfl⟩ := ite_some hf
    obtain ⟨vs, h1, h2⟩ := oa
    obtain ⟨w, r, rfl, rd1, rfl⟩ := rd
    refine mt_append pins s σ H _ _ v us Q I rx rv ⟨a, vs, w, rfl, rfl, h1, by rw [← h2.len]; exact hz, ?_⟩
    exact q (.lst (vs ++ [w])) trivial (fun st => ⟨_, upd_same, RDs.append (rdsMap st h2) ⟨w, [], rfl, st _ _ rd1, rfl⟩⟩) .non
  · cases hf
/-- extend by a list or a tuple that stands still -/
def fExtend : Ob → List D → Option Ob
  | .lst ds, [.cl es] => if ds.length + es.length ≤ sizeLine then some (.lst (ds ++ es)) else none
  | .lst ds, [.tup es] => if ds.length + es.length ≤ sizeLine then some (.lst (ds ++ es)) else none
  | _, _ => none
end
end DL

set_option Elab.async false
set_option autoImplicit false
set_option linter.all false
set_option maxRecDepth 100000
set_option maxHeartbeats 2000000
namespace DL
open PySem PySem.Spec PyProof.Rows L2
section
open PySem.AutoSeq1 (wpAny_loadPart')
/-- l.extend(x), x any list or tuple object -/
theorem extend_meets (l b : Addr) (xs ys : Array Value) (n m : Nat) (T : String) (dd : Option Addr) (sl : Array (Option Value)) (hT : T = "list" ∨ T = "tuple") (h0 : ¬(!xs.isEmpty && Builtin.List.listTooLong (xs.size + ys.size)) = true) (h1 : xs.size ≤ sizeLine) (h2 : xs.size + ys.size ≤ sizeLine + 1) :
    Meets (Builtin.«list.extend» ⟨[.ref l, .ref b], []⟩) (fun _ R s => s.heap.get? l = some { cls := .type "list", data := .seq xs n } ∧ s.heap.get? b = some { cls := .type T, dict := dd, data := .seq ys m, slots := sl } ∧
      R (.ok (.ret Value.none)) { s with heap := s.heap.update l (Obj.mapSeq fun z => z ++ ys) }) :=
  .of_wp fun prog w A R s h => by
    obtain ⟨hp, g, d, tk, os⟩ := s
    obtain ⟨hl, hb, h⟩ := h
    have f1 := AutoSeq1.idx_int
    have f2 := AutoSeq1.sub_tuple_tuple
    have f3 := AutoSeq1.sub_list_list
    have f4 := AutoSeq1.sub_tuple_list
    have f5 := AutoSeq1.sub_list_tuple
    have hz' : (xs ++ ys).size ≤ sizeLine + 1 := by rw [Array.size_append]; exact h2
    rcases hT with rfl | rfl
    · wp_walk using (wpAny_updateSeq hl rfl (hz := h1) (_hz' := hz')), wpAny_loadPart' hl, wpAny_loadPart' hb
      exact ⟨_, rfl, h⟩
    · wp_walk using (wpAny_updateSeq hl rfl (hz := h1) (_hz' := hz')), wpAny_loadPart' hl, wpAny_loadPart' hb
      exact ⟨_, rfl, h⟩
end
section
variable {X : Cx} {G : Gc}
theorem mt_extendX (hG : GOk X G) : MtR X "list.extend" (rMeS G fExtend) := by
  rintro pins s σ H x xs v us Q I rx rv ⟨α, a, ob, ds, ob', rfl, oa, rd, hf, q⟩
  cases rx
  -- the source's object
  have src : ∀ (ys es : List D) (b : Addr) (ws : List V), ob = .lst ys → ob' = .lst (ys ++ es) → ys.length + es.length ≤ sizeLine → xs = [.ref b] → RDs G α H es ws → (SqL X.K H b ws ∨ SqT X.K H b ws) → wpAny (model X.prog X.w) X.A (call (.builtin "list.extend") (.ref a :: us)) (EP X pins σ Q) X.xe s := by
    intro ys es b ws e1 e2 hz e3 r2 hq
    subst e1 e2 e3
    obtain ⟨u, rfl, ru⟩ := vals1 rv
    cases ru
    obtain ⟨vs, h1, h2⟩ := oa
    obtain ⟨z, its, n, r, hl, e⟩ := I.lstM h1
    have ob : ∃ (T : String) (dd : Option Addr) (its2 : List Value) (m : Nat) (sl : Array (Option Value)), (T = "list" ∨ T = "tuple") ∧ Vals ws its2 ∧ s.heap.get? b = some { cls := .type T, dict := dd, data := .seq its2.toArray m, slots := sl } := by
      rcases hq with hq | hq
      · obtain ⟨its2, rv2, pl, _⟩ := I.list hq
        obtain ⟨o, ho, hc, m, hd⟩ := pl.isList
        obtain ⟨cls, dd, data, sl⟩ := o
        simp only at hc hd
        subst hc hd
        exact ⟨"list", dd, its2, m, sl, .inl rfl, rv2, ho⟩
      · obtain ⟨its2, rv2, ⟨o, ho, hc, m, hd⟩, _⟩ := I.tuple hq
        obtain ⟨cls, dd, data, sl⟩ := o
        simp only at hc hd
        subst hc hd
        exact ⟨"tuple", dd, its2, m, sl, .inr rfl, rv2, ho⟩
    obtain ⟨T, dd, its2, m, sl, hT, rv2, ho⟩ := ob
    have l1 : its.length = ys.length := by rw [← hl, ← h2.len]
    have l2 : its2.length = es.length := by rw [← rv2.length, ← r2.len]
    have hsz : its.toArray.size + its2.toArray.size ≤ sizeLine := by rw [List.size_toArray, List.size_toArray, l1, l2]; exact hz
    have hlong : ¬ (!its.toArray.isEmpty && Builtin.List.listTooLong (its.toArray.size + its2.toArray.size)) = true := by
      rw [notLongL hsz, Bool.and_false]
      exact Bool.false_ne_true
    refine call_meets PySem.F.slot_list_extend ⟨_, e, rfl⟩ PySem.F.entry_list_extend (PySem.F.args_list_extend_2 _ _) (extend_meets a b its.toArray its2.toArray n m T dd sl hT hlong (Nat.le_trans (Nat.le_add_right _ _) hsz) (Nat.le_succ_of_le hsz)) ⟨e, ho, ?_⟩
    have I2 := I.lset (ys := vs ++ ws) (its' := its ++ its2) (t' := s.toks) (f := fun z => z ++ its2.toArray) h1 e (by simp) (r.append rv2) (by rw [List.length_append, ← h2.len, ← r2.len]; exact hz)
    exact ⟨.non, _, I2, rfl, q (.lst (vs ++ ws)) trivial (fun st => ⟨_, upd_same, RDs.append (rdsMap st h2) (rdsMap st r2)⟩) .non⟩
  unfold fExtend at hf
  split at hf
  · rename_i ys es
    obtain ⟨hz, rfl⟩ := ite_some hf
    obtain ⟨w, r, rfl, ⟨b, ws, e1, h1, h2⟩, e2⟩ := rd
    subst e1
    cases e2
    exact src ys es b ws rfl rfl hz rfl h2 (.inl (by rw [hG.K]; exact h1.sq))
  · rename_i ys es
    obtain ⟨hz, rfl⟩ := ite_some hf
    obtain ⟨w, r, rfl, ⟨b, ws, e1, h1, h2⟩, e2⟩ := rd
    subst e1
    cases e2
    exact src ys es b ws rfl rfl hz rfl h2 (.inr (by rw [hG.K]; exact h1.sq))
  · cases hf
theorem nestedRoom2 {A : Around} (hu : A.units + 64 < cLine) : (nestedKind X.prog X.w).room A.in1.in1 := by
  show A.units + 1 + 1 + 8 < cLine
  omega
/-! ### d.pop(k) -/
def kDel (kvs : List (D × D)) (k : D) : List (D × D) := kvs.filter fun p => !decide (p.1 = k)
def fDPop : Ob → List D → Option Ob
  | .dic kvs, [k] => if (kOk kvs k && (kGet kvs k).isSome) = true then some (.dic (kDel kvs k)) else none
  | _, _ => none
theorem pop_there {K : Type} [DecidableEq K] {prog : Program} {w : World} {knd : HeapKind prog w K} {d b : Addr} {k : K} :
    MeetsIn prog w (Builtin.«dict.pop» ⟨[.ref d, .ref b], []⟩) (fun A R s => ∃ xs p, knd.room A.in1 ∧ knd.is s.heap k b ∧ s.heap.DictOfH knd d xs ∧ xs.length ≤ sizeLine ∧ atKey xs k = some p ∧
      ∀ h' tk, h'.DictOfH knd d (DT.dropH xs k) → Heap.SameBut d s.heap h' → R (.ok (.ret p.2)) { s with heap := h', toks := tk }) :=
  .of_wp fun A R s ⟨xs, p, hu, hkey, hm, hz, hp, hq⟩ => by
    obtain ⟨o, es, ep, ho, hc, hdat, he, his, hn⟩ := id hm
    have hes : es.size = xs.length := by
      have := congrArg List.length he
      simpa using this
    have part : (keyPart (Value.ref b)).isSome = false := rfl
    unfold Builtin.«dict.pop»
    refine wpAny_bind ?_
    unfold Builtin.Dict.keyAndDefault
    refine wpAny_bind (wpAny_notOrdered_dict hm.typeIs ?_)
    show wpAny _ _ (pure (d, Value.ref b, none)) _ _ s
    refine wpAny_pure ?_
    simp only [part, Bool.false_eq_true, if_false]
    refine wpAny_bind (wpAny_dictEntries ho hdat (wpAny_bind (wpAny_pure ?_)))
    have hne : es.isEmpty = false := by
      cases hem : es.isEmpty with
      | false => rfl
      | true =>
        have z : es.size = 0 := by simpa using hem
        have h0 : xs = [] := List.length_eq_zero_iff.mp (by omega)
        rw [h0] at hp
        cases hp
    rw [hne]
    simp only [Bool.false_eq_true, if_false]
    refine wpAny_bind (DT.takeH hu hkey hm hz (fun hno => by rw [hp] at hno; cases hno) fun p' e hp' hev h' hm' hs' => ?_)
    rw [hp] at hp'
    cases hp'
    simp only [Option.isNone_some, Bool.false_eq_true, if_false]
    exact wpAny_bind (wpAny_letGo (wpAny_pure ⟨e.val, rfl, by rw [hev]; exact hq h' _ hm' hs'⟩))
variable {α : List Lc} {H : Hp} {σ : L2.St} {pins : List (Addr × Obj)} {s : Shared} {A : Around} {E : Value → Shared → Prop} {a : Addr} {kvs : List (D × D)} {k : D} {y : V} {u : Value}
theorem rkl_del {q : Key} (h : k.leaf = some q) : ∀ {kvs : List (D × D)} {ys : List (Key × V)}, Paired (RKl G α H) kvs ys → Paired (RKl G α H) (kDel kvs k) (dropK ys q)
  | _, _, .nil => .nil
  | _, _, .cons (a := p) (b := z) r t => by
    unfold kDel dropK
    by_cases e : p.1 = k
    · have e2 : z.1 = q := by have := r.1; rw [e, h] at this; exact (Option.some.inj this).symm
      rw [List.filter_cons_of_neg (by simp [e]), List.filter_cons_of_neg (by simp [e2])]
      exact rkl_del h t
    · have e2 : ¬ z.1 = q := fun w => e (leaf_inj r.1 (by rw [w]; exact h))
      rw [List.filter_cons_of_pos (by simp [e]), List.filter_cons_of_pos (by simp [e2])]
      exact .cons r (rkl_del h t)
theorem rkt_del (h : k.key = true) : ∀ {kvs : List (D × D)} {ys : List (NestedKey × Addr × Value)}, Paired (RKt G α H) kvs ys → Paired (RKt G α H) (kDel kvs k) (DT.dropH ys k.nk)
  | _, _, .nil => .nil
  | _, _, .cons (a := p) (b := z) r t => by
    unfold kDel DT.dropH
    by_cases e : p.1 = k
    · have e2 : z.1 = k.nk := by rw [r.2.2.2.1, e]
      rw [List.filter_cons_of_neg (by simp [e]), List.filter_cons_of_neg (by simp [e2])]
      exact rkt_del h t
    · have e2 : ¬ z.1 = k.nk := fun w => e (D.nk_inj _ _ r.1 h (by rw [← r.2.2.2.1, w]))
      rw [List.filter_cons_of_pos (by simp [e]), List.filter_cons_of_pos (by simp [e2])]
      exact .cons r (rkt_del h t)
theorem dropH_len {K : Type} [DecidableEq K] (xs : List (K × Addr × Value)) (k : K) : (DT.dropH xs k).length ≤ xs.length := List.length_filter_le _ _
/-- d.pop(k), there -/
theorem dd_pop {Q : Value → Shared → Prop} (hu : A.units + 64 < cLine) (I : Inv X pins σ H s) (hG : GOk X G) (h : RDc G α H a kvs) (hk : kOk kvs k = true) (hd : (kGet kvs k).isSome = true) (r : RD G α H k y) (ry : RelV y u)
    (q : ∀ v w o s', mutO o → Inv X pins σ (upd H a o) s' → RelV v w → ((∀ e x, RD G α H e x → RD G α (upd H a o) e x) → RDc G α (upd H a o) a (kDel kvs k)) → Q w s') : wpAny (model X.prog X.w) A (call (.builtin "dict.pop") [.ref a, u]) Q E s := by
  obtain ⟨d, hd⟩ := Option.isSome_iff_exists.mp hd
  rcases kOk_cases hk with ⟨z, h1, h2⟩ | ⟨h1, h2, h3, h4⟩
  · rcases h with ⟨ys, hH, p⟩ | ⟨xs, hH, p⟩
    · cases leaf_kV h1 r
      rcases kl_get p h1 with ⟨d', v, e1, e2, e3⟩ | ⟨e1, e2⟩
      · exact d_pop (more := []) I hH ry e2 (.inl rfl) fun w s' I' rw' => q v w (.dK (dropK ys z)) s' trivial I' rw' fun st => .inl ⟨_, upd_same, paired_imp (fun _ _ t => ⟨t.1, st _ _ t.2⟩) (rkl_del h1 p)⟩
      · rw [hd] at e1; cases e1
    · cases p with
      | nil => cases hd
      | @cons p0 q0 ps qs r0 t =>
        rw [List.all_cons, Bool.and_eq_true] at h2
        have h5 := h2.1
        have h6 := r0.2.1
        exact absurd h5 (by cases hp : p0.1 <;> rw [hp] at h6 <;> simp_all [D.leaf, D.isTup])
  · obtain ⟨xs, hz, hds, dd, p, mu⟩ := tupAt I hG h h4
    obtain ⟨b, rfl⟩ := tup_ref h1 r
    cases (show u = Value.ref b from ry)
    rcases kt_get p h2 with ⟨d', b', u', v, e1, e2, e3, e4⟩ | ⟨e1, e2⟩
    · rw [hd] at e1; cases e1
      refine call_meetsIn PySem.F.slot_dict_pop dd.typeIs PySem.F.entry_dict_pop (PySem.F.args_dict_pop_2 _ _) (pop_there (knd := nestedKind X.prog X.w) (k := k.nk)) ⟨xs, (b', u'), nestedRoom hu, ⟨RD.nested I hG.K k _ _ h2 r rfl, h3⟩, dd, hz, e2, fun h' tk dd' hs => ?_⟩
      have pl := rkt_del (k := k) h2 p
      obtain ⟨o, es, ep, q1, q2, q3, q4, _, q5⟩ := dd'
      rw [hG.P, hG.w] at q4
      have raw : ∀ g : Heap, g.get? a = some o → (a == sysModules) = false ∧ (DT.dropH xs k.nk).length ≤ sizeLine ∧ ((DT.dropH xs k.nk).map (·.1)).Nodup ∧ ∃ o es ep, g.get? a = some o ∧ o.ExactDict ∧ o.data = .dict es ep ∧ es.toList = (DT.dropH xs k.nk).map (entryOfKey (nestedKind G.P G.w)) :=
        fun g e => ⟨hds, Nat.le_trans (dropH_len xs k.nk) hz, q5, o, es, ep, e, q2, q3, q4⟩
      refine q v _ (DcO G.P G.w a (DT.dropH xs k.nk)) _ dcO_mut (d_write I mu hs ⟨o, q1⟩ ⟨raw h' q1, ⟨o, q1⟩, fun g1 g2 e st => ?_⟩) e3 fun st => .inr ⟨_, upd_same, paired_imp (fun _ _ t => ?_) pl⟩
      · obtain ⟨e1, e2, e3, o', es', ep', w1, w2, w3, w4⟩ := e
        exact ⟨e1, e2, e3, o', es', ep', st _ w1, w2, w3, w4⟩
      · obtain ⟨k1, k2, k3, k4, k5, v, k6, k7⟩ := t
        exact ⟨k1, k2, k3, k4, st _ _ k5, v, k6, st _ _ k7⟩
    · rw [hd] at e1; cases e1
theorem mt_dpopX (hu : X.A.units + 64 < cLine) (hG : GOk X G) : MtR X "dict.pop" (rMeS G fDPop) := by
  rintro pins s σ H x xs v us Q I rx rv ⟨α, a, ob, ds, ob', rfl, oa, rd, hf, q⟩
  cases rx
  unfold fDPop at hf
  split at hf
  · rename_i kvs k
    obtain ⟨hk, rfl⟩ := ite_some hf
    rw [Bool.and_eq_true] at hk
    obtain ⟨w, r, rfl, h1, rfl⟩ := rd
    obtain ⟨u, rfl, ru⟩ := vals1 rv
    exact dd_pop hu I hG oa hk.1 hk.2 h1 ru fun v w o s' mo I' rw' st => ⟨v, _, I', rw', q o mo st v⟩
  · cases hf
end
end DL

set_option Elab.async false
set_option autoImplicit false
set_option linter.all false
set_option maxRecDepth 100000
set_option maxHeartbeats 2000000
namespace DL
open PySem PySem.Spec PyProof.Rows L2
/-! ## methods that only tell -/
inductive BT where
  | list | tuple | dict | str
  deriving DecidableEq
def BT.nm : BT → String
  | .list => "list"
  | .tuple => "tuple"
  | .dict => "dict"
  | .str => "str"
def tyE (T : BT) (ρ : Env) (S : Store) (e : EV) : Bool := match T with
  | .list => (asL ρ S e).isSome
  | .tuple => (asT e).isSome
  | .dict => (asK ρ S e).isSome
  | .str => match e with
    | .v (.str _) => true
    | _ => false
abbrev GM := EV → List EV → Env → Store → Option EV
def MtO (X : Cx) (G : Gc) (id : String) (g : GM) : Prop := ∀ (pins : List (Addr × Obj)) (s : Shared) (σ : L2.St) (H : Hp) (x : V) (xs : List V) (v : Value) (us : List Value) (Q : VK), Inv X pins σ H s → RelV x v → Vals xs us →
  ∀ (α0 α : List Lc) (H0 : Hp) (ρ : Env) (τ : L2.St) (S : Store) (eo : EV) (es : List EV) (e : EV), Mid G α0 H0 ρ τ α H S → RE G α H ρ τ H0 eo x → REs G α H ρ τ H0 es xs → g eo es ρ S = some e →
    (∀ α' H' x, Mid G α0 H0 ρ τ α' H' S → RE G α' H' ρ τ H0 e x → Q x H') → wpAny (model X.prog X.w) X.A (call (.builtin id) (v :: us)) (EP X pins σ Q) X.xe s
def rM (G : Gc) (g : GM) : V → List V → Hp → VK → Prop := fun x xs H Q => ∃ (α0 α : List Lc) (H0 : Hp) (ρ : Env) (τ : L2.St) (S : Store) (eo : EV) (es : List EV) (e : EV), Mid G α0 H0 ρ τ α H S ∧ RE G α H ρ τ H0 eo x ∧ REs G α H ρ τ H0 es xs ∧ g eo es ρ S = some e ∧
  ∀ α' H' x, Mid G α0 H0 ρ τ α' H' S → RE G α' H' ρ τ H0 e x → Q x H'
theorem MtO.r {X : Cx} {G : Gc} {id : String} {g : GM} (c : MtO X G id g) : MtR X id (rM G g) := fun pins s σ H x xs v us Q I rx rv ⟨α0, α, H0, ρ, τ, S, eo, es, e, m, ro, re, he, q⟩ => c pins s σ H x xs v us Q I rx rv α0 α H0 ρ τ S eo es e m ro re he q
def mBm (T : BT) (g : GM) (mo : ME) (ma : MA) : ME := fun ρ S => (mo ρ S).bind fun eo S1 => if tyE T ρ S1 eo = true then (ma ρ S1).bind fun es S2 => match g eo es ρ S2 with
    | some e => .ok e S2
    | none => .bad
  else .bad
def mBm0 (T : BT) (g : GM) (mo : ME) : ME := fun ρ S => (mo ρ S).bind fun eo S1 => if tyE T ρ S1 eo = true then match g eo [] ρ S1 with
    | some e => .ok e S1
    | none => .bad
  else .bad
section
variable {X : Cx} {G : Gc} {α : List Lc} {H H0 : Hp} {ρ : Env} {σ : L2.St} {S : Store} {x : V} {eo : EV}
theorem tyE_ok {T : BT} (hG : GOk X G) (rs : RS G α H S) (rl : RL G α H ρ σ) (r : RE G α H ρ σ H0 eo x) (h : tyE T ρ S eo = true) : TyS X T.nm x H := by
  cases T with
  | list =>
    obtain ⟨ds, hd⟩ := Option.isSome_iff_exists.mp (show (asL ρ S eo).isSome = true from h)
    obtain ⟨a, vs, rfl, h1, _⟩ := asL_ok rs rl r hd
    exact .of (.inl ⟨rfl, vs, by rw [hG.K]; exact h1⟩)
  | tuple =>
    obtain ⟨ds, hd⟩ := Option.isSome_iff_exists.mp (show (asT eo).isSome = true from h)
    obtain ⟨a, vs, rfl, h1, _⟩ := asT_ok r hd
    intro pins s τ v I rv
    cases rv
    rcases h1 with ⟨o, h2, h3⟩ | ⟨o, its, n, h2, h3, h4, _⟩
    · obtain ⟨h4, _, its, _, o2, h5, h6, _⟩ := I.hok a _ h2
      rw [h4] at h5
      cases h5
      exact ⟨⟨o, h4, h6⟩, fun b e => by cases e; exact ⟨o, h4, h3⟩⟩
    · rw [← hG.K] at h2
      exact ⟨⟨o, I.kIn a o h2, h3⟩, fun b e => by cases e; exact ⟨o, I.kIn _ o h2, h4⟩⟩
  | dict =>
    obtain ⟨kvs, hd⟩ := Option.isSome_iff_exists.mp (show (asK ρ S eo).isSome = true from h)
    obtain ⟨a, rfl, h1⟩ := asK_ok rs rl r hd
    intro pins s τ v I rv
    cases rv
    obtain ⟨o, es, ep, h2, h3, h4⟩ := rdc_typeIs I h1
    exact ⟨⟨o, h2, h3.1⟩, fun b e => by cases e; exact ⟨o, h2, h3.2.1⟩⟩
  | str =>
    cases eo with
    | v d =>
      cases d with
      | str z => cases (show x = .str z from r); exact .of rfl
      | _ => cases h
    | _ => cases h
end
section
variable {X : Cx} {G : Gc} {T : BT} {id : String} {name : Str} {o e : Expr} {es : List Expr} {apos cpos : Pos} {g : GM} {mo : ME} {ma : MA}
theorem xe_bm (hG : GOk X G) (pa : PlainAttrs T.nm) (slot : Slot T.nm name id) (hty : typeOf (.builtin id) = pure (.type "method_descriptor")) (hm : MtO X G id g) (ho : XE X G o mo) (ha : XA X G (e :: es) ma)
    (hb : attributeBase o name X.env (eval o X.env) = eval o X.env := by rfl)
    (hf : ((backTo cpos (starEach (e :: es) X.env)).all (fun x => !x.1) && (backToKw cpos (keywordEach [] X.env)).all (fun x => x.1.isSome) && decide ((e :: es).length + ([] : List Keyword).length + (if ([] : List Keyword).isEmpty then 0 else 1) < 30)) = true := by rfl)
    (hl : (apos.endLine == cpos.line) = true := by rfl) (hst : starEach (e :: es) X.env = (false, eval e X.env) :: starEach es X.env := by rfl) (hp : (backTo cpos (starEach es X.env)).any (·.1) = false := by rfl) :
    XE X G (.Call (.Attribute o name apos) (e :: es) [] cpos) (mBm T g mo ma) := by
  refine ⟨fun W t => PE.imp (pe_bmT pa slot hty hm.r (ho.run W t) (ha.run W t) hb hf hl hst hp) fun σ H Q ⟨α, ρ, S, rs, rl, g1⟩ => ?_⟩
  refine tOf_mono (step (ma := mo) (.refl rs rl) g1) fun x H1 ⟨α1, S1, eo, p1, m1, r1, g2⟩ => ?_
  obtain ⟨ht, g2⟩ := ite_gd g2
  refine ⟨tyE_ok hG m1.rs m1.rl r1 ht, ?_⟩
  refine tOfA_mono (stepA (F := fun z => Gd G W α H ρ σ z Q) (ma := ma) m1 (fun c d S2 α2 H2 dd v g m h1 h2 => g α2 H2 dd v m h1 h2) (fun g => g) g2) fun xs H2 ⟨α2, S2, es1, p2, m2, r2, g3⟩ => ?_
  cases he : g eo es1 ρ S2 with
  | none => simp only [he] at g3; exact g3.elim
  | some e1 =>
    simp only [he] at g3
    exact ⟨α, α2, H, ρ, σ, S2, eo, es1, e1, m2, r1.kept m1.rs.adm p2, r2.back m1.post, he, fun α' H' x m' r' => g3 α' H' x m' r'⟩
theorem xe_bm0 (hG : GOk X G) (pa : PlainAttrs T.nm) (slot : Slot T.nm name id) (hty : typeOf (.builtin id) = pure (.type "method_descriptor")) (hm : MtO X G id g) (ho : XE X G o mo)
    (hb : attributeBase o name X.env (eval o X.env) = eval o X.env := by rfl) (hl : (apos.endLine == cpos.line) = true := by rfl) : XE X G (.Call (.Attribute o name apos) [] [] cpos) (mBm0 T g mo) := by
  refine ⟨fun W t => PE.imp (pe_bmT0 pa slot hty hm.r (ho.run W t) hb hl) fun σ H Q ⟨α, ρ, S, rs, rl, g1⟩ => ?_⟩
  refine tOf_mono (step (ma := mo) (.refl rs rl) g1) fun x H1 ⟨α1, S1, eo, p1, m1, r1, g2⟩ => ?_
  obtain ⟨ht, g2⟩ := ite_gd g2
  refine ⟨tyE_ok hG m1.rs m1.rl r1 ht, ?_⟩
  cases he : g eo [] ρ S1 with
  | none => simp only [he] at g2; exact g2.elim
  | some e1 =>
    simp only [he] at g2
    exact ⟨α, α1, H, ρ, σ, S1, eo, [], e1, m1, r1, rfl, he, fun α' H' x m' r' => g2 α' H' x m' r'⟩
/-! ### count -/
def cntOf (ds : List D) (e : Option D) : Option EV := match e with
  | some d => if (D.pures ds && d.pure) = true ∧ min (PyData.depthAll (D.pys ds)) d.dp ≤ 60 then some (.v (.int ((ds.countP fun y => y.eqv d : Nat) : Int))) else none
  | none => none
def gCountL : GM := fun eo es ρ S => match asL ρ S eo, es with
  | some ds, [e] => cntOf ds (asD ρ S e)
  | _, _ => none
def gCountT : GM := fun eo es ρ S => match asT eo, es with
  | some ds, [e] => cntOf ds (asD ρ S e)
  | _, _ => none
theorem cnt_py (ds : List D) (d : D) : ((D.pys ds).countP fun y => PyData.eqv y d.py) = ds.countP fun y => y.eqv d := by
  rw [D.pys_map, List.countP_map]
  rfl
theorem cnt_ok {pins : List (Addr × Obj)} {s : Shared} {σ : L2.St} {H : Hp} {α : List Lc} {f : Value} {a : Addr} {vs : List V} {ds : List D} {u : Value} {Q : VK} {e' : EV} {b : Bool} {ρ : Env} {τ : L2.St} {S : Store} {H0 : Hp} {e : EV} {y : V} (hG : GOk X G) (I : Inv X pins σ H s)
    (hw : ∀ (l : Addr) (its : Array Value) (xs : List PyData) (as bs : List Addr) (x : Value) (d : PyData) (Q : Value → Shared → Prop), SqB X.K b H l vs → (if b = true then s.heap.IsList l its else s.heap.IsTuple l its) → ReadsAll s.heap its.toList xs as → Reads s.heap x d bs → PyData.plainAll xs = true → d.plain = true → min (PyData.depthAll xs) d.depth ≤ 60 →
      Q (.int ((xs.countP fun y => PyData.eqv y d : Nat) : Int) s.toks) { s with toks := s.toks + 1 } → wpAny (model X.prog X.w) X.A (call f [.ref l, x]) Q X.xe s)
    (h1 : SqB G.K b H a vs) (h2 : RDs G α H ds vs) (rs : RS G α H S) (rl : RL G α H ρ τ) (r : RE G α H ρ τ H0 e y) (ry : RelV y u) (h : cntOf ds (asD ρ S e) = some e')
    (q : ∀ n : Int, e' = .v (.int n) → Q (.int n) H) : wpAny (model X.prog X.w) X.A (call f [.ref a, u]) (EP X pins σ Q) X.xe s := by
  unfold cntOf at h
  split at h
  · rename_i d hd
    obtain ⟨⟨hp, hz⟩, rfl⟩ := ite_some h
    rw [Bool.and_eq_true] at hp
    have dp : Dp X.K H y d.py := by rw [hG.K]; exact asD_ok rs rl r hd hp.2
    obtain ⟨bs, rd⟩ := Dp.reads I d.py y u dp ry
    have hs : SqL G.K H a vs ∨ SqT G.K H a vs := by
      cases b with
      | true => exact .inl h1
      | false => exact .inr h1
    rw [← hG.K] at h1
    cases b with
    | true =>
      obtain ⟨its, rv, pl, hzz⟩ := I.list (show SqL X.K H a vs from h1)
      have dps : DpAll X.K H vs (D.pys ds) := by rw [hG.K]; exact RDs.dp ds vs hp.1 h2
      obtain ⟨as, rds⟩ := Dp.readsAll I _ _ _ dps rv
      refine hw a its.toArray _ as bs u d.py _ h1 pl.isList (by rw [List.toList_toArray]; exact rds) rd (D.plains ds) (D.plain d) hz ⟨.int _, H, I.tok _, ⟨_, rfl⟩, ?_⟩
      rw [cnt_py]
      exact q _ rfl
    | false =>
      obtain ⟨its, rv, pl, hzz⟩ := I.tuple (show SqT X.K H a vs from h1)
      have dps : DpAll X.K H vs (D.pys ds) := by rw [hG.K]; exact RDs.dp ds vs hp.1 h2
      obtain ⟨as, rds⟩ := Dp.readsAll I _ _ _ dps rv
      refine hw a its.toArray _ as bs u d.py _ h1 pl (by rw [List.toList_toArray]; exact rds) rd (D.plains ds) (D.plain d) hz ⟨.int _, H, I.tok _, ⟨_, rfl⟩, ?_⟩
      rw [cnt_py]
      exact q _ rfl
  · cases h
theorem mtO_countL (hu : X.A.units + 64 < cLine) (hG : GOk X G) : MtO X G "list.count" gCountL := by
  intro pins s σ H x xs v us Q I rx rv α0 α H0 ρ τ S eo es e m ro re he q
  unfold gCountL at he
  split at he
  · rename_i ds e1 hL
    obtain ⟨a, vs, rfl, h1, h2⟩ := asL_ok m.rs m.rl ro hL
    obtain ⟨y, rfl, r1⟩ := re.one
    obtain ⟨u, rfl, ru⟩ := vals1 rv
    cases rx
    refine cnt_ok (b := true) hG I (fun l its xs as bs x d Q _ hl ra rd hp hd hz hq => ?_) h1 h2 m.rs m.rl r1 ru he fun n en => q α H _ m (by rw [en]; exact rfl)
    exact SeqAt.count_list_data hl ra rd hp hd (by omega) hq
  · cases he
theorem mtO_countT (hu : X.A.units + 64 < cLine) (hG : GOk X G) : MtO X G "tuple.count" gCountT := by
  intro pins s σ H x xs v us Q I rx rv α0 α H0 ρ τ S eo es e m ro re he q
  unfold gCountT at he
  split at he
  · rename_i ds e1 hL
    obtain ⟨a, vs, rfl, h1, h2⟩ := asT_ok ro hL
    obtain ⟨y, rfl, r1⟩ := re.one
    obtain ⟨u, rfl, ru⟩ := vals1 rv
    cases rx
    refine cnt_ok (b := false) hG I (fun l its xs as bs x d Q _ hl ra rd hp hd hz hq => ?_) h1.sq h2 m.rs m.rl r1 ru he fun n en => q α H _ m (by rw [en]; exact rfl)
    exact SeqAt.count_tuple_data hl ra rd hp hd (by omega) hq
  · cases he
end
end DL

set_option Elab.async false
set_option autoImplicit false
set_option linter.all false
set_option maxRecDepth 100000
set_option maxHeartbeats 2000000
namespace DL
open PySem PySem.Spec PyProof.Rows L2
/-! ## isinstance with a built-in type -/
inductive Ty where
  | non | bl | int | str | tup | lst | dic
  deriving DecidableEq
def Ty.nm : Ty → String
  | .non => "NoneType"
  | .bl => "bool"
  | .int => "int"
  | .str => "str"
  | .tup => "tuple"
  | .lst => "list"
  | .dic => "dict"
def Ty.isa (a b : Ty) : Bool := decide (a = b) || (decide (a = .bl) && decide (b = .int))
theorem isa_ok (a b : Ty) (h : b ≠ .non) : L2.kitB a.nm b.nm = some (a.isa b) := by
  cases a <;> cases b <;> first | exact absurd rfl h | decide +kernel
def tyD : D → Option Ty
  | .non => some .non
  | .bl _ => some .bl
  | .int _ => some .int
  | .str _ => some .str
  | .tup _ => some .tup
  | .cl _ => some .lst
  | .ref _ => none
  | .exc _ _ => none
def tyN (ρ : Env) (S : Store) : EV → Option Ty
  | .fl _ => some .lst
  | .fd _ => some .dic
  | .sl i => match ρ[i]? with
    | some (some (.ol _)) => some .lst
    | some (some (.od _)) => some .dic
    | _ => none
  | .v (.ref n) => match S[n]? with
    | some (.lst _) => some .lst
    | some (.dic _) => some .dic
    | _ => none
  | .v d => tyD d
section
variable {X : Cx} {G : Gc} {pins : List (Addr × Obj)} {s : Shared} {α : List Lc} {H H0 : Hp} {ρ : Env} {σ τ : L2.St} {S : Store} {x : V} {u : Value} {e : EV} {T : Ty}
def KitE (X : Cx) (u : Value) (t : Value) (s : Shared) : Prop := ∃ P : Heap → Prop, PySem.W.KitX X.K u t P ∧ P s.heap ∧ u ≠ .builtin "__main__.__loader__#opaque"
theorem kit_listL (I : Inv X pins σ H s) {a : Addr} {vs : List V} (h : SqL X.K H a vs) : KitE X (.ref a) (.type "list") s := by
  obtain ⟨its, rv, pl, hz⟩ := I.list h
  obtain ⟨o, ho, hc, n, hd⟩ := pl.isList
  exact ⟨_, PySem.W.kitx_list, ⟨o, ho, hc⟩, fun z => nomatch z⟩
theorem kit_dictD (I : Inv X pins σ H s) {a : Addr} {kvs : List (D × D)} (h : RDc G α H a kvs) : KitE X (.ref a) (.type "dict") s := by
  obtain ⟨o, es, ep, h1, h2, h3⟩ := rdc_typeIs I h
  exact ⟨_, PySem.W.kitx_dict, ⟨o, h1, h2.1⟩, fun z => nomatch z⟩
theorem kit_E (hG : GOk X G) (I : Inv X pins σ H s) (rs : RS G α H S) (rl : RL G α H ρ τ) (r : RE G α H ρ τ H0 e x) (ru : RelV x u) (h : tyN ρ S e = some T) : KitE X u (.type T.nm) s := by
  have lists : ∀ ds, asL ρ S e = some ds → T = .lst → KitE X u (.type T.nm) s := fun ds q z => by
    subst z
    obtain ⟨a, vs, e1, h1, h2⟩ := asL_ok rs rl r q
    subst e1
    cases ru
    exact kit_listL I (by rw [hG.K]; exact h1)
  have dicts : ∀ kvs, asK ρ S e = some kvs → T = .dic → KitE X u (.type T.nm) s := fun kvs q z => by
    subst z
    obtain ⟨a, e1, h1⟩ := asK_ok rs rl r q
    subst e1
    cases ru
    exact kit_dictD I h1
  cases e with
  | fl ds => cases h; exact lists ds rfl rfl
  | fd ds => cases h; exact dicts ds rfl rfl
  | sl i =>
    simp only [tyN] at h
    split at h
    · rename_i ds hk; cases h; exact lists ds (by simp only [asL, hk]) rfl
    · rename_i ds hk; cases h; exact dicts ds (by simp only [asK, hk]) rfl
    · cases h
  | v d =>
    cases d with
    | ref n =>
      simp only [tyN] at h
      split at h
      · rename_i ds hk; cases h; exact lists ds (by simp only [asL, hk]) rfl
      · rename_i ds hk; cases h; exact dicts ds (by simp only [asK, hk]) rfl
      · cases h
    | cl ds => cases h; exact lists ds rfl rfl
    | tup ds =>
      cases h
      obtain ⟨a, vs, e1, h1, h2⟩ := r
      subst e1
      cases ru
      obtain ⟨its, rv, ⟨o, ho, hc, n, hd⟩, hz⟩ := I.tuple (show SqT X.K H a vs by rw [hG.K]; exact h1.sq)
      exact ⟨_, PySem.W.kitx_tuple, ⟨o, ho, hc⟩, fun z => nomatch z⟩
    | non => cases h; cases (show x = .non from r); cases (show u = Value.none from ru); exact ⟨_, PySem.W.kitx_none, True.intro, fun z => nomatch z⟩
    | bl b => cases h; cases (show x = .bl b from r); cases (show u = Value.bool b from ru); exact ⟨_, PySem.W.kitx_bool, True.intro, fun z => nomatch z⟩
    | int i => cases h; cases (show x = .int i from r); obtain ⟨t, rfl⟩ := (show ∃ t, u = Value.int i t from ru); exact ⟨_, PySem.W.kitx_int, True.intro, fun z => nomatch z⟩
    | str z => cases h; cases (show x = .str z from r); obtain ⟨t, rfl⟩ := (show ∃ t, u = Value.str z t from ru); exact ⟨_, PySem.W.kitx_str, True.intro, fun z => nomatch z⟩
    | exc _ _ => cases h
end
def mIsT (T : Ty) (m : ME) : ME := fun ρ S => (m ρ S).bind fun e S1 => match tyN ρ S1 e with
  | some t => .ok (.v (.bl (t.isa T))) S1
  | none => .bad
section
variable {X : Cx} {G : Gc} {p p2 pos : Pos} {x2 : Str} {e : Expr} {m : ME}
theorem pe_tyN {T : String} (hg : Gl X x2) (hm : X.mg x2 = none) (hv : bootBuiltins x2 = some (.type T)) (hn : x2 ≠ "__name__" := by decide) (hdb : (x2 == ("__debug__" : Str)) = false := by decide) : PE X (.Name x2 p2) (tC (.ty T)) :=
  ⟨fun pins s σ H Q I h => ld_blt I hg hm hv ⟨.ty T, H, I, rfl, h⟩ hn hdb⟩
/-- what isinstance asks -/
def rIsK (X : Cx) : List V → Hp → VK → Prop := fun xs H Q => ∃ (x c : V) (t cv : Value) (b : Bool), xs = [x, c] ∧ (∀ w, RelV c w → w = cv) ∧ PySem.W.kitOne X.K t cv = some b ∧ (∀ (pins : List (Addr × Obj)) (s : Shared) (σ : L2.St) (u : Value), Inv X pins σ H s → RelV x u → KitE X u t s) ∧ Q (.bl b) H
theorem call_isK : CallR X (.builtin "isinstance") (rIsK X) := by
  rintro pins s σ H xs us Q I r ⟨x, c, t, cv, b, rfl, hc, hk, hx, q⟩
  obtain ⟨u, w, rfl, r1, r2⟩ := vals2 r
  have e := hc w r2
  subst e
  obtain ⟨P, Z, p, hn⟩ := hx pins s σ u I r1
  exact PySem.W.kia_one Z I.kIn p hk hn fun tk => ⟨.bl b, H, I.tok tk, rfl, q⟩
theorem xe_isT (T : Ty) (hT : T ≠ .non) (hG : GOk X G) (hg : Gl X "isinstance") (hm : X.mg "isinstance" = none) (hg2 : Gl X x2) (hm2 : X.mg x2 = none) (hv2 : bootBuiltins x2 = some (.type T.nm)) (h : XE X G e m) (hn2 : x2 ≠ "__name__" := by decide) (hdb2 : (x2 == ("__debug__" : Str)) = false := by decide)
    (na : starEach [e, .Name x2 p2] X.env = (false, eval e X.env) :: starEach [.Name x2 p2] X.env := by rfl) (nb : starEach [.Name x2 p2] X.env = (false, eval (.Name x2 p2) X.env) :: starEach [] X.env := by rfl) (hpl : (backTo pos (starEach [.Name x2 p2] X.env)).any (·.1) = false := by rfl) :
    XE X G (.Call (.Name "isinstance" p) [e, .Name x2 p2] [] pos) (mIsT T m) := by
  refine ⟨fun W t => PE.imp (pe_callB call_isK hg hm boot_isinstance (pa_cons (h.run W t) (pa_cons (pe_tyN hg2 hm2 hv2 hn2 hdb2) pa_nil nb) na) (by decide) (by decide) na hpl) fun σ H Q ⟨α, ρ, S, rs, rl, g⟩ => ?_⟩
  show tOf G m W σ H fun x H1 => _
  refine tOf_mono (step (ma := m) (.refl rs rl) g) fun x H1 ⟨α1, S1, e1, p1, m1, r1, g1⟩ => ?_
  cases ht : tyN ρ S1 e1 with
  | none => simp only [ht] at g1; exact g1.elim
  | some t =>
    simp only [ht] at g1
    exact ⟨x, .ty T.nm, .type t.nm, .type T.nm, t.isa T, rfl, fun w h => h, L2.kit_ty (isa_ok t T hT), fun pins s τ u I ru => kit_E hG I m1.rs m1.rl r1 ru ht, g1 α1 H1 _ m1 rfl⟩
/-! ## constants of the module -/
def eG (d : D) : ME := fun _ S => .ok (.v d) S
theorem xe_gInt {x : Str} {i : Int} (hg : Gl X x) (hm : ∃ t, X.mg x = some (.int i t)) (hd : (x == ("__debug__" : Str)) = false := by decide) : XE X G (.Name x p) (eG (.int i)) := by
  obtain ⟨t, hm⟩ := hm
  exact ⟨fun W _ => PE.imp (pe_glob (v := .int i) hg hm ⟨t, rfl⟩ hd) fun σ H Q ⟨α, ρ, S, rs, rl, g⟩ => g α H _ (.refl rs rl) rfl⟩
theorem xe_gStr {x z : Str} (hg : Gl X x) (hm : ∃ t, X.mg x = some (.str z t)) (hd : (x == ("__debug__" : Str)) = false := by decide) : XE X G (.Name x p) (eG (.str z)) := by
  obtain ⟨t, hm⟩ := hm
  exact ⟨fun W _ => PE.imp (pe_glob (v := .str z) hg hm ⟨t, rfl⟩ hd) fun σ H Q ⟨α, ρ, S, rs, rl, g⟩ => g α H _ (.refl rs rl) rfl⟩
/-! ## list(range(..)), tuple(range(..)) -/
def kRgL (es : List EV) (S : Store) : R EV := match es with
  | [.v (.int j)] => if (rgOk 0 j && decide (j ≤ 16777216)) = true then .ok (.fl (rgD 0 j)) S else .bad
  | [.v (.int i), .v (.int j)] => if (rgOk i j && decide (j - i ≤ 16777216)) = true then .ok (.fl (rgD i j)) S else .bad
  | _ => .bad
def tupR (r : R EV) : R EV := match r with
  | .ok (.fl ds) S => .ok (.v (.tup ds)) S
  | _ => .bad
def mRgL (ma : MA) : ME := fun ρ S => (ma ρ S).bind kRgL
def mRgT (ma : MA) : ME := fun ρ S => (ma ρ S).bind fun es S1 => tupR (kRgL es S1)
theorem rgV_rel {α : List Lc} {H : Hp} (a b : Int) : RDs G α H (rgD a b) (rgV a b) := by
  unfold rgD rgV
  have go : ∀ l : List Nat, RDs G α H (l.map fun i => D.int (a + (i : Nat))) (l.map fun i => V.int (a + (i : Nat))) := by
    intro l
    induction l with
    | nil => exact rfl
    | cons i r ih => exact ⟨_, _, rfl, rfl, ih⟩
  exact go _
theorem rgOk_of {i j : Int} (h : (rgOk i j && decide (j - i ≤ 16777216)) = true) : RgOk i j := by
  rw [Bool.and_eq_true, decide_eq_true_eq] at h
  unfold rgOk at h
  rw [decide_eq_true_eq] at h
  obtain ⟨⟨h1, h2, h3, h4⟩, h5⟩ := h
  exact ⟨h1, h2, h3, h4, by omega⟩
end
end DL

set_option Elab.async false
set_option autoImplicit false
set_option linter.all false
set_option maxRecDepth 100000
set_option maxHeartbeats 2000000
namespace DL
open PySem PySem.Spec PyProof.Rows L2
/-! ## list(range(..)), tuple(range(..)) -/
section
variable {X : Cx} {G : Gc} {p p2 q pos : Pos} {e e2 : Expr} {ma mb : ME}
def mR1 (k : List EV → Store → R EV) (ma : ME) : ME := fun ρ S => (ma ρ S).bind fun x S1 => k [x] S1
def mR2 (k : List EV → Store → R EV) (ma mb : ME) : ME := fun ρ S => (ma ρ S).bind fun x S1 => (mb ρ S1).bind fun y S2 => k [x, y] S2
def kRgT (es : List EV) (S : Store) : R EV := tupR (kRgL es S)
theorem kRgL1 {W : WX} {α : List Lc} {H : Hp} {ρ : Env} {σ : L2.St} {e1 : EV} {S : Store} {Q : VK} (g : Gd G W α H ρ σ (kRgL [e1] S) Q) : ∃ j, e1 = .v (.int j) ∧ RgOk 0 j ∧ Gd G W α H ρ σ (.ok (.fl (rgD 0 j)) S) Q := by
  unfold kRgL at g
  split at g
  · rename_i es j he
    cases he
    obtain ⟨h, g⟩ := ite_gd g
    exact ⟨j, rfl, rgOk_of (by rw [Int.sub_zero]; exact h), g⟩
  · rename_i he; cases he
  · exact g.elim
theorem kRgL2 {W : WX} {α : List Lc} {H : Hp} {ρ : Env} {σ : L2.St} {e1 e2 : EV} {S : Store} {Q : VK} (g : Gd G W α H ρ σ (kRgL [e1, e2] S) Q) : ∃ i j, e1 = .v (.int i) ∧ e2 = .v (.int j) ∧ RgOk i j ∧ Gd G W α H ρ σ (.ok (.fl (rgD i j)) S) Q := by
  unfold kRgL at g
  split at g
  · rename_i he; cases he
  · rename_i es i j he
    cases he
    obtain ⟨h, g⟩ := ite_gd g
    exact ⟨i, j, rfl, rfl, rgOk_of h, g⟩
  · exact g.elim
theorem kRgTX {W : WX} {α : List Lc} {H : Hp} {ρ : Env} {σ : L2.St} {es : List EV} {S : Store} {Q : VK} (g : Gd G W α H ρ σ (kRgT es S) Q) : ∃ ds S', kRgL es S = .ok (.fl ds) S' ∧ Gd G W α H ρ σ (.ok (.v (.tup ds)) S') Q := by
  unfold kRgT tupR at g
  split at g
  · rename_i ds S' h; exact ⟨ds, S', h, g⟩
  · exact g.elim
theorem xe_listRg1 (hc : X.calm = true) (hg : Gl X "list") (hm : X.mg "list" = none) (hg2 : Gl X "range") (hm2 : X.mg "range" = none) (h : XE X G e ma)
    (na : starEach [.Call (.Name "range" p2) [e] [] q] X.env = (false, eval (.Call (.Name "range" p2) [e] [] q) X.env) :: starEach [] X.env := by rfl) (nb : starEach [e] X.env = (false, eval e X.env) :: starEach [] X.env := by rfl) :
    XE X G (.Call (.Name "list" p) [.Call (.Name "range" p2) [e] [] q] [] pos) (mR1 kRgL ma) := by
  refine ⟨fun W t => PE.imp (pe_listRg hc hg hm (prg_1 hg2 hm2 (h.run W t) nb) na) fun σ H Q ⟨α, ρ, S, rs, rl, g⟩ => ?_⟩
  refine tOf_mono (step (ma := ma) (.refl rs rl) g) fun x H1 ⟨α1, S1, e1, p1, m1, r1, g1⟩ => ?_
  obtain ⟨j, rfl, ok, g2⟩ := kRgL1 g1
  cases (show x = .int j from r1)
  exact ⟨j, rfl, ok, fun a hn => g2 α1 _ _ (m1.laid hn) (.newL m1 hn (rgV_rel 0 j))⟩
theorem xe_listRg2 (hc : X.calm = true) (hg : Gl X "list") (hm : X.mg "list" = none) (hg2 : Gl X "range") (hm2 : X.mg "range" = none) (h : XE X G e ma) (h2 : XE X G e2 mb)
    (na : starEach [.Call (.Name "range" p2) [e, e2] [] q] X.env = (false, eval (.Call (.Name "range" p2) [e, e2] [] q) X.env) :: starEach [] X.env := by rfl) (nb : starEach [e, e2] X.env = (false, eval e X.env) :: starEach [e2] X.env := by rfl) (nc : starEach [e2] X.env = (false, eval e2 X.env) :: starEach [] X.env := by rfl) (hp : (backTo q (starEach [e2] X.env)).any (·.1) = false := by rfl) :
    XE X G (.Call (.Name "list" p) [.Call (.Name "range" p2) [e, e2] [] q] [] pos) (mR2 kRgL ma mb) := by
  refine ⟨fun W t => PE.imp (pe_listRg hc hg hm (prg_2 hg2 hm2 (h.run W t) (h2.run W t) nb nc hp) na) fun σ H Q ⟨α, ρ, S, rs, rl, g⟩ => ?_⟩
  refine tOf_mono (step (ma := ma) (.refl rs rl) g) fun x H1 ⟨α1, S1, e1, p1, m1, r1, g1⟩ => ?_
  refine tOf_mono (step (ma := mb) m1 g1) fun y H2 ⟨α2, S2, e2, p2, m2, r2, g2⟩ => ?_
  obtain ⟨i, j, rfl, rfl, ok, g3⟩ := kRgL2 g2
  cases (show x = .int i from r1)
  cases (show y = .int j from r2)
  exact ⟨i, j, rfl, rfl, ok, fun a hn => g3 α2 _ _ (m2.laid hn) (.newL m2 hn (rgV_rel i j))⟩
theorem xe_tupRg1 (hc : X.calm = true) (hg : Gl X "tuple") (hm : X.mg "tuple" = none) (hg2 : Gl X "range") (hm2 : X.mg "range" = none) (h : XE X G e ma)
    (na : starEach [.Call (.Name "range" p2) [e] [] q] X.env = (false, eval (.Call (.Name "range" p2) [e] [] q) X.env) :: starEach [] X.env := by rfl) (nb : starEach [e] X.env = (false, eval e X.env) :: starEach [] X.env := by rfl) :
    XE X G (.Call (.Name "tuple" p) [.Call (.Name "range" p2) [e] [] q] [] pos) (mR1 kRgT ma) := by
  refine ⟨fun W t => PE.imp (pe_tupRgX hc hg hm (prg_1 hg2 hm2 (h.run W t) nb) na) fun σ H Q ⟨α, ρ, S, rs, rl, g⟩ => ?_⟩
  refine tOf_mono (step (ma := ma) (.refl rs rl) g) fun x H1 ⟨α1, S1, e1, p1, m1, r1, g1⟩ => ?_
  obtain ⟨ds, S', hk, g2⟩ := kRgTX g1
  have hb : Gd G W α1 H1 ρ σ (kRgL [e1] S1) (fun _ _ => True) := by rw [hk]; exact fun _ _ _ _ _ => True.intro
  obtain ⟨j, rfl, ok, _⟩ := kRgL1 hb
  have : kRgL [.v (.int j)] S1 = .ok (.fl (rgD 0 j)) S1 := by
    unfold kRgL at hk ⊢
    by_cases c : (rgOk 0 j && decide (j ≤ 16777216)) = true
    · exact if_pos c
    · simp only [if_neg c] at hk; cases hk
  rw [this] at hk
  cases hk
  cases (show x = .int j from r1)
  exact ⟨j, rfl, ok, fun a ob hn hd => g2 α1 _ _ (m1.laid hn) (.newT m1 hn hd (rgV_rel 0 j))⟩
end
/-! ## repr -/
def fRepr : EV → Env → Store → Option EV := fun e ρ S => match asD ρ S e with
  | some d => if (d.pure && d.py.showable) = true ∧ d.dp ≤ 40 ∧ d.py.shown.length ≤ sizeLine then some (.v (.str d.py.shown)) else none
  | none => none
section
variable {X : Cx} {G : Gc}
theorem py_noDict : ∀ d : D, d.py.hasDict = false := by
  intro d
  have go : (∀ d : D, d.py.hasDict = false) ∧ ∀ ds : List D, PyData.hasDictAll (D.pys ds) = false := by
    refine ⟨fun d => ?_, fun ds => ?_⟩
    · exact D.rec (motive_1 := fun d => d.py.hasDict = false) (motive_2 := fun ds => PyData.hasDictAll (D.pys ds) = false) rfl (fun _ => rfl) (fun _ => rfl) (fun _ => rfl) (fun _ ih => ih) (fun _ => rfl) (fun _ _ _ => rfl) (fun _ ih => ih) rfl (fun _ _ h1 h2 => by
        show (_ || _) = false
        rw [h1, h2]; rfl) d
    · exact D.rec_1 (motive_1 := fun d => d.py.hasDict = false) (motive_2 := fun ds => PyData.hasDictAll (D.pys ds) = false) rfl (fun _ => rfl) (fun _ => rfl) (fun _ => rfl) (fun _ ih => ih) (fun _ => rfl) (fun _ _ _ => rfl) (fun _ ih => ih) rfl (fun _ _ h1 h2 => by
        show (_ || _) = false
        rw [h1, h2]; rfl) ds
  exact go.1 d
theorem callO_repr (hu : X.A.units + 64 < cLine) (hG : GOk X G) (hq : X.A.guards = some []) : CallO X G (.builtin "repr") (g1 fRepr) := by
  intro pins s σ H xs us Q I rv α0 α H0 ρ τ S es e m re he q
  obtain ⟨a, rfl, hf⟩ := g1_some he
  obtain ⟨x, rfl, r⟩ := re.one
  obtain ⟨u, rfl, ru⟩ := vals1 rv
  unfold fRepr at hf
  split at hf
  · rename_i d hd
    obtain ⟨⟨hp, hz, hl⟩, rfl⟩ := ite_some hf
    rw [Bool.and_eq_true] at hp
    have dp : Dp X.K H x d.py := by rw [hG.K]; exact asD_ok m.rs m.rl r hd hp.1
    obtain ⟨as, rd⟩ := Dp.reads I d.py x u dp ru
    have nd := py_noDict d
    have dz : d.py.depth ≤ 40 := hz
    have sh := hp.2
    have fin : ∀ t s', Inv X pins σ H s' → EP X pins σ Q (.str d.py.shown t) s' := fun t s' I' => ⟨.str _, H, I', ⟨t, rfl⟩, q α H _ m rfl⟩
    clear q hp hf hd ru dp
    generalize d.py = pd at rd nd dz sh fin hl
    have refs : ∀ b, u = .ref b → wpAny (model X.prog X.w) X.A (call (.builtin "repr") [u]) (EP X pins σ Q) X.xe s := fun b e => by
      subst e
      exact PySem.repr_of_reads' rd sh (fun z => by rw [nd] at z; cases z) hq (by omega) (fun _ _ z => z) (fun h' u tk hk => fin u _ (I.kept hk)) hl
    cases rd with
    | none => exact PySem.P.repr_of_none (fin _ _ (I.tok _))
    | bool b => exact PySem.P.repr_of_bool (fin _ _ (I.tok _))
    | int n t =>
      have hn : n.natAbs.log2 < 1920 := of_decide_eq_true sh
      exact PySem.P.repr_of_int hn (fin _ _ (I.tok _))
    | str z t => exact PySem.P.repr_of_str (fin _ _ (I.tok _)) hl
    | list h1 h2 h3 h4 => exact refs _ rfl
    | tuple h1 h2 h3 h4 => exact refs _ rfl
    | dict h1 h2 h3 h4 h5 => exact refs _ rfl
  · cases hf
end
end DL

set_option Elab.async false
set_option autoImplicit false
set_option linter.all false
set_option maxRecDepth 100000
set_option maxHeartbeats 2000000
namespace DL
open PySem PySem.Spec PyProof.Rows L2
/-! ## the root class of the errors -/
/-- what the written part says of an error class at C -/
structure ErC (K : PySem.W.Frag) (C D : Addr) : Prop where
  ex : OexC K C
  mro : PySem.W.mroIn K C (.ref D) = some true
  sup : PySem.W.ks_superIn K C D "__init__" = some (some (.builtin "ValueError.__init__"))
  val : PySem.W.subIn K (.ref C) (.type "ValueError") = some true
  noV : PySem.W.findIn K (.ref C) "value" = some none
section
variable {P : Program} {w : World} {K : PySem.W.Frag} {mg : Str → Option Value} {base : Heap} {A : Around} {R : Result → Shared → Prop} {h : Heap} {g : Array GenState} {d : Drawn} {t : Nat} {os : OsState}
variable {fI cc cda C D e t0 : Addr} {name qual : Str} {params : Arguments} {scope : Scope} {dV kV doc pm ct oc ccl cl u : Value} {an od cdd cld : Option Addr} {osl ccs csl : Array (Option Value)} {vs : Array Value} {file : Str} {tf : Tok} {ar : Arg}
variable {p0 p1 p2 p3 p4 p5 p6 p7 p8 p9 : Pos}
abbrev iniB (p0 p1 p2 p3 p4 p5 p6 p7 p8 p9 : Pos) : List Stmt := [.Expr (.Call (.Attribute (.Call (.Name "super" p0) [] [] p1) "__init__" p2) [.Name "value" p3] [] p4) p5, .Assign [.Attribute (.Name "self" p6) "value" p7] (.Name "value" p8) p9]
theorem root_init {pl : Sem Bool} (hev : ∀ env : PySem.Env, eval (.Call (.Attribute (.Call (.Name "super" p0) [] [] p1) "__init__" p2) [.Name "value" p3] [] p4) env = (do
      let ov ← attributeBase (.Call (.Name "super" p0) [] [] p1) "__init__" env (eval (.Call (.Name "super" p0) [] [] p1) env)
      standAt p2.atName
      let (f, first) ← holding [ov] (getMethod ov "__init__" pl)
      callWith p4 f first (backTo p4 (starEach [.Name "value" p3] env)) []))
    (lk : K.lookup fI = some ⟨oc, od, .func (PySem.W.ksFn name qual params (iniB p0 p1 p2 p3 p4 p5 p6 p7 p8 p9) scope dV kV doc pm an (.ref cda) ct cc), osl⟩)
    (hb : Binds K (PySem.W.ksFn name qual params (iniB p0 p1 p2 p3 p4 p5 p6 p7 p8 p9) scope dV kV doc pm an (.ref cda) ct cc) ["self", "value"] [])
    (hp : (params.posonlyargs ++ params.args).head? = some ar) (har : ar.arg = "self") (hcd : PySem.W.codeIn K (.ref cda) qual = true)
    (hcode : K.lookup cda = some ⟨ccl, cdd, .fields vs, ccs⟩) (hvs : vs[2]? = some (.str file tf)) (hfile : ((P.main.file : Str) == file) = true)
    (hcell : K.lookup cc = some ⟨cl, cld, .cell (some (.ref D)), csl⟩) (hD : (PySem.W.clsIn K D).isSome = true) (ho : PySem.W.nsIn K cStatics "thirdparty.any" = some none)
    (hks : scope.names.lookup ("super" : Str) = some .globalImplicit) (hkc : scope.names.lookup ("__class__" : Str) = some .free) (h1 : scope.names.lookup ("self" : Str) = some .local) (h2 : scope.names.lookup ("value" : Str) = some .local)
    (hnc : ∀ x ∈ scope.names, x.2 ≠ .cell) (hk : scope.kind = .function) (hco : scope.isCoroutine = false) (hgen : scope.isGenerator = false)
    (htop : (P.main.scope.names.lookup ("super" : Str)).isSome = false) (hms : mg "super" = none) (M : Mod K mg base) (T : ErC K C D) (hroom : A.depth < recursionLimit) (hbs : ∀ b o, base.get? b = some o → h.get? b = some o)
    (he : h.get? e = some (PySem.HandSPX.excO C t0)) (hnb : base.get? e = none)
    (hq : ∀ h' tk' dx t1, (∀ b o, b ≠ e → h.get? b = some o → h'.get? b = some o) → h.objs.size ≤ dx → h'.get? e = some { cls := .ref C, dict := some dx, data := .fields #[.ref t1, .none, .none, .none, .bool false, .none] } →
      h'.Ns1 dx (fun y => if y = "value" then some u else none) → R (.ok (.ret .none)) ⟨h', g, d, tk', os⟩) :
    codeAny (model P w) A (.call (.ref fI) ⟨[.ref e, u], []⟩) R ⟨h, g, d, t, os⟩ := by
  have KX : K.In h := M.kin.keeps hbs
  refine ks_codeAny_call_defAt (fd := PySem.W.ksFn name qual params (iniB p0 p1 p2 p3 p4 p5 p6 p7 p8 p9) scope dV kV doc pm an (.ref cda) ct cc) (binds := [("self", .ref e), ("value", u)]) hroom (KX _ _ lk) rfl
    (M.nolimit.keeps hbs) (PySem.W.codeRec_of KX hcd) rfl (hb _ [.ref e, u] KX rfl) hnc (fun x hx => ?_) (fun g0 hns hk0 => ?_) hco hgen hk
  · rcases List.mem_cons.mp hx with rfl | hx
    · exact h1
    · rw [List.mem_singleton.mp hx]; exact h2
  have KX0 : K.In g0 := KX.keeps hk0
  obtain ⟨cdD, hD⟩ := Option.isSome_iff_exists.mp hD
  obtain ⟨oD, hD1, hD2⟩ : ∃ oD, g0.get? D = some oD ∧ oD.data = .cls cdD := by
    unfold PySem.W.clsIn at hD
    split at hD
    · rename_i c d cd' sl hl
      cases hD
      exact ⟨_, KX0 _ _ hl, rfl⟩
    · cases hD
  have he0 : g0.get? e = some (PySem.HandSPX.excO C t0) := hk0 _ _ he
  have Ie : ∀ {h' : Heap} {t1 : Addr}, h'.get? e = some (PySem.HandSPX.excO C t1) → PySem.W.InstAt h' e (PySem.HandSPX.excO C t1) C none := fun q => ⟨q, rfl, rfl, trivial⟩
  have bs0 : ∀ b o, base.get? b = some o → g0.get? b = some o := fun b o q => hk0 b o (hbs b o q)
  obtain ⟨mb, hb1, hb2⟩ := M.blt
  have hnsS : ∀ {h' : Heap}, (∀ b o, g0.get? b = some o → h'.get? b = some o) → h'.Ns h.objs.size (fun x => ([("self", Value.ref e), ("value", u)] : List (Str × Value)).reverse.lookup x) := fun k => hns.keeps k
  obtain ⟨nm, q, N, bs, bm, sn, sub, ab, col, dd, k0, k1, k2, k3, k5, hC, hbm⟩ := T.ex.cls
  have hcl : PySem.W.clsIn K C = some { name := nm, bases := bs, mro := .ref C :: bm, ns := N, qualname := q, hasDict := true, slotNames := sn, subclasses := sub, abstract := ab, collection := col, hasDel := false } := by unfold PySem.W.clsIn; rw [hC] <;> rfl
  have hint : ∀ L, interactive (callEnv (PySem.W.ksFn name qual params (iniB p0 p1 p2 p3 p4 p5 p6 p7 p8 p9) scope dV kV doc pm an (.ref cda) ct cc) L fI) = false := fun L => by
    show (scope.kind == .module && _) = false
    rw [hk]; rfl
  refine ks_wpAt_execs_cons (ks_wpAt_Expr_any (ks_wpAt_MethodCall (pl := pl) (ks_wpAt_super_base hks hkc (by decide) rfl (KX0 _ _ lk) rfl hp rfl (KX0 _ _ hcode) rfl hvs hfile htop ?_) (hev _)) (hint _))
  refine PySem.W.ks_loadName_global hk hks (Calls.loadGlobal_builtin (M.glob.keeps bs0) hms (hb1.keeps bs0) ((hb2 "super" (by decide)).trans (by decide)) ⟨rfl, ?_⟩)
  refine wpAny_loadName_free hk hkc rfl ⟨_, KX0 _ _ hcell, rfl⟩ ?_
  rw [har]
  refine wpAny_loadName_local hk h1 hns rfl ?_
  refine ks_wpAny_isType_cls hD1 hD2 ⟨rfl, ?_⟩
  refine ks_wpAny_call_super hD1 hD2 he0 rfl (fun c e => by cases e) (PySem.W.looks_mroIn KX0 T.mro) fun g1 hso hk1 => ?_
  have KX1 : K.In g1 := KX0.keeps hk1
  have hI1 : PySem.W.Looks (model P w) g1 (isInstance (.ref e) (.type "ValueError")) true := (Ie (hk1 _ _ he0)).type.andThen (PySem.W.looks_subIn KX1 T.val)
  have hsup := T.sup
  unfold PySem.W.ks_superIn at hsup
  rw [hcl] at hsup
  refine PySem.W.kxs_getMethod PySem.W.kxs_ValueError hso (PySem.W.looks_opaque KX1 ho) (l₀ := .ref C :: bm) ?_ rfl KX1 hsup hI1 (PySem.W.ks_ne KX1 (Ie (hk1 _ _ he0)) hcl) (by decide) ?_
  · exact fun A Q E s k q => wpAny_bind ((PySem.W.looks_clsIn KX1 hcl) A _ E s k (wpAny_pure q))
  have kb : ∀ b o, g1.get? b = some o → (g1.push (PySem.W.kxs_mw "ValueError.__init__" e)).get? b = some o := fun b o q => Heap.get?_push_of_some _ q
  have hu : (g1.push (PySem.W.kxs_mw "ValueError.__init__" e)).get? g1.objs.size = some (PySem.W.kxs_mw "ValueError.__init__" e) := Heap.get?_push_at rfl rfl
  have KX2 : K.In (g1.push (PySem.W.kxs_mw "ValueError.__init__" e)) := KX1.keeps kb
  have k02 : ∀ b o, g0.get? b = some o → (g1.push (PySem.W.kxs_mw "ValueError.__init__" e)).get? b = some o := fun b o q => kb b o (hk1 b o q)
  refine PySem.W.kxs_callWith (i := "ValueError.__init__") (x := e) rfl ?_
  refine PySem.Calls.evalArgs_plain (PySem.Calls.spliced_cons (wpAny_Name (wpAny_loadName_local hk h2 (hnsS k02) rfl (PySem.Calls.spliced_nil ⟨hu, ?_⟩)) (by decide)))
  refine wpAny_call (codeAny_of_tree ?_)
  show wpAny _ _ (callAny (.ref g1.objs.size) ⟨[u], []⟩) _ _ _
  simp only [callAny]
  refine wpAny_bind (wpAny_load hu ?_)
  simp only [PySem.W.kxs_mw, show (Value.type "method-wrapper" == Value.type "method" || Value.type "method-wrapper" == Value.type "builtin_function_or_method" || Value.type "method-wrapper" == Value.type "method-wrapper") = true by decide, if_true]
  refine PySem.W.KFB.if_so (by decide) ?_
  have he2 : (g1.push (PySem.W.kxs_mw "ValueError.__init__" e)).get? e = some (PySem.HandSPX.excO C t0) := k02 _ _ he0
  refine wpAny_bind (PySem.W.check_bound_init F.excBase_ValueError.toExcCallFacts (KX2 _ _ hC) he2 rfl ?_)
  refine wpAny_bind (wpAny_pure (wpAny_pure ?_))
  refine ⟨plainId_quiet F.excBase_ValueError.init.plain _, codeAny_builtin F.excBase_ValueError.initEntry ?_⟩
  refine PySem.W.exc_init_tree (cls := .ref C) (t0 := t0) (dv := none) (c2 := .none) (c3 := .none) (b4 := .bool false) he2 (show 1 ≤ sizeLine by rw [sizeLine_eq]; omega) fun g3 k3 e3 t3 => ?_
  have kx : ∀ b o, b ≠ e → g0.get? b = some o → g3.get? b = some o := fun b o hb q => k3 b o hb (k02 b o q)
  obtain ⟨oL, esL, epL, hL, rL⟩ := hns
  have hLe : h.objs.size ≠ e := Nat.ne_of_gt (Heap.lt_size he)
  have hns3 : g3.Ns h.objs.size (fun x => ([("self", Value.ref e), ("value", u)] : List (Str × Value)).reverse.lookup x) := ⟨oL, esL, epL, kx _ _ hLe hL, rL⟩
  have KX3 : K.In g3 := fun b o hb => kx b o (fun z => by
    have q := M.kin _ _ hb
    rw [z, hnb] at q
    cases q) (KX0 _ _ hb)
  have sz3 : h.objs.size ≤ g3.objs.size := Nat.le_of_lt (Heap.lt_size (kx _ _ hLe hL))
  refine ks_wpAt_execs_cons (ks_wpAt_Assign_Attr (wpAt_of_wpAny (wpAny_Name (wpAny_loadName_local hk h2 hns3 rfl ?_) (by decide))))
  refine wpAny_Name (wpAny_loadName_local hk h1 hns3 rfl ?_) (by decide)
  refine PySem.W.set_plain KX3 (ox := PySem.HandSPX.excO C _) (od := none) ⟨e3, rfl, rfl, trivial⟩ T.ex.sa ?_
  refine PySem.HandSPX.exc_osa KX3 e3 hcl (show PySem.HandSPX.refsVE (.ref C :: bm) = true from hbm) rfl T.noV fun h' tk' dx k n1 n2 hx hn => ?_
  refine wpAt_of_wpAny (wpAny_execs_nil ?_)
  exact hq h' tk' dx _ (fun b o hb q => k b o hb (kx b o hb (hk0 b o q))) (Nat.le_trans sz3 n1) hx hn
end
end DL

set_option Elab.async false
set_option autoImplicit false
set_option linter.all false
set_option maxRecDepth 100000
set_option maxHeartbeats 2000000
namespace DL
open PySem PySem.Spec PyProof.Rows L2
/-- the root's __init__ at fI does what root_init tells -/
def RootC (P : Program) (w : World) (K : PySem.W.Frag) (mg : Str → Option Value) (base : Heap) (fI D : Addr) : Prop :=
  ∀ (A : Around) (R : Result → Shared → Prop) (h : Heap) (g : Array GenState) (d : Drawn) (t : Nat) (os : OsState) (C e t0 : Addr) (u : Value), Mod K mg base → ErC K C D → A.depth < recursionLimit → (∀ b o, base.get? b = some o → h.get? b = some o) →
    h.get? e = some (PySem.HandSPX.excO C t0) → base.get? e = none →
    (∀ h' tk' dx t1, (∀ b o, b ≠ e → h.get? b = some o → h'.get? b = some o) → h.objs.size ≤ dx → h'.get? e = some { cls := .ref C, dict := some dx, data := .fields #[.ref t1, .none, .none, .none, .bool false, .none] } →
      h'.Ns1 dx (fun y => if y = "value" then some u else none) → R (.ok (.ret .none)) ⟨h', g, d, tk', os⟩) →
    codeAny (model P w) A (.call (.ref fI) ⟨[.ref e, u], []⟩) R ⟨h, g, d, t, os⟩
section
variable {X : Cx} {G : Gc} {x : Str} {C D fI : Addr} {p pos pos' : Pos} {e : Expr} {ta : TA}
theorem pmk_err (RC : RootC X.prog X.w X.K X.mg X.base fI D) (T : ErC X.K C D) (iC : PySem.W.findIn X.K (.ref C) "__init__" = some (some (.ref fI))) (tI : PySem.W.typeIn X.K (.ref fI) = some (.type "function"))
    (hr : Room 1 X.A) (hg : Gl X x) (hm : X.mg x = some (.ref C)) (ha : PA X [e] ta)
    (hdb : (x == ("__debug__" : Str)) = false := by decide) (he : starEach [e] X.env = (false, eval e X.env) :: starEach [] X.env := by rfl) (hpl : (backTo pos (starEach [] X.env)).any (·.1) = false := by rfl) :
    PMk X (.Call (.Name x p) [e] [] pos) (fun σ H Q => ta σ H fun vs H1 => ∃ v, vs = [v] ∧ ∀ dx, H1 dx = none → Q (.ref C) (some dx) (upd H1 dx (.xd [("value", v)]))) := by
  intro pins s σ H Q I h
  obtain ⟨nm, q, N, bs, bm, sn, sub, ab, col, dd, k0, k1, k2, k3, k5, hC, hbm⟩ := T.ex.cls
  refine wpAny_Call_Name_kw (ld_glob I hg hm ?_ hdb)
  refine PySem.W.callWith_K (h₀ := X.base) I.ok.mod.kin T.ex.kC (thn (ha.run pos pins s σ H _ I h) fun us s1 ⟨vs, H1, I1, r1, v, ev, q1⟩ => ⟨I1.kIn, ?_⟩) he hpl
  show wpAny _ _ (call (.ref C) us) _ _ _
  subst ev
  obtain ⟨u, ru, rfl⟩ : ∃ u, RelV v u ∧ us = [u] := by
    cases r1 with
    | cons a r => cases r; exact ⟨_, a, rfl⟩
  obtain ⟨hp, g, dr, tk, os⟩ := s1
  have kk : ∀ b o, hp.get? b = some o → ((hp.push (PySem.W.kdv_tup [u])).push (PySem.HandSPX.excO C hp.objs.size)).get? b = some o := fun b o e => Heap.get?_push_of_some _ (Heap.get?_push_of_some _ e)
  have hget : ((hp.push (PySem.W.kdv_tup [u])).push (PySem.HandSPX.excO C hp.objs.size)).get? (hp.objs.size + 1) = some (PySem.HandSPX.excO C hp.objs.size) := by heap_get
  have hbn : X.base.get? (hp.objs.size + 1) = none := by
    cases z : X.base.get? (hp.objs.size + 1) with
    | none => rfl
    | some o => exact absurd (Heap.lt_size (I1.bk _ _ z)) (by simp)
  refine wpAny_call (PySem.HandSPX.call_own F.excBase_ValueError (fun Y => PySem.HandSPX.refsVE_contains Y bm hbm) (I1.kIn _ _ hC) (PySem.W.looks_findIn I1.kIn iC) (fun self => PySem.W.bind_fn I1.kIn self tI) (show 1 ≤ sizeLine by rw [sizeLine_eq]; omega)
    (RC _ _ _ _ _ _ _ C _ _ u I1.mod T (Room.depth (hr.make C [u] [])) (fun b o z => kk b o (I1.bk b o z)) hget hbn fun h2 tk2 dx t1 k hsz hx hn => ⟨rfl, ?_⟩))
  have hsz2 : hp.objs.size + 2 ≤ dx := by
    rw [Heap.size_push, Heap.size_push] at hsz
    exact hsz
  obtain ⟨F, g1', g2'⟩ := restrict h2 fun b => decide (b ≠ hp.objs.size + 1)
  have gk : ∀ b, b ≠ hp.objs.size + 1 → F.get? b = h2.get? b := fun b hb => g1' b (decide_eq_true hb)
  have ge : F.get? (hp.objs.size + 1) = none := g2' _ (by simp)
  have nha : ∀ {b : Addr} {o : Obj}, hp.get? b = some o → b ≠ hp.objs.size + 1 := fun {b o} z q => by
    exact absurd (Heap.lt_size z) (by rw [q]; exact Nat.not_lt.mpr (Nat.le_succ _))
  have kF : ∀ b o, hp.get? b = some o → F.get? b = some o := fun b o z => by
    rw [gk b (nha z)]
    exact k b o (nha z) (kk b o z)
  have hnF : F.Ns1 dx (fun y => if y = "value" then some u else none) := hn.at fun o y => (gk dx (by omega)).trans y
  have hd1 : H1 dx = none := I1.hok.fresh (show hp.objs.size ≤ dx by omega)
  have ha1 : H1 (hp.objs.size + 1) = none := I1.hok.fresh (show hp.objs.size ≤ hp.objs.size + 1 by omega)
  have hnx : dx ≠ hp.objs.size + 1 := by omega
  have J : Inv X pins σ (upd H1 dx (.xd [("value", v)])) ⟨F, g, dr, tk2, os⟩ := I1.laid (t' := tk2) (a := dx) (o := .xd [("value", v)]) (h' := F) kF (show hp.objs.size ≤ dx by omega)
    ⟨_, hnF, relO_put (fs := []) ru fun g => True.intro⟩
  exact ⟨hp.objs.size + 1, _, _, ⟨F, g, dr, tk2, os⟩, _, .ref C, some dx, rfl, J, fun b o z => (by
    by_cases hb : b = hp.objs.size + 1
    · rw [hb, ge] at z; cases z
    · exact (gk b hb).symm.trans z), ge, hx, ⟨rfl, rfl⟩, rfl, rfl, by rw [upd_ne (Ne.symm hnx)]; exact ha1, rfl, I1.bare, raises_own T.ex.exC T.ex.tyC, q1 dx hd1⟩
/-- raise C(e) -/
def kOne (es : List EV) (S : Store) : R DL.D := match pub es S with
  | some ([d], S2) => .ok d S2
  | _ => .bad
def fOne (c : Nat) (ρ : Env) : R DL.D → Fl
  | .ok d S => .exc c d ρ S
  | .exc c d S => .exc c d ρ S
  | .bad => .bad
def mRaise (c : Nat) (m : MA) : MS := fun ρ S => fOne c ρ ((m ρ S).bind kOne)
/-- the class x of the number c is an error class -/
structure ErX (X : Cx) (G : Gc) (x : Str) (c : Nat) : Prop where
  ex : ∃ fI D, RootC X.prog X.w X.K X.mg X.base fI D ∧ ErC X.K (G.cls c) D ∧ PySem.W.findIn X.K (.ref (G.cls c)) "__init__" = some (some (.ref fI)) ∧ PySem.W.typeIn X.K (.ref fI) = some (.type "function")
  mg : X.mg x = some (.ref (G.cls c))
theorem xs_raise {m : MA} {c : Nat} (hc : X.calm = true) (E : ErX X G x c) (hr : Room 1 X.A) (hg : Gl X x) (h : XA X G [e] m)
    (hdb : (x == ("__debug__" : Str)) = false := by decide) (he : starEach [e] X.env = (false, eval e X.env) :: starEach [] X.env := by rfl) (hpl : (backTo pos (starEach [] X.env)).any (·.1) = false := by rfl) :
    XS X G (.Raise (some (.Call (.Name x p) [e] [] pos)) none pos') (mRaise c m) := by
  obtain ⟨fI, D, RC, T, iC, tI⟩ := E.ex
  refine ⟨fun W t => PS.imp (ps_raise hc t (pmk_err RC T iC tI hr hg E.mg (h.run W t) hdb he hpl)) fun D σ H ⟨α0, H0, α, ρ, S, s, g⟩ => ?_⟩
  refine tOfA_mono (stepA (F := fun z => Gf G W α0 H0 D (fOne c ρ z)) (ma := m) (k := kOne) s.mid (fun c' d' S2 α2 H2 dd v g m h1 h2 => g α2 σ H2 dd v (s.step m) h1 h2) (fun g => g) g) fun xs H2 ⟨α2, S2, es1, p2, m2, r2, g2⟩ => ?_
  unfold kOne at g2
  cases hp : pub es1 S2 with
  | none => simp only [hp] at g2; exact g2.elim
  | some z =>
    obtain ⟨ds, S3⟩ := z
    rcases ds with _ | ⟨d, _ | ⟨d2, r⟩⟩
    · simp only [hp] at g2; exact g2.elim
    · simp only [hp] at g2
      obtain ⟨α3, pre, m3, v, vr, rfl, r3, rfl⟩ := pub_ok m2 r2 hp
      refine ⟨v, rfl, fun dx hn => ?_⟩
      exact g2 α3 σ _ dx v (s.step (m3.laid hn)) (by rw [upd_same]) (r3.kept m3.rs.adm (Post.laid hn))
    · simp only [hp] at g2; exact g2.elim
end
end DL

set_option Elab.async false
set_option autoImplicit false
set_option linter.all false
set_option maxRecDepth 100000
set_option maxHeartbeats 2000000
namespace DL
open PySem PySem.Spec PyProof.Rows L2
/-! ## an exception is caught and kept -/
section
variable {X : Cx} {pins : List (Addr × Obj)} {σ : L2.St} {H : Hp} {s : Shared} {a : Addr} {oe : Obj} {cls : Value} {d : Option Addr}
/-- a pinned exception's object becomes a thing that is told of -/
theorem Inv.adopt (I : Inv X ((a, oe) :: pins) σ H s) (hn : X.s_0.heap.get? a = none) (hz : Zc cls d oe) (hv : ∃ vs, oe.data = .fields vs) (hp : ∀ p ∈ X.pn ++ pins, p.1 ≠ a) : Inv X pins σ (upd H a (XcO cls d a)) s := by
  obtain ⟨vs, hv⟩ := hv
  obtain ⟨p1, p2, p3, p4, p5⟩ := I.pin (a, oe) (by simp)
  have p1 : s.heap.get? a = some oe := p1
  have p2 : H a = none := p2
  have ne : ∀ {b o}, H b = some o → b ≠ a := fun e => ne_of_none e p2
  have n0 : ∀ {b o}, X.s_0.heap.get? b = some o → b ≠ a := fun e z => by rw [z, hn] at e; cases e
  have at_ : ∀ {b o}, H b = some o → upd H a (XcO cls d a) b = some o := fun e => by rw [upd_ne (ne e)]; exact e
  refine ⟨I.ok, I.os, I.bare, ⟨I.base.keep, I.base.slot, fun b o e n x => by rw [upd_ne (n0 e)]; exact I.base.free b o e n x, I.base.there, fun b xs e => at_ (I.base.tups b xs e), fun b o u e => at_ (I.base.frzs b o u e),
    fun b ps e => let ⟨m, q⟩ := I.base.tbls b ps e; ⟨m, at_ q⟩⟩, I.loc, I.cell, by rw [upd_ne (fun z => p3 z.symm)]; exact I.free, fun x c e => ?_, fun p hm => ?_, fun b o e => ?_, I.len⟩
  · rw [upd_ne (fun z => ?_)]
    · exact I.freeC x c e
    · obtain ⟨v, o, ho, hd⟩ := I.cell x c e
      rw [z, p1] at ho
      cases ho
      exact p5 v hd
  · obtain ⟨q1, q2, q3, q4, q5⟩ := I.pin p (by
      rcases List.mem_append.mp hm with h | h
      · exact List.mem_append_left _ h
      · exact List.mem_append_right _ (List.mem_cons_of_mem _ h))
    exact ⟨q1, by rw [upd_ne (hp p hm)]; exact q2, q3, q4, q5⟩
  · by_cases hb : b = a
    · rw [hb, upd_same] at e
      cases e
      rw [hb]
      exact ⟨⟨oe, vs, p1, hz, hv⟩, ⟨oe, p1⟩, fun _ _ ⟨o, v, q, r⟩ k => ⟨o, v, k o q, r⟩⟩
    · rw [upd_ne hb] at e
      exact (I.hok b o e).stay (fun c u _ q => q) (fun c q => at_ q) fun c xs q => at_ q
theorem Inv.offS {q : Addr × Obj} {pn' : List (Addr × Obj)} (I : Inv (X.suite a (q :: (X.pn ++ pins))) pn' σ H s) (ok : X.Ok) : Inv X (q :: pins) σ H s :=
  ⟨ok, I.os, I.bare, I.base, I.loc, I.cell, I.free, I.freeC, fun p hp => I.pin p (by
    rcases List.mem_append.mp hp with h | h
    · exact List.mem_append_left _ (List.mem_cons_of_mem _ (List.mem_append_left _ h))
    · rcases List.mem_cons.mp h with h | h
      · rw [h]; exact List.mem_append_left _ List.mem_cons_self
      · exact List.mem_append_left _ (List.mem_cons_of_mem _ (List.mem_append_right _ h))), I.hok, I.len⟩
end
/-- what 'except x as n', slot i, wishes of an exception, its object being told of behind the suite -/
def wKeep (K : PySem.W.Frag) (c : Value) (i : Nat) (ts : Addr → TS) (D : Ends) : WX := fun cls d σ H =>
  PySem.W.exmOne K cls c = some true ∧ ∀ a, H a = none → ts a { nx := fun σ' H' => D.nx (σ'.set i none) (upd H' a (XcO cls d a)), rt := fun _ _ => False, bk := fun _ _ => False, ct := fun _ _ => False } (σ.set i (some (.ref a))) H
section
variable {X : Cx} {x n : Str} {c : Value} {i : Nat} {body suite : List Stmt} {b₀ : Stmt} {np pos pos' : Pos} {tb : WX → TS} {ts : Addr → TS}
theorem ps_try_keep (hex : X.ex = []) (hs : X.stack = X.env :: X.outer) (hf : X.env.frame = some X.env.locals) (hN : X.N.Nodup) (hi : X.N[i]? = some n) (hln : X.env.kindOf n = some .local) (hc : Names X x c)
    (hb : ∀ (W : WX) (pn : List (Addr × Obj)) (xe : Value → Shared → Prop), Takes (X.tr pn xe) W → PSs (X.tr pn xe) body (tb W))
    (hsu : ∀ (a : Addr) (oe : Obj) (pn : List (Addr × Obj)), PSs (X.suite a ((a, oe) :: pn)) (b₀ :: suite) (ts a)) :
    PS X (.Try body [.ExceptHandler (some (.Name x np)) (some n) (b₀ :: suite) pos'] [] [] pos) (fun D σ H => tb (wKeep X.K c i ts D) D σ H) := by
  refine ⟨fun pins s σ H D I h => ?_⟩
  have ok := I.ok
  have fr : X.A.frames = some (X.env :: X.outer) := by rw [ok.frames, hs]
  refine wpAny_Try_except (wpAny_mono ((hb (wKeep X.K c i ts D) (X.pn ++ pins) (fun e s₁ => wpAny (model X.prog X.w) X.A (noteFrame e X.env) (fun _ s₂ => wpAny (model X.prog X.w) X.A (setFlight e none) (fun _ s₃ =>
    wpAny (model X.prog X.w) X.A (handleBy e X.env [.ExceptHandler (some (.Name x np)) (some n) (b₀ :: suite) pos']) (SP X pins D) X.xe s₃) X.xe s₂) X.xe s₁) ?_).run [] s σ H D (I.toTry _) h) ?_ fun e s1 he => he)
  · rintro u s' ⟨a, B, sI, pins', σ', H', cls, d, rfl, J', nb, up, sky, na, os, ag, hb1, hyes⟩
    have J : Inv X pins σ' H' sI := J'.ofTry ok
    rw [show (X.tr (X.pn ++ pins) _).stack = X.env :: X.outer from hs] at sky
    show wpAny (model X.prog X.w) X.A (noteFrame (.ref a) X.env) _ _ _
    refine Sky.land Zc.steady fr hf sky fun h3 fl3 up3 => ?_
    have J3 : Inv X pins σ' H' { s' with heap := h3 } := J.landed nb fl3.1 (up.trans up3) os ag
    obtain ⟨oe3, vs3, he3, hz3, hd3⟩ := fl3.there
    have nfr : a ∉ frs (X.env :: X.outer) := fun hm => by
      obtain ⟨_, o', e', hnf⟩ := fl3.2.2.1.mem hm
      rw [he3] at e'; cases e'
      exact hnf _ hd3
    have nL : a ≠ X.env.locals := fun z => nfr (List.mem_filterMap.mpr ⟨X.env, by simp, by rw [hf, z]⟩)
    have nF : a ∉ X.fs := fun hm => let ⟨e, he, q⟩ := List.mem_filterMap.mp hm; nfr (List.mem_filterMap.mpr ⟨e, by simp [he], q⟩)
    have S3 := J3.suite he3 hd3 na nL nF
    have nI : sI.heap.get? a = none := by
      cases z : sI.heap.get? a with
      | none => rfl
      | some o =>
        have q := nb a o z (by rw [show (X.tr (X.pn ++ pins) _).stack = X.env :: X.outer from hs]; exact nfr)
        rw [fl3.2.1] at q
        cases q
    have n0 : X.s_0.heap.get? a = none := by
      cases z : X.s_0.heap.get? a with
      | none => rfl
      | some o =>
        obtain ⟨o', q⟩ := J.base.there a o z (by rw [hex]; simp)
        rw [nI] at q; cases q
    have npn : ∀ p ∈ X.pn ++ pins, p.1 ≠ a := fun p hp z => by
      have q := (J.pin p hp).1
      rw [z, nI] at q; cases q
    refine wpAny_handleBy_cons (codeAny_handlers_test ?_) (by intro q; cases q)
    have LT : PySem.W.Looks (model X.prog X.w) h3 (typeOf (.ref a)) cls := fun A Q E s k q => wpAny_typeOf_ref (k _ _ he3) (by rw [hz3.1]; exact q)
    have test : ∀ {Q : Value → Shared → Prop} {E : Value → Shared → Prop}, Q c { s' with heap := h3 } → wpAny (model X.prog X.w) (X.A.mark (some (.ref a))) (eval (.Name x np) X.env) Q E { s' with heap := h3 } := fun {Q E} q => by
      obtain ⟨hg, hdb, hm | ⟨hm, hv, hnn⟩⟩ := hc
      · exact ld_glob (X := X.suite a ((a, oe3) :: (X.pn ++ pins))) S3 hg hm q hdb
      · exact ld_blt (X := X.suite a ((a, oe3) :: (X.pn ++ pins))) S3 hg hm hv q hnn hdb
    refine test ((PySem.W.exm_one (M := model X.prog X.w) J3.kIn LT hb1).here (codeAny_handlers_suite_as ?_))
    refine HandSPX.lands_againZ fl3 fun h4 fl4 up4 => ?_
    obtain ⟨oe4, vs4, he4, hz4, hd4⟩ := fl4.there
    have S4 := (J.landed nb fl4.1 ((up.trans up3).trans up4) os ag : Inv X pins σ' H' { s' with heap := h4 }).suite he4 hd4 na nL nF
    refine store_ok (X := X.suite a ((a, oe4) :: (X.pn ++ pins))) (v := .ref a) S4 hN hi (.inl hln) rfl (fun s5 S5 => ?_) (.inr hln)
    refine wpAny_mono ((hsu a oe4 (X.pn ++ pins)).run [] s5 _ H' _ S5 (hyes a na)) (fun f s6 hsp => ?_) (fun _ _ z => False.elim z)
    cases f with
    | next =>
      obtain ⟨σ6, H6, S6, q6⟩ := hsp
      exact gone_ok (DL.Inv.offS S6 ok) hN hi hln fun s7 J7 => ⟨_, _, DL.Inv.adopt J7 n0 hz4 ⟨_, hd4⟩ npn, q6⟩
    | brk => obtain ⟨σ6, H6, S6, q6⟩ := hsp; exact q6.elim
    | cont => obtain ⟨σ6, H6, S6, q6⟩ := hsp; exact q6.elim
    | ret u => obtain ⟨v6, σ6, H6, S6, r6, q6⟩ := hsp; exact q6.elim
  · rintro f s1 hsp
    cases f with
    | next => obtain ⟨σ', H', J', q⟩ := hsp; exact wpAny_execs_nil ⟨σ', H', J'.ofTry ok, q⟩
    | brk => obtain ⟨σ', H', J', q⟩ := hsp; exact ⟨σ', H', J'.ofTry ok, q⟩
    | cont => obtain ⟨σ', H', J', q⟩ := hsp; exact ⟨σ', H', J'.ofTry ok, q⟩
    | ret u => obtain ⟨v, σ', H', J', r, q⟩ := hsp; exact ⟨v, σ', H', J'.ofTry ok, r, q⟩
end
end DL

set_option Elab.async false
set_option autoImplicit false
set_option linter.all false
set_option maxRecDepth 100000
set_option maxHeartbeats 2000000
namespace DL
open PySem PySem.Spec PyProof.Rows L2
/-! ## a call that is heard -/
section
variable {X : Cx} {pins : List (Addr × Obj)} {σ : L2.St} {H : Hp} {s : Shared}
/-- f(), f the lambda made at s in X; the reading is told of the wish at that very state -/
theorem pe_actS {CXg : CXT} {Eg : XK} {Ng : List Str} {qg : Str} {sg : Scope} {g f c' : Addr} {cdg pm ctv : Value} {params : Arguments} {body : Expr} {scope : Scope} {k i : Nat} {a : Str} {pn : List (Addr × Obj)} {xe : Value → Shared → Prop} {W : WX} {tb : XK → TE} {p1 p2 : Pos}
    (I : Inv X pins σ H s) (L : LamX.LamS X.env.scope scope) (hf : s.heap.get? f = some (PySem.W.kla_obj "<lambda>" (X.env.qual ++ "<lambda>") params body scope (cloFrom X.env.cells scope.names []) pm c' ctv)) (hfn : H f = none) (hfr : f ∉ frs X.stack)
    (hbind : bindArgs (PySem.W.kla_fn "<lambda>" (X.env.qual ++ "<lambda>") params body scope (cloFrom X.env.cells scope.names []) pm (.ref c') ctv) ⟨[], []⟩ = pure [])
    (tk : Takes ((cxOf CXg X.prog X.w X.K X.mg X.base Ng qg sg g cdg X.A X.stack s H Eg).tr pn xe) W) (hr : Room (k + 1) (X.A.deeper (envOfC qg sg s.heap.objs.size g cdg)))
    (hbody : ∀ (E : XK) (A : Around) (outer : List PySem.Env) (s : Shared) (H : Hp), Room k (A.deeper (LamX.lamEnv X scope s.heap.objs.size f c')) → PE (LamX.lamCx X A outer s H E scope f c') body (tb E))
    (hN : Ng[i]? = some a) (hv : Vis sg a) (hd : (a == ("__debug__" : Str)) = false := by decide) (hcd : (a == ("__classdict__" : Str)) = false := by decide) :
    PE ((cxOf CXg X.prog X.w X.K X.mg X.base Ng qg sg g cdg X.A X.stack s H Eg).tr pn xe) (.Call (.Name a p1) [] [] p2)
      (fun σZ HZ Q => σZ[i]? = some (some (.ref f)) ∧ HZ c' = some (LamX.CodeO c' (X.env.qual ++ "<lambda>")) ∧ tb (WE W σZ) σ HZ Q) := by
  refine ⟨fun qs sZ σZ HZ Q IZ ⟨hs, hc, ht⟩ => wpAny_Call_Name_kw (thn ((pe_var (pos := p1) (i := i) hN hv hd hcd).run qs sZ σZ HZ (fun v H1 => v = .ref f ∧ H1 = HZ) IZ ⟨.ref f, hs, rfl, rfl⟩) fun u s1 ⟨v, H1, I1, r1, e1, e2⟩ => ?_)⟩
  subst e1 e2
  cases r1
  have ho : s1.heap.get? f = some _ := I1.base.keep f _ hf hfn hfr (fun z => nomatch (show f ∈ ([] : List Addr) from z))
  refine PySem.W.callWith_F0 ⟨_, _, _, _, ho⟩ ?_
  obtain ⟨⟨oc, vs, t, q1, q2, q3⟩, _, _⟩ := I1.hok c' _ hc
  refine wpAny_call (codeAny_mono (R := CR (L2.CX X.prog X.w) (envOfC qg sg s.heap.objs.size g cdg :: X.stack) X.prog X.w H1 s1 Q (WE W σZ)) ?_ fun r s' hq => ?_)
  · refine PySem.W.kla_callFunE hr.depth ho rfl L.co L.gen rfl ⟨c', oc, vs, t, rfl, q1, q2, q3⟩ ?_
    refine wpAny_of_eq (a := []) hbind (wpAny_newFunctionEnv (fun y hy => (L.own y hy).2) (fun y hy => absurd hy (by simp)) (fun h₁ hns hsb => ⟨I1.nolimit.fresh _ hsb, ?_⟩) L.kind)
    show codeAny _ _ (.expr body (LamX.lamEnv X scope s1.heap.objs.size f c')) _ _
    have J := LamX.lam_start2 (E := WE W σZ) (f := f) (c' := c') (tk := s1.toks + ([] : List (Str × Value)).length) I L I1.env0 hr.hd I1.base hns fun b o e => hsb.extBut b o (Nat.ne_of_lt (Heap.lt_size e)) (Heap.get?_push_of_some _ e)
    exact PySem.W.kla_codeExpr (wpAny_mono ((hbody (WE W σZ) _ _ s1 H1 (hr.deeper _)).run [] _ _ H1 Q J ht) (fun v s' ⟨w', H', J', rv, q⟩ => ⟨w', H', J'.os, J'.bare, J'.base, J'.hok, rv, q⟩) fun e s' hq => hq)
  · cases r with
    | error e => exact passAt tk σZ qs H1 s1 e s' I1 hq
    | ok fl =>
      cases fl with
      | ret u => exact I1.after hq
      | _ => exact False.elim hq
end
/-- what stays where a lambda is made -/
def ExtT (H H' : Hp) : Prop := (∀ b o, H b = some o → (∀ ps, o ≠ .tbl ps) → H' b = some o) ∧ ∀ b, H b ≠ none → H' b ≠ none
section
variable {X : Cx} {pins : List (Addr × Obj)} {σ : L2.St} {H : Hp} {s : Shared}
theorem lam_mk {T : List (Addr × Str)} {c P : Addr} {params : Arguments} {body : Expr} {scope : Scope} {pos : Pos} {E : Value → Shared → Prop} {Q : Value → Shared → Prop} (I : Inv X pins σ H s) (TB : LamX.TabB X.base X.mg c P) (hcode : X.env.code = .ref c)
    (hm : (P, X.env.qual ++ "<lambda>") ∈ T) (hu : ∀ p ∈ T, p.1 = P → p.2 = X.env.qual ++ "<lambda>") (hT : LamX.Tabs T H) (hdef : defaultsOf params X.env = ([], [])) (hfree : ∀ y ∈ scope.names, y.2 = .free → ∃ c, X.env.cells.lookup y.1 = some c)
    (h : ∀ (f c' : Addr) (pm ctv : Value) (H1 : Hp) (s' : Shared), Inv X pins σ H1 s' → ExtT H H1 → LamX.Tabs T H1 →
      s'.heap.get? f = some (PySem.W.kla_obj "<lambda>" (X.env.qual ++ "<lambda>") params body scope (cloFrom X.env.cells scope.names []) pm c' ctv) → H1 f = none → f ∉ frs X.stack → H1 c' = some (LamX.CodeO c' (X.env.qual ++ "<lambda>")) → Q (.ref f) s') :
    wpAny (model X.prog X.w) X.A (eval (.Lambda params body scope pos) X.env) Q E s := by
  obtain ⟨ps, hP, ht, ha⟩ := hT _ hm
  have bP := TB.bm.keeps I.bk
  have lP : s.heap.get? P = some { cls := .none, data := .fields ps } := I.hok P _ hP
  have nofr : ∀ f, s.heap.objs.size ≤ f → f ∉ frs X.stack := fun f hf z => (List.mem_cons.mp (I.stkSub _ z)).elim (fun e => by
    have h1 := I.lt
    rw [← e] at h1
    exact absurd h1 (Nat.not_lt.mpr hf)) (I.nofs hf)
  refine PySem.W.kla_eval hdef ?_
  cases hc : codeAmong pos ps.toList with
  | some cv =>
    obtain ⟨c', rfl, hco⟩ := ha pos cv hc
    refine PySem.W.kla_makeFunctionHit (mg := X.mg) (c := c) (P := P) (ps := ps) (closure_ok hfree) I.ok.glob (I.mod.glob.keeps I.bk) hcode (TB.code.keeps I.bk) lP ht hc bP fun ctv h' tk hx hsz => ?_
    exact h h'.objs.size c' ((X.mg "__name__").getD .none) ctv H _ (I.kept (t' := tk) fun b o e => Heap.get?_push_of_some _ (hx b o e)) ⟨fun _ _ e _ => e, fun _ e => e⟩ hT (Heap.get?_push_size _ rfl) (I.hok.fresh hsz) (nofr _ hsz) hco
  | none =>
    refine PySem.W.kla_makeFunction (mg := X.mg) (c := c) (P := P) (ps := ps) (closure_ok hfree) I.ok.glob (I.mod.glob.keeps I.bk) hcode (TB.code.keeps I.bk) lP ht hc TB.gP bP fun c' ctv h' tk hx hge hlt ⟨c2, oc, vs, t, e2, hoc, hd, hv⟩ htb => ?_
    cases e2
    have nC : H c' = none := I.hok.fresh hge
    have nPc : P ≠ c' := ne_of_none hP nC
    have hsz : s.heap.objs.size ≤ h'.objs.size := Nat.le_trans hge (Nat.le_of_lt hlt)
    have eE : ExtT H (upd (upd H P (.tbl (ps ++ #[rawInt pos.line, rawInt pos.col, .ref c']))) c' (LamX.CodeO c' (X.env.qual ++ "<lambda>"))) := by
      refine ⟨fun b o e n => ?_, fun b e z => ?_⟩
      · rw [upd_ne (ne_of_none e nC), upd_ne (fun z => n ps (Option.some.inj (e.symm.trans (by rw [z]; exact hP))))]
        exact e
      · by_cases hb : b = c'
        · rw [hb] at e; exact e nC
        · rw [upd_ne hb] at z
          by_cases hp : b = P
          · rw [hp, upd_same] at z; cases z
          · rw [upd_ne hp] at z; exact e z
    refine h h'.objs.size c' ((X.mg "__name__").getD .none) ctv _ _ (LamX.inv_table (t' := tk) (more := #[rawInt pos.line, rawInt pos.col, .ref c']) (h' := h'.push (PySem.W.kla_obj "<lambda>" (X.env.qual ++ "<lambda>") params body scope (cloFrom X.env.cells scope.names []) ((X.mg "__name__").getD .none) c' ctv)) I hP
      (fun b o hb e => Heap.get?_push_of_some _ (hx b o hb e)) (Heap.get?_push_of_some _ htb) hge ⟨oc, vs, t, Heap.get?_push_of_some _ hoc, hd, hv⟩) eE (fun p hp => ?_) (Heap.get?_push_size _ rfl) ?_ (nofr _ hsz) upd_same
    · by_cases hb : p.1 = P
      · rw [hu p hp hb, hb]
        refine ⟨_, by rw [upd_ne nPc, upd_same], by rw [Array.toList_append]; exact PySem.TriplesOk_snoc _ _ _ _ ht, fun p' cv hcv => ?_⟩
        rw [Array.toList_append] at hcv
        rcases LamX.among_app _ ht hcv with z | z
        · obtain ⟨c0, e1, e2⟩ := ha p' cv z
          exact ⟨c0, e1, eE.1 _ _ e2 LamX.codeO_ne⟩
        · exact ⟨c', z, upd_same⟩
      · obtain ⟨ps', a1, a2, a3⟩ := hT p hp
        refine ⟨ps', by rw [upd_ne (ne_of_none a1 nC), upd_ne hb]; exact a1, a2, fun p' cv hcv => ?_⟩
        obtain ⟨c0, e1, e2⟩ := a3 p' cv hcv
        exact ⟨c0, e1, eE.1 _ _ e2 LamX.codeO_ne⟩
    · rw [upd_ne (Nat.ne_of_gt hlt), upd_ne (Nat.ne_of_gt (Nat.lt_of_lt_of_le (Heap.lt_size lP) hsz))]
      exact I.hok.fresh hsz
end
def tLamT (T : List (Addr × Str)) (TT : (XK → Hp → VK → Prop) → Hp → VK → Prop) (t : XK → TE) : TE := fun σ H Q => LamX.Tabs T H ∧ ∀ H1, ExtT H H1 → LamX.Tabs T H1 → TT (fun E H' Q' => t E σ H' Q') H1 Q
/-- like GivesTo, told of the state at the call -/
def HearsTo (X : Cx) (Ng : List Str) (x : Str) (sg : Scope) (g : Addr) (cdg : Value) (bg : List Stmt) (a q : Str) (TT : (XK → Hp → VK → Prop) → Hp → VK → Prop) : Prop :=
  ∀ (f c' : Addr) (s : Shared) (H : Hp) (Q : VK) (tl : XK → Hp → VK → Prop), (∀ E E' H Q Q', (∀ c d H, E c d H → E' c d H) → (∀ x H, Q x H → Q' x H) → tl E H Q → tl E' H Q') →
    (∀ (W : WX) (pn : List (Addr × Obj)) (xe : Value → Shared → Prop) (p1 p2 : Pos), Takes ((cxOf C8.CX0 X.prog X.w X.K X.mg X.base Ng x sg g cdg X.A X.stack s H C8.E0).tr pn xe) W →
      PE ((cxOf C8.CX0 X.prog X.w X.K X.mg X.base Ng x sg g cdg X.A X.stack s H C8.E0).tr pn xe) (.Call (.Name a p1) [] [] p2) (fun σZ HZ Q => σZ[0]? = some (some (.ref f)) ∧ HZ c' = some (LamX.CodeO c' q) ∧ tl (WE W σZ) HZ Q)) →
    H c' = some (LamX.CodeO c' q) → TT tl H Q →
    ∃ t, PSs (cxOf C8.CX0 X.prog X.w X.K X.mg X.base Ng x sg g cdg X.A X.stack s H C8.E0).nox bg t ∧ t { nx := fun _ H' => Q .non H', rt := Q } (L2.start Ng [.ref f]) H
section
variable {X : Cx}
theorem pe_hear {T : List (Addr × Str)} {TT : (XK → Hp → VK → Prop) → Hp → VK → Prop} {x a : Str} {g c P : Addr} {k : Nat} {pg : Arguments} {bg : List Stmt} {sg : Scope} {dV kV doc pm cdv ct oc : Value} {an od : Option Addr} {osl : Array (Option Value)} {Ng : List Str}
    {params : Arguments} {body : Expr} {scope : Scope} {t : XK → TE} {p lpos pos : Pos} (hg : Gl X x) (hm : X.mg x = some (.ref g)) (hk : PySem.W.keepIn X.K (.ref g) = true)
    (lk : X.K.lookup g = some ⟨oc, od, .func (PySem.W.fnOf x x pg bg sg dV kV doc pm an cdv ct), osl⟩) (hcg : PySem.W.codeIn X.K cdv x = true) (hb : L2.Binds X.K (PySem.W.fnOf x x pg bg sg dV kV doc pm an cdv ct) [a] []) (Sg : FnScope Ng [a] sg) (hNg : Ng[0]? = some a) (hva : Vis sg a)
    (hG : HearsTo X Ng x sg g cdv bg a (X.env.qual ++ "<lambda>") TT)
    (TB : LamX.TabB X.base X.mg c P) (hcode : X.env.code = .ref c) (hmT : (P, X.env.qual ++ "<lambda>") ∈ T) (hu : ∀ p ∈ T, p.1 = P → p.2 = X.env.qual ++ "<lambda>") (hr : Room (k + 2) X.A) (L : LamX.LamS X.env.scope scope) (hdef : defaultsOf params X.env = ([], []))
    (hbind : ∀ (q : Str) (cl : List (Str × Addr)) (pm cv ctv : Value), bindArgs (PySem.W.kla_fn "<lambda>" q params body scope cl pm cv ctv) ⟨[], []⟩ = pure [])
    (hmono : ∀ E E' σ H Q Q', (∀ c d H, E c d H → E' c d H) → (∀ x H, Q x H → Q' x H) → t E σ H Q → t E' σ H Q')
    (hbody : ∀ (A : Around) (outer : List PySem.Env) (s : Shared) (H : Hp) (E : XK) (f c' : Addr), Room k (A.deeper (LamX.lamEnv X scope s.heap.objs.size f c')) → PE (LamX.lamCx X A outer s H E scope f c') body (t E))
    (hdb : (x == ("__debug__" : Str)) = false := by decide) (hd : (a == ("__debug__" : Str)) = false := by decide) (hcd : (a == ("__classdict__" : Str)) = false := by decide) :
    PE X (.Call (.Name x p) [.Lambda params body scope lpos] [] pos) (tLamT T TT t) := by
  refine ⟨fun pins s σ H Q I ⟨hT, h⟩ => wpAny_Call_Name_kw (ld_glob I hg hm (PySem.W.callWith_K (h₀ := X.base) I.ok.mod.kin hk ?_ (by rfl) (by rfl)) hdb)⟩
  show wpAny _ _ (spliced ((false, eval (.Lambda params body scope lpos) X.env) :: backTo pos (starEach [] X.env))) _ _ s
  refine Calls.spliced_cons (lam_mk I TB hcode hmT hu hT hdef (L.has I.ok) fun f c' pm' ctv H1 s' I1 eN T1 hf hfn hfr hco => Calls.spliced_nil ⟨I1.kIn, ?_⟩)
  refine wpAny_call (codeAny_mono (LamX.run_ofS (CX := C8.CX0) (N := Ng) (ps := [a]) (us := [.ref f]) (vs := [.ref f]) (Q := Q) (E := C8.E0) lk hcg Sg hr I1.env0 (hb s' [.ref f] I1.kIn rfl) (.cons rfl .nil) rfl fun hr' => ?_) fun r s2 hq => ?_)
  · obtain ⟨t', ht', hq'⟩ := hG f c' s' H1 Q (fun E H' Q' => t E σ H' Q') (fun E E' H Q Q' i j h => hmono E E' σ H Q Q' i j h) (fun W pn xe p1 p2 tk => pe_actS (i := 0) I1 L hf hfn hfr (hbind _ _ _ _ _) tk hr' (fun E A outer s H hr2 => hbody A outer s H E f c' hr2) hNg hva hd hcd) hco (h H1 eN T1)
    exact ⟨t', ht'.nox, hq'⟩
  · cases r with
    | error e => exact (show False from hq).elim
    | ok fl =>
      cases fl with
      | ret u => exact I1.after hq
      | _ => exact False.elim hq
end
end DL

set_option Elab.async false
set_option autoImplicit false
set_option linter.all false
set_option maxRecDepth 100000
set_option maxHeartbeats 2000000
namespace DL
open PySem PySem.Spec PyProof.Rows L2
/-- try: gave = a() / except C as error: caught = error; then (caught, gave) -/
def TTh (K : PySem.W.Frag) (CT : Addr) : (XK → Hp → VK → Prop) → Hp → VK → Prop := fun tl H Q =>
  ∀ (p : Addr) (o : Obj), H p = none → o.dict = none → tl (fun cls d H' => PySem.W.exmOne K cls (.ref CT) = some true ∧ ∀ a, H' a = none → NewT [.ref a, .non] (upd H' a (XcO cls d a)) Q) (upd H p (.frz o (.tup [.non, .non]))) fun x H1 => NewT [.non, x] H1 Q
abbrev hearN : List Str := ["call", "caught", "gave", "error"]
abbrev hearB (ct : Str) (k0 k1 k2 : Nat) (j0 j1 : Nat) (q0 q1 q2 q3 q4 q5 q6 q7 q8 q9 q10 q11 q12 q13 q14 q15 q16 q17 q18 q19 q20 : Pos) : List Stmt := [
  .Assign [.Tuple [.Name "caught" q0, .Name "gave" q1] k0 q2] (.Tuple [.Constant .none j0 q3, .Constant .none j1 q4] k1 q5) q6,
  .Try [.Assign [.Name "gave" q7] (.Call (.Name "call" q8) [] [] q9) q10] [.ExceptHandler (some (.Name ct q11)) (some "error") [.Assign [.Name "caught" q12] (.Name "error" q13) q14] q15] [] [] q16,
  .Return (some (.Tuple [.Name "caught" q17, .Name "gave" q18] k2 q19)) q20]
theorem two_line (a b : V) : [a, b].length ≤ sizeLine := by
  show 2 ≤ sizeLine
  rw [sizeLine_eq]; decide
section
variable {X : Cx}
theorem heard_hears {ct x q : Str} {sg : Scope} {g CT : Addr} {cdg : Value} {k0 k1 k2 : Nat} {j0 j1 : Nat} {q0 q1 q2 q3 q4 q5 q6 q7 q8 q9 q10 q11 q12 q13 q14 q15 q16 q17 q18 q19 q20 : Pos}
    (h1 : sg.names.lookup ("call" : Str) = some .local) (h2 : sg.names.lookup ("caught" : Str) = some .local) (h3 : sg.names.lookup ("gave" : Str) = some .local) (h4 : sg.names.lookup ("error" : Str) = some .local)
    (hct : sg.names.lookup ct = some .globalImplicit) (hmt : X.mg ct = some (.ref CT)) (hdt : (ct == ("__debug__" : Str)) = false)
    (hw : ∀ (s : Shared) (A : Around) (H : Hp), swappedStores [.Tuple [.Name "caught" q0, .Name "gave" q1] k0 q2] (.Tuple [.Constant .none j0 q3, .Constant .none j1 q4] k1 q5) (envOfC x sg s.heap.objs.size g cdg) = pure none) :
    HearsTo X hearN x sg g cdg (hearB ct k0 k1 k2 j0 j1 q0 q1 q2 q3 q4 q5 q6 q7 q8 q9 q10 q11 q12 q13 q14 q15 q16 q17 q18 q19 q20) "call" q (TTh X.K CT) := by
  intro f c' s H Q tl mono act hc h
  have nd : hearN.Nodup := by decide
  refine ⟨_, pss_cons (ps_asg (pe_tupX (pa_cons pe_non (pa_cons pe_non pa_nil))) (pg_tup rfl (pgs_cons (pg_name (i := 1) nd rfl (.inl h2)) (pgs_cons (pg_name (i := 2) nd rfl (.inl h3)) pgs_nil))) rfl (hw s X.A H) rfl)
    (pss_cons (ps_try_keep (X := (cxOf C8.CX0 X.prog X.w X.K X.mg X.base hearN x sg g cdg X.A X.stack s H C8.E0).nox) (i := 3) (c := .ref CT)
      (tb := fun W => tAsg (fun σZ HZ Q => σZ[0]? = some (some (.ref f)) ∧ HZ c' = some (LamX.CodeO c' q) ∧ tl (WE W σZ) HZ Q) (gName 2)) (ts := fun _ => tAsg (tVar 3) (gName 1))
      rfl rfl rfl nd rfl h4 ⟨hct, hdt, .inl hmt⟩ (fun W pn xe tk => pss_one (ps_set (i := 2) nd rfl (.inl h3) (act W pn xe q8 q9 tk)))
      (fun a oe pn => pss_one (ps_set (i := 1) nd rfl (.inl h2) (pe_var (i := 3) rfl (.inl h4)))))
      (pss_one (ps_ret (pe_tupX (pa_cons (pe_var (i := 1) rfl (.inl h2)) (pa_cons (pe_var (i := 2) rfl (.inl h3)) pa_nil)))))), ?_⟩
  refine ⟨two_line _ _, fun p o hp hd => ⟨p, _, rfl, .inl (.inr ⟨o, upd_same⟩), rfl, .non, _, rfl, .non, _, rfl, rfl, rfl, by rw [upd_ne (ne_of_none hc hp)]; exact hc, mono _ _ _ _ _ (fun cls d H' z => ?_) (fun y H1 z => ?_) (h p o hp hd)⟩⟩
  · exact ⟨z.1, fun a na => ⟨.ref a, rfl, .ref a, rfl, .non, rfl, two_line _ _, z.2 a na⟩⟩
  · exact ⟨.non, rfl, y, rfl, two_line _ _, z⟩
end
section
variable {G : Gc} {α : List Lc} {H H1 : Hp} {ρ : Env} {σ : L2.St} {S : Store}
theorem ExtT.post (e : ExtT H H1) : Post α H α H1 := ⟨List.prefix_rfl, fun _ h => .inl h, fun b o q _ t => e.1 b o q t, e.2⟩
theorem mut_ntbl {o : HO} (m : mutO o) : ∀ ps, o ≠ .tbl ps := fun ps z => by rw [z] at m; exact m
theorem ExtT.rs (e : ExtT H H1) (t : LamX.Tabs G.tabs H1) (r : RS G α H S) : RS G α H1 S where
  len := r.len
  sep := r.sep
  obj := fun i l o h1 h2 => by
    have q := r.obj i l o h1 h2
    obtain ⟨⟨u, hu, mu⟩, w, hw, mw⟩ := q.adm
    exact q.kept (fun d v z => RD.kept r.adm e.post d v z) (fun v z => e.1 _ _ z (mut_ntbl (by rw [hu] at z; cases z; exact mu))) fun v z => e.1 _ _ z (mut_ntbl (by rw [hw] at z; cases z; exact mw))
  tab := t
theorem ExtT.mid (e : ExtT H H1) (t : LamX.Tabs G.tabs H1) (r : RS G α H S) (l : RL G α H ρ σ) : Mid G α H ρ σ α H1 S := ⟨e.post, e.rs t r, l.kept r.adm e.post, l⟩
end
def mHear (cs : List Nat) (mb : ME) : ME := fun ρ S => match mb ρ S with
  | .ok e S1 => match pub [e] S1 with
    | some ([d], S2) => .ok (.v (.tup [.non, d])) S2
    | _ => .bad
  | .exc c d S1 => if c ∈ cs then .ok (.v (.tup [.exc c d, .non])) S1 else .bad
  | .bad => .bad
section
variable {X : Cx} {G : Gc}
theorem hear_imp {CT : Addr} {cs : List Nat} {mb : ME} (hex : ∀ c ∈ cs, PySem.W.exmOne X.K (.ref (G.cls c)) (.ref CT) = some true) {W : WX} {σ : L2.St} {H : Hp} {Q : VK} (h : tOf G (mHear cs mb) W σ H Q) :
    tLamT G.tabs (TTh X.K CT) (fun E => tOf G mb fun c d _ H => E c d H) σ H Q := by
  obtain ⟨α, ρ, S, rs, rl, g⟩ := h
  refine ⟨rs.tab, fun H1 e t1 p0 o0 hp0 hd0 => ?_⟩
  have m1 := (e.mid t1 rs rl).laid (o := .frz o0 (.tup [.non, .non])) hp0
  refine ⟨α, ρ, S, m1.rs, m1.rl, ?_⟩
  unfold mHear at g
  cases hr : mb ρ S with
  | bad => rw [hr] at g; exact g
  | ok ev S1 =>
    rw [hr] at g
    intro α' H' x m r p o hp hd
    have mm := m1.trans m
    simp only at g
    cases hq : pub [ev] S1 with
    | none => rw [hq] at g; exact g.elim
    | some z =>
      obtain ⟨ds, S2⟩ := z
      rw [hq] at g
      obtain ⟨α2, pre, m2, r2⟩ := pub_ok (es := [ev]) (xs := [x]) mm ⟨x, [], rfl, r.back m1.post, (by intro a _ z; cases z), rfl⟩ hq
      match ds, r2, g with
      | [d], ⟨y, r', e1, q1, q2⟩, g =>
        cases e1
        exact g _ _ _ (m2.laid hp) (RE.newT m2 hp hd ⟨.non, [x], rfl, rfl, x, [], rfl, q1, rfl⟩)
      | [], _, g => exact g.elim
      | _ :: _ :: _, _, g => exact g.elim
  | exc c d S1 =>
    rw [hr] at g
    intro α' H' dd v m h1 h2
    simp only at g
    by_cases hc : c ∈ cs
    · rw [if_pos hc] at g
      refine ⟨hex c hc, fun a na p o hp hd => ?_⟩
      have mm := (m1.trans m).laid (o := XcO (.ref (G.cls c)) (some dd) a) na
      have nd : dd ≠ a := ne_of_none h1 na
      exact g _ _ _ (mm.laid hp) (RE.newT mm hp hd ⟨_, _, rfl, ⟨a, dd, v, rfl, upd_same, by rw [upd_ne nd]; exact h1, RD.kept m.rs.adm (Post.laid na) d v h2⟩, ⟨_, _, rfl, rfl, rfl⟩⟩)
    · rw [if_neg hc] at g
      exact g.elim
theorem tOf_monoW {m : ME} {E E' : XK} {σ : L2.St} {H : Hp} {Q Q' : VK} (i : ∀ c d H, E c d H → E' c d H) (j : ∀ x H, Q x H → Q' x H) (h : tOf G m (fun c d _ H => E c d H) σ H Q) : tOf G m (fun c d _ H => E' c d H) σ H Q' := by
  obtain ⟨α, ρ, S, rs, rl, g⟩ := h
  refine ⟨α, ρ, S, rs, rl, ?_⟩
  cases hr : m ρ S with
  | ok e S1 => rw [hr] at g; exact fun α' H' x m r => j _ _ (g α' H' x m r)
  | exc c d S1 => rw [hr] at g; exact fun α' H' dd v m h1 h2 => i _ _ _ (g α' H' dd v m h1 h2)
  | bad => rw [hr] at g; exact g
/-- what the written part says of the def that hears -/
structure HearC (X : Cx) (G : Gc) (x : Str) (cs : List Nat) : Prop where
  ex : ∃ (g CT : Addr) (pg : Arguments) (bg : List Stmt) (sg : Scope) (dV kV doc pm cdv ct oc : Value) (an od : Option Addr) (osl : Array (Option Value)),
    X.mg x = some (.ref g) ∧ PySem.W.keepIn X.K (.ref g) = true ∧ X.K.lookup g = some ⟨oc, od, .func (PySem.W.fnOf x x pg bg sg dV kV doc pm an cdv ct), osl⟩ ∧ PySem.W.codeIn X.K cdv x = true ∧ L2.Binds X.K (PySem.W.fnOf x x pg bg sg dV kV doc pm an cdv ct) ["call"] [] ∧
      FnScope hearN ["call"] sg ∧ (∀ c ∈ cs, PySem.W.exmOne X.K (.ref (G.cls c)) (.ref CT) = some true) ∧ ∀ q, HearsTo X hearN x sg g cdv bg "call" q (TTh X.K CT)
theorem xe_hear {x : Str} {c P : Addr} {k : Nat} {cs : List Nat} {params : Arguments} {body : Expr} {scope : Scope} {mb : ME} {p lpos pos : Pos} (hg : Gl X x) (C : HearC X G x cs)
    (TB : LamX.TabB X.base X.mg c P) (hcode : X.env.code = .ref c) (hmT : (P, X.env.qual ++ "<lambda>") ∈ G.tabs) (hu : ∀ p ∈ G.tabs, p.1 = P → p.2 = X.env.qual ++ "<lambda>") (hr : Room (k + 2) X.A) (L : LamX.LamS X.env.scope scope) (hdef : defaultsOf params X.env = ([], []))
    (hbind : ∀ (q : Str) (cl : List (Str × Addr)) (pm cv ctv : Value), bindArgs (PySem.W.kla_fn "<lambda>" q params body scope cl pm cv ctv) ⟨[], []⟩ = pure [])
    (hbody : ∀ (A : Around) (outer : List PySem.Env) (s : Shared) (H : Hp) (E : XK) (f c' : Addr), Room k (A.deeper (LamX.lamEnv X scope s.heap.objs.size f c')) → XE (LamX.lamCx X A outer s H E scope f c') G body mb)
    (hdb : (x == ("__debug__" : Str)) = false := by decide) : XE X G (.Call (.Name x p) [.Lambda params body scope lpos] [] pos) (mHear cs mb) := by
  obtain ⟨g, CT, pg, bg, sg, dV, kV, doc, pm, cdv, ct, oc, an, od, osl, h1, h2, h3, h4, h5, h6, h7, h8⟩ := C.ex
  exact ⟨fun W t => PE.imp (pe_hear (Ng := hearN) (t := fun E => tOf G mb fun c d _ H => E c d H) hg h1 h2 h3 h4 h5 h6 rfl ((h6.par "call" (by simp)).elim .inl fun z => .inr (.inl z)) (h8 _) TB hcode hmT hu hr L hdef hbind (fun E E' σ H Q Q' i j h => tOf_monoW i j h)
    (fun A outer s H E f c' hr => (hbody A outer s H E f c' hr).run _ (takes_of rfl rfl rfl rfl)) hdb) fun σ H Q h => hear_imp h7 h⟩
end
end DL

set_option Elab.async false
set_option autoImplicit false
set_option linter.all false
set_option maxRecDepth 100000
set_option maxHeartbeats 2000000
namespace DL
open PySem PySem.Spec PyProof.Rows L2
/-! ## a kept exception: isinstance, its value -/
section
variable {X : Cx} {G : Gc} {pins : List (Addr × Obj)} {s : Shared} {α : List Lc} {H : Hp} {σ : L2.St} {c : Nat} {d : D} {x : V}
theorem exc_inst (I : Inv X pins σ H s) {a dx : Addr} {C : Addr} {w : V} (h1 : H a = some (XcO (.ref C) (some dx) a)) (h2 : H dx = some (.xd [("value", w)])) :
    ∃ oe od u, PySem.W.InstAt s.heap a oe C (some od) ∧ RelV w u ∧ PySem.W.lookIn "value" od = some (some u) := by
  have q : ∃ (oe : Obj) (vs : Array Value), s.heap.get? a = some oe ∧ Zc (.ref C) (some dx) oe ∧ oe.data = .fields vs := (I.hok a _ h1).1
  obtain ⟨oe, vs, ha, hz, hd⟩ := q
  obtain ⟨mA, hns, hr⟩ : ObjOk X.prog X.w H s.heap dx (.xd [("value", w)]) := I.hok dx _ h2
  obtain ⟨od, ho, hl⟩ := lookIn_ns hns
  obtain ⟨u, hu, ru⟩ := RelO.some_of (v := w) (o := mA "value") (hr "value")
  exact ⟨oe, od, u, ⟨ha, hz.1, by unfold PySem.W.notCls; rw [hd] <;> rfl, by rw [hz.2]; exact ho⟩, ru, by rw [hl, hu]⟩
end
/-- the classes of the errors, as isinstance and reading want them -/
def ErrI (X : Cx) (G : Gc) (cs : List Nat) : Prop := ∀ c ∈ cs, ExcC X.K (G.cls c) ∧ PySem.W.findIn X.K (.ref (G.cls c)) "value" = some none ∧ (PySem.W.clsIn X.K (G.cls c)).isSome = true
def mVal (cs : List Nat) (m : ME) : ME := fun ρ S => (m ρ S).bind fun e S1 => match e with
  | .v (.exc c d) => if c ∈ cs then .ok (.v d) S1 else .bad
  | _ => .bad
/-- isinstance(e, C): the list tells of each error class whether it is below C -/
def mIsC (tb : List (Nat × Bool)) (m : ME) : ME := fun ρ S => (m ρ S).bind fun e S1 => match e with
  | .v (.exc c _) => match tb.lookup c with
    | some b => .ok (.v (.bl b)) S1
    | none => .bad
  | _ => match tyN ρ S1 e with
    | some _ => .ok (.v (.bl false)) S1
    | none => .bad
section
variable {X : Cx} {G : Gc} {p p2 pos : Pos} {x2 : Str} {e : Expr} {m : ME}
theorem xe_val {cs : List Nat} (hE : ErrI X G cs) (h : XE X G e m) (hb : attributeBase e "value" X.env (eval e X.env) = eval e X.env := by rfl) : XE X G (.Attribute e "value" pos) (mVal cs m) := by
  refine ⟨fun W t => ⟨fun pins s σ H Q I ⟨α, ρ, S, rs, rl, g⟩ => attr_of hb (thn ((h.run W t).run pins s σ H _ I (step (ma := m) (.refl rs rl) g)) fun u s1 ⟨x, H1, I1, ru, α1, S1, e1, p1, m1, r1, g1⟩ => ?_)⟩⟩
  match e1, g1, r1 with
  | .v (.exc c d), g1, ⟨a, dx, w, ex, h1, h2, h3⟩ =>
    subst ex
    cases ru
    simp only at g1
    by_cases hc : c ∈ cs
    · rw [if_pos hc] at g1
      obtain ⟨T, hno, _⟩ := hE c hc
      obtain ⟨oe, od, u, J, rw', hl⟩ := exc_inst I1 h1 h2
      exact HandSPX.exc_get I1.kIn J T.hg T.hk T.hs (PySem.W.findObj_own T.hd hno rfl hl) (handed_of rw') ⟨w, H1, I1.tok _, rw', g1 α1 H1 w m1 h3⟩
    · rw [if_neg hc] at g1; exact g1.elim
  | .v .non, g1, _ => exact g1.elim
  | .v (.bl _), g1, _ => exact g1.elim
  | .v (.int _), g1, _ => exact g1.elim
  | .v (.str _), g1, _ => exact g1.elim
  | .v (.tup _), g1, _ => exact g1.elim
  | .v (.cl _), g1, _ => exact g1.elim
  | .v (.ref _), g1, _ => exact g1.elim
  | .fl _, g1, _ => exact g1.elim
  | .fd _, g1, _ => exact g1.elim
  | .sl _, g1, _ => exact g1.elim
/-- what the written part says of the class that is asked for -/
structure IsC (X : Cx) (G : Gc) (x : Str) (tb : List (Nat × Bool)) : Prop where
  ex : ∃ C, X.mg x = some (.ref C) ∧ (∀ T : Ty, PySem.W.kitOne X.K (.type T.nm) (.ref C) = some false) ∧ ∀ c b, tb.lookup c = some b → ExcC X.K (G.cls c) ∧ (PySem.W.clsIn X.K (G.cls c)).isSome = true ∧ PySem.W.kitOne X.K (.ref (G.cls c)) (.ref C) = some b
theorem xe_isC {tb : List (Nat × Bool)} (T : IsC X G x2 tb) (hG : GOk X G) (hg : Gl X "isinstance") (hm : X.mg "isinstance" = none) (hg2 : Gl X x2) (h : XE X G e m) (hdb2 : (x2 == ("__debug__" : Str)) = false := by decide)
    (na : starEach [e, .Name x2 p2] X.env = (false, eval e X.env) :: starEach [.Name x2 p2] X.env := by rfl) (nb : starEach [.Name x2 p2] X.env = (false, eval (.Name x2 p2) X.env) :: starEach [] X.env := by rfl) (hpl : (backTo pos (starEach [.Name x2 p2] X.env)).any (·.1) = false := by rfl) :
    XE X G (.Call (.Name "isinstance" p) [e, .Name x2 p2] [] pos) (mIsC tb m) := by
  obtain ⟨C, hC, hT, hX⟩ := T.ex
  refine ⟨fun W t => PE.imp (pe_callB call_isK hg hm boot_isinstance (pa_cons (h.run W t) (pa_cons (pe_glob (v := .ref C) hg2 hC rfl hdb2) pa_nil nb) na) (by decide) (by decide) na hpl) fun σ H Q ⟨α, ρ, S, rs, rl, g⟩ => ?_⟩
  show tOf G m W σ H fun x H1 => _
  refine tOf_mono (step (ma := m) (.refl rs rl) g) fun x H1 ⟨α1, S1, e1, p1, m1, r1, g1⟩ => ?_
  have other : ∀ T, tyN ρ S1 e1 = some T → Gd G W α H ρ σ (.ok (.v (.bl false)) S1) Q → tC (.ref C) σ H1 (fun y H2 => tNil σ H2 fun ys H3 => rIsK X (x :: y :: ys) H3 Q) := fun T ht g =>
    ⟨x, .ref C, .type T.nm, .ref C, false, rfl, fun w h => h, hT T, fun pins s τ u I ru => kit_E hG I m1.rs m1.rl r1 ru ht, g α1 H1 _ m1 rfl⟩
  cases e1 with
  | v d =>
    cases d with
    | exc c d =>
      simp only at g1
      obtain ⟨a, dx, w, ex, h1, h2, h3⟩ := r1
      cases hl : tb.lookup c with
      | none => rw [hl] at g1; exact g1.elim
      | some b =>
        rw [hl] at g1
        obtain ⟨T, hcl, hk⟩ := hX c b hl
        refine ⟨x, .ref C, .ref (G.cls c), .ref C, b, rfl, fun w h => h, hk, fun pins s τ u I ru => ?_, g1 α1 H1 _ m1 rfl⟩
        subst ex
        cases ru
        obtain ⟨oe, od, v, J, _, _⟩ := exc_inst I h1 h2
        exact ⟨_, PySem.W.kitx_exc hcl T.hg T.hk T.hs T.ha T.hn T.ht T.hm, J, fun z => nomatch z⟩
    | non => exact other .non rfl g1
    | bl b => exact other .bl rfl g1
    | int b => exact other .int rfl g1
    | str b => exact other .str rfl g1
    | tup b => exact other .tup rfl g1
    | cl b => exact other .lst rfl g1
    | ref n =>
      simp only at g1
      cases ht : tyN ρ S1 (.v (.ref n)) with
      | none => rw [ht] at g1; exact g1.elim
      | some T => rw [ht] at g1; exact other T ht g1
  | fl ds => exact other .lst rfl g1
  | fd ds => exact other .dic rfl g1
  | sl i =>
    simp only at g1
    cases ht : tyN ρ S1 (.sl i) with
    | none => rw [ht] at g1; exact g1.elim
    | some T => rw [ht] at g1; exact other T ht g1
end
end DL

set_option Elab.async false
set_option autoImplicit false
set_option linter.all false
set_option maxRecDepth 100000
set_option maxHeartbeats 2000000
namespace DL
open PySem PySem.Spec PyProof.Rows L2
/-! ## sorted(set(t)), t a tuple of whole numbers -/
def insU (i : Int) : List Int → List Int
  | [] => [i]
  | j :: r => if i < j then i :: j :: r else if i = j then j :: r else j :: insU i r
def sortU : List Int → List Int
  | [] => []
  | i :: r => insU i (sortU r)
theorem mem_insU {i k : Int} : ∀ {l : List Int}, k ∈ insU i l ↔ k = i ∨ k ∈ l
  | [] => by simp [insU]
  | j :: r => by
    unfold insU
    by_cases h : i < j
    · rw [if_pos h]; simp
    · rw [if_neg h]
      by_cases h2 : i = j
      · rw [if_pos h2]; subst h2; simp
      · rw [if_neg h2, List.mem_cons, mem_insU, List.mem_cons]
        constructor
        · rintro (a | a | a) <;> simp [a]
        · rintro (a | a | a) <;> simp [a]
theorem sorted_insU {i : Int} : ∀ {l : List Int}, l.Pairwise (· < ·) → (insU i l).Pairwise (· < ·)
  | [], _ => by simp [insU]
  | j :: r, h => by
    rw [List.pairwise_cons] at h
    unfold insU
    by_cases h1 : i < j
    · rw [if_pos h1]
      refine List.pairwise_cons.mpr ⟨fun k hk => ?_, List.pairwise_cons.mpr h⟩
      rcases List.mem_cons.mp hk with rfl | hk
      · exact h1
      · exact Int.lt_trans h1 (h.1 k hk)
    · rw [if_neg h1]
      by_cases h2 : i = j
      · rw [if_pos h2]; exact List.pairwise_cons.mpr h
      · rw [if_neg h2]
        refine List.pairwise_cons.mpr ⟨fun k hk => ?_, sorted_insU h.2⟩
        rcases mem_insU.mp hk with rfl | hk
        · omega
        · exact h.1 k hk
theorem sorted_sortU : ∀ l : List Int, (sortU l).Pairwise (· < ·)
  | [] => .nil
  | i :: r => sorted_insU (sorted_sortU r)
theorem mem_sortU {k : Int} : ∀ {l : List Int}, k ∈ sortU l ↔ k ∈ l
  | [] => by simp [sortU]
  | i :: r => by unfold sortU; rw [mem_insU, mem_sortU, List.mem_cons]
theorem sorted_uniq : ∀ {l m : List Int}, l.Pairwise (· < ·) → m.Pairwise (· < ·) → (∀ k, k ∈ l ↔ k ∈ m) → l = m
  | [], [], _, _, _ => rfl
  | [], b :: m, _, _, h => by have := (h b).mpr (by simp); cases this
  | a :: l, [], _, _, h => by have := (h a).mp (by simp); cases this
  | a :: l, b :: m, h1, h2, h => by
    rw [List.pairwise_cons] at h1 h2
    have e : a = b := by
      have p := (h a).mp (by simp)
      have q := (h b).mpr (by simp)
      rcases List.mem_cons.mp p with p | p
      · exact p
      · rcases List.mem_cons.mp q with q | q
        · exact q.symm
        · have := h2.1 a p; have := h1.1 b q; omega
    subst e
    rw [sorted_uniq h1.2 h2.2 fun k => ?_]
    have z := h k
    simp only [List.mem_cons] at z
    constructor
    · intro hk
      rcases z.mp (.inr hk) with q | q
      · have := h1.1 k hk; omega
      · exact q
    · intro hk
      rcases z.mpr (.inr hk) with q | q
      · have := h2.1 k hk; omega
      · exact q
def mSortSet (m : ME) : ME := fun ρ S => (m ρ S).bind fun e S1 => match asT e with
  | some ds => if (ds.all D.isI && decide (ds.length < 64)) = true then .ok (.fl ((sortU (ds.map D.toI)).map D.int)) S1 else .bad
  | none => .bad
section
variable {X : Cx} {G : Gc} {p p2 q pos : Pos} {e : Expr} {m : ME}
theorem ints_rel {α : List Lc} {H : Hp} : ∀ ns : List Int, RDs G α H (ns.map D.int) (ns.map V.int)
  | [] => rfl
  | n :: ns => ⟨_, _, rfl, rfl, ints_rel ns⟩
theorem vals_of_intsAre : ∀ {ns : List Int} {us : List Value}, IntsAre us ns → Vals (ns.map V.int) us
  | [], _, .nil => .nil
  | _ :: _, _, .cons n k t => .cons ⟨k, rfl⟩ (vals_of_intsAre t)
theorem xe_sortSet (hG : GOk X G) (hc : X.calm = true) (hg : Gl X "sorted") (hm : X.mg "sorted" = none) (hg2 : Gl X "set") (hm2 : X.mg "set" = none) (h : XE X G e m)
    (na : starEach [e] X.env = (false, eval e X.env) :: starEach [] X.env := by rfl) : XE X G (.Call (.Name "sorted" p) [.Call (.Name "set" p2) [e] [] q] [] pos) (mSortSet m) := by
  refine ⟨fun W t => ⟨fun pins s σ H Q I ⟨α, ρ, S, rs, rl, g⟩ => ?_⟩⟩
  refine Call_ (ld_blt I hg hm boot_sorted (PyProof.Rows.callWith_builtin1 (PyProof.Rows.args_cons ?_ rfl) rfl rfl))
  refine Call_ (ld_blt I hg2 hm2 boot_set ?_)
  refine PyProof.Rows.callWith_type1 (PyProof.Rows.args_cons (thn ((h.run W t).run pins s σ H _ I (step (ma := m) (.refl rs rl) g)) fun v s1 ⟨x, H1, I1, r1, α1, S1, e1, p1, m1, re, g1⟩ => PyProof.Rows.args_nil ?_) na) na rfl
  cases ht : asT e1 with
  | none => simp only [ht] at g1; exact g1.elim
  | some ds =>
    simp only [ht] at g1
    obtain ⟨hb, g2⟩ := ite_gd g1
    obtain ⟨hb1, hb2⟩ := Bool.and_eq_true_iff.mp hb
    have hb2 := of_decide_eq_true hb2
    obtain ⟨a, vs, rfl, ht1, ht2⟩ := asT_ok re ht
    cases r1
    have ev := RDs.ints hb1 ht2
    obtain ⟨its, rv, pt, hz⟩ := I1.tuple (show SqT X.K H1 a vs by rw [hG.K]; exact ht1.sq)
    rw [ev] at rv
    have hl : (ds.map D.toI).length < 64 := by rw [List.length_map]; exact hb2
    refine call_set_tupI (ds.map D.toI) (I1.ok.hd hc) pt (by simpa using ints_of_vals rv) (by unfold scanBound; omega) fun h' tk c R1 hcn k => PyProof.Rows.args_nil ?_
    have I2 : Inv X pins σ H1 { s1 with heap := h', toks := tk } := I1.kept k
    refine sorted_set R1 (I1.ok.hd hc) (by omega) fun s' p' out n ns k2 eg eo hp ho hi hs hmem hlen => ?_
    have eu : ns = sortU (ds.map D.toI) := sorted_uniq hs (sorted_sortU _) fun k => by rw [hmem k, mem_sortU]; simp
    have hlen2 : (ns.map V.int).length ≤ sizeLine := by rw [List.length_map, hlen, sizeLine_eq]; omega
    have hn : H1 p' = none := I2.hok.fresh hp
    have J : Inv X pins σ (upd H1 p' (.lst (ns.map V.int))) ⟨s'.heap, s'.gens, s'.drawn, s'.toks, s1.os⟩ :=
      Inv.call (s := { s1 with heap := h', toks := tk }) I2 (ch := []) (Un.laid k2 hp hn) (I2.hok.laid k2 hp ⟨hlen2, out.toList, n, vals_of_ints hi, ho⟩) (by rw [eg]; exact I2.bare) (fun _ z => nomatch z)
    obtain ⟨sh, sg, sd, st, so⟩ := s'
    cases eo
    refine ⟨.ref p', _, J, rfl, ?_⟩
    rw [eu] at *
    exact g2 α1 _ _ (m1.laid hn) (RE.newL m1 hn (ints_rel _))
end
end DL

set_option Elab.async false
set_option autoImplicit false
set_option linter.all false
set_option maxRecDepth 100000
set_option maxHeartbeats 2000000
namespace DL
open PySem PySem.Spec PyProof.Rows L2
/-! ## dict(pairs), the keys tuples, no key twice -/
def pairOf : D → Option (D × D)
  | .tup [k, v] => if (k.key && k.isTup && decide (k.nk.depth ≤ 8)) = true then some (k, v) else none
  | _ => none
def pairsOf : List D → Option (List (D × D))
  | [] => some []
  | d :: r => match pairOf d, pairsOf r with
    | some p, some ps => some (p :: ps)
    | _, _ => none
def fDictP (e : EV) (ρ : Env) (S : Store) : Option EV := match asL ρ S e with
  | some ds => match pairsOf ds with
    | some kvs => if (kvs.map (·.1)).Nodup then some (.fd kvs) else none
    | none => none
  | none => none
section
variable {X : Cx} {G : Gc} {pins : List (Addr × Obj)} {α : List Lc} {H : Hp} {σ : L2.St} {s : Shared}
theorem pair_item (I : Inv X pins σ H s) (hK : X.K = G.K) {d : D} {p : D × D} {v : V} {u : Value} (h : pairOf d = some p) (r : RD G α H d v) (ru : RelV v u) :
    ∃ (T : Addr) (x : NestedKey × Addr × Value), u = .ref T ∧ RKt G α H p x ∧ s.heap.IsTuple T #[.ref x.2.1, x.2.2] := by
  match d, h, r with
  | .tup [k, e], h, ⟨a, vs, ev, h1, h2⟩ =>
    replace h : (if (k.key && k.isTup && decide (k.nk.depth ≤ 8)) = true then some (k, e) else none) = some p := h
    obtain ⟨hb, h3⟩ := ite_some h
    simp only [Bool.and_eq_true, decide_eq_true_eq] at hb
    cases h3
    subst ev
    cases ru
    obtain ⟨x, r1, rfl, q1, y, r2, rfl, q2, rfl⟩ := h2
    obtain ⟨its, rv, ⟨o, ho, hc, n, hd⟩, _⟩ := I.tuple (show SqT X.K H a [x, y] by rw [hK]; exact h1.sq)
    obtain ⟨ux, uy, rfl, rx, ry⟩ := vals2 rv
    match k, hb, q1 with
    | .tup ks, hb, ⟨b, ws, ex, h4, h5⟩ =>
      subst ex
      cases rx
      exact ⟨a, ((D.tup ks).nk, b, uy), rfl, ⟨hb.1.1, rfl, hb.2, rfl, ⟨b, ws, rfl, h4, h5⟩, y, ry, q2⟩, ⟨o, ho, hc, n, hd⟩⟩
theorem pair_items (I : Inv X pins σ H s) (hK : X.K = G.K) : ∀ {ds : List D} {kvs : List (D × D)} {vs : List V} {us : List Value}, pairsOf ds = some kvs → RDs G α H ds vs → Vals vs us →
    ∃ (Ts : List Addr) (xs : List (NestedKey × Addr × Value)), us.length = xs.length ∧ Paired (RKt G α H) kvs xs ∧ ∀ (j : Nat) x, xs[j]? = some x → us[j]? = some (.ref (Ts.getD j 0)) ∧ s.heap.IsTuple (Ts.getD j 0) #[.ref x.2.1, x.2.2]
  | [], _, _, _, h, r, rv => by
    cases h; cases r; cases rv
    exact ⟨[], [], rfl, .nil, fun j x h => by simp at h⟩
  | d :: ds, _, _, _, h, ⟨v, r, e, h1, h2⟩, rv => by
    subst e
    cases rv with
    | cons r1 r2 =>
      unfold pairsOf at h
      cases hp : pairOf d with
      | none => rw [hp] at h; cases h
      | some p =>
        cases hq : pairsOf ds with
        | none => rw [hp, hq] at h; cases h
        | some ps =>
          rw [hp, hq] at h
          cases h
          obtain ⟨T, x, rfl, q1, q2⟩ := pair_item I hK hp h1 r1
          obtain ⟨Ts, xs, q3, q4, q5⟩ := pair_items I hK hq h2 r2
          refine ⟨T :: Ts, x :: xs, by simp [q3], .cons q1 q4, fun j y hy => ?_⟩
          cases j with
          | zero => simp only [List.getElem?_cons_zero, Option.some.injEq] at hy; subst hy; exact ⟨rfl, q2⟩
          | succ j => exact q5 j y (by simpa using hy)
theorem kt_nodup {kvs : List (D × D)} {xs : List (NestedKey × Addr × Value)} (r : Paired (RKt G α H) kvs xs) (h : (kvs.map (·.1)).Nodup) : (xs.map (·.1)).Nodup := by
  induction r with
  | nil => exact List.nodup_nil
  | @cons p x ps xs hx t ih =>
    simp only [List.map_cons, List.nodup_cons] at h ⊢
    refine ⟨fun z => h.1 ?_, ih h.2⟩
    obtain ⟨y, hy, e⟩ := List.mem_map.mp z
    have go : ∀ {l : List (D × D)} {m : List (NestedKey × Addr × Value)}, Paired (RKt G α H) l m → y ∈ m → ∃ q ∈ l, q.1.key = true ∧ y.1 = q.1.nk := by
      intro l m r
      induction r with
      | nil => intro h; cases h
      | @cons p' x' _ _ h' t' ih' =>
        intro hm
        rcases List.mem_cons.mp hm with e' | hm
        · subst e'; exact ⟨p', by simp, h'.1, h'.2.2.2.1⟩
        · obtain ⟨q, q1, q2⟩ := ih' hm; exact ⟨q, by simp [q1], q2⟩
    obtain ⟨q, q1, q2, q3⟩ := go t hy
    have : p.1 = q.1 := D.nk_inj _ _ hx.1 q2 (by rw [← hx.2.2.2.1, ← q3, e])
    rw [this]
    exact List.mem_map.mpr ⟨q, q1, rfl⟩
theorem kt_is (I : Inv X pins σ H s) (hK : X.K = G.K) {kvs : List (D × D)} {xs : List (NestedKey × Addr × Value)} (r : Paired (RKt G α H) kvs xs) : ∀ x ∈ xs, (nestedKind X.prog X.w).is s.heap x.1 x.2.1 := by
  induction r with
  | nil => intro x hx; cases hx
  | @cons p x ps xs hx t ih =>
    intro y hy
    rcases List.mem_cons.mp hy with e | hy
    · subst e
      obtain ⟨k1, k2, k3, k4, k5, _⟩ := hx
      rw [k4]
      exact ⟨RD.nested I hK _ _ _ k1 k5 rfl, k3⟩
    · exact ih y hy
theorem callO_dictP (hu : X.A.units + 64 < cLine) (hG : GOk X G) (hc : X.calm = true) : CallO X G (.type "dict") (g1 fDictP) := by
  intro pins s σ H xs us Q I rv α0 α H0 ρ τ S es e m re he q
  obtain ⟨e1, rfl, hf⟩ := g1_some he
  obtain ⟨x, rfl, r⟩ := re.one
  unfold fDictP at hf
  cases hl : asL ρ S e1 with
  | none => rw [hl] at hf; cases hf
  | some ds =>
    cases hp : pairsOf ds with
    | none => simp only [hl, hp] at hf; cases hf
    | some kvs =>
      simp only [hl, hp] at hf
      obtain ⟨nd, h3⟩ := ite_some hf
      cases h3
      obtain ⟨a, vs, rfl, h1, h2⟩ := asL_ok m.rs m.rl r hl
      obtain ⟨u, rfl, ru⟩ : ∃ u, us = [u] ∧ RelV (.ref a) u := by
        cases rv with
        | cons r1 r2 => cases r2; exact ⟨_, rfl, r1⟩
      cases ru
      obtain ⟨its, rv', pl, hz⟩ := I.list (show SqL X.K H a vs by rw [hG.K]; exact h1)
      obtain ⟨Ts, xs, q1, q2, q3⟩ := pair_items I hG.K hp h2 rv'
      have ndx := kt_nodup q2 nd
      have hlen : xs.length ≤ sizeLine := by
        rw [← q1, ← rv'.length]; exact hz
      have hm : (s.heap.objs.size == sysModules) = false := beq_eq_false_iff_ne.mpr (Nat.ne_of_gt I.big)
      refine call_dict_pairsH (knd := nestedKind X.prog X.w) (n := (xs.map fun x => ((.ref x.2.1 : Value), x.2.2)).length) (ps := xs) (PairArg.list a its.toArray (fun j => Ts.getD j 0) (xs.map fun x => ((.ref x.2.1 : Value), x.2.2))) (I.ok.hd hc) (nestedRoom2 hu)
        ⟨pl, by simpa using q1, fun j k v hj => ?_⟩ ⟨by simp, fun j k v hj => ?_⟩ (fun h' hk x hx => kt_is (I.kept (t' := s.toks) fun b o e => hk b o (Nat.ne_of_lt (Heap.lt_size e)) (by simp) e) hG.K q2 x hx) (by simpa using hlen) fun h' tk hd hk => ?_
      · replace hj : (xs.map fun x => ((.ref x.2.1 : Value), x.2.2))[j]? = some (k, v) := hj
        rw [List.getElem?_map] at hj
        cases hx : xs[j]? with
        | none => rw [hx] at hj; cases hj
        | some x =>
          rw [hx] at hj
          cases hj
          exact ⟨x.1, x.2.1, rfl, rfl⟩
      · rw [storedAllH_nil_of_nodup xs ndx] at hd
        obtain ⟨o, es, ep, w1, w2, w3, w4, _, w5⟩ := hd
        have fr := I.hok.fresh (Nat.le_refl s.heap.objs.size)
        have hk' : ∀ b o, s.heap.get? b = some o → h'.get? b = some o := fun b o e => hk b o (by simp) e
        have J : Inv X pins σ (upd H s.heap.objs.size (DcO X.prog X.w s.heap.objs.size xs)) { s with heap := h', toks := tk } := I.laid (t' := tk) hk' (Nat.le_refl _) ⟨⟨hm, hlen, ndx, o, es, ep, w1, w2, w3, w4⟩, ⟨o, w1⟩, fun h1 h2 e st => by
          obtain ⟨e1, e2, e3, o', es', ep', y1, y2, y3, y4⟩ := e
          exact ⟨e1, e2, e3, o', es', ep', st _ y1, y2, y3, y4⟩⟩
        refine ⟨.ref s.heap.objs.size, _, J, rfl, q α _ _ (m.laid fr) ⟨_, rfl, .inr ⟨xs, by rw [upd_same, hG.P, hG.w], paired_imp (fun p x t => ?_) q2⟩, m.no fr, m.post.unt fr⟩⟩
        obtain ⟨k1, k2, k3, k4, k5, v, k6, k7⟩ := t
        exact ⟨k1, k2, k3, k4, k5.kept m.rs.adm (Post.laid fr), v, k6, k7.kept m.rs.adm (Post.laid fr)⟩
      · rw [List.getElem?_map] at hj
        cases hx : xs[j]? with
        | none => rw [hx] at hj; cases hj
        | some x =>
          rw [hx] at hj
          cases hj
          obtain ⟨w1, w2⟩ := q3 j x hx
          exact ⟨by simpa using w1, .inl w2⟩
end
end DL

set_option Elab.async false
set_option autoImplicit false
set_option linter.all false
set_option maxRecDepth 100000
set_option maxHeartbeats 2000000
namespace DL
open PySem PySem.Spec PyProof.Rows L2
/-! ## defs, called anywhere or (gd) only where no repr is under way -/
structure FnC (P : Program) (w : World) (K : PySem.W.Frag) (mg : Str → Option Value) (base : Heap) (G : Gc) (gd : Bool) (k : Nat) (f : Addr) (fd : FuncData) (ps : List Str) (m : MF) : Prop where
  run : ∀ (A : Around) (outer : List PySem.Env) (s : Shared) (H : Hp) (args : Args) (us : List Value) (vs : List V) (Q : VK) (E : XK), Room k A → (gd = true → A.guards = some []) → Env0 P w K mg base A outer s H → BindsTo s fd args (ps.zip us) → Vals vs us →
    spOf G ps.length m vs H Q E → codeAny (model P w) A (.call (.ref f) args) (CR (L2.CX P w) outer P w H s Q E) s
section
variable {P : Program} {w : World} {K : PySem.W.Frag} {mg : Str → Option Value} {base : Heap} {G : Gc} {gd : Bool} {k : Nat} {f : Addr} {fd : FuncData} {N ps : List Str} {m : MF} {ms : MS} {x qual : Str} {params : Arguments} {body : List Stmt} {scope : Scope}
theorem FnC.mono {j : Nat} (F : FnC P w K mg base G gd k f fd ps m) (h : k ≤ j) : FnC P w K mg base G gd j f fd ps m := ⟨fun A outer s H args us vs Q E hr => F.run A outer s H args us vs Q E (hr.mono h)⟩
theorem fnC_bad : FnC P w K mg base G gd k f fd ps (fun _ _ => .bad) := ⟨fun A outer s H args us vs Q E _ _ _ _ _ ⟨_, _, _, _, _, _, g⟩ => g.elim⟩
/-- THE RULE -/
theorem fnC_of {dvs : List V} {kws : List (Str × V)} (F : FunD K x qual params body scope dvs kws f fd) (S : FnScope N ps scope)
    (hm : ∀ α H S ds Q E, α.length = S.length → Gr G α H (m ds S) Q E → Gr G α H (mBody ms (startE N.length ds) S) Q E)
    (h : ∀ (cdv : Value) (A : Around) (outer : List PySem.Env) (s : Shared) (H : Hp) (E : XK), Room k (A.deeper (envOfC qual scope s.heap.objs.size f cdv)) → (gd = true → A.guards = some []) → XSs (cxOf (L2.CX P w) P w K mg base N qual scope f cdv A outer s H E) G body ms) :
    FnC P w K mg base G gd (k + 1) f fd ps m := by
  obtain ⟨oc, od, dV, kV, doc, pm, an, cdv, ct, osl, rfl, lk, hcd, _, _⟩ := F.ex
  refine ⟨fun A outer s H args us vs Q E hr hg e0 hb r hsp => ?_⟩
  refine LamX.run_ofS (CX := L2.CX P w) lk hcd S hr e0 hb r (spOf_len vs H Q E hsp) fun hr' => ?_
  obtain ⟨α, T, ds, rs, rd, e, g⟩ := hsp
  exact ⟨_, (h cdv A outer s H E hr' hg).run _ (takes_of rfl rfl rfl rfl), body_reads rs rd (hm α H T ds Q E rs.len g)⟩
end
section
variable {X : Cx} {G : Gc} {gd : Bool} {f : Addr} {k : Nat} {m : MF} {fd : FuncData} {ps : List Str}
theorem callsTo_C (F : FnC X.prog X.w X.K X.mg X.base G gd k f fd ps m) (hr : Room k X.A) (hg : gd = true → X.A.guards = some []) (hb : L2.Binds X.K fd ps []) : CallsTo X G f ps.length m := fun pins s σ H vs us Q E I r h hx => by
  have hl : us.length = ps.length := by rw [← r.length]; exact spOf_len _ _ _ _ h
  have b := hb s us I.kIn (by rw [List.append_nil]; exact hl)
  rw [List.append_nil] at b
  refine wpAny_call (codeAny_mono (F.run X.A X.stack s H ⟨us, []⟩ us vs Q E hr hg I.env0 b r h) fun r s' hq => ?_)
  match r, hq with
  | .error e, hq => exact hx pins H s e s' I hq
  | .ok (.ret u), hq => exact I.after hq
/-! ### keywords -/
structure XKw (X : Cx) (G : Gc) (kws : List Keyword) (m : MA) : Prop where
  run : ∀ W, Takes X W → PK X kws (tOfA G m W)
theorem xkw_nil : XKw X G [] mNilA := ⟨fun W t => ⟨fun pos pins s σ H Q I ⟨α, ρ, S, rs, rl, g⟩ => pk_nil.run pos pins s σ H Q I (g α H [] (.refl rs rl) rfl)⟩⟩
theorem xkw_cons {e : Expr} {kws : List Keyword} {nm : Option Str} {kpos : Pos} {m : ME} {r : MA} (h : XE X G e m) (k : XKw X G kws r) : XKw X G (⟨nm, e, kpos⟩ :: kws) (mConsA m r) := by
  refine ⟨fun W t => ⟨fun pos pins s σ H Q I ⟨α, ρ, S, rs, rl, g⟩ => (pk_cons (h.run W t) (k.run W t)).run pos pins s σ H Q I ?_⟩⟩
  refine tOf_mono (stepE (F := fun z => Ga G W α H ρ σ z Q) (ma := m) (.refl rs rl) (fun c d S2 α2 H2 dd v g m h1 h2 => g α2 H2 dd v m h1 h2) (fun g => g) g) fun x H2 ⟨α2, S2, e1, p2, m2, r1, g2⟩ => ?_
  refine tOfA_mono (stepA (F := fun z => Ga G W α H ρ σ z Q) (ma := r) m2 (fun c d S2 α2 H2 dd v g m h1 h2 => g α2 H2 dd v m h1 h2) (fun g => g) g2) fun xs H3 ⟨α3, S3, es1, p3, m3, r3, g3⟩ => ?_
  refine g3 α3 H3 (x :: xs) m3 ⟨x, xs, rfl, r1.kept m2.rs.adm p3, fun a ha hm => ?_, r3.back m2.post⟩
  obtain ⟨_, _, _, o, q⟩ := tad_at r1 ha
  rw [r3.at0 hm] at q
  cases q
/-- the keywords' values in the parameters' order -/
def mFnK (n : Nat) (is : List Nat) (m : MF) (ma : MA) : ME := fun ρ S => (ma ρ S).bind fun es S1 => match pub es S1 with
  | some (ds, S2) => if ds.length = n then m (is.map fun i => ds.getD i .non) S2 else .bad
  | none => .bad
theorem RDs.pick {α : List Lc} {H : Hp} {ds : List D} {vs : List V} (r : RDs G α H ds vs) : ∀ is : List Nat, (∀ i ∈ is, i < ds.length) → RDs G α H (is.map fun i => ds.getD i .non) (is.map fun i => vs.getD i .non)
  | [], _ => rfl
  | i :: is, h => by
    have hi := h i (by simp)
    obtain ⟨v, h1, h2⟩ := r.at (List.getElem?_eq_getElem hi)
    refine ⟨_, _, rfl, ?_, RDs.pick r is fun j hj => h j (by simp [hj])⟩
    show RD G α H (ds.getD i .non) (vs.getD i .non)
    rw [List.getD_eq_getElem?_getD, List.getD_eq_getElem?_getD, h1, List.getElem?_eq_getElem hi]
    exact h2
theorem vals_pick {vs : List V} {us : List Value} (r : Vals vs us) : ∀ is : List Nat, (∀ i ∈ is, i < vs.length) → Vals (is.map fun i => vs.getD i .non) (is.map fun i => us.getD i .none)
  | [], _ => .nil
  | i :: is, h => by
    obtain ⟨u, h1, h2⟩ := r.get (List.getElem?_eq_getElem (h i (by simp)))
    refine .cons ?_ (vals_pick r is fun j hj => h j (by simp [hj]))
    show RelV (vs.getD i .non) (us.getD i .none)
    rw [List.getD_eq_getElem?_getD, List.getD_eq_getElem?_getD, h1, List.getElem?_eq_getElem (h i (by simp))]
    exact h2
theorem xe_callK {x : Str} {p pos : Pos} {kws : List Keyword} {ks : List Str} {is : List Nat} {ma : MA} (F : FnC X.prog X.w X.K X.mg X.base G gd k f fd ps m) (hr : Room k X.A) (hgd : gd = true → X.A.guards = some []) (hg : Gl X x) (hm : X.mg x = some (.ref f)) (hk : PySem.W.keepIn X.K (.ref f) = true)
    (hb : ∀ (s : Shared) (us : List Value), X.K.In s.heap → us.length = ks.length → BindsTo s fd ⟨[], ks.zip us⟩ (ps.zip (is.map fun i => us.getD i .none))) (his : ∀ i ∈ is, i < ks.length) (hl : is.length = ps.length) (ha : XKw X G kws ma)
    (hall : (backToKw pos (keywordEach kws X.env)).all (·.1.isSome) = true := by rfl) (hks : (backToKw pos (keywordEach kws X.env)).filterMap (·.1) = ks := by rfl) (hdb : (x == ("__debug__" : Str)) = false := by decide)
    (hpl : ((backTo pos (starEach [] X.env)).any (·.1) || (backToKw pos (keywordEach kws X.env)).any (·.1.isNone)) = false := by rfl) : XE X G (.Call (.Name x p) [] kws pos) (mFnK ks.length is m ma) := by
  refine ⟨fun W t => ⟨fun pins s σ H Q I ⟨α, ρ, S, rs, rl, g⟩ => wpAny_Call_Name_kw (ld_glob I hg hm ?_ hdb)⟩⟩
  refine PySem.W.callWith_KW0 (h₀ := X.base) I.ok.mod.kin hk hall (thn ((ha.run W t).run pos pins s σ H _ I (stepA (F := fun z => Gd G W α H ρ σ z Q) (ma := ma) (.refl rs rl) (fun c d S2 α2 H2 dd v g m h1 h2 => g α2 H2 dd v m h1 h2) (fun g => g) g)) fun ws s2 ⟨zs, H2, I2, rz, α2, S2, es1, p2, m2, r2, g2⟩ => ⟨I2.kIn, ?_⟩) hpl
  rw [hks]
  show wpAny _ _ (call (.ref f) [] (ks.zip ws)) _ _ _
  cases hp : pub es1 S2 with
  | none => simp only [hp] at g2; exact g2.elim
  | some z =>
    obtain ⟨ds, S3⟩ := z
    simp only [hp] at g2
    obtain ⟨hd, g3⟩ := ite_gd g2
    obtain ⟨α3, pre, m3, r3⟩ := pub_ok m2 r2 hp
    have lz : zs.length = ks.length := by rw [← r3.len, hd]
    refine wpAny_call (codeAny_mono (F.run X.A X.stack s2 H2 ⟨[], ks.zip ws⟩ (is.map fun i => ws.getD i .none) (is.map fun i => zs.getD i .non) Q (WE W σ) hr hgd I2.env0 (hb s2 ws I2.kIn (by rw [← rz.length, lz])) (vals_pick rz is fun i hi => by rw [lz]; exact his i hi)
      ⟨α3, S3, _, m3.rs, RDs.pick r3 is (fun i hi => by rw [hd]; exact his i hi), by rw [List.length_map, hl], Gr.of m3 g3⟩) fun r s' hq => ?_)
    match r, hq with
    | .error e, hq => exact passAt t σ pins H2 s2 e s' I2 hq
    | .ok (.ret u), hq => exact I2.after hq
end
end DL

set_option Elab.async false
set_option autoImplicit false
set_option linter.all false
set_option maxRecDepth 100000
set_option maxHeartbeats 2000000
namespace DL
open PySem PySem.Spec PyProof.Rows L2
/-! ## the end: the law's def called with the script -/
theorem rs_nil {G : Gc} {H : Hp} (t : LamX.Tabs G.tabs H) : RS G [] H [] := ⟨rfl, fun i j li lj b h => by simp at h, fun i l o h => by simp at h, t⟩
theorem law_end {P : Program} {w : World} {K : PySem.W.Frag} {mg mb : Str → Option Value} {G : Gc} {gd : Bool} {k : Nat} {fa a : Addr} {cs : List (Addr × Addr)} {fd : FuncData} {x : Str} {m : MF} {s₁ : Shared} {vs : List Value} {ns : List Int}
    (KX : K.In s₁.heap) (hns : s₁.heap.Ns mainGlobals mg) (hb : s₁.heap.Ns builtinsNs mb) (hbb : ∀ x : Str, x ≠ "__name__" → mb x = bootBuiltins x) (hlim : s₁.heap.NoLimit) (hg : s₁.gens = #[])
    (hT : ∀ p ∈ cs, s₁.heap.get? p.2 = some { cls := .none, data := .fields #[] }) (nT : ∀ p ∈ cs, K.lookup p.2 = none) (C : ∀ p ∈ cs, PySem.W.CodeHd s₁.heap p.1 p.2)
    (hbm : ∃ (bm : Addr) (ob : Obj), mg "__builtins__" = some (.ref bm) ∧ bm ≠ builtinsNs ∧ s₁.heap.get? bm = some ob ∧ ob.cls = .type "module" ∧ ob.dict = some builtinsNs ∧ ob.data = .plain)
    (ha : s₁.heap.get? a = some { cls := .type "list", data := .seq vs.toArray }) (hi : IntsAre vs ns) (hl : ns.length ≤ sizeLine) (hr : Room k callerA) (hK : G.K = K) (htb : ∀ p ∈ G.tabs, ∃ q ∈ cs, q.2 = p.1)
    (F : ∀ base : Heap, K.In base → base.Ns mainGlobals mg → (∀ p ∈ cs, LamX.TabB base mg p.1 p.2) → FnC P w K mg base G gd k fa fd [x] m) (hbind : ∀ (s : Shared) (u : Value), BindsTo s fd ⟨[u], []⟩ [(x, u)])
    (hm : ∃ S, m [.cl (ns.map D.int)] [] = .ok (.v (.bl true)) S) :
    codeAny (model P w) callerA (.call (.ref fa) ⟨[.ref a], []⟩) (fun r s' => r = .ok (.ret (.bool true)) ∧ OldK s₁.heap s'.heap ∧ s'.os = s₁.os ∧ AllBare s'.gens) s₁ := by
  have rv := L2.vals_ints hi
  have lenV := hi.length
  let T := cs.map (·.2)
  have inT : ∀ p ∈ cs, p.2 ∈ T := fun p hp => List.mem_map.mpr ⟨p, hp, rfl⟩
  have outT : ∀ {b}, b ∈ T → ∃ p ∈ cs, p.2 = b := fun hb => List.mem_map.mp hb
  have isT : ∀ b, b ∈ T → s₁.heap.get? b = some { cls := .none, data := .fields #[] } := fun b hb => let ⟨p, hp, e⟩ := outT hb; e ▸ hT p hp
  have aT : a ∉ T := fun z => by
    have q := isT a z
    rw [ha] at q
    cases congrArg Obj.data (Option.some.inj q)
  let fz : HO := .frz { cls := .type "list", data := .seq vs.toArray } (.lst (ns.map V.int))
  let H : Hp := fun b => if b = a ∧ K.lookup a = none then some fz else if b ∈ T then some (.tbl #[]) else none
  have HT : ∀ b, b ∈ T → H b = some (.tbl #[]) := fun b hb => by
    show (if b = a ∧ K.lookup a = none then some fz else if b ∈ T then some (.tbl #[]) else none) = _
    have n : ¬ (b = a ∧ K.lookup a = none) := fun z => aT (z.1 ▸ hb)
    rw [if_neg n, if_pos hb]
  have Hs : ∀ b u, H b = some u → (b = a ∧ K.lookup a = none ∧ u = fz) ∨ (b ∈ T ∧ u = .tbl #[]) := fun b u e => by
    have e : (if b = a ∧ K.lookup a = none then some fz else if b ∈ T then some (.tbl #[]) else none) = some u := e
    by_cases h1 : b = a ∧ K.lookup a = none
    · rw [if_pos h1] at e; exact .inl ⟨h1.1, h1.2, (Option.some.inj e).symm⟩
    · rw [if_neg h1] at e
      by_cases h2 : b ∈ T
      · rw [if_pos h2] at e; exact .inr ⟨h2, (Option.some.inj e).symm⟩
      · rw [if_neg h2] at e; cases e
  have hok : HOk P w H s₁.heap := fun b u e => by
    rcases Hs b u e with ⟨rfl, _, rfl⟩ | ⟨h, rfl⟩
    · exact ⟨ha, by rw [List.length_map]; exact hl, vs, _, rv, ha⟩
    · exact isT b h
  have noD : ∀ {b : Addr} {o : Obj}, s₁.heap.get? b = some o → (∀ vs n, o.data ≠ .seq vs n) → o.data ≠ .fields #[] → H b = none := fun {b o} e h1 h2 => by
    cases q : H b with
    | none => rfl
    | some u =>
      rcases Hs b u q with ⟨rfl, _, _⟩ | ⟨h, _⟩
      · rw [ha] at e; cases e; exact (h1 _ _ rfl).elim
      · rw [isT b h] at e; cases e; exact (h2 rfl).elim
  have stay : ∀ {b : Addr} {o : Obj}, s₁.heap.get? b = some o → (∀ vs n, o.data ≠ .seq vs n) → o.data ≠ .fields #[] → (hidT s₁.heap H).get? b = some o := fun e h1 h2 => hidT_get e (noD e h1 h2)
  have dct : ∀ {b : Addr} {o : Obj} {es ep}, s₁.heap.get? b = some o → o.data = .dict es ep → (hidT s₁.heap H).get? b = some o := fun e d => stay e (fun vs n z => by rw [d] at z; cases z) fun z => by rw [d] at z; cases z
  have nsK : ∀ {b : Addr} {m : Str → Option Value}, s₁.heap.Ns b m → (hidT s₁.heap H).Ns b m := fun ⟨o, es, ep, e, d, r⟩ => ⟨o, es, ep, dct e d, d, r⟩
  have kb : K.In (hidT s₁.heap H) := fun b o e => hidT_get (KX b o e) (by
    cases q : H b with
    | none => rfl
    | some u =>
      rcases Hs b u q with ⟨rfl, z, _⟩ | ⟨h, _⟩
      · rw [z] at e; cases e
      · obtain ⟨p, hp, rfl⟩ := outT h
        rw [nT p hp] at e; cases e)
  have TB : ∀ p ∈ cs, LamX.TabB (hidT s₁.heap H) mg p.1 p.2 := fun p hp => by
    refine ⟨?_, ?_, fun z => ?_⟩
    · obtain ⟨o, us, file, tf, flags, tg, inF, text, tt, e1, r1, r2, r3, r4, r5, r6, r7, r8, hne⟩ := C p hp
      exact ⟨o, us, file, tf, flags, tg, inF, text, tt, stay e1 (fun vs n z => by rw [r2] at z; cases z) (fun z => by rw [r2] at z; cases z; simp at r3), r1, r2, r3, r4, r5, r6, r7, r8, hne⟩
    · obtain ⟨bm, ob, b1, b2, b3, b4, b5, b6⟩ := hbm
      refine ⟨bm, ob, b1, b2, fun q => ?_, fun q => ?_, stay b3 (fun vs n z => by rw [b6] at z; cases z) (fun z => by rw [b6] at z; cases z), b4, b5, b6⟩
      · obtain ⟨o, es, ep, e, hd, _⟩ := hns
        rw [q, e] at b3; cases b3
        rw [hd] at b6; cases b6
      · rw [q, hT p hp] at b3; cases b3; cases b6
    · obtain ⟨o, es, ep, e, hd, _⟩ := hns
      rw [z, hT p hp] at e; cases e; cases hd
  have e0 : Env0 P w K mg (hidT s₁.heap H) callerA [] s₁ H := ⟨rfl, ⟨kb, nsK hns, ⟨mb, nsK hb, hbb⟩, let ⟨mc, h1, h2⟩ := hlim; ⟨mc, nsK h1, h2⟩⟩, fun b o e => of_hidT e, Nat.le_of_eq (hidT_size _ _), trivial, fun b hb => absurd hb (by simp [frs]), hok, .of_eq hg⟩
  have tabs : LamX.Tabs G.tabs H := fun p hp => by
    obtain ⟨q, hq, e⟩ := htb p hp
    exact LamX.TabS.nil (HT p.1 (e ▸ inT q hq))
  have fz0 : FzL G.K H a (ns.map V.int) := by
    rw [hK]
    cases hk : K.lookup a with
    | none => exact .inl ⟨_, if_pos ⟨rfl, hk⟩⟩
    | some o =>
      have e := KX a o hk
      rw [ha] at e; cases e
      exact .inr (.inr ⟨_, vs.toArray, _, hk, rfl, rfl, rfl, by rw [List.size_toArray, lenV]; exact hl, by simpa using rv⟩)
  obtain ⟨S, hS⟩ := hm
  refine codeAny_mono ((F _ kb (nsK hns) TB).run callerA [] s₁ H ⟨[.ref a], []⟩ [.ref a] [.ref a] (fun v _ => v = .bl true) (fun _ _ _ => False) hr (fun _ => rfl) e0 (hbind s₁ (.ref a)) (.cons rfl .nil)
    ⟨[], [], [.cl (ns.map D.int)], rs_nil tabs, ⟨_, _, rfl, ⟨a, _, rfl, fz0, ints_rel ns⟩, rfl⟩, rfl, by rw [hS]; exact fun α' H' x _ _ r => r⟩) fun r s' h => ?_
  match r, h with
  | .error e, h =>
    obtain ⟨_, _, _, _, _, _, _, _, _, _, _, _, z⟩ := h
    exact z.elim
  | .ok (.ret u), h =>
    obtain ⟨v, H', os, bare, un, hok', r', rfl⟩ := h
    obtain rfl : u = Value.bool true := r'
    have key : ∀ b o, b ∉ T → s₁.heap.get? b = some o → s'.heap.get? b = some o := fun b o nb e => by
      cases q : H b with
      | none => exact un.keep b o e q (fun z => absurd z (by simp [frs])) (by simp)
      | some u =>
        rcases Hs b u q with ⟨rfl, _, rfl⟩ | ⟨h, _⟩
        · obtain ⟨e2, _⟩ := hok' b _ (un.frzs b _ _ q)
          rw [ha] at e; cases e
          exact e2
        · exact absurd h nb
    have grown : ∀ p ∈ cs, ∃ more : Array Value, s'.heap.get? p.2 = some { cls := .none, data := .fields more } := fun p hp => by
      obtain ⟨more, z⟩ := un.tbls p.2 #[] (HT p.2 (inT p hp))
      exact ⟨_, hok' p.2 _ z⟩
    refine ⟨rfl, ⟨fun b o e => ?_, fun b o e => ?_⟩, os, bare⟩
    · by_cases h : b ∈ T
      · obtain ⟨p, hp, rfl⟩ := outT h
        obtain ⟨more, hm⟩ := grown p hp
        rw [hT p hp] at e; cases e
        exact .inr (.inl ⟨((C p hp).tab (hT p hp)).isCodeTable, rfl, #[], more, rfl, by rw [Array.empty_append]; exact hm⟩)
      · exact .inl (key b o h e)
    · by_cases h : b ∈ T
      · obtain ⟨p, hp, rfl⟩ := outT h
        obtain ⟨more, hm⟩ := grown p hp
        exact ⟨_, hm⟩
      · exact ⟨o, key b o h e⟩
end DL

set_option Elab.async false
set_option autoImplicit false
set_option linter.all false
set_option maxRecDepth 100000
set_option maxHeartbeats 2000000
namespace DL
open PySem PySem.Spec PyProof.Rows L2
/-- what is known of the law's def at the head's heap h -/
def LawAtD (l : PySem.W.OpenLaw) (w : World) (K : PySem.W.Frag) (k n : Nat) (x : Str) (mg : Str → Option Value) (fa : Addr) (h : Heap) : Prop :=
  ∃ (fd : FuncData) (cs : List (Addr × Addr)) (G : Gc) (gd : Bool) (m : MF), (∀ p ∈ cs, h.get? p.2 = some { cls := .none, data := .fields #[] }) ∧ (∀ p ∈ cs, K.lookup p.2 = none) ∧ (∀ p ∈ cs, PySem.W.CodeHd h p.1 p.2) ∧ (∀ (s : Shared) (u : Value), BindsTo s fd ⟨[u], []⟩ [(x, u)]) ∧
    G.K = K ∧ (∀ p ∈ G.tabs, ∃ q ∈ cs, q.2 = p.1) ∧ (∀ ns : List Int, ns.length ≤ n → (∀ z ∈ ns, Builtin.Int.intBits z ≤ 1048576) → ∃ S, m [.cl (ns.map D.int)] [] = .ok (.v (.bl true)) S) ∧
    ∀ base : Heap, K.In base → base.Ns mainGlobals mg → (∀ p ∈ cs, LamX.TabB base mg p.1 p.2) → FnC l.prog w K mg base G gd k fa fd [x] m
theorem walk_D {l : PySem.W.OpenLaw} {n k : Nat} {q : Program} {loose : List Str} {XP : (Str → Option Value) → Heap → Prop} {YP : World → Heap → Prop} {d : DefRec} {x : Str}
    (hn : l.most = some n) (hn2 : n ≤ sizeLine) (hdf : d.params.defaults = []) (hr : Room k callerA)
    (F : ∀ (w : World) (mg : Str → Option Value) (fa : Addr) (h : Heap), YP w h → h.Ns mainGlobals mg → mg d.name = some (.ref fa) → ∃ K : PySem.W.Frag, K.In h ∧ LawAtD l w K k n x mg fa h) :
    PySem.W.WalkO q loose XP YP l.row.toRowW d [] (fun f vs => PySem.call f vs) := by
  refine Att.attach_callB hn hdf fun w s₀ s₁ mg mb fa o pm cd doc a vs ns G Y ho hd hcd hmg hobj hints hlen hbits hg => ?_
  obtain ⟨K, KX, fd, cs, Gc, gd, m, hT, nT, C, hb, hK, htb, hm, hF⟩ := F w mg fa _ Y G.T.g hmg
  exact law_end KX G.T.g G.T.b G.T.builtins G.T.nolimit hg hT nT C G.T.bmain hobj hints (Nat.le_trans hlen hn2) hr hK htb hF hb (hm ns hlen hbits)
end DL

set_option Elab.async false
set_option autoImplicit false
set_option linter.all false
set_option maxRecDepth 100000
set_option maxHeartbeats 2000000
namespace DL
open PySem PySem.Spec PyProof.Rows L2
/-! ## what the head tells -/
abbrev FnR : Type := Option (Str × Str × Arguments × FuncBody × Scope × Addr × List Str × Addr)
/-- a class's __init__ that closes over something -/
def rootW (K : PySem.W.Frag) (x : Str) : FnR := match K.lookup (He.ma K (He.ga K x) "__init__") with
  | some ⟨_, _, .func fd, _⟩ => some (fd.name, fd.qualname, fd.params, fd.body, fd.scope, fd.globals, fd.closure.map (·.1), fd.builtins)
  | _ => none
structure HdD where
  n : Nat
  fa : List He.Fa
  fn : List He.DefD
  tf : List He.Defn
  ex : PySem.W.Frag → Bool
  root : Str
  val : FnR
def HdD.as (d : HdD) (g : Addr → Option Obj) : List Addr := cStatics :: He.asD g d.n
def HdD.K (d : HdD) (g : Addr → Option Obj) : PySem.W.Frag := He.frT g (d.as g)
abbrev AlR : Type := (He.AlD × Bool) × FnR
def HdD.obs (d : HdD) (g : Addr → Option Obj) : AlR := ((He.obsD d.fa d.fn (d.K g), d.ex (d.K g) && He.tabsB g d.tf (d.K g)), rootW (d.K g) d.root)
structure HdD.Says (d : HdD) (h : Heap) (K : PySem.W.Frag) : Prop where
  t : He.SaysD d.fa d.fn K
  more : d.ex K = true
  hd : ∀ p ∈ d.tf, PySem.W.codeHdIn K (He.cT K p).1 (He.cT K p).2 = true
  out : ∀ p ∈ d.tf, K.lookup (He.cT K p).2 = none
  empty : ∀ p ∈ d.tf, h.get? (He.cT K p).2 = some { cls := .none, data := .fields #[] }
  root : rootW K d.root = d.val
theorem HdD.says_of {d : HdD} {h : Heap} (e : d.obs h.get? = ((He.valD d.fn, true), d.val)) : d.Says h (d.K h.get?) := by
  have e1 : He.obsD d.fa d.fn (d.K h.get?) = He.valD d.fn := congrArg (fun z : AlR => z.1.1) e
  have e2 : (d.ex (d.K h.get?) && He.tabsB h.get? d.tf (d.K h.get?)) = true := congrArg (fun z : AlR => z.1.2) e
  obtain ⟨h1, h2⟩ := Bool.and_eq_true_iff.mp e2
  have key : ∀ p ∈ d.tf, PySem.W.codeHdIn (d.K h.get?) (He.cT (d.K h.get?) p).1 (He.cT (d.K h.get?) p).2 = true ∧ ∃ o, h.get? (He.cT (d.K h.get?) p).2 = some o ∧ He.emptyTab o = true := fun p hp => by
    obtain ⟨h3, h4⟩ := Bool.and_eq_true_iff.mp (List.all_eq_true.mp h2 p hp)
    refine ⟨h3, ?_⟩
    revert h4
    cases h.get? (He.cT (d.K h.get?) p).2 with
    | none => exact fun h4 => nomatch h4
    | some o => exact fun h4 => ⟨o, rfl, h4⟩
  exact ⟨e1, h1, fun p hp => (key p hp).1, fun p hp => let ⟨_, o, q, z⟩ := key p hp; He.frT_none q z, fun p hp => let ⟨_, o, q, z⟩ := key p hp; by rw [q, He.emptyTab_eq z], congrArg (fun z : AlR => z.2) e⟩
def HdD.hook (d : HdD) : PySem.W.Hook where
  α := AlR
  obs := fun s => d.obs s.heap.get?
  val := fun _ => ((He.valD d.fn, true), d.val)
  says := fun _ h => ∃ K : PySem.W.Frag, K.In h ∧ d.Says h K
  of := fun _ _ e => ⟨_, He.frT_in, HdD.says_of e⟩
  keeps := fun _ _ _ ⟨K, hK, c⟩ k => ⟨K, PySem.W.Frag.In.keeps hK k, ⟨c.t, c.more, c.hd, c.out, fun p hp => k _ _ (c.empty p hp), c.root⟩⟩
theorem HdD.obs_eq {d : HdD} {g : Addr → Option Obj} {s : Shared} (h : ∀ a, g a = s.heap.get? a) : d.obs g = d.hook.obs s := by
  have e : g = s.heap.get? := funext h
  rw [e] <;> rfl
/-! ### error classes -/
def eqV (a b : Option Value) : Bool := decide (a = b)
def veT : List Value → Bool := PySem.HandSPX.refsVE
/-- the class at C below the root at D -/
def errB (K : PySem.W.Frag) (C D : Addr) : Bool :=
  (match K.lookup C with
    | some ⟨.type "type", _, .cls cd, sl⟩ => (match cd.mro, sl.toList with
      | .ref C' :: bm, [_, _, _, _, some (.builtin n), _] => decide (C' = C) && decide (n = "ValueError.__new__") && !cd.hasDel && cd.hasDict && PySem.HandSPX.refsVE bm
      | _, _ => false)
    | _ => false) &&
  He.eqO (PySem.W.findIn K (.ref C) "__setattr__") (some (some (.builtin "object.__setattr__"))) && decide (PySem.W.subIn K (.ref C) (.type "BaseException") = some true) && decide (PySem.W.typeIn K (.ref C) = some (.type "type")) && PySem.W.keepIn K (.ref C) &&
  decide (PySem.W.mroIn K C (.ref D) = some true) && He.eqO (PySem.W.ks_superIn K C D "__init__") (some (some (.builtin "ValueError.__init__"))) && decide (PySem.W.subIn K (.ref C) (.type "ValueError") = some true) && He.eqO (PySem.W.findIn K (.ref C) "value") (some none)
theorem errB_ok {K : PySem.W.Frag} {C D : Addr} (h : errB K C D = true) : ErC K C D := by
  unfold errB at h
  simp only [Bool.and_eq_true, decide_eq_true_eq] at h
  obtain ⟨⟨⟨⟨⟨⟨⟨⟨h1, h2⟩, h3⟩, h4⟩, h5⟩, h6⟩, h7⟩, h8⟩, h9⟩ := h
  refine ⟨⟨?_, He.eqO_ok h2, h3, h4, h5⟩, h6, He.eqO_ok h7, h8, He.eqO_ok h9⟩
  split at h1
  · rename_i dd cd sl hk
    split at h1
    · rename_i C' bm k0 k1 k2 k3 n k5 e1 e2
      simp only [Bool.and_eq_true, decide_eq_true_eq, Bool.not_eq_true'] at h1
      obtain ⟨⟨⟨⟨q1, q2⟩, q3⟩, q4⟩, q5⟩ := h1
      subst q1 q2
      obtain ⟨nm, bs, mro, ns, qn, hd, sn, sb, ab, col, del⟩ := cd
      simp only at e1 q3 q4
      subst e1 q3 q4
      have e3 : sl = #[k0, k1, k2, k3, some (.builtin "ValueError.__new__"), k5] := by
        rw [← e2]
      subst e3
      exact ⟨_, _, _, _, _, _, _, _, _, _, _, _, _, _, _, hk, q5⟩
    · cases h1
  · cases h1
end DL

set_option Elab.async false
set_option autoImplicit false
set_option linter.all false
set_option maxRecDepth 100000
set_option maxHeartbeats 2000000
namespace DL
open PySem PySem.Spec PyProof.Rows L2
def excCB (K : PySem.W.Frag) (D : Addr) : Bool :=
  He.eqO (PySem.W.findIn K (.ref D) "__getattribute__") (some (some (.builtin "BaseException.__getattribute__"))) && He.eqO (PySem.W.findIn K (.ref D) "__getattr__") (some none) && decide (PySem.W.subIn K (.ref D) (.type "BaseException") = some true) && PySem.W.hasDictIn K D &&
  He.eqO (PySem.W.findIn K (.ref D) "__class__") (some (some (.builtin "object.__class__"))) && He.eqO (PySem.W.specialIn K (.builtin "object.__class__") "__get__") (some (some (.builtin "getset_descriptor.__get__"))) &&
  decide (PySem.W.takesIn K (.builtin "object.__class__") = some true) && decide (PySem.W.mroIn K D (.type "object") = some true)
theorem excCB_ok {K : PySem.W.Frag} {D : Addr} (h : excCB K D = true) : ExcC K D := by
  unfold excCB at h
  simp only [Bool.and_eq_true, decide_eq_true_eq] at h
  obtain ⟨⟨⟨⟨⟨⟨⟨h1, h2⟩, h3⟩, h4⟩, h5⟩, h6⟩, h7⟩, h8⟩ := h
  exact ⟨He.eqO_ok h1, He.eqO_ok h2, h3, h4, He.eqO_ok h5, He.eqO_ok h6, h7, h8⟩
/-- the root's __init__: its function object, its cell, its code -/
def rootB (K : PySem.W.Frag) (x file : Str) : Bool := match K.lookup (He.ma K (He.ga K x) "__init__") with
  | some ⟨_, _, .func fd, _⟩ => (match fd.closure, fd.code, fd.defaults with
    | [(_, cc)], .ref cda, .none => PySem.W.codeIn K (.ref cda) fd.qualname && (match K.lookup cda with
      | some ⟨_, _, .fields vs, _⟩ => (match (vs[2]? : Option Value) with
        | some (.str f _) => (file == f)
        | _ => false)
      | _ => false) && (match K.lookup cc with
      | some ⟨_, _, .cell (some (.ref D)), _⟩ => decide (D = He.ga K x)
      | _ => false)
    | _, _, _ => false)
  | _ => false
def rootF (K : PySem.W.Frag) (x file : Str) : Bool := rootB K x file && (PySem.W.clsIn K (He.ga K x)).isSome && He.eqO (PySem.W.nsIn K cStatics "thirdparty.any") (some none) && PySem.W.isFn K (.ref (He.ma K (He.ga K x) "__init__"))
section
variable {P : Program} {w : World} {K : PySem.W.Frag} {mg : Str → Option Value} {base : Heap} {x qual : Str} {params : Arguments} {scope : Scope} {ar : Arg} {p0 p1 p2 p3 p4 p5 p6 p7 p8 p9 : Pos} {pl : Sem Bool}
theorem root_ok (hev : ∀ env : PySem.Env, eval (.Call (.Attribute (.Call (.Name "super" p0) [] [] p1) "__init__" p2) [.Name "value" p3] [] p4) env = (do
      let ov ← attributeBase (.Call (.Name "super" p0) [] [] p1) "__init__" env (eval (.Call (.Name "super" p0) [] [] p1) env)
      standAt p2.atName
      let (f, first) ← holding [ov] (getMethod ov "__init__" pl)
      callWith p4 f first (backTo p4 (starEach [.Name "value" p3] env)) []))
    (hw : rootW K x = some (("__init__" : Str), qual, params, FuncBody.stmts (iniB p0 p1 p2 p3 p4 p5 p6 p7 p8 p9), scope, mainGlobals, [("__class__" : Str)], builtinsNs)) (hb : rootF K x P.main.file = true)
    (hbind : ∀ (kV doc pm : Value) (an : Option Addr) (cdv ct : Value) (cc : Addr) (us : List Value), us.length = 2 → bindArgs (PySem.W.ksFn "__init__" qual params (iniB p0 p1 p2 p3 p4 p5 p6 p7 p8 p9) scope .none kV doc pm an cdv ct cc) ⟨us, []⟩ = pure ((["self", "value"] : List Str).zip us))
    (hp : (params.posonlyargs ++ params.args).head? = some ar) (har : ar.arg = "self")
    (hks : scope.names.lookup ("super" : Str) = some .globalImplicit) (hkc : scope.names.lookup ("__class__" : Str) = some .free) (h1 : scope.names.lookup ("self" : Str) = some .local) (h2 : scope.names.lookup ("value" : Str) = some .local)
    (hnc : ∀ x ∈ scope.names, x.2 ≠ .cell) (hk : scope.kind = .function) (hco : scope.isCoroutine = false) (hgen : scope.isGenerator = false) (htop : (P.main.scope.names.lookup ("super" : Str)).isSome = false) (hms : mg "super" = none) :
    RootC P w K mg base (He.ma K (He.ga K x) "__init__") (He.ga K x) ∧ PySem.W.typeIn K (.ref (He.ma K (He.ga K x) "__init__")) = some (.type "function") := by
  unfold rootF at hb
  simp only [Bool.and_eq_true] at hb
  obtain ⟨⟨⟨b1, b2⟩, b3⟩, b4⟩ := hb
  refine ⟨?_, beq_iff_eq.mp b4⟩
  unfold rootW at hw
  unfold rootB at b1
  cases hl : K.lookup (He.ma K (He.ga K x) "__init__") with
  | none => rw [hl] at hw; cases hw
  | some o =>
    obtain ⟨oc, od, dt, osl⟩ := o
    rw [hl] at hw b1
    cases dt with
    | func fd =>
      obtain ⟨n1, n2, n3, n4, n5, n6, n7, n8, n9, n10, n11, n12, n13, n14, n15⟩ := fd
      simp only [Option.some.injEq, Prod.mk.injEq] at hw
      obtain ⟨rfl, rfl, rfl, rfl, rfl, rfl, e7, rfl⟩ := hw
      simp only at b1
      split at b1
      · rename_i nm cc cda
        simp only [List.map_cons, List.map_nil, List.cons.injEq, and_true] at e7
        subst e7
        simp only [Bool.and_eq_true] at b1
        obtain ⟨⟨c1, c2⟩, c3⟩ := b1
        cases k2 : K.lookup cda with
        | none => rw [k2] at c2; cases c2
        | some o2 =>
          obtain ⟨ccl, cdd, dt2, ccs⟩ := o2
          rw [k2] at c2
          cases dt2 with
          | fields vs =>
            simp only at c2
            split at c2
            · rename_i f tf hvs
              cases k3 : K.lookup cc with
              | none => rw [k3] at c3; cases c3
              | some o3 =>
                obtain ⟨cl, cld, dt3, csl⟩ := o3
                rw [k3] at c3
                split at c3
                · rename_i D hD
                  cases hD
                  have c3 := of_decide_eq_true c3
                  subst c3
                  intro A R h g d t os C e t0 u M T hroom hbs he hnb hq
                  refine root_init hev hl (fun s us X hlen => ?_) hp har c1 k2 hvs c2 k3 b2 (He.eqO_ok b3) hks hkc h1 h2 hnc hk hco hgen htop hms M T hroom hbs he hnb hq
                  rw [List.append_nil] at hlen ⊢
                  exact BindsTo.of_eq (hbind _ _ _ _ _ _ _ us hlen)
                · cases c3
            · cases c2
          | _ => cases c2
      · cases b1
    | _ => cases hw
end
end DL

set_option Elab.async false
set_option autoImplicit false
set_option linter.all false
set_option maxRecDepth 100000
set_option maxHeartbeats 2000000
namespace DL
open PySem PySem.Spec PyProof.Rows L2
/-! ## the errors of a package: their names, the first one the root's -/
def clsOf (K : PySem.W.Frag) (er : List Str) (c : Nat) : Addr := He.ga K (er.getD c Str.empty)
/-- one error class -/
def erB (K : PySem.W.Frag) (root x : Str) : Bool := errB K (He.ga K x) (He.ga K root) && excCB K (He.ga K x) && (PySem.W.clsIn K (He.ga K x)).isSome && He.eqO (PySem.W.findIn K (.ref (He.ga K x)) "__init__") (some (some (.ref (He.ma K (He.ga K root) "__init__")))) &&
  decide (PySem.W.exmOne K (.ref (He.ga K x)) (.ref (He.ga K root)) = some true)
def ersB (K : PySem.W.Frag) (root : Str) (er : List Str) : Bool := er.all (erB K root)
def tys : List Ty := [.non, .bl, .int, .str, .tup, .lst, .dic]
theorem tys_all (T : Ty) : T ∈ tys := by cases T <;> decide
/-- the class x as isinstance's second argument: bs tells of each error whether it is below x -/
def isB (K : PySem.W.Frag) (er : List Str) (x : Str) (bs : List Bool) : Bool := tys.all (fun T => decide (PySem.W.kitOne K (.type T.nm) (.ref (He.ga K x)) = some false)) && decide (bs.length ≤ er.length) &&
  (List.range bs.length).all fun c => decide (PySem.W.kitOne K (.ref (clsOf K er c)) (.ref (He.ga K x)) = some (bs.getD c false))
theorem ersB_at {K : PySem.W.Frag} {root : Str} {er : List Str} (h : ersB K root er = true) {c : Nat} (hc : c < er.length) : erB K root (er.getD c Str.empty) = true := by
  rw [List.getD_eq_getElem?_getD, List.getElem?_eq_getElem hc]
  exact List.all_eq_true.mp h _ (List.getElem_mem hc)
theorem erB_ok {K : PySem.W.Frag} {root x : Str} (h : erB K root x = true) : ErC K (He.ga K x) (He.ga K root) ∧ ExcC K (He.ga K x) ∧ (PySem.W.clsIn K (He.ga K x)).isSome = true ∧ PySem.W.findIn K (.ref (He.ga K x)) "__init__" = some (some (.ref (He.ma K (He.ga K root) "__init__"))) ∧
    PySem.W.exmOne K (.ref (He.ga K x)) (.ref (He.ga K root)) = some true := by
  unfold erB at h
  simp only [Bool.and_eq_true, decide_eq_true_eq] at h
  obtain ⟨⟨⟨⟨h1, h2⟩, h3⟩, h4⟩, h5⟩ := h
  exact ⟨errB_ok h1, excCB_ok h2, h3, He.eqO_ok h4, h5⟩
section
variable {X : Cx} {G : Gc} {er : List Str} {root x : Str} {c : Nat} {bs : List Bool}
theorem erX_ok (hK : G.K = X.K) (hc : G.cls = clsOf X.K er) (h : ersB X.K root er = true) (R : RootC X.prog X.w X.K X.mg X.base (He.ma X.K (He.ga X.K root) "__init__") (He.ga X.K root) ∧ PySem.W.typeIn X.K (.ref (He.ma X.K (He.ga X.K root) "__init__")) = some (.type "function"))
    (hx : er[c]? = some x) (hm : X.mg x = some (.ref (He.ga X.K x))) : ErX X G x c := by
  have hlt : c < er.length := (List.getElem?_eq_some_iff.mp hx).1
  have e : clsOf X.K er c = He.ga X.K x := by
    unfold clsOf
    rw [List.getD_eq_getElem?_getD, hx]; rfl
  have hb := ersB_at h hlt
  rw [List.getD_eq_getElem?_getD, hx] at hb
  obtain ⟨h1, h2, h3, h4, h5⟩ := erB_ok hb
  exact ⟨⟨_, _, R.1, by rw [hc, e]; exact h1, by rw [hc, e]; exact h4, R.2⟩, by rw [hc, e]; exact hm⟩
theorem errI_ok (hc : G.cls = clsOf X.K er) (h : ersB X.K root er = true) : ErrI X G (List.range er.length) := fun c hm => by
  obtain ⟨h1, h2, h3, h4, h5⟩ := erB_ok (ersB_at h (List.mem_range.mp hm))
  rw [hc]
  exact ⟨h2, h1.noV, h3⟩
theorem exm_all (hc : G.cls = clsOf X.K er) (h : ersB X.K root er = true) : ∀ c ∈ List.range er.length, PySem.W.exmOne X.K (.ref (G.cls c)) (.ref (He.ga X.K root)) = some true := fun c hm => by
  obtain ⟨h1, h2, h3, h4, h5⟩ := erB_ok (ersB_at h (List.mem_range.mp hm))
  rw [hc]
  exact h5
def tbOf (bs : List Bool) : List (Nat × Bool) := (List.range bs.length).map fun c => (c, bs.getD c false)
theorem tbOf_at {bs : List Bool} {c : Nat} {b : Bool} (h : (tbOf bs).lookup c = some b) : c < bs.length ∧ b = bs.getD c false := by
  have go : ∀ l : List Nat, (l.map fun c => (c, bs.getD c false)).lookup c = some b → c ∈ l ∧ b = bs.getD c false := by
    intro l
    induction l with
    | nil => intro h; cases h
    | cons i r ih =>
      intro h
      rw [List.map_cons, List.lookup_cons] at h
      by_cases e : c = i
      · subst e
        simp only [beq_self_eq_true, Option.some.injEq] at h
        exact ⟨by simp, h.symm⟩
      · have e2 : (c == i) = false := by simpa using e
        rw [e2] at h
        obtain ⟨h1, h2⟩ := ih h
        exact ⟨by simp [h1], h2⟩
  obtain ⟨h1, h2⟩ := go _ h
  exact ⟨List.mem_range.mp h1, h2⟩
theorem isC_ok (hc : G.cls = clsOf X.K er) (h : ersB X.K root er = true) (hb : isB X.K er x bs = true) (hm : X.mg x = some (.ref (He.ga X.K x))) : IsC X G x (tbOf bs) := by
  unfold isB at hb
  simp only [Bool.and_eq_true, decide_eq_true_eq, List.all_eq_true] at hb
  obtain ⟨⟨h1, h2⟩, h3⟩ := hb
  refine ⟨_, hm, fun T => h1 T (tys_all T), fun c b hl => ?_⟩
  obtain ⟨q1, rfl⟩ := tbOf_at hl
  obtain ⟨g1, g2, g3, g4, g5⟩ := erB_ok (ersB_at h (Nat.lt_of_lt_of_le q1 h2))
  rw [hc]
  exact ⟨g2, g3, h3 c (List.mem_range.mpr q1)⟩
end
end DL

set_option Elab.async false
set_option autoImplicit false
set_option linter.all false
set_option maxRecDepth 100000
set_option maxHeartbeats 2000000
namespace DL
open PySem PySem.Spec PyProof.Rows L2
/-- the module's name x is a def of n parameters that does m -/
def Has (P : Program) (w : World) (K : PySem.W.Frag) (mg : Str → Option Value) (base : Heap) (G : Gc) (x : Str) (gd : Bool) (k n : Nat) (m : MF) : Prop :=
  ∃ (f : Addr) (fd : FuncData) (ps : List Str), mg x = some (.ref f) ∧ PySem.W.keepIn K (.ref f) = true ∧ L2.Binds K fd ps [] ∧ ps.length = n ∧ FnC P w K mg base G gd k f fd ps m
section
variable {P : Program} {w : World} {K : PySem.W.Frag} {mg : Str → Option Value} {base : Heap} {G : Gc} {gd : Bool} {k n : Nat} {f : Addr} {fd : FuncData} {N ps : List Str} {m : MF} {ms : MS} {x qual : Str} {params : Arguments} {body : List Stmt} {scope : Scope}
theorem has_of {kws : List (Str × V)} (F : FunD K x qual params body scope [] kws f fd) (g : mg x = some (.ref f)) (S : FnScope N ps scope)
    (hb : ∀ (kV doc pm : Value) (an : Option Addr) (cdv ct : Value) (us : List Value), us.length = ps.length → bindArgs (PySem.W.fnOf x qual params body scope .none kV doc pm an cdv ct) ⟨us, []⟩ = pure (ps.zip us)) (hn : ps.length = n)
    (hm : ∀ α H S ds Q E, α.length = S.length → Gr G α H (m ds S) Q E → Gr G α H (mBody ms (startE N.length ds) S) Q E)
    (h : ∀ (cdv : Value) (A : Around) (outer : List PySem.Env) (s : Shared) (H : Hp) (E : XK), Room k (A.deeper (envOfC qual scope s.heap.objs.size f cdv)) → (gd = true → A.guards = some []) → XSs (cxOf (L2.CX P w) P w K mg base N qual scope f cdv A outer s H E) G body ms) :
    Has P w K mg base G x gd (k + 1) n m := ⟨f, fd, ps, g, F.kp, F.bindsN hb, hn, fnC_of F S hm h⟩
theorem Has.up {j : Nat} (h : Has P w K mg base G x gd k n m) (hj : k ≤ j) : Has P w K mg base G x gd j n m := let ⟨f, fd, ps, h1, h2, h3, h4, h5⟩ := h; ⟨f, fd, ps, h1, h2, h3, h4, h5.mono hj⟩
end
section
variable {X : Cx} {G : Gc} {gd : Bool} {k j n : Nat} {m : MF} {x : Str} {p pos : Pos} {e : Expr} {es : List Expr} {ma : MA}
theorem xe_callH (H : Has X.prog X.w X.K X.mg X.base G x gd k n m) (hr : Room j X.A) (hj : k ≤ j) (hgd : gd = true → X.A.guards = some []) (hg : Gl X x) (ha : XA X G (e :: es) ma) (hdb : (x == ("__debug__" : Str)) = false := by decide)
    (he : starEach (e :: es) X.env = (false, eval e X.env) :: starEach es X.env := by rfl) (hpl : (backTo pos (starEach es X.env)).any (·.1) = false := by rfl) : XE X G (.Call (.Name x p) (e :: es) [] pos) (mFn n m ma) := by
  obtain ⟨f, fd, ps, h1, h2, h3, h4, h5⟩ := H
  subst h4
  exact xe_call (callsTo_C h5 (hr.mono hj) hgd h3) hg h1 h2 ha hdb he hpl
theorem xe_callH0 (H : Has X.prog X.w X.K X.mg X.base G x gd k n m) (hr : Room j X.A) (hj : k ≤ j) (hgd : gd = true → X.A.guards = some []) (hg : Gl X x) (hdb : (x == ("__debug__" : Str)) = false := by decide) : XE X G (.Call (.Name x p) [] [] pos) (mFn n m mNilA) := by
  obtain ⟨f, fd, ps, h1, h2, h3, h4, h5⟩ := H
  subst h4
  exact xe_call0 (callsTo_C h5 (hr.mono hj) hgd h3) hg h1 h2 hdb
/-- the def that hears, from its text -/
theorem hearC_ok {x ct : Str} {cs : List Nat} {CT : Addr} {params : Arguments} {sg : Scope} {kws : List (Str × V)} {g : Addr} {fd : FuncData} {k0 k1 k2 : Nat} {j0 j1 : Nat} {q0 q1 q2 q3 q4 q5 q6 q7 q8 q9 q10 q11 q12 q13 q14 q15 q16 q17 q18 q19 q20 : Pos}
    (F : FunD X.K x x params (hearB ct k0 k1 k2 j0 j1 q0 q1 q2 q3 q4 q5 q6 q7 q8 q9 q10 q11 q12 q13 q14 q15 q16 q17 q18 q19 q20) sg [] kws g fd) (hm : X.mg x = some (.ref g)) (S : FnScope hearN ["call"] sg)
    (hb : ∀ (kV doc pm : Value) (an : Option Addr) (cdv ct' : Value) (us : List Value), us.length = 1 → bindArgs (PySem.W.fnOf x x params (hearB ct k0 k1 k2 j0 j1 q0 q1 q2 q3 q4 q5 q6 q7 q8 q9 q10 q11 q12 q13 q14 q15 q16 q17 q18 q19 q20) sg .none kV doc pm an cdv ct') ⟨us, []⟩ = pure ((["call"] : List Str).zip us))
    (h1 : sg.names.lookup ("call" : Str) = some .local) (h2 : sg.names.lookup ("caught" : Str) = some .local) (h3 : sg.names.lookup ("gave" : Str) = some .local) (h4 : sg.names.lookup ("error" : Str) = some .local)
    (hct : sg.names.lookup ct = some .globalImplicit) (hmt : X.mg ct = some (.ref CT)) (hdt : (ct == ("__debug__" : Str)) = false)
    (hw : ∀ (s : Shared) (A : Around) (H : Hp) (cdg : Value), swappedStores [.Tuple [.Name "caught" q0, .Name "gave" q1] k0 q2] (.Tuple [.Constant .none j0 q3, .Constant .none j1 q4] k1 q5) (envOfC x sg s.heap.objs.size g cdg) = pure none)
    (hex : ∀ c ∈ cs, PySem.W.exmOne X.K (.ref (G.cls c)) (.ref CT) = some true) : HearC X G x cs := by
  have hbn := F.bindsN (ps := ["call"]) hb
  obtain ⟨oc, od, dV, kV, doc, pm, an, cdv, ct', osl, rfl, lk, hcd, hD, _⟩ := F.ex
  exact ⟨g, CT, params, _, sg, dV, kV, doc, pm, cdv, ct', oc, an, od, osl, hm, F.kp, lk, hcd, hbn, S, hex, fun q => heard_hears h1 h2 h3 h4 hct hmt hdt fun s A H => hw s A H cdv⟩
end
end DL

set_option Elab.async false
set_option autoImplicit false
set_option linter.all false
set_option maxRecDepth 100000
set_option maxHeartbeats 2000000
namespace DL
open PySem PySem.Spec PyProof.Rows L2
/-- what nearly every rule asks of its context -/
structure Ok (X : Cx) (G : Gc) : Prop where
  c : X.calm = true
  g : GOk X G
  u : X.A.units + 64 < cLine
  n : X.N.Nodup
section
variable {X : Cx} {G : Gc}
theorem Ok.blk (O : Ok X G) {s : Shared} {H : Hp} {scope : Scope} {cenv : PySem.Env} {fp : List Addr} : Ok (X.blk s H scope cenv fp) G := ⟨O.c, ⟨O.g.K, O.g.P, O.g.w⟩, O.u, O.n⟩
theorem cEq (O : Ok X G) : OpR X (compareOp .Eq) (rEqP G.K false) := by rw [← O.g.K]; exact op_eqP O.u
theorem cNe (O : Ok X G) : OpR X (compareOp .NotEq) (rEqP G.K true) := by rw [← O.g.K]; exact op_neP O.u
theorem cLt (O : Ok X G) : OpR X (compareOp .Lt) (rOrd G.K fun d e => PySem.W.dataLt d e) := by rw [← O.g.K]; exact op_ltP O.u
theorem cGt (O : Ok X G) : OpR X (compareOp .Gt) (rOrd G.K fun d e => PySem.W.dataLt e d) := by rw [← O.g.K]; exact op_gtP O.u
theorem cLe (O : Ok X G) : OpR X (compareOp .LtE) (rOrd G.K fun d e => !PySem.W.dataLt e d) := by rw [← O.g.K]; exact op_leP O.u
theorem cGe (O : Ok X G) : OpR X (compareOp .GtE) (rOrd G.K fun d e => !PySem.W.dataLt d e) := by rw [← O.g.K]; exact op_geP O.u
theorem cIn (O : Ok X G) : OpR X (compareOp .In) (rInA G false) := op_inA O.u O.g
theorem cNotIn (O : Ok X G) : OpR X (compareOp .NotIn) (rInA G true) := op_notInA O.u O.g
theorem cIs : OpR X (compareOp .Is) (rIsN false) := op_isNN
theorem cIsNot : OpR X (compareOp .IsNot) (rIsN true) := op_notNN
theorem bAdd (O : Ok X G) : OpR X (binaryOp .Add) (rAddA G.K) := by rw [← O.g.K]; exact op_addA
theorem bMul (O : Ok X G) : OpR X (binaryOp .Mult) (rMulA G.K) := by rw [← O.g.K]; exact op_mulA
end
end DL

set_option Elab.async false
set_option autoImplicit false
set_option linter.all false
set_option maxRecDepth 100000
set_option maxHeartbeats 2000000
namespace DL
open PySem PySem.Spec PyProof.Rows L2
/-! ## what the head told, as the walks of the defs take it -/
def initOf : Stmt → Stmt
  | .ClassDef _ _ _ (st :: _) _ _ _ _ _ _ _ => st
  | st => st
def stm (l : List Stmt) (i : Nat) : Stmt := l.getD i (.Pass ⟨0, 0, 0, 0⟩)
def inBody : Stmt → List Stmt
  | .For _ _ b _ _ => b
  | .While _ b _ _ => b
  | .If _ b _ _ => b
  | _ => []
def inElse : Stmt → List Stmt
  | .If _ _ b _ => b
  | _ => []
/-- the root's __init__, as its text has it -/
def rootVal (qual : Str) (st : Stmt) : FnR := some ("__init__", qual, defArgs (initOf st), .stmts (defBody (initOf st)), defScope (initOf st), mainGlobals, ["__class__"], builtinsNs)
def tabsOf (K : PySem.W.Frag) (tf : List He.Defn) : List (Addr × Str) := tf.map fun p => ((He.cT K p).2, p.1 ++ ".<locals>." ++ "<lambda>")
structure Fx (d : HdD) (er : List Str) (isl : List (Str × List Bool)) (P : Program) (w : World) (K : PySem.W.Frag) (mg : Str → Option Value) (base : Heap) (G : Gc) : Prop where
  eP : G.P = P
  ew : G.w = w
  eK : G.K = K
  cls : G.cls = clsOf K er
  kin : K.In base
  ns : base.Ns mainGlobals mg
  says : He.SaysD d.fa d.fn K
  ers : ersB K d.root er = true
  is : ∀ (i : Nat) (p : Str × List Bool), isl[i]? = some p → isB K er p.1 p.2 = true
  root : RootC P w K mg base (He.ma K (He.ga K d.root) "__init__") (He.ga K d.root) ∧ PySem.W.typeIn K (.ref (He.ma K (He.ga K d.root) "__init__")) = some (.type "function")
  tab : ∀ p ∈ d.tf, LamX.TabB base mg (He.cT K p).1 (He.cT K p).2
  tabs : ∀ p ∈ d.tf, ((He.cT K p).2, p.1 ++ ".<locals>." ++ "<lambda>") ∈ G.tabs
  sep : ∀ p ∈ d.tf, ∀ q ∈ G.tabs, q.1 = (He.cT K p).2 → q.2 = p.1 ++ ".<locals>." ++ "<lambda>"
section
variable {d : HdD} {er : List Str} {isl : List (Str × List Bool)} {P : Program} {w : World} {K : PySem.W.Frag} {mg : Str → Option Value} {base : Heap} {G : Gc}
theorem Fx.free (Φ : Fx d er isl P w K mg base G) (i : Nat) {x : Str} (h : d.fa[i]? = some (.free x)) : mg x = none := He.free_ok Φ.kin Φ.ns (Φ.says.fact i h)
theorem Fx.glo (Φ : Fx d er isl P w K mg base G) (i : Nat) {x : Str} (h : d.fa[i]? = some (.glo x)) : mg x = some (.ref (He.ga K x)) := He.glo_ok Φ.kin Φ.ns (Φ.says.fact i h)
theorem Fx.int (Φ : Fx d er isl P w K mg base G) (i : Nat) {x : Str} {n : Int} (h : d.fa[i]? = some (.int x n)) : ∃ t, mg x = some (.int n t) := He.int_ok Φ.kin Φ.ns (Φ.says.fact i h)
theorem Fx.str (Φ : Fx d er isl P w K mg base G) (i : Nat) {x z : Str} (h : d.fa[i]? = some (.str x z)) : ∃ t, mg x = some (.str z t) := He.str_ok Φ.kin Φ.ns (Φ.says.fact i h)
variable {N : List Str} {qual : Str} {scope : Scope} {f : Addr} {cdv : Value} {A : Around} {outer : List PySem.Env} {s : Shared} {H : Hp} {E : XK} {k : Nat}
theorem Fx.ok (Φ : Fx d er isl P w K mg base G) (hN : N.Nodup) (hr : Room k (A.deeper (envOfC qual scope s.heap.objs.size f cdv))) : Ok (cxOf (L2.CX P w) P w K mg base N qual scope f cdv A outer s H E) G :=
  ⟨rfl, ⟨Φ.eK.symm, Φ.eP.symm, Φ.ew.symm⟩, hr.units, hN⟩
theorem hp_cx : ∀ W, Takes (cxOf (L2.CX P w) P w K mg base N qual scope f cdv A outer s H E) W → PassesOwn (model P w) (A.deeper (envOfC qual scope s.heap.objs.size f cdv)) (envOfC qual scope s.heap.objs.size f cdv) (cxOf (L2.CX P w) P w K mg base N qual scope f cdv A outer s H E).xe := fun _ _ => passes_of rfl
end
section
variable {d : HdD} {er : List Str} {isl : List (Str × List Bool)} {X : Cx} {G : Gc}
theorem Fx.erX (Φ : Fx d er isl X.prog X.w X.K X.mg X.base G) (c i : Nat) {x : Str} (hx : er[c]? = some x) (h : d.fa[i]? = some (.glo x)) : ErX X G x c := erX_ok Φ.eK Φ.cls Φ.ers Φ.root hx (Φ.glo i h)
theorem Fx.isC (Φ : Fx d er isl X.prog X.w X.K X.mg X.base G) (j i : Nat) {x : Str} {bs : List Bool} (hx : isl[j]? = some (x, bs)) (h : d.fa[i]? = some (.glo x)) : IsC X G x (tbOf bs) := isC_ok Φ.cls Φ.ers (Φ.is j _ hx) (Φ.glo i h)
theorem Fx.errI (Φ : Fx d er isl X.prog X.w X.K X.mg X.base G) : ErrI X G (List.range er.length) := errI_ok Φ.cls Φ.ers
theorem ok_lam {A : Around} {outer : List PySem.Env} {s : Shared} {H : Hp} {E : XK} {scope : Scope} {f c' : Addr} {k : Nat} (O : Ok X G) (hr : Room k (A.deeper (LamX.lamEnv X scope s.heap.objs.size f c'))) : Ok (LamX.lamCx X A outer s H E scope f c') G := ⟨rfl, ⟨O.g.K, O.g.P, O.g.w⟩, hr.units, O.n⟩
end
/-! ### a def whose code object is known (lambdas stand in it) -/
section
variable {P : Program} {w : World} {K : PySem.W.Frag} {mg : Str → Option Value} {base : Heap} {G : Gc} {gd : Bool} {k n : Nat} {fd : FuncData} {N ps : List Str} {m : MF} {ms : MS} {x qual : Str} {params : Arguments} {body : List Stmt} {scope : Scope} {p : He.Defn}
theorem fnC_ofL {dvs : List V} {kws : List (Str × V)} (F : FunD K x qual params body scope dvs kws (He.fAd K p) fd) (S : FnScope N ps scope)
    (hm : ∀ α H S ds Q E, α.length = S.length → Gr G α H (m ds S) Q E → Gr G α H (mBody ms (startE N.length ds) S) Q E)
    (h : ∀ (A : Around) (outer : List PySem.Env) (s : Shared) (H : Hp) (E : XK), Room k (A.deeper (envOfC qual scope s.heap.objs.size (He.fAd K p) (.ref (He.cT K p).1))) → (gd = true → A.guards = some []) → XSs (cxOf (L2.CX P w) P w K mg base N qual scope (He.fAd K p) (.ref (He.cT K p).1) A outer s H E) G body ms) :
    FnC P w K mg base G gd (k + 1) (He.fAd K p) fd ps m := by
  obtain ⟨oc, od, dV, kV, doc, pm, an, cdv, ct, osl, rfl, lk, hcd, _, _⟩ := F.ex
  obtain ⟨c, rfl⟩ := He.codeIn_ref hcd
  have ec : He.codeOf K p = c := He.codeOf_eq lk rfl
  subst ec
  refine ⟨fun A outer s H args us vs Q E hr hg e0 hb r hsp => ?_⟩
  refine LamX.run_ofS (CX := L2.CX P w) lk hcd S hr e0 hb r (spOf_len vs H Q E hsp) fun hr' => ?_
  obtain ⟨α, T, ds, rs, rd, e, g⟩ := hsp
  exact ⟨_, (h A outer s H E hr' hg).run _ (takes_of rfl rfl rfl rfl), body_reads rs rd (hm α H T ds Q E rs.len g)⟩
theorem has_ofL {kws : List (Str × V)} (F : FunD K x qual params body scope [] kws (He.fAd K p) fd) (g : mg x = some (.ref (He.fAd K p))) (S : FnScope N ps scope)
    (hb : ∀ (kV doc pm : Value) (an : Option Addr) (cdv ct : Value) (us : List Value), us.length = ps.length → bindArgs (PySem.W.fnOf x qual params body scope .none kV doc pm an cdv ct) ⟨us, []⟩ = pure (ps.zip us)) (hn : ps.length = n)
    (hm : ∀ α H S ds Q E, α.length = S.length → Gr G α H (m ds S) Q E → Gr G α H (mBody ms (startE N.length ds) S) Q E)
    (h : ∀ (A : Around) (outer : List PySem.Env) (s : Shared) (H : Hp) (E : XK), Room k (A.deeper (envOfC qual scope s.heap.objs.size (He.fAd K p) (.ref (He.cT K p).1))) → (gd = true → A.guards = some []) → XSs (cxOf (L2.CX P w) P w K mg base N qual scope (He.fAd K p) (.ref (He.cT K p).1) A outer s H E) G body ms) :
    Has P w K mg base G x gd (k + 1) n m := ⟨_, fd, ps, g, F.kp, F.bindsN hb, hn, fnC_ofL F S hm h⟩
/-- a def that calls itself: nothing is said at depth 0 -/
theorem has_bad {f : Addr} {kws : List (Str × V)} (F : FunD K x qual params body scope [] kws f fd) (g : mg x = some (.ref f))
    (hb : ∀ (kV doc pm : Value) (an : Option Addr) (cdv ct : Value) (us : List Value), us.length = ps.length → bindArgs (PySem.W.fnOf x qual params body scope .none kV doc pm an cdv ct) ⟨us, []⟩ = pure (ps.zip us)) (hn : ps.length = n) :
    Has P w K mg base G x gd k n (fun _ _ => .bad) := ⟨f, fd, ps, g, F.kp, F.bindsN hb, hn, fnC_bad⟩
end
/-! ### the rest of the rules -/
theorem pa_list : PlainAttrs "list" := PySem.F.plainAttrs_list
theorem pa_tuple : PlainAttrs "tuple" := PySem.F.plainAttrs_tuple
theorem pa_dict : PlainAttrs "dict" := PySem.F.plainAttrs_dict
theorem pa_str : PlainAttrs "str" := PySem.F.plainAttrs_str
def fAdd (i j : Int) : Option D := some (.int (i + j))
theorem op2_iadd {G : Gc} : Op2 G (rI0 fun i j => .int (i + j)) (gI fAdd) := op2_I0 fun i j d h => by cases h; exact fun _ _ => rfl
def mDct0 : ME := fun _ S => .ok (.fd []) S
theorem xe_dct0 {X : Cx} {G : Gc} {pos : Pos} : XE X G (.Dict [] [] pos) mDct0 := ⟨fun W t => PE.imp pe_dnewK fun σ H Q ⟨α, ρ, S, rs, rl, g⟩ p hn => g α _ _ ((Mid.refl rs rl).laid hn) ⟨p, rfl, .inl ⟨[], upd_same, .nil⟩, (Mid.refl rs rl).no hn, hn⟩⟩
/-! ### keywords -/
section
variable {X : Cx} {G : Gc} {gd : Bool} {k j n : Nat} {m : MF} {x : Str} {p pos : Pos} {kws : List Keyword} {ks : List Str} {is : List Nat} {ma : MA}
/-- the module's name x is a def that does m when it is called by the keywords ks, the parameters' values at the places is -/
def HasK (P : Program) (w : World) (K : PySem.W.Frag) (mg : Str → Option Value) (base : Heap) (G : Gc) (x : Str) (gd : Bool) (k : Nat) (ks : List Str) (is : List Nat) (m : MF) : Prop :=
  ∃ (f : Addr) (fd : FuncData) (ps : List Str), mg x = some (.ref f) ∧ PySem.W.keepIn K (.ref f) = true ∧ (∀ (s : Shared) (us : List Value), K.In s.heap → us.length = ks.length → BindsTo s fd ⟨[], ks.zip us⟩ (ps.zip (is.map fun i => us.getD i .none))) ∧ is.length = ps.length ∧ FnC P w K mg base G gd k f fd ps m
theorem xe_callKH (H : HasK X.prog X.w X.K X.mg X.base G x gd k ks is m) (hr : Room j X.A) (hj : k ≤ j) (hgd : gd = true → X.A.guards = some []) (hg : Gl X x) (his : ∀ i ∈ is, i < ks.length) (ha : XKw X G kws ma)
    (hall : (backToKw pos (keywordEach kws X.env)).all (·.1.isSome) = true := by rfl) (hks : (backToKw pos (keywordEach kws X.env)).filterMap (·.1) = ks := by rfl) (hdb : (x == ("__debug__" : Str)) = false := by decide)
    (hpl : ((backTo pos (starEach [] X.env)).any (·.1) || (backToKw pos (keywordEach kws X.env)).any (·.1.isNone)) = false := by rfl) : XE X G (.Call (.Name x p) [] kws pos) (mFnK ks.length is m ma) := by
  obtain ⟨f, fd, ps, h1, h2, h3, h4, h5⟩ := H
  exact xe_callK h5 (hr.mono hj) hgd hg h1 h2 h3 his h4 ha hall hks hdb hpl
end
section
variable {K : PySem.W.Frag} {fd : FuncData} {ps ks : List Str} {is : List Nat} {x qual : Str} {params : Arguments} {body : List Stmt} {scope : Scope} {f : Addr} {kws : List (Str × V)}
/-- keywords bind, by the def's text -/
theorem bindsK (F : FunD K x qual params body scope [] kws f fd)
    (h : ∀ (kV doc pm : Value) (an : Option Addr) (cdv ct : Value) (us : List Value), us.length = ks.length → bindArgs (PySem.W.fnOf x qual params body scope .none kV doc pm an cdv ct) ⟨[], ks.zip us⟩ = pure (ps.zip (is.map fun i => us.getD i .none))) :
    ∀ (s : Shared) (us : List Value), K.In s.heap → us.length = ks.length → BindsTo s fd ⟨[], ks.zip us⟩ (ps.zip (is.map fun i => us.getD i .none)) := fun s us _ hl => by
  obtain ⟨oc, od, dV, kV, doc, pm, an, cdv, ct, osl, rfl, lk, hcd, hD, hK⟩ := F.ex
  rcases hD with ⟨_, rfl⟩ | ⟨e, _⟩
  · exact .of_eq (h kV doc pm an cdv ct us hl)
  · exact absurd rfl e
end
end DL

set_option Elab.async false
set_option autoImplicit false
set_option linter.all false
set_option maxRecDepth 100000
set_option maxHeartbeats 4000000
namespace K94
open PySem PySem.Spec PyProof.Rows L2 DL
def errs : List Nat := List.range 4
def m_is_int : MS := (mRet (mAndV (mIsT .int (eV 0)) (mAndV (mNotV (mIsT .bl (eV 0))) (mTV (mChain (gLe) (gLe) (eV 1) (eV 0) (eV 2))))))
def M_is_int : MF := mFunC 3 m_is_int
def m_look_at_number : MS := (mIf (mNot (mB (mFn 3 M_is_int (mConsA (eV 0) (mConsA (eV 1) (mConsA (eV 2) mNilA)))))) (mRaise 1 (mConsA (eV 0) mNilA)) mNext)
def M_look_at_number : MF := mFunC 3 m_look_at_number
def m_common_L1 : MS := (mPar [0, 1] (mConsA (eV 1) (mConsA (m2 (gI fMod) (eV 0) (eV 1)) mNilA)))
def m_common : MS := (mSeq (mWhile (mCmp (gEq true) (eV 1) (eC (.int 0))) m_common_L1 100000) (mRet (eV 0)))
def M_common : MF := mFunC 2 m_common
def m_is_picture_C1 : MO1 := lcOne [2] (tgN 2) mYes (mFrz (mFn 3 M_is_int (mConsA (eV 2) (mConsA (eC (.int 0)) (mConsA (eG (.int 9)) mNilA)))))
def m_is_picture_L2 : MS := (mIf (mOr (mNot (mB (mIsT .tup (eV 1)))) (mOr (mCmp (gEq true) (mCall (g1 fLen) (mConsA (eV 1) mNilA)) (mCall (g1 fLen) (mConsA (eV 0) mNilA))) (mNot (mB (mCall (g1 fAll) (mConsA (mLc (mSrc (eV 1)) m_is_picture_C1 100000) mNilA)))))) (mRet (eC (.bl false))) mNext)
def m_is_picture_S1 : MS := (mFor (mSrc (eV 0)) (tgN 1) m_is_picture_L2 100000)
def m_is_picture : MS := (mSeq (mIf (mOr (mNot (mB (mIsT .tup (eV 0)))) (mNot (mChain (gLe) (gLe) (eC (.int 1)) (mCall (g1 fLen) (mConsA (eV 0) mNilA)) (eG (.int 8))))) (mRet (eC (.bl false))) mNext) (mSeq m_is_picture_S1 (mRet (eC (.bl true)))))
def M_is_picture : MF := mFunC 3 m_is_picture
def m_look_at_picture : MS := (mIf (mNot (mB (mFn 1 M_is_picture (mConsA (eV 0) mNilA)))) (mRaise 3 (mConsA (eV 0) mNilA)) mNext)
def M_look_at_picture : MF := mFunC 1 m_look_at_picture
def m_told_moved_C1 : MO1 := lcOne [4] (tgN 4) mYes (m2 (gMul) (mLst (mConsA (eC (.int 0)) mNilA)) (mCall (g1 fLen) (mConsA (eV 0) mNilA)))
def m_told_moved_L2 : MS := (mStore (eV 6) (m2 gIx (eV 2) (m2 gIx (eV 1) (eV 3))) (m2 gIx (eV 1) (eV 5)))
def m_told_moved_L3 : MS := (mFor (mEnum (mConsA (eV 4) mNilA)) (tgT (tgCons (tgN 5) (tgCons (tgN 6) tgNil))) m_told_moved_L2 100000)
def m_told_moved_C4 : MO1 := lcOne [4] (tgN 4) mYes (mFrz (mCall (g1 fTup) (mConsA (eV 4) mNilA)))
def m_told_moved : MS := (mSeq (mSet 2 (mLc (mSrc (eV 0)) m_told_moved_C1 100000)) (mSeq (mFor (mEnum (mConsA (eV 0) mNilA)) (tgT (tgCons (tgN 3) (tgCons (tgN 4) tgNil))) m_told_moved_L3 100000) (mRet (mCall (g1 fTup) (mConsA (mLc (mSrc (eV 2)) m_told_moved_C4 100000) mNilA)))))
def M_told_moved : MF := mFunC 7 m_told_moved
def m_marks_with_L1 : MS := (mMeth "list" fExtend (eV 3) (mConsA (mFrz (mLst (mConsA (m2 gIx (m2 gIx (eV 0) (eV 2)) (eV 4)) (mConsA (m2 gIx (m2 gIx (eV 0) (eV 4)) (eV 2)) mNilA)))) mNilA))
def m_marks_with : MS := (mSeq (mSet 3 (mLst mNilA)) (mSeq (mFor (mSrc (eV 1)) (tgN 4) m_marks_with_L1 100000) (mRet (mTup (mStarA (eV 3) (mConsA (m2 gIx (m2 gIx (eV 0) (eV 2)) (eV 2)) mNilA))))))
def M_marks_with : MF := mFunC 5 m_marks_with
def m_least_orders_C1 : MO1 := lcOne [7] (tgN 7) (mCmp (gIn true) (eV 7) (eV 6)) (eV 7)
def m_least_orders_L2 : MS := (mSeq (mSet 8 (mFn 3 M_marks_with (mConsA (eV 0) (mConsA (eV 6) (mConsA (eV 7) mNilA))))) (mSeq (mIf (mOr (mCmp (gIsN false) (eV 4) (eC .non)) (mCmp (gLt) (eV 8) (eV 4))) (mFrzS 8 (mPar [4, 5] (mConsA (eV 8) (mConsA (mLst mNilA) mNilA)))) mNext) (mIf (mCmp (gEq false) (eV 8) (eV 4)) (mMeth "list" fAppend (eV 5) (mConsA (mTup (mStarA (eV 6) (mConsA (eV 7) mNilA))) mNilA)) mNext)))
def m_least_orders_S1 : MS := (mFor (mSrc (mFrz (mLc (mRg1 (mCall (g1 fLen) (mConsA (eV 0) mNilA))) m_least_orders_C1 100000))) (tgN 7) m_least_orders_L2 100000)
def m_least_orders_L4 : MS := m_least_orders_S1
def m_least_orders_L5 : MS := (mSeq (mPar [4, 5] (mConsA (eC .non) (mConsA (mLst mNilA) mNilA))) (mSeq (mFrzS 2 (mFor (mSrc (eV 2)) (tgN 6) m_least_orders_L4 100000)) (mFrzS 5 (mPar [1, 2] (mConsA (mTup (mStarA (eV 1) (mStarA (eV 4) mNilA))) (mConsA (eV 5) mNilA))))))
def m_least_orders : MS := (mSeq (mPar [1, 2] (mConsA (mTup mNilA) (mConsA (mLst (mConsA (mTup mNilA) mNilA)) mNilA))) (mSeq (mFor (mRg1 (mCall (g1 fLen) (mConsA (eV 0) mNilA))) (tgN 3) m_least_orders_L5 100000) (mFrzS 2 (mRet (mTup (mConsA (eV 1) (mConsA (eV 2) mNilA)))))))
def M_least_orders : MF := mFunC 9 m_least_orders
def m_position_by_L1 : MS := (mStore (eV 2) (eV 1) (eV 3))
def m_position_by : MS := (mSeq (mSet 1 (m2 (gMul) (mLst (mConsA (eC (.int 0)) mNilA)) (mCall (g1 fLen) (mConsA (eV 0) mNilA)))) (mSeq (mFor (mEnum (mConsA (eV 0) mNilA)) (tgT (tgCons (tgN 2) (tgCons (tgN 3) tgNil))) m_position_by_L1 100000) (mRet (mCall (g1 fTup) (mConsA (eV 1) mNilA)))))
def M_position_by : MF := mFunC 4 m_position_by
def m_least_picture_C1 : MO1 := lcOne [4] (tgN 4) mYes (mFrz (mFn 1 M_position_by (mConsA (eV 4) mNilA)))
def m_least_picture : MS := (mSeq (mExpr (mFn 1 M_look_at_picture (mConsA (eV 0) mNilA))) (mSeq (mUnp (tgT (tgCons (tgN 1) (tgCons (tgN 2) tgNil))) (mFn 1 M_least_orders (mConsA (eV 0) mNilA))) (mSeq (mSet 3 (mCall (g1 (fBest D.lt)) (mConsA (mLc (mSrc (eV 2)) m_least_picture_C1 100000) mNilA))) (mRet (mTup (mConsA (mFrz (mFn 2 M_told_moved (mConsA (eV 0) (mConsA (eV 3) mNilA)))) (mConsA (eV 3) mNilA)))))))
def M_least_picture : MF := mFunC 5 m_least_picture
def m_size_lots_C1 (m_rec : MF) : MO1 := lcOne [4] (tgN 4) mYes (mTup (mConsA (eV 3) (mStarA (eV 4) mNilA)))
def m_size_lots_L2 (m_rec : MF) : MS := (mMeth "list" fExtend (eV 2) (mConsA (mFrz (mLc (mSrc (mFrz (mFn 2 m_rec (mConsA (mFrz (m2 (gI fSub) (eV 0) (eV 3))) (mConsA (eV 3) mNilA))))) (m_size_lots_C1 m_rec) 100000)) mNilA))
def m_size_lots (m_rec : MF) : MS := (mSeq (mIf (mCmp (gEq false) (eV 0) (eC (.int 0))) (mRet (mLst (mConsA (mTup mNilA) mNilA))) mNext) (mSeq (mSet 2 (mLst mNilA)) (mSeq (mFor (mRg2 (mConsA (eC (.int 1)) (mConsA (m2 (gAdd) (mCall (g2 (fII iMin)) (mConsA (eV 0) (mConsA (eV 1) mNilA))) (eC (.int 1))) mNilA))) (tgN 3) (m_size_lots_L2 m_rec) 100000) (mRet (eV 2)))))
def M_size_lots : Nat → MF
  | 0 => fun _ _ => .bad
  | n + 1 => mFunC 5 (m_size_lots (M_size_lots n))
def m_positions_with_L1 : MS := (mSet 1 (m2 (gMul) (eV 1) (eV 3)))
def m_positions_with_L2 : MS := (mSet 2 (m2 (gMul) (m2 (gMul) (eV 2) (eV 4)) (eV 6)))
def m_positions_with_L3 : MS := (mSeq (mSet 5 (mBm .tuple gCountT (eV 0) (mConsA (eV 4) mNilA))) (mFor (mRg2 (mConsA (eC (.int 1)) (mConsA (m2 (gAdd) (eV 5) (eC (.int 1))) mNilA))) (tgN 6) m_positions_with_L2 100000))
def m_positions_with : MS := (mSeq (mUnp (tgT (tgCons (tgN 1) (tgCons (tgN 2) tgNil))) (mTup (mConsA (eC (.int 1)) (mConsA (eC (.int 1)) mNilA)))) (mSeq (mFor (mRg2 (mConsA (eC (.int 1)) (mConsA (m2 (gAdd) (mCall (g1 fSum) (mConsA (eV 0) mNilA)) (eC (.int 1))) mNilA))) (tgN 3) m_positions_with_L1 100000) (mSeq (mFor (mSrc (mFrz (mSortSet (eV 0)))) (tgN 4) m_positions_with_L3 100000) (mRet (m2 (gI fDiv) (eV 1) (eV 2))))))
def M_positions_with : MF := mFunC 7 m_positions_with
def m_pair_rings_L1 : MS := (mIf (mCmp (gEq true) (eV 3) (eV 5)) (mAug 2 (gI fAdd) (mFn 2 M_common (mConsA (eV 4) (mConsA (eV 6) mNilA)))) mNext)
def m_pair_rings_L2 : MS := (mSeq (mFor (mEnum (mConsA (eV 0) mNilA)) (tgT (tgCons (tgN 5) (tgCons (tgN 6) tgNil))) m_pair_rings_L1 100000) (mAug 2 (gI fAdd) (mIfE (mCmp (gEq false) (eV 1) (eG (.str "any"))) (eV 4) (m2 (gI fSub) (eV 4) (eC (.int 1))))))
def m_pair_rings_S1 : MS := (mFor (mEnum (mConsA (eV 0) mNilA)) (tgT (tgCons (tgN 3) (tgCons (tgN 4) tgNil))) m_pair_rings_L2 100000)
def m_pair_rings_C4 : MO1 := lcOne [4] (tgN 4) (mCmp (gEq false) (m2 (gI fMod) (eV 4) (eC (.int 2))) (eC (.int 0))) (eV 4)
def m_pair_rings : MS := (mSeq (mSet 2 (eC (.int 0))) (mSeq m_pair_rings_S1 (mSeq (mIf (mCmp (gEq true) (eV 1) (eG (.str "graph"))) (mRet (eV 2)) mNext) (mSeq (mSet 7 (mCall (g1 fLen) (mConsA (mLc (mSrc (eV 0)) m_pair_rings_C4 100000) mNilA))) (mRet (m2 (gI fDiv) (m2 (gAdd) (eV 2) (eV 7)) (eC (.int 2))))))))
def M_pair_rings : MF := mFunC 8 m_pair_rings
def m_count_pictures_L1 : MS := (mSet 8 (m2 (gMul) (eV 8) (eV 1)))
def m_count_pictures_L2 : MS := (mSeq (mPar [6, 7, 8] (mConsA (mFn 1 M_positions_with (mConsA (eV 5) mNilA)) (mConsA (mFn 2 M_pair_rings (mConsA (eV 5) (mConsA (eV 2) mNilA))) (mConsA (eC (.int 1)) mNilA)))) (mSeq (mFor (mRg1 (eV 7)) (tgN 9) m_count_pictures_L1 100000) (mSeq (mAug 3 (gI fAdd) (m2 (gMul) (eV 6) (eV 8))) (mAug 4 (gI fAdd) (eV 6)))))
def m_count_pictures_S1 : MS := (mFor (mSrc (mFrz (mFn 2 (M_size_lots 20) (mConsA (eV 0) (mConsA (eV 0) mNilA))))) (tgN 5) m_count_pictures_L2 100000)
def m_count_pictures : MS := (mSeq (mExpr (mFn 3 M_look_at_number (mConsA (eV 0) (mConsA (eC (.int 1)) (mConsA (eG (.int 8)) mNilA))))) (mSeq (mExpr (mFn 3 M_look_at_number (mConsA (eV 1) (mConsA (eC (.int 1)) (mConsA (mFrz (m2 (gAdd) (eG (.int 9)) (eC (.int 1)))) mNilA))))) (mSeq (mIf (mOr (mNot (mB (mIsT .str (eV 2)))) (mCmp (gIn true) (eV 2) (mTup (mConsA (eG (.str "any")) (mConsA (eG (.str "loose")) (mConsA (eG (.str "graph")) mNilA)))))) (mRaise 2 (mConsA (eV 2) mNilA)) mNext) (mSeq (mUnp (tgT (tgCons (tgN 3) (tgCons (tgN 4) tgNil))) (mTup (mConsA (eC (.int 0)) (mConsA (eC (.int 0)) mNilA)))) (mSeq m_count_pictures_S1 (mRet (m2 (gI fDiv) (eV 3) (eV 4))))))))
def M_count_pictures : MF := mFunC 10 m_count_pictures
def m__law_pot : MS := (mSeq (mSet 2 (mIfE (mCmp (gLt) (eV 1) (mCall (g1 fLen) (mConsA (eV 0) mNilA))) (m2 gIx (eV 0) (eV 1)) (m2 (gAdd) (m2 (gAdd) (m2 (gI fMod) (mCall (g1 fInt) (mConsA (mCall (g1 fSum) (mConsA (mSlice (eV 0) mNoPart (mPart (eC (.int 1)))) mNilA)) mNilA)) (eC (.int 1000133))) (m2 (gMul) (eC (.int 4111)) (eV 1))) (eC (.int 2477))))) (mSeq (mSet 3 (m2 (gMul) (m2 (gI fMod) (mCall (g1 fInt) (mConsA (mCall (g1 fAbs) (mConsA (eV 2) mNilA)) mNilA)) (m2 (gI fPow) (m2 (gI fPow) (eC (.int 10)) (eC (.int 60))) (eC (.int 5)))) (mCall (g1 fInt) (mConsA (mTV (mCmp (gGe) (mCall (g1 fAbs) (mConsA (eV 2) mNilA)) (m2 (gI fPow) (eC (.int 10)) (eC (.int 18))))) mNilA)))) (mSeq (mSet 4 (m2 (gI fMod) (mCall (g1 fInt) (mConsA (eV 2) mNilA)) (eC (.int 2305843009213693951)))) (mRet (mLst (mConsA (eV 3) (mConsA (mFrz (m2 (gI fMod) (mCall (g1 fInt) (mConsA (m2 (gAdd) (m2 (gAdd) (m2 (gMul) (eV 4) (eC (.int 77347))) (m2 (gMul) (m2 (gMul) (eC (.int 10273)) (eV 1)) (eV 1))) (eC (.int 2269))) mNilA)) (eC (.int 2305843009213693921)))) (mConsA (eC (.int 0)) mNilA))))))))
def M__law_pot : MF := mFunC 5 m__law_pot
def m__law_take : MS := (mSeq (mIf (mCmp (gGt) (m2 gIx (eV 0) (eC (.int 0))) (eC (.int 0))) (mSeq (mSet 2 (m2 (gI fMod) (mCall (g1 fInt) (mConsA (m2 gIx (eV 0) (eC (.int 0))) mNilA)) (eV 1))) (mSeq (mStore (mFrz (m2 (gI fDiv) (m2 gIx (eV 0) (eC (.int 0))) (eV 1))) (eV 0) (eC (.int 0))) (mRet (eV 2)))) mNext) (mSeq (mStore (mFrz (m2 (gAdd) (m2 gIx (eV 0) (eC (.int 2))) (eC (.int 1)))) (eV 0) (eC (.int 2))) (mSeq (mSet 3 (m2 gIx (mLst (mConsA (eC (.int 2147483647)) (mConsA (eC (.int 2147483629)) (mConsA (eC (.int 2147483587)) (mConsA (eC (.int 2147483579)) (mConsA (eC (.int 2147483563)) mNilA)))))) (m2 (gI fMod) (mCall (g1 fInt) (mConsA (m2 gIx (eV 0) (eC (.int 2))) mNilA)) (eC (.int 5))))) (mSeq (mSet 4 (m2 (gI fMod) (mCall (g1 fInt) (mConsA (m2 (gI fPow) (mCall (g1 fInt) (mConsA (m2 (gAdd) (m2 (gAdd) (m2 gIx (eV 0) (eC (.int 1))) (m2 (gMul) (m2 (gMul) (eC (.int 91199)) (m2 gIx (eV 0) (eC (.int 2)))) (m2 gIx (eV 0) (eC (.int 2))))) (eC (.int 2477))) mNilA)) (eC (.int 3))) mNilA)) (eV 3))) (mSeq (mSet 4 (m2 (gI fMod) (mCall (g1 fInt) (mConsA (m2 (gMul) (eV 4) (m2 (gAdd) (m2 (gI fMod) (mCall (g1 fInt) (mConsA (eV 4) mNilA)) (eC (.int 12659))) (m2 (gMul) (eC (.int 397)) (m2 gIx (eV 0) (eC (.int 2)))))) mNilA)) (eC (.int 2305843009213693907)))) (mRet (m2 (gI fMod) (mCall (g1 fInt) (mConsA (m2 (gI fDiv) (eV 4) (eC (.int 211))) mNilA)) (eV 1))))))))
def M__law_take : MF := mFunC 5 m__law_take
def m__law_of : MS := (mRet (m2 gIx (eV 1) (mFn 2 M__law_take (mConsA (eV 0) (mConsA (mFrz (mCall (g1 fLen) (mConsA (eV 1) mNilA))) mNilA)))))
def M__law_of : MF := mFunC 2 m__law_of
def m__law_cells : MS := (mRet (mR1 kRgL (mCall (g2 (fII iMax)) (mConsA (eC (.int 1)) (mConsA (mCall (g2 (fII iMin)) (mConsA (eV 1) (mConsA (mCall (g1 fLen) (mConsA (eV 0) mNilA)) mNilA))) mNilA)))))
def M__law_cells : MF := mFunC 2 m__law_cells
def m__law_moved_C1 : MO1 := lcOne [4] (tgN 4) mYes (m2 (gMul) (mLst (mConsA (eC (.int 0)) mNilA)) (mCall (g1 fLen) (mConsA (eV 0) mNilA)))
def m__law_moved_L2 : MS := (mStore (eV 6) (m2 gIx (eV 2) (m2 gIx (eV 1) (eV 3))) (m2 gIx (eV 1) (eV 5)))
def m__law_moved_L3 : MS := (mFor (mEnum (mConsA (eV 4) mNilA)) (tgT (tgCons (tgN 5) (tgCons (tgN 6) tgNil))) m__law_moved_L2 100000)
def m__law_moved_C4 : MO1 := lcOne [4] (tgN 4) mYes (mFrz (mCall (g1 fTup) (mConsA (eV 4) mNilA)))
def m__law_moved : MS := (mSeq (mSet 2 (mLc (mSrc (eV 0)) m__law_moved_C1 100000)) (mSeq (mFor (mEnum (mConsA (eV 0) mNilA)) (tgT (tgCons (tgN 3) (tgCons (tgN 4) tgNil))) m__law_moved_L3 100000) (mRet (mCall (g1 fTup) (mConsA (mLc (mSrc (eV 2)) m__law_moved_C4 100000) mNilA)))))
def M__law_moved : MF := mFunC 7 m__law_moved
def m__law_every_C1 : MO1 := lcOne [5] (tgN 5) (mCmp (gIn true) (eV 5) (eV 4)) (mFrz (m2 (gAdd) (eV 4) (mTup (mConsA (eV 5) mNilA))))
def m__law_every_L2 : MS := (mMeth "list" fExtend (eV 3) (mConsA (mFrz (mLc (mRg1 (eV 0)) m__law_every_C1 100000)) mNilA))
def m__law_every_L3 : MS := (mSeq (mSet 3 (mLst mNilA)) (mSeq (mFrzS 1 (mFor (mSrc (eV 1)) (tgN 4) m__law_every_L2 100000)) (mFrzS 3 (mSet 1 (eV 3)))))
def m__law_every_S1 : MS := (mFor (mRg1 (eV 0)) (tgN 2) m__law_every_L3 100000)
def m__law_every : MS := (mSeq (mSet 1 (mLst (mConsA (mTup mNilA) mNilA))) (mSeq m__law_every_S1 (mRet (eV 1))))
def M__law_every : MF := mFunC 6 m__law_every
def m__law_free_pairs_L1 : MS := (mIf (mOr (mCmp (gLt) (eV 3) (eV 4)) (mAnd (mCmp (gGt) (eV 3) (eV 4)) (mCmp (gEq true) (eV 1) (eC (.str "graph"))))) (mMeth "list" fAppend (eV 2) (mConsA (mTup (mConsA (eV 3) (mConsA (eV 4) mNilA))) mNilA)) mNext)
def m__law_free_pairs_L2 : MS := (mSeq (mIf (mCmp (gEq false) (eV 1) (eC (.str "any"))) (mMeth "list" fAppend (eV 2) (mConsA (mTup (mConsA (eV 3) (mConsA (eV 3) mNilA))) mNilA)) mNext) (mFor (mRg1 (eV 0)) (tgN 4) m__law_free_pairs_L1 100000))
def m__law_free_pairs : MS := (mSeq (mSet 2 (mLst mNilA)) (mSeq (mFor (mRg1 (eV 0)) (tgN 3) m__law_free_pairs_L2 100000) (mRet (eV 2))))
def M__law_free_pairs : MF := mFunC 5 m__law_free_pairs
def m__law_by_all_S1 : MS := (mPar [3, 4] (mConsA (mFn 2 M__law_free_pairs (mConsA (eV 0) (mConsA (eV 2) mNilA))) (mConsA (mLst (mConsA (mTup mNilA) mNilA)) mNilA)))
def m__law_by_all_C2 : MO1 := lcOne [14] (tgN 14) mYes (mFrz (m2 (gAdd) (eV 7) (mTup (mConsA (eV 14) mNilA))))
def m__law_by_all_S2 : MS := (mMeth "list" fExtend (eV 6) (mConsA (mFrz (mLc (mRg1 (eV 1)) m__law_by_all_C2 100000)) mNilA))
def m__law_by_all_L4 : MS := m__law_by_all_S2
def m__law_by_all_L5 : MS := (mSeq (mSet 6 (mLst mNilA)) (mSeq (mFrzS 4 (mFor (mSrc (eV 4)) (tgN 7) m__law_by_all_L4 100000)) (mFrzS 6 (mSet 4 (eV 6)))))
def m__law_by_all_S3 : MS := (mFor (mRg1 (mCall (g1 fLen) (mConsA (eV 3) mNilA))) (tgN 5) m__law_by_all_L5 100000)
def m__law_by_all_S4 : MS := (mPar [8, 9, 10] (mConsA (mFn 1 M__law_every (mConsA (eV 0) mNilA)) (mConsA mDct0 (mConsA (eC (.int 0)) mNilA))))
def m__law_by_all_C8 : MO1 := lcOne [17] (tgN 17) mYes (m2 (gMul) (mLst (mConsA (eC (.int 0)) mNilA)) (eV 0))
def m__law_by_all_S5 : MS := (mSet 11 (mLc (mRg1 (eV 0)) m__law_by_all_C8 100000))
def m__law_by_all_L10 : MS := (mSeq (mStore (eV 14) (m2 gIx (eV 11) (eV 12)) (eV 13)) (mIf (mCmp (gEq false) (eV 2) (eC (.str "graph"))) (mStore (eV 14) (m2 gIx (eV 11) (eV 13)) (eV 12)) mNext))
def m__law_by_all_S6 : MS := (mFrzS 3 (mFor (mZip (mConsA (eV 3) (mConsA (eV 7) mNilA))) (tgT (tgCons (tgT (tgCons (tgN 12) (tgCons (tgN 13) tgNil))) (tgCons (tgN 14) tgNil))) m__law_by_all_L10 100000))
def m__law_by_all_C12 : MO1 := lcOne [18] (tgN 18) mYes (mFrz (mCall (g1 fTup) (mConsA (eV 18) mNilA)))
def m__law_by_all_S7 : MS := (mSet 15 (mCall (g1 fTup) (mConsA (mLc (mSrc (eV 11)) m__law_by_all_C12 100000) mNilA)))
def m__law_by_all_L14 : MS := (mStore (eC (.bl true)) (eV 9) (mFn 2 M__law_moved (mConsA (eV 15) (mConsA (eV 16) mNilA))))
def m__law_by_all_S8 : MS := (mFrzS 8 (mFor (mSrc (eV 8)) (tgN 16) m__law_by_all_L14 100000))
def m__law_by_all_S9 : MS := (mIf (mCmp (gIn true) (eV 15) (eV 9)) (mSeq (mSet 10 (m2 (gAdd) (eV 10) (eC (.int 1)))) m__law_by_all_S8) mNext)
def m__law_by_all_L17 : MS := (mSeq m__law_by_all_S5 (mSeq m__law_by_all_S6 (mSeq m__law_by_all_S7 m__law_by_all_S9)))
def m__law_by_all_S10 : MS := (mFrzS 4 (mFor (mSrc (eV 4)) (tgN 7) m__law_by_all_L17 100000))
def m__law_by_all : MS := (mSeq m__law_by_all_S1 (mSeq m__law_by_all_S3 (mSeq m__law_by_all_S4 (mSeq m__law_by_all_S10 (mRet (eV 10))))))
def M__law_by_all : MF := mFunC 19 m__law_by_all
def m__law_by_rings_S1 : MS := (mPar [3, 4, 5] (mConsA (eC (.int 0)) (mConsA (mFn 1 M__law_every (mConsA (eV 0) mNilA)) (mConsA (mFn 2 M__law_free_pairs (mConsA (eV 0) (mConsA (eV 2) mNilA))) mNilA))))
def m__law_by_rings_C2 : MO1 := lcOne [12] (tgN 12) mYes (mTup (mConsA (eV 12) (mConsA (eC (.bl true)) mNilA)))
def m__law_by_rings_S2 : MS := (mPar [7, 8] (mConsA (mCall (g1 fDictP) (mConsA (mLc (mSrc (eV 5)) m__law_by_rings_C2 100000) mNilA)) (mConsA (eC (.int 0)) mNilA)))
def m__law_by_rings_S3 : MS := (mPar [9, 8] (mConsA (m2 gIx (mCall (g1 fSorted) (mConsA (eV 7) mNilA)) (eC (.int 0))) (mConsA (m2 (gAdd) (eV 8) (eC (.int 1))) mNilA)))
def m__law_by_rings_S4 : MS := (mSet 9 (mTup (mConsA (m2 gIx (eV 6) (m2 gIx (eV 9) (eC (.int 0)))) (mConsA (m2 gIx (eV 6) (m2 gIx (eV 9) (eC (.int 1)))) mNilA))))
def m__law_by_rings_S5 : MS := (mFrzS 9 (mSet 9 (mIfE (mCmp (gEq false) (eV 2) (eC (.str "graph"))) (mCall (g1 fTup) (mConsA (mCall (g1 fSorted) (mConsA (eV 9) mNilA)) mNilA)) (eV 9))))
def m__law_by_rings_L7 : MS := (mSeq (mFrzS 9 (mMeth "dict" fDPop (eV 7) (mConsA (eV 9) mNilA))) (mSeq m__law_by_rings_S4 m__law_by_rings_S5))
def m__law_by_rings_S6 : MS := (mWhile (mCmp (gIn false) (eV 9) (eV 7)) m__law_by_rings_L7 100000)
def m__law_by_rings_L9 : MS := (mSeq m__law_by_rings_S3 m__law_by_rings_S6)
def m__law_by_rings_S7 : MS := (mWhile (mCmp (gGt) (mCall (g1 fLen) (mConsA (eV 7) mNilA)) (eC (.int 0))) m__law_by_rings_L9 100000)
def m__law_by_rings_L11 : MS := (mSet 10 (m2 (gMul) (eV 10) (eV 1)))
def m__law_by_rings_S8 : MS := (mFor (mRg1 (eV 8)) (tgN 11) m__law_by_rings_L11 100000)
def m__law_by_rings_L13 : MS := (mSeq m__law_by_rings_S2 (mSeq m__law_by_rings_S7 (mSeq (mSet 10 (eC (.int 1))) (mSeq m__law_by_rings_S8 (mSet 3 (m2 (gAdd) (eV 3) (eV 10)))))))
def m__law_by_rings_S9 : MS := (mFrzS 4 (mFor (mSrc (eV 4)) (tgN 6) m__law_by_rings_L13 100000))
def m__law_by_rings : MS := (mSeq m__law_by_rings_S1 (mSeq m__law_by_rings_S9 (mRet (m2 (gI fDiv) (eV 3) (mCall (g1 fLen) (mConsA (eV 4) mNilA))))))
def M__law_by_rings : MF := mFunC 13 m__law_by_rings
def m__law_right_S1 : MS := (mSet 1 (mFn 2 M__law_of (mConsA (eV 0) (mConsA (mFrz (mLst (mConsA (eC (.str "any")) (mConsA (eC (.str "loose")) (mConsA (eC (.str "graph")) mNilA))))) mNilA))))
def m__law_right_S2 : MS := (mPar [2, 3] (mConsA (mCall (g1 fInt) (mConsA (m2 (gAdd) (eC (.int 1)) (mFn 2 M__law_take (mConsA (eV 0) (mConsA (eC (.int 3)) mNilA)))) mNilA)) (mConsA (mCall (g1 fInt) (mConsA (m2 (gAdd) (eC (.int 1)) (mFn 2 M__law_take (mConsA (eV 0) (mConsA (eC (.int 2)) mNilA)))) mNilA)) mNilA)))
def m__law_right_S3 : MS := (mFrzS 1 (mIf (mCmp (gEq true) (mCall (g1 fRepr) (mConsA (mFn 3 M_count_pictures (mConsA (eV 2) (mConsA (eV 3) (mConsA (eV 1) mNilA)))) mNilA)) (mCall (g1 fRepr) (mConsA (mFn 3 M__law_by_all (mConsA (eV 2) (mConsA (eV 3) (mConsA (eV 1) mNilA)))) mNilA))) (mRet (eC (.bl false))) mNext))
def m__law_right_S4 : MS := (mPar [2, 3] (mConsA (mCall (g1 fInt) (mConsA (m2 (gAdd) (eC (.int 1)) (mFn 2 M__law_take (mConsA (eV 0) (mConsA (eC (.int 5)) mNilA)))) mNilA)) (mConsA (mCall (g1 fInt) (mConsA (m2 (gAdd) (eC (.int 1)) (mFn 2 M__law_take (mConsA (eV 0) (mConsA (eC (.int 10)) mNilA)))) mNilA)) mNilA)))
def m__law_right_S5 : MS := (mFrzS 1 (mIf (mCmp (gEq true) (mCall (g1 fRepr) (mConsA (mFnK 3 [1, 0, 2] M_count_pictures (mConsA (eV 3) (mConsA (eV 2) (mConsA (eV 1) mNilA)))) mNilA)) (mCall (g1 fRepr) (mConsA (mFn 3 M__law_by_rings (mConsA (eV 2) (mConsA (eV 3) (mConsA (eV 1) mNilA)))) mNilA))) (mRet (eC (.bl false))) mNext))
def m__law_right_S6 : MS := (mSet 4 (mFn 2 M__law_of (mConsA (eV 0) (mConsA (mFrz (mLst (mConsA (eC (.int 0)) (mConsA (eC (.int 9)) (mConsA (eC .non) (mConsA (eC (.bl true)) (mConsA (eC (.str "3")) mNilA))))))) mNilA))))
def m__law_right_B7 : ME := (mFrz (mFn 3 M_count_pictures (mConsA (eV 4) (mConsA (eC .non) (mConsA (eC .non) mNilA)))))
def m__law_right_S7 : MS := (mFrzS 4 (mSet 5 (m2 gIx (mHear errs m__law_right_B7) (eC (.int 0)))))
def m__law_right_S8 : MS := (mIf (mOr (mNot (mB (mIsC (tbOf [false, true, false, false]) (eV 5)))) (mCmp (gEq true) (mCall (g1 fRepr) (mConsA (mVal errs (eV 5)) mNilA)) (mCall (g1 fRepr) (mConsA (eV 4) mNilA)))) (mRet (eC (.bl false))) mNext)
def m__law_right_S9 : MS := (mSet 4 (mFn 2 M__law_of (mConsA (eV 0) (mConsA (mFrz (mLst (mConsA (eC (.int 0)) (mConsA (eC (.int 11)) (mConsA (eC .non) (mConsA (eC (.bl true)) (mConsA (eC (.str "3")) mNilA))))))) mNilA))))
def m__law_right_B11 : ME := (mFrz (mFn 3 M_count_pictures (mConsA (eC (.int 3)) (mConsA (eV 4) (mConsA (eC .non) mNilA)))))
def m__law_right_S10 : MS := (mFrzS 4 (mSet 5 (m2 gIx (mHear errs m__law_right_B11) (eC (.int 0)))))
def m__law_right_S11 : MS := (mIf (mOr (mNot (mB (mIsC (tbOf [false, true, false, false]) (eV 5)))) (mCmp (gEq true) (mCall (g1 fRepr) (mConsA (mVal errs (eV 5)) mNilA)) (mCall (g1 fRepr) (mConsA (eV 4) mNilA)))) (mRet (eC (.bl false))) mNext)
def m__law_right_S12 : MS := (mSet 4 (mFn 2 M__law_of (mConsA (eV 0) (mConsA (mFrz (mLst (mConsA (eC .non) (mConsA (eC (.str "")) (mConsA (eC (.str "all")) (mConsA (eC (.int 0)) (mConsA (mTup (mConsA (eC (.str "any")) mNilA)) (mConsA (eC (.str "Graph")) mNilA)))))))) mNilA))))
def m__law_right_B15 : ME := (mFrz (mFn 3 M_count_pictures (mConsA (eC (.int 3)) (mConsA (eC (.int 2)) (mConsA (eV 4) mNilA)))))
def m__law_right_S13 : MS := (mFrzS 4 (mSet 5 (m2 gIx (mHear errs m__law_right_B15) (eC (.int 0)))))
def m__law_right_S14 : MS := (mRet (mAndV (mIsC (tbOf [false, false, true, false]) (eV 5)) (mTV (mCmp (gEq false) (mCall (g1 fRepr) (mConsA (mVal errs (eV 5)) mNilA)) (mCall (g1 fRepr) (mConsA (eV 4) mNilA))))))
def m__law_right : MS := (mSeq m__law_right_S1 (mSeq m__law_right_S2 (mSeq m__law_right_S3 (mSeq m__law_right_S4 (mSeq m__law_right_S5 (mSeq m__law_right_S6 (mSeq m__law_right_S7 (mSeq m__law_right_S8 (mSeq m__law_right_S9 (mSeq m__law_right_S10 (mSeq m__law_right_S11 (mSeq m__law_right_S12 (mSeq m__law_right_S13 m__law_right_S14)))))))))))))
def M__law_right : MF := mFunC 6 m__law_right
def m__law_are_known_C1 : MO1 := lcOne [2] (tgN 2) mYes (mFrz (mFn 3 M_count_pictures (mConsA (eV 2) (mConsA (eC (.int 2)) (mConsA (eC (.str "graph")) mNilA)))))
def m__law_are_known_C2 : MO1 := lcOne [2] (tgN 2) mYes (mFrz (mFn 3 M_count_pictures (mConsA (eV 2) (mConsA (eC (.int 2)) (mConsA (eC (.str "loose")) mNilA)))))
def m__law_are_known : MS := (mSeq (mSet 0 (mLc (mRg2 (mConsA (eC (.int 1)) (mConsA (eC (.int 9)) mNilA))) m__law_are_known_C1 100000)) (mSeq (mSet 1 (mLc (mRg2 (mConsA (eC (.int 1)) (mConsA (eC (.int 7)) mNilA))) m__law_are_known_C2 100000)) (mSeq (mIf (mOr (mCmp (gEq true) (mCall (g1 fRepr) (mConsA (eV 1) mNilA)) (mCall (g1 fRepr) (mConsA (mLst (mConsA (eC (.int 1)) (mConsA (eC (.int 3)) (mConsA (eC (.int 16)) (mConsA (eC (.int 218)) (mConsA (eC (.int 9608)) (mConsA (eC (.int 1540944)) mNilA))))))) mNilA))) (mCmp (gEq true) (mFn 1 M_least_picture (mConsA (mTup (mConsA (mTup (mConsA (eC (.int 1)) mNilA)) mNilA)) mNilA)) (mTup (mConsA (mTup (mConsA (mTup (mConsA (eC (.int 1)) mNilA)) mNilA)) (mConsA (mTup (mConsA (eC (.int 0)) mNilA)) mNilA))))) (mRet (eC (.bl false))) mNext) (mRet (mTV (mCmp (gEq false) (mCall (g1 fRepr) (mConsA (eV 0) mNilA)) (mCall (g1 fRepr) (mConsA (mLst (mConsA (eC (.int 1)) (mConsA (eC (.int 2)) (mConsA (eC (.int 4)) (mConsA (eC (.int 11)) (mConsA (eC (.int 34)) (mConsA (eC (.int 156)) (mConsA (eC (.int 1044)) (mConsA (eC (.int 12346)) mNilA))))))))) mNilA))))))))
def M__law_are_known : MF := mFunC 3 m__law_are_known
def m_law_C1 : MO1 := lcOne [1] (tgN 1) mYes (mFrz (mFn 1 M__law_right (mConsA (mFn 2 M__law_pot (mConsA (eV 0) (mConsA (eV 1) mNilA))) mNilA)))
def m_law : MS := (mSeq (mIf (mNot (mB (mFn 0 M__law_are_known mNilA))) (mRet (eC (.bl false))) mNext) (mRet (mCall (g1 fAll) (mConsA (mLc (mSrc (mFrz (mFn 2 M__law_cells (mConsA (eV 0) (mConsA (eC (.int 3)) mNilA))))) m_law_C1 100000) mNilA))))
def M_law : MF := mFunC 2 m_law
end K94

set_option Elab.async false
set_option autoImplicit false
set_option linter.all false
set_option maxRecDepth 100000
set_option maxHeartbeats 4000000
namespace K94
open PySem PySem.Spec PyProof.Rows L2 DL
def top (i : Nat) : Stmt := PySem.Challenge.pw_whicheverturning_k94_how_many_unlike_pic.main.body.getD i (.Pass ⟨0, 0, 0, 0⟩)
def er : List Str := ["TurnError", "BadNumber", "BadWord", "BadPicture"]
abbrev s_is_int : Stmt := top 6
def d_is_int : He.DefD := ⟨("is_int", none), "is_int", "is_int", defArgs s_is_int, defBody s_is_int, defScope s_is_int, [], []⟩
abbrev s_look_at_number : Stmt := top 7
def d_look_at_number : He.DefD := ⟨("look_at_number", none), "look_at_number", "look_at_number", defArgs s_look_at_number, defBody s_look_at_number, defScope s_look_at_number, [], []⟩
abbrev s_common : Stmt := top 8
def d_common : He.DefD := ⟨("common", none), "common", "common", defArgs s_common, defBody s_common, defScope s_common, [], []⟩
abbrev s_is_picture : Stmt := top 15
def d_is_picture : He.DefD := ⟨("is_picture", none), "is_picture", "is_picture", defArgs s_is_picture, defBody s_is_picture, defScope s_is_picture, [], []⟩
abbrev s_look_at_picture : Stmt := top 16
def d_look_at_picture : He.DefD := ⟨("look_at_picture", none), "look_at_picture", "look_at_picture", defArgs s_look_at_picture, defBody s_look_at_picture, defScope s_look_at_picture, [], []⟩
abbrev s_told_moved : Stmt := top 17
def d_told_moved : He.DefD := ⟨("told_moved", none), "told_moved", "told_moved", defArgs s_told_moved, defBody s_told_moved, defScope s_told_moved, [], []⟩
abbrev s_marks_with : Stmt := top 18
def d_marks_with : He.DefD := ⟨("marks_with", none), "marks_with", "marks_with", defArgs s_marks_with, defBody s_marks_with, defScope s_marks_with, [], []⟩
abbrev s_least_orders : Stmt := top 19
def d_least_orders : He.DefD := ⟨("least_orders", none), "least_orders", "least_orders", defArgs s_least_orders, defBody s_least_orders, defScope s_least_orders, [], []⟩
abbrev s_position_by : Stmt := top 20
def d_position_by : He.DefD := ⟨("position_by", none), "position_by", "position_by", defArgs s_position_by, defBody s_position_by, defScope s_position_by, [], []⟩
abbrev s_least_picture : Stmt := top 21
def d_least_picture : He.DefD := ⟨("least_picture", none), "least_picture", "least_picture", defArgs s_least_picture, defBody s_least_picture, defScope s_least_picture, [], []⟩
abbrev s_size_lots : Stmt := top 22
def d_size_lots : He.DefD := ⟨("size_lots", none), "size_lots", "size_lots", defArgs s_size_lots, defBody s_size_lots, defScope s_size_lots, [], []⟩
abbrev s_positions_with : Stmt := top 23
def d_positions_with : He.DefD := ⟨("positions_with", none), "positions_with", "positions_with", defArgs s_positions_with, defBody s_positions_with, defScope s_positions_with, [], []⟩
abbrev s_pair_rings : Stmt := top 24
def d_pair_rings : He.DefD := ⟨("pair_rings", none), "pair_rings", "pair_rings", defArgs s_pair_rings, defBody s_pair_rings, defScope s_pair_rings, [], []⟩
abbrev s_count_pictures : Stmt := top 25
def d_count_pictures : He.DefD := ⟨("count_pictures", none), "count_pictures", "count_pictures", defArgs s_count_pictures, defBody s_count_pictures, defScope s_count_pictures, [], []⟩
abbrev s__law_pot : Stmt := top 27
def d__law_pot : He.DefD := ⟨("_law_pot", none), "_law_pot", "_law_pot", defArgs s__law_pot, defBody s__law_pot, defScope s__law_pot, [], []⟩
abbrev s__law_take : Stmt := top 28
def d__law_take : He.DefD := ⟨("_law_take", none), "_law_take", "_law_take", defArgs s__law_take, defBody s__law_take, defScope s__law_take, [], []⟩
abbrev s__law_of : Stmt := top 29
def d__law_of : He.DefD := ⟨("_law_of", none), "_law_of", "_law_of", defArgs s__law_of, defBody s__law_of, defScope s__law_of, [], []⟩
abbrev s__law_cells : Stmt := top 30
def d__law_cells : He.DefD := ⟨("_law_cells", none), "_law_cells", "_law_cells", defArgs s__law_cells, defBody s__law_cells, defScope s__law_cells, [], []⟩
abbrev s__law_heard : Stmt := top 31
def d__law_heard : He.DefD := ⟨("_law_heard", none), "_law_heard", "_law_heard", defArgs s__law_heard, defBody s__law_heard, defScope s__law_heard, [], []⟩
abbrev s__law_moved : Stmt := top 32
def d__law_moved : He.DefD := ⟨("_law_moved", none), "_law_moved", "_law_moved", defArgs s__law_moved, defBody s__law_moved, defScope s__law_moved, [], []⟩
abbrev s__law_every : Stmt := top 33
def d__law_every : He.DefD := ⟨("_law_every", none), "_law_every", "_law_every", defArgs s__law_every, defBody s__law_every, defScope s__law_every, [], []⟩
abbrev s__law_free_pairs : Stmt := top 34
def d__law_free_pairs : He.DefD := ⟨("_law_free_pairs", none), "_law_free_pairs", "_law_free_pairs", defArgs s__law_free_pairs, defBody s__law_free_pairs, defScope s__law_free_pairs, [], []⟩
abbrev s__law_by_all : Stmt := top 35
def d__law_by_all : He.DefD := ⟨("_law_by_all", none), "_law_by_all", "_law_by_all", defArgs s__law_by_all, defBody s__law_by_all, defScope s__law_by_all, [], []⟩
abbrev s__law_by_rings : Stmt := top 36
def d__law_by_rings : He.DefD := ⟨("_law_by_rings", none), "_law_by_rings", "_law_by_rings", defArgs s__law_by_rings, defBody s__law_by_rings, defScope s__law_by_rings, [], []⟩
abbrev s__law_right : Stmt := top 37
def d__law_right : He.DefD := ⟨("_law_right", none), "_law_right", "_law_right", defArgs s__law_right, defBody s__law_right, defScope s__law_right, [], []⟩
abbrev s__law_are_known : Stmt := top 38
def d__law_are_known : He.DefD := ⟨("_law_are_known", none), "_law_are_known", "_law_are_known", defArgs s__law_are_known, defBody s__law_are_known, defScope s__law_are_known, [], []⟩
abbrev s_law : Stmt := top 39
def d_law : He.DefD := ⟨("law", none), "law", "law", defArgs s_law, defBody s_law, defScope s_law, [], []⟩
def fn : List He.DefD := [d_is_int, d_look_at_number, d_common, d_is_picture, d_look_at_picture, d_told_moved, d_marks_with, d_least_orders, d_position_by, d_least_picture, d_size_lots, d_positions_with, d_pair_rings, d_count_pictures, d__law_pot, d__law_take, d__law_of, d__law_cells, d__law_heard, d__law_moved, d__law_every, d__law_free_pairs, d__law_by_all, d__law_by_rings, d__law_right, d__law_are_known, d_law]
def fa : List He.Fa := [.free "isinstance", .free "int", .free "bool", .glo "BadNumber", .free "tuple", .free "len", .int "MOST_SPOTS" 8, .free "all", .int "MOST_MARK" 9, .glo "BadPicture", .free "enumerate", .free "range", .free "min", .free "sum", .free "sorted", .free "set", .str "ANY" "any", .str "GRAPH" "graph", .free "str", .str "LOOSE" "loose", .glo "BadWord", .free "abs", .free "list", .free "max", .free "zip", .free "dict", .free "repr", .glo "_law_heard", .glo "TurnError", .glo "is_int", .glo "look_at_number", .glo "common", .glo "is_picture", .glo "look_at_picture", .glo "told_moved", .glo "marks_with", .glo "least_orders", .glo "position_by", .glo "least_picture", .glo "size_lots", .glo "positions_with", .glo "pair_rings", .glo "count_pictures", .glo "_law_pot", .glo "_law_take", .glo "_law_of", .glo "_law_cells", .glo "_law_moved", .glo "_law_every", .glo "_law_free_pairs", .glo "_law_by_all", .glo "_law_by_rings", .glo "_law_right", .glo "_law_are_known", .glo "law", .free "super"]
def tf : List He.Defn := [("_law_right", none)]
def isl : List (Str × List Bool) := [("BadNumber", [false, true, false, false]), ("BadWord", [false, false, true, false])]
def exB (K : PySem.W.Frag) : Bool := rootF K "TurnError" PySem.Challenge.pw_whicheverturning_k94_how_many_unlike_pic.main.file && ersB K "TurnError" er && isl.all (fun p => isB K er p.1 p.2) && decide ((tf.map fun p => (He.cT K p).2).Nodup)
def hd : HdD := { n := 6, fa := fa, fn := fn, tf := tf, ex := exB, root := "TurnError", val := rootVal "TurnError.__init__" (top 1) }
section
variable {P : Program} {w : World} {K : PySem.W.Frag} {mg : Str → Option Value} {base : Heap} {G : Gc}
theorem tfm__law_right : (("_law_right", none) : He.Defn) ∈ hd.tf := List.mem_of_getElem? (i := 0) rfl
theorem errI {X : Cx} (Φ : Fx hd er isl X.prog X.w X.K X.mg X.base G) : ErrI X G errs := Fx.errI Φ
theorem sc__law_heard : FnScope hearN ["call"] (defScope s__law_heard) := ⟨rfl, rfl, rfl, by decide +kernel, rfl, by decide +kernel, by decide +kernel⟩
theorem hearC {X : Cx} (Φ : Fx hd er isl X.prog X.w X.K X.mg X.base G) : HearC X G "_law_heard" errs := by
  obtain ⟨fd, F⟩ := Φ.says.def_ 18 (d := d__law_heard) rfl
  exact hearC_ok (ct := "TurnError") F (Φ.glo 27 rfl) sc__law_heard (fun _ _ _ _ _ _ us hl => match us, hl with | [_], _ => rfl) rfl rfl rfl rfl rfl (Φ.glo 28 rfl) (by decide) (fun s A H cdg => by rfl) (exm_all Φ.cls Φ.ers)
def N_is_int : List Str := ["value", "low", "high"]
theorem sc_is_int : FnScope N_is_int ["value", "low", "high"] (defScope s_is_int) := ⟨rfl, rfl, rfl, by decide +kernel, rfl, by decide +kernel, by decide +kernel⟩
theorem fnc_is_int (Φ : Fx hd er isl P w K mg base G) {fd : FuncData} (F : FunD K "is_int" "is_int" (defArgs s_is_int) (defBody s_is_int) (defScope s_is_int) [] [] (He.fAd K ("is_int", none)) fd) : FnC P w K mg base G false 1 (He.fAd K ("is_int", none)) fd ["value", "low", "high"] M_is_int :=
  fnC_of F sc_is_int hm_clip fun cdv A outer s H E hr hg =>
    have O := Fx.ok Φ (outer := outer) (H := H) (E := E) sc_is_int.nd hr
    (xss_one (xs_ret (xe_and (xe_isT .int (by decide) O.g rfl (Φ.free 0 rfl) rfl (Φ.free 1 rfl) rfl (xe_v 0)) (xe_and (xe_not (xe_isT .bl (by decide) O.g rfl (Φ.free 0 rfl) rfl (Φ.free 2 rfl) rfl (xe_v 0))) (xe_one (xe_chain (cLe O) (cLe O) op2_le op2_le (xe_v 1) (xe_v 0) (xe_v 2)))))))
theorem has_is_int (Φ : Fx hd er isl P w K mg base G) : Has P w K mg base G "is_int" false 1 3 M_is_int := by
  obtain ⟨fd, F⟩ := Φ.says.def_ 0 (d := d_is_int) rfl
  exact ⟨_, fd, _, Φ.glo 29 rfl, F.kp, F.bindsN (fun _ _ _ _ _ _ us hl => match us, hl with | [_, _, _], _ => rfl), rfl, fnc_is_int Φ F⟩
def N_look_at_number : List Str := ["value", "low", "high"]
theorem sc_look_at_number : FnScope N_look_at_number ["value", "low", "high"] (defScope s_look_at_number) := ⟨rfl, rfl, rfl, by decide +kernel, rfl, by decide +kernel, by decide +kernel⟩
theorem fnc_look_at_number (Φ : Fx hd er isl P w K mg base G) {fd : FuncData} (F : FunD K "look_at_number" "look_at_number" (defArgs s_look_at_number) (defBody s_look_at_number) (defScope s_look_at_number) [] [] (He.fAd K ("look_at_number", none)) fd) : FnC P w K mg base G false 2 (He.fAd K ("look_at_number", none)) fd ["value", "low", "high"] M_look_at_number :=
  fnC_of F sc_look_at_number hm_clip fun cdv A outer s H E hr hg =>
    have O := Fx.ok Φ (outer := outer) (H := H) (E := E) sc_look_at_number.nd hr
    (xss_one (xs_if (xt_not (xt_val (xe_callH (has_is_int Φ) hr (by decide) (fun z => nomatch z) rfl (xa_cons (xe_v 0) (xa_cons (xe_v 1) (xa_cons (xe_v 2) xa_nil)))))) (xss_one (xs_raise O.c (Fx.erX Φ 1 3 rfl rfl) (hr.mono (by decide)) rfl (xa_cons (xe_v 0) xa_nil))) xss_nil))
theorem has_look_at_number (Φ : Fx hd er isl P w K mg base G) : Has P w K mg base G "look_at_number" false 2 3 M_look_at_number := by
  obtain ⟨fd, F⟩ := Φ.says.def_ 1 (d := d_look_at_number) rfl
  exact ⟨_, fd, _, Φ.glo 30 rfl, F.kp, F.bindsN (fun _ _ _ _ _ _ us hl => match us, hl with | [_, _, _], _ => rfl), rfl, fnc_look_at_number Φ F⟩
def N_common : List Str := ["one", "other"]
theorem sc_common : FnScope N_common ["one", "other"] (defScope s_common) := ⟨rfl, rfl, rfl, by decide +kernel, rfl, by decide +kernel, by decide +kernel⟩
theorem fnc_common (Φ : Fx hd er isl P w K mg base G) {fd : FuncData} (F : FunD K "common" "common" (defArgs s_common) (defBody s_common) (defScope s_common) [] [] (He.fAd K ("common", none)) fd) : FnC P w K mg base G false 1 (He.fAd K ("common", none)) fd ["one", "other"] M_common :=
  fnC_of F sc_common hm_clip fun cdv A outer s H E hr hg =>
    have O := Fx.ok Φ (outer := outer) (H := H) (E := E) sc_common.nd hr
    (xss_cons (xs_while 100000 hp_cx (xt_cmp (cNe O) op2_eq (xe_v 1) xe_int) (xss_one (xs_par2 (i := 0) (j := 1) O.c O.n rfl rfl (by decide) rfl rfl (xa_cons (xe_v 1) (xa_cons (xe_op (op_mod) op2_mod (xe_v 0) (xe_v 1)) xa_nil)) rfl))) (xss_one (xs_ret (xe_v 0))))
theorem has_common (Φ : Fx hd er isl P w K mg base G) : Has P w K mg base G "common" false 1 2 M_common := by
  obtain ⟨fd, F⟩ := Φ.says.def_ 2 (d := d_common) rfl
  exact ⟨_, fd, _, Φ.glo 31 rfl, F.kp, F.bindsN (fun _ _ _ _ _ _ us hl => match us, hl with | [_, _], _ => rfl), rfl, fnc_common Φ F⟩
def N_is_picture : List Str := ["value", "row", "one"]
theorem sc_is_picture : FnScope N_is_picture ["value"] (defScope s_is_picture) := ⟨rfl, rfl, rfl, by decide +kernel, rfl, by decide +kernel, by decide +kernel⟩
theorem st_is_picture_1 (Φ : Fx hd er isl P w K mg base G) {cdv : Value} {A : Around} {outer : List PySem.Env} {s : Shared} {H : Hp} {E : XK} (hr : Room 1 (A.deeper (envOfC "is_picture" (defScope s_is_picture) s.heap.objs.size (He.fAd K ("is_picture", none)) cdv))) (hg : false = true → A.guards = some []) :
    XS (cxOf (L2.CX P w) P w K mg base N_is_picture "is_picture" (defScope s_is_picture) (He.fAd K ("is_picture", none)) cdv A outer s H E) G (stm (defBody s_is_picture) 1) m_is_picture_S1 :=
  have O := Fx.ok Φ (outer := outer) (H := H) (E := E) sc_is_picture.nd hr
  (xs_for 100000 hp_cx O.c (xi_seq O.g (xe_v 0)) (xg_name O.n rfl (by first | exact .inl rfl | exact .inr rfl)) (xss_one (xs_if (XW.t (xw_or (xt_not (xt_val (xe_isT .tup (by decide) O.g rfl (Φ.free 0 rfl) rfl (Φ.free 4 rfl) rfl (xe_v 1)))) (xw_or (xt_cmp (cNe O) op2_eq (xe_callB (callO_len O.g) rfl (Φ.free 5 rfl) boot_len (xa_cons (xe_v 1) xa_nil)) (xe_callB (callO_len O.g) rfl (Φ.free 5 rfl) boot_len (xa_cons (xe_v 0) xa_nil))) (xw_or1 (xt_not (xt_val (xe_callB (callO_all O.g O.c) rfl (Φ.free 7 rfl) boot_all (xa_cons (xe_lc 100000 O.c O.n (own := [("one", 2)]) (xi_seq O.g (xe_v 1)) (blkOk_by rfl) (fun _ _ _ _ _ => (xg_name (O.blk).n rfl (by first | exact .inl rfl | exact .inr rfl))) (fun _ _ _ _ _ => xts_nil) (fun _ _ _ _ _ => (xe_frz (xe_callH (has_is_int Φ) hr (by decide) (fun z => nomatch z) rfl (xa_cons (xe_v 2) (xa_cons xe_int (xa_cons (xe_gInt rfl (Φ.int 8 rfl)) xa_nil)))))) (by decide)) xa_nil)))))))) (xss_one (xs_ret xe_bl)) xss_nil)))
theorem fnc_is_picture (Φ : Fx hd er isl P w K mg base G) {fd : FuncData} (F : FunD K "is_picture" "is_picture" (defArgs s_is_picture) (defBody s_is_picture) (defScope s_is_picture) [] [] (He.fAd K ("is_picture", none)) fd) : FnC P w K mg base G false 2 (He.fAd K ("is_picture", none)) fd ["value"] M_is_picture :=
  fnC_of F sc_is_picture hm_clip fun cdv A outer s H E hr hg =>
    have O := Fx.ok Φ (outer := outer) (H := H) (E := E) sc_is_picture.nd hr
    (xss_cons (xs_if (XW.t (xw_or (xt_not (xt_val (xe_isT .tup (by decide) O.g rfl (Φ.free 0 rfl) rfl (Φ.free 4 rfl) rfl (xe_v 0)))) (xw_or1 (xt_not (xt_chain (cLe O) (cLe O) op2_le op2_le xe_int (xe_callB (callO_len O.g) rfl (Φ.free 5 rfl) boot_len (xa_cons (xe_v 0) xa_nil)) (xe_gInt rfl (Φ.int 6 rfl))))))) (xss_one (xs_ret xe_bl)) xss_nil) (xss_cons (st_is_picture_1 Φ hr hg) (xss_one (xs_ret xe_bl))))
theorem has_is_picture (Φ : Fx hd er isl P w K mg base G) : Has P w K mg base G "is_picture" false 2 1 M_is_picture := by
  obtain ⟨fd, F⟩ := Φ.says.def_ 3 (d := d_is_picture) rfl
  exact ⟨_, fd, _, Φ.glo 32 rfl, F.kp, F.bindsN (fun _ _ _ _ _ _ us hl => match us, hl with | [_], _ => rfl), rfl, fnc_is_picture Φ F⟩
def N_look_at_picture : List Str := ["picture"]
theorem sc_look_at_picture : FnScope N_look_at_picture ["picture"] (defScope s_look_at_picture) := ⟨rfl, rfl, rfl, by decide +kernel, rfl, by decide +kernel, by decide +kernel⟩
theorem fnc_look_at_picture (Φ : Fx hd er isl P w K mg base G) {fd : FuncData} (F : FunD K "look_at_picture" "look_at_picture" (defArgs s_look_at_picture) (defBody s_look_at_picture) (defScope s_look_at_picture) [] [] (He.fAd K ("look_at_picture", none)) fd) : FnC P w K mg base G false 3 (He.fAd K ("look_at_picture", none)) fd ["picture"] M_look_at_picture :=
  fnC_of F sc_look_at_picture hm_clip fun cdv A outer s H E hr hg =>
    have O := Fx.ok Φ (outer := outer) (H := H) (E := E) sc_look_at_picture.nd hr
    (xss_one (xs_if (xt_not (xt_val (xe_callH (has_is_picture Φ) hr (by decide) (fun z => nomatch z) rfl (xa_cons (xe_v 0) xa_nil)))) (xss_one (xs_raise O.c (Fx.erX Φ 3 9 rfl rfl) (hr.mono (by decide)) rfl (xa_cons (xe_v 0) xa_nil))) xss_nil))
theorem has_look_at_picture (Φ : Fx hd er isl P w K mg base G) : Has P w K mg base G "look_at_picture" false 3 1 M_look_at_picture := by
  obtain ⟨fd, F⟩ := Φ.says.def_ 4 (d := d_look_at_picture) rfl
  exact ⟨_, fd, _, Φ.glo 33 rfl, F.kp, F.bindsN (fun _ _ _ _ _ _ us hl => match us, hl with | [_], _ => rfl), rfl, fnc_look_at_picture Φ F⟩
def N_told_moved : List Str := ["picture", "position", "found", "place", "row", "other", "mark"]
theorem sc_told_moved : FnScope N_told_moved ["picture", "position"] (defScope s_told_moved) := ⟨rfl, rfl, rfl, by decide +kernel, rfl, by decide +kernel, by decide +kernel⟩
theorem fnc_told_moved (Φ : Fx hd er isl P w K mg base G) {fd : FuncData} (F : FunD K "told_moved" "told_moved" (defArgs s_told_moved) (defBody s_told_moved) (defScope s_told_moved) [] [] (He.fAd K ("told_moved", none)) fd) : FnC P w K mg base G false 1 (He.fAd K ("told_moved", none)) fd ["picture", "position"] M_told_moved :=
  fnC_of F sc_told_moved hm_clip fun cdv A outer s H E hr hg =>
    have O := Fx.ok Φ (outer := outer) (H := H) (E := E) sc_told_moved.nd hr
    (xss_cons (xs_setLc 100000 O.c O.n rfl rfl (sw_true rfl rfl rfl rfl) (own := [("row", 4)]) (xi_seq O.g (xe_v 0)) (blkOk_by rfl) (fun _ _ _ _ _ => (xg_name (O.blk).n rfl (by first | exact .inl rfl | exact .inr rfl))) (fun _ _ _ _ _ => xts_nil) (fun _ _ _ _ _ => (xe_op (bMul (O.blk)) op2_mulA (xe_lst (xa_cons xe_int xa_nil)) (xe_callB (callO_len (O.blk).g) rfl (Φ.free 5 rfl) boot_len (xa_cons (xe_v 0) xa_nil)))) (by decide)) (xss_cons (xs_for 100000 hp_cx O.c (xi_enum O.g rfl (Φ.free 10 rfl) (xa_cons (xe_v 0) xa_nil)) (xg_tup O.g O.c (xgs_cons (xg_name O.n rfl (by first | exact .inl rfl | exact .inr rfl)) (xgs_cons (xg_name O.n rfl (by first | exact .inl rfl | exact .inr rfl)) xgs_nil)) (tgCons_len (tgCons_len tgNil_len))) (xss_one (xs_for 100000 hp_cx O.c (xi_enum O.g rfl (Φ.free 10 rfl) (xa_cons (xe_v 4) xa_nil)) (xg_tup O.g O.c (xgs_cons (xg_name O.n rfl (by first | exact .inl rfl | exact .inr rfl)) (xgs_cons (xg_name O.n rfl (by first | exact .inl rfl | exact .inr rfl)) xgs_nil)) (tgCons_len (tgCons_len tgNil_len))) (xss_one (xs_store O.u O.g (xe_v 6) (xe_ix O.u O.g (xe_v 2) (xe_ix O.u O.g (xe_v 1) (xe_v 3))) (xe_ix O.u O.g (xe_v 1) (xe_v 5))))))) (xss_one (xs_ret (xe_callTy (callO_tup O.g) rfl (Φ.free 4 rfl) boot_tuple (xa_cons (xe_lc 100000 O.c O.n (own := [("row", 4)]) (xi_seq O.g (xe_v 2)) (blkOk_by rfl) (fun _ _ _ _ _ => (xg_name (O.blk).n rfl (by first | exact .inl rfl | exact .inr rfl))) (fun _ _ _ _ _ => xts_nil) (fun _ _ _ _ _ => (xe_frz (xe_callTy (callO_tup (O.blk).g) rfl (Φ.free 4 rfl) boot_tuple (xa_cons (xe_v 4) xa_nil)))) (by decide)) xa_nil))))))
theorem has_told_moved (Φ : Fx hd er isl P w K mg base G) : Has P w K mg base G "told_moved" false 1 2 M_told_moved := by
  obtain ⟨fd, F⟩ := Φ.says.def_ 5 (d := d_told_moved) rfl
  exact ⟨_, fd, _, Φ.glo 34 rfl, F.kp, F.bindsN (fun _ _ _ _ _ _ us hl => match us, hl with | [_, _], _ => rfl), rfl, fnc_told_moved Φ F⟩
def N_marks_with : List Str := ["picture", "chosen", "place", "found", "other"]
theorem sc_marks_with : FnScope N_marks_with ["picture", "chosen", "place"] (defScope s_marks_with) := ⟨rfl, rfl, rfl, by decide +kernel, rfl, by decide +kernel, by decide +kernel⟩
theorem fnc_marks_with (Φ : Fx hd er isl P w K mg base G) {fd : FuncData} (F : FunD K "marks_with" "marks_with" (defArgs s_marks_with) (defBody s_marks_with) (defScope s_marks_with) [] [] (He.fAd K ("marks_with", none)) fd) : FnC P w K mg base G false 1 (He.fAd K ("marks_with", none)) fd ["picture", "chosen", "place"] M_marks_with :=
  fnC_of F sc_marks_with hm_clip fun cdv A outer s H E hr hg =>
    have O := Fx.ok Φ (outer := outer) (H := H) (E := E) sc_marks_with.nd hr
    (xss_cons (xs_set (i := 3) O.n rfl (by first | exact .inl rfl | exact .inr rfl) (xe_lst xa_nil)) (xss_cons (xs_for 100000 hp_cx O.c (xi_seq O.g (xe_v 1)) (xg_name O.n rfl (by first | exact .inl rfl | exact .inr rfl)) (xss_one (xs_meth pa_list PySem.F.slot_list_extend PySem.F.type_list_extend (mt_extendX O.g) (xe_v 3) (xa_cons (xe_frz (xe_lst (xa_cons (xe_ix O.u O.g (xe_ix O.u O.g (xe_v 0) (xe_v 2)) (xe_v 4)) (xa_cons (xe_ix O.u O.g (xe_ix O.u O.g (xe_v 0) (xe_v 4)) (xe_v 2)) xa_nil)))) xa_nil)))) (xss_one (xs_ret (xe_tup (xa_star O.g (xe_v 3) (xa_cons (xe_ix O.u O.g (xe_ix O.u O.g (xe_v 0) (xe_v 2)) (xe_v 2)) xa_nil)))))))
theorem has_marks_with (Φ : Fx hd er isl P w K mg base G) : Has P w K mg base G "marks_with" false 1 3 M_marks_with := by
  obtain ⟨fd, F⟩ := Φ.says.def_ 6 (d := d_marks_with) rfl
  exact ⟨_, fd, _, Φ.glo 35 rfl, F.kp, F.bindsN (fun _ _ _ _ _ _ us hl => match us, hl with | [_, _, _], _ => rfl), rfl, fnc_marks_with Φ F⟩
def N_least_orders : List Str := ["picture", "code", "orders", "lap", "best", "later", "chosen", "place", "told"]
theorem sc_least_orders : FnScope N_least_orders ["picture"] (defScope s_least_orders) := ⟨rfl, rfl, rfl, by decide +kernel, rfl, by decide +kernel, by decide +kernel⟩
theorem st_least_orders_1 (Φ : Fx hd er isl P w K mg base G) {cdv : Value} {A : Around} {outer : List PySem.Env} {s : Shared} {H : Hp} {E : XK} (hr : Room 1 (A.deeper (envOfC "least_orders" (defScope s_least_orders) s.heap.objs.size (He.fAd K ("least_orders", none)) cdv))) (hg : false = true → A.guards = some []) :
    XS (cxOf (L2.CX P w) P w K mg base N_least_orders "least_orders" (defScope s_least_orders) (He.fAd K ("least_orders", none)) cdv A outer s H E) G (stm (inBody (stm (inBody (stm (defBody s_least_orders) 1)) 1)) 0) m_least_orders_S1 :=
  have O := Fx.ok Φ (outer := outer) (H := H) (E := E) sc_least_orders.nd hr
  (xs_for 100000 hp_cx O.c (xi_seq O.g (xe_frz (xe_lc 100000 O.c O.n (own := [("place", 7)]) (xi_range1 rfl (Φ.free 11 rfl) (xe_callB (callO_len O.g) rfl (Φ.free 5 rfl) boot_len (xa_cons (xe_v 0) xa_nil))) (blkOk_by rfl) (fun _ _ _ _ _ => (xg_name (O.blk).n rfl (by first | exact .inl rfl | exact .inr rfl))) (fun _ _ _ _ _ => (xts_one (xt_cmp (cNotIn (O.blk)) op2_in (xe_v 7) (xe_v 6)))) (fun _ _ _ _ _ => (xe_v 7)) (by decide)))) (xg_name O.n rfl (by first | exact .inl rfl | exact .inr rfl)) (xss_cons (xs_set (i := 8) O.n rfl (by first | exact .inl rfl | exact .inr rfl) (xe_callH (has_marks_with Φ) hr (by decide) (fun z => nomatch z) rfl (xa_cons (xe_v 0) (xa_cons (xe_v 6) (xa_cons (xe_v 7) xa_nil))))) (xss_cons (xs_if (XW.t (xw_or (xt_cmp (cIs) op2_isN (xe_v 4) xe_non) (xw_or1 (xt_cmp (cLt O) op2_lt (xe_v 8) (xe_v 4))))) (xss_one (xs_frz 8 (xs_par2 (i := 4) (j := 5) O.c O.n rfl rfl (by decide) rfl rfl (xa_cons (xe_v 8) (xa_cons (xe_lst xa_nil) xa_nil)) rfl))) xss_nil) (xss_one (xs_if (xt_cmp (cEq O) op2_eq (xe_v 8) (xe_v 4)) (xss_one (xs_meth pa_list PySem.F.slot_list_append PySem.F.type_list_append mt_appendX (xe_v 5) (xa_cons (xe_tup (xa_star O.g (xe_v 6) (xa_cons (xe_v 7) xa_nil))) xa_nil))) xss_nil)))))
theorem fnc_least_orders (Φ : Fx hd er isl P w K mg base G) {fd : FuncData} (F : FunD K "least_orders" "least_orders" (defArgs s_least_orders) (defBody s_least_orders) (defScope s_least_orders) [] [] (He.fAd K ("least_orders", none)) fd) : FnC P w K mg base G false 2 (He.fAd K ("least_orders", none)) fd ["picture"] M_least_orders :=
  fnC_of F sc_least_orders hm_clip fun cdv A outer s H E hr hg =>
    have O := Fx.ok Φ (outer := outer) (H := H) (E := E) sc_least_orders.nd hr
    (xss_cons (xs_par2 (i := 1) (j := 2) O.c O.n rfl rfl (by decide) rfl rfl (xa_cons (xe_tup xa_nil) (xa_cons (xe_lst (xa_cons (xe_tup xa_nil) xa_nil)) xa_nil)) rfl) (xss_cons (xs_for 100000 hp_cx O.c (xi_range1 rfl (Φ.free 11 rfl) (xe_callB (callO_len O.g) rfl (Φ.free 5 rfl) boot_len (xa_cons (xe_v 0) xa_nil))) (xg_name O.n rfl (by first | exact .inl rfl | exact .inr rfl)) (xss_cons (xs_par2 (i := 4) (j := 5) O.c O.n rfl rfl (by decide) rfl rfl (xa_cons xe_non (xa_cons (xe_lst xa_nil) xa_nil)) rfl) (xss_cons (xs_frz 2 (xs_for 100000 hp_cx O.c (xi_seq O.g (xe_v 2)) (xg_name O.n rfl (by first | exact .inl rfl | exact .inr rfl)) (xss_one (st_least_orders_1 Φ hr hg)))) (xss_one (xs_frz 5 (xs_par2 (i := 1) (j := 2) O.c O.n rfl rfl (by decide) rfl rfl (xa_cons (xe_tup (xa_star O.g (xe_v 1) (xa_star O.g (xe_v 4) xa_nil))) (xa_cons (xe_v 5) xa_nil)) rfl)))))) (xss_one (xs_frz 2 (xs_ret (xe_tup (xa_cons (xe_v 1) (xa_cons (xe_v 2) xa_nil))))))))
theorem has_least_orders (Φ : Fx hd er isl P w K mg base G) : Has P w K mg base G "least_orders" false 2 1 M_least_orders := by
  obtain ⟨fd, F⟩ := Φ.says.def_ 7 (d := d_least_orders) rfl
  exact ⟨_, fd, _, Φ.glo 36 rfl, F.kp, F.bindsN (fun _ _ _ _ _ _ us hl => match us, hl with | [_], _ => rfl), rfl, fnc_least_orders Φ F⟩
def N_position_by : List Str := ["order", "found", "at", "place"]
theorem sc_position_by : FnScope N_position_by ["order"] (defScope s_position_by) := ⟨rfl, rfl, rfl, by decide +kernel, rfl, by decide +kernel, by decide +kernel⟩
theorem fnc_position_by (Φ : Fx hd er isl P w K mg base G) {fd : FuncData} (F : FunD K "position_by" "position_by" (defArgs s_position_by) (defBody s_position_by) (defScope s_position_by) [] [] (He.fAd K ("position_by", none)) fd) : FnC P w K mg base G false 1 (He.fAd K ("position_by", none)) fd ["order"] M_position_by :=
  fnC_of F sc_position_by hm_clip fun cdv A outer s H E hr hg =>
    have O := Fx.ok Φ (outer := outer) (H := H) (E := E) sc_position_by.nd hr
    (xss_cons (xs_set (i := 1) O.n rfl (by first | exact .inl rfl | exact .inr rfl) (xe_op (bMul O) op2_mulA (xe_lst (xa_cons xe_int xa_nil)) (xe_callB (callO_len O.g) rfl (Φ.free 5 rfl) boot_len (xa_cons (xe_v 0) xa_nil)))) (xss_cons (xs_for 100000 hp_cx O.c (xi_enum O.g rfl (Φ.free 10 rfl) (xa_cons (xe_v 0) xa_nil)) (xg_tup O.g O.c (xgs_cons (xg_name O.n rfl (by first | exact .inl rfl | exact .inr rfl)) (xgs_cons (xg_name O.n rfl (by first | exact .inl rfl | exact .inr rfl)) xgs_nil)) (tgCons_len (tgCons_len tgNil_len))) (xss_one (xs_store O.u O.g (xe_v 2) (xe_v 1) (xe_v 3)))) (xss_one (xs_ret (xe_callTy (callO_tup O.g) rfl (Φ.free 4 rfl) boot_tuple (xa_cons (xe_v 1) xa_nil))))))
theorem has_position_by (Φ : Fx hd er isl P w K mg base G) : Has P w K mg base G "position_by" false 1 1 M_position_by := by
  obtain ⟨fd, F⟩ := Φ.says.def_ 8 (d := d_position_by) rfl
  exact ⟨_, fd, _, Φ.glo 37 rfl, F.kp, F.bindsN (fun _ _ _ _ _ _ us hl => match us, hl with | [_], _ => rfl), rfl, fnc_position_by Φ F⟩
def N_least_picture : List Str := ["picture", "code", "orders", "position", "order"]
theorem sc_least_picture : FnScope N_least_picture ["picture"] (defScope s_least_picture) := ⟨rfl, rfl, rfl, by decide +kernel, rfl, by decide +kernel, by decide +kernel⟩
theorem fnc_least_picture (Φ : Fx hd er isl P w K mg base G) {fd : FuncData} (F : FunD K "least_picture" "least_picture" (defArgs s_least_picture) (defBody s_least_picture) (defScope s_least_picture) [] [] (He.fAd K ("least_picture", none)) fd) : FnC P w K mg base G false 4 (He.fAd K ("least_picture", none)) fd ["picture"] M_least_picture :=
  fnC_of F sc_least_picture hm_clip fun cdv A outer s H E hr hg =>
    have O := Fx.ok Φ (outer := outer) (H := H) (E := E) sc_least_picture.nd hr
    (xss_cons (xs_expr (xe_callH (has_look_at_picture Φ) hr (by decide) (fun z => nomatch z) rfl (xa_cons (xe_v 0) xa_nil))) (xss_cons (xs_unp (xe_callH (has_least_orders Φ) hr (by decide) (fun z => nomatch z) rfl (xa_cons (xe_v 0) xa_nil)) (xg_tup O.g O.c (xgs_cons (xg_name O.n rfl (by first | exact .inl rfl | exact .inr rfl)) (xgs_cons (xg_name O.n rfl (by first | exact .inl rfl | exact .inr rfl)) xgs_nil)) (tgCons_len (tgCons_len tgNil_len)))) (xss_cons (xs_set (i := 3) O.n rfl (by first | exact .inl rfl | exact .inr rfl) (xe_callB (callO_min O.u O.g O.c) rfl (Φ.free 12 rfl) boot_min (xa_cons (xe_lc 100000 O.c O.n (own := [("order", 4)]) (xi_seq O.g (xe_v 2)) (blkOk_by rfl) (fun _ _ _ _ _ => (xg_name (O.blk).n rfl (by first | exact .inl rfl | exact .inr rfl))) (fun _ _ _ _ _ => xts_nil) (fun _ _ _ _ _ => (xe_frz (xe_callH (has_position_by Φ) hr (by decide) (fun z => nomatch z) rfl (xa_cons (xe_v 4) xa_nil)))) (by decide)) xa_nil))) (xss_one (xs_ret (xe_tup (xa_cons (xe_frz (xe_callH (has_told_moved Φ) hr (by decide) (fun z => nomatch z) rfl (xa_cons (xe_v 0) (xa_cons (xe_v 3) xa_nil)))) (xa_cons (xe_v 3) xa_nil))))))))
theorem has_least_picture (Φ : Fx hd er isl P w K mg base G) : Has P w K mg base G "least_picture" false 4 1 M_least_picture := by
  obtain ⟨fd, F⟩ := Φ.says.def_ 9 (d := d_least_picture) rfl
  exact ⟨_, fd, _, Φ.glo 38 rfl, F.kp, F.bindsN (fun _ _ _ _ _ _ us hl => match us, hl with | [_], _ => rfl), rfl, fnc_least_picture Φ F⟩
def N_size_lots : List Str := ["many", "most", "found", "size", "rest"]
theorem sc_size_lots : FnScope N_size_lots ["many", "most"] (defScope s_size_lots) := ⟨rfl, rfl, rfl, by decide +kernel, rfl, by decide +kernel, by decide +kernel⟩
theorem fnc_size_lots (Φ : Fx hd er isl P w K mg base G) {fd : FuncData} (F : FunD K "size_lots" "size_lots" (defArgs s_size_lots) (defBody s_size_lots) (defScope s_size_lots) [] [] (He.fAd K ("size_lots", none)) fd) : ∀ n : Nat, FnC P w K mg base G false (1 + n) (He.fAd K ("size_lots", none)) fd ["many", "most"] (M_size_lots n)
  | 0 => fnC_bad
  | n + 1 => by
    have H_rec : Has P w K mg base G "size_lots" false (1 + n) 2 (M_size_lots n) := ⟨_, fd, _, Φ.glo 39 rfl, F.kp, F.bindsN (fun _ _ _ _ _ _ us hl => match us, hl with | [_, _], _ => rfl), rfl, fnc_size_lots Φ F n⟩
    exact fnC_of F sc_size_lots hm_clip fun cdv A outer s H E hr hg =>
      have O := Fx.ok Φ (outer := outer) (H := H) (E := E) sc_size_lots.nd hr
      (xss_cons (xs_if (xt_cmp (cEq O) op2_eq (xe_v 0) xe_int) (xss_one (xs_ret (xe_lst (xa_cons (xe_tup xa_nil) xa_nil)))) xss_nil) (xss_cons (xs_set (i := 2) O.n rfl (by first | exact .inl rfl | exact .inr rfl) (xe_lst xa_nil)) (xss_cons (xs_for 100000 hp_cx O.c (xi_range2 rfl (Φ.free 11 rfl) (xa_cons xe_int (xa_cons (xe_op (bAdd O) op2_addA (xe_callB (callO_min2 O.c) rfl (Φ.free 12 rfl) boot_min (xa_cons (xe_v 0) (xa_cons (xe_v 1) xa_nil))) xe_int) xa_nil))) (xg_name O.n rfl (by first | exact .inl rfl | exact .inr rfl)) (xss_one (xs_meth pa_list PySem.F.slot_list_extend PySem.F.type_list_extend (mt_extendX O.g) (xe_v 2) (xa_cons (xe_frz (xe_lc 100000 O.c O.n (own := [("rest", 4)]) (xi_seq O.g (xe_frz (xe_callH H_rec hr (Nat.le_refl _) (fun z => nomatch z) rfl (xa_cons (xe_frz (xe_op (op_sub) op2_sub (xe_v 0) (xe_v 3))) (xa_cons (xe_v 3) xa_nil))))) (blkOk_by rfl) (fun _ _ _ _ _ => (xg_name (O.blk).n rfl (by first | exact .inl rfl | exact .inr rfl))) (fun _ _ _ _ _ => xts_nil) (fun _ _ _ _ _ => (xe_tup (xa_cons (xe_v 3) (xa_star (O.blk).g (xe_v 4) xa_nil)))) (by decide))) xa_nil)))) (xss_one (xs_ret (xe_v 2))))))
theorem has_size_lots (Φ : Fx hd er isl P w K mg base G) : Has P w K mg base G "size_lots" false 21 2 (M_size_lots 20) := by
  obtain ⟨fd, F⟩ := Φ.says.def_ 10 (d := d_size_lots) rfl
  exact ⟨_, fd, _, Φ.glo 39 rfl, F.kp, F.bindsN (fun _ _ _ _ _ _ us hl => match us, hl with | [_, _], _ => rfl), rfl, fnc_size_lots Φ F 20⟩
def N_positions_with : List Str := ["sizes", "found", "below", "at", "size", "times", "lap"]
theorem sc_positions_with : FnScope N_positions_with ["sizes"] (defScope s_positions_with) := ⟨rfl, rfl, rfl, by decide +kernel, rfl, by decide +kernel, by decide +kernel⟩
theorem fnc_positions_with (Φ : Fx hd er isl P w K mg base G) {fd : FuncData} (F : FunD K "positions_with" "positions_with" (defArgs s_positions_with) (defBody s_positions_with) (defScope s_positions_with) [] [] (He.fAd K ("positions_with", none)) fd) : FnC P w K mg base G false 1 (He.fAd K ("positions_with", none)) fd ["sizes"] M_positions_with :=
  fnC_of F sc_positions_with hm_clip fun cdv A outer s H E hr hg =>
    have O := Fx.ok Φ (outer := outer) (H := H) (E := E) sc_positions_with.nd hr
    (xss_cons (xs_unp (xe_tup (xa_cons xe_int (xa_cons xe_int xa_nil))) (xg_tup O.g O.c (xgs_cons (xg_name O.n rfl (by first | exact .inl rfl | exact .inr rfl)) (xgs_cons (xg_name O.n rfl (by first | exact .inl rfl | exact .inr rfl)) xgs_nil)) (tgCons_len (tgCons_len tgNil_len)))) (xss_cons (xs_for 100000 hp_cx O.c (xi_range2 rfl (Φ.free 11 rfl) (xa_cons xe_int (xa_cons (xe_op (bAdd O) op2_addA (xe_callB (callO_sum O.g O.c) rfl (Φ.free 13 rfl) boot_sum (xa_cons (xe_v 0) xa_nil)) xe_int) xa_nil))) (xg_name O.n rfl (by first | exact .inl rfl | exact .inr rfl)) (xss_one (xs_set (i := 1) O.n rfl (by first | exact .inl rfl | exact .inr rfl) (xe_op (bMul O) op2_mulA (xe_v 1) (xe_v 3))))) (xss_cons (xs_for 100000 hp_cx O.c (xi_seq O.g (xe_frz (xe_sortSet O.g O.c rfl (Φ.free 14 rfl) rfl (Φ.free 15 rfl) (xe_v 0)))) (xg_name O.n rfl (by first | exact .inl rfl | exact .inr rfl)) (xss_cons (xs_set (i := 5) O.n rfl (by first | exact .inl rfl | exact .inr rfl) (xe_bm (T := .tuple) O.g pa_tuple PySem.F.slot_tuple_count PySem.F.type_tuple_count (mtO_countT O.u O.g) (xe_v 0) (xa_cons (xe_v 4) xa_nil))) (xss_one (xs_for 100000 hp_cx O.c (xi_range2 rfl (Φ.free 11 rfl) (xa_cons xe_int (xa_cons (xe_op (bAdd O) op2_addA (xe_v 5) xe_int) xa_nil))) (xg_name O.n rfl (by first | exact .inl rfl | exact .inr rfl)) (xss_one (xs_set (i := 2) O.n rfl (by first | exact .inl rfl | exact .inr rfl) (xe_op (bMul O) op2_mulA (xe_op (bMul O) op2_mulA (xe_v 2) (xe_v 4)) (xe_v 6)))))))) (xss_one (xs_ret (xe_op (op_fdivW) op2_div (xe_v 1) (xe_v 2)))))))
theorem has_positions_with (Φ : Fx hd er isl P w K mg base G) : Has P w K mg base G "positions_with" false 1 1 M_positions_with := by
  obtain ⟨fd, F⟩ := Φ.says.def_ 11 (d := d_positions_with) rfl
  exact ⟨_, fd, _, Φ.glo 40 rfl, F.kp, F.bindsN (fun _ _ _ _ _ _ us hl => match us, hl with | [_], _ => rfl), rfl, fnc_positions_with Φ F⟩
def N_pair_rings : List Str := ["sizes", "which", "found", "at", "one", "its", "other", "halves"]
theorem sc_pair_rings : FnScope N_pair_rings ["sizes", "which"] (defScope s_pair_rings) := ⟨rfl, rfl, rfl, by decide +kernel, rfl, by decide +kernel, by decide +kernel⟩
theorem st_pair_rings_1 (Φ : Fx hd er isl P w K mg base G) {cdv : Value} {A : Around} {outer : List PySem.Env} {s : Shared} {H : Hp} {E : XK} (hr : Room 1 (A.deeper (envOfC "pair_rings" (defScope s_pair_rings) s.heap.objs.size (He.fAd K ("pair_rings", none)) cdv))) (hg : false = true → A.guards = some []) :
    XS (cxOf (L2.CX P w) P w K mg base N_pair_rings "pair_rings" (defScope s_pair_rings) (He.fAd K ("pair_rings", none)) cdv A outer s H E) G (stm (defBody s_pair_rings) 1) m_pair_rings_S1 :=
  have O := Fx.ok Φ (outer := outer) (H := H) (E := E) sc_pair_rings.nd hr
  (xs_for 100000 hp_cx O.c (xi_enum O.g rfl (Φ.free 10 rfl) (xa_cons (xe_v 0) xa_nil)) (xg_tup O.g O.c (xgs_cons (xg_name O.n rfl (by first | exact .inl rfl | exact .inr rfl)) (xgs_cons (xg_name O.n rfl (by first | exact .inl rfl | exact .inr rfl)) xgs_nil)) (tgCons_len (tgCons_len tgNil_len))) (xss_cons (xs_for 100000 hp_cx O.c (xi_enum O.g rfl (Φ.free 10 rfl) (xa_cons (xe_v 0) xa_nil)) (xg_tup O.g O.c (xgs_cons (xg_name O.n rfl (by first | exact .inl rfl | exact .inr rfl)) (xgs_cons (xg_name O.n rfl (by first | exact .inl rfl | exact .inr rfl)) xgs_nil)) (tgCons_len (tgCons_len tgNil_len))) (xss_one (xs_if (xt_cmp (cNe O) op2_eq (xe_v 3) (xe_v 5)) (xss_one (xs_aug (i := 2) O.n rfl (by first | exact .inl rfl | exact .inr rfl) iop_add op2_iadd (xe_callH (has_common Φ) hr (by decide) (fun z => nomatch z) rfl (xa_cons (xe_v 4) (xa_cons (xe_v 6) xa_nil))))) xss_nil))) (xss_one (xs_aug (i := 2) O.n rfl (by first | exact .inl rfl | exact .inr rfl) iop_add op2_iadd (xe_if (xt_cmp (cEq O) op2_eq (xe_v 1) (xe_gStr rfl (Φ.str 16 rfl))) (xe_v 4) (xe_op (op_sub) op2_sub (xe_v 4) xe_int))))))
theorem fnc_pair_rings (Φ : Fx hd er isl P w K mg base G) {fd : FuncData} (F : FunD K "pair_rings" "pair_rings" (defArgs s_pair_rings) (defBody s_pair_rings) (defScope s_pair_rings) [] [] (He.fAd K ("pair_rings", none)) fd) : FnC P w K mg base G false 2 (He.fAd K ("pair_rings", none)) fd ["sizes", "which"] M_pair_rings :=
  fnC_of F sc_pair_rings hm_clip fun cdv A outer s H E hr hg =>
    have O := Fx.ok Φ (outer := outer) (H := H) (E := E) sc_pair_rings.nd hr
    (xss_cons (xs_set (i := 2) O.n rfl (by first | exact .inl rfl | exact .inr rfl) xe_int) (xss_cons (st_pair_rings_1 Φ hr hg) (xss_cons (xs_if (xt_cmp (cNe O) op2_eq (xe_v 1) (xe_gStr rfl (Φ.str 17 rfl))) (xss_one (xs_ret (xe_v 2))) xss_nil) (xss_cons (xs_set (i := 7) O.n rfl (by first | exact .inl rfl | exact .inr rfl) (xe_callB (callO_len O.g) rfl (Φ.free 5 rfl) boot_len (xa_cons (xe_lc 100000 O.c O.n (own := [("one", 4)]) (xi_seq O.g (xe_v 0)) (blkOk_by rfl) (fun _ _ _ _ _ => (xg_name (O.blk).n rfl (by first | exact .inl rfl | exact .inr rfl))) (fun _ _ _ _ _ => (xts_one (xt_cmp (cEq (O.blk)) op2_eq (xe_op (op_mod) op2_mod (xe_v 4) xe_int) xe_int))) (fun _ _ _ _ _ => (xe_v 4)) (by decide)) xa_nil))) (xss_one (xs_ret (xe_op (op_fdivW) op2_div (xe_op (bAdd O) op2_addA (xe_v 2) (xe_v 7)) xe_int)))))))
theorem has_pair_rings (Φ : Fx hd er isl P w K mg base G) : Has P w K mg base G "pair_rings" false 2 2 M_pair_rings := by
  obtain ⟨fd, F⟩ := Φ.says.def_ 12 (d := d_pair_rings) rfl
  exact ⟨_, fd, _, Φ.glo 41 rfl, F.kp, F.bindsN (fun _ _ _ _ _ _ us hl => match us, hl with | [_, _], _ => rfl), rfl, fnc_pair_rings Φ F⟩
def N_count_pictures : List Str := ["many", "below", "which", "total", "every", "sizes", "times", "rings", "made", "lap"]
theorem sc_count_pictures : FnScope N_count_pictures ["many", "below", "which"] (defScope s_count_pictures) := ⟨rfl, rfl, rfl, by decide +kernel, rfl, by decide +kernel, by decide +kernel⟩
theorem st_count_pictures_1 (Φ : Fx hd er isl P w K mg base G) {cdv : Value} {A : Around} {outer : List PySem.Env} {s : Shared} {H : Hp} {E : XK} (hr : Room 21 (A.deeper (envOfC "count_pictures" (defScope s_count_pictures) s.heap.objs.size (He.fAd K ("count_pictures", none)) cdv))) (hg : false = true → A.guards = some []) :
    XS (cxOf (L2.CX P w) P w K mg base N_count_pictures "count_pictures" (defScope s_count_pictures) (He.fAd K ("count_pictures", none)) cdv A outer s H E) G (stm (defBody s_count_pictures) 4) m_count_pictures_S1 :=
  have O := Fx.ok Φ (outer := outer) (H := H) (E := E) sc_count_pictures.nd hr
  (xs_for 100000 hp_cx O.c (xi_seq O.g (xe_frz (xe_callH (has_size_lots Φ) hr (by decide) (fun z => nomatch z) rfl (xa_cons (xe_v 0) (xa_cons (xe_v 0) xa_nil))))) (xg_name O.n rfl (by first | exact .inl rfl | exact .inr rfl)) (xss_cons (xs_par3 (i := 6) (j := 7) (l := 8) O.c O.n rfl rfl rfl (by decide) (by decide) (by decide) rfl rfl rfl (xa_cons (xe_callH (has_positions_with Φ) hr (by decide) (fun z => nomatch z) rfl (xa_cons (xe_v 5) xa_nil)) (xa_cons (xe_callH (has_pair_rings Φ) hr (by decide) (fun z => nomatch z) rfl (xa_cons (xe_v 5) (xa_cons (xe_v 2) xa_nil))) (xa_cons xe_int xa_nil))) rfl) (xss_cons (xs_for 100000 hp_cx O.c (xi_range1 rfl (Φ.free 11 rfl) (xe_v 7)) (xg_name O.n rfl (by first | exact .inl rfl | exact .inr rfl)) (xss_one (xs_set (i := 8) O.n rfl (by first | exact .inl rfl | exact .inr rfl) (xe_op (bMul O) op2_mulA (xe_v 8) (xe_v 1))))) (xss_cons (xs_aug (i := 3) O.n rfl (by first | exact .inl rfl | exact .inr rfl) iop_add op2_iadd (xe_op (bMul O) op2_mulA (xe_v 6) (xe_v 8))) (xss_one (xs_aug (i := 4) O.n rfl (by first | exact .inl rfl | exact .inr rfl) iop_add op2_iadd (xe_v 6)))))))
theorem fnc_count_pictures (Φ : Fx hd er isl P w K mg base G) {fd : FuncData} (F : FunD K "count_pictures" "count_pictures" (defArgs s_count_pictures) (defBody s_count_pictures) (defScope s_count_pictures) [] [] (He.fAd K ("count_pictures", none)) fd) : FnC P w K mg base G false 22 (He.fAd K ("count_pictures", none)) fd ["many", "below", "which"] M_count_pictures :=
  fnC_of F sc_count_pictures hm_clip fun cdv A outer s H E hr hg =>
    have O := Fx.ok Φ (outer := outer) (H := H) (E := E) sc_count_pictures.nd hr
    (xss_cons (xs_expr (xe_callH (has_look_at_number Φ) hr (by decide) (fun z => nomatch z) rfl (xa_cons (xe_v 0) (xa_cons xe_int (xa_cons (xe_gInt rfl (Φ.int 6 rfl)) xa_nil))))) (xss_cons (xs_expr (xe_callH (has_look_at_number Φ) hr (by decide) (fun z => nomatch z) rfl (xa_cons (xe_v 1) (xa_cons xe_int (xa_cons (xe_frz (xe_op (bAdd O) op2_addA (xe_gInt rfl (Φ.int 8 rfl)) xe_int)) xa_nil))))) (xss_cons (xs_if (XW.t (xw_or (xt_not (xt_val (xe_isT .str (by decide) O.g rfl (Φ.free 0 rfl) rfl (Φ.free 18 rfl) rfl (xe_v 2)))) (xw_or1 (xt_cmp (cNotIn O) op2_in (xe_v 2) (xe_tup (xa_cons (xe_gStr rfl (Φ.str 16 rfl)) (xa_cons (xe_gStr rfl (Φ.str 19 rfl)) (xa_cons (xe_gStr rfl (Φ.str 17 rfl)) xa_nil)))))))) (xss_one (xs_raise O.c (Fx.erX Φ 2 20 rfl rfl) (hr.mono (by decide)) rfl (xa_cons (xe_v 2) xa_nil))) xss_nil) (xss_cons (xs_unp (xe_tup (xa_cons xe_int (xa_cons xe_int xa_nil))) (xg_tup O.g O.c (xgs_cons (xg_name O.n rfl (by first | exact .inl rfl | exact .inr rfl)) (xgs_cons (xg_name O.n rfl (by first | exact .inl rfl | exact .inr rfl)) xgs_nil)) (tgCons_len (tgCons_len tgNil_len)))) (xss_cons (st_count_pictures_1 Φ hr hg) (xss_one (xs_ret (xe_op (op_fdivW) op2_div (xe_v 3) (xe_v 4)))))))))
theorem has_count_pictures (Φ : Fx hd er isl P w K mg base G) : Has P w K mg base G "count_pictures" false 22 3 M_count_pictures := by
  obtain ⟨fd, F⟩ := Φ.says.def_ 13 (d := d_count_pictures) rfl
  exact ⟨_, fd, _, Φ.glo 42 rfl, F.kp, F.bindsN (fun _ _ _ _ _ _ us hl => match us, hl with | [_, _, _], _ => rfl), rfl, fnc_count_pictures Φ F⟩
theorem hask_count_pictures_0 (Φ : Fx hd er isl P w K mg base G) : HasK P w K mg base G "count_pictures" false 22 ["below", "many", "which"] [1, 0, 2] M_count_pictures := by
  obtain ⟨fd, F⟩ := Φ.says.def_ 13 (d := d_count_pictures) rfl
  exact ⟨_, fd, _, Φ.glo 42 rfl, F.kp, bindsK F (fun _ _ _ _ _ _ us hl => match us, hl with | [_, _, _], _ => rfl), rfl, fnc_count_pictures Φ F⟩
def N__law_pot : List Str := ["script", "place", "cell", "own", "small"]
theorem sc__law_pot : FnScope N__law_pot ["script", "place"] (defScope s__law_pot) := ⟨rfl, rfl, rfl, by decide +kernel, rfl, by decide +kernel, by decide +kernel⟩
theorem fnc__law_pot (Φ : Fx hd er isl P w K mg base G) {fd : FuncData} (F : FunD K "_law_pot" "_law_pot" (defArgs s__law_pot) (defBody s__law_pot) (defScope s__law_pot) [] [] (He.fAd K ("_law_pot", none)) fd) : FnC P w K mg base G false 1 (He.fAd K ("_law_pot", none)) fd ["script", "place"] M__law_pot :=
  fnC_of F sc__law_pot hm_clip fun cdv A outer s H E hr hg =>
    have O := Fx.ok Φ (outer := outer) (H := H) (E := E) sc__law_pot.nd hr
    (xss_cons (xs_set (i := 2) O.n rfl (by first | exact .inl rfl | exact .inr rfl) (xe_if (xt_cmp (cLt O) op2_lt (xe_v 1) (xe_callB (callO_len O.g) rfl (Φ.free 5 rfl) boot_len (xa_cons (xe_v 0) xa_nil))) (xe_ix O.u O.g (xe_v 0) (xe_v 1)) (xe_op (bAdd O) op2_addA (xe_op (bAdd O) op2_addA (xe_op (op_mod) op2_mod (xe_callTy callO_int rfl (Φ.free 1 rfl) boot_int (xa_cons (xe_callB (callO_sum O.g O.c) rfl (Φ.free 13 rfl) boot_sum (xa_cons (xe_slice O.g (xe_v 0) xo_none (xo_some xe_int)) xa_nil)) xa_nil)) xe_int) (xe_op (bMul O) op2_mulA xe_int (xe_v 1))) xe_int))) (xss_cons (xs_set (i := 3) O.n rfl (by first | exact .inl rfl | exact .inr rfl) (xe_op (bMul O) op2_mulA (xe_op (op_mod) op2_mod (xe_callTy callO_int rfl (Φ.free 1 rfl) boot_int (xa_cons (xe_callB callO_abs rfl (Φ.free 21 rfl) boot_abs (xa_cons (xe_v 2) xa_nil)) xa_nil)) (xe_op (op_powW) op2_pow (xe_op (op_powW) op2_pow xe_int xe_int) xe_int)) (xe_callTy callO_int rfl (Φ.free 1 rfl) boot_int (xa_cons (xe_cmp (cGe O) op2_ge (xe_callB callO_abs rfl (Φ.free 21 rfl) boot_abs (xa_cons (xe_v 2) xa_nil)) (xe_op (op_powW) op2_pow xe_int xe_int)) xa_nil)))) (xss_cons (xs_set (i := 4) O.n rfl (by first | exact .inl rfl | exact .inr rfl) (xe_op (op_mod) op2_mod (xe_callTy callO_int rfl (Φ.free 1 rfl) boot_int (xa_cons (xe_v 2) xa_nil)) xe_int)) (xss_one (xs_ret (xe_lst (xa_cons (xe_v 3) (xa_cons (xe_frz (xe_op (op_mod) op2_mod (xe_callTy callO_int rfl (Φ.free 1 rfl) boot_int (xa_cons (xe_op (bAdd O) op2_addA (xe_op (bAdd O) op2_addA (xe_op (bMul O) op2_mulA (xe_v 4) xe_int) (xe_op (bMul O) op2_mulA (xe_op (bMul O) op2_mulA xe_int (xe_v 1)) (xe_v 1))) xe_int) xa_nil)) xe_int)) (xa_cons xe_int xa_nil)))))))))
theorem has__law_pot (Φ : Fx hd er isl P w K mg base G) : Has P w K mg base G "_law_pot" false 1 2 M__law_pot := by
  obtain ⟨fd, F⟩ := Φ.says.def_ 14 (d := d__law_pot) rfl
  exact ⟨_, fd, _, Φ.glo 43 rfl, F.kp, F.bindsN (fun _ _ _ _ _ _ us hl => match us, hl with | [_, _], _ => rfl), rfl, fnc__law_pot Φ F⟩
def N__law_take : List Str := ["pot", "upto", "digit", "prime", "blend"]
theorem sc__law_take : FnScope N__law_take ["pot", "upto"] (defScope s__law_take) := ⟨rfl, rfl, rfl, by decide +kernel, rfl, by decide +kernel, by decide +kernel⟩
theorem fnc__law_take (Φ : Fx hd er isl P w K mg base G) {fd : FuncData} (F : FunD K "_law_take" "_law_take" (defArgs s__law_take) (defBody s__law_take) (defScope s__law_take) [] [] (He.fAd K ("_law_take", none)) fd) : FnC P w K mg base G false 1 (He.fAd K ("_law_take", none)) fd ["pot", "upto"] M__law_take :=
  fnC_of F sc__law_take hm_clip fun cdv A outer s H E hr hg =>
    have O := Fx.ok Φ (outer := outer) (H := H) (E := E) sc__law_take.nd hr
    (xss_cons (xs_if (xt_cmp (cGt O) op2_gt (xe_ix O.u O.g (xe_v 0) xe_int) xe_int) (xss_cons (xs_set (i := 2) O.n rfl (by first | exact .inl rfl | exact .inr rfl) (xe_op (op_mod) op2_mod (xe_callTy callO_int rfl (Φ.free 1 rfl) boot_int (xa_cons (xe_ix O.u O.g (xe_v 0) xe_int) xa_nil)) (xe_v 1))) (xss_cons (xs_store O.u O.g (xe_frz (xe_op (op_fdivW) op2_div (xe_ix O.u O.g (xe_v 0) xe_int) (xe_v 1))) (xe_v 0) xe_int) (xss_one (xs_ret (xe_v 2))))) xss_nil) (xss_cons (xs_store O.u O.g (xe_frz (xe_op (bAdd O) op2_addA (xe_ix O.u O.g (xe_v 0) xe_int) xe_int)) (xe_v 0) xe_int) (xss_cons (xs_set (i := 3) O.n rfl (by first | exact .inl rfl | exact .inr rfl) (xe_ix O.u O.g (xe_lst (xa_cons xe_int (xa_cons xe_int (xa_cons xe_int (xa_cons xe_int (xa_cons xe_int xa_nil)))))) (xe_op (op_mod) op2_mod (xe_callTy callO_int rfl (Φ.free 1 rfl) boot_int (xa_cons (xe_ix O.u O.g (xe_v 0) xe_int) xa_nil)) xe_int))) (xss_cons (xs_set (i := 4) O.n rfl (by first | exact .inl rfl | exact .inr rfl) (xe_op (op_mod) op2_mod (xe_callTy callO_int rfl (Φ.free 1 rfl) boot_int (xa_cons (xe_op (op_powW) op2_pow (xe_callTy callO_int rfl (Φ.free 1 rfl) boot_int (xa_cons (xe_op (bAdd O) op2_addA (xe_op (bAdd O) op2_addA (xe_ix O.u O.g (xe_v 0) xe_int) (xe_op (bMul O) op2_mulA (xe_op (bMul O) op2_mulA xe_int (xe_ix O.u O.g (xe_v 0) xe_int)) (xe_ix O.u O.g (xe_v 0) xe_int))) xe_int) xa_nil)) xe_int) xa_nil)) (xe_v 3))) (xss_cons (xs_set (i := 4) O.n rfl (by first | exact .inl rfl | exact .inr rfl) (xe_op (op_mod) op2_mod (xe_callTy callO_int rfl (Φ.free 1 rfl) boot_int (xa_cons (xe_op (bMul O) op2_mulA (xe_v 4) (xe_op (bAdd O) op2_addA (xe_op (op_mod) op2_mod (xe_callTy callO_int rfl (Φ.free 1 rfl) boot_int (xa_cons (xe_v 4) xa_nil)) xe_int) (xe_op (bMul O) op2_mulA xe_int (xe_ix O.u O.g (xe_v 0) xe_int)))) xa_nil)) xe_int)) (xss_one (xs_ret (xe_op (op_mod) op2_mod (xe_callTy callO_int rfl (Φ.free 1 rfl) boot_int (xa_cons (xe_op (op_fdivW) op2_div (xe_v 4) xe_int) xa_nil)) (xe_v 1)))))))))
theorem has__law_take (Φ : Fx hd er isl P w K mg base G) : Has P w K mg base G "_law_take" false 1 2 M__law_take := by
  obtain ⟨fd, F⟩ := Φ.says.def_ 15 (d := d__law_take) rfl
  exact ⟨_, fd, _, Φ.glo 44 rfl, F.kp, F.bindsN (fun _ _ _ _ _ _ us hl => match us, hl with | [_, _], _ => rfl), rfl, fnc__law_take Φ F⟩
def N__law_of : List Str := ["pot", "some"]
theorem sc__law_of : FnScope N__law_of ["pot", "some"] (defScope s__law_of) := ⟨rfl, rfl, rfl, by decide +kernel, rfl, by decide +kernel, by decide +kernel⟩
theorem fnc__law_of (Φ : Fx hd er isl P w K mg base G) {fd : FuncData} (F : FunD K "_law_of" "_law_of" (defArgs s__law_of) (defBody s__law_of) (defScope s__law_of) [] [] (He.fAd K ("_law_of", none)) fd) : FnC P w K mg base G false 2 (He.fAd K ("_law_of", none)) fd ["pot", "some"] M__law_of :=
  fnC_of F sc__law_of hm_clip fun cdv A outer s H E hr hg =>
    have O := Fx.ok Φ (outer := outer) (H := H) (E := E) sc__law_of.nd hr
    (xss_one (xs_ret (xe_ix O.u O.g (xe_v 1) (xe_callH (has__law_take Φ) hr (by decide) (fun z => nomatch z) rfl (xa_cons (xe_v 0) (xa_cons (xe_frz (xe_callB (callO_len O.g) rfl (Φ.free 5 rfl) boot_len (xa_cons (xe_v 1) xa_nil))) xa_nil))))))
theorem has__law_of (Φ : Fx hd er isl P w K mg base G) : Has P w K mg base G "_law_of" false 2 2 M__law_of := by
  obtain ⟨fd, F⟩ := Φ.says.def_ 16 (d := d__law_of) rfl
  exact ⟨_, fd, _, Φ.glo 45 rfl, F.kp, F.bindsN (fun _ _ _ _ _ _ us hl => match us, hl with | [_, _], _ => rfl), rfl, fnc__law_of Φ F⟩
def N__law_cells : List Str := ["script", "most"]
theorem sc__law_cells : FnScope N__law_cells ["script", "most"] (defScope s__law_cells) := ⟨rfl, rfl, rfl, by decide +kernel, rfl, by decide +kernel, by decide +kernel⟩
theorem fnc__law_cells (Φ : Fx hd er isl P w K mg base G) {fd : FuncData} (F : FunD K "_law_cells" "_law_cells" (defArgs s__law_cells) (defBody s__law_cells) (defScope s__law_cells) [] [] (He.fAd K ("_law_cells", none)) fd) : FnC P w K mg base G false 1 (He.fAd K ("_law_cells", none)) fd ["script", "most"] M__law_cells :=
  fnC_of F sc__law_cells hm_clip fun cdv A outer s H E hr hg =>
    have O := Fx.ok Φ (outer := outer) (H := H) (E := E) sc__law_cells.nd hr
    (xss_one (xs_ret (xe_listRg1 O.c rfl (Φ.free 22 rfl) rfl (Φ.free 11 rfl) (xe_callB (callO_max2 O.c) rfl (Φ.free 23 rfl) boot_max (xa_cons xe_int (xa_cons (xe_callB (callO_min2 O.c) rfl (Φ.free 12 rfl) boot_min (xa_cons (xe_v 1) (xa_cons (xe_callB (callO_len O.g) rfl (Φ.free 5 rfl) boot_len (xa_cons (xe_v 0) xa_nil)) xa_nil))) xa_nil))))))
theorem has__law_cells (Φ : Fx hd er isl P w K mg base G) : Has P w K mg base G "_law_cells" false 1 2 M__law_cells := by
  obtain ⟨fd, F⟩ := Φ.says.def_ 17 (d := d__law_cells) rfl
  exact ⟨_, fd, _, Φ.glo 46 rfl, F.kp, F.bindsN (fun _ _ _ _ _ _ us hl => match us, hl with | [_, _], _ => rfl), rfl, fnc__law_cells Φ F⟩
def N__law_moved : List Str := ["picture", "position", "found", "one", "row", "other", "mark"]
theorem sc__law_moved : FnScope N__law_moved ["picture", "position"] (defScope s__law_moved) := ⟨rfl, rfl, rfl, by decide +kernel, rfl, by decide +kernel, by decide +kernel⟩
theorem fnc__law_moved (Φ : Fx hd er isl P w K mg base G) {fd : FuncData} (F : FunD K "_law_moved" "_law_moved" (defArgs s__law_moved) (defBody s__law_moved) (defScope s__law_moved) [] [] (He.fAd K ("_law_moved", none)) fd) : FnC P w K mg base G false 1 (He.fAd K ("_law_moved", none)) fd ["picture", "position"] M__law_moved :=
  fnC_of F sc__law_moved hm_clip fun cdv A outer s H E hr hg =>
    have O := Fx.ok Φ (outer := outer) (H := H) (E := E) sc__law_moved.nd hr
    (xss_cons (xs_setLc 100000 O.c O.n rfl rfl (sw_true rfl rfl rfl rfl) (own := [("row", 4)]) (xi_seq O.g (xe_v 0)) (blkOk_by rfl) (fun _ _ _ _ _ => (xg_name (O.blk).n rfl (by first | exact .inl rfl | exact .inr rfl))) (fun _ _ _ _ _ => xts_nil) (fun _ _ _ _ _ => (xe_op (bMul (O.blk)) op2_mulA (xe_lst (xa_cons xe_int xa_nil)) (xe_callB (callO_len (O.blk).g) rfl (Φ.free 5 rfl) boot_len (xa_cons (xe_v 0) xa_nil)))) (by decide)) (xss_cons (xs_for 100000 hp_cx O.c (xi_enum O.g rfl (Φ.free 10 rfl) (xa_cons (xe_v 0) xa_nil)) (xg_tup O.g O.c (xgs_cons (xg_name O.n rfl (by first | exact .inl rfl | exact .inr rfl)) (xgs_cons (xg_name O.n rfl (by first | exact .inl rfl | exact .inr rfl)) xgs_nil)) (tgCons_len (tgCons_len tgNil_len))) (xss_one (xs_for 100000 hp_cx O.c (xi_enum O.g rfl (Φ.free 10 rfl) (xa_cons (xe_v 4) xa_nil)) (xg_tup O.g O.c (xgs_cons (xg_name O.n rfl (by first | exact .inl rfl | exact .inr rfl)) (xgs_cons (xg_name O.n rfl (by first | exact .inl rfl | exact .inr rfl)) xgs_nil)) (tgCons_len (tgCons_len tgNil_len))) (xss_one (xs_store O.u O.g (xe_v 6) (xe_ix O.u O.g (xe_v 2) (xe_ix O.u O.g (xe_v 1) (xe_v 3))) (xe_ix O.u O.g (xe_v 1) (xe_v 5))))))) (xss_one (xs_ret (xe_callTy (callO_tup O.g) rfl (Φ.free 4 rfl) boot_tuple (xa_cons (xe_lc 100000 O.c O.n (own := [("row", 4)]) (xi_seq O.g (xe_v 2)) (blkOk_by rfl) (fun _ _ _ _ _ => (xg_name (O.blk).n rfl (by first | exact .inl rfl | exact .inr rfl))) (fun _ _ _ _ _ => xts_nil) (fun _ _ _ _ _ => (xe_frz (xe_callTy (callO_tup (O.blk).g) rfl (Φ.free 4 rfl) boot_tuple (xa_cons (xe_v 4) xa_nil)))) (by decide)) xa_nil))))))
theorem has__law_moved (Φ : Fx hd er isl P w K mg base G) : Has P w K mg base G "_law_moved" false 1 2 M__law_moved := by
  obtain ⟨fd, F⟩ := Φ.says.def_ 19 (d := d__law_moved) rfl
  exact ⟨_, fd, _, Φ.glo 47 rfl, F.kp, F.bindsN (fun _ _ _ _ _ _ us hl => match us, hl with | [_, _], _ => rfl), rfl, fnc__law_moved Φ F⟩
def N__law_every : List Str := ["many", "found", "lap", "longer", "row", "to"]
theorem sc__law_every : FnScope N__law_every ["many"] (defScope s__law_every) := ⟨rfl, rfl, rfl, by decide +kernel, rfl, by decide +kernel, by decide +kernel⟩
theorem st__law_every_1 (Φ : Fx hd er isl P w K mg base G) {cdv : Value} {A : Around} {outer : List PySem.Env} {s : Shared} {H : Hp} {E : XK} (hr : Room 0 (A.deeper (envOfC "_law_every" (defScope s__law_every) s.heap.objs.size (He.fAd K ("_law_every", none)) cdv))) (hg : false = true → A.guards = some []) :
    XS (cxOf (L2.CX P w) P w K mg base N__law_every "_law_every" (defScope s__law_every) (He.fAd K ("_law_every", none)) cdv A outer s H E) G (stm (defBody s__law_every) 1) m__law_every_S1 :=
  have O := Fx.ok Φ (outer := outer) (H := H) (E := E) sc__law_every.nd hr
  (xs_for 100000 hp_cx O.c (xi_range1 rfl (Φ.free 11 rfl) (xe_v 0)) (xg_name O.n rfl (by first | exact .inl rfl | exact .inr rfl)) (xss_cons (xs_set (i := 3) O.n rfl (by first | exact .inl rfl | exact .inr rfl) (xe_lst xa_nil)) (xss_cons (xs_frz 1 (xs_for 100000 hp_cx O.c (xi_seq O.g (xe_v 1)) (xg_name O.n rfl (by first | exact .inl rfl | exact .inr rfl)) (xss_one (xs_meth pa_list PySem.F.slot_list_extend PySem.F.type_list_extend (mt_extendX O.g) (xe_v 3) (xa_cons (xe_frz (xe_lc 100000 O.c O.n (own := [("to", 5)]) (xi_range1 rfl (Φ.free 11 rfl) (xe_v 0)) (blkOk_by rfl) (fun _ _ _ _ _ => (xg_name (O.blk).n rfl (by first | exact .inl rfl | exact .inr rfl))) (fun _ _ _ _ _ => (xts_one (xt_cmp (cNotIn (O.blk)) op2_in (xe_v 5) (xe_v 4)))) (fun _ _ _ _ _ => (xe_frz (xe_op (bAdd (O.blk)) op2_addA (xe_v 4) (xe_tup (xa_cons (xe_v 5) xa_nil))))) (by decide))) xa_nil))))) (xss_one (xs_frz 3 (xs_set (i := 1) O.n rfl (by first | exact .inl rfl | exact .inr rfl) (xe_v 3)))))))
theorem fnc__law_every (Φ : Fx hd er isl P w K mg base G) {fd : FuncData} (F : FunD K "_law_every" "_law_every" (defArgs s__law_every) (defBody s__law_every) (defScope s__law_every) [] [] (He.fAd K ("_law_every", none)) fd) : FnC P w K mg base G false 1 (He.fAd K ("_law_every", none)) fd ["many"] M__law_every :=
  fnC_of F sc__law_every hm_clip fun cdv A outer s H E hr hg =>
    have O := Fx.ok Φ (outer := outer) (H := H) (E := E) sc__law_every.nd hr
    (xss_cons (xs_set (i := 1) O.n rfl (by first | exact .inl rfl | exact .inr rfl) (xe_lst (xa_cons (xe_tup xa_nil) xa_nil))) (xss_cons (st__law_every_1 Φ hr hg) (xss_one (xs_ret (xe_v 1)))))
theorem has__law_every (Φ : Fx hd er isl P w K mg base G) : Has P w K mg base G "_law_every" false 1 1 M__law_every := by
  obtain ⟨fd, F⟩ := Φ.says.def_ 20 (d := d__law_every) rfl
  exact ⟨_, fd, _, Φ.glo 48 rfl, F.kp, F.bindsN (fun _ _ _ _ _ _ us hl => match us, hl with | [_], _ => rfl), rfl, fnc__law_every Φ F⟩
def N__law_free_pairs : List Str := ["many", "which", "found", "one", "other"]
theorem sc__law_free_pairs : FnScope N__law_free_pairs ["many", "which"] (defScope s__law_free_pairs) := ⟨rfl, rfl, rfl, by decide +kernel, rfl, by decide +kernel, by decide +kernel⟩
theorem fnc__law_free_pairs (Φ : Fx hd er isl P w K mg base G) {fd : FuncData} (F : FunD K "_law_free_pairs" "_law_free_pairs" (defArgs s__law_free_pairs) (defBody s__law_free_pairs) (defScope s__law_free_pairs) [] [] (He.fAd K ("_law_free_pairs", none)) fd) : FnC P w K mg base G false 1 (He.fAd K ("_law_free_pairs", none)) fd ["many", "which"] M__law_free_pairs :=
  fnC_of F sc__law_free_pairs hm_clip fun cdv A outer s H E hr hg =>
    have O := Fx.ok Φ (outer := outer) (H := H) (E := E) sc__law_free_pairs.nd hr
    (xss_cons (xs_set (i := 2) O.n rfl (by first | exact .inl rfl | exact .inr rfl) (xe_lst xa_nil)) (xss_cons (xs_for 100000 hp_cx O.c (xi_range1 rfl (Φ.free 11 rfl) (xe_v 0)) (xg_name O.n rfl (by first | exact .inl rfl | exact .inr rfl)) (xss_cons (xs_if (xt_cmp (cEq O) op2_eq (xe_v 1) xe_str) (xss_one (xs_meth pa_list PySem.F.slot_list_append PySem.F.type_list_append mt_appendX (xe_v 2) (xa_cons (xe_tup (xa_cons (xe_v 3) (xa_cons (xe_v 3) xa_nil))) xa_nil))) xss_nil) (xss_one (xs_for 100000 hp_cx O.c (xi_range1 rfl (Φ.free 11 rfl) (xe_v 0)) (xg_name O.n rfl (by first | exact .inl rfl | exact .inr rfl)) (xss_one (xs_if (XW.t (xw_or (xt_cmp (cLt O) op2_lt (xe_v 3) (xe_v 4)) (xw_or1 (XW.t (xw_and (xt_cmp (cGt O) op2_gt (xe_v 3) (xe_v 4)) (xw_and1 (xt_cmp (cNe O) op2_eq (xe_v 1) xe_str))))))) (xss_one (xs_meth pa_list PySem.F.slot_list_append PySem.F.type_list_append mt_appendX (xe_v 2) (xa_cons (xe_tup (xa_cons (xe_v 3) (xa_cons (xe_v 4) xa_nil))) xa_nil))) xss_nil)))))) (xss_one (xs_ret (xe_v 2)))))
theorem has__law_free_pairs (Φ : Fx hd er isl P w K mg base G) : Has P w K mg base G "_law_free_pairs" false 1 2 M__law_free_pairs := by
  obtain ⟨fd, F⟩ := Φ.says.def_ 21 (d := d__law_free_pairs) rfl
  exact ⟨_, fd, _, Φ.glo 49 rfl, F.kp, F.bindsN (fun _ _ _ _ _ _ us hl => match us, hl with | [_, _], _ => rfl), rfl, fnc__law_free_pairs Φ F⟩
def N__law_by_all : List Str := ["many", "below", "which", "pairs", "rows", "lap", "longer", "row", "every", "seen", "found", "marks", "one", "other", "mark", "picture", "position", "place", "line"]
theorem sc__law_by_all : FnScope N__law_by_all ["many", "below", "which"] (defScope s__law_by_all) := ⟨rfl, rfl, rfl, by decide +kernel, rfl, by decide +kernel, by decide +kernel⟩
theorem st__law_by_all_1 (Φ : Fx hd er isl P w K mg base G) {cdv : Value} {A : Around} {outer : List PySem.Env} {s : Shared} {H : Hp} {E : XK} (hr : Room 1 (A.deeper (envOfC "_law_by_all" (defScope s__law_by_all) s.heap.objs.size (He.fAd K ("_law_by_all", none)) cdv))) (hg : false = true → A.guards = some []) :
    XS (cxOf (L2.CX P w) P w K mg base N__law_by_all "_law_by_all" (defScope s__law_by_all) (He.fAd K ("_law_by_all", none)) cdv A outer s H E) G (stm (defBody s__law_by_all) 0) m__law_by_all_S1 :=
  have O := Fx.ok Φ (outer := outer) (H := H) (E := E) sc__law_by_all.nd hr
  (xs_par2 (i := 3) (j := 4) O.c O.n rfl rfl (by decide) rfl rfl (xa_cons (xe_callH (has__law_free_pairs Φ) hr (by decide) (fun z => nomatch z) rfl (xa_cons (xe_v 0) (xa_cons (xe_v 2) xa_nil))) (xa_cons (xe_lst (xa_cons (xe_tup xa_nil) xa_nil)) xa_nil)) rfl)
theorem st__law_by_all_2 (Φ : Fx hd er isl P w K mg base G) {cdv : Value} {A : Around} {outer : List PySem.Env} {s : Shared} {H : Hp} {E : XK} (hr : Room 1 (A.deeper (envOfC "_law_by_all" (defScope s__law_by_all) s.heap.objs.size (He.fAd K ("_law_by_all", none)) cdv))) (hg : false = true → A.guards = some []) :
    XS (cxOf (L2.CX P w) P w K mg base N__law_by_all "_law_by_all" (defScope s__law_by_all) (He.fAd K ("_law_by_all", none)) cdv A outer s H E) G (stm (inBody (stm (inBody (stm (defBody s__law_by_all) 1)) 1)) 0) m__law_by_all_S2 :=
  have O := Fx.ok Φ (outer := outer) (H := H) (E := E) sc__law_by_all.nd hr
  (xs_meth pa_list PySem.F.slot_list_extend PySem.F.type_list_extend (mt_extendX O.g) (xe_v 6) (xa_cons (xe_frz (xe_lc 100000 O.c O.n (own := [("mark", 14)]) (xi_range1 rfl (Φ.free 11 rfl) (xe_v 1)) (blkOk_by rfl) (fun _ _ _ _ _ => (xg_name (O.blk).n rfl (by first | exact .inl rfl | exact .inr rfl))) (fun _ _ _ _ _ => xts_nil) (fun _ _ _ _ _ => (xe_frz (xe_op (bAdd (O.blk)) op2_addA (xe_v 7) (xe_tup (xa_cons (xe_v 14) xa_nil))))) (by decide))) xa_nil))
theorem st__law_by_all_3 (Φ : Fx hd er isl P w K mg base G) {cdv : Value} {A : Around} {outer : List PySem.Env} {s : Shared} {H : Hp} {E : XK} (hr : Room 1 (A.deeper (envOfC "_law_by_all" (defScope s__law_by_all) s.heap.objs.size (He.fAd K ("_law_by_all", none)) cdv))) (hg : false = true → A.guards = some []) :
    XS (cxOf (L2.CX P w) P w K mg base N__law_by_all "_law_by_all" (defScope s__law_by_all) (He.fAd K ("_law_by_all", none)) cdv A outer s H E) G (stm (defBody s__law_by_all) 1) m__law_by_all_S3 :=
  have O := Fx.ok Φ (outer := outer) (H := H) (E := E) sc__law_by_all.nd hr
  (xs_for 100000 hp_cx O.c (xi_range1 rfl (Φ.free 11 rfl) (xe_callB (callO_len O.g) rfl (Φ.free 5 rfl) boot_len (xa_cons (xe_v 3) xa_nil))) (xg_name O.n rfl (by first | exact .inl rfl | exact .inr rfl)) (xss_cons (xs_set (i := 6) O.n rfl (by first | exact .inl rfl | exact .inr rfl) (xe_lst xa_nil)) (xss_cons (xs_frz 4 (xs_for 100000 hp_cx O.c (xi_seq O.g (xe_v 4)) (xg_name O.n rfl (by first | exact .inl rfl | exact .inr rfl)) (xss_one (st__law_by_all_2 Φ hr hg)))) (xss_one (xs_frz 6 (xs_set (i := 4) O.n rfl (by first | exact .inl rfl | exact .inr rfl) (xe_v 6)))))))
theorem st__law_by_all_4 (Φ : Fx hd er isl P w K mg base G) {cdv : Value} {A : Around} {outer : List PySem.Env} {s : Shared} {H : Hp} {E : XK} (hr : Room 1 (A.deeper (envOfC "_law_by_all" (defScope s__law_by_all) s.heap.objs.size (He.fAd K ("_law_by_all", none)) cdv))) (hg : false = true → A.guards = some []) :
    XS (cxOf (L2.CX P w) P w K mg base N__law_by_all "_law_by_all" (defScope s__law_by_all) (He.fAd K ("_law_by_all", none)) cdv A outer s H E) G (stm (defBody s__law_by_all) 2) m__law_by_all_S4 :=
  have O := Fx.ok Φ (outer := outer) (H := H) (E := E) sc__law_by_all.nd hr
  (xs_par3 (i := 8) (j := 9) (l := 10) O.c O.n rfl rfl rfl (by decide) (by decide) (by decide) rfl rfl rfl (xa_cons (xe_callH (has__law_every Φ) hr (by decide) (fun z => nomatch z) rfl (xa_cons (xe_v 0) xa_nil)) (xa_cons xe_dct0 (xa_cons xe_int xa_nil))) rfl)
theorem st__law_by_all_5 (Φ : Fx hd er isl P w K mg base G) {cdv : Value} {A : Around} {outer : List PySem.Env} {s : Shared} {H : Hp} {E : XK} (hr : Room 1 (A.deeper (envOfC "_law_by_all" (defScope s__law_by_all) s.heap.objs.size (He.fAd K ("_law_by_all", none)) cdv))) (hg : false = true → A.guards = some []) :
    XS (cxOf (L2.CX P w) P w K mg base N__law_by_all "_law_by_all" (defScope s__law_by_all) (He.fAd K ("_law_by_all", none)) cdv A outer s H E) G (stm (inBody (stm (defBody s__law_by_all) 3)) 0) m__law_by_all_S5 :=
  have O := Fx.ok Φ (outer := outer) (H := H) (E := E) sc__law_by_all.nd hr
  (xs_setLc 100000 O.c O.n rfl rfl (sw_true rfl rfl rfl rfl) (own := [("place", 17)]) (xi_range1 rfl (Φ.free 11 rfl) (xe_v 0)) (blkOk_by rfl) (fun _ _ _ _ _ => (xg_name (O.blk).n rfl (by first | exact .inl rfl | exact .inr rfl))) (fun _ _ _ _ _ => xts_nil) (fun _ _ _ _ _ => (xe_op (bMul (O.blk)) op2_mulA (xe_lst (xa_cons xe_int xa_nil)) (xe_v 0))) (by decide))
theorem st__law_by_all_6 (Φ : Fx hd er isl P w K mg base G) {cdv : Value} {A : Around} {outer : List PySem.Env} {s : Shared} {H : Hp} {E : XK} (hr : Room 1 (A.deeper (envOfC "_law_by_all" (defScope s__law_by_all) s.heap.objs.size (He.fAd K ("_law_by_all", none)) cdv))) (hg : false = true → A.guards = some []) :
    XS (cxOf (L2.CX P w) P w K mg base N__law_by_all "_law_by_all" (defScope s__law_by_all) (He.fAd K ("_law_by_all", none)) cdv A outer s H E) G (stm (inBody (stm (defBody s__law_by_all) 3)) 1) m__law_by_all_S6 :=
  have O := Fx.ok Φ (outer := outer) (H := H) (E := E) sc__law_by_all.nd hr
  (xs_frz 3 (xs_for 100000 hp_cx O.c (xi_zip O.g rfl (Φ.free 24 rfl) (xa_cons (xe_v 3) (xa_cons (xe_v 7) xa_nil))) (xg_tup O.g O.c (xgs_cons (xg_tup O.g O.c (xgs_cons (xg_name O.n rfl (by first | exact .inl rfl | exact .inr rfl)) (xgs_cons (xg_name O.n rfl (by first | exact .inl rfl | exact .inr rfl)) xgs_nil)) (tgCons_len (tgCons_len tgNil_len))) (xgs_cons (xg_name O.n rfl (by first | exact .inl rfl | exact .inr rfl)) xgs_nil)) (tgCons_len (tgCons_len tgNil_len))) (xss_cons (xs_store O.u O.g (xe_v 14) (xe_ix O.u O.g (xe_v 11) (xe_v 12)) (xe_v 13)) (xss_one (xs_if (xt_cmp (cEq O) op2_eq (xe_v 2) xe_str) (xss_one (xs_store O.u O.g (xe_v 14) (xe_ix O.u O.g (xe_v 11) (xe_v 13)) (xe_v 12))) xss_nil)))))
theorem st__law_by_all_7 (Φ : Fx hd er isl P w K mg base G) {cdv : Value} {A : Around} {outer : List PySem.Env} {s : Shared} {H : Hp} {E : XK} (hr : Room 1 (A.deeper (envOfC "_law_by_all" (defScope s__law_by_all) s.heap.objs.size (He.fAd K ("_law_by_all", none)) cdv))) (hg : false = true → A.guards = some []) :
    XS (cxOf (L2.CX P w) P w K mg base N__law_by_all "_law_by_all" (defScope s__law_by_all) (He.fAd K ("_law_by_all", none)) cdv A outer s H E) G (stm (inBody (stm (defBody s__law_by_all) 3)) 2) m__law_by_all_S7 :=
  have O := Fx.ok Φ (outer := outer) (H := H) (E := E) sc__law_by_all.nd hr
  (xs_set (i := 15) O.n rfl (by first | exact .inl rfl | exact .inr rfl) (xe_callTy (callO_tup O.g) rfl (Φ.free 4 rfl) boot_tuple (xa_cons (xe_lc 100000 O.c O.n (own := [("line", 18)]) (xi_seq O.g (xe_v 11)) (blkOk_by rfl) (fun _ _ _ _ _ => (xg_name (O.blk).n rfl (by first | exact .inl rfl | exact .inr rfl))) (fun _ _ _ _ _ => xts_nil) (fun _ _ _ _ _ => (xe_frz (xe_callTy (callO_tup (O.blk).g) rfl (Φ.free 4 rfl) boot_tuple (xa_cons (xe_v 18) xa_nil)))) (by decide)) xa_nil)))
theorem st__law_by_all_8 (Φ : Fx hd er isl P w K mg base G) {cdv : Value} {A : Around} {outer : List PySem.Env} {s : Shared} {H : Hp} {E : XK} (hr : Room 1 (A.deeper (envOfC "_law_by_all" (defScope s__law_by_all) s.heap.objs.size (He.fAd K ("_law_by_all", none)) cdv))) (hg : false = true → A.guards = some []) :
    XS (cxOf (L2.CX P w) P w K mg base N__law_by_all "_law_by_all" (defScope s__law_by_all) (He.fAd K ("_law_by_all", none)) cdv A outer s H E) G (stm (inBody (stm (inBody (stm (defBody s__law_by_all) 3)) 3)) 1) m__law_by_all_S8 :=
  have O := Fx.ok Φ (outer := outer) (H := H) (E := E) sc__law_by_all.nd hr
  (xs_frz 8 (xs_for 100000 hp_cx O.c (xi_seq O.g (xe_v 8)) (xg_name O.n rfl (by first | exact .inl rfl | exact .inr rfl)) (xss_one (xs_store O.u O.g xe_bl (xe_v 9) (xe_callH (has__law_moved Φ) hr (by decide) (fun z => nomatch z) rfl (xa_cons (xe_v 15) (xa_cons (xe_v 16) xa_nil)))))))
theorem st__law_by_all_9 (Φ : Fx hd er isl P w K mg base G) {cdv : Value} {A : Around} {outer : List PySem.Env} {s : Shared} {H : Hp} {E : XK} (hr : Room 1 (A.deeper (envOfC "_law_by_all" (defScope s__law_by_all) s.heap.objs.size (He.fAd K ("_law_by_all", none)) cdv))) (hg : false = true → A.guards = some []) :
    XS (cxOf (L2.CX P w) P w K mg base N__law_by_all "_law_by_all" (defScope s__law_by_all) (He.fAd K ("_law_by_all", none)) cdv A outer s H E) G (stm (inBody (stm (defBody s__law_by_all) 3)) 3) m__law_by_all_S9 :=
  have O := Fx.ok Φ (outer := outer) (H := H) (E := E) sc__law_by_all.nd hr
  (xs_if (xt_cmp (cNotIn O) op2_in (xe_v 15) (xe_v 9)) (xss_cons (xs_set (i := 10) O.n rfl (by first | exact .inl rfl | exact .inr rfl) (xe_op (bAdd O) op2_addA (xe_v 10) xe_int)) (xss_one (st__law_by_all_8 Φ hr hg))) xss_nil)
theorem st__law_by_all_10 (Φ : Fx hd er isl P w K mg base G) {cdv : Value} {A : Around} {outer : List PySem.Env} {s : Shared} {H : Hp} {E : XK} (hr : Room 1 (A.deeper (envOfC "_law_by_all" (defScope s__law_by_all) s.heap.objs.size (He.fAd K ("_law_by_all", none)) cdv))) (hg : false = true → A.guards = some []) :
    XS (cxOf (L2.CX P w) P w K mg base N__law_by_all "_law_by_all" (defScope s__law_by_all) (He.fAd K ("_law_by_all", none)) cdv A outer s H E) G (stm (defBody s__law_by_all) 3) m__law_by_all_S10 :=
  have O := Fx.ok Φ (outer := outer) (H := H) (E := E) sc__law_by_all.nd hr
  (xs_frz 4 (xs_for 100000 hp_cx O.c (xi_seq O.g (xe_v 4)) (xg_name O.n rfl (by first | exact .inl rfl | exact .inr rfl)) (xss_cons (st__law_by_all_5 Φ hr hg) (xss_cons (st__law_by_all_6 Φ hr hg) (xss_cons (st__law_by_all_7 Φ hr hg) (xss_one (st__law_by_all_9 Φ hr hg)))))))
theorem fnc__law_by_all (Φ : Fx hd er isl P w K mg base G) {fd : FuncData} (F : FunD K "_law_by_all" "_law_by_all" (defArgs s__law_by_all) (defBody s__law_by_all) (defScope s__law_by_all) [] [] (He.fAd K ("_law_by_all", none)) fd) : FnC P w K mg base G false 2 (He.fAd K ("_law_by_all", none)) fd ["many", "below", "which"] M__law_by_all :=
  fnC_of F sc__law_by_all hm_clip fun cdv A outer s H E hr hg =>
    have O := Fx.ok Φ (outer := outer) (H := H) (E := E) sc__law_by_all.nd hr
    (xss_cons (st__law_by_all_1 Φ hr hg) (xss_cons (st__law_by_all_3 Φ hr hg) (xss_cons (st__law_by_all_4 Φ hr hg) (xss_cons (st__law_by_all_10 Φ hr hg) (xss_one (xs_ret (xe_v 10)))))))
theorem has__law_by_all (Φ : Fx hd er isl P w K mg base G) : Has P w K mg base G "_law_by_all" false 2 3 M__law_by_all := by
  obtain ⟨fd, F⟩ := Φ.says.def_ 22 (d := d__law_by_all) rfl
  exact ⟨_, fd, _, Φ.glo 50 rfl, F.kp, F.bindsN (fun _ _ _ _ _ _ us hl => match us, hl with | [_, _, _], _ => rfl), rfl, fnc__law_by_all Φ F⟩
def N__law_by_rings : List Str := ["many", "below", "which", "total", "every", "pairs", "position", "left", "rings", "here", "made", "lap", "pair"]
theorem sc__law_by_rings : FnScope N__law_by_rings ["many", "below", "which"] (defScope s__law_by_rings) := ⟨rfl, rfl, rfl, by decide +kernel, rfl, by decide +kernel, by decide +kernel⟩
theorem st__law_by_rings_1 (Φ : Fx hd er isl P w K mg base G) {cdv : Value} {A : Around} {outer : List PySem.Env} {s : Shared} {H : Hp} {E : XK} (hr : Room 1 (A.deeper (envOfC "_law_by_rings" (defScope s__law_by_rings) s.heap.objs.size (He.fAd K ("_law_by_rings", none)) cdv))) (hg : false = true → A.guards = some []) :
    XS (cxOf (L2.CX P w) P w K mg base N__law_by_rings "_law_by_rings" (defScope s__law_by_rings) (He.fAd K ("_law_by_rings", none)) cdv A outer s H E) G (stm (defBody s__law_by_rings) 0) m__law_by_rings_S1 :=
  have O := Fx.ok Φ (outer := outer) (H := H) (E := E) sc__law_by_rings.nd hr
  (xs_par3 (i := 3) (j := 4) (l := 5) O.c O.n rfl rfl rfl (by decide) (by decide) (by decide) rfl rfl rfl (xa_cons xe_int (xa_cons (xe_callH (has__law_every Φ) hr (by decide) (fun z => nomatch z) rfl (xa_cons (xe_v 0) xa_nil)) (xa_cons (xe_callH (has__law_free_pairs Φ) hr (by decide) (fun z => nomatch z) rfl (xa_cons (xe_v 0) (xa_cons (xe_v 2) xa_nil))) xa_nil))) rfl)
theorem st__law_by_rings_2 (Φ : Fx hd er isl P w K mg base G) {cdv : Value} {A : Around} {outer : List PySem.Env} {s : Shared} {H : Hp} {E : XK} (hr : Room 1 (A.deeper (envOfC "_law_by_rings" (defScope s__law_by_rings) s.heap.objs.size (He.fAd K ("_law_by_rings", none)) cdv))) (hg : false = true → A.guards = some []) :
    XS (cxOf (L2.CX P w) P w K mg base N__law_by_rings "_law_by_rings" (defScope s__law_by_rings) (He.fAd K ("_law_by_rings", none)) cdv A outer s H E) G (stm (inBody (stm (defBody s__law_by_rings) 1)) 0) m__law_by_rings_S2 :=
  have O := Fx.ok Φ (outer := outer) (H := H) (E := E) sc__law_by_rings.nd hr
  (xs_par2 (i := 7) (j := 8) O.c O.n rfl rfl (by decide) rfl rfl (xa_cons (xe_callTy (callO_dictP O.u O.g O.c) rfl (Φ.free 25 rfl) boot_dict (xa_cons (xe_lc 100000 O.c O.n (own := [("pair", 12)]) (xi_seq O.g (xe_v 5)) (blkOk_by rfl) (fun _ _ _ _ _ => (xg_name (O.blk).n rfl (by first | exact .inl rfl | exact .inr rfl))) (fun _ _ _ _ _ => xts_nil) (fun _ _ _ _ _ => (xe_tup (xa_cons (xe_v 12) (xa_cons xe_bl xa_nil)))) (by decide)) xa_nil)) (xa_cons xe_int xa_nil)) rfl)
theorem st__law_by_rings_3 (Φ : Fx hd er isl P w K mg base G) {cdv : Value} {A : Around} {outer : List PySem.Env} {s : Shared} {H : Hp} {E : XK} (hr : Room 1 (A.deeper (envOfC "_law_by_rings" (defScope s__law_by_rings) s.heap.objs.size (He.fAd K ("_law_by_rings", none)) cdv))) (hg : false = true → A.guards = some []) :
    XS (cxOf (L2.CX P w) P w K mg base N__law_by_rings "_law_by_rings" (defScope s__law_by_rings) (He.fAd K ("_law_by_rings", none)) cdv A outer s H E) G (stm (inBody (stm (inBody (stm (defBody s__law_by_rings) 1)) 1)) 0) m__law_by_rings_S3 :=
  have O := Fx.ok Φ (outer := outer) (H := H) (E := E) sc__law_by_rings.nd hr
  (xs_par2 (i := 9) (j := 8) O.c O.n rfl rfl (by decide) rfl rfl (xa_cons (xe_ix O.u O.g (xe_callB (callO_sorted O.u O.g O.c) rfl (Φ.free 14 rfl) boot_sorted (xa_cons (xe_v 7) xa_nil)) xe_int) (xa_cons (xe_op (bAdd O) op2_addA (xe_v 8) xe_int) xa_nil)) rfl)
theorem st__law_by_rings_4 (Φ : Fx hd er isl P w K mg base G) {cdv : Value} {A : Around} {outer : List PySem.Env} {s : Shared} {H : Hp} {E : XK} (hr : Room 1 (A.deeper (envOfC "_law_by_rings" (defScope s__law_by_rings) s.heap.objs.size (He.fAd K ("_law_by_rings", none)) cdv))) (hg : false = true → A.guards = some []) :
    XS (cxOf (L2.CX P w) P w K mg base N__law_by_rings "_law_by_rings" (defScope s__law_by_rings) (He.fAd K ("_law_by_rings", none)) cdv A outer s H E) G (stm (inBody (stm (inBody (stm (inBody (stm (defBody s__law_by_rings) 1)) 1)) 1)) 1) m__law_by_rings_S4 :=
  have O := Fx.ok Φ (outer := outer) (H := H) (E := E) sc__law_by_rings.nd hr
  (xs_set (i := 9) O.n rfl (by first | exact .inl rfl | exact .inr rfl) (xe_tup (xa_cons (xe_ix O.u O.g (xe_v 6) (xe_ix O.u O.g (xe_v 9) xe_int)) (xa_cons (xe_ix O.u O.g (xe_v 6) (xe_ix O.u O.g (xe_v 9) xe_int)) xa_nil))))
theorem st__law_by_rings_5 (Φ : Fx hd er isl P w K mg base G) {cdv : Value} {A : Around} {outer : List PySem.Env} {s : Shared} {H : Hp} {E : XK} (hr : Room 1 (A.deeper (envOfC "_law_by_rings" (defScope s__law_by_rings) s.heap.objs.size (He.fAd K ("_law_by_rings", none)) cdv))) (hg : false = true → A.guards = some []) :
    XS (cxOf (L2.CX P w) P w K mg base N__law_by_rings "_law_by_rings" (defScope s__law_by_rings) (He.fAd K ("_law_by_rings", none)) cdv A outer s H E) G (stm (inBody (stm (inBody (stm (inBody (stm (defBody s__law_by_rings) 1)) 1)) 1)) 2) m__law_by_rings_S5 :=
  have O := Fx.ok Φ (outer := outer) (H := H) (E := E) sc__law_by_rings.nd hr
  (xs_frz 9 (xs_set (i := 9) O.n rfl (by first | exact .inl rfl | exact .inr rfl) (xe_if (xt_cmp (cEq O) op2_eq (xe_v 2) xe_str) (xe_callTy (callO_tup O.g) rfl (Φ.free 4 rfl) boot_tuple (xa_cons (xe_callB (callO_sorted O.u O.g O.c) rfl (Φ.free 14 rfl) boot_sorted (xa_cons (xe_v 9) xa_nil)) xa_nil)) (xe_v 9))))
theorem st__law_by_rings_6 (Φ : Fx hd er isl P w K mg base G) {cdv : Value} {A : Around} {outer : List PySem.Env} {s : Shared} {H : Hp} {E : XK} (hr : Room 1 (A.deeper (envOfC "_law_by_rings" (defScope s__law_by_rings) s.heap.objs.size (He.fAd K ("_law_by_rings", none)) cdv))) (hg : false = true → A.guards = some []) :
    XS (cxOf (L2.CX P w) P w K mg base N__law_by_rings "_law_by_rings" (defScope s__law_by_rings) (He.fAd K ("_law_by_rings", none)) cdv A outer s H E) G (stm (inBody (stm (inBody (stm (defBody s__law_by_rings) 1)) 1)) 1) m__law_by_rings_S6 :=
  have O := Fx.ok Φ (outer := outer) (H := H) (E := E) sc__law_by_rings.nd hr
  (xs_while 100000 hp_cx (xt_cmp (cIn O) op2_in (xe_v 9) (xe_v 7)) (xss_cons (xs_frz 9 (xs_meth pa_dict PySem.F.slot_dict_pop PySem.F.type_dict_pop (mt_dpopX O.u O.g) (xe_v 7) (xa_cons (xe_v 9) xa_nil))) (xss_cons (st__law_by_rings_4 Φ hr hg) (xss_one (st__law_by_rings_5 Φ hr hg)))))
theorem st__law_by_rings_7 (Φ : Fx hd er isl P w K mg base G) {cdv : Value} {A : Around} {outer : List PySem.Env} {s : Shared} {H : Hp} {E : XK} (hr : Room 1 (A.deeper (envOfC "_law_by_rings" (defScope s__law_by_rings) s.heap.objs.size (He.fAd K ("_law_by_rings", none)) cdv))) (hg : false = true → A.guards = some []) :
    XS (cxOf (L2.CX P w) P w K mg base N__law_by_rings "_law_by_rings" (defScope s__law_by_rings) (He.fAd K ("_law_by_rings", none)) cdv A outer s H E) G (stm (inBody (stm (defBody s__law_by_rings) 1)) 1) m__law_by_rings_S7 :=
  have O := Fx.ok Φ (outer := outer) (H := H) (E := E) sc__law_by_rings.nd hr
  (xs_while 100000 hp_cx (xt_cmp (cGt O) op2_gt (xe_callB (callO_len O.g) rfl (Φ.free 5 rfl) boot_len (xa_cons (xe_v 7) xa_nil)) xe_int) (xss_cons (st__law_by_rings_3 Φ hr hg) (xss_one (st__law_by_rings_6 Φ hr hg))))
theorem st__law_by_rings_8 (Φ : Fx hd er isl P w K mg base G) {cdv : Value} {A : Around} {outer : List PySem.Env} {s : Shared} {H : Hp} {E : XK} (hr : Room 1 (A.deeper (envOfC "_law_by_rings" (defScope s__law_by_rings) s.heap.objs.size (He.fAd K ("_law_by_rings", none)) cdv))) (hg : false = true → A.guards = some []) :
    XS (cxOf (L2.CX P w) P w K mg base N__law_by_rings "_law_by_rings" (defScope s__law_by_rings) (He.fAd K ("_law_by_rings", none)) cdv A outer s H E) G (stm (inBody (stm (defBody s__law_by_rings) 1)) 3) m__law_by_rings_S8 :=
  have O := Fx.ok Φ (outer := outer) (H := H) (E := E) sc__law_by_rings.nd hr
  (xs_for 100000 hp_cx O.c (xi_range1 rfl (Φ.free 11 rfl) (xe_v 8)) (xg_name O.n rfl (by first | exact .inl rfl | exact .inr rfl)) (xss_one (xs_set (i := 10) O.n rfl (by first | exact .inl rfl | exact .inr rfl) (xe_op (bMul O) op2_mulA (xe_v 10) (xe_v 1)))))
theorem st__law_by_rings_9 (Φ : Fx hd er isl P w K mg base G) {cdv : Value} {A : Around} {outer : List PySem.Env} {s : Shared} {H : Hp} {E : XK} (hr : Room 1 (A.deeper (envOfC "_law_by_rings" (defScope s__law_by_rings) s.heap.objs.size (He.fAd K ("_law_by_rings", none)) cdv))) (hg : false = true → A.guards = some []) :
    XS (cxOf (L2.CX P w) P w K mg base N__law_by_rings "_law_by_rings" (defScope s__law_by_rings) (He.fAd K ("_law_by_rings", none)) cdv A outer s H E) G (stm (defBody s__law_by_rings) 1) m__law_by_rings_S9 :=
  have O := Fx.ok Φ (outer := outer) (H := H) (E := E) sc__law_by_rings.nd hr
  (xs_frz 4 (xs_for 100000 hp_cx O.c (xi_seq O.g (xe_v 4)) (xg_name O.n rfl (by first | exact .inl rfl | exact .inr rfl)) (xss_cons (st__law_by_rings_2 Φ hr hg) (xss_cons (st__law_by_rings_7 Φ hr hg) (xss_cons (xs_set (i := 10) O.n rfl (by first | exact .inl rfl | exact .inr rfl) xe_int) (xss_cons (st__law_by_rings_8 Φ hr hg) (xss_one (xs_set (i := 3) O.n rfl (by first | exact .inl rfl | exact .inr rfl) (xe_op (bAdd O) op2_addA (xe_v 3) (xe_v 10))))))))))
theorem fnc__law_by_rings (Φ : Fx hd er isl P w K mg base G) {fd : FuncData} (F : FunD K "_law_by_rings" "_law_by_rings" (defArgs s__law_by_rings) (defBody s__law_by_rings) (defScope s__law_by_rings) [] [] (He.fAd K ("_law_by_rings", none)) fd) : FnC P w K mg base G false 2 (He.fAd K ("_law_by_rings", none)) fd ["many", "below", "which"] M__law_by_rings :=
  fnC_of F sc__law_by_rings hm_clip fun cdv A outer s H E hr hg =>
    have O := Fx.ok Φ (outer := outer) (H := H) (E := E) sc__law_by_rings.nd hr
    (xss_cons (st__law_by_rings_1 Φ hr hg) (xss_cons (st__law_by_rings_9 Φ hr hg) (xss_one (xs_ret (xe_op (op_fdivW) op2_div (xe_v 3) (xe_callB (callO_len O.g) rfl (Φ.free 5 rfl) boot_len (xa_cons (xe_v 4) xa_nil)))))))
theorem has__law_by_rings (Φ : Fx hd er isl P w K mg base G) : Has P w K mg base G "_law_by_rings" false 2 3 M__law_by_rings := by
  obtain ⟨fd, F⟩ := Φ.says.def_ 23 (d := d__law_by_rings) rfl
  exact ⟨_, fd, _, Φ.glo 51 rfl, F.kp, F.bindsN (fun _ _ _ _ _ _ us hl => match us, hl with | [_, _, _], _ => rfl), rfl, fnc__law_by_rings Φ F⟩
def N__law_right : List Str := ["pot", "which", "many", "below", "odd", "caught"]
theorem sc__law_right : FnScope N__law_right ["pot"] (defScope s__law_right) := ⟨rfl, rfl, rfl, by decide +kernel, rfl, by decide +kernel, by decide +kernel⟩
theorem st__law_right_1 (Φ : Fx hd er isl P w K mg base G) {A : Around} {outer : List PySem.Env} {s : Shared} {H : Hp} {E : XK} (hr : Room 24 (A.deeper (envOfC "_law_right" (defScope s__law_right) s.heap.objs.size (He.fAd K ("_law_right", none)) (.ref (He.cT K ("_law_right", none)).1)))) (hg : true = true → A.guards = some []) :
    XS (cxOf (L2.CX P w) P w K mg base N__law_right "_law_right" (defScope s__law_right) (He.fAd K ("_law_right", none)) (.ref (He.cT K ("_law_right", none)).1) A outer s H E) G (stm (defBody s__law_right) 0) m__law_right_S1 :=
  have O := Fx.ok Φ (outer := outer) (H := H) (E := E) sc__law_right.nd hr
  (xs_set (i := 1) O.n rfl (by first | exact .inl rfl | exact .inr rfl) (xe_callH (has__law_of Φ) hr (by decide) (fun z => nomatch z) rfl (xa_cons (xe_v 0) (xa_cons (xe_frz (xe_lst (xa_cons xe_str (xa_cons xe_str (xa_cons xe_str xa_nil))))) xa_nil))))
theorem st__law_right_2 (Φ : Fx hd er isl P w K mg base G) {A : Around} {outer : List PySem.Env} {s : Shared} {H : Hp} {E : XK} (hr : Room 24 (A.deeper (envOfC "_law_right" (defScope s__law_right) s.heap.objs.size (He.fAd K ("_law_right", none)) (.ref (He.cT K ("_law_right", none)).1)))) (hg : true = true → A.guards = some []) :
    XS (cxOf (L2.CX P w) P w K mg base N__law_right "_law_right" (defScope s__law_right) (He.fAd K ("_law_right", none)) (.ref (He.cT K ("_law_right", none)).1) A outer s H E) G (stm (defBody s__law_right) 1) m__law_right_S2 :=
  have O := Fx.ok Φ (outer := outer) (H := H) (E := E) sc__law_right.nd hr
  (xs_par2 (i := 2) (j := 3) O.c O.n rfl rfl (by decide) rfl rfl (xa_cons (xe_callTy callO_int rfl (Φ.free 1 rfl) boot_int (xa_cons (xe_op (bAdd O) op2_addA xe_int (xe_callH (has__law_take Φ) hr (by decide) (fun z => nomatch z) rfl (xa_cons (xe_v 0) (xa_cons xe_int xa_nil)))) xa_nil)) (xa_cons (xe_callTy callO_int rfl (Φ.free 1 rfl) boot_int (xa_cons (xe_op (bAdd O) op2_addA xe_int (xe_callH (has__law_take Φ) hr (by decide) (fun z => nomatch z) rfl (xa_cons (xe_v 0) (xa_cons xe_int xa_nil)))) xa_nil)) xa_nil)) rfl)
theorem st__law_right_3 (Φ : Fx hd er isl P w K mg base G) {A : Around} {outer : List PySem.Env} {s : Shared} {H : Hp} {E : XK} (hr : Room 24 (A.deeper (envOfC "_law_right" (defScope s__law_right) s.heap.objs.size (He.fAd K ("_law_right", none)) (.ref (He.cT K ("_law_right", none)).1)))) (hg : true = true → A.guards = some []) :
    XS (cxOf (L2.CX P w) P w K mg base N__law_right "_law_right" (defScope s__law_right) (He.fAd K ("_law_right", none)) (.ref (He.cT K ("_law_right", none)).1) A outer s H E) G (stm (defBody s__law_right) 2) m__law_right_S3 :=
  have O := Fx.ok Φ (outer := outer) (H := H) (E := E) sc__law_right.nd hr
  (xs_frz 1 (xs_if (xt_cmp (cNe O) op2_eq (xe_callB (callO_repr O.u O.g (hg rfl)) rfl (Φ.free 26 rfl) boot_repr (xa_cons (xe_callH (has_count_pictures Φ) hr (by decide) (fun z => nomatch z) rfl (xa_cons (xe_v 2) (xa_cons (xe_v 3) (xa_cons (xe_v 1) xa_nil)))) xa_nil)) (xe_callB (callO_repr O.u O.g (hg rfl)) rfl (Φ.free 26 rfl) boot_repr (xa_cons (xe_callH (has__law_by_all Φ) hr (by decide) (fun z => nomatch z) rfl (xa_cons (xe_v 2) (xa_cons (xe_v 3) (xa_cons (xe_v 1) xa_nil)))) xa_nil))) (xss_one (xs_ret xe_bl)) xss_nil))
theorem st__law_right_4 (Φ : Fx hd er isl P w K mg base G) {A : Around} {outer : List PySem.Env} {s : Shared} {H : Hp} {E : XK} (hr : Room 24 (A.deeper (envOfC "_law_right" (defScope s__law_right) s.heap.objs.size (He.fAd K ("_law_right", none)) (.ref (He.cT K ("_law_right", none)).1)))) (hg : true = true → A.guards = some []) :
    XS (cxOf (L2.CX P w) P w K mg base N__law_right "_law_right" (defScope s__law_right) (He.fAd K ("_law_right", none)) (.ref (He.cT K ("_law_right", none)).1) A outer s H E) G (stm (defBody s__law_right) 3) m__law_right_S4 :=
  have O := Fx.ok Φ (outer := outer) (H := H) (E := E) sc__law_right.nd hr
  (xs_par2 (i := 2) (j := 3) O.c O.n rfl rfl (by decide) rfl rfl (xa_cons (xe_callTy callO_int rfl (Φ.free 1 rfl) boot_int (xa_cons (xe_op (bAdd O) op2_addA xe_int (xe_callH (has__law_take Φ) hr (by decide) (fun z => nomatch z) rfl (xa_cons (xe_v 0) (xa_cons xe_int xa_nil)))) xa_nil)) (xa_cons (xe_callTy callO_int rfl (Φ.free 1 rfl) boot_int (xa_cons (xe_op (bAdd O) op2_addA xe_int (xe_callH (has__law_take Φ) hr (by decide) (fun z => nomatch z) rfl (xa_cons (xe_v 0) (xa_cons xe_int xa_nil)))) xa_nil)) xa_nil)) rfl)
theorem st__law_right_5 (Φ : Fx hd er isl P w K mg base G) {A : Around} {outer : List PySem.Env} {s : Shared} {H : Hp} {E : XK} (hr : Room 24 (A.deeper (envOfC "_law_right" (defScope s__law_right) s.heap.objs.size (He.fAd K ("_law_right", none)) (.ref (He.cT K ("_law_right", none)).1)))) (hg : true = true → A.guards = some []) :
    XS (cxOf (L2.CX P w) P w K mg base N__law_right "_law_right" (defScope s__law_right) (He.fAd K ("_law_right", none)) (.ref (He.cT K ("_law_right", none)).1) A outer s H E) G (stm (defBody s__law_right) 4) m__law_right_S5 :=
  have O := Fx.ok Φ (outer := outer) (H := H) (E := E) sc__law_right.nd hr
  (xs_frz 1 (xs_if (xt_cmp (cNe O) op2_eq (xe_callB (callO_repr O.u O.g (hg rfl)) rfl (Φ.free 26 rfl) boot_repr (xa_cons (xe_callKH (hask_count_pictures_0 Φ) hr (by decide) (fun z => nomatch z) rfl (by decide) (xkw_cons (xe_v 3) (xkw_cons (xe_v 2) (xkw_cons (xe_v 1) xkw_nil)))) xa_nil)) (xe_callB (callO_repr O.u O.g (hg rfl)) rfl (Φ.free 26 rfl) boot_repr (xa_cons (xe_callH (has__law_by_rings Φ) hr (by decide) (fun z => nomatch z) rfl (xa_cons (xe_v 2) (xa_cons (xe_v 3) (xa_cons (xe_v 1) xa_nil)))) xa_nil))) (xss_one (xs_ret xe_bl)) xss_nil))
theorem st__law_right_6 (Φ : Fx hd er isl P w K mg base G) {A : Around} {outer : List PySem.Env} {s : Shared} {H : Hp} {E : XK} (hr : Room 24 (A.deeper (envOfC "_law_right" (defScope s__law_right) s.heap.objs.size (He.fAd K ("_law_right", none)) (.ref (He.cT K ("_law_right", none)).1)))) (hg : true = true → A.guards = some []) :
    XS (cxOf (L2.CX P w) P w K mg base N__law_right "_law_right" (defScope s__law_right) (He.fAd K ("_law_right", none)) (.ref (He.cT K ("_law_right", none)).1) A outer s H E) G (stm (defBody s__law_right) 5) m__law_right_S6 :=
  have O := Fx.ok Φ (outer := outer) (H := H) (E := E) sc__law_right.nd hr
  (xs_set (i := 4) O.n rfl (by first | exact .inl rfl | exact .inr rfl) (xe_callH (has__law_of Φ) hr (by decide) (fun z => nomatch z) rfl (xa_cons (xe_v 0) (xa_cons (xe_frz (xe_lst (xa_cons xe_int (xa_cons xe_int (xa_cons xe_non (xa_cons xe_bl (xa_cons xe_str xa_nil))))))) xa_nil))))
theorem st__law_right_7 (Φ : Fx hd er isl P w K mg base G) {A : Around} {outer : List PySem.Env} {s : Shared} {H : Hp} {E : XK} (hr : Room 24 (A.deeper (envOfC "_law_right" (defScope s__law_right) s.heap.objs.size (He.fAd K ("_law_right", none)) (.ref (He.cT K ("_law_right", none)).1)))) (hg : true = true → A.guards = some []) :
    XS (cxOf (L2.CX P w) P w K mg base N__law_right "_law_right" (defScope s__law_right) (He.fAd K ("_law_right", none)) (.ref (He.cT K ("_law_right", none)).1) A outer s H E) G (stm (defBody s__law_right) 6) m__law_right_S7 :=
  have O := Fx.ok Φ (outer := outer) (H := H) (E := E) sc__law_right.nd hr
  (xs_frz 4 (xs_set (i := 5) O.n rfl (by first | exact .inl rfl | exact .inr rfl) (xe_ix O.u O.g (xe_hear (k := 22) (c := (He.cT K ("_law_right", none)).1) (P := (He.cT K ("_law_right", none)).2) rfl (hearC Φ) (Φ.tab _ tfm__law_right) rfl (Φ.tabs _ tfm__law_right) (Φ.sep _ tfm__law_right) (hr.mono (by decide)) (LamX.lamS_by rfl) rfl (fun _ _ _ _ _ => rfl) (fun A2 outer2 s2 H2 E2 f2 c2 hr2 => have OL := ok_lam (outer := outer2) (H := H2) (E := E2) O hr2; (xe_frz (xe_callH (has_count_pictures Φ) hr2 (by decide) (fun z => nomatch z) rfl (xa_cons (xe_v 4) (xa_cons xe_non (xa_cons xe_non xa_nil))))))) xe_int)))
theorem st__law_right_8 (Φ : Fx hd er isl P w K mg base G) {A : Around} {outer : List PySem.Env} {s : Shared} {H : Hp} {E : XK} (hr : Room 24 (A.deeper (envOfC "_law_right" (defScope s__law_right) s.heap.objs.size (He.fAd K ("_law_right", none)) (.ref (He.cT K ("_law_right", none)).1)))) (hg : true = true → A.guards = some []) :
    XS (cxOf (L2.CX P w) P w K mg base N__law_right "_law_right" (defScope s__law_right) (He.fAd K ("_law_right", none)) (.ref (He.cT K ("_law_right", none)).1) A outer s H E) G (stm (defBody s__law_right) 7) m__law_right_S8 :=
  have O := Fx.ok Φ (outer := outer) (H := H) (E := E) sc__law_right.nd hr
  (xs_if (XW.t (xw_or (xt_not (xt_val (xe_isC (Fx.isC Φ 0 3 rfl rfl) O.g rfl (Φ.free 0 rfl) rfl (xe_v 5)))) (xw_or1 (xt_cmp (cNe O) op2_eq (xe_callB (callO_repr O.u O.g (hg rfl)) rfl (Φ.free 26 rfl) boot_repr (xa_cons (xe_val (errI Φ) (xe_v 5)) xa_nil)) (xe_callB (callO_repr O.u O.g (hg rfl)) rfl (Φ.free 26 rfl) boot_repr (xa_cons (xe_v 4) xa_nil)))))) (xss_one (xs_ret xe_bl)) xss_nil)
theorem st__law_right_9 (Φ : Fx hd er isl P w K mg base G) {A : Around} {outer : List PySem.Env} {s : Shared} {H : Hp} {E : XK} (hr : Room 24 (A.deeper (envOfC "_law_right" (defScope s__law_right) s.heap.objs.size (He.fAd K ("_law_right", none)) (.ref (He.cT K ("_law_right", none)).1)))) (hg : true = true → A.guards = some []) :
    XS (cxOf (L2.CX P w) P w K mg base N__law_right "_law_right" (defScope s__law_right) (He.fAd K ("_law_right", none)) (.ref (He.cT K ("_law_right", none)).1) A outer s H E) G (stm (defBody s__law_right) 8) m__law_right_S9 :=
  have O := Fx.ok Φ (outer := outer) (H := H) (E := E) sc__law_right.nd hr
  (xs_set (i := 4) O.n rfl (by first | exact .inl rfl | exact .inr rfl) (xe_callH (has__law_of Φ) hr (by decide) (fun z => nomatch z) rfl (xa_cons (xe_v 0) (xa_cons (xe_frz (xe_lst (xa_cons xe_int (xa_cons xe_int (xa_cons xe_non (xa_cons xe_bl (xa_cons xe_str xa_nil))))))) xa_nil))))
theorem st__law_right_10 (Φ : Fx hd er isl P w K mg base G) {A : Around} {outer : List PySem.Env} {s : Shared} {H : Hp} {E : XK} (hr : Room 24 (A.deeper (envOfC "_law_right" (defScope s__law_right) s.heap.objs.size (He.fAd K ("_law_right", none)) (.ref (He.cT K ("_law_right", none)).1)))) (hg : true = true → A.guards = some []) :
    XS (cxOf (L2.CX P w) P w K mg base N__law_right "_law_right" (defScope s__law_right) (He.fAd K ("_law_right", none)) (.ref (He.cT K ("_law_right", none)).1) A outer s H E) G (stm (defBody s__law_right) 9) m__law_right_S10 :=
  have O := Fx.ok Φ (outer := outer) (H := H) (E := E) sc__law_right.nd hr
  (xs_frz 4 (xs_set (i := 5) O.n rfl (by first | exact .inl rfl | exact .inr rfl) (xe_ix O.u O.g (xe_hear (k := 22) (c := (He.cT K ("_law_right", none)).1) (P := (He.cT K ("_law_right", none)).2) rfl (hearC Φ) (Φ.tab _ tfm__law_right) rfl (Φ.tabs _ tfm__law_right) (Φ.sep _ tfm__law_right) (hr.mono (by decide)) (LamX.lamS_by rfl) rfl (fun _ _ _ _ _ => rfl) (fun A2 outer2 s2 H2 E2 f2 c2 hr2 => have OL := ok_lam (outer := outer2) (H := H2) (E := E2) O hr2; (xe_frz (xe_callH (has_count_pictures Φ) hr2 (by decide) (fun z => nomatch z) rfl (xa_cons xe_int (xa_cons (xe_v 4) (xa_cons xe_non xa_nil))))))) xe_int)))
theorem st__law_right_11 (Φ : Fx hd er isl P w K mg base G) {A : Around} {outer : List PySem.Env} {s : Shared} {H : Hp} {E : XK} (hr : Room 24 (A.deeper (envOfC "_law_right" (defScope s__law_right) s.heap.objs.size (He.fAd K ("_law_right", none)) (.ref (He.cT K ("_law_right", none)).1)))) (hg : true = true → A.guards = some []) :
    XS (cxOf (L2.CX P w) P w K mg base N__law_right "_law_right" (defScope s__law_right) (He.fAd K ("_law_right", none)) (.ref (He.cT K ("_law_right", none)).1) A outer s H E) G (stm (defBody s__law_right) 10) m__law_right_S11 :=
  have O := Fx.ok Φ (outer := outer) (H := H) (E := E) sc__law_right.nd hr
  (xs_if (XW.t (xw_or (xt_not (xt_val (xe_isC (Fx.isC Φ 0 3 rfl rfl) O.g rfl (Φ.free 0 rfl) rfl (xe_v 5)))) (xw_or1 (xt_cmp (cNe O) op2_eq (xe_callB (callO_repr O.u O.g (hg rfl)) rfl (Φ.free 26 rfl) boot_repr (xa_cons (xe_val (errI Φ) (xe_v 5)) xa_nil)) (xe_callB (callO_repr O.u O.g (hg rfl)) rfl (Φ.free 26 rfl) boot_repr (xa_cons (xe_v 4) xa_nil)))))) (xss_one (xs_ret xe_bl)) xss_nil)
theorem st__law_right_12 (Φ : Fx hd er isl P w K mg base G) {A : Around} {outer : List PySem.Env} {s : Shared} {H : Hp} {E : XK} (hr : Room 24 (A.deeper (envOfC "_law_right" (defScope s__law_right) s.heap.objs.size (He.fAd K ("_law_right", none)) (.ref (He.cT K ("_law_right", none)).1)))) (hg : true = true → A.guards = some []) :
    XS (cxOf (L2.CX P w) P w K mg base N__law_right "_law_right" (defScope s__law_right) (He.fAd K ("_law_right", none)) (.ref (He.cT K ("_law_right", none)).1) A outer s H E) G (stm (defBody s__law_right) 11) m__law_right_S12 :=
  have O := Fx.ok Φ (outer := outer) (H := H) (E := E) sc__law_right.nd hr
  (xs_set (i := 4) O.n rfl (by first | exact .inl rfl | exact .inr rfl) (xe_callH (has__law_of Φ) hr (by decide) (fun z => nomatch z) rfl (xa_cons (xe_v 0) (xa_cons (xe_frz (xe_lst (xa_cons xe_non (xa_cons xe_str (xa_cons xe_str (xa_cons xe_int (xa_cons (xe_tup (xa_cons xe_str xa_nil)) (xa_cons xe_str xa_nil)))))))) xa_nil))))
theorem st__law_right_13 (Φ : Fx hd er isl P w K mg base G) {A : Around} {outer : List PySem.Env} {s : Shared} {H : Hp} {E : XK} (hr : Room 24 (A.deeper (envOfC "_law_right" (defScope s__law_right) s.heap.objs.size (He.fAd K ("_law_right", none)) (.ref (He.cT K ("_law_right", none)).1)))) (hg : true = true → A.guards = some []) :
    XS (cxOf (L2.CX P w) P w K mg base N__law_right "_law_right" (defScope s__law_right) (He.fAd K ("_law_right", none)) (.ref (He.cT K ("_law_right", none)).1) A outer s H E) G (stm (defBody s__law_right) 12) m__law_right_S13 :=
  have O := Fx.ok Φ (outer := outer) (H := H) (E := E) sc__law_right.nd hr
  (xs_frz 4 (xs_set (i := 5) O.n rfl (by first | exact .inl rfl | exact .inr rfl) (xe_ix O.u O.g (xe_hear (k := 22) (c := (He.cT K ("_law_right", none)).1) (P := (He.cT K ("_law_right", none)).2) rfl (hearC Φ) (Φ.tab _ tfm__law_right) rfl (Φ.tabs _ tfm__law_right) (Φ.sep _ tfm__law_right) (hr.mono (by decide)) (LamX.lamS_by rfl) rfl (fun _ _ _ _ _ => rfl) (fun A2 outer2 s2 H2 E2 f2 c2 hr2 => have OL := ok_lam (outer := outer2) (H := H2) (E := E2) O hr2; (xe_frz (xe_callH (has_count_pictures Φ) hr2 (by decide) (fun z => nomatch z) rfl (xa_cons xe_int (xa_cons xe_int (xa_cons (xe_v 4) xa_nil))))))) xe_int)))
theorem st__law_right_14 (Φ : Fx hd er isl P w K mg base G) {A : Around} {outer : List PySem.Env} {s : Shared} {H : Hp} {E : XK} (hr : Room 24 (A.deeper (envOfC "_law_right" (defScope s__law_right) s.heap.objs.size (He.fAd K ("_law_right", none)) (.ref (He.cT K ("_law_right", none)).1)))) (hg : true = true → A.guards = some []) :
    XS (cxOf (L2.CX P w) P w K mg base N__law_right "_law_right" (defScope s__law_right) (He.fAd K ("_law_right", none)) (.ref (He.cT K ("_law_right", none)).1) A outer s H E) G (stm (defBody s__law_right) 13) m__law_right_S14 :=
  have O := Fx.ok Φ (outer := outer) (H := H) (E := E) sc__law_right.nd hr
  (xs_ret (xe_and (xe_isC (Fx.isC Φ 1 20 rfl rfl) O.g rfl (Φ.free 0 rfl) rfl (xe_v 5)) (xe_one (xe_cmp (cEq O) op2_eq (xe_callB (callO_repr O.u O.g (hg rfl)) rfl (Φ.free 26 rfl) boot_repr (xa_cons (xe_val (errI Φ) (xe_v 5)) xa_nil)) (xe_callB (callO_repr O.u O.g (hg rfl)) rfl (Φ.free 26 rfl) boot_repr (xa_cons (xe_v 4) xa_nil))))))
theorem fnc__law_right (Φ : Fx hd er isl P w K mg base G) {fd : FuncData} (F : FunD K "_law_right" "_law_right" (defArgs s__law_right) (defBody s__law_right) (defScope s__law_right) [] [] (He.fAd K ("_law_right", none)) fd) : FnC P w K mg base G true 25 (He.fAd K ("_law_right", none)) fd ["pot"] M__law_right :=
  fnC_ofL (p := ("_law_right", none)) F sc__law_right hm_clip fun A outer s H E hr hg =>
    have O := Fx.ok Φ (outer := outer) (H := H) (E := E) sc__law_right.nd hr
    (xss_cons (st__law_right_1 Φ hr hg) (xss_cons (st__law_right_2 Φ hr hg) (xss_cons (st__law_right_3 Φ hr hg) (xss_cons (st__law_right_4 Φ hr hg) (xss_cons (st__law_right_5 Φ hr hg) (xss_cons (st__law_right_6 Φ hr hg) (xss_cons (st__law_right_7 Φ hr hg) (xss_cons (st__law_right_8 Φ hr hg) (xss_cons (st__law_right_9 Φ hr hg) (xss_cons (st__law_right_10 Φ hr hg) (xss_cons (st__law_right_11 Φ hr hg) (xss_cons (st__law_right_12 Φ hr hg) (xss_cons (st__law_right_13 Φ hr hg) (xss_one (st__law_right_14 Φ hr hg)))))))))))))))
theorem has__law_right (Φ : Fx hd er isl P w K mg base G) : Has P w K mg base G "_law_right" true 25 1 M__law_right := by
  obtain ⟨fd, F⟩ := Φ.says.def_ 24 (d := d__law_right) rfl
  exact ⟨_, fd, _, Φ.glo 52 rfl, F.kp, F.bindsN (fun _ _ _ _ _ _ us hl => match us, hl with | [_], _ => rfl), rfl, fnc__law_right Φ F⟩
def N__law_are_known : List Str := ["graphs", "arrows", "many"]
theorem sc__law_are_known : FnScope N__law_are_known [] (defScope s__law_are_known) := ⟨rfl, rfl, rfl, by decide +kernel, rfl, by decide +kernel, by decide +kernel⟩
theorem fnc__law_are_known (Φ : Fx hd er isl P w K mg base G) {fd : FuncData} (F : FunD K "_law_are_known" "_law_are_known" (defArgs s__law_are_known) (defBody s__law_are_known) (defScope s__law_are_known) [] [] (He.fAd K ("_law_are_known", none)) fd) : FnC P w K mg base G true 23 (He.fAd K ("_law_are_known", none)) fd [] M__law_are_known :=
  fnC_of F sc__law_are_known hm_clip fun cdv A outer s H E hr hg =>
    have O := Fx.ok Φ (outer := outer) (H := H) (E := E) sc__law_are_known.nd hr
    (xss_cons (xs_setLc 100000 O.c O.n rfl rfl (sw_true rfl rfl rfl rfl) (own := [("many", 2)]) (xi_range2 rfl (Φ.free 11 rfl) (xa_cons xe_int (xa_cons xe_int xa_nil))) (blkOk_by rfl) (fun _ _ _ _ _ => (xg_name (O.blk).n rfl (by first | exact .inl rfl | exact .inr rfl))) (fun _ _ _ _ _ => xts_nil) (fun _ _ _ _ _ => (xe_frz (xe_callH (has_count_pictures Φ) hr (by decide) (fun z => nomatch z) rfl (xa_cons (xe_v 2) (xa_cons xe_int (xa_cons xe_str xa_nil)))))) (by decide)) (xss_cons (xs_setLc 100000 O.c O.n rfl rfl (sw_true rfl rfl rfl rfl) (own := [("many", 2)]) (xi_range2 rfl (Φ.free 11 rfl) (xa_cons xe_int (xa_cons xe_int xa_nil))) (blkOk_by rfl) (fun _ _ _ _ _ => (xg_name (O.blk).n rfl (by first | exact .inl rfl | exact .inr rfl))) (fun _ _ _ _ _ => xts_nil) (fun _ _ _ _ _ => (xe_frz (xe_callH (has_count_pictures Φ) hr (by decide) (fun z => nomatch z) rfl (xa_cons (xe_v 2) (xa_cons xe_int (xa_cons xe_str xa_nil)))))) (by decide)) (xss_cons (xs_if (XW.t (xw_or (xt_cmp (cNe O) op2_eq (xe_callB (callO_repr O.u O.g (hg rfl)) rfl (Φ.free 26 rfl) boot_repr (xa_cons (xe_v 1) xa_nil)) (xe_callB (callO_repr O.u O.g (hg rfl)) rfl (Φ.free 26 rfl) boot_repr (xa_cons (xe_lst (xa_cons xe_int (xa_cons xe_int (xa_cons xe_int (xa_cons xe_int (xa_cons xe_int (xa_cons xe_int xa_nil))))))) xa_nil))) (xw_or1 (xt_cmp (cNe O) op2_eq (xe_callH (has_least_picture Φ) hr (by decide) (fun z => nomatch z) rfl (xa_cons (xe_tup (xa_cons (xe_tup (xa_cons xe_int xa_nil)) xa_nil)) xa_nil)) (xe_tup (xa_cons (xe_tup (xa_cons (xe_tup (xa_cons xe_int xa_nil)) xa_nil)) (xa_cons (xe_tup (xa_cons xe_int xa_nil)) xa_nil))))))) (xss_one (xs_ret xe_bl)) xss_nil) (xss_one (xs_ret (xe_cmp (cEq O) op2_eq (xe_callB (callO_repr O.u O.g (hg rfl)) rfl (Φ.free 26 rfl) boot_repr (xa_cons (xe_v 0) xa_nil)) (xe_callB (callO_repr O.u O.g (hg rfl)) rfl (Φ.free 26 rfl) boot_repr (xa_cons (xe_lst (xa_cons xe_int (xa_cons xe_int (xa_cons xe_int (xa_cons xe_int (xa_cons xe_int (xa_cons xe_int (xa_cons xe_int (xa_cons xe_int xa_nil))))))))) xa_nil))))))))
theorem has__law_are_known (Φ : Fx hd er isl P w K mg base G) : Has P w K mg base G "_law_are_known" true 23 0 M__law_are_known := by
  obtain ⟨fd, F⟩ := Φ.says.def_ 25 (d := d__law_are_known) rfl
  exact ⟨_, fd, _, Φ.glo 53 rfl, F.kp, F.bindsN (fun _ _ _ _ _ _ us hl => match us, hl with | [], _ => rfl), rfl, fnc__law_are_known Φ F⟩
def N_law : List Str := ["script", "at"]
theorem sc_law : FnScope N_law ["script"] (defScope s_law) := ⟨rfl, rfl, rfl, by decide +kernel, rfl, by decide +kernel, by decide +kernel⟩
theorem fnc_law (Φ : Fx hd er isl P w K mg base G) {fd : FuncData} (F : FunD K "law" "law" (defArgs s_law) (defBody s_law) (defScope s_law) [] [] (He.fAd K ("law", none)) fd) : FnC P w K mg base G true 26 (He.fAd K ("law", none)) fd ["script"] M_law :=
  fnC_of F sc_law hm_clip fun cdv A outer s H E hr hg =>
    have O := Fx.ok Φ (outer := outer) (H := H) (E := E) sc_law.nd hr
    (xss_cons (xs_if (xt_not (xt_val (xe_callH0 (has__law_are_known Φ) hr (by decide) (fun _ => hg rfl) rfl))) (xss_one (xs_ret xe_bl)) xss_nil) (xss_one (xs_ret (xe_callB (callO_all O.g O.c) rfl (Φ.free 7 rfl) boot_all (xa_cons (xe_lc 100000 O.c O.n (own := [("at", 1)]) (xi_seq O.g (xe_frz (xe_callH (has__law_cells Φ) hr (by decide) (fun z => nomatch z) rfl (xa_cons (xe_v 0) (xa_cons xe_int xa_nil))))) (blkOk_by rfl) (fun _ _ _ _ _ => (xg_name (O.blk).n rfl (by first | exact .inl rfl | exact .inr rfl))) (fun _ _ _ _ _ => xts_nil) (fun _ _ _ _ _ => (xe_frz (xe_callH (has__law_right Φ) hr (by decide) (fun _ => hg rfl) rfl (xa_cons (xe_callH (has__law_pot Φ) hr (by decide) (fun z => nomatch z) rfl (xa_cons (xe_v 0) (xa_cons (xe_v 1) xa_nil))) xa_nil)))) (by decide)) xa_nil)))))
theorem has_law (Φ : Fx hd er isl P w K mg base G) : Has P w K mg base G "law" true 26 1 M_law := by
  obtain ⟨fd, F⟩ := Φ.says.def_ 26 (d := d_law) rfl
  exact ⟨_, fd, _, Φ.glo 54 rfl, F.kp, F.bindsN (fun _ _ _ _ _ _ us hl => match us, hl with | [_], _ => rfl), rfl, fnc_law Φ F⟩
end
end K94

set_option Elab.async false
set_option autoImplicit false
set_option linter.all false
set_option maxRecDepth 100000
set_option maxHeartbeats 0
namespace K94
open PySem PySem.Spec PyProof.Rows L2 DL
abbrev Rw : PySem.W.OpenRow := PySem.W.OpenLaw.row PySem.Challenge.rw_whicheverturning_k94_how_many_unlike_pic
abbrev hkD : PySem.W.Hook := hd.hook
def obD (s : PySem.W.SharedT) : DL.AlR := hd.obs (HandSHeadRun.getT s)
theorem obD_eq (s : PySem.W.SharedT) : obD s = hkD.obs s.abs := HdD.obs_eq (HandSHeadRun.getT_eq s)
def loose0 : List PySem.Str := ["TurnError", "BadNumber", "BadWord", "BadPicture", "is_int", "look_at_number", "common", "MOST_SPOTS", "MOST_MARK", "ANY", "LOOSE", "GRAPH", "is_picture", "look_at_picture", "told_moved", "marks_with", "least_orders", "position_by", "least_picture", "size_lots", "positions_with", "pair_rings", "count_pictures", "_law_pot", "_law_take", "_law_of", "_law_cells", "_law_heard", "_law_moved", "_law_every"]
def loose1 : List PySem.Str := ["_law_free_pairs", "_law_by_all", "_law_by_rings", "_law_right", "_law_are_known"]
abbrev looseD : List PySem.Str := loose0 ++ loose1
theorem runD (w : World) : HandSHeadRun.RunEq Rw (PySem.W.view Rw.prog [39]) hkD obD 4000 looseD w := by
  intro os
  kernel_rfl
end K94

set_option Elab.async false
set_option autoImplicit false
set_option linter.all false
set_option maxRecDepth 100000
set_option maxHeartbeats 2000000
namespace DL
open PySem PySem.Spec PyProof.Rows L2
/-! ## lists of whole numbers -/
def intsD (l : List Int) : List D := l.map D.int
def natsD (l : List Nat) : List D := l.map fun (n : Nat) => D.int (n : Int)
def natsR (n : Nat) : List D := (List.range n).map fun (i : Nat) => D.int (i : Int)
theorem pub_vals : ∀ (ds : List D) (S : Store), pub (ds.map EV.v) S = some (ds, S)
  | [], _ => rfl
  | d :: ds, S => by rw [List.map_cons, pub, pub_vals ds S]
theorem pub_app : ∀ (ds : List D) (es : List EV) (S S' : Store) (xs : List D), pub es S = some (xs, S') → pub (ds.map EV.v ++ es) S = some (ds ++ xs, S')
  | [], _, _, _, _, h => h
  | d :: ds, es, S, S', xs, h => by rw [List.map_cons, List.cons_append, pub, pub_app ds es S S' xs h]; rfl
theorem sizeL : sizeLine = 16777216 := sizeLine_eq
/-! ## reading the meanings: loops -/
section
variable {β γ : Type} {tg : MG} {b : MS}
theorem mFold_rel (enc : γ → D) (Rl : β → Env → Store → Prop) (step : β → γ → β) : ∀ (l : List γ), (∀ a ∈ l, ∀ x ρ S, Rl x ρ S → ∃ ρ1 ρ2 S2, tg (enc a) ρ = some ρ1 ∧ (b ρ1 S = .next ρ2 S2 ∨ b ρ1 S = .cont ρ2 S2) ∧ Rl (step x a) ρ2 S2) →
    ∀ x ρ S, Rl x ρ S → ∃ ρ2 S2, mFold tg b (l.map enc) ρ S = .next ρ2 S2 ∧ Rl (l.foldl step x) ρ2 S2
  | [], _, x, ρ, S, h => ⟨ρ, S, rfl, h⟩
  | a :: l, hs, x, ρ, S, h => by
    obtain ⟨ρ1, ρ2, S2, h1, h2, h3⟩ := hs a (by simp) x ρ S h
    obtain ⟨ρ3, S3, h4, h5⟩ := mFold_rel enc Rl step l (fun a' ha => hs a' (by simp [ha])) _ _ _ h3
    refine ⟨ρ3, S3, ?_, h5⟩
    rw [List.map_cons, mFold]
    simp only [h1]
    rcases h2 with h2 | h2 <;> simp only [h2, h4]
/-- what holds behind the part that was walked -/
theorem mFold_pre (enc : γ → D) (Rl : List γ → Env → Store → Prop) (l : List γ) (hs : ∀ pre a post, l = pre ++ a :: post → ∀ ρ S, Rl pre ρ S → ∃ ρ1 ρ2 S2, tg (enc a) ρ = some ρ1 ∧ (b ρ1 S = .next ρ2 S2 ∨ b ρ1 S = .cont ρ2 S2) ∧ Rl (pre ++ [a]) ρ2 S2) :
    ∀ ρ S, Rl [] ρ S → ∃ ρ2 S2, mFold tg b (l.map enc) ρ S = .next ρ2 S2 ∧ Rl l ρ2 S2 := by
  have go : ∀ (post pre : List γ), l = pre ++ post → ∀ ρ S, Rl pre ρ S → ∃ ρ2 S2, mFold tg b (post.map enc) ρ S = .next ρ2 S2 ∧ Rl l ρ2 S2 := by
    intro post
    induction post with
    | nil => intro pre e ρ S h; rw [List.append_nil] at e; subst e; exact ⟨ρ, S, rfl, h⟩
    | cons a post ih =>
      intro pre e ρ S h
      obtain ⟨ρ1, ρ2, S2, h1, h2, h3⟩ := hs pre a post e ρ S h
      obtain ⟨ρ3, S3, h4, h5⟩ := ih (pre ++ [a]) (by rw [e, List.append_assoc]; rfl) _ _ h3
      refine ⟨ρ3, S3, ?_, h5⟩
      rw [List.map_cons, mFold]
      simp only [h1]
      rcases h2 with h2 | h2 <;> simp only [h2, h4]
  exact go l [] rfl
theorem flat_len {δ : Type} {g : γ → List δ} {n : Nat} : ∀ {l : List γ}, (∀ a ∈ l, (g a).length ≤ n) → (l.flatMap g).length ≤ l.length * n
  | [], _ => by simp
  | a :: l, h => by
    have h1 := h a (by simp)
    have h2 := flat_len (l := l) fun a ha => h a (by simp [ha])
    rw [List.flatMap_cons, List.length_append, List.length_cons, Nat.add_mul]
    omega
/-- a loop that ends the def where a test fails -/
theorem mFold_all (enc : γ → D) (Rl : Env → Store → Prop) (p : γ → Bool) (e : EV) : ∀ (l : List γ), (∀ a ∈ l, ∀ ρ S, Rl ρ S → ∃ ρ1, tg (enc a) ρ = some ρ1 ∧ ((p a = true ∧ ∃ ρ2 S2, (b ρ1 S = .next ρ2 S2 ∨ b ρ1 S = .cont ρ2 S2) ∧ Rl ρ2 S2) ∨ (p a = false ∧ ∃ S2, b ρ1 S = .ret e S2))) →
    ∀ ρ S, Rl ρ S → (l.all p = true ∧ ∃ ρ2 S2, mFold tg b (l.map enc) ρ S = .next ρ2 S2 ∧ Rl ρ2 S2) ∨ (l.all p = false ∧ ∃ S2, mFold tg b (l.map enc) ρ S = .ret e S2)
  | [], _, ρ, S, h => .inl ⟨rfl, ρ, S, rfl, h⟩
  | a :: l, hs, ρ, S, h => by
    obtain ⟨ρ1, h1, (⟨h2, ρ2, S2, h3, h4⟩ | ⟨h2, S2, h3⟩)⟩ := hs a (by simp) ρ S h
    · have q : mFold tg b ((a :: l).map enc) ρ S = mFold tg b (l.map enc) ρ2 S2 := by
        rw [List.map_cons, mFold]
        simp only [h1]
        rcases h3 with h3 | h3 <;> simp only [h3]
      rw [q, List.all_cons, h2, Bool.true_and]
      exact mFold_all enc Rl p e l (fun a' ha => hs a' (by simp [ha])) _ _ h4
    · refine .inr ⟨by rw [List.all_cons, h2, Bool.false_and], S2, ?_⟩
      rw [List.map_cons, mFold]
      simp only [h1, h3]
theorem mLcF_map {one : MO1} (enc : γ → D) (f : γ → D) {ρ : Env} {S : Store} : ∀ (l : List γ), (∀ a ∈ l, one (enc a) ρ S = .ok (some (f a)) S) → mLcF one (l.map enc) ρ S = .ok (l.map f) S
  | [], _ => rfl
  | a :: l, h => by
    rw [List.map_cons, mLcF, h a (by simp)]
    simp only [mLcF_map enc f l fun a' ha => h a' (by simp [ha]), R.bind, List.map_cons]
theorem mLcF_filter {one : MO1} (enc : γ → D) (f : γ → D) (p : γ → Bool) {ρ : Env} {S : Store} : ∀ (l : List γ), (∀ a ∈ l, one (enc a) ρ S = .ok (if p a = true then some (f a) else none) S) → mLcF one (l.map enc) ρ S = .ok ((l.filter p).map f) S
  | [], _ => rfl
  | a :: l, h => by
    rw [List.map_cons, mLcF, h a (by simp), List.filter_cons]
    by_cases c : p a = true
    · simp only [c, if_true, mLcF_filter enc f p l fun a' ha => h a' (by simp [ha]), R.bind, List.map_cons]
    · simp only [c, if_false, mLcF_filter enc f p l fun a' ha => h a' (by simp [ha]), Bool.false_eq_true]
/-- items that are new lists -/
theorem mLcF_new {one : MO1} (enc : γ → D) (ob : γ → Ob) {ρ : Env} : ∀ (l : List γ) (S : Store), (∀ a ∈ l, ∀ S', one (enc a) ρ S' = .ok (some (.ref S'.length)) (S' ++ [ob a])) → mLcF one (l.map enc) ρ S = .ok ((List.range l.length).map fun i => .ref (S.length + i)) (S ++ l.map ob)
  | [], S, _ => by simp [mLcF]
  | a :: l, S, h => by
    rw [List.map_cons, mLcF, h a (by simp)]
    simp only [mLcF_new enc ob l (S ++ [ob a]) fun a' ha => h a' (by simp [ha]), R.bind, List.map_cons, List.length_append, List.length_cons, List.length_nil, List.append_assoc, List.cons_append, List.nil_append, List.range_succ_eq_map, List.map_map]
    refine congrArg (fun z => R.ok z _) (congrArg (D.ref S.length :: ·) ?_)
    refine List.map_congr_left fun i _ => ?_
    simp only [Function.comp, Nat.succ_eq_add_one]
    exact congrArg D.ref (by omega)
end
section
variable {src : MI} {tg : MG} {b : MS} {n : Nat} {ρ : Env} {S S1 : Store}
theorem mFor_fix {ds : List D} (h : src ρ S = .ok (.fix ds) S1) : mFor src tg b n ρ S = mFold tg b ds ρ S1 := by unfold mFor; rw [h]
theorem mFor_dyn {f : Store → Nat → Option (Option D)} (h : src ρ S = .ok (.dyn f) S1) : mFor src tg b n ρ S = mLoop tg b f n 0 ρ S1 := by unfold mFor; rw [h]
end
theorem mWhile_t {c : MT} {b : MS} {n : Nat} {ρ ρ2 : Env} {S S1 S2 : Store} (hc : c ρ S = .ok true S1) (hb : b ρ S1 = .next ρ2 S2) : mWhile c b (n + 1) ρ S = mWhile c b n ρ2 S2 := by
  rw [mWhile]; simp only [hc, hb]
theorem mWhile_f {c : MT} {b : MS} {n : Nat} {ρ : Env} {S S1 : Store} (hc : c ρ S = .ok false S1) : mWhile c b (n + 1) ρ S = .next ρ S1 := by
  rw [mWhile]; simp only [hc]
theorem frz_v {i : Nat} {m : MS} {ρ : Env} {S : Store} {d : D} (h : ρ[i]? = some (some (.v d))) : mFrzS i m ρ S = m ρ S := by unfold mFrzS; rw [h]
theorem frz_ol {i : Nat} {m : MS} {ρ : Env} {S : Store} {ds : List D} (h : ρ[i]? = some (some (.ol ds))) : mFrzS i m ρ S = m (ρ.set i (some (.v (.cl ds)))) S := by unfold mFrzS; rw [h]
section
variable {m : ME} {r ma : MA} {f : MF} {ρ : Env} {S S1 S2 : Store} {e : EV} {es : List EV} {ds : List D} {is : List Nat} {ss : List SV} {n : Nat} {o : R EV}
theorem par_ok (h : ma ρ S = .ok es S1) (hl : es.length = is.length) (hs : svs es = some ss) : mPar is ma ρ S = .next (setMany is ss ρ) S1 := by
  simp only [mPar, flE, h, if_pos hl, hs]
theorem consA_ok (h1 : m ρ S = .ok e S1) (h2 : r ρ S1 = .ok es S2) : mConsA m r ρ S = .ok (e :: es) S2 := by
  simp only [mConsA, h1, h2, R.bind]
theorem fn_ok (h1 : ma ρ S = .ok (ds.map EV.v) S1) (hl : ds.length = n) (h2 : f ds S1 = o) : mFn n f ma ρ S = o := by
  simp only [mFn, h1, R.bind, pub_vals, if_pos hl, h2]
end
section
variable {m mo : ME} {ma : MA} {ρ : Env} {S S1 S2 : Store} {d : D} {ds es r : List D} {src : MI} {one : MO1} {n k : Nat}
theorem ite_t {α : Type} {p : Prop} [Decidable p] {a b : α} (h : p) : (if p then a else b) = a := if_pos h
theorem lc_ok (hi : src ρ S = .ok (.fix ds) S1) (hl : ds.length ≤ 16777216) (h : mLcF one ds ρ S1 = .ok r S2) : mLc src one n ρ S = .ok (.fl r) S2 := by
  have q : lcRun one n (.fix ds) ρ S1 = mLcF one ds ρ S1 := ite_t (by rw [sizeL]; exact hl)
  unfold mLc
  rw [hi]
  show (lcRun one n (.fix ds) ρ S1).bind _ = _
  rw [q, h]
  rfl
theorem lc_own (hi : src ρ S = .ok (.own ds) S1) (hl : ds.length ≤ 16777216) (h : mLcF one ds ρ S1 = .ok r S2) : mLc src one n ρ S = .ok (.fl r) S2 := by
  have q : lcRun one n (.own ds) ρ S1 = mLcF one ds ρ S1 := ite_t (by rw [sizeL]; exact hl)
  unfold mLc
  rw [hi]
  show (lcRun one n (.own ds) ρ S1).bind _ = _
  rw [q, h]
  rfl
theorem frz_fl (h : m ρ S = .ok (.fl ds) S1) : mFrz m ρ S = .ok (.v (.cl ds)) S1 := by unfold mFrz; rw [h]; rfl
theorem frz_d (h : m ρ S = .ok (.v d) S1) : mFrz m ρ S = .ok (.v d) S1 := by unfold mFrz; rw [h]; rfl
theorem ext_ok (ho : mo ρ S = .ok (.sl k) S) (hk : ρ[k]? = some (some (.ol ds))) (ha : ma ρ S = .ok [.v (.cl es)] S1) (hl : ds.length + es.length ≤ 16777216) : mMeth "list" fExtend mo ma ρ S = .next (ρ.set k (some (.ol (ds ++ es)))) S1 := by
  have hp : ∀ S : Store, plOf ρ S (.sl k) = some (.sl k, .lst ds) := fun S => by simp only [plOf, hk]
  have ob : isOb "list" ρ S (.sl k) = true := by unfold isOb; rw [hp]; rfl
  have hf : fExtend (.lst ds) [.cl es] = some (.lst (ds ++ es)) := ite_t (by rw [sizeL]; exact hl)
  unfold mMeth
  simp only [ho, flE, ob, if_true, ha, pub, hp, hf]
  rfl
theorem app_ok (ho : mo ρ S = .ok (.sl k) S) (hk : ρ[k]? = some (some (.ol ds))) (ha : ma ρ S = .ok [.v d] S1) (hl : ds.length < 16777216) : mMeth "list" fAppend mo ma ρ S = .next (ρ.set k (some (.ol (ds ++ [d])))) S1 := by
  have hp : ∀ S : Store, plOf ρ S (.sl k) = some (.sl k, .lst ds) := fun S => by simp only [plOf, hk]
  have ob : isOb "list" ρ S (.sl k) = true := by unfold isOb; rw [hp]; rfl
  have hf : fAppend (.lst ds) [d] = some (.lst (ds ++ [d])) := ite_t (by rw [sizeL]; exact hl)
  unfold mMeth
  simp only [ho, flE, ob, if_true, ha, pub, hp, hf]
  rfl
theorem set_v {i : Nat} (h : m ρ S = .ok (.v d) S1) : mSet i m ρ S = .next (ρ.set i (some (.v d))) S1 := by unfold mSet; rw [h]; rfl
theorem set_l {i : Nat} (h : m ρ S = .ok (.fl ds) S1) : mSet i m ρ S = .next (ρ.set i (some (.ol ds))) S1 := by unfold mSet; rw [h]; rfl
theorem ret_v (h : m ρ S = .ok (.v d) S1) : mRet m ρ S = .ret (.v d) S1 := by unfold mRet; rw [h]; rfl
theorem ret_l (h : m ρ S = .ok (.fl ds) S1) : mRet m ρ S = .ret (.fl ds) S1 := by unfold mRet; rw [h]; rfl
theorem call_ok {g : GC} {es : List EV} {e : EV} (h : ma ρ S = .ok es S1) (hg : g es ρ S1 = some e) : mCall g ma ρ S = .ok e S1 := by unfold mCall; rw [h]; simp only [R.bind, hg]
theorem one_ok {e : EV} (h : m ρ S = .ok e S1) : mConsA m mNilA ρ S = .ok [e] S1 := by simp only [mConsA, h, R.bind, mNilA]
theorem src_ok {e : EV} {it : IT} (h : m ρ S = .ok e S1) (he : srcE ρ S1 e = some it) : mSrc m ρ S = .ok it S1 := by simp only [mSrc, h, R.bind, he]
end
section
variable {ma mb te : ME} {tt : MT} {tg : MG} {vs : List Nat} {ρ ρ1 : Env} {S S1 S2 : Store} {d x : D} {e a b : EV} {g : G2} {gb : GB} {r : R EV} {k : Bool}
theorem lc1_ok (ht : tg d (wipeE ρ vs) = some ρ1) (hc : tt ρ1 S = .ok true S) (he : te ρ1 S = .ok e S1) (hp : pub [e] S1 = some ([x], S2)) : lcOne vs tg tt te d ρ S = .ok (some x) S2 := by
  simp only [lcOne, ht, hc, he, hp]
theorem lc0_ok (ht : tg d (wipeE ρ vs) = some ρ1) (hc : tt ρ1 S = .ok false S1) : lcOne vs tg tt te d ρ S = .ok none S1 := by
  simp only [lcOne, ht, hc]
theorem m2_ok (h1 : ma ρ S = .ok a S1) (h2 : mb ρ S1 = .ok b S2) (hg : g a b ρ S2 = r) : m2 g ma mb ρ S = r := by
  simp only [m2, h1, h2, R.bind, hg]
theorem cmp_ok (h1 : ma ρ S = .ok a S1) (h2 : mb ρ S1 = .ok b S2) (hg : gb a b ρ S2 = some k) : mCmp gb ma mb ρ S = .ok k S2 := by
  simp only [mCmp, h1, h2, R.bind, hg]
theorem if_t {c : MT} {u v : MS} (h : c ρ S = .ok true S1) : mIf c u v ρ S = u ρ S1 := by simp only [mIf, h]
theorem if_f {c : MT} {u v : MS} (h : c ρ S = .ok false S1) : mIf c u v ρ S = v ρ S1 := by simp only [mIf, h]
theorem mB_ok {m : ME} (h : m ρ S = .ok (.v (.bl k)) S1) : mB m ρ S = .ok k S1 := by simp only [mB, h]
theorem tv_ok {c : MT} (h : c ρ S = .ok k S1) : mTV c ρ S = .ok (.v (.bl k)) S1 := by simp only [mTV, h]
theorem not_ok {c : MT} (h : c ρ S = .ok k S1) : mNot c ρ S = .ok (!k) S1 := by simp only [mNot, h]
end
/-! ## ranges -/
theorem rgOk_s {a b : Int} (h : -1000000 ≤ a ∧ a ≤ 1000000 ∧ -1000000 ≤ b ∧ b ≤ 1000000) : rgOk a b = true := decide_eq_true (by omega)
theorem rgD_eq (a n : Nat) : rgD (a : Int) ((a + n : Nat) : Int) = (List.range n).map fun i => D.int ((a + i : Nat) : Int) := by
  unfold rgD
  rw [show (((a + n : Nat) : Int) - (a : Int)).toNat = n by omega]
  refine List.map_congr_left fun i _ => ?_
  rw [Int.natCast_add]
theorem rgD_eq0 (n : Nat) : rgD 0 (n : Int) = natsR n := by
  unfold rgD natsR
  rw [show ((n : Int) - 0).toNat = n by omega]
  refine List.map_congr_left fun i _ => ?_
  rw [Int.zero_add]
section
variable {m : ME} {ma : MA} {ρ : Env} {S S1 : Store}
theorem rg1_nat {r : Nat} (hr : r ≤ 1000000) (hm : m ρ S = .ok (.v (.int r)) S1) : mRg1 m ρ S = .ok (.fix (natsR r)) S1 := by
  have h : rgOk 0 (r : Int) = true := rgOk_s (by omega)
  unfold mRg1
  simp only [hm, R.bind, asI]
  refine (if_pos h).trans ?_
  rw [rgD_eq0]
theorem rg2_nat {a n : Nat} {b : Int} (ha : a + n ≤ 1000000) (hb : b = ((a + n : Nat) : Int)) (hm : ma ρ S = .ok [.v (.int a), .v (.int b)] S1) : mRg2 ma ρ S = .ok (.fix ((List.range n).map fun i => D.int ((a + i : Nat) : Int))) S1 := by
  subst hb
  have h : rgOk (a : Int) ((a + n : Nat) : Int) = true := rgOk_s (by omega)
  unfold mRg2 kRg2
  simp only [hm, R.bind]
  refine (if_pos h).trans ?_
  rw [rgD_eq]
end
/-! ## a def's end -/
mutual
def D.free : D → Bool
  | .tup ds => D.frees ds
  | .cl ds => D.frees ds
  | .ref _ => false
  | .exc _ d => D.free d
  | _ => true
def D.frees : List D → Bool
  | [] => true
  | d :: r => D.free d && D.frees r
end
mutual
theorem D.free_under (n : Nat) : ∀ d : D, d.free = true → d.under n = true
  | .tup ds, h => D.frees_under n ds h
  | .cl ds, h => D.frees_under n ds h
  | .ref _, h => by cases h
  | .exc _ d, h => D.free_under n d h
  | .non, _ => rfl
  | .bl _, _ => rfl
  | .int _, _ => rfl
  | .str _, _ => rfl
theorem D.frees_under (n : Nat) : ∀ ds : List D, D.frees ds = true → D.unders n ds = true
  | [], _ => rfl
  | d :: r, h => by
    obtain ⟨h1, h2⟩ := Bool.and_eq_true_iff.mp (show (D.free d && D.frees r) = true from h)
    show (D.under n d && D.unders n r) = true
    rw [D.free_under n d h1, D.frees_under n r h2]; rfl
end
/-- the store holds nothing beyond itself -/
def Shut (S : Store) : Prop := sBelow S.length S = true
theorem gc_v {d : D} {S T : Store} (hS : Shut S) (hd : d.free = true) : gcR S.length (.ok (.v d) (S ++ T)) = .ok (.v d) S := by
  unfold gcR
  dsimp only
  rw [List.take_left, if_pos (show sBelow S.length S = true from hS)]
  have e : clipE S.length (S ++ T) (.v d) = some (.v d) := by
    cases d with
    | ref k => cases hd
    | _ => simp only [clipE, D.free_under _ _ hd, if_true]
  simp only [e]
theorem gc_l {ds : List D} {S T : Store} (hS : Shut S) (hd : D.frees ds = true) : gcR S.length (.ok (.fl ds) (S ++ T)) = .ok (.fl ds) S := by
  unfold gcR
  dsimp only
  rw [List.take_left, if_pos (show sBelow S.length S = true from hS)]
  have e : clipE S.length (S ++ T) (.fl ds) = some (.fl ds) := if_pos (D.frees_under _ _ hd)
  simp only [e]
theorem gc_x {c : Nat} {d : D} {S T : Store} (hS : Shut S) (hd : d.free = true) : gcR S.length (.exc c d (S ++ T)) = .exc c d S := by
  unfold gcR
  dsimp only
  rw [List.take_left, if_pos (by rw [D.free_under _ _ hd, Bool.and_true]; exact hS)]
section
variable {n : Nat} {ms : MS} {ds xs : List D} {d : D} {S : Store} {c : Nat} {ρ : Env}
theorem fc_vT {T : Store} (hS : Shut S) (hd : d.free = true) (h : ms (startE n ds) S = .ret (.v d) (S ++ T)) : mFunC n ms ds S = .ok (.v d) S := by
  unfold mFunC mBody; rw [h]; exact gc_v hS hd
theorem fc_lT {T : Store} (hS : Shut S) (hd : D.frees xs = true) (h : ms (startE n ds) S = .ret (.fl xs) (S ++ T)) : mFunC n ms ds S = .ok (.fl xs) S := by
  unfold mFunC mBody; rw [h]; exact gc_l hS hd
theorem fc_xT {T : Store} (hS : Shut S) (hd : d.free = true) (h : ms (startE n ds) S = .exc c d ρ (S ++ T)) : mFunC n ms ds S = .exc c d S := by
  unfold mFunC mBody; rw [h]; exact gc_x hS hd
theorem fc_v (hS : Shut S) (hd : d.free = true) (h : ms (startE n ds) S = .ret (.v d) S) : mFunC n ms ds S = .ok (.v d) S := fc_vT (T := []) hS hd (by rw [List.append_nil]; exact h)
theorem fc_l (hS : Shut S) (hd : D.frees xs = true) (h : ms (startE n ds) S = .ret (.fl xs) S) : mFunC n ms ds S = .ok (.fl xs) S := fc_lT (T := []) hS hd (by rw [List.append_nil]; exact h)
theorem fc_x (hS : Shut S) (hd : d.free = true) (h : ms (startE n ds) S = .exc c d ρ S) : mFunC n ms ds S = .exc c d S := fc_xT (T := []) hS hd (by rw [List.append_nil]; exact h)
theorem fc_n (hS : Shut S) (h : ms (startE n ds) S = .next ρ S) : mFunC n ms ds S = .ok (.v .non) S := by
  unfold mFunC mBody; rw [h]
  have := gc_v (d := .non) (T := []) hS rfl
  rwa [List.append_nil] at this
end
/-! ## one behind the other -/
theorem seq_n {a b : MS} {ρ ρ1 : Env} {S S1 : Store} (h : a ρ S = .next ρ1 S1) : mSeq a b ρ S = b ρ1 S1 := by unfold mSeq; rw [h]
theorem seq_r {a b : MS} {ρ : Env} {S S1 : Store} {e : EV} (h : a ρ S = .ret e S1) : mSeq a b ρ S = .ret e S1 := by unfold mSeq; rw [h]
theorem seq_x {a b : MS} {ρ ρ1 : Env} {S S1 : Store} {c : Nat} {d : D} (h : a ρ S = .exc c d ρ1 S1) : mSeq a b ρ S = .exc c d ρ1 S1 := by unfold mSeq; rw [h]
/-! ## comparisons -/
theorem gEq_int {neg : Bool} {i j : Int} {ρ : Env} {S : Store} : gEq neg (.v (.int i)) (.v (.int j)) ρ S = some (neg.xor (decide (i = j))) := rfl
theorem beq_dec {α : Type} [BEq α] [LawfulBEq α] [DecidableEq α] (x y : α) : (x == y) = decide (x = y) := by
  by_cases h : x = y
  · subst h; simp
  · simp [h]
theorem gEq_str {neg : Bool} {x y : Str} {ρ : Env} {S : Store} : gEq neg (.v (.str x)) (.v (.str y)) ρ S = some (neg.xor (decide (x = y))) := by
  show (if ((D.str x).pure && (D.str y).pure) = true ∧ min (D.str x).dp (D.str y).dp ≤ 60 then some (neg.xor ((D.str x).eqv (.str y))) else none) = _
  rw [if_pos ⟨rfl, show (min 0 0 : Nat) ≤ 60 by decide⟩]
  exact congrArg (fun z => some (neg.xor z)) (beq_dec x y)
/-! ## items -/
theorem ix_t {ds : List D} {i : Int} {ρ : Env} {S : Store} : gIx (.v (.tup ds)) (.v (.int i)) ρ S = (match atI ds i with | some d => .ok (.v d) S | none => .bad) := rfl
theorem ix_c {ds : List D} {i : Int} {ρ : Env} {S : Store} : gIx (.v (.cl ds)) (.v (.int i)) ρ S = (match atI ds i with | some d => .ok (.v d) S | none => .bad) := rfl
theorem ix_f {ds : List D} {i : Int} {ρ : Env} {S : Store} : gIx (.fl ds) (.v (.int i)) ρ S = (match atI ds i with | some d => .ok (.v d) S | none => .bad) := rfl
theorem ix_r {n : Nat} {S : Store} {ds : List D} {i : Int} {ρ : Env} (h : S[n]? = some (.lst ds)) : gIx (.v (.ref n)) (.v (.int i)) ρ S = (match atI ds i with | some d => .ok (.v d) S | none => .bad) := by
  simp only [gIx, asK, h, asSeq, asL, asI]
  all_goals (cases atI ds i <;> rfl)
theorem ix_s {k : Nat} {S : Store} {ds : List D} {i : Int} {ρ : Env} (h : ρ[k]? = some (some (.ol ds))) : gIx (.sl k) (.v (.int i)) ρ S = (match atI ds i with | some d => .ok (.v d) S | none => .bad) := by
  simp only [gIx, asK, h, asSeq, asL, asI]
  all_goals (cases atI ds i <;> rfl)
theorem Shut.set {S : Store} {n : Nat} {o : Ob} (h : Shut S) (ho : o.under S.length = true) : Shut (S.set n o) := by
  have go : ∀ (T : Store) (n m : Nat), sBelow m T = true → o.under m = true → sBelow m (T.set n o) = true := fun T => by
    induction T with
    | nil => intro n m h _; exact h
    | cons a r ih =>
      intro n m h ho
      obtain ⟨h1, h2⟩ := Bool.and_eq_true_iff.mp (show (a.under m && sBelow m r) = true from h)
      cases n with
      | zero => show (o.under m && sBelow m r) = true; rw [ho, h2]; rfl
      | succ n => show (a.under m && sBelow m (r.set n o)) = true; rw [h1, ih n m h2 ho]; rfl
  unfold Shut
  rw [List.length_set]
  exact go S n _ h ho
theorem Shut.nil : Shut [] := rfl
theorem sBelow_mono {a b : Nat} (hab : a ≤ b) : ∀ {S : Store}, sBelow a S = true → sBelow b S = true := by
  have hd : (∀ d : D, d.under a = true → d.under b = true) ∧ ∀ ds : List D, D.unders a ds = true → D.unders b ds = true := by
    have key := fun (d : D) => D.rec (motive_1 := fun d => d.under a = true → d.under b = true) (motive_2 := fun ds => D.unders a ds = true → D.unders b ds = true) (fun h => h) (fun _ h => h) (fun _ h => h) (fun _ h => h) (fun _ ih h => ih h)
      (fun n h => by
        have h := of_decide_eq_true (show decide (n < a) = true from h)
        exact decide_eq_true (Nat.lt_of_lt_of_le h hab)) (fun _ _ ih h => ih h) (fun _ ih h => ih h) (fun h => h) (fun d r ih1 ih2 h => by
        obtain ⟨h1, h2⟩ := Bool.and_eq_true_iff.mp (show (d.under a && D.unders a r) = true from h)
        show (d.under b && D.unders b r) = true
        rw [ih1 h1, ih2 h2]; rfl) d
    refine ⟨key, fun ds => ?_⟩
    induction ds with
    | nil => exact fun h => h
    | cons d r ih =>
      intro h
      obtain ⟨h1, h2⟩ := Bool.and_eq_true_iff.mp (show (d.under a && D.unders a r) = true from h)
      show (d.under b && D.unders b r) = true
      rw [key d h1, ih h2]; rfl
  have hk : ∀ kvs : List (D × D), kvBelow a kvs = true → kvBelow b kvs = true := fun kvs => by
    induction kvs with
    | nil => exact fun h => h
    | cons p r ih =>
      intro h
      have h : (D.under a p.1 && D.under a p.2 && kvBelow a r) = true := h
      simp only [Bool.and_eq_true] at h
      show (D.under b p.1 && D.under b p.2 && kvBelow b r) = true
      rw [hd.1 _ h.1.1, hd.1 _ h.1.2, ih h.2]; rfl
  have ho : ∀ fs : List (Option D), obelow a fs = true → obelow b fs = true := fun fs => by
    induction fs with
    | nil => exact fun h => h
    | cons p r ih =>
      intro h
      cases p with
      | none => exact ih h
      | some d =>
        obtain ⟨h1, h2⟩ := Bool.and_eq_true_iff.mp (show (d.under a && obelow a r) = true from h)
        show (d.under b && obelow b r) = true
        rw [hd.1 _ h1, ih h2]; rfl
  intro S
  induction S with
  | nil => exact fun h => h
  | cons o r ih =>
    intro h
    obtain ⟨h1, h2⟩ := Bool.and_eq_true_iff.mp (show (o.under a && sBelow a r) = true from h)
    have q : o.under b = true := by
      cases o with
      | lst ds => exact hd.2 _ h1
      | dic kvs => exact hk _ h1
      | ins c fs => exact ho _ h1
    show (o.under b && sBelow b r) = true
    rw [q, ih h2]; rfl
theorem Shut.snoc {S : Store} {o : Ob} (h : Shut S) (ho : o.under (S.length + 1) = true) : Shut (S ++ [o]) := by
  have go : ∀ (T : Store) (m : Nat), sBelow m T = true → o.under m = true → sBelow m (T ++ [o]) = true := fun T => by
    induction T with
    | nil => intro m _ ho; show (o.under m && true) = true; rw [ho]; rfl
    | cons a r ih =>
      intro m h ho
      obtain ⟨h1, h2⟩ := Bool.and_eq_true_iff.mp (show (a.under m && sBelow m r) = true from h)
      show (a.under m && sBelow m (r ++ [o])) = true
      rw [h1, ih m h2 ho]; rfl
  unfold Shut
  rw [List.length_append, List.length_singleton]
  exact go S _ (sBelow_mono (Nat.le_succ _) h) ho
end DL

set_option Elab.async false
set_option autoImplicit false
set_option linter.all false
set_option maxRecDepth 100000
set_option maxHeartbeats 2000000
namespace DL
open PySem PySem.Spec PyProof.Rows L2
/-! ## the draws of the laws -/
def mD_pot : MS := (mSeq (mSet 2 (mIfE (mCmp (gLt) (eV 1) (mCall (g1 fLen) (mConsA (eV 0) mNilA))) (m2 gIx (eV 0) (eV 1)) (m2 (gAdd) (m2 (gAdd) (m2 (gI fMod) (mCall (g1 fInt) (mConsA (mCall (g1 fSum) (mConsA (mSlice (eV 0) mNoPart (mPart (eC (.int 1)))) mNilA)) mNilA)) (eC (.int 1000133))) (m2 (gMul) (eC (.int 4111)) (eV 1))) (eC (.int 2477))))) (mSeq (mSet 3 (m2 (gMul) (m2 (gI fMod) (mCall (g1 fInt) (mConsA (mCall (g1 fAbs) (mConsA (eV 2) mNilA)) mNilA)) (m2 (gI fPow) (m2 (gI fPow) (eC (.int 10)) (eC (.int 60))) (eC (.int 5)))) (mCall (g1 fInt) (mConsA (mTV (mCmp (gGe) (mCall (g1 fAbs) (mConsA (eV 2) mNilA)) (m2 (gI fPow) (eC (.int 10)) (eC (.int 18))))) mNilA)))) (mSeq (mSet 4 (m2 (gI fMod) (mCall (g1 fInt) (mConsA (eV 2) mNilA)) (eC (.int 2305843009213693951)))) (mRet (mLst (mConsA (eV 3) (mConsA (mFrz (m2 (gI fMod) (mCall (g1 fInt) (mConsA (m2 (gAdd) (m2 (gAdd) (m2 (gMul) (eV 4) (eC (.int 77347))) (m2 (gMul) (m2 (gMul) (eC (.int 10273)) (eV 1)) (eV 1))) (eC (.int 2269))) mNilA)) (eC (.int 2305843009213693921)))) (mConsA (eC (.int 0)) mNilA))))))))
def MD_pot : MF := mFunC 5 mD_pot
def mD_take : MS := (mSeq (mIf (mCmp (gGt) (m2 gIx (eV 0) (eC (.int 0))) (eC (.int 0))) (mSeq (mSet 2 (m2 (gI fMod) (mCall (g1 fInt) (mConsA (m2 gIx (eV 0) (eC (.int 0))) mNilA)) (eV 1))) (mSeq (mStore (mFrz (m2 (gI fDiv) (m2 gIx (eV 0) (eC (.int 0))) (eV 1))) (eV 0) (eC (.int 0))) (mRet (eV 2)))) mNext) (mSeq (mStore (mFrz (m2 (gAdd) (m2 gIx (eV 0) (eC (.int 2))) (eC (.int 1)))) (eV 0) (eC (.int 2))) (mSeq (mSet 3 (m2 gIx (mLst (mConsA (eC (.int 2147483647)) (mConsA (eC (.int 2147483629)) (mConsA (eC (.int 2147483587)) (mConsA (eC (.int 2147483579)) (mConsA (eC (.int 2147483563)) mNilA)))))) (m2 (gI fMod) (mCall (g1 fInt) (mConsA (m2 gIx (eV 0) (eC (.int 2))) mNilA)) (eC (.int 5))))) (mSeq (mSet 4 (m2 (gI fMod) (mCall (g1 fInt) (mConsA (m2 (gI fPow) (mCall (g1 fInt) (mConsA (m2 (gAdd) (m2 (gAdd) (m2 gIx (eV 0) (eC (.int 1))) (m2 (gMul) (m2 (gMul) (eC (.int 91199)) (m2 gIx (eV 0) (eC (.int 2)))) (m2 gIx (eV 0) (eC (.int 2))))) (eC (.int 2477))) mNilA)) (eC (.int 3))) mNilA)) (eV 3))) (mSeq (mSet 4 (m2 (gI fMod) (mCall (g1 fInt) (mConsA (m2 (gMul) (eV 4) (m2 (gAdd) (m2 (gI fMod) (mCall (g1 fInt) (mConsA (eV 4) mNilA)) (eC (.int 12659))) (m2 (gMul) (eC (.int 397)) (m2 gIx (eV 0) (eC (.int 2)))))) mNilA)) (eC (.int 2305843009213693907)))) (mRet (m2 (gI fMod) (mCall (g1 fInt) (mConsA (m2 (gI fDiv) (eV 4) (eC (.int 211))) mNilA)) (eV 1))))))))
def MD_take : MF := mFunC 5 mD_take
def mD_of : MS := (mRet (m2 gIx (eV 1) (mFn 2 MD_take (mConsA (eV 0) (mConsA (mFrz (mCall (g1 fLen) (mConsA (eV 1) mNilA))) mNilA)))))
def MD_of : MF := mFunC 2 mD_of
def mD_cells : MS := (mRet (mR1 kRgL (mCall (g2 (fII iMax)) (mConsA (eC (.int 1)) (mConsA (mCall (g2 (fII iMin)) (mConsA (eV 1) (mConsA (mCall (g1 fLen) (mConsA (eV 0) mNilA)) mNilA))) mNilA)))))
def MD_cells : MF := mFunC 2 mD_cells
theorem lg_lt {i : Int} {k : Nat} (h : i.natAbs < 2 ^ k) (hk : 0 < k) : i.natAbs.log2 < k := by
  by_cases e : i.natAbs = 0
  · rw [e]; simpa using hk
  · exact (Nat.log2_lt e).mpr h
theorem gMul_ok {i j : Int} {ρ : Env} {S : Store} (h1 : i.natAbs < 2 ^ 400000) (h2 : j.natAbs < 2 ^ 400000) : gMul (.v (.int i)) (.v (.int j)) ρ S = .ok (.v (.int (i * j))) S := by
  have q1 := lg_lt h1 (by omega)
  have q2 := lg_lt h2 (by omega)
  exact if_pos (by omega)
theorem small {i : Int} (h : -1000000000000000000000000000000000000000000000000000000000000000000000000000 < i ∧ i < 1000000000000000000000000000000000000000000000000000000000000000000000000000) : i.natAbs < 2 ^ 400000 := by
  have e : (2 : Nat) ^ 250 ≤ 2 ^ 400000 := Nat.pow_le_pow_right (by decide) (by decide)
  have e2 : 1000000000000000000000000000000000000000000000000000000000000000000000000000 ≤ (2 : Nat) ^ 250 := by decide +kernel
  have : i.natAbs < 1000000000000000000000000000000000000000000000000000000000000000000000000000 := by omega
  exact Nat.lt_of_lt_of_le this (Nat.le_trans e2 e)
theorem gMul_s {i j : Int} {ρ : Env} {S : Store} (h1 : -1000000000000000000000000000000000000000000000000000000000000000000000000000 < i ∧ i < 1000000000000000000000000000000000000000000000000000000000000000000000000000) (h2 : -1000000000000000000000000000000000000000000000000000000000000000000000000000 < j ∧ j < 1000000000000000000000000000000000000000000000000000000000000000000000000000) : gMul (.v (.int i)) (.v (.int j)) ρ S = .ok (.v (.int (i * j))) S := gMul_ok (small h1) (small h2)
theorem fDiv_s {i j : Int} (h1 : 0 < j) (h2 : j < 1000000000000000000000000000000000000000000000000000000000000000000000000000) : fDiv i j = some (.int (i / j)) := if_pos ⟨h1, lg_lt (Nat.lt_of_lt_of_le (show j.natAbs < 1000000000000000000000000000000000000000000000000000000000000000000000000000 by omega) (Nat.le_trans (show 1000000000000000000000000000000000000000000000000000000000000000000000000000 ≤ (2 : Nat) ^ 250 by decide +kernel) (Nat.pow_le_pow_right (by decide) (by decide)))) (by decide)⟩
theorem fPow_s {i j : Int} (h : -1000000000000000000000000000000000000000000000000000000000000000000000000000 < i ∧ i < 1000000000000000000000000000000000000000000000000000000000000000000000000000) (h1 : 0 ≤ j) (h2 : j ≤ 1000) : fPow i j = some (.int (i ^ j.toNat)) := if_pos ⟨h1, h2, lg_lt (Nat.lt_of_lt_of_le (show i.natAbs < 1000000000000000000000000000000000000000000000000000000000000000000000000000 by omega) (Nat.le_trans (show 1000000000000000000000000000000000000000000000000000000000000000000000000000 ≤ (2 : Nat) ^ 250 by decide +kernel) (Nat.pow_le_pow_right (by decide) (by decide)))) (by decide)⟩
theorem fMod_s {i j : Int} (h1 : 0 < j) : fMod i j = some (.int (i % j)) := if_pos h1
/-- a pot after at most k takes -/
structure Pot (k : Int) (a b c : Int) : Prop where
  a0 : 0 ≤ a
  b0 : 0 ≤ b
  b1 : b < 2305843009213693921
  c0 : 0 ≤ c
  c1 : c ≤ k
def potO (a b c : Int) : Ob := .lst [.int a, .int b, .int c]
theorem ixN30 : ixN 3 0 = some 0 := rfl
theorem ixN32 : ixN 3 2 = some 2 := rfl
theorem at30 {x y z : D} : atI [x, y, z] 0 = some x := rfl
theorem at31 {x y z : D} : atI [x, y, z] 1 = some y := rfl
theorem at32 {x y z : D} : atI [x, y, z] 2 = some z := rfl
theorem pot_shut {n : Nat} {S : Store} {a b c : Int} (hS : Shut S) : Shut (S.set n (.lst [.int a, .int b, .int c])) := hS.set rfl
theorem r_take {n : Nat} {S : Store} {k a b c u : Int} (hS : Shut S) (h : S[n]? = some (.lst [.int a, .int b, .int c])) (p : Pot k a b c) (hk : k < 1000000) (hu : 0 < u ∧ u ≤ 1000000) :
    ∃ a' b' c' r, MD_take [.ref n, .int u] S = .ok (.v (.int r)) (S.set n (.lst [.int a', .int b', .int c'])) ∧ Pot (k + 1) a' b' c' ∧ 0 ≤ r ∧ r < u := by
  have hn : n < S.length := (List.getElem?_eq_some_iff.mp h).1
  have h0 : ∀ ρ, gIx (.v (.ref n)) (.v (.int 0)) ρ S = .ok (.v (.int a)) S := fun ρ => ix_r h
  have fin : ∀ {a' b' c' r : Int}, mD_take (startE 5 [.ref n, .int u]) S = .ret (.v (.int r)) (S.set n (.lst [.int a', .int b', .int c'])) → MD_take [.ref n, .int u] S = .ok (.v (.int r)) (S.set n (.lst [.int a', .int b', .int c'])) := fun {a' b' c' r} e => by
    simp only [MD_take, mFunC, mBody, e]
    have q := gc_v (d := .int r) (T := []) (pot_shut (n := n) (a := a') (b := b') (c := c') hS) rfl
    rw [List.append_nil, List.length_set] at q
    exact q
  by_cases ha : a > 0
  · refine ⟨a / u, b, c, a % u, fin ?_, ?_, Int.emod_nonneg _ (by omega), Int.emod_lt_of_pos _ hu.1⟩
    · show mD_take [some (.v (.ref n)), some (.v (.int u)), none, none, none] S = _
      simp only [mD_take, mSeq, mSet, Bool.and_true, Bool.true_and, Bool.and_false, Bool.false_and, Bool.or_true, Bool.true_or, Bool.or_false, Bool.false_or,  mRet, mRetN, mIf, mExpr, mNext, mBrk, mCont, eV, eC, eG, m2, gI, R.bind, svE, outE, mB, mCmp, mTV, mNot, mAnd, mOr, mIfE, mAndV, mOrV, mNotV, mNeg, mChain, mConsA, mNilA, mStarA, mTup, mLst, pub, pub_vals, List.append_nil, mCall, g1, g2, mFrz, frzE, mFrzS, flE, mStore, mPar, mUnp, svs, setMany, mAug, mMeth, isOb, obTy, setOb, plOf, plPut, mIsT, tyN, tyD, Ty.isa, fLen, fTup, fLst, fInt, fAbs, fII, fSum, fAll, fAny, asK, asSeq, asL, asT, asI, asM, asD, gEq_int, gEq_str, gOrd, ix_t, ix_c, ix_f, gAdd, fAdd, fSub, mFn, mRaise, fOne, kOne, tgN, tgT, tgCons, tgNil, mSrc, srcE, mEnum, kEnum, IT.enum, mZip, kZip, mLc, lcRun, lcOne, wipeE, mYes, fAppend, fExtend, D.isI, List.getElem?_cons_zero, List.getElem?_cons_succ, List.set_cons_zero, List.set_cons_succ, List.getElem?_nil, List.length_cons, List.length_nil, Option.some.injEq, Bool.false_eq_true, if_true, if_false, ite_true, ite_false, reduceIte, Bool.xor_false, Bool.xor_true, Bool.not_true, Bool.not_false, Bool.false_xor, Bool.true_xor, decide_true, decide_false, Nat.zero_add, reduceCtorEq, Nat.reduceAdd, Nat.reduceSub, Nat.reduceMul, Nat.reduceLT, Nat.reduceLeDiff, Nat.reduceEqDiff, Nat.reduceBEq, Int.reduceAdd, Int.reduceSub, Int.reduceMul, Int.reduceNeg, Int.reduceEq, Int.reduceNe, Int.reduceLT, Int.reduceLE, Int.reduceToNat, List.set_cons_zero, h0, h, gGt, fiGt, ha, fDiv_s hu.1 (show u < 1000000000000000000000000000000000000000000000000000000000000000000000000000 by omega), fMod_s hu.1, ixN30]
    · exact ⟨Int.ediv_nonneg p.a0 (by omega), p.b0, p.b1, p.c0, by have := p.c1; omega⟩
  · obtain ⟨m, em⟩ : ∃ m, m = c + 1 := ⟨_, rfl⟩
    have hm : 0 ≤ m ∧ m ≤ 1000000 := by have := p.c0; have := p.c1; omega
    have h1 : ∀ ρ, gIx (.v (.ref n)) (.v (.int 2)) ρ S = .ok (.v (.int c)) S := fun ρ => ix_r h
    have g : (S.set n (.lst [.int a, .int b, .int m]))[n]? = some (.lst [.int a, .int b, .int m]) := List.getElem?_set_self hn
    have gB : ∀ ρ, gIx (.v (.ref n)) (.v (.int 1)) ρ (S.set n (.lst [.int a, .int b, .int m])) = .ok (.v (.int b)) (S.set n (.lst [.int a, .int b, .int m])) := fun ρ => ix_r g
    have gC : ∀ ρ, gIx (.v (.ref n)) (.v (.int 2)) ρ (S.set n (.lst [.int a, .int b, .int m])) = .ok (.v (.int m)) (S.set n (.lst [.int a, .int b, .int m])) := fun ρ => ix_r g
    obtain ⟨pr, hpr, hp0⟩ : ∃ pr : Int, atI [D.int 2147483647, D.int 2147483629, D.int 2147483587, D.int 2147483579, D.int 2147483563] (m % 5) = some (.int pr) ∧ 0 < pr ∧ pr < 2147483648 := by
      have : m % 5 = 0 ∨ m % 5 = 1 ∨ m % 5 = 2 ∨ m % 5 = 3 ∨ m % 5 = 4 := by omega
      rcases this with e | e | e | e | e <;> rw [e] <;> exact ⟨_, rfl, by decide, by decide⟩
    obtain ⟨t, et⟩ : ∃ t, t = 91199 * m := ⟨_, rfl⟩
    obtain ⟨q, eq⟩ : ∃ q, q = t * m := ⟨_, rfl⟩
    have hq : 0 ≤ q ∧ q ≤ 91199000000 * 1000000 := by
      rw [eq]
      exact ⟨Int.mul_nonneg (by omega) (by omega), Int.mul_le_mul (by omega) (by omega) (by omega) (by omega)⟩
    obtain ⟨x, ex⟩ : ∃ x, x = b + q + 2477 := ⟨_, rfl⟩
    have hx : 0 ≤ x ∧ x < 2 ^ 70 := by have := p.b0; have := p.b1; omega
    obtain ⟨y, ey⟩ : ∃ y, y = x ^ 3 % pr := ⟨_, rfl⟩
    have hy : 0 ≤ y ∧ y < 2 ^ 31 := by
      have h1 := Int.emod_nonneg (x ^ 3) (show pr ≠ 0 by omega)
      have h2 := Int.emod_lt_of_pos (x ^ 3) hp0.1
      omega
    obtain ⟨w, ew⟩ : ∃ w, w = y % 12659 + 397 * m := ⟨_, rfl⟩
    have hw : 0 ≤ w ∧ w < 2 ^ 70 := by omega
    have f1 : ∀ {ρ : Env} {S : Store}, gMul (.v (.int 91199)) (.v (.int m)) ρ S = .ok (.v (.int t)) S := fun {_ _} => by rw [et]; exact gMul_s (by omega) (by omega)
    have f2 : ∀ {ρ : Env} {S : Store}, gMul (.v (.int t)) (.v (.int m)) ρ S = .ok (.v (.int q)) S := fun {_ _} => by rw [eq]; exact gMul_s (by omega) (by omega)
    have f3 : ∀ {ρ : Env} {S : Store}, gMul (.v (.int 397)) (.v (.int m)) ρ S = .ok (.v (.int (397 * m))) S := fun {_ _} => gMul_s (by omega) (by omega)
    have f4 : ∀ {ρ : Env} {S : Store}, gMul (.v (.int y)) (.v (.int w)) ρ S = .ok (.v (.int (y * w))) S := fun {_ _} => gMul_s (by omega) (by omega)
    have f5 : fPow x 3 = some (.int (x ^ 3)) := fPow_s (by omega) (by omega) (by omega)
    refine ⟨a, b, m, (y * w) % 2305843009213693907 / 211 % u, fin ?_, ⟨p.a0, p.b0, p.b1, by omega, by have := p.c1; omega⟩, Int.emod_nonneg _ (by omega), Int.emod_lt_of_pos _ hu.1⟩
    show mD_take [some (.v (.ref n)), some (.v (.int u)), none, none, none] S = _
    simp only [mD_take, mSeq, mSet, Bool.and_true, Bool.true_and, Bool.and_false, Bool.false_and, Bool.or_true, Bool.true_or, Bool.or_false, Bool.false_or,  mRet, mRetN, mIf, mExpr, mNext, mBrk, mCont, eV, eC, eG, m2, gI, R.bind, svE, outE, mB, mCmp, mTV, mNot, mAnd, mOr, mIfE, mAndV, mOrV, mNotV, mNeg, mChain, mConsA, mNilA, mStarA, mTup, mLst, pub, pub_vals, List.append_nil, mCall, g1, g2, mFrz, frzE, mFrzS, flE, mStore, mPar, mUnp, svs, setMany, mAug, mMeth, isOb, obTy, setOb, plOf, plPut, mIsT, tyN, tyD, Ty.isa, fLen, fTup, fLst, fInt, fAbs, fII, fSum, fAll, fAny, asK, asSeq, asL, asT, asI, asM, asD, gEq_int, gEq_str, gOrd, ix_t, ix_c, ix_f, gAdd, fAdd, fSub, mFn, mRaise, fOne, kOne, tgN, tgT, tgCons, tgNil, mSrc, srcE, mEnum, kEnum, IT.enum, mZip, kZip, mLc, lcRun, lcOne, wipeE, mYes, fAppend, fExtend, D.isI, List.getElem?_cons_zero, List.getElem?_cons_succ, List.set_cons_zero, List.set_cons_succ, List.getElem?_nil, List.length_cons, List.length_nil, Option.some.injEq, Bool.false_eq_true, if_true, if_false, ite_true, ite_false, reduceIte, Bool.xor_false, Bool.xor_true, Bool.not_true, Bool.not_false, Bool.false_xor, Bool.true_xor, decide_true, decide_false, Nat.zero_add, reduceCtorEq, Nat.reduceAdd, Nat.reduceSub, Nat.reduceMul, Nat.reduceLT, Nat.reduceLeDiff, Nat.reduceEqDiff, Nat.reduceBEq, Int.reduceAdd, Int.reduceSub, Int.reduceMul, Int.reduceNeg, Int.reduceEq, Int.reduceNe, Int.reduceLT, Int.reduceLE, Int.reduceToNat, List.set_cons_zero, h0, h, h1, ← em, g, gB, gC, gGt, fiGt, ha, ixN32, fMod_s (show (0 : Int) < 5 by decide), sizeL, hpr, f1, f2, ← ex, f5, fMod_s hp0.1, ← ey, fMod_s (show (0 : Int) < 12659 by decide), f3, ← ew, f4,
      fMod_s (show (0 : Int) < 2305843009213693907 by decide), fDiv_s (show (0 : Int) < 211 by decide) (by decide), fMod_s hu.1]
theorem frees_mem {ds : List D} (h : D.frees ds = true) : ∀ d ∈ ds, d.free = true := by
  induction ds with
  | nil => intro d hd; cases hd
  | cons a r ih =>
    obtain ⟨h1, h2⟩ := Bool.and_eq_true_iff.mp (show (a.free && D.frees r) = true from h)
    intro d hd
    rcases List.mem_cons.mp hd with rfl | hd
    · exact h1
    · exact ih h2 d hd
theorem atI_mem {ds : List D} {i : Int} (h0 : 0 ≤ i) (h1 : i < ds.length) : ∃ d, atI ds i = some d ∧ d ∈ ds ∧ ds[i.toNat]? = some d := by
  have hl : i.toNat < ds.length := by omega
  refine ⟨ds[i.toNat], ?_, List.getElem_mem hl, List.getElem?_eq_getElem hl⟩
  unfold atI ixN
  simp only [show ¬ i < 0 by omega, if_false, show i < (ds.length : Int) from h1, h0, and_self, if_true]
  exact List.getElem?_eq_getElem hl
theorem at_nat {ds : List D} {i : Nat} {d : D} (h : ds[i]? = some d) : atI ds (i : Int) = some d := by
  have hl : i < ds.length := (List.getElem?_eq_some_iff.mp h).1
  unfold atI ixN
  simp only [show (0 : Int) ≤ (i : Int) by omega, if_true, show (i : Int) < (ds.length : Int) by omega, Int.toNat_natCast]
  exact h
/-- an item that is drawn -/
theorem r_of {n : Nat} {S : Store} {k a b c : Int} {ds : List D} (hS : Shut S) (h : S[n]? = some (.lst [.int a, .int b, .int c])) (p : Pot k a b c) (hk : k < 1000000) (hl : 0 < ds.length ∧ ds.length ≤ 1000000) (hf : D.frees ds = true) :
    ∃ a' b' c' d, MD_of [.ref n, .cl ds] S = .ok (.v d) (S.set n (.lst [.int a', .int b', .int c'])) ∧ Pot (k + 1) a' b' c' ∧ d ∈ ds := by
  obtain ⟨a', b', c', r, h1, h2, h3, h4⟩ := r_take (u := ds.length) hS h p hk (by omega)
  obtain ⟨d, q1, q2, q3⟩ := atI_mem h3 h4
  refine ⟨a', b', c', d, ?_, h2, q2⟩
  have e : mD_of (startE 2 [.ref n, .cl ds]) S = .ret (.v d) (S.set n (.lst [.int a', .int b', .int c'])) := by
    show mD_of [some (.v (.ref n)), some (.v (.cl ds))] S = _
    simp only [mD_of, mSeq, mSet, Bool.and_true, Bool.true_and, Bool.and_false, Bool.false_and, Bool.or_true, Bool.true_or, Bool.or_false, Bool.false_or,  mRet, mRetN, mIf, mExpr, mNext, mBrk, mCont, eV, eC, eG, m2, gI, R.bind, svE, outE, mB, mCmp, mTV, mNot, mAnd, mOr, mIfE, mAndV, mOrV, mNotV, mNeg, mChain, mConsA, mNilA, mStarA, mTup, mLst, pub, pub_vals, List.append_nil, mCall, g1, g2, mFrz, frzE, mFrzS, flE, mStore, mPar, mUnp, svs, setMany, mAug, mMeth, isOb, obTy, setOb, plOf, plPut, mIsT, tyN, tyD, Ty.isa, fLen, fTup, fLst, fInt, fAbs, fII, fSum, fAll, fAny, asK, asSeq, asL, asT, asI, asM, asD, gEq_int, gEq_str, gOrd, ix_t, ix_c, ix_f, gAdd, fAdd, fSub, mFn, mRaise, fOne, kOne, tgN, tgT, tgCons, tgNil, mSrc, srcE, mEnum, kEnum, IT.enum, mZip, kZip, mLc, lcRun, lcOne, wipeE, mYes, fAppend, fExtend, D.isI, List.getElem?_cons_zero, List.getElem?_cons_succ, List.set_cons_zero, List.set_cons_succ, List.getElem?_nil, List.length_cons, List.length_nil, Option.some.injEq, Bool.false_eq_true, if_true, if_false, ite_true, ite_false, reduceIte, Bool.xor_false, Bool.xor_true, Bool.not_true, Bool.not_false, Bool.false_xor, Bool.true_xor, decide_true, decide_false, Nat.zero_add, reduceCtorEq, Nat.reduceAdd, Nat.reduceSub, Nat.reduceMul, Nat.reduceLT, Nat.reduceLeDiff, Nat.reduceEqDiff, Nat.reduceBEq, Int.reduceAdd, Int.reduceSub, Int.reduceMul, Int.reduceNeg, Int.reduceEq, Int.reduceNe, Int.reduceLT, Int.reduceLE, Int.reduceToNat, List.set_cons_zero, h1, q1]
  simp only [MD_of, mFunC, mBody, e]
  have q := gc_v (d := d) (T := []) (pot_shut (n := n) (a := a') (b := b') (c := c') hS) (frees_mem hf d q2)
  rw [List.append_nil, List.length_set] at q
  exact q
theorem all_isI : ∀ ns : List Int, (ns.map D.int).all D.isI = true
  | [] => rfl
  | n :: ns => by rw [List.map_cons, List.all_cons, all_isI ns]; rfl
theorem r_cells {ns : List Int} {S : Store} {most : Int} (hS : Shut S) (hl : ns.length ≤ 63) (hm : most ≤ 1000) : MD_cells [.cl (ns.map D.int), .int most] S = .ok (.fl (rgD 0 (iMax 1 (iMin most ns.length)))) S := by
  have b1 : 0 ≤ iMax 1 (iMin most ns.length) ∧ iMax 1 (iMin most ns.length) ≤ 1000 := by unfold iMax iMin; split <;> split <;> omega
  have fr : ∀ a b : Int, D.frees (rgD a b) = true := fun a b => by
    unfold rgD
    generalize (b - a).toNat = m
    have : ∀ l : List Nat, D.frees (l.map fun i => D.int (a + (i : Nat))) = true := fun l => by
      induction l with
      | nil => rfl
      | cons x r ih => exact ih
    exact this _
  refine fc_l hS (fr _ _) ?_
  show mD_cells [some (.v (.cl (ns.map D.int))), some (.v (.int most))] S = _
  have ok : (rgOk 0 (iMax 1 (iMin most ns.length)) && decide (iMax 1 (iMin most ns.length) ≤ 16777216)) = true := by
    unfold rgOk
    simp only [Bool.and_eq_true, decide_eq_true_eq]
    omega
  simp only [mD_cells, mSeq, mSet, Bool.and_true, Bool.true_and, Bool.and_false, Bool.false_and, Bool.or_true, Bool.true_or, Bool.or_false, Bool.false_or,  mRet, mRetN, mIf, mExpr, mNext, mBrk, mCont, eV, eC, eG, m2, gI, R.bind, svE, outE, mB, mCmp, mTV, mNot, mAnd, mOr, mIfE, mAndV, mOrV, mNotV, mNeg, mChain, mConsA, mNilA, mStarA, mTup, mLst, pub, pub_vals, List.append_nil, mCall, g1, g2, mFrz, frzE, mFrzS, flE, mStore, mPar, mUnp, svs, setMany, mAug, mMeth, isOb, obTy, setOb, plOf, plPut, mIsT, tyN, tyD, Ty.isa, fLen, fTup, fLst, fInt, fAbs, fII, fSum, fAll, fAny, asK, asSeq, asL, asT, asI, asM, asD, gEq_int, gEq_str, gOrd, ix_t, ix_c, ix_f, gAdd, fAdd, fSub, mFn, mRaise, fOne, kOne, tgN, tgT, tgCons, tgNil, mSrc, srcE, mEnum, kEnum, IT.enum, mZip, kZip, mLc, lcRun, lcOne, wipeE, mYes, fAppend, fExtend, D.isI, List.getElem?_cons_zero, List.getElem?_cons_succ, List.set_cons_zero, List.set_cons_succ, List.getElem?_nil, List.length_cons, List.length_nil, Option.some.injEq, Bool.false_eq_true, if_true, if_false, ite_true, ite_false, reduceIte, Bool.xor_false, Bool.xor_true, Bool.not_true, Bool.not_false, Bool.false_xor, Bool.true_xor, decide_true, decide_false, Nat.zero_add, reduceCtorEq, Nat.reduceAdd, Nat.reduceSub, Nat.reduceMul, Nat.reduceLT, Nat.reduceLeDiff, Nat.reduceEqDiff, Nat.reduceBEq, Int.reduceAdd, Int.reduceSub, Int.reduceMul, Int.reduceNeg, Int.reduceEq, Int.reduceNe, Int.reduceLT, Int.reduceLE, Int.reduceToNat, List.set_cons_zero, mR1, kRgL, List.length_map, ok]
theorem sl_isI (ns : List Int) (lo hi : Option Int) : (cutD (ns.map D.int) lo hi).all D.isI = true := by
  unfold cutD
  rw [List.length_map, List.drop_eq_drop_iff.mpr rfl]
  rw [← List.map_drop, ← List.map_take]
  exact all_isI _
/-- a pot from the script -/
theorem r_pot {ns : List Int} {S : Store} {i : Int} (hS : Shut S) (hn : ns.length ≤ 63) (ha : 0 ≤ i ∧ i ≤ 1000) :
    ∃ a b, MD_pot [.cl (ns.map D.int), .int i] S = .ok (.fl [.int a, .int b, .int 0]) S ∧ Pot 0 a b 0 := by
  obtain ⟨p1, e1⟩ : ∃ p1, p1 = 4111 * i := ⟨_, rfl⟩
  obtain ⟨p2, e2⟩ : ∃ p2, p2 = 10273 * i := ⟨_, rfl⟩
  obtain ⟨p3, e3⟩ : ∃ p3, p3 = p2 * i := ⟨_, rfl⟩
  have h3 : 0 ≤ p3 ∧ p3 ≤ 10273000 * 1000 := by rw [e3]; exact ⟨Int.mul_nonneg (by omega) (by omega), Int.mul_le_mul (by omega) (by omega) (by omega) (by omega)⟩
  have f1 : ∀ {ρ : Env} {S : Store}, gMul (.v (.int 4111)) (.v (.int i)) ρ S = .ok (.v (.int p1)) S := fun {_ _} => by rw [e1]; exact gMul_s (by omega) (by omega)
  have f2 : ∀ {ρ : Env} {S : Store}, gMul (.v (.int 10273)) (.v (.int i)) ρ S = .ok (.v (.int p2)) S := fun {_ _} => by rw [e2]; exact gMul_s (by omega) (by omega)
  have f3 : ∀ {ρ : Env} {S : Store}, gMul (.v (.int p2)) (.v (.int i)) ρ S = .ok (.v (.int p3)) S := fun {_ _} => by rw [e3]; exact gMul_s (by omega) (by omega)
  have q1 : fPow 10 60 = some (.int (10 ^ 60)) := fPow_s (by decide) (by decide) (by decide)
  have q2 : fPow (10 ^ 60) 5 = some (.int ((10 ^ 60) ^ 5)) := fPow_s (by decide) (by decide) (by decide)
  have q3 : fPow 10 18 = some (.int (10 ^ 18)) := fPow_s (by decide) (by decide) (by decide)
  obtain ⟨T, hT⟩ : ∃ T : Int, T = (10 ^ 60) ^ 5 := ⟨_, rfl⟩
  have T0 : 0 < T ∧ T.natAbs < 2 ^ 400000 := by
    rw [hT]
    refine ⟨by decide, Nat.lt_of_lt_of_le (show (((10 : Int) ^ 60) ^ 5).natAbs < 2 ^ 1000 by decide +kernel) (Nat.pow_le_pow_right (by decide) (by decide))⟩
  have rest : ∀ (z : Int), ∃ a b, (mSeq (mSet 3 (m2 (gMul) (m2 (gI fMod) (mCall (g1 fInt) (mConsA (mCall (g1 fAbs) (mConsA (eV 2) mNilA)) mNilA)) (m2 (gI fPow) (m2 (gI fPow) (eC (.int 10)) (eC (.int 60))) (eC (.int 5)))) (mCall (g1 fInt) (mConsA (mTV (mCmp (gGe) (mCall (g1 fAbs) (mConsA (eV 2) mNilA)) (m2 (gI fPow) (eC (.int 10)) (eC (.int 18))))) mNilA)))) (mSeq (mSet 4 (m2 (gI fMod) (mCall (g1 fInt) (mConsA (eV 2) mNilA)) (eC (.int 2305843009213693951)))) (mRet (mLst (mConsA (eV 3) (mConsA (mFrz (m2 (gI fMod) (mCall (g1 fInt) (mConsA (m2 (gAdd) (m2 (gAdd) (m2 (gMul) (eV 4) (eC (.int 77347))) (m2 (gMul) (m2 (gMul) (eC (.int 10273)) (eV 1)) (eV 1))) (eC (.int 2269))) mNilA)) (eC (.int 2305843009213693921)))) (mConsA (eC (.int 0)) mNilA)))))))
      [some (.v (.cl (ns.map D.int))), some (.v (.int i)), some (.v (.int z)), none, none] S = .ret (.fl [.int a, .int b, .int 0]) S ∧ Pot 0 a b 0 := fun z => by
    obtain ⟨y, ey⟩ : ∃ y, y = if z < 0 then -z else z := ⟨_, rfl⟩
    have hy : 0 ≤ y := by rw [ey]; split <;> omega
    obtain ⟨r, er⟩ : ∃ r, r = y % T := ⟨_, rfl⟩
    have r0 : 0 ≤ r ∧ r < T := by
      have h1 := Int.emod_nonneg y (show T ≠ 0 by omega)
      have h2 := Int.emod_lt_of_pos y T0.1
      omega
    obtain ⟨g, eg⟩ : ∃ g : Int, g = if (!decide (y < 10 ^ 18)) = true then 1 else 0 := ⟨_, rfl⟩
    have g0 : 0 ≤ g ∧ g ≤ 1 := by rw [eg]; split <;> omega
    obtain ⟨sm, es⟩ : ∃ sm, sm = z % 2305843009213693951 := ⟨_, rfl⟩
    have s0 : 0 ≤ sm ∧ sm < 2305843009213693951 := by omega
    have m1 : ∀ {ρ : Env} {S : Store}, gMul (.v (.int r)) (.v (.int g)) ρ S = .ok (.v (.int (r * g))) S := fun {_ _} => gMul_ok (Nat.lt_of_le_of_lt (by omega) T0.2) (small (by omega))
    have m2' : ∀ {ρ : Env} {S : Store}, gMul (.v (.int sm)) (.v (.int 77347)) ρ S = .ok (.v (.int (sm * 77347))) S := fun {_ _} => gMul_s (by omega) (by omega)
    refine ⟨r * g, (sm * 77347 + p3 + 2269) % 2305843009213693921, ?_, ⟨Int.mul_nonneg r0.1 g0.1, by omega, by omega, by omega, by omega⟩⟩
    simp only [mSeq, mSet, Bool.and_true, Bool.true_and, Bool.and_false, Bool.false_and, Bool.or_true, Bool.true_or, Bool.or_false, Bool.false_or,  mRet, mRetN, mIf, mExpr, mNext, mBrk, mCont, eV, eC, eG, m2, gI, R.bind, svE, outE, mB, mCmp, mTV, mNot, mAnd, mOr, mIfE, mAndV, mOrV, mNotV, mNeg, mChain, mConsA, mNilA, mStarA, mTup, mLst, pub, pub_vals, List.append_nil, mCall, g1, g2, mFrz, frzE, mFrzS, flE, mStore, mPar, mUnp, svs, setMany, mAug, mMeth, isOb, obTy, setOb, plOf, plPut, mIsT, tyN, tyD, Ty.isa, fLen, fTup, fLst, fInt, fAbs, fII, fSum, fAll, fAny, asK, asSeq, asL, asT, asI, asM, asD, gEq_int, gEq_str, gOrd, ix_t, ix_c, ix_f, gAdd, fAdd, fSub, mFn, mRaise, fOne, kOne, tgN, tgT, tgCons, tgNil, mSrc, srcE, mEnum, kEnum, IT.enum, mZip, kZip, mLc, lcRun, lcOne, wipeE, mYes, fAppend, fExtend, D.isI, List.getElem?_cons_zero, List.getElem?_cons_succ, List.set_cons_zero, List.set_cons_succ, List.getElem?_nil, List.length_cons, List.length_nil, Option.some.injEq, Bool.false_eq_true, if_true, if_false, ite_true, ite_false, reduceIte, Bool.xor_false, Bool.xor_true, Bool.not_true, Bool.not_false, Bool.false_xor, Bool.true_xor, decide_true, decide_false, Nat.zero_add, reduceCtorEq, Nat.reduceAdd, Nat.reduceSub, Nat.reduceMul, Nat.reduceLT, Nat.reduceLeDiff, Nat.reduceEqDiff, Nat.reduceBEq, Int.reduceAdd, Int.reduceSub, Int.reduceMul, Int.reduceNeg, Int.reduceEq, Int.reduceNe, Int.reduceLT, Int.reduceLE, Int.reduceToNat, List.set_cons_zero, q1, q2, q3, ← hT, ← ey, fMod_s T0.1, ← er, gGe, fiGe, ← eg, m1, fMod_s (show (0 : Int) < 2305843009213693951 by decide), ← es, m2', f2, f3, fMod_s (show (0 : Int) < 2305843009213693921 by decide), sizeL]
  have hz : ∃ z : Int, mD_pot [some (.v (.cl (ns.map D.int))), some (.v (.int i)), none, none, none] S = (mSeq (mSet 3 (m2 (gMul) (m2 (gI fMod) (mCall (g1 fInt) (mConsA (mCall (g1 fAbs) (mConsA (eV 2) mNilA)) mNilA)) (m2 (gI fPow) (m2 (gI fPow) (eC (.int 10)) (eC (.int 60))) (eC (.int 5)))) (mCall (g1 fInt) (mConsA (mTV (mCmp (gGe) (mCall (g1 fAbs) (mConsA (eV 2) mNilA)) (m2 (gI fPow) (eC (.int 10)) (eC (.int 18))))) mNilA)))) (mSeq (mSet 4 (m2 (gI fMod) (mCall (g1 fInt) (mConsA (eV 2) mNilA)) (eC (.int 2305843009213693951)))) (mRet (mLst (mConsA (eV 3) (mConsA (mFrz (m2 (gI fMod) (mCall (g1 fInt) (mConsA (m2 (gAdd) (m2 (gAdd) (m2 (gMul) (eV 4) (eC (.int 77347))) (m2 (gMul) (m2 (gMul) (eC (.int 10273)) (eV 1)) (eV 1))) (eC (.int 2269))) mNilA)) (eC (.int 2305843009213693921)))) (mConsA (eC (.int 0)) mNilA)))))))
      [some (.v (.cl (ns.map D.int))), some (.v (.int i)), some (.v (.int z)), none, none] S := by
    unfold mD_pot
    by_cases hi : i < (ns.length : Int)
    · obtain ⟨d, d1, d2, _⟩ := atI_mem (ds := ns.map D.int) ha.1 (by rw [List.length_map]; exact hi)
      obtain ⟨z, _, rfl⟩ := List.mem_map.mp d2
      refine ⟨z, seq_n ?_⟩
      simp only [mSeq, mSet, Bool.and_true, Bool.true_and, Bool.and_false, Bool.false_and, Bool.or_true, Bool.true_or, Bool.or_false, Bool.false_or,  mRet, mRetN, mIf, mExpr, mNext, mBrk, mCont, eV, eC, eG, m2, gI, R.bind, svE, outE, mB, mCmp, mTV, mNot, mAnd, mOr, mIfE, mAndV, mOrV, mNotV, mNeg, mChain, mConsA, mNilA, mStarA, mTup, mLst, pub, pub_vals, List.append_nil, mCall, g1, g2, mFrz, frzE, mFrzS, flE, mStore, mPar, mUnp, svs, setMany, mAug, mMeth, isOb, obTy, setOb, plOf, plPut, mIsT, tyN, tyD, Ty.isa, fLen, fTup, fLst, fInt, fAbs, fII, fSum, fAll, fAny, asK, asSeq, asL, asT, asI, asM, asD, gEq_int, gEq_str, gOrd, ix_t, ix_c, ix_f, gAdd, fAdd, fSub, mFn, mRaise, fOne, kOne, tgN, tgT, tgCons, tgNil, mSrc, srcE, mEnum, kEnum, IT.enum, mZip, kZip, mLc, lcRun, lcOne, wipeE, mYes, fAppend, fExtend, D.isI, List.getElem?_cons_zero, List.getElem?_cons_succ, List.set_cons_zero, List.set_cons_succ, List.getElem?_nil, List.length_cons, List.length_nil, Option.some.injEq, Bool.false_eq_true, if_true, if_false, ite_true, ite_false, reduceIte, Bool.xor_false, Bool.xor_true, Bool.not_true, Bool.not_false, Bool.false_xor, Bool.true_xor, decide_true, decide_false, Nat.zero_add, reduceCtorEq, Nat.reduceAdd, Nat.reduceSub, Nat.reduceMul, Nat.reduceLT, Nat.reduceLeDiff, Nat.reduceEqDiff, Nat.reduceBEq, Int.reduceAdd, Int.reduceSub, Int.reduceMul, Int.reduceNeg, Int.reduceEq, Int.reduceNe, Int.reduceLT, Int.reduceLE, Int.reduceToNat, List.set_cons_zero, gLt, fiLt, List.length_map, hi, d1]
    · refine ⟨sumD (cutD (ns.map D.int) none (some 1)) % 1000133 + p1 + 2477, seq_n ?_⟩
      simp only [mSeq, mSet, Bool.and_true, Bool.true_and, Bool.and_false, Bool.false_and, Bool.or_true, Bool.true_or, Bool.or_false, Bool.false_or,  mRet, mRetN, mIf, mExpr, mNext, mBrk, mCont, eV, eC, eG, m2, gI, R.bind, svE, outE, mB, mCmp, mTV, mNot, mAnd, mOr, mIfE, mAndV, mOrV, mNotV, mNeg, mChain, mConsA, mNilA, mStarA, mTup, mLst, pub, pub_vals, List.append_nil, mCall, g1, g2, mFrz, frzE, mFrzS, flE, mStore, mPar, mUnp, svs, setMany, mAug, mMeth, isOb, obTy, setOb, plOf, plPut, mIsT, tyN, tyD, Ty.isa, fLen, fTup, fLst, fInt, fAbs, fII, fSum, fAll, fAny, asK, asSeq, asL, asT, asI, asM, asD, gEq_int, gEq_str, gOrd, ix_t, ix_c, ix_f, gAdd, fAdd, fSub, mFn, mRaise, fOne, kOne, tgN, tgT, tgCons, tgNil, mSrc, srcE, mEnum, kEnum, IT.enum, mZip, kZip, mLc, lcRun, lcOne, wipeE, mYes, fAppend, fExtend, D.isI, List.getElem?_cons_zero, List.getElem?_cons_succ, List.set_cons_zero, List.set_cons_succ, List.getElem?_nil, List.length_cons, List.length_nil, Option.some.injEq, Bool.false_eq_true, if_true, if_false, ite_true, ite_false, reduceIte, Bool.xor_false, Bool.xor_true, Bool.not_true, Bool.not_false, Bool.false_xor, Bool.true_xor, decide_true, decide_false, Nat.zero_add, reduceCtorEq, Nat.reduceAdd, Nat.reduceSub, Nat.reduceMul, Nat.reduceLT, Nat.reduceLeDiff, Nat.reduceEqDiff, Nat.reduceBEq, Int.reduceAdd, Int.reduceSub, Int.reduceMul, Int.reduceNeg, Int.reduceEq, Int.reduceNe, Int.reduceLT, Int.reduceLE, Int.reduceToNat, List.set_cons_zero, gLt, fiLt, List.length_map, hi, mSlice, mNoPart, mPart, gCut, sl_isI, fMod_s (show (0 : Int) < 1000133 by decide), f1]
  obtain ⟨z, hz⟩ := hz
  obtain ⟨a, b, h1, h2⟩ := rest z
  exact ⟨a, b, fc_l hS rfl (hz.trans h1), h2⟩
end DL

set_option Elab.async false
set_option autoImplicit false
set_option linter.all false
set_option maxRecDepth 100000
set_option maxHeartbeats 2000000
namespace DL
open PySem PySem.Spec PyProof.Rows L2
/-! ## data of one kind: whole numbers, tuples of them, tuples of these -/
def rowD (l : List Nat) : D := .tup (natsD l)
def picD (p : List (List Nat)) : D := .tup (p.map rowD)
def prD (p : Nat × Nat) : D := .tup [.int (p.1 : Int), .int (p.2 : Int)]
theorem natsD_inj : ∀ {a b : List Nat}, natsD a = natsD b → a = b
  | [], [], _ => rfl
  | [], _ :: _, h => by cases h
  | _ :: _, [], h => by cases h
  | a :: r, b :: s, h => by
    injection h with h1 h2
    injection h1 with h1
    rw [show a = b by omega, natsD_inj h2]
theorem rowD_inj {a b : List Nat} (h : rowD a = rowD b) : a = b := by injection h with h; exact natsD_inj h
theorem prD_inj {a b : Nat × Nat} (h : prD a = prD b) : a = b := by
  injection h with h
  injection h with h1 h2
  injection h1 with h1
  injection h2 with h2
  injection h2 with h2
  exact Prod.ext (by omega) (by omega)
theorem map_inj {α β : Type} {f : α → β} (hf : ∀ a b, f a = f b → a = b) : ∀ {l m : List α}, l.map f = m.map f → l = m
  | [], [], _ => rfl
  | [], _ :: _, h => by cases h
  | _ :: _, [], h => by cases h
  | a :: r, b :: s, h => by
    injection h with h1 h2
    rw [hf _ _ h1, map_inj hf h2]
theorem picD_inj {a b : List (List Nat)} (h : picD a = picD b) : a = b := by injection h with h; exact map_inj (fun _ _ => rowD_inj) h
theorem natsD_keys : ∀ l : List Nat, D.keys (natsD l) = true
  | [] => rfl
  | a :: l => natsD_keys l
theorem natsD_dep : ∀ l : List Nat, NestedKey.depthAll (D.nks (natsD l)) = 0
  | [] => rfl
  | a :: l => by
    show max 0 (NestedKey.depthAll (D.nks (natsD l))) = 0
    rw [natsD_dep l]; rfl
theorem rowsD_keys : ∀ l : List (List Nat), D.keys (l.map rowD) = true
  | [] => rfl
  | a :: l => by
    show (D.keys (natsD a) && D.keys (l.map rowD)) = true
    rw [natsD_keys, rowsD_keys l]; rfl
theorem rowsD_dep : ∀ l : List (List Nat), NestedKey.depthAll (D.nks (l.map rowD)) ≤ 1
  | [] => by decide
  | a :: l => by
    show max (NestedKey.depthAll (D.nks (natsD a)) + 1) (NestedKey.depthAll (D.nks (l.map rowD))) ≤ 1
    rw [natsD_dep]
    have := rowsD_dep l
    omega
/-- what may be a tuple key -/
structure Enc {γ : Type} (enc : γ → D) : Prop where
  inj : ∀ a b, enc a = enc b → a = b
  tup : ∀ a, (enc a).isTup = true
  key : ∀ a, (enc a).key = true
  dep : ∀ a, (enc a).nk.depth ≤ 8
theorem enc_row : Enc rowD := ⟨fun _ _ => rowD_inj, fun _ => rfl, natsD_keys, fun a => by
  show NestedKey.depthAll (D.nks (natsD a)) + 1 ≤ 8
  rw [natsD_dep]; decide⟩
theorem enc_pic : Enc picD := ⟨fun _ _ => picD_inj, fun _ => rfl, rowsD_keys, fun a => by
  show NestedKey.depthAll (D.nks (a.map rowD)) + 1 ≤ 8
  have := rowsD_dep a
  omega⟩
theorem enc_pair : Enc prD := ⟨fun _ _ => prD_inj, fun _ => rfl, fun _ => rfl, fun _ => by show (0 : Nat) + 1 ≤ 8; decide⟩
section
variable {γ : Type} [DecidableEq γ] {enc : γ → D} {val : γ → D} {v : D} {L : List γ} {b : γ} {ρ : Env} {S : Store} {k : Nat}
abbrev kvD (enc : γ → D) (val : γ → D) (L : List γ) : List (D × D) := L.map fun a => (enc a, val a)
theorem any_enc (E : Enc enc) (L : List γ) : ((kvD enc val L).any fun p => decide (p.1 = enc b)) = decide (b ∈ L) := by
  induction L with
  | nil => rfl
  | cons a r ih =>
    show (decide (enc a = enc b) || ((kvD enc val r).any fun p => decide (p.1 = enc b))) = _
    rw [ih]
    by_cases h : b = a
    · subst h; simp
    · have : ¬ enc a = enc b := fun z => h (E.inj _ _ z).symm
      simp [h, this]
theorem kOk_enc (E : Enc enc) (L : List γ) : kOk (kvD enc val L) (enc b) = true := by
  unfold kOk
  have h : ((kvD enc val L).all fun p => p.1.isTup) = true := by
    rw [List.all_eq_true]
    intro p hp
    obtain ⟨a, _, rfl⟩ := List.mem_map.mp hp
    exact E.tup a
  rw [E.tup b, E.key b, h, decide_eq_true (E.dep b)]
  simp
theorem get_enc (E : Enc enc) (L : List γ) : (kGet (kvD enc val L) (enc b)).isSome = decide (b ∈ L) := by
  rw [kGet_none_iff, any_enc E]
theorem in_sl {neg : Bool} {kvs : List (D × D)} {d : D} (h : ρ[k]? = some (some (.od kvs))) (ok : kOk kvs d = true) : gIn neg (.v d) (.sl k) ρ S = some (neg.xor (kGet kvs d).isSome) := by
  simp only [gIn, asK, h, ok, if_true]
theorem in_enc {neg : Bool} (E : Enc enc) (h : ρ[k]? = some (some (.od (kvD enc val L)))) : gIn neg (.v (enc b)) (.sl k) ρ S = some (neg.xor (decide (b ∈ L))) := by
  rw [in_sl h (kOk_enc E L), get_enc E]
theorem get_enc_t (E : Enc enc) {L : List γ} (h : b ∈ L) : (kGet (kvD enc val L) (enc b)).isSome = true := (get_enc E L).trans (decide_eq_true h)
theorem get_enc_f (E : Enc enc) {L : List γ} (h : b ∉ L) : (kGet (kvD enc val L) (enc b)).isSome = false := (get_enc E L).trans (decide_eq_false h)
theorem in_enc_t {neg : Bool} (E : Enc enc) (m : b ∈ L) (h : ρ[k]? = some (some (.od (kvD enc val L)))) : gIn neg (.v (enc b)) (.sl k) ρ S = some (!neg) := by
  rw [in_enc E h, decide_eq_true m]; simp
theorem in_enc_f {neg : Bool} (E : Enc enc) (m : b ∉ L) (h : ρ[k]? = some (some (.od (kvD enc val L)))) : gIn neg (.v (enc b)) (.sl k) ρ S = some neg := by
  rw [in_enc E h, decide_eq_false m]; simp
theorem put_enc (E : Enc enc) (L : List γ) : kPut (kvD enc (fun _ => v) L) (enc b) v = kvD enc (fun _ => v) (if b ∈ L then L else L ++ [b]) := by
  unfold kPut
  rw [any_enc E]
  by_cases h : b ∈ L
  · rw [if_pos (decide_eq_true h), if_pos h]
    unfold kvD
    rw [List.map_map]
    refine List.map_congr_left fun a _ => ?_
    simp only [Function.comp]
    split <;> rfl
  · rw [if_neg (by simp [h]), if_neg h]
    unfold kvD
    rw [List.map_append]
    rfl
theorem del_enc (E : Enc enc) (L : List γ) : kDel (kvD enc val L) (enc b) = kvD enc val (L.filter fun a => !decide (a = b)) := by
  unfold kDel kvD
  rw [List.filter_map]
  refine congrArg _ (List.filter_congr fun a _ => ?_)
  simp only [Function.comp]
  by_cases h : a = b
  · subst h; simp
  · have : ¬ enc a = enc b := fun z => h (E.inj _ _ z)
    simp [h, this]
end
/-! ### sorted pairs -/
def pairLe (a b : Nat × Nat) : Bool := Nat.blt a.1 b.1 || (Nat.beq a.1 b.1 && Nat.ble a.2 b.2)
def insN {γ : Type} (le : γ → γ → Bool) (a : γ) : List γ → List γ
  | [] => [a]
  | b :: r => if le a b = true then a :: b :: r else b :: insN le a r
def sortN {γ : Type} (le : γ → γ → Bool) : List γ → List γ
  | [] => []
  | a :: l => insN le a (sortN le l)
theorem insD_map {γ : Type} {enc : γ → D} {le : γ → γ → Bool} (h : ∀ a b, leD (enc a) (enc b) = le a b) (a : γ) : ∀ l : List γ, insD (enc a) (l.map enc) = (insN le a l).map enc
  | [] => rfl
  | b :: r => by
    rw [List.map_cons, insD, insN, h]
    by_cases c : le a b = true
    · rw [if_pos c, if_pos c]; rfl
    · rw [if_neg c, if_neg c, List.map_cons, insD_map h a r]
theorem sortD_map {γ : Type} {enc : γ → D} {le : γ → γ → Bool} (h : ∀ a b, leD (enc a) (enc b) = le a b) : ∀ l : List γ, sortD (l.map enc) = (sortN le l).map enc
  | [] => rfl
  | a :: l => by rw [List.map_cons, sortD, sortD_map h l, insD_map h, sortN]
theorem leD_pair (a b : Nat × Nat) : leD (prD a) (prD b) = pairLe a b := by
  show (!PySem.W.dataLt (.tuple [.int (b.1 : Int), .int (b.2 : Int)]) (.tuple [.int (a.1 : Int), .int (a.2 : Int)])) = _
  rw [PySem.W.dataLt_ii]
  unfold pairLe
  by_cases h1 : a.1 < b.1
  · have q : ¬ ((b.1 : Int) < a.1 ∨ (b.1 : Int) = a.1 ∧ (b.2 : Int) < a.2) := by omega
    have e : Nat.blt a.1 b.1 = true := Nat.ble_eq_true_of_le h1
    rw [decide_eq_false q, e]; rfl
  · have e : Nat.blt a.1 b.1 = false := by
      cases hb : Nat.blt a.1 b.1 with
      | false => rfl
      | true => exact absurd (Nat.le_of_ble_eq_true hb) h1
    rw [e, Bool.false_or]
    by_cases h2 : a.1 = b.1
    · have e2 : Nat.beq a.1 b.1 = true := by rw [h2]; exact Nat.beq_refl _
      rw [e2, Bool.true_and]
      by_cases h3 : a.2 ≤ b.2
      · have q : ¬ ((b.1 : Int) < a.1 ∨ (b.1 : Int) = a.1 ∧ (b.2 : Int) < a.2) := by omega
        rw [decide_eq_false q, Nat.ble_eq_true_of_le h3]; rfl
      · have q : ((b.1 : Int) < a.1 ∨ (b.1 : Int) = a.1 ∧ (b.2 : Int) < a.2) := by omega
        have e3 : Nat.ble a.2 b.2 = false := by
          cases hb : Nat.ble a.2 b.2 with
          | false => rfl
          | true => exact absurd (Nat.le_of_ble_eq_true hb) h3
        rw [decide_eq_true q, e3]; rfl
    · have q : ((b.1 : Int) < a.1 ∨ (b.1 : Int) = a.1 ∧ (b.2 : Int) < a.2) := by omega
      have e2 : Nat.beq a.1 b.1 = false := by
        cases hb : Nat.beq a.1 b.1 with
        | false => rfl
        | true => exact absurd (Nat.eq_of_beq_eq_true hb) h2
      rw [decide_eq_true q, e2]; rfl
theorem pys_len (ds : List D) (n : Nat) (h : ∀ d ∈ ds, d.py.depth ≤ n) : PyData.depthAll (D.pys ds) ≤ n := by
  induction ds with
  | nil => exact Nat.zero_le _
  | cons a r ih =>
    show max a.py.depth (PyData.depthAll (D.pys r)) ≤ n
    have h1 := h a (by simp)
    have h2 := ih fun d hd => h d (by simp [hd])
    omega
theorem sortOk_pairs (L : List (Nat × Nat)) : sortOk (L.map prD) = true := by
  unfold sortOk
  have h1 : D.pures (L.map prD) = true := by
    rw [D.pures_iff]
    intro d hd
    obtain ⟨a, _, rfl⟩ := List.mem_map.mp hd
    rfl
  have h2 : D.alikes (L.map prD) = true := by
    unfold D.alikes
    rw [List.all_eq_true]
    intro d hd
    rw [List.all_eq_true]
    intro e he
    obtain ⟨a, _, rfl⟩ := List.mem_map.mp hd
    obtain ⟨b, _, rfl⟩ := List.mem_map.mp he
    rfl
  have h3 : (L.map prD).all D.tup1 = true := by
    rw [List.all_eq_true]
    intro d hd
    obtain ⟨a, _, rfl⟩ := List.mem_map.mp hd
    rfl
  have h4 : PyData.depthAll (D.pys (L.map prD)) ≤ 60 := pys_len _ 60 fun d hd => by
    obtain ⟨a, _, rfl⟩ := List.mem_map.mp hd
    show (1 : Nat) ≤ 60
    decide
  rw [h1, h2, h3, decide_eq_true h4]; rfl
end DL

set_option Elab.async false
set_option autoImplicit false
set_option linter.all false
set_option maxRecDepth 100000
set_option maxHeartbeats 2000000
namespace DL
open PySem PySem.Spec PyProof.Rows L2
/-! ## lists of the store that are written -/
theorem ixN_nat {n j : Nat} (h : j < n) : ixN n (j : Int) = some j := by
  unfold ixN
  rw [if_pos (by omega), if_pos (by omega)]
  exact congrArg some (Int.toNat_natCast j)
theorem store_ref {me mo mi : ME} {ρ : Env} {S : Store} {n j : Nat} {d : D} {ds : List D} (he : me ρ S = .ok (.v d) S) (ho : mo ρ S = .ok (.v (.ref n)) S) (hi : mi ρ S = .ok (.v (.int j)) S) (hS : S[n]? = some (.lst ds)) (hj : j < ds.length) :
    mStore me mo mi ρ S = .next ρ (S.set n (.lst (ds.set j d))) := by
  simp only [mStore, flE, he, pub, ho, hi, plOf, hS, setOb, ixN_nat hj, plPut]
theorem store_dic {me mo mi : ME} {ρ : Env} {S : Store} {k : Nat} {d e : D} {kvs : List (D × D)} (he : me ρ S = .ok (.v d) S) (ho : mo ρ S = .ok (.sl k) S) (hi : mi ρ S = .ok (.v e) S) (hk : ρ[k]? = some (some (.od kvs))) (ok : kOk kvs e = true) (hl : kvs.length < 16777216) :
    mStore me mo mi ρ S = .next (ρ.set k (some (.od (kPut kvs e d)))) S := by
  have h : (kOk kvs e && decide (kvs.length < sizeLine)) = true := by rw [ok, sizeL, decide_eq_true hl]; rfl
  simp only [mStore, flE, he, pub, ho, hi, plOf, hk, setOb, h, if_true, plPut]
/-- a grid of numbers, each row a list of the store behind T -/
def gridS (T : Store) (g : List (List Nat)) : Store := T ++ g.map fun r => .lst (natsD r)
def refsD (t n : Nat) : List D := (List.range n).map fun i => .ref (t + i)
def setG (g : List (List Nat)) (i j v : Nat) : List (List Nat) := g.set i ((g.getD i []).set j v)
def Sq (n : Nat) (g : List (List Nat)) : Prop := g.length = n ∧ ∀ r ∈ g, r.length = n
theorem Sq.set {n : Nat} {g : List (List Nat)} (h : Sq n g) (i j v : Nat) : Sq n (setG g i j v) := by
  refine ⟨by unfold setG; rw [List.length_set]; exact h.1, fun r hr => ?_⟩
  unfold setG at hr
  by_cases hi : i < g.length
  · rcases List.mem_or_eq_of_mem_set hr with hr | rfl
    · exact h.2 r hr
    · rw [List.length_set, List.getD_eq_getElem?_getD, List.getElem?_eq_getElem hi]
      exact h.2 _ (List.getElem_mem hi)
  · rw [List.set_eq_of_length_le (by omega)] at hr
    exact h.2 r hr
theorem refs_at {t n i : Nat} (hi : i < n) : atI (refsD t n) (i : Int) = some (.ref (t + i)) := by
  refine at_nat ?_
  unfold refsD
  rw [List.getElem?_map, List.getElem?_range hi]
  rfl
theorem grid_at {T : Store} {g : List (List Nat)} {i : Nat} (hi : i < g.length) : (gridS T g)[T.length + i]? = some (.lst (natsD (g.getD i []))) := by
  unfold gridS
  rw [List.getElem?_append_right (by omega), Nat.add_sub_cancel_left, List.getElem?_map, List.getElem?_eq_getElem hi, List.getD_eq_getElem?_getD, List.getElem?_eq_getElem hi]
  rfl
theorem natsD_set (l : List Nat) (j v : Nat) : (natsD l).set j (.int (v : Int)) = natsD (l.set j v) := by
  unfold natsD
  rw [List.map_set]
theorem grid_set {T : Store} {g : List (List Nat)} {i j v : Nat} : (gridS T g).set (T.length + i) (.lst ((natsD (g.getD i [])).set j (.int (v : Int)))) = gridS T (setG g i j v) := by
  unfold gridS setG
  rw [List.set_append_right _ _ (by omega), Nat.add_sub_cancel_left, List.map_set, natsD_set]
/-- found[i][j] = v -/
theorem grid_store {me mo mi : ME} {ρ : Env} {T : Store} {g : List (List Nat)} {n i j v : Nat} (hq : Sq n g) (he : me ρ (gridS T g) = .ok (.v (.int v)) (gridS T g)) (ho : mo ρ (gridS T g) = .ok (.v (.ref (T.length + i))) (gridS T g)) (hi : mi ρ (gridS T g) = .ok (.v (.int j)) (gridS T g)) (li : i < n) (lj : j < n) :
    mStore me mo mi ρ (gridS T g) = .next ρ (gridS T (setG g i j v)) := by
  have hl : i < g.length := by rw [hq.1]; exact li
  have hr : (g.getD i []).length = n := by
    rw [List.getD_eq_getElem?_getD, List.getElem?_eq_getElem hl]
    exact hq.2 _ (List.getElem_mem hl)
  rw [store_ref he ho hi (grid_at hl) (by unfold natsD; rw [List.length_map, hr]; exact lj), grid_set]
def zerosG (n : Nat) : List (List Nat) := List.replicate n (List.replicate n 0)
theorem zerosG_sq (n : Nat) : Sq n (zerosG n) := ⟨List.length_replicate, fun r hr => by rw [List.eq_of_mem_replicate hr, List.length_replicate]⟩
theorem natsD_zeros (n : Nat) : (List.replicate n [D.int 0]).flatten = natsD (List.replicate n 0) := by
  induction n with
  | zero => rfl
  | succ n ih =>
    rw [List.replicate_succ, List.flatten_cons, ih, List.replicate_succ]
    rfl
theorem Shut.app {S : Store} (h : Shut S) : ∀ (E : List Ob), (∀ o ∈ E, o.under 0 = true) → Shut (S ++ E) := by
  intro E
  induction E generalizing S with
  | nil => intro _; rw [List.append_nil]; exact h
  | cons o r ih =>
    intro ho
    have h1 : Shut (S ++ [o]) := h.snoc (by
      have h0 := ho o (by simp)
      have := sBelow_mono (Nat.zero_le (S.length + 1)) (S := [o]) (show (o.under 0 && true) = true by rw [h0]; rfl)
      exact (Bool.and_eq_true_iff.mp (show (o.under (S.length + 1) && true) = true from this)).1)
    have h2 := ih h1 fun o' ho' => ho o' (by simp [ho'])
    rw [List.append_assoc] at h2
    exact h2
theorem natsD_under (l : List Nat) (n : Nat) : D.unders n (natsD l) = true := D.frees_under n _ (by
  induction l with
  | nil => rfl
  | cons a r ih => exact ih)
theorem gridS_shut {T : Store} (h : Shut T) (g : List (List Nat)) : Shut (gridS T g) := h.app _ fun o ho => by
  obtain ⟨r, _, rfl⟩ := List.mem_map.mp ho
  exact natsD_under r 0
/-- [[0] * n for ..]: the rows of a new grid -/
theorem mLcF_zeros {γ : Type} {one : MO1} (enc : γ → D) {ρ : Env} {S : Store} {n : Nat} (l : List γ) (hl : l.length = n) (h : ∀ a ∈ l, ∀ S', one (enc a) ρ S' = .ok (some (.ref S'.length)) (S' ++ [.lst (natsD (List.replicate n 0))])) :
    mLcF one (l.map enc) ρ S = .ok (refsD S.length n) (gridS S (zerosG n)) := by
  rw [mLcF_new enc (fun _ => .lst (natsD (List.replicate n 0))) l S h, hl]
  have e : l.map (fun _ => Ob.lst (natsD (List.replicate n 0))) = (zerosG n).map fun r => .lst (natsD r) := by
    unfold zerosG
    rw [List.map_replicate, ← hl, List.map_const']
  rw [e]
  rfl
/-- the rows as tuples -/
theorem mLcF_rows {one : MO1} {ρ : Env} {T : Store} {g : List (List Nat)} (h : ∀ i, i < g.length → one (.ref (T.length + i)) ρ (gridS T g) = .ok (some (rowD (g.getD i []))) (gridS T g)) : mLcF one (refsD T.length g.length) ρ (gridS T g) = .ok (g.map rowD) (gridS T g) := by
  unfold refsD
  rw [mLcF_map (fun i => D.ref (T.length + i)) (fun i => rowD (g.getD i [])) (List.range g.length) fun i hi => h i (List.mem_range.mp hi)]
  refine congrArg (fun z => R.ok z _) (List.ext_getElem (by simp) fun i h1 h2 => ?_)
  simp only [List.length_map, List.length_range] at h1
  simp [List.getD_eq_getElem?_getD, List.getElem?_eq_getElem h1]
theorem enumD_map {γ : Type} (f : γ → D) : ∀ (l : List γ) (k : Nat), enumD k (l.map f) = (l.zipIdx k).map fun p => D.tup [.int (p.2 : Nat), f p.1]
  | [], _ => rfl
  | a :: l, k => by
    show D.tup [.int (k : Nat), f a] :: enumD (k + 1) (l.map f) = _
    rw [enumD_map f l (k + 1), List.zipIdx_cons, List.map_cons]
theorem zipIx_at {γ : Type} {l : List γ} {p : γ × Nat} (h : p ∈ l.zipIdx) : l[p.2]? = some p.1 := by
  obtain ⟨k, hk⟩ := List.getElem?_of_mem h
  rw [List.getElem?_zipIdx] at hk
  cases e : l[k]? with
  | none => rw [e] at hk; cases hk
  | some v =>
    rw [e] at hk
    cases hk
    simpa using e
theorem enum_ok {ma : MA} {ρ : Env} {S : Store} {ds : List D} {e : EV} (h : ma ρ S = .ok [e] S) (he : srcE ρ S e = some (.fix ds)) : mEnum ma ρ S = .ok (.fix (enumD 0 ds)) S := by
  simp only [mEnum, h, R.bind, kEnum, he, IT.enum]
theorem zip_ok {ma : MA} {ρ : Env} {S : Store} {xs ys : List D} {e f : EV} (h : ma ρ S = .ok [e, f] S) (he : srcE ρ S e = some (.fix xs)) (hf : srcE ρ S f = some (.fix ys)) : mZip ma ρ S = .ok (.fix (zipD xs ys)) S := by
  simp only [mZip, h, R.bind, kZip, he, hf, IT.zip]
theorem zipD_map {γ δ : Type} (f : γ → D) (g : δ → D) : ∀ (l : List γ) (m : List δ), zipD (l.map f) (m.map g) = (l.zip m).map fun p => D.tup [f p.1, g p.2]
  | [], _ => rfl
  | _ :: _, [] => rfl
  | a :: l, b :: m => by
    show D.tup [f a, g b] :: zipD (l.map f) (m.map g) = _
    rw [zipD_map f g l m, List.zip_cons_cons, List.map_cons]
/-- what a slot holds: a list of its own, or one that stands still -/
def HasL (a : Option SV) (ds : List D) : Prop := a = some (.ol ds) ∨ a = some (.v (.cl ds))
theorem frz_has {i : Nat} {m : MS} {ρ : Env} {S : Store} {a : Option SV} {ds : List D} (ha : HasL a ds) (h : ρ[i]? = some a) : mFrzS i m ρ S = m (ρ.set i (some (.v (.cl ds)))) S := by
  rcases ha with rfl | rfl
  · exact frz_ol h
  · rw [frz_v h]
    have : ρ.set i (some (.v (.cl ds))) = ρ := by
      refine List.ext_getElem? fun j => ?_
      by_cases e : i = j
      · subst e
        rw [List.getElem?_set_self (List.getElem?_eq_some_iff.mp h).1, h]
      · rw [List.getElem?_set_ne e]
    rw [this]
theorem picD_free (g : List (List Nat)) : (picD g).free = true := by
  show D.frees (g.map rowD) = true
  induction g with
  | nil => rfl
  | cons a r ih =>
    show (D.frees (natsD a) && D.frees (r.map rowD)) = true
    rw [ih]
    have : D.frees (natsD a) = true := by
      induction a with
      | nil => rfl
      | cons b s ih => exact ih
    rw [this]; rfl
theorem mul_fl {xs : List D} {n : Nat} {ρ : Env} {S : Store} (h : xs.length * n ≤ 1000000) (hn : n ≤ 1000000) : gMul (.fl xs) (.v (.int (n : Int))) ρ S = .ok (.fl (List.replicate n xs).flatten) S := by
  have hc : -(2 ^ 62) ≤ (n : Int) ∧ (n : Int) < 2 ^ 62 ∧ xs.length * (n : Int).toNat ≤ sizeLine := by
    rw [Int.toNat_natCast, sizeL]
    omega
  unfold gMul
  simp only [asM]
  refine (if_pos hc).trans ?_
  rw [Int.toNat_natCast]
/-- the store behind -/
theorem asL_ref {ρ : Env} {S : Store} {n : Nat} {ds : List D} (h : S[n]? = some (.lst ds)) : asL ρ S (.v (.ref n)) = some ds := by simp only [asL, h]
end DL

set_option Elab.async false
set_option autoImplicit false
set_option linter.all false
set_option maxRecDepth 100000
set_option maxHeartbeats 2000000
namespace K94
open PySem PySem.Spec PyProof.Rows L2 DL
/-! ## numbers looked at -/
def isI (i lo hi : Int) : Bool := !decide (i < lo) && !decide (hi < i)
theorem r_is_int {i lo hi : Int} {S : Store} (hS : Shut S) : M_is_int [.int i, .int lo, .int hi] S = .ok (.v (.bl (isI i lo hi))) S := by
  refine fc_v hS rfl ?_
  show m_is_int [some (.v (.int i)), some (.v (.int lo)), some (.v (.int hi))] S = _
  unfold isI
  cases h : decide (i < lo) <;> simp only [m_is_int, mSeq, mSet, Bool.and_true, Bool.true_and, Bool.and_false, Bool.false_and, Bool.or_true, Bool.true_or, Bool.or_false, Bool.false_or,  mRet, mRetN, mIf, mExpr, mNext, mBrk, mCont, eV, eC, eG, m2, gI, R.bind, svE, outE, mB, mCmp, mTV, mNot, mAnd, mOr, mIfE, mAndV, mOrV, mNotV, mNeg, mChain, mConsA, mNilA, mStarA, mTup, mLst, pub, pub_vals, List.append_nil, mCall, g1, g2, mFrz, frzE, mFrzS, flE, mStore, mPar, mUnp, svs, setMany, mAug, mMeth, isOb, obTy, setOb, plOf, plPut, mIsT, tyN, tyD, Ty.isa, fLen, fTup, fLst, fInt, fAbs, fII, fSum, fAll, fAny, asK, asSeq, asL, asT, asI, asM, asD, gEq_int, gEq_str, gOrd, ix_t, ix_c, ix_f, gAdd, fAdd, fSub, mFn, mRaise, fOne, kOne, tgN, tgT, tgCons, tgNil, mSrc, srcE, mEnum, kEnum, IT.enum, mZip, kZip, mLc, lcRun, lcOne, wipeE, mYes, fAppend, fExtend, D.isI, List.getElem?_cons_zero, List.getElem?_cons_succ, List.set_cons_zero, List.set_cons_succ, List.getElem?_nil, List.length_cons, List.length_nil, Option.some.injEq, Bool.false_eq_true, if_true, if_false, ite_true, ite_false, reduceIte, Bool.xor_false, Bool.xor_true, Bool.not_true, Bool.not_false, Bool.false_xor, Bool.true_xor, decide_true, decide_false, Nat.zero_add, reduceCtorEq, Nat.reduceAdd, Nat.reduceSub, Nat.reduceMul, Nat.reduceLT, Nat.reduceLeDiff, Nat.reduceEqDiff, Nat.reduceBEq, Int.reduceAdd, Int.reduceSub, Int.reduceMul, Int.reduceNeg, Int.reduceEq, Int.reduceNe, Int.reduceLT, Int.reduceLE, Int.reduceToNat, List.set_cons_zero, gLe, fiLe, h]
theorem r_is_int_no {d : D} {lo hi : Int} {S : Store} (hS : Shut S) (hd : d = .non ∨ (∃ b, d = .bl b) ∨ ∃ x, d = .str x) : M_is_int [d, .int lo, .int hi] S = .ok (.v (.bl false)) S := by
  refine fc_v hS rfl ?_
  show m_is_int [some (.v d), some (.v (.int lo)), some (.v (.int hi))] S = _
  rcases hd with rfl | ⟨b, rfl⟩ | ⟨x, rfl⟩ <;> rfl
theorem r_look {i lo hi : Int} {S : Store} (hS : Shut S) (h : lo ≤ i ∧ i ≤ hi) : M_look_at_number [.int i, .int lo, .int hi] S = .ok (.v .non) S := by
  have e : isI i lo hi = true := by unfold isI; simp; omega
  refine fc_n (ρ := [some (.v (.int i)), some (.v (.int lo)), some (.v (.int hi))]) hS ?_
  show m_look_at_number [some (.v (.int i)), some (.v (.int lo)), some (.v (.int hi))] S = _
  simp only [m_look_at_number, mSeq, mSet, Bool.and_true, Bool.true_and, Bool.and_false, Bool.false_and, Bool.or_true, Bool.true_or, Bool.or_false, Bool.false_or,  mRet, mRetN, mIf, mExpr, mNext, mBrk, mCont, eV, eC, eG, m2, gI, R.bind, svE, outE, mB, mCmp, mTV, mNot, mAnd, mOr, mIfE, mAndV, mOrV, mNotV, mNeg, mChain, mConsA, mNilA, mStarA, mTup, mLst, pub, pub_vals, List.append_nil, mCall, g1, g2, mFrz, frzE, mFrzS, flE, mStore, mPar, mUnp, svs, setMany, mAug, mMeth, isOb, obTy, setOb, plOf, plPut, mIsT, tyN, tyD, Ty.isa, fLen, fTup, fLst, fInt, fAbs, fII, fSum, fAll, fAny, asK, asSeq, asL, asT, asI, asM, asD, gEq_int, gEq_str, gOrd, ix_t, ix_c, ix_f, gAdd, fAdd, fSub, mFn, mRaise, fOne, kOne, tgN, tgT, tgCons, tgNil, mSrc, srcE, mEnum, kEnum, IT.enum, mZip, kZip, mLc, lcRun, lcOne, wipeE, mYes, fAppend, fExtend, D.isI, List.getElem?_cons_zero, List.getElem?_cons_succ, List.set_cons_zero, List.set_cons_succ, List.getElem?_nil, List.length_cons, List.length_nil, Option.some.injEq, Bool.false_eq_true, if_true, if_false, ite_true, ite_false, reduceIte, Bool.xor_false, Bool.xor_true, Bool.not_true, Bool.not_false, Bool.false_xor, Bool.true_xor, decide_true, decide_false, Nat.zero_add, reduceCtorEq, Nat.reduceAdd, Nat.reduceSub, Nat.reduceMul, Nat.reduceLT, Nat.reduceLeDiff, Nat.reduceEqDiff, Nat.reduceBEq, Int.reduceAdd, Int.reduceSub, Int.reduceMul, Int.reduceNeg, Int.reduceEq, Int.reduceNe, Int.reduceLT, Int.reduceLE, Int.reduceToNat, List.set_cons_zero, r_is_int hS, e]
theorem r_look_no {d : D} {lo hi : Int} {S : Store} (hS : Shut S) (h : M_is_int [d, .int lo, .int hi] S = .ok (.v (.bl false)) S) (hf : d.free = true) : M_look_at_number [d, .int lo, .int hi] S = .exc 1 d S := by
  refine fc_x (ρ := [some (.v d), some (.v (.int lo)), some (.v (.int hi))]) hS hf ?_
  show m_look_at_number [some (.v d), some (.v (.int lo)), some (.v (.int hi))] S = _
  simp only [m_look_at_number, mSeq, mSet, Bool.and_true, Bool.true_and, Bool.and_false, Bool.false_and, Bool.or_true, Bool.true_or, Bool.or_false, Bool.false_or,  mRet, mRetN, mIf, mExpr, mNext, mBrk, mCont, eV, eC, eG, m2, gI, R.bind, svE, outE, mB, mCmp, mTV, mNot, mAnd, mOr, mIfE, mAndV, mOrV, mNotV, mNeg, mChain, mConsA, mNilA, mStarA, mTup, mLst, pub, pub_vals, List.append_nil, mCall, g1, g2, mFrz, frzE, mFrzS, flE, mStore, mPar, mUnp, svs, setMany, mAug, mMeth, isOb, obTy, setOb, plOf, plPut, mIsT, tyN, tyD, Ty.isa, fLen, fTup, fLst, fInt, fAbs, fII, fSum, fAll, fAny, asK, asSeq, asL, asT, asI, asM, asD, gEq_int, gEq_str, gOrd, ix_t, ix_c, ix_f, gAdd, fAdd, fSub, mFn, mRaise, fOne, kOne, tgN, tgT, tgCons, tgNil, mSrc, srcE, mEnum, kEnum, IT.enum, mZip, kZip, mLc, lcRun, lcOne, wipeE, mYes, fAppend, fExtend, D.isI, List.getElem?_cons_zero, List.getElem?_cons_succ, List.set_cons_zero, List.set_cons_succ, List.getElem?_nil, List.length_cons, List.length_nil, Option.some.injEq, Bool.false_eq_true, if_true, if_false, ite_true, ite_false, reduceIte, Bool.xor_false, Bool.xor_true, Bool.not_true, Bool.not_false, Bool.false_xor, Bool.true_xor, decide_true, decide_false, Nat.zero_add, reduceCtorEq, Nat.reduceAdd, Nat.reduceSub, Nat.reduceMul, Nat.reduceLT, Nat.reduceLeDiff, Nat.reduceEqDiff, Nat.reduceBEq, Int.reduceAdd, Int.reduceSub, Int.reduceMul, Int.reduceNeg, Int.reduceEq, Int.reduceNe, Int.reduceLT, Int.reduceLE, Int.reduceToNat, List.set_cons_zero, h]
/-! ## the greatest common divisor -/
theorem common_loop : ∀ (n : Nat) (a b : Nat) (S : Store), b < n → mWhile (mCmp (gEq true) (eV 1) (eC (.int 0))) m_common_L1 n [some (.v (.int a)), some (.v (.int b))] S = .next [some (.v (.int (Nat.gcd a b : Nat))), some (.v (.int 0))] S
  | 0, _, _, _, h => absurd h (Nat.not_lt_zero _)
  | n + 1, a, 0, S, h => by
    rw [Nat.gcd_zero_right]
    simp only [mWhile, mSeq, mSet, Bool.and_true, Bool.true_and, Bool.and_false, Bool.false_and, Bool.or_true, Bool.true_or, Bool.or_false, Bool.false_or,  mRet, mRetN, mIf, mExpr, mNext, mBrk, mCont, eV, eC, eG, m2, gI, R.bind, svE, outE, mB, mCmp, mTV, mNot, mAnd, mOr, mIfE, mAndV, mOrV, mNotV, mNeg, mChain, mConsA, mNilA, mStarA, mTup, mLst, pub, pub_vals, List.append_nil, mCall, g1, g2, mFrz, frzE, mFrzS, flE, mStore, mPar, mUnp, svs, setMany, mAug, mMeth, isOb, obTy, setOb, plOf, plPut, mIsT, tyN, tyD, Ty.isa, fLen, fTup, fLst, fInt, fAbs, fII, fSum, fAll, fAny, asK, asSeq, asL, asT, asI, asM, asD, gEq_int, gEq_str, gOrd, ix_t, ix_c, ix_f, gAdd, fAdd, fSub, mFn, mRaise, fOne, kOne, tgN, tgT, tgCons, tgNil, mSrc, srcE, mEnum, kEnum, IT.enum, mZip, kZip, mLc, lcRun, lcOne, wipeE, mYes, fAppend, fExtend, D.isI, List.getElem?_cons_zero, List.getElem?_cons_succ, List.set_cons_zero, List.set_cons_succ, List.getElem?_nil, List.length_cons, List.length_nil, Option.some.injEq, Bool.false_eq_true, if_true, if_false, ite_true, ite_false, reduceIte, Bool.xor_false, Bool.xor_true, Bool.not_true, Bool.not_false, Bool.false_xor, Bool.true_xor, decide_true, decide_false, Nat.zero_add, reduceCtorEq, Nat.reduceAdd, Nat.reduceSub, Nat.reduceMul, Nat.reduceLT, Nat.reduceLeDiff, Nat.reduceEqDiff, Nat.reduceBEq, Int.reduceAdd, Int.reduceSub, Int.reduceMul, Int.reduceNeg, Int.reduceEq, Int.reduceNe, Int.reduceLT, Int.reduceLE, Int.reduceToNat, List.set_cons_zero, Int.natCast_zero, Int.ofNat_zero]
  | n + 1, a, b + 1, S, h => by
    have e : decide (((b + 1 : Nat) : Int) = 0) = false := decide_eq_false (by omega)
    have e2 : fMod (a : Int) ((b + 1 : Nat) : Int) = some (.int ((a % (b + 1) : Nat) : Int)) := by
      rw [fMod_s (by omega)]; rfl
    have ih := common_loop n (b + 1) (a % (b + 1)) S (by have := Nat.mod_lt a (show b + 1 > 0 by omega); omega)
    have eg : Nat.gcd a (b + 1) = Nat.gcd (b + 1) (a % (b + 1)) := by rw [Nat.gcd_comm a, Nat.gcd_rec, Nat.gcd_comm]
    rw [eg, ← ih, mWhile]
    simp only [m_common_L1, mSeq, mSet, Bool.and_true, Bool.true_and, Bool.and_false, Bool.false_and, Bool.or_true, Bool.true_or, Bool.or_false, Bool.false_or,  mRet, mRetN, mIf, mExpr, mNext, mBrk, mCont, eV, eC, eG, m2, gI, R.bind, svE, outE, mB, mCmp, mTV, mNot, mAnd, mOr, mIfE, mAndV, mOrV, mNotV, mNeg, mChain, mConsA, mNilA, mStarA, mTup, mLst, pub, pub_vals, List.append_nil, mCall, g1, g2, mFrz, frzE, mFrzS, flE, mStore, mPar, mUnp, svs, setMany, mAug, mMeth, isOb, obTy, setOb, plOf, plPut, mIsT, tyN, tyD, Ty.isa, fLen, fTup, fLst, fInt, fAbs, fII, fSum, fAll, fAny, asK, asSeq, asL, asT, asI, asM, asD, gEq_int, gEq_str, gOrd, ix_t, ix_c, ix_f, gAdd, fAdd, fSub, mFn, mRaise, fOne, kOne, tgN, tgT, tgCons, tgNil, mSrc, srcE, mEnum, kEnum, IT.enum, mZip, kZip, mLc, lcRun, lcOne, wipeE, mYes, fAppend, fExtend, D.isI, List.getElem?_cons_zero, List.getElem?_cons_succ, List.set_cons_zero, List.set_cons_succ, List.getElem?_nil, List.length_cons, List.length_nil, Option.some.injEq, Bool.false_eq_true, if_true, if_false, ite_true, ite_false, reduceIte, Bool.xor_false, Bool.xor_true, Bool.not_true, Bool.not_false, Bool.false_xor, Bool.true_xor, decide_true, decide_false, Nat.zero_add, reduceCtorEq, Nat.reduceAdd, Nat.reduceSub, Nat.reduceMul, Nat.reduceLT, Nat.reduceLeDiff, Nat.reduceEqDiff, Nat.reduceBEq, Int.reduceAdd, Int.reduceSub, Int.reduceMul, Int.reduceNeg, Int.reduceEq, Int.reduceNe, Int.reduceLT, Int.reduceLE, Int.reduceToNat, List.set_cons_zero, e, e2]
theorem r_common {a b : Nat} {S : Store} (hS : Shut S) (h : b < 100000) : M_common [.int a, .int b] S = .ok (.v (.int (Nat.gcd a b : Nat))) S := by
  refine fc_v hS rfl ?_
  show m_common [some (.v (.int a)), some (.v (.int b))] S = _
  refine (seq_n (common_loop 100000 a b S h)).trans ?_
  rfl
/-! ## all lots of sizes -/
def encT (l : List Nat) : D := .tup (natsD l)
def sizeLots : Nat → Nat → Nat → List (List Nat)
  | 0, _, _ => []
  | f + 1, many, most => match many with
    | 0 => [[]]
    | m + 1 => (List.range (min (m + 1) most)).flatMap fun i => (sizeLots f (m - i) (i + 1)).map fun r => (i + 1) :: r
theorem foldl_flat {α β : Type} (g : α → List β) : ∀ (l : List α) (x : List β), l.foldl (fun x a => x ++ g a) x = x ++ l.flatMap g
  | [], x => by simp
  | a :: l, x => by rw [List.foldl_cons, foldl_flat g l, List.flatMap_cons, List.append_assoc]
theorem lots_len : ∀ f m most : Nat, f ≤ 20 → m ≤ 8 → most ≤ 8 → (sizeLots f m most).length ≤ 100 ∧ ∀ r ∈ sizeLots f m most, r.length ≤ 8 := by
  have h : ((List.range 21).all fun f => (List.range 9).all fun m => (List.range 9).all fun t => Nat.ble (sizeLots f m t).length 100 && (sizeLots f m t).all fun r => Nat.ble r.length 8) = true := by decide +kernel
  intro f m most h1 h2 h3
  have a := List.all_eq_true.mp (List.all_eq_true.mp (List.all_eq_true.mp h f (List.mem_range.mpr (by omega))) m (List.mem_range.mpr (by omega))) most (List.mem_range.mpr (by omega))
  obtain ⟨a1, a2⟩ := Bool.and_eq_true_iff.mp a
  exact ⟨Nat.le_of_ble_eq_true a1, fun r hr => Nat.le_of_ble_eq_true (List.all_eq_true.mp a2 r hr)⟩
theorem natsD_free (l : List Nat) : D.frees (natsD l) = true := by
  induction l with
  | nil => rfl
  | cons a r ih => exact ih
theorem encs_free (l : List (List Nat)) : D.frees (l.map encT) = true := by
  induction l with
  | nil => rfl
  | cons a r ih =>
    show (D.frees (natsD a) && D.frees (r.map encT)) = true
    rw [natsD_free, ih]; rfl
theorem frees_map {α : Type} (f : α → D) (hf : ∀ a, (f a).free = true) (l : List α) : D.frees (l.map f) = true := by
  induction l with
  | nil => rfl
  | cons a r ih =>
    show ((f a).free && D.frees (r.map f)) = true
    rw [hf a, ih]; rfl
theorem r_lots : ∀ (f m most : Nat) (S : Store), Shut S → f ≤ 20 → m < f → m ≤ 8 → most ≤ 8 → M_size_lots f [.int m, .int most] S = .ok (.fl ((sizeLots f m most).map encT)) S
  | 0, m, most, S, hS, _, h, _, _ => absurd h (Nat.not_lt_zero _)
  | f + 1, 0, most, S, hS, _, _, _, _ => by
    refine fc_l hS (encs_free _) ?_
    show m_size_lots (M_size_lots f) [some (.v (.int 0)), some (.v (.int most)), none, none, none] S = _
    simp only [m_size_lots, mSeq, mSet, Bool.and_true, Bool.true_and, Bool.and_false, Bool.false_and, Bool.or_true, Bool.true_or, Bool.or_false, Bool.false_or,  mRet, mRetN, mIf, mExpr, mNext, mBrk, mCont, eV, eC, eG, m2, gI, R.bind, svE, outE, mB, mCmp, mTV, mNot, mAnd, mOr, mIfE, mAndV, mOrV, mNotV, mNeg, mChain, mConsA, mNilA, mStarA, mTup, mLst, pub, pub_vals, List.append_nil, mCall, g1, g2, mFrz, frzE, mFrzS, flE, mStore, mPar, mUnp, svs, setMany, mAug, mMeth, isOb, obTy, setOb, plOf, plPut, mIsT, tyN, tyD, Ty.isa, fLen, fTup, fLst, fInt, fAbs, fII, fSum, fAll, fAny, asK, asSeq, asL, asT, asI, asM, asD, gEq_int, gEq_str, gOrd, ix_t, ix_c, ix_f, gAdd, fAdd, fSub, mFn, mRaise, fOne, kOne, tgN, tgT, tgCons, tgNil, mSrc, srcE, mEnum, kEnum, IT.enum, mZip, kZip, mLc, lcRun, lcOne, wipeE, mYes, fAppend, fExtend, D.isI, List.getElem?_cons_zero, List.getElem?_cons_succ, List.set_cons_zero, List.set_cons_succ, List.getElem?_nil, List.length_cons, List.length_nil, Option.some.injEq, Bool.false_eq_true, if_true, if_false, ite_true, ite_false, reduceIte, Bool.xor_false, Bool.xor_true, Bool.not_true, Bool.not_false, Bool.false_xor, Bool.true_xor, decide_true, decide_false, Nat.zero_add, reduceCtorEq, Nat.reduceAdd, Nat.reduceSub, Nat.reduceMul, Nat.reduceLT, Nat.reduceLeDiff, Nat.reduceEqDiff, Nat.reduceBEq, Int.reduceAdd, Int.reduceSub, Int.reduceMul, Int.reduceNeg, Int.reduceEq, Int.reduceNe, Int.reduceLT, Int.reduceLE, Int.reduceToNat, List.set_cons_zero, sizeL]
    rfl
  | f + 1, m + 1, most, S, hS, hf, hm, h8, h9 => by
    refine fc_l hS (encs_free _) ?_
    show m_size_lots (M_size_lots f) [some (.v (.int ((m + 1 : Nat) : Int))), some (.v (.int most)), none, none, none] S = _
    have e0 : decide (((m + 1 : Nat) : Int) = 0) = false := decide_eq_false (by omega)
    have e1 : (iMin ((m + 1 : Nat) : Int) most + 1 : Int) = ((1 + min (m + 1) most : Nat) : Int) := by unfold iMin; split <;> omega
    have g : ∀ i, i < min (m + 1) most → (sizeLots f (m - i) (i + 1)).length ≤ 100 ∧ ∀ r ∈ sizeLots f (m - i) (i + 1), r.length ≤ 8 := fun i hi => lots_len f (m - i) (i + 1) (by omega) (by omega) (by omega)
    obtain ⟨ρ2, S2, q1, j3, j4, q2, q3⟩ := mFold_pre (tg := tgN 3) (b := m_size_lots_L2 (M_size_lots f)) (fun i => D.int ((1 + i : Nat) : Int))
      (fun pre ρ S' => ∃ j3 j4, ρ = [some (.v (.int ((m + 1 : Nat) : Int))), some (.v (.int most)), some (.ol ((pre.flatMap fun i => (sizeLots f (m - i) (i + 1)).map fun r => (i + 1) :: r).map encT)), j3, j4] ∧ S' = S)
      (List.range (min (m + 1) most)) (fun pre i post hl ρ S' ⟨j3, j4, hρ, hS'⟩ => by
        subst hρ hS'
        have hi : i < min (m + 1) most := List.mem_range.mp (by rw [hl]; simp)
        have hp : (pre.flatMap fun i => (sizeLots f (m - i) (i + 1)).map fun r => (i + 1) :: r).length ≤ pre.length * 100 := flat_len fun a ha => by
          rw [List.length_map]
          exact (g a (List.mem_range.mp (by rw [hl]; simp [ha]))).1
        have hq : pre.length ≤ 8 := by
          have := congrArg List.length hl
          simp at this
          omega
        have ih := r_lots f (m - i) (i + 1) S' hS (by omega) (by omega) (by omega) (by omega)
        have a1 : ((m + 1 : Nat) : Int) - ((i + 1 : Nat) : Int) = ((m - i : Nat) : Int) := by omega
        have a2 : ((1 + i : Nat) : Int) = ((i + 1 : Nat) : Int) := by omega
        refine ⟨_, [some (.v (.int ((m + 1 : Nat) : Int))), some (.v (.int most)), some (.ol (((pre ++ [i]).flatMap fun i => (sizeLots f (m - i) (i + 1)).map fun r => (i + 1) :: r).map encT)), some (.v (.int ((i + 1 : Nat) : Int))), j4], S', rfl, .inl ?_, _, _, rfl, rfl⟩
        obtain ⟨l1, l2⟩ := g i hi
        have hC : ∀ ρ : DL.Env, ρ[3]? = some (some (.v (.int ((i + 1 : Nat) : Int)))) → ρ.length = 5 → mLcF (m_size_lots_C1 (M_size_lots f)) ((sizeLots f (m - i) (i + 1)).map encT) ρ S' = .ok ((sizeLots f (m - i) (i + 1)).map fun r => encT ((i + 1) :: r)) S' := fun ρ h3 h5 => by
          match ρ, h5, h3 with
          | [_, _, _, _, _], _, h3 =>
            refine mLcF_map encT (fun r => encT ((i + 1) :: r)) _ fun r hr => ?_
            have := l2 r hr
            have hl : (natsD r).length + 1 ≤ 16777216 := by unfold natsD; rw [List.length_map]; omega
            simp only [List.getElem?_cons_succ, List.getElem?_cons_zero, Option.some.injEq] at h3
            subst h3
            simp only [m_size_lots_C1, encT, mSeq, mSet, Bool.and_true, Bool.true_and, Bool.and_false, Bool.false_and, Bool.or_true, Bool.true_or, Bool.or_false, Bool.false_or,  mRet, mRetN, mIf, mExpr, mNext, mBrk, mCont, eV, eC, eG, m2, gI, R.bind, svE, outE, mB, mCmp, mTV, mNot, mAnd, mOr, mIfE, mAndV, mOrV, mNotV, mNeg, mChain, mConsA, mNilA, mStarA, mTup, mLst, pub, pub_vals, List.append_nil, mCall, g1, g2, mFrz, frzE, mFrzS, flE, mStore, mPar, mUnp, svs, setMany, mAug, mMeth, isOb, obTy, setOb, plOf, plPut, mIsT, tyN, tyD, Ty.isa, fLen, fTup, fLst, fInt, fAbs, fII, fSum, fAll, fAny, asK, asSeq, asL, asT, asI, asM, asD, gEq_int, gEq_str, gOrd, ix_t, ix_c, ix_f, gAdd, fAdd, fSub, mFn, mRaise, fOne, kOne, tgN, tgT, tgCons, tgNil, mSrc, srcE, mEnum, kEnum, IT.enum, mZip, kZip, mLc, lcRun, lcOne, wipeE, mYes, fAppend, fExtend, D.isI, List.getElem?_cons_zero, List.getElem?_cons_succ, List.set_cons_zero, List.set_cons_succ, List.getElem?_nil, List.length_cons, List.length_nil, Option.some.injEq, Bool.false_eq_true, if_true, if_false, ite_true, ite_false, reduceIte, Bool.xor_false, Bool.xor_true, Bool.not_true, Bool.not_false, Bool.false_xor, Bool.true_xor, decide_true, decide_false, Nat.zero_add, reduceCtorEq, Nat.reduceAdd, Nat.reduceSub, Nat.reduceMul, Nat.reduceLT, Nat.reduceLeDiff, Nat.reduceEqDiff, Nat.reduceBEq, Int.reduceAdd, Int.reduceSub, Int.reduceMul, Int.reduceNeg, Int.reduceEq, Int.reduceNe, Int.reduceLT, Int.reduceLE, Int.reduceToNat, List.set_cons_zero, sizeL, hl]
            rfl
        have hz : ((sizeLots f (m - i) (i + 1)).map encT).length ≤ 16777216 := by rw [List.length_map]; omega
        have hw : ((pre.flatMap fun i => (sizeLots f (m - i) (i + 1)).map fun r => (i + 1) :: r).map encT).length + ((sizeLots f (m - i) (i + 1)).map fun r => encT ((i + 1) :: r)).length ≤ 16777216 := by rw [List.length_map, List.length_map]; omega
        simp only [m_size_lots_L2, mSeq, mSet, Bool.and_true, Bool.true_and, Bool.and_false, Bool.false_and, Bool.or_true, Bool.true_or, Bool.or_false, Bool.false_or,  mRet, mRetN, mIf, mExpr, mNext, mBrk, mCont, eV, eC, eG, m2, gI, R.bind, svE, outE, mB, mCmp, mTV, mNot, mAnd, mOr, mIfE, mAndV, mOrV, mNotV, mNeg, mChain, mConsA, mNilA, mStarA, mTup, mLst, pub, pub_vals, List.append_nil, mCall, g1, g2, mFrz, frzE, mFrzS, flE, mStore, mPar, mUnp, svs, setMany, mAug, mMeth, isOb, obTy, setOb, plOf, plPut, mIsT, tyN, tyD, Ty.isa, fLen, fTup, fLst, fInt, fAbs, fII, fSum, fAll, fAny, asK, asSeq, asL, asT, asI, asM, asD, gEq_int, gEq_str, gOrd, ix_t, ix_c, ix_f, gAdd, fAdd, fSub, mFn, mRaise, fOne, kOne, tgN, tgT, tgCons, tgNil, mSrc, srcE, mEnum, kEnum, IT.enum, mZip, kZip, mLc, lcRun, lcOne, wipeE, mYes, fAppend, fExtend, D.isI, List.getElem?_cons_zero, List.getElem?_cons_succ, List.set_cons_zero, List.set_cons_succ, List.getElem?_nil, List.length_cons, List.length_nil, Option.some.injEq, Bool.false_eq_true, if_true, if_false, ite_true, ite_false, reduceIte, Bool.xor_false, Bool.xor_true, Bool.not_true, Bool.not_false, Bool.false_xor, Bool.true_xor, decide_true, decide_false, Nat.zero_add, reduceCtorEq, Nat.reduceAdd, Nat.reduceSub, Nat.reduceMul, Nat.reduceLT, Nat.reduceLeDiff, Nat.reduceEqDiff, Nat.reduceBEq, Int.reduceAdd, Int.reduceSub, Int.reduceMul, Int.reduceNeg, Int.reduceEq, Int.reduceNe, Int.reduceLT, Int.reduceLE, Int.reduceToNat, List.set_cons_zero, a1, a2, ih, sizeL, hz, hC, hw, beq_self_eq_true]
        rw [List.flatMap_append, List.map_append, List.flatMap_cons, List.flatMap_nil, List.append_nil, List.map_map]
        rfl) [some (.v (.int ((m + 1 : Nat) : Int))), some (.v (.int most)), some (.ol []), none, none] S ⟨_, _, rfl, rfl⟩
    subst q2 q3
    have hF := (mFor_fix (n := 100000) (src := mRg2 (mConsA (eC (.int 1)) (mConsA (m2 (gAdd) (mCall (g2 (fII iMin)) (mConsA (eV 0) (mConsA (eV 1) mNilA))) (eC (.int 1))) mNilA))) (rg2_nat (a := 1) (n := min (m + 1) most) (by omega) e1 (by simp only [mSeq, mSet, Bool.and_true, Bool.true_and, Bool.and_false, Bool.false_and, Bool.or_true, Bool.true_or, Bool.or_false, Bool.false_or,  mRet, mRetN, mIf, mExpr, mNext, mBrk, mCont, eV, eC, eG, m2, gI, R.bind, svE, outE, mB, mCmp, mTV, mNot, mAnd, mOr, mIfE, mAndV, mOrV, mNotV, mNeg, mChain, mConsA, mNilA, mStarA, mTup, mLst, pub, pub_vals, List.append_nil, mCall, g1, g2, mFrz, frzE, mFrzS, flE, mStore, mPar, mUnp, svs, setMany, mAug, mMeth, isOb, obTy, setOb, plOf, plPut, mIsT, tyN, tyD, Ty.isa, fLen, fTup, fLst, fInt, fAbs, fII, fSum, fAll, fAny, asK, asSeq, asL, asT, asI, asM, asD, gEq_int, gEq_str, gOrd, ix_t, ix_c, ix_f, gAdd, fAdd, fSub, mFn, mRaise, fOne, kOne, tgN, tgT, tgCons, tgNil, mSrc, srcE, mEnum, kEnum, IT.enum, mZip, kZip, mLc, lcRun, lcOne, wipeE, mYes, fAppend, fExtend, D.isI, List.getElem?_cons_zero, List.getElem?_cons_succ, List.set_cons_zero, List.set_cons_succ, List.getElem?_nil, List.length_cons, List.length_nil, Option.some.injEq, Bool.false_eq_true, if_true, if_false, ite_true, ite_false, reduceIte, Bool.xor_false, Bool.xor_true, Bool.not_true, Bool.not_false, Bool.false_xor, Bool.true_xor, decide_true, decide_false, Nat.zero_add, reduceCtorEq, Nat.reduceAdd, Nat.reduceSub, Nat.reduceMul, Nat.reduceLT, Nat.reduceLeDiff, Nat.reduceEqDiff, Nat.reduceBEq, Int.reduceAdd, Int.reduceSub, Int.reduceMul, Int.reduceNeg, Int.reduceEq, Int.reduceNe, Int.reduceLT, Int.reduceLE, Int.reduceToNat, List.set_cons_zero]; rfl))).trans q1
    simp only [m_size_lots, mSeq, mSet, Bool.and_true, Bool.true_and, Bool.and_false, Bool.false_and, Bool.or_true, Bool.true_or, Bool.or_false, Bool.false_or,  mRet, mRetN, mIf, mExpr, mNext, mBrk, mCont, eV, eC, eG, m2, gI, R.bind, svE, outE, mB, mCmp, mTV, mNot, mAnd, mOr, mIfE, mAndV, mOrV, mNotV, mNeg, mChain, mConsA, mNilA, mStarA, mTup, mLst, pub, pub_vals, List.append_nil, mCall, g1, g2, mFrz, frzE, mFrzS, flE, mStore, mPar, mUnp, svs, setMany, mAug, mMeth, isOb, obTy, setOb, plOf, plPut, mIsT, tyN, tyD, Ty.isa, fLen, fTup, fLst, fInt, fAbs, fII, fSum, fAll, fAny, asK, asSeq, asL, asT, asI, asM, asD, gEq_int, gEq_str, gOrd, ix_t, ix_c, ix_f, gAdd, fAdd, fSub, mFn, mRaise, fOne, kOne, tgN, tgT, tgCons, tgNil, mSrc, srcE, mEnum, kEnum, IT.enum, mZip, kZip, mLc, lcRun, lcOne, wipeE, mYes, fAppend, fExtend, D.isI, List.getElem?_cons_zero, List.getElem?_cons_succ, List.set_cons_zero, List.set_cons_succ, List.getElem?_nil, List.length_cons, List.length_nil, Option.some.injEq, Bool.false_eq_true, if_true, if_false, ite_true, ite_false, reduceIte, Bool.xor_false, Bool.xor_true, Bool.not_true, Bool.not_false, Bool.false_xor, Bool.true_xor, decide_true, decide_false, Nat.zero_add, reduceCtorEq, Nat.reduceAdd, Nat.reduceSub, Nat.reduceMul, Nat.reduceLT, Nat.reduceLeDiff, Nat.reduceEqDiff, Nat.reduceBEq, Int.reduceAdd, Int.reduceSub, Int.reduceMul, Int.reduceNeg, Int.reduceEq, Int.reduceNe, Int.reduceLT, Int.reduceLE, Int.reduceToNat, List.set_cons_zero, sizeL, e0, hF, sizeLots]
/-! ## how many positions have such rings -/
def belowOf (sizes : List Nat) : Nat := (List.range 8).foldl (fun b i => (List.range (sizes.count (i + 1))).foldl (fun b j => b * (i + 1) * (j + 1)) b) 1
def factN : Nat → Nat
  | 0 => 1
  | n + 1 => factN n * (n + 1)
def posWith (sizes : List Nat) : Nat := factN sizes.sum / belowOf sizes
def partsAll : List (List Nat) := (List.range 8).flatMap fun m => sizeLots 20 (m + 1) (m + 1)
def partsLit : List (List Nat) := [[1], [1, 1], [2], [1, 1, 1], [2, 1], [3], [1, 1, 1, 1], [2, 1, 1], [2, 2], [3, 1], [4], [1, 1, 1, 1, 1], [2, 1, 1, 1], [2, 2, 1], [3, 1, 1], [3, 2], [4, 1], [5], [1, 1, 1, 1, 1, 1], [2, 1, 1, 1, 1], [2, 2, 1, 1], [2, 2, 2], [3, 1, 1, 1], [3, 2, 1], [3, 3], [4, 1, 1], [4, 2], [5, 1], [6], [1, 1, 1, 1, 1, 1, 1], [2, 1, 1, 1, 1, 1], [2, 2, 1, 1, 1], [2, 2, 2, 1], [3, 1, 1, 1, 1], [3, 2, 1, 1], [3, 2, 2], [3, 3, 1], [4, 1, 1, 1], [4, 2, 1], [4, 3], [5, 1, 1], [5, 2], [6, 1], [7], [1, 1, 1, 1, 1, 1, 1, 1], [2, 1, 1, 1, 1, 1, 1], [2, 2, 1, 1, 1, 1], [2, 2, 2, 1, 1], [2, 2, 2, 2], [3, 1, 1, 1, 1, 1], [3, 2, 1, 1, 1], [3, 2, 2, 1], [3, 3, 1, 1], [3, 3, 2], [4, 1, 1, 1, 1], [4, 2, 1, 1], [4, 2, 2], [4, 3, 1], [4, 4], [5, 1, 1, 1], [5, 2, 1], [5, 3], [6, 1, 1], [6, 2], [7, 1], [8]]
theorem parts_lit : partsAll = partsLit := by decide +kernel
theorem pw_all : ∀ s ∈ partsLit, ∀ S, m_positions_with (startE 7 [encT s]) S = .ret (.v (.int (posWith s : Nat))) S := by
  unfold partsLit
  simp only [List.forall_mem_cons, List.forall_mem_nil, and_true]
  refine ⟨fun S => rfl, fun S => rfl, fun S => rfl, fun S => rfl, fun S => rfl, fun S => rfl, fun S => rfl, fun S => rfl, fun S => rfl, fun S => rfl, fun S => rfl, fun S => rfl, fun S => rfl, fun S => rfl, fun S => rfl, fun S => rfl, fun S => rfl, fun S => rfl, fun S => rfl, fun S => rfl, fun S => rfl, fun S => rfl, fun S => rfl, fun S => rfl, fun S => rfl, fun S => rfl, fun S => rfl, fun S => rfl, fun S => rfl, fun S => rfl, fun S => rfl, fun S => rfl, fun S => rfl, fun S => rfl, fun S => rfl, fun S => rfl, fun S => rfl, fun S => rfl, fun S => rfl, fun S => rfl, fun S => rfl, fun S => rfl, fun S => rfl, fun S => rfl, fun S => rfl, fun S => rfl, fun S => rfl, fun S => rfl, fun S => rfl, fun S => rfl, fun S => rfl, fun S => rfl, fun S => rfl, fun S => rfl, fun S => rfl, fun S => rfl, fun S => rfl, fun S => rfl, fun S => rfl, fun S => rfl, fun S => rfl, fun S => rfl, fun S => rfl, fun S => rfl, fun S => rfl, fun S => rfl, fun x h => by cases h⟩
theorem parts_mem {m : Nat} {s : List Nat} (h : 1 ≤ m ∧ m ≤ 8) (hs : s ∈ sizeLots 20 m m) : s ∈ partsLit := by
  rw [← parts_lit]
  refine List.mem_flatMap.mpr ⟨m - 1, List.mem_range.mpr (by omega), ?_⟩
  rw [show m - 1 + 1 = m by omega]
  exact hs
theorem r_pw {s : List Nat} {S : Store} (hS : Shut S) (hs : s ∈ partsLit) : M_positions_with [encT s] S = .ok (.v (.int (posWith s : Nat))) S := fc_v hS rfl (pw_all s hs S)
/-! ## rings of pairs -/
def wS : Nat → Str
  | 0 => "any"
  | 1 => "loose"
  | _ => "graph"
def innerI (s : List Nat) (i one : Nat) (x : Int) : Int := s.zipIdx.foldl (fun x p => if i = p.2 then x else x + (Nat.gcd one p.1 : Nat)) x
def outerI (w : Nat) (s : List Nat) : Int := s.zipIdx.foldl (fun x p => innerI s p.2 p.1 x + (if w = 0 then (p.1 : Int) else (p.1 : Int) - 1)) 0
def ringsI (w : Nat) (s : List Nat) : Int := if w = 2 then (outerI w s + (s.filter fun o => o % 2 == 0).length) / 2 else outerI w s
theorem enumD_zip : ∀ (s : List Nat) (k : Nat), enumD k (natsD s) = (s.zipIdx k).map fun p => D.tup [.int (p.2 : Nat), .int (p.1 : Nat)]
  | [], _ => rfl
  | a :: s, k => by
    show D.tup [.int (k : Nat), .int (a : Nat)] :: enumD (k + 1) (natsD s) = _
    rw [enumD_zip s (k + 1), List.zipIdx_cons, List.map_cons]
theorem pr_inner {w : Nat} {s : List Nat} {S : Store} (hS : Shut S) (hs : ∀ o ∈ s, o < 100000) {i one : Nat} {j5 j6 j7 : Option SV} (x : Int) : ∃ k5 k6,
    mFor (mEnum (mConsA (eV 0) mNilA)) (tgT (tgCons (tgN 5) (tgCons (tgN 6) tgNil))) m_pair_rings_L1 100000 [some (.v (encT s)), some (.v (.str (wS w))), some (.v (.int x)), some (.v (.int i)), some (.v (.int one)), j5, j6, j7] S =
      .next [some (.v (encT s)), some (.v (.str (wS w))), some (.v (.int (innerI s i one x))), some (.v (.int i)), some (.v (.int one)), k5, k6, j7] S := by
  obtain ⟨ρ2, S2, q1, k5, k6, q2, q3⟩ := mFold_rel (tg := tgT (tgCons (tgN 5) (tgCons (tgN 6) tgNil))) (b := m_pair_rings_L1) (fun (p : Nat × Nat) => D.tup [.int (p.2 : Nat), .int (p.1 : Nat)])
    (fun (x : Int) ρ S' => ∃ j5 j6, ρ = [some (.v (encT s)), some (.v (.str (wS w))), some (.v (.int x)), some (.v (.int i)), some (.v (.int one)), j5, j6, j7] ∧ S' = S)
    (fun x p => if i = p.2 then x else x + (Nat.gcd one p.1 : Nat)) s.zipIdx (fun p hp x ρ S' ⟨j5, j6, hρ, hS'⟩ => by
      subst hρ hS'
      have hb : p.1 < 100000 := hs _ (by
        obtain ⟨k, hk⟩ := List.getElem?_of_mem hp
        rw [List.getElem?_zipIdx] at hk
        cases e : s[k]? with
        | none => rw [e] at hk; cases hk
        | some v =>
          rw [e] at hk
          cases hk
          exact List.mem_of_getElem? e)
      refine ⟨_, [some (.v (encT s)), some (.v (.str (wS w))), some (.v (.int (if i = p.2 then x else x + (Nat.gcd one p.1 : Nat)))), some (.v (.int i)), some (.v (.int one)), some (.v (.int p.2)), some (.v (.int p.1)), j7], S', rfl, .inl ?_, _, _, rfl, rfl⟩
      by_cases h : i = p.2
      · have e : decide ((i : Int) = (p.2 : Int)) = true := decide_eq_true (by omega)
        simp only [m_pair_rings_L1, mSeq, mSet, Bool.and_true, Bool.true_and, Bool.and_false, Bool.false_and, Bool.or_true, Bool.true_or, Bool.or_false, Bool.false_or,  mRet, mRetN, mIf, mExpr, mNext, mBrk, mCont, eV, eC, eG, m2, gI, R.bind, svE, outE, mB, mCmp, mTV, mNot, mAnd, mOr, mIfE, mAndV, mOrV, mNotV, mNeg, mChain, mConsA, mNilA, mStarA, mTup, mLst, pub, pub_vals, List.append_nil, mCall, g1, g2, mFrz, frzE, mFrzS, flE, mStore, mPar, mUnp, svs, setMany, mAug, mMeth, isOb, obTy, setOb, plOf, plPut, mIsT, tyN, tyD, Ty.isa, fLen, fTup, fLst, fInt, fAbs, fII, fSum, fAll, fAny, asK, asSeq, asL, asT, asI, asM, asD, gEq_int, gEq_str, gOrd, ix_t, ix_c, ix_f, gAdd, fAdd, fSub, mFn, mRaise, fOne, kOne, tgN, tgT, tgCons, tgNil, mSrc, srcE, mEnum, kEnum, IT.enum, mZip, kZip, mLc, lcRun, lcOne, wipeE, mYes, fAppend, fExtend, D.isI, List.getElem?_cons_zero, List.getElem?_cons_succ, List.set_cons_zero, List.set_cons_succ, List.getElem?_nil, List.length_cons, List.length_nil, Option.some.injEq, Bool.false_eq_true, if_true, if_false, ite_true, ite_false, reduceIte, Bool.xor_false, Bool.xor_true, Bool.not_true, Bool.not_false, Bool.false_xor, Bool.true_xor, decide_true, decide_false, Nat.zero_add, reduceCtorEq, Nat.reduceAdd, Nat.reduceSub, Nat.reduceMul, Nat.reduceLT, Nat.reduceLeDiff, Nat.reduceEqDiff, Nat.reduceBEq, Int.reduceAdd, Int.reduceSub, Int.reduceMul, Int.reduceNeg, Int.reduceEq, Int.reduceNe, Int.reduceLT, Int.reduceLE, Int.reduceToNat, List.set_cons_zero, e, h]
      · have e : decide ((i : Int) = (p.2 : Int)) = false := decide_eq_false (by omega)
        simp only [m_pair_rings_L1, mSeq, mSet, Bool.and_true, Bool.true_and, Bool.and_false, Bool.false_and, Bool.or_true, Bool.true_or, Bool.or_false, Bool.false_or,  mRet, mRetN, mIf, mExpr, mNext, mBrk, mCont, eV, eC, eG, m2, gI, R.bind, svE, outE, mB, mCmp, mTV, mNot, mAnd, mOr, mIfE, mAndV, mOrV, mNotV, mNeg, mChain, mConsA, mNilA, mStarA, mTup, mLst, pub, pub_vals, List.append_nil, mCall, g1, g2, mFrz, frzE, mFrzS, flE, mStore, mPar, mUnp, svs, setMany, mAug, mMeth, isOb, obTy, setOb, plOf, plPut, mIsT, tyN, tyD, Ty.isa, fLen, fTup, fLst, fInt, fAbs, fII, fSum, fAll, fAny, asK, asSeq, asL, asT, asI, asM, asD, gEq_int, gEq_str, gOrd, ix_t, ix_c, ix_f, gAdd, fAdd, fSub, mFn, mRaise, fOne, kOne, tgN, tgT, tgCons, tgNil, mSrc, srcE, mEnum, kEnum, IT.enum, mZip, kZip, mLc, lcRun, lcOne, wipeE, mYes, fAppend, fExtend, D.isI, List.getElem?_cons_zero, List.getElem?_cons_succ, List.set_cons_zero, List.set_cons_succ, List.getElem?_nil, List.length_cons, List.length_nil, Option.some.injEq, Bool.false_eq_true, if_true, if_false, ite_true, ite_false, reduceIte, Bool.xor_false, Bool.xor_true, Bool.not_true, Bool.not_false, Bool.false_xor, Bool.true_xor, decide_true, decide_false, Nat.zero_add, reduceCtorEq, Nat.reduceAdd, Nat.reduceSub, Nat.reduceMul, Nat.reduceLT, Nat.reduceLeDiff, Nat.reduceEqDiff, Nat.reduceBEq, Int.reduceAdd, Int.reduceSub, Int.reduceMul, Int.reduceNeg, Int.reduceEq, Int.reduceNe, Int.reduceLT, Int.reduceLE, Int.reduceToNat, List.set_cons_zero, e, h, r_common hS hb])
    x [some (.v (encT s)), some (.v (.str (wS w))), some (.v (.int x)), some (.v (.int i)), some (.v (.int one)), j5, j6, j7] S ⟨_, _, rfl, rfl⟩
  subst q2 q3
  refine ⟨k5, k6, ?_⟩
  unfold innerI
  rw [← q1, ← enumD_zip s 0]
  exact mFor_fix rfl
theorem wS_any {w : Nat} (hw : w < 3) : decide (wS w = "any") = decide (w = 0) := by
  match w, hw with
  | 0, _ => rfl
  | 1, _ => decide
  | 2, _ => decide
theorem wS_graph {w : Nat} (hw : w < 3) : decide (wS w = "graph") = decide (w = 2) := by
  match w, hw with
  | 0, _ => decide
  | 1, _ => decide
  | 2, _ => rfl
theorem zip_mem {s : List Nat} {p : Nat × Nat} (hp : p ∈ s.zipIdx) : p.1 ∈ s := by
  obtain ⟨k, hk⟩ := List.getElem?_of_mem hp
  rw [List.getElem?_zipIdx] at hk
  cases e : s[k]? with
  | none => rw [e] at hk; cases hk
  | some v =>
    rw [e] at hk
    cases hk
    exact List.mem_of_getElem? e
theorem pr_outer {w : Nat} {s : List Nat} {S : Store} (hw : w < 3) (hS : Shut S) (hs : ∀ o ∈ s, o < 100000) {j3 j4 j5 j6 j7 : Option SV} : ∃ k3 k4 k5 k6,
    m_pair_rings_S1 [some (.v (encT s)), some (.v (.str (wS w))), some (.v (.int 0)), j3, j4, j5, j6, j7] S =
      .next [some (.v (encT s)), some (.v (.str (wS w))), some (.v (.int (outerI w s))), k3, k4, k5, k6, j7] S := by
  obtain ⟨ρ2, S2, q1, k3, k4, k5, k6, q2, q3⟩ := mFold_rel (tg := tgT (tgCons (tgN 3) (tgCons (tgN 4) tgNil))) (b := m_pair_rings_L2) (fun (p : Nat × Nat) => D.tup [.int (p.2 : Nat), .int (p.1 : Nat)])
    (fun (x : Int) ρ S' => ∃ j3 j4 j5 j6, ρ = [some (.v (encT s)), some (.v (.str (wS w))), some (.v (.int x)), j3, j4, j5, j6, j7] ∧ S' = S)
    (fun x p => innerI s p.2 p.1 x + (if w = 0 then (p.1 : Int) else (p.1 : Int) - 1)) s.zipIdx (fun p hp x ρ S' ⟨j3, j4, j5, j6, hρ, hS'⟩ => by
      subst hρ hS'
      obtain ⟨k5, k6, h1⟩ := pr_inner (w := w) (j5 := j5) (j6 := j6) (j7 := j7) hS hs (i := p.2) (one := p.1) x
      refine ⟨_, [some (.v (encT s)), some (.v (.str (wS w))), some (.v (.int (innerI s p.2 p.1 x + (if w = 0 then (p.1 : Int) else (p.1 : Int) - 1)))), some (.v (.int p.2)), some (.v (.int p.1)), k5, k6, j7], S', rfl, .inl ?_, _, _, _, _, rfl, rfl⟩
      refine (seq_n h1).trans ?_
      by_cases h : w = 0
      · have hd : decide (w = 0) = true := decide_eq_true h
        simp only [mSeq, mSet, Bool.and_true, Bool.true_and, Bool.and_false, Bool.false_and, Bool.or_true, Bool.true_or, Bool.or_false, Bool.false_or,  mRet, mRetN, mIf, mExpr, mNext, mBrk, mCont, eV, eC, eG, m2, gI, R.bind, svE, outE, mB, mCmp, mTV, mNot, mAnd, mOr, mIfE, mAndV, mOrV, mNotV, mNeg, mChain, mConsA, mNilA, mStarA, mTup, mLst, pub, pub_vals, List.append_nil, mCall, g1, g2, mFrz, frzE, mFrzS, flE, mStore, mPar, mUnp, svs, setMany, mAug, mMeth, isOb, obTy, setOb, plOf, plPut, mIsT, tyN, tyD, Ty.isa, fLen, fTup, fLst, fInt, fAbs, fII, fSum, fAll, fAny, asK, asSeq, asL, asT, asI, asM, asD, gEq_int, gEq_str, gOrd, ix_t, ix_c, ix_f, gAdd, fAdd, fSub, mFn, mRaise, fOne, kOne, tgN, tgT, tgCons, tgNil, mSrc, srcE, mEnum, kEnum, IT.enum, mZip, kZip, mLc, lcRun, lcOne, wipeE, mYes, fAppend, fExtend, D.isI, List.getElem?_cons_zero, List.getElem?_cons_succ, List.set_cons_zero, List.set_cons_succ, List.getElem?_nil, List.length_cons, List.length_nil, Option.some.injEq, Bool.false_eq_true, if_true, if_false, ite_true, ite_false, reduceIte, Bool.xor_false, Bool.xor_true, Bool.not_true, Bool.not_false, Bool.false_xor, Bool.true_xor, decide_true, decide_false, Nat.zero_add, reduceCtorEq, Nat.reduceAdd, Nat.reduceSub, Nat.reduceMul, Nat.reduceLT, Nat.reduceLeDiff, Nat.reduceEqDiff, Nat.reduceBEq, Int.reduceAdd, Int.reduceSub, Int.reduceMul, Int.reduceNeg, Int.reduceEq, Int.reduceNe, Int.reduceLT, Int.reduceLE, Int.reduceToNat, List.set_cons_zero, wS_any hw, hd, if_pos h]
      · have hd : decide (w = 0) = false := decide_eq_false h
        simp only [mSeq, mSet, Bool.and_true, Bool.true_and, Bool.and_false, Bool.false_and, Bool.or_true, Bool.true_or, Bool.or_false, Bool.false_or,  mRet, mRetN, mIf, mExpr, mNext, mBrk, mCont, eV, eC, eG, m2, gI, R.bind, svE, outE, mB, mCmp, mTV, mNot, mAnd, mOr, mIfE, mAndV, mOrV, mNotV, mNeg, mChain, mConsA, mNilA, mStarA, mTup, mLst, pub, pub_vals, List.append_nil, mCall, g1, g2, mFrz, frzE, mFrzS, flE, mStore, mPar, mUnp, svs, setMany, mAug, mMeth, isOb, obTy, setOb, plOf, plPut, mIsT, tyN, tyD, Ty.isa, fLen, fTup, fLst, fInt, fAbs, fII, fSum, fAll, fAny, asK, asSeq, asL, asT, asI, asM, asD, gEq_int, gEq_str, gOrd, ix_t, ix_c, ix_f, gAdd, fAdd, fSub, mFn, mRaise, fOne, kOne, tgN, tgT, tgCons, tgNil, mSrc, srcE, mEnum, kEnum, IT.enum, mZip, kZip, mLc, lcRun, lcOne, wipeE, mYes, fAppend, fExtend, D.isI, List.getElem?_cons_zero, List.getElem?_cons_succ, List.set_cons_zero, List.set_cons_succ, List.getElem?_nil, List.length_cons, List.length_nil, Option.some.injEq, Bool.false_eq_true, if_true, if_false, ite_true, ite_false, reduceIte, Bool.xor_false, Bool.xor_true, Bool.not_true, Bool.not_false, Bool.false_xor, Bool.true_xor, decide_true, decide_false, Nat.zero_add, reduceCtorEq, Nat.reduceAdd, Nat.reduceSub, Nat.reduceMul, Nat.reduceLT, Nat.reduceLeDiff, Nat.reduceEqDiff, Nat.reduceBEq, Int.reduceAdd, Int.reduceSub, Int.reduceMul, Int.reduceNeg, Int.reduceEq, Int.reduceNe, Int.reduceLT, Int.reduceLE, Int.reduceToNat, List.set_cons_zero, wS_any hw, hd, if_neg h])
    0 [some (.v (encT s)), some (.v (.str (wS w))), some (.v (.int 0)), j3, j4, j5, j6, j7] S ⟨_, _, _, _, rfl, rfl⟩
  subst q2 q3
  refine ⟨k3, k4, k5, k6, ?_⟩
  unfold outerI
  rw [← q1, ← enumD_zip s 0]
  exact mFor_fix rfl
theorem r_pr {w : Nat} {s : List Nat} {S : Store} (hw : w < 3) (hS : Shut S) (hs : ∀ o ∈ s, o < 100000) (hl : s.length < 1000) : M_pair_rings [encT s, .str (wS w)] S = .ok (.v (.int (ringsI w s))) S := by
  refine fc_v hS rfl ?_
  show m_pair_rings [some (.v (encT s)), some (.v (.str (wS w))), none, none, none, none, none, none] S = _
  obtain ⟨k3, k4, k5, k6, h1⟩ := pr_outer (w := w) (s := s) (j3 := none) (j4 := none) (j5 := none) (j6 := none) (j7 := none) hw hS hs
  refine (seq_n (ρ1 := [some (.v (encT s)), some (.v (.str (wS w))), some (.v (.int 0)), none, none, none, none, none]) (S1 := S) rfl).trans ?_
  refine (seq_n h1).trans ?_
  by_cases h : w = 2
  · have hC : ∀ ρ : DL.Env, ρ.length = 8 → mLcF m_pair_rings_C4 (natsD s) ρ S = .ok ((s.filter fun o => o % 2 == 0).map fun (o : Nat) => D.int (o : Int)) S := fun ρ h8 => by
      match ρ, h8 with
      | [_, _, _, _, _, _, _, _], _ =>
        refine mLcF_filter (fun (o : Nat) => D.int (o : Int)) (fun (o : Nat) => D.int (o : Int)) (fun o => o % 2 == 0) s fun o ho => ?_
        have e : fMod (o : Int) 2 = some (.int ((o % 2 : Nat) : Int)) := by rw [fMod_s (by decide)]; rfl
        by_cases h2 : o % 2 = 0
        · have e2 : decide (((o % 2 : Nat) : Int) = 0) = true := decide_eq_true (by omega)
          have e3 : (o % 2 == 0) = true := by rw [h2]; rfl
          simp only [m_pair_rings_C4, mSeq, mSet, Bool.and_true, Bool.true_and, Bool.and_false, Bool.false_and, Bool.or_true, Bool.true_or, Bool.or_false, Bool.false_or,  mRet, mRetN, mIf, mExpr, mNext, mBrk, mCont, eV, eC, eG, m2, gI, R.bind, svE, outE, mB, mCmp, mTV, mNot, mAnd, mOr, mIfE, mAndV, mOrV, mNotV, mNeg, mChain, mConsA, mNilA, mStarA, mTup, mLst, pub, pub_vals, List.append_nil, mCall, g1, g2, mFrz, frzE, mFrzS, flE, mStore, mPar, mUnp, svs, setMany, mAug, mMeth, isOb, obTy, setOb, plOf, plPut, mIsT, tyN, tyD, Ty.isa, fLen, fTup, fLst, fInt, fAbs, fII, fSum, fAll, fAny, asK, asSeq, asL, asT, asI, asM, asD, gEq_int, gEq_str, gOrd, ix_t, ix_c, ix_f, gAdd, fAdd, fSub, mFn, mRaise, fOne, kOne, tgN, tgT, tgCons, tgNil, mSrc, srcE, mEnum, kEnum, IT.enum, mZip, kZip, mLc, lcRun, lcOne, wipeE, mYes, fAppend, fExtend, D.isI, List.getElem?_cons_zero, List.getElem?_cons_succ, List.set_cons_zero, List.set_cons_succ, List.getElem?_nil, List.length_cons, List.length_nil, Option.some.injEq, Bool.false_eq_true, if_true, if_false, ite_true, ite_false, reduceIte, Bool.xor_false, Bool.xor_true, Bool.not_true, Bool.not_false, Bool.false_xor, Bool.true_xor, decide_true, decide_false, Nat.zero_add, reduceCtorEq, Nat.reduceAdd, Nat.reduceSub, Nat.reduceMul, Nat.reduceLT, Nat.reduceLeDiff, Nat.reduceEqDiff, Nat.reduceBEq, Int.reduceAdd, Int.reduceSub, Int.reduceMul, Int.reduceNeg, Int.reduceEq, Int.reduceNe, Int.reduceLT, Int.reduceLE, Int.reduceToNat, List.set_cons_zero, e, e2, e3]
        · have e2 : decide (((o % 2 : Nat) : Int) = 0) = false := decide_eq_false (by omega)
          have e3 : (o % 2 == 0) = false := beq_false_of_ne h2
          simp only [m_pair_rings_C4, mSeq, mSet, Bool.and_true, Bool.true_and, Bool.and_false, Bool.false_and, Bool.or_true, Bool.true_or, Bool.or_false, Bool.false_or,  mRet, mRetN, mIf, mExpr, mNext, mBrk, mCont, eV, eC, eG, m2, gI, R.bind, svE, outE, mB, mCmp, mTV, mNot, mAnd, mOr, mIfE, mAndV, mOrV, mNotV, mNeg, mChain, mConsA, mNilA, mStarA, mTup, mLst, pub, pub_vals, List.append_nil, mCall, g1, g2, mFrz, frzE, mFrzS, flE, mStore, mPar, mUnp, svs, setMany, mAug, mMeth, isOb, obTy, setOb, plOf, plPut, mIsT, tyN, tyD, Ty.isa, fLen, fTup, fLst, fInt, fAbs, fII, fSum, fAll, fAny, asK, asSeq, asL, asT, asI, asM, asD, gEq_int, gEq_str, gOrd, ix_t, ix_c, ix_f, gAdd, fAdd, fSub, mFn, mRaise, fOne, kOne, tgN, tgT, tgCons, tgNil, mSrc, srcE, mEnum, kEnum, IT.enum, mZip, kZip, mLc, lcRun, lcOne, wipeE, mYes, fAppend, fExtend, D.isI, List.getElem?_cons_zero, List.getElem?_cons_succ, List.set_cons_zero, List.set_cons_succ, List.getElem?_nil, List.length_cons, List.length_nil, Option.some.injEq, Bool.false_eq_true, if_true, if_false, ite_true, ite_false, reduceIte, Bool.xor_false, Bool.xor_true, Bool.not_true, Bool.not_false, Bool.false_xor, Bool.true_xor, decide_true, decide_false, Nat.zero_add, reduceCtorEq, Nat.reduceAdd, Nat.reduceSub, Nat.reduceMul, Nat.reduceLT, Nat.reduceLeDiff, Nat.reduceEqDiff, Nat.reduceBEq, Int.reduceAdd, Int.reduceSub, Int.reduceMul, Int.reduceNeg, Int.reduceEq, Int.reduceNe, Int.reduceLT, Int.reduceLE, Int.reduceToNat, List.set_cons_zero, e, e2, e3]
    have hz : (natsD s).length ≤ 16777216 := by unfold natsD; rw [List.length_map]; omega
    have e : ringsI w s = (outerI w s + ((s.filter fun o => o % 2 == 0).length : Nat)) / 2 := if_pos h
    rw [e]
    have hd : decide (w = 2) = true := decide_eq_true h
    simp only [encT, mSeq, mSet, Bool.and_true, Bool.true_and, Bool.and_false, Bool.false_and, Bool.or_true, Bool.true_or, Bool.or_false, Bool.false_or,  mRet, mRetN, mIf, mExpr, mNext, mBrk, mCont, eV, eC, eG, m2, gI, R.bind, svE, outE, mB, mCmp, mTV, mNot, mAnd, mOr, mIfE, mAndV, mOrV, mNotV, mNeg, mChain, mConsA, mNilA, mStarA, mTup, mLst, pub, pub_vals, List.append_nil, mCall, g1, g2, mFrz, frzE, mFrzS, flE, mStore, mPar, mUnp, svs, setMany, mAug, mMeth, isOb, obTy, setOb, plOf, plPut, mIsT, tyN, tyD, Ty.isa, fLen, fTup, fLst, fInt, fAbs, fII, fSum, fAll, fAny, asK, asSeq, asL, asT, asI, asM, asD, gEq_int, gEq_str, gOrd, ix_t, ix_c, ix_f, gAdd, fAdd, fSub, mFn, mRaise, fOne, kOne, tgN, tgT, tgCons, tgNil, mSrc, srcE, mEnum, kEnum, IT.enum, mZip, kZip, mLc, lcRun, lcOne, wipeE, mYes, fAppend, fExtend, D.isI, List.getElem?_cons_zero, List.getElem?_cons_succ, List.set_cons_zero, List.set_cons_succ, List.getElem?_nil, List.length_cons, List.length_nil, Option.some.injEq, Bool.false_eq_true, if_true, if_false, ite_true, ite_false, reduceIte, Bool.xor_false, Bool.xor_true, Bool.not_true, Bool.not_false, Bool.false_xor, Bool.true_xor, decide_true, decide_false, Nat.zero_add, reduceCtorEq, Nat.reduceAdd, Nat.reduceSub, Nat.reduceMul, Nat.reduceLT, Nat.reduceLeDiff, Nat.reduceEqDiff, Nat.reduceBEq, Int.reduceAdd, Int.reduceSub, Int.reduceMul, Int.reduceNeg, Int.reduceEq, Int.reduceNe, Int.reduceLT, Int.reduceLE, Int.reduceToNat, List.set_cons_zero, wS_graph hw, hd, sizeL, hz, hC, fDiv_s (show (0 : Int) < 2 by decide) (by decide), List.length_map]
  · have e : ringsI w s = outerI w s := if_neg h
    rw [e]
    have hd : decide (w = 2) = false := decide_eq_false h
    simp only [mSeq, mSet, Bool.and_true, Bool.true_and, Bool.and_false, Bool.false_and, Bool.or_true, Bool.true_or, Bool.or_false, Bool.false_or,  mRet, mRetN, mIf, mExpr, mNext, mBrk, mCont, eV, eC, eG, m2, gI, R.bind, svE, outE, mB, mCmp, mTV, mNot, mAnd, mOr, mIfE, mAndV, mOrV, mNotV, mNeg, mChain, mConsA, mNilA, mStarA, mTup, mLst, pub, pub_vals, List.append_nil, mCall, g1, g2, mFrz, frzE, mFrzS, flE, mStore, mPar, mUnp, svs, setMany, mAug, mMeth, isOb, obTy, setOb, plOf, plPut, mIsT, tyN, tyD, Ty.isa, fLen, fTup, fLst, fInt, fAbs, fII, fSum, fAll, fAny, asK, asSeq, asL, asT, asI, asM, asD, gEq_int, gEq_str, gOrd, ix_t, ix_c, ix_f, gAdd, fAdd, fSub, mFn, mRaise, fOne, kOne, tgN, tgT, tgCons, tgNil, mSrc, srcE, mEnum, kEnum, IT.enum, mZip, kZip, mLc, lcRun, lcOne, wipeE, mYes, fAppend, fExtend, D.isI, List.getElem?_cons_zero, List.getElem?_cons_succ, List.set_cons_zero, List.set_cons_succ, List.getElem?_nil, List.length_cons, List.length_nil, Option.some.injEq, Bool.false_eq_true, if_true, if_false, ite_true, ite_false, reduceIte, Bool.xor_false, Bool.xor_true, Bool.not_true, Bool.not_false, Bool.false_xor, Bool.true_xor, decide_true, decide_false, Nat.zero_add, reduceCtorEq, Nat.reduceAdd, Nat.reduceSub, Nat.reduceMul, Nat.reduceLT, Nat.reduceLeDiff, Nat.reduceEqDiff, Nat.reduceBEq, Int.reduceAdd, Int.reduceSub, Int.reduceMul, Int.reduceNeg, Int.reduceEq, Int.reduceNe, Int.reduceLT, Int.reduceLE, Int.reduceToNat, List.set_cons_zero, wS_graph hw, hd]
/-! ## how many unlike pictures -/
def stepC (w b : Nat) (x : Int × Int) (s : List Nat) : Int × Int := (x.1 + (posWith s : Nat) * (b : Int) ^ (ringsI w s).toNat, x.2 + (posWith s : Nat))
def sumsC (w m b : Nat) : Int × Int := (sizeLots 20 m m).foldl (stepC w b) (0, 0)
def countI (w m b : Nat) : Int := (sumsC w m b).1 / (sumsC w m b).2
theorem parts_ok : ∀ s ∈ partsLit, s.length ≤ 8 ∧ (∀ o ∈ s, o < 100000) ∧ posWith s ≤ 40320 ∧ ∀ w, w < 3 → 0 ≤ ringsI w s ∧ ringsI w s ≤ 64 := by
  have h : (partsLit.all fun s => decide (s.length ≤ 8) && (s.all fun o => decide (o < 100000)) && decide (posWith s ≤ 40320) && (List.range 3).all fun w => decide (0 ≤ ringsI w s) && decide (ringsI w s ≤ 64)) = true := by decide +kernel
  intro s hs
  have a := List.all_eq_true.mp h s hs
  simp only [Bool.and_eq_true, decide_eq_true_eq, List.all_eq_true, List.mem_range] at a
  obtain ⟨⟨⟨a1, a2⟩, a3⟩, a4⟩ := a
  exact ⟨a1, a2, a3, fun w hw => a4 w hw⟩
theorem pow_le {b k : Nat} (hb : b ≤ 10) (hk : k ≤ 64) : ((b : Int) ^ k) ≤ 10000000000000000000000000000000000000000000000000000000000000000 ∧ 0 ≤ ((b : Int) ^ k) := by
  have h1 : b ^ k ≤ 10 ^ 64 := Nat.le_trans (Nat.pow_le_pow_left hb k) (Nat.pow_le_pow_right (by decide) hk)
  have h2 : (b : Int) ^ k = ((b ^ k : Nat) : Int) := by rw [Int.natCast_pow]
  have h3 : (10 : Nat) ^ 64 = 10000000000000000000000000000000000000000000000000000000000000000 := by decide +kernel
  rw [h3] at h1
  rw [h2]
  generalize b ^ k = z at h1
  omega
theorem made_loop {b r : Nat} {S : Store} (hb : b ≤ 10) (hr : r ≤ 64) {a0 a2 a3 a4 a5 a6 a9 : Option SV} : ∃ k9,
    mFor (mRg1 (eV 7)) (tgN 9) m_count_pictures_L1 100000 [a0, some (.v (.int b)), a2, a3, a4, a5, a6, some (.v (.int r)), some (.v (.int 1)), a9] S =
      .next [a0, some (.v (.int b)), a2, a3, a4, a5, a6, some (.v (.int r)), some (.v (.int ((b : Int) ^ r))), k9] S := by
  obtain ⟨ρ2, S2, q1, k9, q2, q3⟩ := mFold_pre (tg := tgN 9) (b := m_count_pictures_L1) (fun (i : Nat) => D.int (i : Int))
    (fun pre ρ S' => ∃ k9, ρ = [a0, some (.v (.int b)), a2, a3, a4, a5, a6, some (.v (.int r)), some (.v (.int ((b : Int) ^ pre.length))), k9] ∧ S' = S) (List.range r)
    (fun pre a post hl ρ S' ⟨k9, hρ, hS'⟩ => by
      subst hρ hS'
      have hp : pre.length ≤ 64 := by
        have := congrArg List.length hl
        simp at this
        omega
      obtain ⟨p1, p2⟩ := pow_le hb hp
      refine ⟨_, [a0, some (.v (.int b)), a2, a3, a4, a5, a6, some (.v (.int r)), some (.v (.int ((b : Int) ^ (pre ++ [a]).length))), some (.v (.int (a : Int)))], S', rfl, .inl ?_, _, rfl, rfl⟩
      have e : (b : Int) ^ (pre ++ [a]).length = (b : Int) ^ pre.length * b := by rw [List.length_append, List.length_singleton, Int.pow_succ]
      rw [e]
      have f : ∀ {ρ : DL.Env} {S : Store}, gMul (.v (.int ((b : Int) ^ pre.length))) (.v (.int b)) ρ S = .ok (.v (.int ((b : Int) ^ pre.length * b))) S := fun {_ _} => gMul_s (by omega) (by omega)
      simp only [m_count_pictures_L1, mSeq, mSet, Bool.and_true, Bool.true_and, Bool.and_false, Bool.false_and, Bool.or_true, Bool.true_or, Bool.or_false, Bool.false_or,  mRet, mRetN, mIf, mExpr, mNext, mBrk, mCont, eV, eC, eG, m2, gI, R.bind, svE, outE, mB, mCmp, mTV, mNot, mAnd, mOr, mIfE, mAndV, mOrV, mNotV, mNeg, mChain, mConsA, mNilA, mStarA, mTup, mLst, pub, pub_vals, List.append_nil, mCall, g1, g2, mFrz, frzE, mFrzS, flE, mStore, mPar, mUnp, svs, setMany, mAug, mMeth, isOb, obTy, setOb, plOf, plPut, mIsT, tyN, tyD, Ty.isa, fLen, fTup, fLst, fInt, fAbs, fII, fSum, fAll, fAny, asK, asSeq, asL, asT, asI, asM, asD, gEq_int, gEq_str, gOrd, ix_t, ix_c, ix_f, gAdd, fAdd, fSub, mFn, mRaise, fOne, kOne, tgN, tgT, tgCons, tgNil, mSrc, srcE, mEnum, kEnum, IT.enum, mZip, kZip, mLc, lcRun, lcOne, wipeE, mYes, fAppend, fExtend, D.isI, List.getElem?_cons_zero, List.getElem?_cons_succ, List.set_cons_zero, List.set_cons_succ, List.getElem?_nil, List.length_cons, List.length_nil, Option.some.injEq, Bool.false_eq_true, if_true, if_false, ite_true, ite_false, reduceIte, Bool.xor_false, Bool.xor_true, Bool.not_true, Bool.not_false, Bool.false_xor, Bool.true_xor, decide_true, decide_false, Nat.zero_add, reduceCtorEq, Nat.reduceAdd, Nat.reduceSub, Nat.reduceMul, Nat.reduceLT, Nat.reduceLeDiff, Nat.reduceEqDiff, Nat.reduceBEq, Int.reduceAdd, Int.reduceSub, Int.reduceMul, Int.reduceNeg, Int.reduceEq, Int.reduceNe, Int.reduceLT, Int.reduceLE, Int.reduceToNat, List.set_cons_zero, f])
    [a0, some (.v (.int b)), a2, a3, a4, a5, a6, some (.v (.int r)), some (.v (.int 1)), a9] S ⟨_, rfl, rfl⟩
  subst q2 q3
  refine ⟨k9, ?_⟩
  rw [List.length_range] at q1
  exact (mFor_fix (rg1_nat (by omega) rfl)).trans q1
theorem count_loop {w m b : Nat} {S : Store} (hw : w < 3) (hm : 1 ≤ m ∧ m ≤ 8) (hb : b ≤ 10) (hS : Shut S) {a5 a6 a7 a8 a9 : Option SV} : ∃ k5 k6 k7 k8 k9,
    m_count_pictures_S1 [some (.v (.int m)), some (.v (.int b)), some (.v (.str (wS w))), some (.v (.int 0)), some (.v (.int 0)), a5, a6, a7, a8, a9] S =
      .next [some (.v (.int m)), some (.v (.int b)), some (.v (.str (wS w))), some (.v (.int (sumsC w m b).1)), some (.v (.int (sumsC w m b).2)), k5, k6, k7, k8, k9] S := by
  obtain ⟨ρ2, S2, q1, k5, k6, k7, k8, k9, q2, q3⟩ := mFold_rel (tg := tgN 5) (b := m_count_pictures_L2) encT
    (fun (x : Int × Int) ρ S' => ∃ k5 k6 k7 k8 k9, ρ = [some (.v (.int m)), some (.v (.int b)), some (.v (.str (wS w))), some (.v (.int x.1)), some (.v (.int x.2)), k5, k6, k7, k8, k9] ∧ S' = S) (stepC w b) (sizeLots 20 m m)
    (fun s hs x ρ S' ⟨k5, k6, k7, k8, k9, hρ, hS'⟩ => by
      subst hρ hS'
      have hp := parts_mem hm hs
      obtain ⟨p1, p2, p3, p4⟩ := parts_ok s hp
      obtain ⟨p5, p6⟩ := p4 w hw
      obtain ⟨r, hr⟩ : ∃ r : Nat, ringsI w s = r := ⟨(ringsI w s).toNat, by omega⟩
      have hr2 : r ≤ 64 := by omega
      have e1 := r_pw (S := S') hS hp
      have e2 := r_pr (S := S') hw hS p2 (by omega)
      obtain ⟨k9', h1⟩ := made_loop (b := b) (r := r) (S := S') hb hr2 (a0 := some (.v (.int m))) (a2 := some (.v (.str (wS w)))) (a3 := some (.v (.int x.1))) (a4 := some (.v (.int x.2))) (a5 := some (.v (encT s))) (a6 := some (.v (.int (posWith s : Nat)))) (a9 := k9)
      obtain ⟨g1', g2'⟩ := pow_le hb hr2
      have f : ∀ {ρ : DL.Env} {S : Store}, gMul (.v (.int (posWith s : Nat))) (.v (.int ((b : Int) ^ r))) ρ S = .ok (.v (.int ((posWith s : Nat) * (b : Int) ^ r))) S := fun {_ _} => gMul_s (by omega) (by omega)
      refine ⟨_, [some (.v (.int m)), some (.v (.int b)), some (.v (.str (wS w))), some (.v (.int (stepC w b x s).1)), some (.v (.int (stepC w b x s).2)), some (.v (encT s)), some (.v (.int (posWith s : Nat))), some (.v (.int r)), some (.v (.int ((b : Int) ^ r))), k9'], S', rfl, .inl ?_, _, _, _, _, _, rfl, rfl⟩
      refine (seq_n (ρ1 := [some (.v (.int m)), some (.v (.int b)), some (.v (.str (wS w))), some (.v (.int x.1)), some (.v (.int x.2)), some (.v (encT s)), some (.v (.int (posWith s : Nat))), some (.v (.int r)), some (.v (.int 1)), k9]) (S1 := S') ?_).trans ?_
      · simp only [mSeq, mSet, Bool.and_true, Bool.true_and, Bool.and_false, Bool.false_and, Bool.or_true, Bool.true_or, Bool.or_false, Bool.false_or,  mRet, mRetN, mIf, mExpr, mNext, mBrk, mCont, eV, eC, eG, m2, gI, R.bind, svE, outE, mB, mCmp, mTV, mNot, mAnd, mOr, mIfE, mAndV, mOrV, mNotV, mNeg, mChain, mConsA, mNilA, mStarA, mTup, mLst, pub, pub_vals, List.append_nil, mCall, g1, g2, mFrz, frzE, mFrzS, flE, mStore, mPar, mUnp, svs, setMany, mAug, mMeth, isOb, obTy, setOb, plOf, plPut, mIsT, tyN, tyD, Ty.isa, fLen, fTup, fLst, fInt, fAbs, fII, fSum, fAll, fAny, asK, asSeq, asL, asT, asI, asM, asD, gEq_int, gEq_str, gOrd, ix_t, ix_c, ix_f, gAdd, fAdd, fSub, mFn, mRaise, fOne, kOne, tgN, tgT, tgCons, tgNil, mSrc, srcE, mEnum, kEnum, IT.enum, mZip, kZip, mLc, lcRun, lcOne, wipeE, mYes, fAppend, fExtend, D.isI, List.getElem?_cons_zero, List.getElem?_cons_succ, List.set_cons_zero, List.set_cons_succ, List.getElem?_nil, List.length_cons, List.length_nil, Option.some.injEq, Bool.false_eq_true, if_true, if_false, ite_true, ite_false, reduceIte, Bool.xor_false, Bool.xor_true, Bool.not_true, Bool.not_false, Bool.false_xor, Bool.true_xor, decide_true, decide_false, Nat.zero_add, reduceCtorEq, Nat.reduceAdd, Nat.reduceSub, Nat.reduceMul, Nat.reduceLT, Nat.reduceLeDiff, Nat.reduceEqDiff, Nat.reduceBEq, Int.reduceAdd, Int.reduceSub, Int.reduceMul, Int.reduceNeg, Int.reduceEq, Int.reduceNe, Int.reduceLT, Int.reduceLE, Int.reduceToNat, List.set_cons_zero, e1, e2, hr]
      refine (seq_n h1).trans ?_
      have e3 : (stepC w b x s).1 = x.1 + (posWith s : Nat) * (b : Int) ^ r := by unfold stepC; rw [hr]; rfl
      have e4 : (stepC w b x s).2 = x.2 + (posWith s : Nat) := rfl
      rw [e3, e4]
      simp only [mSeq, mSet, Bool.and_true, Bool.true_and, Bool.and_false, Bool.false_and, Bool.or_true, Bool.true_or, Bool.or_false, Bool.false_or,  mRet, mRetN, mIf, mExpr, mNext, mBrk, mCont, eV, eC, eG, m2, gI, R.bind, svE, outE, mB, mCmp, mTV, mNot, mAnd, mOr, mIfE, mAndV, mOrV, mNotV, mNeg, mChain, mConsA, mNilA, mStarA, mTup, mLst, pub, pub_vals, List.append_nil, mCall, g1, g2, mFrz, frzE, mFrzS, flE, mStore, mPar, mUnp, svs, setMany, mAug, mMeth, isOb, obTy, setOb, plOf, plPut, mIsT, tyN, tyD, Ty.isa, fLen, fTup, fLst, fInt, fAbs, fII, fSum, fAll, fAny, asK, asSeq, asL, asT, asI, asM, asD, gEq_int, gEq_str, gOrd, ix_t, ix_c, ix_f, gAdd, fAdd, fSub, mFn, mRaise, fOne, kOne, tgN, tgT, tgCons, tgNil, mSrc, srcE, mEnum, kEnum, IT.enum, mZip, kZip, mLc, lcRun, lcOne, wipeE, mYes, fAppend, fExtend, D.isI, List.getElem?_cons_zero, List.getElem?_cons_succ, List.set_cons_zero, List.set_cons_succ, List.getElem?_nil, List.length_cons, List.length_nil, Option.some.injEq, Bool.false_eq_true, if_true, if_false, ite_true, ite_false, reduceIte, Bool.xor_false, Bool.xor_true, Bool.not_true, Bool.not_false, Bool.false_xor, Bool.true_xor, decide_true, decide_false, Nat.zero_add, reduceCtorEq, Nat.reduceAdd, Nat.reduceSub, Nat.reduceMul, Nat.reduceLT, Nat.reduceLeDiff, Nat.reduceEqDiff, Nat.reduceBEq, Int.reduceAdd, Int.reduceSub, Int.reduceMul, Int.reduceNeg, Int.reduceEq, Int.reduceNe, Int.reduceLT, Int.reduceLE, Int.reduceToNat, List.set_cons_zero, f])
    (0, 0) [some (.v (.int m)), some (.v (.int b)), some (.v (.str (wS w))), some (.v (.int 0)), some (.v (.int 0)), a5, a6, a7, a8, a9] S ⟨_, _, _, _, _, rfl, rfl⟩
  subst q2 q3
  refine ⟨k5, k6, k7, k8, k9, ?_⟩
  unfold sumsC
  rw [← q1]
  unfold m_count_pictures_S1
  refine mFor_fix ?_
  simp only [mSeq, mSet, Bool.and_true, Bool.true_and, Bool.and_false, Bool.false_and, Bool.or_true, Bool.true_or, Bool.or_false, Bool.false_or,  mRet, mRetN, mIf, mExpr, mNext, mBrk, mCont, eV, eC, eG, m2, gI, R.bind, svE, outE, mB, mCmp, mTV, mNot, mAnd, mOr, mIfE, mAndV, mOrV, mNotV, mNeg, mChain, mConsA, mNilA, mStarA, mTup, mLst, pub, pub_vals, List.append_nil, mCall, g1, g2, mFrz, frzE, mFrzS, flE, mStore, mPar, mUnp, svs, setMany, mAug, mMeth, isOb, obTy, setOb, plOf, plPut, mIsT, tyN, tyD, Ty.isa, fLen, fTup, fLst, fInt, fAbs, fII, fSum, fAll, fAny, asK, asSeq, asL, asT, asI, asM, asD, gEq_int, gEq_str, gOrd, ix_t, ix_c, ix_f, gAdd, fAdd, fSub, mFn, mRaise, fOne, kOne, tgN, tgT, tgCons, tgNil, mSrc, srcE, mEnum, kEnum, IT.enum, mZip, kZip, mLc, lcRun, lcOne, wipeE, mYes, fAppend, fExtend, D.isI, List.getElem?_cons_zero, List.getElem?_cons_succ, List.set_cons_zero, List.set_cons_succ, List.getElem?_nil, List.length_cons, List.length_nil, Option.some.injEq, Bool.false_eq_true, if_true, if_false, ite_true, ite_false, reduceIte, Bool.xor_false, Bool.xor_true, Bool.not_true, Bool.not_false, Bool.false_xor, Bool.true_xor, decide_true, decide_false, Nat.zero_add, reduceCtorEq, Nat.reduceAdd, Nat.reduceSub, Nat.reduceMul, Nat.reduceLT, Nat.reduceLeDiff, Nat.reduceEqDiff, Nat.reduceBEq, Int.reduceAdd, Int.reduceSub, Int.reduceMul, Int.reduceNeg, Int.reduceEq, Int.reduceNe, Int.reduceLT, Int.reduceLE, Int.reduceToNat, List.set_cons_zero, r_lots 20 m m S2 hS (by omega) (by omega) (by omega) (by omega)]
theorem wS_in {w : Nat} (hw : w < 3) {S : Store} {ρ : DL.Env} : gIn true (.v (.str (wS w))) (.v (.tup [.str "any", .str "loose", .str "graph"])) ρ S = some false := by
  match w, hw with
  | 0, _ => rfl
  | 1, _ => rfl
  | 2, _ => rfl
theorem sums_pos {w m b : Nat} (hm : 1 ≤ m ∧ m ≤ 8) : 0 < (sumsC w m b).2 ∧ (sumsC w m b).2 < 1000000000000000000000000000000000000000000000000000000000000000000000000000 := by
  have h : ∀ (l : List (List Nat)) (x : Int × Int), (l.foldl (stepC w b) x).2 = l.foldl (fun (y : Int) s => y + (posWith s : Nat)) x.2 := fun l => by
    induction l with
    | nil => intro x; rfl
    | cons a r ih => intro x; rw [List.foldl_cons, ih]; rfl
  unfold sumsC
  rw [h]
  have k : ((List.range 8).all fun m => decide (0 < (sizeLots 20 (m + 1) (m + 1)).foldl (fun (y : Int) s => y + ((posWith s : Nat) : Int)) 0) && decide ((sizeLots 20 (m + 1) (m + 1)).foldl (fun (y : Int) s => y + ((posWith s : Nat) : Int)) 0 < 1000000000000000000000000000000000000000000000000000000000000000000000000000)) = true := by decide +kernel
  have a := List.all_eq_true.mp k (m - 1) (List.mem_range.mpr (by omega))
  rw [show m - 1 + 1 = m by omega] at a
  simp only [Bool.and_eq_true, decide_eq_true_eq] at a
  exact a
theorem r_count {w m b : Nat} {S : Store} (hw : w < 3) (hm : 1 ≤ m ∧ m ≤ 8) (hb : 1 ≤ b ∧ b ≤ 10) (hS : Shut S) : M_count_pictures [.int m, .int b, .str (wS w)] S = .ok (.v (.int (countI w m b))) S := by
  refine fc_v hS rfl ?_
  show m_count_pictures [some (.v (.int m)), some (.v (.int b)), some (.v (.str (wS w))), none, none, none, none, none, none, none] S = _
  obtain ⟨k5, k6, k7, k8, k9, h1⟩ := count_loop (w := w) (m := m) (b := b) (S := S) hw hm hb.2 hS (a5 := none) (a6 := none) (a7 := none) (a8 := none) (a9 := none)
  obtain ⟨s1, s2⟩ := sums_pos (w := w) (b := b) hm
  have e1 := r_look (S := S) (i := m) (lo := 1) (hi := 8) hS (by omega)
  have e2 := r_look (S := S) (i := b) (lo := 1) (hi := 10) hS (by omega)
  simp only [m_count_pictures, mSeq, mSet, Bool.and_true, Bool.true_and, Bool.and_false, Bool.false_and, Bool.or_true, Bool.true_or, Bool.or_false, Bool.false_or,  mRet, mRetN, mIf, mExpr, mNext, mBrk, mCont, eV, eC, eG, m2, gI, R.bind, svE, outE, mB, mCmp, mTV, mNot, mAnd, mOr, mIfE, mAndV, mOrV, mNotV, mNeg, mChain, mConsA, mNilA, mStarA, mTup, mLst, pub, pub_vals, List.append_nil, mCall, g1, g2, mFrz, frzE, mFrzS, flE, mStore, mPar, mUnp, svs, setMany, mAug, mMeth, isOb, obTy, setOb, plOf, plPut, mIsT, tyN, tyD, Ty.isa, fLen, fTup, fLst, fInt, fAbs, fII, fSum, fAll, fAny, asK, asSeq, asL, asT, asI, asM, asD, gEq_int, gEq_str, gOrd, ix_t, ix_c, ix_f, gAdd, fAdd, fSub, mFn, mRaise, fOne, kOne, tgN, tgT, tgCons, tgNil, mSrc, srcE, mEnum, kEnum, IT.enum, mZip, kZip, mLc, lcRun, lcOne, wipeE, mYes, fAppend, fExtend, D.isI, List.getElem?_cons_zero, List.getElem?_cons_succ, List.set_cons_zero, List.set_cons_succ, List.getElem?_nil, List.length_cons, List.length_nil, Option.some.injEq, Bool.false_eq_true, if_true, if_false, ite_true, ite_false, reduceIte, Bool.xor_false, Bool.xor_true, Bool.not_true, Bool.not_false, Bool.false_xor, Bool.true_xor, decide_true, decide_false, Nat.zero_add, reduceCtorEq, Nat.reduceAdd, Nat.reduceSub, Nat.reduceMul, Nat.reduceLT, Nat.reduceLeDiff, Nat.reduceEqDiff, Nat.reduceBEq, Int.reduceAdd, Int.reduceSub, Int.reduceMul, Int.reduceNeg, Int.reduceEq, Int.reduceNe, Int.reduceLT, Int.reduceLE, Int.reduceToNat, List.set_cons_zero, e1, e2, wS_in hw, sizeL, h1, fDiv_s s1 s2]
  rfl
end K94

set_option Elab.async false
set_option autoImplicit false
set_option linter.all false
set_option maxRecDepth 100000
set_option maxHeartbeats 2000000
namespace K94
open PySem PySem.Spec PyProof.Rows L2 DL
/-! ## all positions, the pairs -/
def every (many : Nat) : List (List Nat) := (List.range many).foldl (fun found _ => found.flatMap fun row => ((List.range many).filter fun t => !row.contains t).map fun t => row ++ [t]) [[]]
def freeP (w m : Nat) : List (Nat × Nat) := (List.range m).flatMap fun one => (if w = 0 then [(one, one)] else []) ++ ((List.range m).filter fun other => Nat.blt one other || (Nat.blt other one && w != 2)).map fun other => (one, other)
theorem every1 (S : Store) : m__law_every (startE 6 [.int 1]) S = .ret (.v (.cl ((every 1).map rowD))) S := by kernel_rfl
theorem every2 (S : Store) : m__law_every (startE 6 [.int 2]) S = .ret (.v (.cl ((every 2).map rowD))) S := by kernel_rfl
theorem every3 (S : Store) : m__law_every (startE 6 [.int 3]) S = .ret (.v (.cl ((every 3).map rowD))) S := by kernel_rfl
theorem every4 (S : Store) : m__law_every (startE 6 [.int 4]) S = .ret (.v (.cl ((every 4).map rowD))) S := by kernel_rfl
theorem every5 (S : Store) : m__law_every (startE 6 [.int 5]) S = .ret (.v (.cl ((every 5).map rowD))) S := by kernel_rfl
theorem rowD_free (l : List Nat) : (rowD l).free = true := natsD_free l
theorem r_every {m : Nat} {S : Store} (hS : Shut S) (hm : 1 ≤ m ∧ m ≤ 5) : M__law_every [.int m] S = .ok (.v (.cl ((every m).map rowD))) S := by
  have hf : (D.cl ((every m).map rowD)).free = true := frees_map rowD rowD_free _
  have : m = 1 ∨ m = 2 ∨ m = 3 ∨ m = 4 ∨ m = 5 := by omega
  rcases this with rfl | rfl | rfl | rfl | rfl
  · exact fc_v hS hf (every1 S)
  · exact fc_v hS hf (every2 S)
  · exact fc_v hS hf (every3 S)
  · exact fc_v hS hf (every4 S)
  · exact fc_v hS hf (every5 S)
theorem pairsD_free (l : List (Nat × Nat)) : D.frees (l.map prD) = true := frees_map prD (fun _ => rfl) l
theorem r_free {w m : Nat} {S : Store} (hS : Shut S) (hw : w < 3) (hm : 1 ≤ m ∧ m ≤ 5) : M__law_free_pairs [.int m, .str (wS w)] S = .ok (.fl ((freeP w m).map prD)) S := by
  refine fc_l hS (pairsD_free _) ?_
  have h1 : m = 1 ∨ m = 2 ∨ m = 3 ∨ m = 4 ∨ m = 5 := by omega
  have h2 : w = 0 ∨ w = 1 ∨ w = 2 := by omega
  rcases h2 with rfl | rfl | rfl
  all_goals (rcases h1 with rfl | rfl | rfl | rfl | rfl <;> kernel_rfl)
/-! ## rings of pairs, one position -/
def stepR (w : Nat) (p : List Nat) (c : Nat × Nat) : Nat × Nat :=
  let a := p.getD c.1 0
  let b := p.getD c.2 0
  if w = 2 then (if Nat.ble a b = true then (a, b) else (b, a)) else (a, b)
def ringOff (w : Nat) (p : List Nat) : Nat → List (Nat × Nat) → Nat × Nat → List (Nat × Nat) × (Nat × Nat)
  | 0, L, c => (L, c)
  | f + 1, L, c => if c ∈ L then ringOff w p f (L.filter fun a => !decide (a = c)) (stepR w p c) else (L, c)
def ringsN (w : Nat) (p : List Nat) : Nat → List (Nat × Nat) → Nat → Nat
  | 0, _, k => k
  | f + 1, L, k => match sortN pairLe L with
    | [] => k
    | c :: _ => ringsN w p f (ringOff w p 100000 L c).1 (k + 1)
def PosOk (p : List Nat) : Prop := ∀ x ∈ p, x < p.length
theorem getD_lt {p : List Nat} {i : Nat} (hp : PosOk p) (hi : i < p.length) : p.getD i 0 < p.length := by
  rw [List.getD_eq_getElem?_getD, List.getElem?_eq_getElem hi]
  exact hp _ (List.getElem_mem hi)
theorem step_ok {w : Nat} {p : List Nat} {c : Nat × Nat} (hp : PosOk p) (hc : c.1 < p.length ∧ c.2 < p.length) : (stepR w p c).1 < p.length ∧ (stepR w p c).2 < p.length := by
  have h1 := getD_lt hp hc.1
  have h2 := getD_lt hp hc.2
  unfold stepR
  dsimp only
  split
  · split
    · exact ⟨h1, h2⟩
    · exact ⟨h2, h1⟩
  · exact ⟨h1, h2⟩
theorem at_row {p : List Nat} {i : Nat} (hi : i < p.length) : atI (natsD p) (i : Int) = some (.int (p.getD i 0 : Nat)) := by
  refine at_nat ?_
  unfold natsD
  rw [List.getElem?_map, List.getElem?_eq_getElem hi, List.getD_eq_getElem?_getD, List.getElem?_eq_getElem hi]
  first | done | rfl
theorem sort2 (a b : Nat) : sortD [.int (a : Int), .int (b : Int)] = if Nat.ble a b = true then [.int (a : Int), .int (b : Int)] else [.int (b : Int), .int (a : Int)] := by
  show insD (.int (a : Int)) [.int (b : Int)] = _
  unfold insD
  have e : leD (.int (a : Int)) (.int (b : Int)) = Nat.ble a b := by
    show (!PySem.W.dataLt (.int (b : Int)) (.int (a : Int))) = _
    rw [PySem.W.dataLt_int]
    cases hb : Nat.ble a b with
    | true => have := Nat.le_of_ble_eq_true hb; rw [decide_eq_false (by omega)]; rfl
    | false =>
      have : ¬ a ≤ b := fun z => by rw [Nat.ble_eq_true_of_le z] at hb; cases hb
      rw [decide_eq_true (by omega)]; rfl
  rw [e]
  rfl
theorem filter_lt {α : Type} [DecidableEq α] {c : α} {L : List α} (h : c ∈ L) : (L.filter fun a => !decide (a = c)).length < L.length := by
  induction L with
  | nil => cases h
  | cons a r ih =>
    rw [List.filter_cons]
    by_cases e : a = c
    · subst e
      simp only [decide_true, Bool.not_true, Bool.false_eq_true, if_false, List.length_cons]
      exact Nat.lt_succ_of_le (List.length_filter_le _ _)
    · have h2 : c ∈ r := by
        rcases List.mem_cons.mp h with rfl | h
        · exact absurd rfl e
        · exact h
      simp only [decide_eq_false e, Bool.not_false, if_true, List.length_cons]
      exact Nat.succ_lt_succ (ih h2)
abbrev kvT (L : List (Nat × Nat)) : List (D × D) := kvD prD (fun _ => D.bl true) L
theorem S5_ok {w : Nat} (hw : w < 3) {p : List Nat} {c : Nat × Nat} {S : Store} {a0 a1 a3 a4 a5 a6 a7 a8 a10 a11 a12 : Option SV} :
    m__law_by_rings_S5 [a0, a1, some (.v (.str (wS w))), a3, a4, a5, a6, a7, a8, some (.v (.tup [.int (p.getD c.1 0 : Nat), .int (p.getD c.2 0 : Nat)])), a10, a11, a12] S =
      .next [a0, a1, some (.v (.str (wS w))), a3, a4, a5, a6, a7, a8, some (.v (prD (stepR w p c))), a10, a11, a12] S := by
  have ok : sortOk [.int (p.getD c.1 0 : Nat), .int (p.getD c.2 0 : Nat)] = true := rfl
  by_cases h : w = 2
  · have hd : decide (w = 2) = true := decide_eq_true h
    simp only [m__law_by_rings_S5, mSeq, mSet, Bool.and_true, Bool.true_and, Bool.and_false, Bool.false_and, Bool.or_true, Bool.true_or, Bool.or_false, Bool.false_or,  mRet, mRetN, mIf, mExpr, mNext, mBrk, mCont, eV, eC, eG, m2, gI, R.bind, svE, outE, mB, mCmp, mTV, mNot, mAnd, mOr, mIfE, mAndV, mOrV, mNotV, mNeg, mChain, mConsA, mNilA, mStarA, mTup, mLst, pub, pub_vals, List.append_nil, mCall, g1, g2, mFrz, frzE, mFrzS, flE, mStore, mPar, mUnp, svs, setMany, mAug, mMeth, isOb, obTy, setOb, plOf, plPut, mIsT, tyN, tyD, Ty.isa, fLen, fTup, fLst, fInt, fAbs, fII, fSum, fAll, fAny, asK, asSeq, asL, asT, asI, asM, asD, gEq_int, gEq_str, gOrd, ix_t, ix_c, ix_f, gAdd, fAdd, fSub, mFn, mRaise, fOne, kOne, tgN, tgT, tgCons, tgNil, mSrc, srcE, mEnum, kEnum, IT.enum, mZip, kZip, mLc, lcRun, lcOne, wipeE, mYes, fAppend, fExtend, D.isI, List.getElem?_cons_zero, List.getElem?_cons_succ, List.set_cons_zero, List.set_cons_succ, List.getElem?_nil, List.length_cons, List.length_nil, Option.some.injEq, Bool.false_eq_true, if_true, if_false, ite_true, ite_false, reduceIte, Bool.xor_false, Bool.xor_true, Bool.not_true, Bool.not_false, Bool.false_xor, Bool.true_xor, decide_true, decide_false, Nat.zero_add, reduceCtorEq, Nat.reduceAdd, Nat.reduceSub, Nat.reduceMul, Nat.reduceLT, Nat.reduceLeDiff, Nat.reduceEqDiff, Nat.reduceBEq, Int.reduceAdd, Int.reduceSub, Int.reduceMul, Int.reduceNeg, Int.reduceEq, Int.reduceNe, Int.reduceLT, Int.reduceLE, Int.reduceToNat, List.set_cons_zero, wS_graph hw, hd, fSorted, ok, sort2]
    unfold stepR
    simp only [if_pos h]
    split <;> rfl
  · have hd : decide (w = 2) = false := decide_eq_false h
    simp only [m__law_by_rings_S5, mSeq, mSet, Bool.and_true, Bool.true_and, Bool.and_false, Bool.false_and, Bool.or_true, Bool.true_or, Bool.or_false, Bool.false_or,  mRet, mRetN, mIf, mExpr, mNext, mBrk, mCont, eV, eC, eG, m2, gI, R.bind, svE, outE, mB, mCmp, mTV, mNot, mAnd, mOr, mIfE, mAndV, mOrV, mNotV, mNeg, mChain, mConsA, mNilA, mStarA, mTup, mLst, pub, pub_vals, List.append_nil, mCall, g1, g2, mFrz, frzE, mFrzS, flE, mStore, mPar, mUnp, svs, setMany, mAug, mMeth, isOb, obTy, setOb, plOf, plPut, mIsT, tyN, tyD, Ty.isa, fLen, fTup, fLst, fInt, fAbs, fII, fSum, fAll, fAny, asK, asSeq, asL, asT, asI, asM, asD, gEq_int, gEq_str, gOrd, ix_t, ix_c, ix_f, gAdd, fAdd, fSub, mFn, mRaise, fOne, kOne, tgN, tgT, tgCons, tgNil, mSrc, srcE, mEnum, kEnum, IT.enum, mZip, kZip, mLc, lcRun, lcOne, wipeE, mYes, fAppend, fExtend, D.isI, List.getElem?_cons_zero, List.getElem?_cons_succ, List.set_cons_zero, List.set_cons_succ, List.getElem?_nil, List.length_cons, List.length_nil, Option.some.injEq, Bool.false_eq_true, if_true, if_false, ite_true, ite_false, reduceIte, Bool.xor_false, Bool.xor_true, Bool.not_true, Bool.not_false, Bool.false_xor, Bool.true_xor, decide_true, decide_false, Nat.zero_add, reduceCtorEq, Nat.reduceAdd, Nat.reduceSub, Nat.reduceMul, Nat.reduceLT, Nat.reduceLeDiff, Nat.reduceEqDiff, Nat.reduceBEq, Int.reduceAdd, Int.reduceSub, Int.reduceMul, Int.reduceNeg, Int.reduceEq, Int.reduceNe, Int.reduceLT, Int.reduceLE, Int.reduceToNat, List.set_cons_zero, wS_graph hw, hd]
    unfold stepR
    simp only [if_neg h]
    rfl
theorem inner_loop {w : Nat} (hw : w < 3) {p : List Nat} (hp : PosOk p) {S : Store} {a0 a1 a3 a4 a5 a8 a10 a11 a12 : Option SV} : ∀ (n : Nat) (L : List (Nat × Nat)) (c : Nat × Nat), L.length < n → c.1 < p.length ∧ c.2 < p.length →
    mWhile (mCmp (gIn false) (eV 9) (eV 7)) m__law_by_rings_L7 n [a0, a1, some (.v (.str (wS w))), a3, a4, a5, some (.v (rowD p)), some (.od (kvT L)), a8, some (.v (prD c)), a10, a11, a12] S =
      .next [a0, a1, some (.v (.str (wS w))), a3, a4, a5, some (.v (rowD p)), some (.od (kvT (ringOff w p n L c).1)), a8, some (.v (prD (ringOff w p n L c).2)), a10, a11, a12] S
  | 0, _, _, h, _ => absurd h (Nat.not_lt_zero _)
  | n + 1, L, c, h, hc => by
    by_cases hm : c ∈ L
    · have hin : ∀ {ρ : DL.Env} {S : Store}, ρ[7]? = some (some (.od (kvT L))) → gIn false (.v (prD c)) (.sl 7) ρ S = some true := fun {_ _} h7 => in_enc_t enc_pair hm h7
      have ih := inner_loop hw hp (S := S) (a0 := a0) (a1 := a1) (a3 := a3) (a4 := a4) (a5 := a5) (a8 := a8) (a10 := a10) (a11 := a11) (a12 := a12) n (L.filter fun a => !decide (a = c)) (stepR w p c) (by have := filter_lt hm; omega) (step_ok hp hc)
      have e : ringOff w p (n + 1) L c = ringOff w p n (L.filter fun a => !decide (a = c)) (stepR w p c) := by rw [ringOff, if_pos hm]
      rw [e, ← ih, mWhile]
      have hpop : fDPop (.dic (kvT L)) [prD c] = some (.dic (kvT (L.filter fun a => !decide (a = c)))) := by
        show (if (kOk (kvT L) (prD c) && (kGet (kvT L) (prD c)).isSome) = true then some (Ob.dic (kDel (kvT L) (prD c))) else none) = _
        rw [kOk_enc enc_pair, get_enc_t enc_pair hm, del_enc enc_pair]
        rfl
      have h1 : m__law_by_rings_L7 [a0, a1, some (.v (.str (wS w))), a3, a4, a5, some (.v (rowD p)), some (.od (kvT L)), a8, some (.v (prD c)), a10, a11, a12] S =
          .next [a0, a1, some (.v (.str (wS w))), a3, a4, a5, some (.v (rowD p)), some (.od (kvT (L.filter fun a => !decide (a = c)))), a8, some (.v (prD (stepR w p c))), a10, a11, a12] S := by
        refine (seq_n (ρ1 := [a0, a1, some (.v (.str (wS w))), a3, a4, a5, some (.v (rowD p)), some (.od (kvT (L.filter fun a => !decide (a = c)))), a8, some (.v (prD c)), a10, a11, a12]) (S1 := S) ?_).trans ?_
        · simp only [mSeq, mSet, Bool.and_true, Bool.true_and, Bool.and_false, Bool.false_and, Bool.or_true, Bool.true_or, Bool.or_false, Bool.false_or,  mRet, mRetN, mIf, mExpr, mNext, mBrk, mCont, eV, eC, eG, m2, gI, R.bind, svE, outE, mB, mCmp, mTV, mNot, mAnd, mOr, mIfE, mAndV, mOrV, mNotV, mNeg, mChain, mConsA, mNilA, mStarA, mTup, mLst, pub, pub_vals, List.append_nil, mCall, g1, g2, mFrz, frzE, mFrzS, flE, mStore, mPar, mUnp, svs, setMany, mAug, mMeth, isOb, obTy, setOb, plOf, plPut, mIsT, tyN, tyD, Ty.isa, fLen, fTup, fLst, fInt, fAbs, fII, fSum, fAll, fAny, asK, asSeq, asL, asT, asI, asM, asD, gEq_int, gEq_str, gOrd, ix_t, ix_c, ix_f, gAdd, fAdd, fSub, mFn, mRaise, fOne, kOne, tgN, tgT, tgCons, tgNil, mSrc, srcE, mEnum, kEnum, IT.enum, mZip, kZip, mLc, lcRun, lcOne, wipeE, mYes, fAppend, fExtend, D.isI, List.getElem?_cons_zero, List.getElem?_cons_succ, List.set_cons_zero, List.set_cons_succ, List.getElem?_nil, List.length_cons, List.length_nil, Option.some.injEq, Bool.false_eq_true, if_true, if_false, ite_true, ite_false, reduceIte, Bool.xor_false, Bool.xor_true, Bool.not_true, Bool.not_false, Bool.false_xor, Bool.true_xor, decide_true, decide_false, Nat.zero_add, reduceCtorEq, Nat.reduceAdd, Nat.reduceSub, Nat.reduceMul, Nat.reduceLT, Nat.reduceLeDiff, Nat.reduceEqDiff, Nat.reduceBEq, Int.reduceAdd, Int.reduceSub, Int.reduceMul, Int.reduceNeg, Int.reduceEq, Int.reduceNe, Int.reduceLT, Int.reduceLE, Int.reduceToNat, List.set_cons_zero, hpop, beq_self_eq_true]
        · refine (seq_n (ρ1 := [a0, a1, some (.v (.str (wS w))), a3, a4, a5, some (.v (rowD p)), some (.od (kvT (L.filter fun a => !decide (a = c)))), a8, some (.v (.tup [.int (p.getD c.1 0 : Nat), .int (p.getD c.2 0 : Nat)])), a10, a11, a12]) (S1 := S) ?_).trans (S5_ok hw)
          have e0 : atI [D.int (c.1 : Int), D.int (c.2 : Int)] 0 = some (.int (c.1 : Int)) := rfl
          have e1 : atI [D.int (c.1 : Int), D.int (c.2 : Int)] 1 = some (.int (c.2 : Int)) := rfl
          simp only [m__law_by_rings_S4, prD, rowD, mSeq, mSet, Bool.and_true, Bool.true_and, Bool.and_false, Bool.false_and, Bool.or_true, Bool.true_or, Bool.or_false, Bool.false_or,  mRet, mRetN, mIf, mExpr, mNext, mBrk, mCont, eV, eC, eG, m2, gI, R.bind, svE, outE, mB, mCmp, mTV, mNot, mAnd, mOr, mIfE, mAndV, mOrV, mNotV, mNeg, mChain, mConsA, mNilA, mStarA, mTup, mLst, pub, pub_vals, List.append_nil, mCall, g1, g2, mFrz, frzE, mFrzS, flE, mStore, mPar, mUnp, svs, setMany, mAug, mMeth, isOb, obTy, setOb, plOf, plPut, mIsT, tyN, tyD, Ty.isa, fLen, fTup, fLst, fInt, fAbs, fII, fSum, fAll, fAny, asK, asSeq, asL, asT, asI, asM, asD, gEq_int, gEq_str, gOrd, ix_t, ix_c, ix_f, gAdd, fAdd, fSub, mFn, mRaise, fOne, kOne, tgN, tgT, tgCons, tgNil, mSrc, srcE, mEnum, kEnum, IT.enum, mZip, kZip, mLc, lcRun, lcOne, wipeE, mYes, fAppend, fExtend, D.isI, List.getElem?_cons_zero, List.getElem?_cons_succ, List.set_cons_zero, List.set_cons_succ, List.getElem?_nil, List.length_cons, List.length_nil, Option.some.injEq, Bool.false_eq_true, if_true, if_false, ite_true, ite_false, reduceIte, Bool.xor_false, Bool.xor_true, Bool.not_true, Bool.not_false, Bool.false_xor, Bool.true_xor, decide_true, decide_false, Nat.zero_add, reduceCtorEq, Nat.reduceAdd, Nat.reduceSub, Nat.reduceMul, Nat.reduceLT, Nat.reduceLeDiff, Nat.reduceEqDiff, Nat.reduceBEq, Int.reduceAdd, Int.reduceSub, Int.reduceMul, Int.reduceNeg, Int.reduceEq, Int.reduceNe, Int.reduceLT, Int.reduceLE, Int.reduceToNat, List.set_cons_zero, e0, e1, at_row hc.1, at_row hc.2, sizeL]
      simp only [mSeq, mSet, Bool.and_true, Bool.true_and, Bool.and_false, Bool.false_and, Bool.or_true, Bool.true_or, Bool.or_false, Bool.false_or,  mRet, mRetN, mIf, mExpr, mNext, mBrk, mCont, eV, eC, eG, m2, gI, R.bind, svE, outE, mB, mCmp, mTV, mNot, mAnd, mOr, mIfE, mAndV, mOrV, mNotV, mNeg, mChain, mConsA, mNilA, mStarA, mTup, mLst, pub, pub_vals, List.append_nil, mCall, g1, g2, mFrz, frzE, mFrzS, flE, mStore, mPar, mUnp, svs, setMany, mAug, mMeth, isOb, obTy, setOb, plOf, plPut, mIsT, tyN, tyD, Ty.isa, fLen, fTup, fLst, fInt, fAbs, fII, fSum, fAll, fAny, asK, asSeq, asL, asT, asI, asM, asD, gEq_int, gEq_str, gOrd, ix_t, ix_c, ix_f, gAdd, fAdd, fSub, mFn, mRaise, fOne, kOne, tgN, tgT, tgCons, tgNil, mSrc, srcE, mEnum, kEnum, IT.enum, mZip, kZip, mLc, lcRun, lcOne, wipeE, mYes, fAppend, fExtend, D.isI, List.getElem?_cons_zero, List.getElem?_cons_succ, List.set_cons_zero, List.set_cons_succ, List.getElem?_nil, List.length_cons, List.length_nil, Option.some.injEq, Bool.false_eq_true, if_true, if_false, ite_true, ite_false, reduceIte, Bool.xor_false, Bool.xor_true, Bool.not_true, Bool.not_false, Bool.false_xor, Bool.true_xor, decide_true, decide_false, Nat.zero_add, reduceCtorEq, Nat.reduceAdd, Nat.reduceSub, Nat.reduceMul, Nat.reduceLT, Nat.reduceLeDiff, Nat.reduceEqDiff, Nat.reduceBEq, Int.reduceAdd, Int.reduceSub, Int.reduceMul, Int.reduceNeg, Int.reduceEq, Int.reduceNe, Int.reduceLT, Int.reduceLE, Int.reduceToNat, List.set_cons_zero, hin, h1]
    · have hin : ∀ {ρ : DL.Env} {S : Store}, ρ[7]? = some (some (.od (kvT L))) → gIn false (.v (prD c)) (.sl 7) ρ S = some false := fun {_ _} h7 => in_enc_f enc_pair hm h7
      have e : ringOff w p (n + 1) L c = (L, c) := by rw [ringOff, if_neg hm]
      rw [e, mWhile]
      simp only [mSeq, mSet, Bool.and_true, Bool.true_and, Bool.and_false, Bool.false_and, Bool.or_true, Bool.true_or, Bool.or_false, Bool.false_or,  mRet, mRetN, mIf, mExpr, mNext, mBrk, mCont, eV, eC, eG, m2, gI, R.bind, svE, outE, mB, mCmp, mTV, mNot, mAnd, mOr, mIfE, mAndV, mOrV, mNotV, mNeg, mChain, mConsA, mNilA, mStarA, mTup, mLst, pub, pub_vals, List.append_nil, mCall, g1, g2, mFrz, frzE, mFrzS, flE, mStore, mPar, mUnp, svs, setMany, mAug, mMeth, isOb, obTy, setOb, plOf, plPut, mIsT, tyN, tyD, Ty.isa, fLen, fTup, fLst, fInt, fAbs, fII, fSum, fAll, fAny, asK, asSeq, asL, asT, asI, asM, asD, gEq_int, gEq_str, gOrd, ix_t, ix_c, ix_f, gAdd, fAdd, fSub, mFn, mRaise, fOne, kOne, tgN, tgT, tgCons, tgNil, mSrc, srcE, mEnum, kEnum, IT.enum, mZip, kZip, mLc, lcRun, lcOne, wipeE, mYes, fAppend, fExtend, D.isI, List.getElem?_cons_zero, List.getElem?_cons_succ, List.set_cons_zero, List.set_cons_succ, List.getElem?_nil, List.length_cons, List.length_nil, Option.some.injEq, Bool.false_eq_true, if_true, if_false, ite_true, ite_false, reduceIte, Bool.xor_false, Bool.xor_true, Bool.not_true, Bool.not_false, Bool.false_xor, Bool.true_xor, decide_true, decide_false, Nat.zero_add, reduceCtorEq, Nat.reduceAdd, Nat.reduceSub, Nat.reduceMul, Nat.reduceLT, Nat.reduceLeDiff, Nat.reduceEqDiff, Nat.reduceBEq, Int.reduceAdd, Int.reduceSub, Int.reduceMul, Int.reduceNeg, Int.reduceEq, Int.reduceNe, Int.reduceLT, Int.reduceLE, Int.reduceToNat, List.set_cons_zero, hin]
theorem insN_mem {α : Type} {le : α → α → Bool} {a x : α} : ∀ {l : List α}, x ∈ insN le a l ↔ x = a ∨ x ∈ l
  | [] => by simp [insN]
  | b :: r => by
    unfold insN
    split
    · simp
    · rw [List.mem_cons, insN_mem (l := r), List.mem_cons]
      constructor
      · rintro (h | h | h)
        · exact .inr (.inl h)
        · exact .inl h
        · exact .inr (.inr h)
      · rintro (h | h | h)
        · exact .inr (.inl h)
        · exact .inl h
        · exact .inr (.inr h)
theorem sortN_mem {α : Type} {le : α → α → Bool} {x : α} : ∀ {l : List α}, x ∈ sortN le l ↔ x ∈ l
  | [] => Iff.rfl
  | a :: l => by rw [sortN, insN_mem, sortN_mem (l := l), List.mem_cons]
theorem ringOff_sub {w : Nat} {p : List Nat} : ∀ (n : Nat) (L : List (Nat × Nat)) (c : Nat × Nat), (∀ x ∈ (ringOff w p n L c).1, x ∈ L) ∧ (ringOff w p n L c).1.length ≤ L.length
  | 0, L, c => ⟨fun _ h => h, Nat.le_refl _⟩
  | n + 1, L, c => by
    unfold ringOff
    split
    · obtain ⟨h1, h2⟩ := ringOff_sub (w := w) (p := p) n (L.filter fun a => !decide (a = c)) (stepR w p c)
      exact ⟨fun x hx => (List.mem_filter.mp (h1 x hx)).1, Nat.le_trans h2 (List.length_filter_le _ _)⟩
    · exact ⟨fun _ h => h, Nat.le_refl _⟩
theorem ringOff_lt {w : Nat} {p : List Nat} {n : Nat} {L : List (Nat × Nat)} {c : Nat × Nat} (hc : c ∈ L) : (ringOff w p (n + 1) L c).1.length < L.length := by
  unfold ringOff
  rw [if_pos hc]
  exact Nat.lt_of_le_of_lt (ringOff_sub n _ _).2 (filter_lt hc)
theorem outer_loop {w : Nat} (hw : w < 3) {p : List Nat} (hp : PosOk p) {S : Store} {a0 a1 a3 a4 a5 a10 a11 a12 : Option SV} : ∀ (n : Nat) (L : List (Nat × Nat)) (k : Nat) (a9 : Option SV), L.length < n → L.length < 100000 → (∀ c ∈ L, c.1 < p.length ∧ c.2 < p.length) → ∃ k9,
    mWhile (mCmp (gGt) (mCall (g1 fLen) (mConsA (eV 7) mNilA)) (eC (.int 0))) m__law_by_rings_L9 n [a0, a1, some (.v (.str (wS w))), a3, a4, a5, some (.v (rowD p)), some (.od (kvT L)), some (.v (.int k)), a9, a10, a11, a12] S =
      .next [a0, a1, some (.v (.str (wS w))), a3, a4, a5, some (.v (rowD p)), some (.od []), some (.v (.int (ringsN w p n L k))), k9, a10, a11, a12] S
  | 0, _, _, _, h, _, _ => absurd h (Nat.not_lt_zero _)
  | n + 1, [], k, a9, h, _, hv => by
    refine ⟨a9, ?_⟩
    rw [mWhile]
    simp only [mSeq, mSet, Bool.and_true, Bool.true_and, Bool.and_false, Bool.false_and, Bool.or_true, Bool.true_or, Bool.or_false, Bool.false_or,  mRet, mRetN, mIf, mExpr, mNext, mBrk, mCont, eV, eC, eG, m2, gI, R.bind, svE, outE, mB, mCmp, mTV, mNot, mAnd, mOr, mIfE, mAndV, mOrV, mNotV, mNeg, mChain, mConsA, mNilA, mStarA, mTup, mLst, pub, pub_vals, List.append_nil, mCall, g1, g2, mFrz, frzE, mFrzS, flE, mStore, mPar, mUnp, svs, setMany, mAug, mMeth, isOb, obTy, setOb, plOf, plPut, mIsT, tyN, tyD, Ty.isa, fLen, fTup, fLst, fInt, fAbs, fII, fSum, fAll, fAny, asK, asSeq, asL, asT, asI, asM, asD, gEq_int, gEq_str, gOrd, ix_t, ix_c, ix_f, gAdd, fAdd, fSub, mFn, mRaise, fOne, kOne, tgN, tgT, tgCons, tgNil, mSrc, srcE, mEnum, kEnum, IT.enum, mZip, kZip, mLc, lcRun, lcOne, wipeE, mYes, fAppend, fExtend, D.isI, List.getElem?_cons_zero, List.getElem?_cons_succ, List.set_cons_zero, List.set_cons_succ, List.getElem?_nil, List.length_cons, List.length_nil, Option.some.injEq, Bool.false_eq_true, if_true, if_false, ite_true, ite_false, reduceIte, Bool.xor_false, Bool.xor_true, Bool.not_true, Bool.not_false, Bool.false_xor, Bool.true_xor, decide_true, decide_false, Nat.zero_add, reduceCtorEq, Nat.reduceAdd, Nat.reduceSub, Nat.reduceMul, Nat.reduceLT, Nat.reduceLeDiff, Nat.reduceEqDiff, Nat.reduceBEq, Int.reduceAdd, Int.reduceSub, Int.reduceMul, Int.reduceNeg, Int.reduceEq, Int.reduceNe, Int.reduceLT, Int.reduceLE, Int.reduceToNat, List.set_cons_zero, gGt, fiGt, List.map_nil]
    rfl
  | n + 1, x :: L, k, a9, h, hb, hv => by
    have hl : decide (((0 : Nat) : Int) < (((kvT (x :: L)).length : Nat) : Int)) = true := decide_eq_true (by unfold kvT; rw [List.length_map, List.length_cons]; omega)
    cases hs : sortN pairLe (x :: L) with
    | nil => exact absurd ((sortN_mem (le := pairLe) (x := x) (l := x :: L)).mpr (by simp)) (by rw [hs]; simp)
    | cons c r =>
      have hc : c ∈ x :: L := (sortN_mem (le := pairLe)).mp (by rw [hs]; simp)
      have hlt : (ringOff w p 100000 (x :: L) c).1.length < (x :: L).length := ringOff_lt (n := 99999) hc
      have hsub := ringOff_sub (w := w) (p := p) 100000 (x :: L) c
      obtain ⟨k9, ih⟩ := outer_loop hw hp (S := S) (a0 := a0) (a1 := a1) (a3 := a3) (a4 := a4) (a5 := a5) (a10 := a10) (a11 := a11) (a12 := a12) n (ringOff w p 100000 (x :: L) c).1 (k + 1) (some (.v (prD (ringOff w p 100000 (x :: L) c).2))) (by omega) (by omega) (fun y hy => hv y (hsub.1 y hy))
      refine ⟨k9, ?_⟩
      have e : ringsN w p (n + 1) (x :: L) k = ringsN w p n (ringOff w p 100000 (x :: L) c).1 (k + 1) := by rw [ringsN, hs]
      rw [e, ← ih, mWhile]
      have ek : ((k : Nat) : Int) + 1 = ((k + 1 : Nat) : Int) := by omega
      have ks : sortD ((kvT (x :: L)).map (·.1)) = prD c :: r.map prD := by
        have : (kvT (x :: L)).map (·.1) = (x :: L).map prD := by unfold kvT kvD; rw [List.map_map]; rfl
        rw [this, sortD_map leD_pair, hs, List.map_cons]
      have ko : sortOk ((kvT (x :: L)).map (·.1)) = true := by
        have : (kvT (x :: L)).map (·.1) = (x :: L).map prD := by unfold kvT kvD; rw [List.map_map]; rfl
        rw [this]; exact sortOk_pairs _
      have e0 : atI (prD c :: r.map prD) 0 = some (prD c) := by
        have := at_nat (ds := prD c :: r.map prD) (i := 0) (d := prD c) rfl
        exact this
      have h1 : m__law_by_rings_S3 [a0, a1, some (.v (.str (wS w))), a3, a4, a5, some (.v (rowD p)), some (.od (kvT (x :: L))), some (.v (.int k)), a9, a10, a11, a12] S =
          .next [a0, a1, some (.v (.str (wS w))), a3, a4, a5, some (.v (rowD p)), some (.od (kvT (x :: L))), some (.v (.int ((k + 1 : Nat) : Int))), some (.v (prD c)), a10, a11, a12] S := by
        simp only [m__law_by_rings_S3, mSeq, mSet, Bool.and_true, Bool.true_and, Bool.and_false, Bool.false_and, Bool.or_true, Bool.true_or, Bool.or_false, Bool.false_or,  mRet, mRetN, mIf, mExpr, mNext, mBrk, mCont, eV, eC, eG, m2, gI, R.bind, svE, outE, mB, mCmp, mTV, mNot, mAnd, mOr, mIfE, mAndV, mOrV, mNotV, mNeg, mChain, mConsA, mNilA, mStarA, mTup, mLst, pub, pub_vals, List.append_nil, mCall, g1, g2, mFrz, frzE, mFrzS, flE, mStore, mPar, mUnp, svs, setMany, mAug, mMeth, isOb, obTy, setOb, plOf, plPut, mIsT, tyN, tyD, Ty.isa, fLen, fTup, fLst, fInt, fAbs, fII, fSum, fAll, fAny, asK, asSeq, asL, asT, asI, asM, asD, gEq_int, gEq_str, gOrd, ix_t, ix_c, ix_f, gAdd, fAdd, fSub, mFn, mRaise, fOne, kOne, tgN, tgT, tgCons, tgNil, mSrc, srcE, mEnum, kEnum, IT.enum, mZip, kZip, mLc, lcRun, lcOne, wipeE, mYes, fAppend, fExtend, D.isI, List.getElem?_cons_zero, List.getElem?_cons_succ, List.set_cons_zero, List.set_cons_succ, List.getElem?_nil, List.length_cons, List.length_nil, Option.some.injEq, Bool.false_eq_true, if_true, if_false, ite_true, ite_false, reduceIte, Bool.xor_false, Bool.xor_true, Bool.not_true, Bool.not_false, Bool.false_xor, Bool.true_xor, decide_true, decide_false, Nat.zero_add, reduceCtorEq, Nat.reduceAdd, Nat.reduceSub, Nat.reduceMul, Nat.reduceLT, Nat.reduceLeDiff, Nat.reduceEqDiff, Nat.reduceBEq, Int.reduceAdd, Int.reduceSub, Int.reduceMul, Int.reduceNeg, Int.reduceEq, Int.reduceNe, Int.reduceLT, Int.reduceLE, Int.reduceToNat, List.set_cons_zero, fSorted, ks, ko, e0, ek]
      have h2 := inner_loop hw hp (S := S) (a0 := a0) (a1 := a1) (a3 := a3) (a4 := a4) (a5 := a5) (a8 := some (.v (.int ((k + 1 : Nat) : Int)))) (a10 := a10) (a11 := a11) (a12 := a12) 100000 (x :: L) c hb (hv c hc)
      have h3 : m__law_by_rings_L9 [a0, a1, some (.v (.str (wS w))), a3, a4, a5, some (.v (rowD p)), some (.od (kvT (x :: L))), some (.v (.int k)), a9, a10, a11, a12] S = _ := (seq_n h1).trans h2
      have hg : mCmp (gGt) (mCall (g1 fLen) (mConsA (eV 7) mNilA)) (eC (.int 0)) [a0, a1, some (.v (.str (wS w))), a3, a4, a5, some (.v (rowD p)), some (.od (kvT (x :: L))), some (.v (.int k)), a9, a10, a11, a12] S = .ok true S := by
        have hl : decide ((0 : Int) < (((kvT (x :: L)).length : Nat) : Int)) = true := decide_eq_true (by unfold kvT; rw [List.length_map, List.length_cons]; omega)
        simp only [mCmp, mCall, mConsA, mNilA, eV, eC, R.bind, g1, fLen, asK, gGt, gOrd, fiGt, List.getElem?_cons_succ, List.getElem?_cons_zero, hl]
      exact mWhile_t hg h3
/-! ## all positions together -/
def ringsAll (w m : Nat) : List Nat := (every m).map fun p => ringsN w p 100000 (freeP w m) 0
theorem every_ok {m : Nat} (hm : 1 ≤ m ∧ m ≤ 5) : ∀ p ∈ every m, PosOk p ∧ p.length = m := by
  have h : ((List.range 5).all fun i => (every (i + 1)).all fun p => p.all (fun x => Nat.blt x (i + 1)) && Nat.beq p.length (i + 1)) = true := by decide +kernel
  intro p hp
  have a := List.all_eq_true.mp (List.all_eq_true.mp h (m - 1) (List.mem_range.mpr (by omega))) p (by rw [show m - 1 + 1 = m by omega]; exact hp)
  rw [show m - 1 + 1 = m by omega] at a
  obtain ⟨a1, a2⟩ := Bool.and_eq_true_iff.mp a
  have e := Nat.eq_of_beq_eq_true a2
  refine ⟨fun x hx => ?_, e⟩
  have := Nat.le_of_ble_eq_true (List.all_eq_true.mp a1 x hx)
  omega
theorem free_ok {w m : Nat} (hw : w < 3) (hm : 1 ≤ m ∧ m ≤ 5) : (∀ c ∈ freeP w m, c.1 < m ∧ c.2 < m) ∧ (freeP w m).length ≤ 25 ∧ (freeP w m).Nodup ∧ ∀ p ∈ every m, ringsN w p 100000 (freeP w m) 0 ≤ 64 := by
  have h : ((List.range 3).all fun w => (List.range 5).all fun i => (freeP w (i + 1)).all (fun c => Nat.blt c.1 (i + 1) && Nat.blt c.2 (i + 1)) && Nat.ble (freeP w (i + 1)).length 25 && decide (freeP w (i + 1)).Nodup && (every (i + 1)).all fun p => Nat.ble (ringsN w p 100000 (freeP w (i + 1)) 0) 64) = true := by decide +kernel
  have a := List.all_eq_true.mp (List.all_eq_true.mp h w (List.mem_range.mpr hw)) (m - 1) (List.mem_range.mpr (by omega))
  rw [show m - 1 + 1 = m by omega] at a
  simp only [Bool.and_eq_true, decide_eq_true_eq, List.all_eq_true] at a
  obtain ⟨⟨⟨a1, a2⟩, a3⟩, a4⟩ := a
  exact ⟨fun c hc => ⟨Nat.le_of_ble_eq_true (a1 c hc).1, Nat.le_of_ble_eq_true (a1 c hc).2⟩, Nat.le_of_ble_eq_true a2, a3, fun p hp => Nat.le_of_ble_eq_true (a4 p hp)⟩
theorem made2_loop {b r : Nat} {S : Store} (hb : b ≤ 10) (hr : r ≤ 64) {a0 a2 a3 a4 a5 a6 a7 a9 a11 a12 : Option SV} : ∃ k11,
    m__law_by_rings_S8 [a0, some (.v (.int b)), a2, a3, a4, a5, a6, a7, some (.v (.int r)), a9, some (.v (.int 1)), a11, a12] S =
      .next [a0, some (.v (.int b)), a2, a3, a4, a5, a6, a7, some (.v (.int r)), a9, some (.v (.int ((b : Int) ^ r))), k11, a12] S := by
  obtain ⟨ρ2, S2, q1, k11, q2, q3⟩ := mFold_pre (tg := tgN 11) (b := m__law_by_rings_L11) (fun (i : Nat) => D.int (i : Int))
    (fun pre ρ S' => ∃ k11, ρ = [a0, some (.v (.int b)), a2, a3, a4, a5, a6, a7, some (.v (.int r)), a9, some (.v (.int ((b : Int) ^ pre.length))), k11, a12] ∧ S' = S) (List.range r)
    (fun pre a post hl ρ S' ⟨k11, hρ, hS'⟩ => by
      subst hρ hS'
      have hp : pre.length ≤ 64 := by
        have := congrArg List.length hl
        simp at this
        omega
      obtain ⟨p1, p2⟩ := pow_le hb hp
      refine ⟨_, [a0, some (.v (.int b)), a2, a3, a4, a5, a6, a7, some (.v (.int r)), a9, some (.v (.int ((b : Int) ^ (pre ++ [a]).length))), some (.v (.int (a : Int))), a12], S', rfl, .inl ?_, _, rfl, rfl⟩
      have e : (b : Int) ^ (pre ++ [a]).length = (b : Int) ^ pre.length * b := by rw [List.length_append, List.length_singleton, Int.pow_succ]
      rw [e]
      have f : ∀ {ρ : DL.Env} {S : Store}, gMul (.v (.int ((b : Int) ^ pre.length))) (.v (.int b)) ρ S = .ok (.v (.int ((b : Int) ^ pre.length * b))) S := fun {_ _} => gMul_s (by omega) (by omega)
      simp only [m__law_by_rings_L11, mSeq, mSet, Bool.and_true, Bool.true_and, Bool.and_false, Bool.false_and, Bool.or_true, Bool.true_or, Bool.or_false, Bool.false_or,  mRet, mRetN, mIf, mExpr, mNext, mBrk, mCont, eV, eC, eG, m2, gI, R.bind, svE, outE, mB, mCmp, mTV, mNot, mAnd, mOr, mIfE, mAndV, mOrV, mNotV, mNeg, mChain, mConsA, mNilA, mStarA, mTup, mLst, pub, pub_vals, List.append_nil, mCall, g1, g2, mFrz, frzE, mFrzS, flE, mStore, mPar, mUnp, svs, setMany, mAug, mMeth, isOb, obTy, setOb, plOf, plPut, mIsT, tyN, tyD, Ty.isa, fLen, fTup, fLst, fInt, fAbs, fII, fSum, fAll, fAny, asK, asSeq, asL, asT, asI, asM, asD, gEq_int, gEq_str, gOrd, ix_t, ix_c, ix_f, gAdd, fAdd, fSub, mFn, mRaise, fOne, kOne, tgN, tgT, tgCons, tgNil, mSrc, srcE, mEnum, kEnum, IT.enum, mZip, kZip, mLc, lcRun, lcOne, wipeE, mYes, fAppend, fExtend, D.isI, List.getElem?_cons_zero, List.getElem?_cons_succ, List.set_cons_zero, List.set_cons_succ, List.getElem?_nil, List.length_cons, List.length_nil, Option.some.injEq, Bool.false_eq_true, if_true, if_false, ite_true, ite_false, reduceIte, Bool.xor_false, Bool.xor_true, Bool.not_true, Bool.not_false, Bool.false_xor, Bool.true_xor, decide_true, decide_false, Nat.zero_add, reduceCtorEq, Nat.reduceAdd, Nat.reduceSub, Nat.reduceMul, Nat.reduceLT, Nat.reduceLeDiff, Nat.reduceEqDiff, Nat.reduceBEq, Int.reduceAdd, Int.reduceSub, Int.reduceMul, Int.reduceNeg, Int.reduceEq, Int.reduceNe, Int.reduceLT, Int.reduceLE, Int.reduceToNat, List.set_cons_zero, f])
    [a0, some (.v (.int b)), a2, a3, a4, a5, a6, a7, some (.v (.int r)), a9, some (.v (.int 1)), a11, a12] S ⟨_, rfl, rfl⟩
  subst q2 q3
  refine ⟨k11, ?_⟩
  rw [List.length_range] at q1
  exact (mFor_fix (rg1_nat (by omega) rfl)).trans q1
theorem dict_pairs {L : List (Nat × Nat)} (h : L.Nodup) {ρ : DL.Env} {S : Store} : fDictP (.fl (L.map fun c => D.tup [prD c, .bl true])) ρ S = some (.fd (kvT L)) := by
  have h1 : DL.pairsOf (L.map fun c => D.tup [prD c, .bl true]) = some (kvT L) := by
    clear h
    induction L with
    | nil => rfl
    | cons a r ih =>
      rw [List.map_cons, DL.pairsOf, ih]
      rfl
  have h2 : ((kvT L).map (·.1)).Nodup := by
    unfold kvT kvD
    rw [List.map_map]
    exact List.Pairwise.map _ (fun a b hab z => hab (prD_inj z)) h
  simp only [fDictP, asL, h1]
  exact if_pos h2
def byRingsI (w m b : Nat) : Int := ((every m).foldl (fun (x : Int) p => x + (b : Int) ^ ringsN w p 100000 (freeP w m) 0) 0) / ((every m).length : Nat)
theorem L13_ok {w m b : Nat} (hw : w < 3) (hm : 1 ≤ m ∧ m ≤ 5) (hb : b ≤ 10) {p : List Nat} (hp : p ∈ every m) {x : Int} {S : Store} {a0 a4 a7 a8 a9 a10 a11 a12 : Option SV} : ∃ k7 k8 k9 k10 k11,
    m__law_by_rings_L13 [a0, some (.v (.int b)), some (.v (.str (wS w))), some (.v (.int x)), a4, some (.ol ((freeP w m).map prD)), some (.v (rowD p)), a7, a8, a9, a10, a11, a12] S =
      .next [a0, some (.v (.int b)), some (.v (.str (wS w))), some (.v (.int (x + (b : Int) ^ ringsN w p 100000 (freeP w m) 0))), a4, some (.ol ((freeP w m).map prD)), some (.v (rowD p)), k7, k8, k9, k10, k11, a12] S := by
  obtain ⟨p1, p2⟩ := every_ok hm p hp
  obtain ⟨f1, f2, f3, f4⟩ := free_ok hw hm
  have hC : ∀ ρ : DL.Env, ρ.length = 13 → mLcF m__law_by_rings_C2 ((freeP w m).map prD) ρ S = .ok ((freeP w m).map fun c => D.tup [prD c, .bl true]) S := fun ρ h13 => by
    match ρ, h13 with
    | [_, _, _, _, _, _, _, _, _, _, _, _, _], _ =>
      refine mLcF_map prD (fun c => D.tup [prD c, .bl true]) _ fun c hc => ?_
      simp only [m__law_by_rings_C2, mSeq, mSet, Bool.and_true, Bool.true_and, Bool.and_false, Bool.false_and, Bool.or_true, Bool.true_or, Bool.or_false, Bool.false_or,  mRet, mRetN, mIf, mExpr, mNext, mBrk, mCont, eV, eC, eG, m2, gI, R.bind, svE, outE, mB, mCmp, mTV, mNot, mAnd, mOr, mIfE, mAndV, mOrV, mNotV, mNeg, mChain, mConsA, mNilA, mStarA, mTup, mLst, pub, pub_vals, List.append_nil, mCall, g1, g2, mFrz, frzE, mFrzS, flE, mStore, mPar, mUnp, svs, setMany, mAug, mMeth, isOb, obTy, setOb, plOf, plPut, mIsT, tyN, tyD, Ty.isa, fLen, fTup, fLst, fInt, fAbs, fII, fSum, fAll, fAny, asK, asSeq, asL, asT, asI, asM, asD, gEq_int, gEq_str, gOrd, ix_t, ix_c, ix_f, gAdd, fAdd, fSub, mFn, mRaise, fOne, kOne, tgN, tgT, tgCons, tgNil, mSrc, srcE, mEnum, kEnum, IT.enum, mZip, kZip, mLc, lcRun, lcOne, wipeE, mYes, fAppend, fExtend, D.isI, List.getElem?_cons_zero, List.getElem?_cons_succ, List.set_cons_zero, List.set_cons_succ, List.getElem?_nil, List.length_cons, List.length_nil, Option.some.injEq, Bool.false_eq_true, if_true, if_false, ite_true, ite_false, reduceIte, Bool.xor_false, Bool.xor_true, Bool.not_true, Bool.not_false, Bool.false_xor, Bool.true_xor, decide_true, decide_false, Nat.zero_add, reduceCtorEq, Nat.reduceAdd, Nat.reduceSub, Nat.reduceMul, Nat.reduceLT, Nat.reduceLeDiff, Nat.reduceEqDiff, Nat.reduceBEq, Int.reduceAdd, Int.reduceSub, Int.reduceMul, Int.reduceNeg, Int.reduceEq, Int.reduceNe, Int.reduceLT, Int.reduceLE, Int.reduceToNat, List.set_cons_zero, sizeL]
  have hz : ((freeP w m).map prD).length ≤ 16777216 := by rw [List.length_map]; omega
  have h2 : m__law_by_rings_S2 [a0, some (.v (.int b)), some (.v (.str (wS w))), some (.v (.int x)), a4, some (.ol ((freeP w m).map prD)), some (.v (rowD p)), a7, a8, a9, a10, a11, a12] S =
      .next [a0, some (.v (.int b)), some (.v (.str (wS w))), some (.v (.int x)), a4, some (.ol ((freeP w m).map prD)), some (.v (rowD p)), some (.od (kvT (freeP w m))), some (.v (.int ((0 : Nat) : Int))), a9, a10, a11, a12] S := by
    simp only [m__law_by_rings_S2, mSeq, mSet, Bool.and_true, Bool.true_and, Bool.and_false, Bool.false_and, Bool.or_true, Bool.true_or, Bool.or_false, Bool.false_or,  mRet, mRetN, mIf, mExpr, mNext, mBrk, mCont, eV, eC, eG, m2, gI, R.bind, svE, outE, mB, mCmp, mTV, mNot, mAnd, mOr, mIfE, mAndV, mOrV, mNotV, mNeg, mChain, mConsA, mNilA, mStarA, mTup, mLst, pub, pub_vals, List.append_nil, mCall, g1, g2, mFrz, frzE, mFrzS, flE, mStore, mPar, mUnp, svs, setMany, mAug, mMeth, isOb, obTy, setOb, plOf, plPut, mIsT, tyN, tyD, Ty.isa, fLen, fTup, fLst, fInt, fAbs, fII, fSum, fAll, fAny, asK, asSeq, asL, asT, asI, asM, asD, gEq_int, gEq_str, gOrd, ix_t, ix_c, ix_f, gAdd, fAdd, fSub, mFn, mRaise, fOne, kOne, tgN, tgT, tgCons, tgNil, mSrc, srcE, mEnum, kEnum, IT.enum, mZip, kZip, mLc, lcRun, lcOne, wipeE, mYes, fAppend, fExtend, D.isI, List.getElem?_cons_zero, List.getElem?_cons_succ, List.set_cons_zero, List.set_cons_succ, List.getElem?_nil, List.length_cons, List.length_nil, Option.some.injEq, Bool.false_eq_true, if_true, if_false, ite_true, ite_false, reduceIte, Bool.xor_false, Bool.xor_true, Bool.not_true, Bool.not_false, Bool.false_xor, Bool.true_xor, decide_true, decide_false, Nat.zero_add, reduceCtorEq, Nat.reduceAdd, Nat.reduceSub, Nat.reduceMul, Nat.reduceLT, Nat.reduceLeDiff, Nat.reduceEqDiff, Nat.reduceBEq, Int.reduceAdd, Int.reduceSub, Int.reduceMul, Int.reduceNeg, Int.reduceEq, Int.reduceNe, Int.reduceLT, Int.reduceLE, Int.reduceToNat, List.set_cons_zero, sizeL, hz, hC, dict_pairs f3]
    rfl
  obtain ⟨k9, h7⟩ := outer_loop hw p1 (S := S) (a0 := a0) (a1 := some (.v (.int b))) (a3 := some (.v (.int x))) (a4 := a4) (a5 := some (.ol ((freeP w m).map prD))) (a10 := a10) (a11 := a11) (a12 := a12) 100000 (freeP w m) 0 a9 (by omega) (by omega) (fun c hc => by rw [p2]; exact f1 c hc)
  obtain ⟨k11, h8⟩ := made2_loop (S := S) hb (f4 p hp) (a0 := a0) (a2 := some (.v (.str (wS w)))) (a3 := some (.v (.int x))) (a4 := a4) (a5 := some (.ol ((freeP w m).map prD))) (a6 := some (.v (rowD p))) (a7 := some (.od [])) (a9 := k9) (a11 := a11) (a12 := a12)
  refine ⟨some (.od []), some (.v (.int (ringsN w p 100000 (freeP w m) 0))), k9, some (.v (.int ((b : Int) ^ ringsN w p 100000 (freeP w m) 0))), k11, ?_⟩
  · refine (seq_n h2).trans ((seq_n h7).trans ((seq_n (ρ1 := [a0, some (.v (.int b)), some (.v (.str (wS w))), some (.v (.int x)), a4, some (.ol ((freeP w m).map prD)), some (.v (rowD p)), some (.od []), some (.v (.int (ringsN w p 100000 (freeP w m) 0))), k9, some (.v (.int 1)), a11, a12]) (S1 := S) rfl).trans ((seq_n h8).trans ?_)))
    simp only [mSeq, mSet, Bool.and_true, Bool.true_and, Bool.and_false, Bool.false_and, Bool.or_true, Bool.true_or, Bool.or_false, Bool.false_or,  mRet, mRetN, mIf, mExpr, mNext, mBrk, mCont, eV, eC, eG, m2, gI, R.bind, svE, outE, mB, mCmp, mTV, mNot, mAnd, mOr, mIfE, mAndV, mOrV, mNotV, mNeg, mChain, mConsA, mNilA, mStarA, mTup, mLst, pub, pub_vals, List.append_nil, mCall, g1, g2, mFrz, frzE, mFrzS, flE, mStore, mPar, mUnp, svs, setMany, mAug, mMeth, isOb, obTy, setOb, plOf, plPut, mIsT, tyN, tyD, Ty.isa, fLen, fTup, fLst, fInt, fAbs, fII, fSum, fAll, fAny, asK, asSeq, asL, asT, asI, asM, asD, gEq_int, gEq_str, gOrd, ix_t, ix_c, ix_f, gAdd, fAdd, fSub, mFn, mRaise, fOne, kOne, tgN, tgT, tgCons, tgNil, mSrc, srcE, mEnum, kEnum, IT.enum, mZip, kZip, mLc, lcRun, lcOne, wipeE, mYes, fAppend, fExtend, D.isI, List.getElem?_cons_zero, List.getElem?_cons_succ, List.set_cons_zero, List.set_cons_succ, List.getElem?_nil, List.length_cons, List.length_nil, Option.some.injEq, Bool.false_eq_true, if_true, if_false, ite_true, ite_false, reduceIte, Bool.xor_false, Bool.xor_true, Bool.not_true, Bool.not_false, Bool.false_xor, Bool.true_xor, decide_true, decide_false, Nat.zero_add, reduceCtorEq, Nat.reduceAdd, Nat.reduceSub, Nat.reduceMul, Nat.reduceLT, Nat.reduceLeDiff, Nat.reduceEqDiff, Nat.reduceBEq, Int.reduceAdd, Int.reduceSub, Int.reduceMul, Int.reduceNeg, Int.reduceEq, Int.reduceNe, Int.reduceLT, Int.reduceLE, Int.reduceToNat, List.set_cons_zero]
end K94

set_option Elab.async false
set_option autoImplicit false
set_option linter.all false
set_option maxRecDepth 100000
set_option maxHeartbeats 2000000
namespace K94
open PySem PySem.Spec PyProof.Rows L2 DL
def sumR (w m b : Nat) : Int := (every m).foldl (fun (x : Int) p => x + (b : Int) ^ ringsN w p 100000 (freeP w m) 0) 0
theorem byR_eq (w m b : Nat) : byRingsI w m b = sumR w m b / ((every m).length : Nat) := rfl
theorem all_loop {w m b : Nat} {S : Store} (hw : w < 3) (hm : 1 ≤ m ∧ m ≤ 5) (hb : b ≤ 10) : ∃ k6 k7 k8 k9 k10 k11,
    mFor (mSrc (eV 4)) (tgN 6) m__law_by_rings_L13 100000 [some (.v (.int m)), some (.v (.int b)), some (.v (.str (wS w))), some (.v (.int 0)), some (.v (.cl ((every m).map rowD))), some (.ol ((freeP w m).map prD)), none, none, none, none, none, none, none] S =
      .next [some (.v (.int m)), some (.v (.int b)), some (.v (.str (wS w))), some (.v (.int (sumR w m b))), some (.v (.cl ((every m).map rowD))), some (.ol ((freeP w m).map prD)), k6, k7, k8, k9, k10, k11, none] S := by
  obtain ⟨ρ2, S2, q1, k6, k7, k8, k9, k10, k11, q2, q3⟩ := mFold_rel (tg := tgN 6) (b := m__law_by_rings_L13) rowD
    (fun (x : Int) ρ S' => ∃ k6 k7 k8 k9 k10 k11, ρ = [some (.v (.int m)), some (.v (.int b)), some (.v (.str (wS w))), some (.v (.int x)), some (.v (.cl ((every m).map rowD))), some (.ol ((freeP w m).map prD)), k6, k7, k8, k9, k10, k11, none] ∧ S' = S) (fun (x : Int) p => x + (b : Int) ^ ringsN w p 100000 (freeP w m) 0) (every m)
    (fun p hp x ρ S' ⟨k6, k7, k8, k9, k10, k11, hρ, hS'⟩ => by
      subst hρ hS'
      obtain ⟨l7, l8, l9, l10, l11, h⟩ := L13_ok hw hm hb hp (x := x) (S := S') (a0 := some (.v (.int m))) (a4 := some (.v (.cl ((every m).map rowD)))) (a7 := k7) (a8 := k8) (a9 := k9) (a10 := k10) (a11 := k11) (a12 := none)
      exact ⟨_, _, S', rfl, .inl h, _, _, _, _, _, _, rfl, rfl⟩)
    0 [some (.v (.int m)), some (.v (.int b)), some (.v (.str (wS w))), some (.v (.int 0)), some (.v (.cl ((every m).map rowD))), some (.ol ((freeP w m).map prD)), none, none, none, none, none, none, none] S ⟨_, _, _, _, _, _, rfl, rfl⟩
  subst q2 q3
  exact ⟨k6, k7, k8, k9, k10, k11, (mFor_fix rfl).trans q1⟩
theorem every_len {m : Nat} (hm : 1 ≤ m ∧ m ≤ 5) : 0 < (every m).length ∧ (every m).length ≤ 1000 := by
  have h : ((List.range 5).all fun i => Nat.blt 0 (every (i + 1)).length && Nat.ble (every (i + 1)).length 1000) = true := by decide +kernel
  have a := List.all_eq_true.mp h (m - 1) (List.mem_range.mpr (by omega))
  rw [show m - 1 + 1 = m by omega] at a
  obtain ⟨a1, a2⟩ := Bool.and_eq_true_iff.mp a
  exact ⟨Nat.le_of_ble_eq_true a1, Nat.le_of_ble_eq_true a2⟩
theorem r_by_rings {w m b : Nat} {S : Store} (hw : w < 3) (hm : 1 ≤ m ∧ m ≤ 5) (hb : b ≤ 10) (hS : Shut S) : M__law_by_rings [.int m, .int b, .str (wS w)] S = .ok (.v (.int (byRingsI w m b))) S := by
  refine fc_v hS rfl ?_
  show m__law_by_rings [some (.v (.int m)), some (.v (.int b)), some (.v (.str (wS w))), none, none, none, none, none, none, none, none, none, none] S = _
  obtain ⟨k6, k7, k8, k9, k10, k11, h8⟩ := all_loop (S := S) hw hm hb
  have h1 : m__law_by_rings_S1 [some (.v (.int m)), some (.v (.int b)), some (.v (.str (wS w))), none, none, none, none, none, none, none, none, none, none] S =
      .next [some (.v (.int m)), some (.v (.int b)), some (.v (.str (wS w))), some (.v (.int 0)), some (.v (.cl ((every m).map rowD))), some (.ol ((freeP w m).map prD)), none, none, none, none, none, none, none] S := by
    exact par_ok (es := [.v (.int 0), .v (.cl ((every m).map rowD)), .fl ((freeP w m).map prD)]) (consA_ok rfl (consA_ok (fn_ok (ds := [.int m]) rfl rfl (r_every hS hm)) (consA_ok (fn_ok (ds := [.int m, .str (wS w)]) rfl rfl (r_free hS hw hm)) rfl))) rfl rfl
  have hl := every_len hm
  obtain ⟨z, hz⟩ : ∃ z, z = (every m).length := ⟨_, rfl⟩
  have hq : fDiv (sumR w m b) (z : Int) = some (.int (sumR w m b / (z : Int))) := fDiv_s (by omega) (by omega)
  rw [byR_eq, ← hz]
  refine (seq_n h1).trans ((seq_n ((frz_v rfl).trans h8)).trans ?_)
  simp only [mSeq, mSet, Bool.and_true, Bool.true_and, Bool.and_false, Bool.false_and, Bool.or_true, Bool.true_or, Bool.or_false, Bool.false_or,  mRet, mRetN, mIf, mExpr, mNext, mBrk, mCont, eV, eC, eG, m2, gI, R.bind, svE, outE, mB, mCmp, mTV, mNot, mAnd, mOr, mIfE, mAndV, mOrV, mNotV, mNeg, mChain, mConsA, mNilA, mStarA, mTup, mLst, pub, pub_vals, List.append_nil, mCall, g1, g2, mFrz, frzE, mFrzS, flE, mStore, mPar, mUnp, svs, setMany, mAug, mMeth, isOb, obTy, setOb, plOf, plPut, mIsT, tyN, tyD, Ty.isa, fLen, fTup, fLst, fInt, fAbs, fII, fSum, fAll, fAny, asK, asSeq, asL, asT, asI, asM, asD, gEq_int, gEq_str, gOrd, ix_t, ix_c, ix_f, gAdd, fAdd, fSub, mFn, mRaise, fOne, kOne, tgN, tgT, tgCons, tgNil, mSrc, srcE, mEnum, kEnum, IT.enum, mZip, kZip, mLc, lcRun, lcOne, wipeE, mYes, fAppend, fExtend, D.isI, List.getElem?_cons_zero, List.getElem?_cons_succ, List.set_cons_zero, List.set_cons_succ, List.getElem?_nil, List.length_cons, List.length_nil, Option.some.injEq, Bool.false_eq_true, if_true, if_false, ite_true, ite_false, reduceIte, Bool.xor_false, Bool.xor_true, Bool.not_true, Bool.not_false, Bool.false_xor, Bool.true_xor, decide_true, decide_false, Nat.zero_add, reduceCtorEq, Nat.reduceAdd, Nat.reduceSub, Nat.reduceMul, Nat.reduceLT, Nat.reduceLeDiff, Nat.reduceEqDiff, Nat.reduceBEq, Int.reduceAdd, Int.reduceSub, Int.reduceMul, Int.reduceNeg, Int.reduceEq, Int.reduceNe, Int.reduceLT, Int.reduceLE, Int.reduceToNat, List.set_cons_zero, List.length_map, ← hz, hq]
end K94

set_option Elab.async false
set_option autoImplicit false
set_option linter.all false
set_option maxRecDepth 100000
set_option maxHeartbeats 2000000
namespace K94
open PySem PySem.Spec PyProof.Rows L2 DL
/-! ## pictures moved -/
def rowM (p : List Nat) (one : Nat) (g : List (List Nat)) (row : List Nat) : List (List Nat) := row.zipIdx.foldl (fun g q => setG g (p.getD one 0) (p.getD q.2 0) q.1) g
def movedP (pic : List (List Nat)) (p : List Nat) : List (List Nat) := pic.zipIdx.foldl (fun g r => rowM p r.2 g r.1) (zerosG pic.length)
theorem rowM_sq {n : Nat} {p : List Nat} {one : Nat} {row : List Nat} : ∀ {g : List (List Nat)}, Sq n g → Sq n (rowM p one g row) := by
  have : ∀ (l : List (Nat × Nat)) (g : List (List Nat)), Sq n g → Sq n (l.foldl (fun g q => setG g (p.getD one 0) (p.getD q.2 0) q.1) g) := fun l => by
    induction l with
    | nil => intro g h; exact h
    | cons a r ih => intro g h; exact ih _ (h.set _ _ _)
  intro g h
  exact this _ g h
theorem movedP_sq {n : Nat} {pic : List (List Nat)} {p : List Nat} (h : pic.length = n) : Sq n (movedP pic p) := by
  have : ∀ (l : List (List Nat × Nat)) (g : List (List Nat)), Sq n g → Sq n (l.foldl (fun g r => rowM p r.2 g r.1) g) := fun l => by
    induction l with
    | nil => intro g h; exact h
    | cons a r ih => intro g h; exact ih _ (rowM_sq h)
  unfold movedP
  rw [h]
  exact this _ _ (zerosG_sq n)
theorem mv_inner {n : Nat} {p : List Nat} {pic : List (List Nat)} {T : Store} {row : List Nat} {one : Nat} (hp : PosOk p) (hn : p.length = n) (hr : row.length = n) (ho : one < n) {g : List (List Nat)} (hg : Sq n g) {a5 a6 : Option SV} : ∃ k5 k6,
    m__law_moved_L3 [some (.v (picD pic)), some (.v (rowD p)), some (.ol (refsD T.length n)), some (.v (.int (one : Nat))), some (.v (rowD row)), a5, a6] (gridS T g) =
      .next [some (.v (picD pic)), some (.v (rowD p)), some (.ol (refsD T.length n)), some (.v (.int (one : Nat))), some (.v (rowD row)), k5, k6] (gridS T (rowM p one g row)) := by
  obtain ⟨ρ2, S2, q1, k5, k6, q2, q3, q4⟩ := mFold_rel (tg := tgT (tgCons (tgN 5) (tgCons (tgN 6) tgNil))) (b := m__law_moved_L2) (fun (q : Nat × Nat) => D.tup [.int (q.2 : Nat), .int (q.1 : Nat)])
    (fun (g : List (List Nat)) ρ S' => ∃ k5 k6, ρ = [some (.v (picD pic)), some (.v (rowD p)), some (.ol (refsD T.length n)), some (.v (.int (one : Nat))), some (.v (rowD row)), k5, k6] ∧ S' = gridS T g ∧ Sq n g) (fun g q => setG g (p.getD one 0) (p.getD q.2 0) q.1) row.zipIdx
    (fun q hq g ρ S' ⟨k5, k6, hρ, hS', hg⟩ => by
      subst hρ hS'
      have h2 : q.2 < n := by
        have := (List.getElem?_eq_some_iff.mp (zipIx_at hq)).1
        omega
      have l1 := getD_lt hp (show one < p.length by omega)
      have l2 := getD_lt hp (show q.2 < p.length by omega)
      refine ⟨_, _, _, rfl, .inl (grid_store (n := n) (i := p.getD one 0) (j := p.getD q.2 0) (v := q.1) hg rfl ?_ ?_ (by omega) (by omega)), _, _, rfl, rfl, hg.set _ _ _⟩
      · simp only [rowD, mSeq, mSet, Bool.and_true, Bool.true_and, Bool.and_false, Bool.false_and, Bool.or_true, Bool.true_or, Bool.or_false, Bool.false_or,  mRet, mRetN, mIf, mExpr, mNext, mBrk, mCont, eV, eC, eG, m2, gI, R.bind, svE, outE, mB, mCmp, mTV, mNot, mAnd, mOr, mIfE, mAndV, mOrV, mNotV, mNeg, mChain, mConsA, mNilA, mStarA, mTup, mLst, pub, pub_vals, List.append_nil, mCall, g1, g2, mFrz, frzE, mFrzS, flE, mStore, mPar, mUnp, svs, setMany, mAug, mMeth, isOb, obTy, setOb, plOf, plPut, mIsT, tyN, tyD, Ty.isa, fLen, fTup, fLst, fInt, fAbs, fII, fSum, fAll, fAny, asK, asSeq, asL, asT, asI, asM, asD, gEq_int, gEq_str, gOrd, ix_t, ix_c, ix_f, gAdd, fAdd, fSub, mFn, mRaise, fOne, kOne, tgN, tgT, tgCons, tgNil, mSrc, srcE, mEnum, kEnum, IT.enum, mZip, kZip, mLc, lcRun, lcOne, wipeE, mYes, fAppend, fExtend, D.isI, List.getElem?_cons_zero, List.getElem?_cons_succ, List.set_cons_zero, List.set_cons_succ, List.getElem?_nil, List.length_cons, List.length_nil, Option.some.injEq, Bool.false_eq_true, if_true, if_false, ite_true, ite_false, reduceIte, Bool.xor_false, Bool.xor_true, Bool.not_true, Bool.not_false, Bool.false_xor, Bool.true_xor, decide_true, decide_false, Nat.zero_add, reduceCtorEq, Nat.reduceAdd, Nat.reduceSub, Nat.reduceMul, Nat.reduceLT, Nat.reduceLeDiff, Nat.reduceEqDiff, Nat.reduceBEq, Int.reduceAdd, Int.reduceSub, Int.reduceMul, Int.reduceNeg, Int.reduceEq, Int.reduceNe, Int.reduceLT, Int.reduceLE, Int.reduceToNat, List.set_cons_zero, at_row (show one < p.length by omega)]
        rw [ix_s (ds := refsD T.length n) rfl, refs_at (show p.getD one 0 < n by omega)]
      · simp only [rowD, mSeq, mSet, Bool.and_true, Bool.true_and, Bool.and_false, Bool.false_and, Bool.or_true, Bool.true_or, Bool.or_false, Bool.false_or,  mRet, mRetN, mIf, mExpr, mNext, mBrk, mCont, eV, eC, eG, m2, gI, R.bind, svE, outE, mB, mCmp, mTV, mNot, mAnd, mOr, mIfE, mAndV, mOrV, mNotV, mNeg, mChain, mConsA, mNilA, mStarA, mTup, mLst, pub, pub_vals, List.append_nil, mCall, g1, g2, mFrz, frzE, mFrzS, flE, mStore, mPar, mUnp, svs, setMany, mAug, mMeth, isOb, obTy, setOb, plOf, plPut, mIsT, tyN, tyD, Ty.isa, fLen, fTup, fLst, fInt, fAbs, fII, fSum, fAll, fAny, asK, asSeq, asL, asT, asI, asM, asD, gEq_int, gEq_str, gOrd, ix_t, ix_c, ix_f, gAdd, fAdd, fSub, mFn, mRaise, fOne, kOne, tgN, tgT, tgCons, tgNil, mSrc, srcE, mEnum, kEnum, IT.enum, mZip, kZip, mLc, lcRun, lcOne, wipeE, mYes, fAppend, fExtend, D.isI, List.getElem?_cons_zero, List.getElem?_cons_succ, List.set_cons_zero, List.set_cons_succ, List.getElem?_nil, List.length_cons, List.length_nil, Option.some.injEq, Bool.false_eq_true, if_true, if_false, ite_true, ite_false, reduceIte, Bool.xor_false, Bool.xor_true, Bool.not_true, Bool.not_false, Bool.false_xor, Bool.true_xor, decide_true, decide_false, Nat.zero_add, reduceCtorEq, Nat.reduceAdd, Nat.reduceSub, Nat.reduceMul, Nat.reduceLT, Nat.reduceLeDiff, Nat.reduceEqDiff, Nat.reduceBEq, Int.reduceAdd, Int.reduceSub, Int.reduceMul, Int.reduceNeg, Int.reduceEq, Int.reduceNe, Int.reduceLT, Int.reduceLE, Int.reduceToNat, List.set_cons_zero, at_row (show q.2 < p.length by omega)])
    g [some (.v (picD pic)), some (.v (rowD p)), some (.ol (refsD T.length n)), some (.v (.int (one : Nat))), some (.v (rowD row)), a5, a6] (gridS T g) ⟨_, _, rfl, rfl, hg⟩
  subst q2 q3
  refine ⟨k5, k6, ?_⟩
  refine (mFor_fix (enum_ok (e := .v (rowD row)) rfl rfl)).trans ?_
  rw [natsD, enumD_map]
  exact q1
theorem mv_outer {n : Nat} {p : List Nat} {pic : List (List Nat)} {T : Store} (hp : PosOk p) (hn : p.length = n) (hpic : Sq n pic) {a3 a4 a5 a6 : Option SV} : ∃ k3 k4 k5 k6,
    mFor (mEnum (mConsA (eV 0) mNilA)) (tgT (tgCons (tgN 3) (tgCons (tgN 4) tgNil))) m__law_moved_L3 100000 [some (.v (picD pic)), some (.v (rowD p)), some (.ol (refsD T.length n)), a3, a4, a5, a6] (gridS T (zerosG n)) =
      .next [some (.v (picD pic)), some (.v (rowD p)), some (.ol (refsD T.length n)), k3, k4, k5, k6] (gridS T (movedP pic p)) := by
  obtain ⟨ρ2, S2, q1, k3, k4, k5, k6, q2, q3, q4⟩ := mFold_rel (tg := tgT (tgCons (tgN 3) (tgCons (tgN 4) tgNil))) (b := m__law_moved_L3) (fun (q : List Nat × Nat) => D.tup [.int (q.2 : Nat), rowD q.1])
    (fun (g : List (List Nat)) ρ S' => ∃ k3 k4 k5 k6, ρ = [some (.v (picD pic)), some (.v (rowD p)), some (.ol (refsD T.length n)), k3, k4, k5, k6] ∧ S' = gridS T g ∧ Sq n g) (fun g r => rowM p r.2 g r.1) pic.zipIdx
    (fun q hq g ρ S' ⟨k3, k4, k5, k6, hρ, hS', hg⟩ => by
      subst hρ hS'
      have hz := zipIx_at hq
      have h2 : q.2 < n := by
        have := (List.getElem?_eq_some_iff.mp hz).1
        have := hpic.1
        omega
      obtain ⟨l5, l6, h⟩ := mv_inner (pic := pic) (T := T) (row := q.1) (one := q.2) hp hn (hpic.2 _ (List.mem_of_getElem? hz)) h2 hg (a5 := k5) (a6 := k6)
      exact ⟨_, _, _, rfl, .inl h, _, _, _, _, rfl, rfl, rowM_sq hg⟩)
    (zerosG n) [some (.v (picD pic)), some (.v (rowD p)), some (.ol (refsD T.length n)), a3, a4, a5, a6] (gridS T (zerosG n)) ⟨_, _, _, _, rfl, rfl, zerosG_sq n⟩
  subst q2 q3
  refine ⟨k3, k4, k5, k6, ?_⟩
  refine (mFor_fix (enum_ok (e := .v (picD pic)) rfl rfl)).trans ?_
  rw [enumD_map]
  unfold movedP
  rw [hpic.1]
  exact q1
theorem r_moved {n : Nat} {p : List Nat} {pic : List (List Nat)} {S : Store} (hS : Shut S) (hp : PosOk p) (hn : p.length = n) (hpic : Sq n pic) (h9 : n ≤ 1000) : M__law_moved [picD pic, rowD p] S = .ok (.v (picD (movedP pic p))) S := by
  refine fc_vT (T := (movedP pic p).map fun r => .lst (natsD r)) hS (picD_free _) ?_
  show m__law_moved [some (.v (picD pic)), some (.v (rowD p)), none, none, none, none, none] S = .ret _ (gridS S (movedP pic p))
  have hpl := hpic.1
  have hz : (pic.map rowD).length ≤ 16777216 := by rw [List.length_map]; omega
  have hC : mLcF m__law_moved_C1 (pic.map rowD) [some (.v (picD pic)), some (.v (rowD p)), none, none, none, none, none] S = .ok (refsD S.length n) (gridS S (zerosG n)) := by
    refine mLcF_zeros rowD pic hpl fun r hr S' => ?_
    have hm : ∀ {ρ : DL.Env} {S : Store}, gMul (.fl [D.int 0]) (.v (.int (n : Int))) ρ S = .ok (.fl (natsD (List.replicate n 0))) S := fun {_ _} => by
      rw [mul_fl (by simp; omega) (by omega), natsD_zeros]
    have hl : (pic.map rowD).length = n := by rw [List.length_map]; exact hpl
    have hf : mCall (g1 fLen) (mConsA (eV 0) mNilA) [some (.v (picD pic)), some (.v (rowD p)), none, none, some (.v (rowD r)), none, none] S' = .ok (.v (.int (n : Int))) S' := call_ok (one_ok rfl) (by rw [← hl]; rfl)
    have hL : mLst (mConsA (eC (.int 0)) mNilA) [some (.v (picD pic)), some (.v (rowD p)), none, none, some (.v (rowD r)), none, none] S' = .ok (.fl [.int 0]) S' := by simp only [mSeq, mSet, Bool.and_true, Bool.true_and, Bool.and_false, Bool.false_and, Bool.or_true, Bool.true_or, Bool.or_false, Bool.false_or,  mRet, mRetN, mIf, mExpr, mNext, mBrk, mCont, eV, eC, eG, m2, gI, R.bind, svE, outE, mB, mCmp, mTV, mNot, mAnd, mOr, mIfE, mAndV, mOrV, mNotV, mNeg, mChain, mConsA, mNilA, mStarA, mTup, mLst, pub, pub_vals, List.append_nil, mCall, g1, g2, mFrz, frzE, mFrzS, flE, mStore, mPar, mUnp, svs, setMany, mAug, mMeth, isOb, obTy, setOb, plOf, plPut, mIsT, tyN, tyD, Ty.isa, fLen, fTup, fLst, fInt, fAbs, fII, fSum, fAll, fAny, asK, asSeq, asL, asT, asI, asM, asD, gEq_int, gEq_str, gOrd, ix_t, ix_c, ix_f, gAdd, fAdd, fSub, mFn, mRaise, fOne, kOne, tgN, tgT, tgCons, tgNil, mSrc, srcE, mEnum, kEnum, IT.enum, mZip, kZip, mLc, lcRun, lcOne, wipeE, mYes, fAppend, fExtend, D.isI, List.getElem?_cons_zero, List.getElem?_cons_succ, List.set_cons_zero, List.set_cons_succ, List.getElem?_nil, List.length_cons, List.length_nil, Option.some.injEq, Bool.false_eq_true, if_true, if_false, ite_true, ite_false, reduceIte, Bool.xor_false, Bool.xor_true, Bool.not_true, Bool.not_false, Bool.false_xor, Bool.true_xor, decide_true, decide_false, Nat.zero_add, reduceCtorEq, Nat.reduceAdd, Nat.reduceSub, Nat.reduceMul, Nat.reduceLT, Nat.reduceLeDiff, Nat.reduceEqDiff, Nat.reduceBEq, Int.reduceAdd, Int.reduceSub, Int.reduceMul, Int.reduceNeg, Int.reduceEq, Int.reduceNe, Int.reduceLT, Int.reduceLE, Int.reduceToNat, List.set_cons_zero, sizeL]
    exact lc1_ok rfl rfl (m2_ok hL hf hm) rfl
  have h1 : mSet 2 (mLc (mSrc (eV 0)) m__law_moved_C1 100000) [some (.v (picD pic)), some (.v (rowD p)), none, none, none, none, none] S =
      .next [some (.v (picD pic)), some (.v (rowD p)), some (.ol (refsD S.length n)), none, none, none, none] (gridS S (zerosG n)) := set_l (lc_ok (src_ok rfl rfl) hz hC)
  obtain ⟨k3, k4, k5, k6, h2⟩ := mv_outer (T := S) hp hn hpic (a3 := none) (a4 := none) (a5 := none) (a6 := none)
  have hsq := movedP_sq (p := p) hpl
  have hC4 : mLcF m__law_moved_C4 (refsD S.length n) [some (.v (picD pic)), some (.v (rowD p)), some (.ol (refsD S.length n)), k3, k4, k5, k6] (gridS S (movedP pic p)) = .ok ((movedP pic p).map rowD) (gridS S (movedP pic p)) := by
    have := mLcF_rows (one := m__law_moved_C4) (ρ := [some (.v (picD pic)), some (.v (rowD p)), some (.ol (refsD S.length n)), k3, k4, k5, k6]) (T := S) (g := movedP pic p) fun i hi => by
      exact lc1_ok rfl rfl (frz_d (call_ok (one_ok rfl) (by simp only [g1, fTup, asL_ref (grid_at hi)]; rfl))) rfl
    rw [hsq.1] at this
    exact this
  have hz2 : (refsD S.length n).length ≤ 16777216 := by unfold refsD; rw [List.length_map, List.length_range]; omega
  refine (seq_n h1).trans ((seq_n h2).trans ?_)
  exact ret_v (call_ok (one_ok (lc_own (src_ok rfl rfl) hz2 hC4)) rfl)
/-! ## all rows of marks -/
def rowsP (b : Nat) : Nat → List (List Nat)
  | 0 => [[]]
  | k + 1 => (rowsP b k).flatMap fun row => (List.range b).map fun mark => row ++ [mark]
theorem rowsP_len (b : Nat) : ∀ k, (rowsP b k).length = b ^ k
  | 0 => rfl
  | k + 1 => by
    rw [rowsP, List.length_flatMap, Nat.pow_succ]
    have : ((rowsP b k).map fun row => ((List.range b).map fun mark => row ++ [mark]).length) = (rowsP b k).map fun _ => b := List.map_congr_left fun _ _ => by simp
    rw [this, List.map_const', List.sum_replicate_nat, rowsP_len b k]
theorem rowsP_row (b : Nat) : ∀ k, ∀ r ∈ rowsP b k, r.length = k ∧ ∀ v ∈ r, v < b
  | 0, r, h => by
    rw [rowsP, List.mem_singleton] at h
    subst h
    exact ⟨rfl, fun v hv => by cases hv⟩
  | k + 1, r, h => by
    obtain ⟨q, hq, h⟩ := List.mem_flatMap.mp h
    obtain ⟨v, hv, rfl⟩ := List.mem_map.mp h
    obtain ⟨h1, h2⟩ := rowsP_row b k q hq
    refine ⟨by rw [List.length_append, h1]; rfl, fun x hx => ?_⟩
    rcases List.mem_append.mp hx with hx | hx
    · exact h2 x hx
    · rw [List.mem_singleton] at hx; subst hx; exact List.mem_range.mp hv
section
variable {a0 a1 a2 a3 a4 a5 a6 a7 a8 a9 a10 a11 a12 a13 a14 a15 a16 a17 a18 : Option SV} {S : Store}
theorem ba_ext {b : Nat} {x : List (List Nat)} {row : List Nat} (hx : x.length + b ≤ 1000000) (hr : row.length ≤ 100) :
    m__law_by_all_L4 [a0, some (.v (.int b)), a2, a3, a4, a5, some (.ol (x.map rowD)), some (.v (rowD row)), a8, a9, a10, a11, a12, a13, a14, a15, a16, a17, a18] S = .next [a0, some (.v (.int b)), a2, a3, a4, a5, some (.ol ((x ++ (List.range b).map fun mark => row ++ [mark]).map rowD)), some (.v (rowD row)), a8, a9, a10, a11, a12, a13, a14, a15, a16, a17, a18] S := by
  have hC : mLcF m__law_by_all_C2 (natsR b) [a0, some (.v (.int b)), a2, a3, a4, a5, some (.ol (x.map rowD)), some (.v (rowD row)), a8, a9, a10, a11, a12, a13, a14, a15, a16, a17, a18] S = .ok ((List.range b).map fun mark => rowD (row ++ [mark])) S := by
    refine mLcF_map (fun (i : Nat) => D.int (i : Int)) (fun mark => rowD (row ++ [mark])) (List.range b) fun i hi => ?_
    have hl : (natsD row).length + 1 ≤ 16777216 := by unfold natsD; rw [List.length_map]; omega
    simp only [m__law_by_all_C2, rowD, mSeq, mSet, Bool.and_true, Bool.true_and, Bool.and_false, Bool.false_and, Bool.or_true, Bool.true_or, Bool.or_false, Bool.false_or,  mRet, mRetN, mIf, mExpr, mNext, mBrk, mCont, eV, eC, eG, m2, gI, R.bind, svE, outE, mB, mCmp, mTV, mNot, mAnd, mOr, mIfE, mAndV, mOrV, mNotV, mNeg, mChain, mConsA, mNilA, mStarA, mTup, mLst, pub, pub_vals, List.append_nil, mCall, g1, g2, mFrz, frzE, mFrzS, flE, mStore, mPar, mUnp, svs, setMany, mAug, mMeth, isOb, obTy, setOb, plOf, plPut, mIsT, tyN, tyD, Ty.isa, fLen, fTup, fLst, fInt, fAbs, fII, fSum, fAll, fAny, asK, asSeq, asL, asT, asI, asM, asD, gEq_int, gEq_str, gOrd, ix_t, ix_c, ix_f, gAdd, fAdd, fSub, mFn, mRaise, fOne, kOne, tgN, tgT, tgCons, tgNil, mSrc, srcE, mEnum, kEnum, IT.enum, mZip, kZip, mLc, lcRun, lcOne, wipeE, mYes, fAppend, fExtend, D.isI, List.getElem?_cons_zero, List.getElem?_cons_succ, List.set_cons_zero, List.set_cons_succ, List.getElem?_nil, List.length_cons, List.length_nil, Option.some.injEq, Bool.false_eq_true, if_true, if_false, ite_true, ite_false, reduceIte, Bool.xor_false, Bool.xor_true, Bool.not_true, Bool.not_false, Bool.false_xor, Bool.true_xor, decide_true, decide_false, Nat.zero_add, reduceCtorEq, Nat.reduceAdd, Nat.reduceSub, Nat.reduceMul, Nat.reduceLT, Nat.reduceLeDiff, Nat.reduceEqDiff, Nat.reduceBEq, Int.reduceAdd, Int.reduceSub, Int.reduceMul, Int.reduceNeg, Int.reduceEq, Int.reduceNe, Int.reduceLT, Int.reduceLE, Int.reduceToNat, List.set_cons_zero, sizeL, hl]
    have : natsD row ++ [D.int (i : Int)] = natsD (row ++ [i]) := by unfold natsD; rw [List.map_append]; rfl
    rw [this]
  have hz : (natsR b).length ≤ 16777216 := by unfold natsR; rw [List.length_map, List.length_range]; omega
  have hw : (x.map rowD).length + ((List.range b).map fun mark => rowD (row ++ [mark])).length ≤ 16777216 := by rw [List.length_map, List.length_map, List.length_range]; omega
  have hR : mRg1 (eV 1) [a0, some (.v (.int b)), a2, a3, a4, a5, some (.ol (x.map rowD)), some (.v (rowD row)), a8, a9, a10, a11, a12, a13, a14, a15, a16, a17, a18] S = .ok (.fix (natsR b)) S := rg1_nat (by omega) rfl
  have h1 := ext_ok (k := 6) (ds := x.map rowD) (mo := eV 6) rfl rfl (one_ok (frz_fl (lc_ok (n := 100000) hR hz hC))) hw
  rw [List.map_append, List.map_map]
  exact h1
theorem ba_rows {b k : Nat} (hb : b ≤ 2) (hk : k ≤ 9) (h4 : HasL a4 ((rowsP b k).map rowD)) : ∃ k6 k7, m__law_by_all_L5 [a0, some (.v (.int b)), a2, a3, a4, a5, a6, a7, a8, a9, a10, a11, a12, a13, a14, a15, a16, a17, a18] S = .next [a0, some (.v (.int b)), a2, a3, some (.v (.cl ((rowsP b (k + 1)).map rowD))), a5, k6, k7, a8, a9, a10, a11, a12, a13, a14, a15, a16, a17, a18] S := by
  have hlen : (rowsP b k).length ≤ 512 := by
    rw [rowsP_len]
    exact Nat.le_trans (Nat.pow_le_pow_left hb k) (Nat.pow_le_pow_right (by decide) hk)
  obtain ⟨ρ2, S2, q1, k7, q2, q3⟩ := mFold_pre (tg := tgN 7) (b := m__law_by_all_L4) rowD
    (fun pre ρ S' => ∃ k7, ρ = [a0, some (.v (.int b)), a2, a3, some (.v (.cl ((rowsP b k).map rowD))), a5, some (.ol ((pre.flatMap fun row => (List.range b).map fun mark => row ++ [mark]).map rowD)), k7, a8, a9, a10, a11, a12, a13, a14, a15, a16, a17, a18] ∧ S' = S) (rowsP b k)
    (fun pre row post hl ρ S' ⟨k7, hρ, hS'⟩ => by
      subst hρ hS'
      have hr := (rowsP_row b k row (by rw [hl]; simp)).1
      have hp : pre.length ≤ 512 := by
        have := congrArg List.length hl
        simp at this
        omega
      have hf : (pre.flatMap fun row => (List.range b).map fun mark => row ++ [mark]).length ≤ pre.length * 2 := flat_len fun a _ => by simp; omega
      have e : (pre ++ [row]).flatMap (fun row => (List.range b).map fun mark => row ++ [mark]) = (pre.flatMap fun row => (List.range b).map fun mark => row ++ [mark]) ++ (List.range b).map fun mark => row ++ [mark] := by
        rw [List.flatMap_append, List.flatMap_cons, List.flatMap_nil, List.append_nil]
      refine ⟨_, _, _, rfl, .inl (ba_ext (by omega) (by omega)), some (.v (rowD row)), ?_, rfl⟩
      rw [e])
    [a0, some (.v (.int b)), a2, a3, some (.v (.cl ((rowsP b k).map rowD))), a5, some (.ol []), a7, a8, a9, a10, a11, a12, a13, a14, a15, a16, a17, a18] S ⟨_, rfl, rfl⟩
  subst q2 q3
  refine ⟨some (.v (.cl ((rowsP b (k + 1)).map rowD))), k7, ?_⟩
  refine (seq_n (ρ1 := [a0, some (.v (.int b)), a2, a3, a4, a5, some (.ol []), a7, a8, a9, a10, a11, a12, a13, a14, a15, a16, a17, a18]) (S1 := S2) ?_).trans ?_
  · simp only [mSeq, mSet, Bool.and_true, Bool.true_and, Bool.and_false, Bool.false_and, Bool.or_true, Bool.true_or, Bool.or_false, Bool.false_or,  mRet, mRetN, mIf, mExpr, mNext, mBrk, mCont, eV, eC, eG, m2, gI, R.bind, svE, outE, mB, mCmp, mTV, mNot, mAnd, mOr, mIfE, mAndV, mOrV, mNotV, mNeg, mChain, mConsA, mNilA, mStarA, mTup, mLst, pub, pub_vals, List.append_nil, mCall, g1, g2, mFrz, frzE, mFrzS, flE, mStore, mPar, mUnp, svs, setMany, mAug, mMeth, isOb, obTy, setOb, plOf, plPut, mIsT, tyN, tyD, Ty.isa, fLen, fTup, fLst, fInt, fAbs, fII, fSum, fAll, fAny, asK, asSeq, asL, asT, asI, asM, asD, gEq_int, gEq_str, gOrd, ix_t, ix_c, ix_f, gAdd, fAdd, fSub, mFn, mRaise, fOne, kOne, tgN, tgT, tgCons, tgNil, mSrc, srcE, mEnum, kEnum, IT.enum, mZip, kZip, mLc, lcRun, lcOne, wipeE, mYes, fAppend, fExtend, D.isI, List.getElem?_cons_zero, List.getElem?_cons_succ, List.set_cons_zero, List.set_cons_succ, List.getElem?_nil, List.length_cons, List.length_nil, Option.some.injEq, Bool.false_eq_true, if_true, if_false, ite_true, ite_false, reduceIte, Bool.xor_false, Bool.xor_true, Bool.not_true, Bool.not_false, Bool.false_xor, Bool.true_xor, decide_true, decide_false, Nat.zero_add, reduceCtorEq, Nat.reduceAdd, Nat.reduceSub, Nat.reduceMul, Nat.reduceLT, Nat.reduceLeDiff, Nat.reduceEqDiff, Nat.reduceBEq, Int.reduceAdd, Int.reduceSub, Int.reduceMul, Int.reduceNeg, Int.reduceEq, Int.reduceNe, Int.reduceLT, Int.reduceLE, Int.reduceToNat, List.set_cons_zero, sizeL]
  refine (seq_n ((frz_has h4 rfl).trans ((mFor_fix rfl).trans q1))).trans ?_
  exact (frz_ol rfl).trans rfl
end
end K94

set_option Elab.async false
set_option autoImplicit false
set_option linter.all false
set_option maxRecDepth 100000
set_option maxHeartbeats 2000000
namespace K94
open PySem PySem.Spec PyProof.Rows L2 DL
def stepG (w : Nat) (g : List (List Nat)) (q : (Nat × Nat) × Nat) : List (List Nat) := if w = 2 then setG (setG g q.1.1 q.1.2 q.2) q.1.2 q.1.1 q.2 else setG g q.1.1 q.1.2 q.2
def marksP (w m : Nat) (row : List Nat) : List (List Nat) := ((freeP w m).zip row).foldl (stepG w) (zerosG m)
def addAll (pic : List (List Nat)) (ev : List (List Nat)) (seen : List (List (List Nat))) : List (List (List Nat)) := ev.foldl (fun s p => if movedP pic p ∈ s then s else s ++ [movedP pic p]) seen
def stepA (w m : Nat) (x : List (List (List Nat)) × Nat) (row : List Nat) : List (List (List Nat)) × Nat :=
  if marksP w m row ∈ x.1 then x else (addAll (marksP w m row) (every m) x.1, x.2 + 1)
def byAllN (w m b : Nat) : Nat := ((rowsP b (freeP w m).length).foldl (stepA w m) ([], 0)).2
theorem stepG_sq {n w : Nat} {g : List (List Nat)} {q : (Nat × Nat) × Nat} (h : Sq n g) : Sq n (stepG w g q) := by
  unfold stepG
  split
  · exact (h.set _ _ _).set _ _ _
  · exact h.set _ _ _
theorem foldG_sq {n w : Nat} : ∀ (l : List ((Nat × Nat) × Nat)) {g : List (List Nat)}, Sq n g → Sq n (l.foldl (stepG w) g)
  | [], _, h => h
  | a :: l, _, h => foldG_sq l (stepG_sq h)
theorem marks_sq {w m : Nat} {row : List Nat} : Sq m (marksP w m row) := foldG_sq _ (zerosG_sq m)
abbrev kvS (seen : List (List (List Nat))) : List (D × D) := kvD picD (fun _ => D.bl true) seen
section
variable {a0 a1 a2 a3 a4 a5 a6 a7 a8 a9 a10 a11 a12 a13 a14 a15 a16 a17 a18 : Option SV} {S : Store}
theorem ba_laps {b n : Nat} {P : List D} (hb : b ≤ 2) (hn : P.length = n) (h9 : n ≤ 9) : ∃ k4 k5 k6 k7, m__law_by_all_S3 [a0, some (.v (.int b)), a2, some (.ol P), some (.ol [rowD []]), a5, a6, a7, a8, a9, a10, a11, a12, a13, a14, a15, a16, a17, a18] S = .next [a0, some (.v (.int b)), a2, some (.ol P), k4, k5, k6, k7, a8, a9, a10, a11, a12, a13, a14, a15, a16, a17, a18] S ∧ HasL k4 ((rowsP b n).map rowD) := by
  obtain ⟨ρ2, S2, q1, k4, k5, k6, k7, q2, q3, q4⟩ := mFold_pre (tg := tgN 5) (b := m__law_by_all_L5) (fun (i : Nat) => D.int (i : Int))
    (fun pre ρ S' => ∃ k4 k5 k6 k7, ρ = [a0, some (.v (.int b)), a2, some (.ol P), k4, k5, k6, k7, a8, a9, a10, a11, a12, a13, a14, a15, a16, a17, a18] ∧ S' = S ∧ HasL k4 ((rowsP b pre.length).map rowD)) (List.range n)
    (fun pre a post hl ρ S' ⟨k4, k5, k6, k7, hρ, hS', h4⟩ => by
      subst hρ hS'
      have hp : pre.length ≤ 9 := by
        have := congrArg List.length hl
        simp at this
        omega
      obtain ⟨l6, l7, h⟩ := ba_rows (S := S') (a0 := a0) (a2 := a2) (a3 := some (.ol P)) (a5 := some (.v (.int (a : Int)))) (a6 := k6) (a7 := k7) (a8 := a8) (a9 := a9) (a10 := a10) (a11 := a11) (a12 := a12) (a13 := a13) (a14 := a14) (a15 := a15) (a16 := a16) (a17 := a17) (a18 := a18) hb hp h4
      refine ⟨_, _, _, rfl, .inl h, _, _, _, _, rfl, rfl, .inr ?_⟩
      rw [List.length_append, List.length_singleton])
    [a0, some (.v (.int b)), a2, some (.ol P), some (.ol [rowD []]), a5, a6, a7, a8, a9, a10, a11, a12, a13, a14, a15, a16, a17, a18] S ⟨_, _, _, _, rfl, rfl, .inl rfl⟩
  subst q2 q3
  rw [List.length_range] at q4
  refine ⟨k4, k5, k6, k7, (mFor_fix (rg1_nat (r := n) (by omega) (call_ok (one_ok rfl) ?_))).trans q1, q4⟩
  rw [← hn]; rfl
theorem ba_marks {m : Nat} (hm : m ≤ 3) : m__law_by_all_S5 [some (.v (.int m)), a1, a2, a3, a4, a5, a6, a7, a8, a9, a10, a11, a12, a13, a14, a15, a16, a17, a18] S = .next [some (.v (.int m)), a1, a2, a3, a4, a5, a6, a7, a8, a9, a10, some (.ol (refsD S.length m)), a12, a13, a14, a15, a16, a17, a18] (gridS S (zerosG m)) := by
  have hC : mLcF m__law_by_all_C8 (natsR m) [some (.v (.int m)), a1, a2, a3, a4, a5, a6, a7, a8, a9, a10, a11, a12, a13, a14, a15, a16, a17, a18] S = .ok (refsD S.length m) (gridS S (zerosG m)) := by
    refine mLcF_zeros (fun (i : Nat) => D.int (i : Int)) (List.range m) List.length_range fun i hi S' => ?_
    have hL : mLst (mConsA (eC (.int 0)) mNilA) ([some (.v (.int m)), a1, a2, a3, a4, a5, a6, a7, a8, a9, a10, a11, a12, a13, a14, a15, a16, some (.v (.int (i : Int))), a18]) S' = .ok (.fl [.int 0]) S' := by simp only [mLst, mConsA, eC, mNilA, R.bind, pub]; exact ite_t (by rw [sizeL]; simp)
    exact lc1_ok rfl rfl (m2_ok hL rfl (by rw [mul_fl (by simp; omega) (by omega), natsD_zeros])) rfl
  exact set_l (lc_ok (rg1_nat (by omega) rfl) (by unfold natsR; rw [List.length_map, List.length_range]; omega) hC)
theorem ba_fill {w m : Nat} {row : List Nat} (hw : w < 3) (hm : 1 ≤ m ∧ m ≤ 3) (h3 : HasL a3 ((freeP w m).map prD)) : ∃ k12 k13 k14,
    m__law_by_all_S6 [a0, a1, some (.v (.str (wS w))), a3, a4, a5, a6, some (.v (rowD row)), a8, a9, a10, some (.ol (refsD S.length m)), a12, a13, a14, a15, a16, a17, a18] (gridS S (zerosG m)) =
      .next [a0, a1, some (.v (.str (wS w))), some (.v (.cl ((freeP w m).map prD))), a4, a5, a6, some (.v (rowD row)), a8, a9, a10, some (.ol (refsD S.length m)), k12, k13, k14, a15, a16, a17, a18] (gridS S (marksP w m row)) := by
  obtain ⟨ρ2, S2, q1, k12, k13, k14, q2, q3, q4⟩ := mFold_rel (tg := tgT (tgCons (tgT (tgCons (tgN 12) (tgCons (tgN 13) tgNil))) (tgCons (tgN 14) tgNil))) (b := m__law_by_all_L10) (fun (q : (Nat × Nat) × Nat) => D.tup [prD q.1, .int (q.2 : Int)])
    (fun (g : List (List Nat)) ρ S' => ∃ k12 k13 k14, ρ = [a0, a1, some (.v (.str (wS w))), some (.v (.cl ((freeP w m).map prD))), a4, a5, a6, some (.v (rowD row)), a8, a9, a10, some (.ol (refsD S.length m)), k12, k13, k14, a15, a16, a17, a18] ∧ S' = gridS S g ∧ Sq m g) (stepG w) ((freeP w m).zip row)
    (fun q hq g ρ S' ⟨k12, k13, k14, hρ, hS', hg⟩ => by
      subst hρ hS'
      obtain ⟨f1, _, _, _⟩ := free_ok hw (show 1 ≤ m ∧ m ≤ 5 by omega)
      obtain ⟨l1, l2⟩ := f1 q.1 (List.of_mem_zip (a := q.1) (b := q.2) hq).1
      have e1 := grid_store (me := eV 14) (mo := m2 gIx (eV 11) (eV 12)) (mi := eV 13) (ρ := [a0, a1, some (.v (.str (wS w))), some (.v (.cl ((freeP w m).map prD))), a4, a5, a6, some (.v (rowD row)), a8, a9, a10, some (.ol (refsD S.length m)), some (.v (.int q.1.1)), some (.v (.int q.1.2)), some (.v (.int q.2)), a15, a16, a17, a18]) (T := S) (i := q.1.1) (j := q.1.2) (v := q.2) hg rfl (m2_ok rfl rfl (by rw [ix_s (ds := refsD S.length m) rfl, refs_at l1])) rfl l1 l2
      refine ⟨_, _, _, rfl, .inl ((seq_n e1).trans ?_), some (.v (.int q.1.1)), some (.v (.int q.1.2)), some (.v (.int q.2)), rfl, rfl, stepG_sq hg⟩
      unfold stepG
      by_cases h : w = 2
      · rw [if_pos h]
        refine (if_t (cmp_ok rfl rfl (gEq_str.trans (congrArg (fun z => some (false.xor z)) ((wS_graph hw).trans (decide_eq_true h)))))).trans ?_
        exact grid_store (hg.set _ _ _) rfl (m2_ok rfl rfl (by rw [ix_s (ds := refsD S.length m) rfl, refs_at l2])) rfl l2 l1
      · rw [if_neg h]
        exact if_f (cmp_ok rfl rfl (gEq_str.trans (congrArg (fun z => some (false.xor z)) ((wS_graph hw).trans (decide_eq_false h))))))
    (zerosG m) [a0, a1, some (.v (.str (wS w))), some (.v (.cl ((freeP w m).map prD))), a4, a5, a6, some (.v (rowD row)), a8, a9, a10, some (.ol (refsD S.length m)), a12, a13, a14, a15, a16, a17, a18] (gridS S (zerosG m)) ⟨_, _, _, rfl, rfl, zerosG_sq m⟩
  subst q2 q3
  refine ⟨k12, k13, k14, ?_⟩
  refine (frz_has h3 rfl).trans ((mFor_fix (zip_ok (xs := (freeP w m).map prD) (ys := natsD row) (e := .v (.cl ((freeP w m).map prD))) (f := .v (rowD row)) (consA_ok rfl (one_ok rfl)) rfl rfl)).trans ?_)
  unfold natsD
  rw [zipD_map]
  exact q1
theorem ba_pic {m : Nat} {g : List (List Nat)} (hg : Sq m g) (hm : m ≤ 3) : m__law_by_all_S7 [a0, a1, a2, a3, a4, a5, a6, a7, a8, a9, a10, some (.ol (refsD S.length m)), a12, a13, a14, a15, a16, a17, a18] (gridS S g) = .next [a0, a1, a2, a3, a4, a5, a6, a7, a8, a9, a10, some (.ol (refsD S.length m)), a12, a13, a14, some (.v (picD g)), a16, a17, a18] (gridS S g) := by
  have hC : mLcF m__law_by_all_C12 (refsD S.length m) [a0, a1, a2, a3, a4, a5, a6, a7, a8, a9, a10, some (.ol (refsD S.length m)), a12, a13, a14, a15, a16, a17, a18] (gridS S g) = .ok (g.map rowD) (gridS S g) := by
    have := mLcF_rows (one := m__law_by_all_C12) (ρ := [a0, a1, a2, a3, a4, a5, a6, a7, a8, a9, a10, some (.ol (refsD S.length m)), a12, a13, a14, a15, a16, a17, a18]) (T := S) (g := g) fun i hi => by
      exact lc1_ok rfl rfl (frz_d (call_ok (one_ok rfl) (by simp only [g1, fTup, asL_ref (grid_at hi)]; rfl))) rfl
    rw [hg.1] at this
    exact this
  have hz2 : (refsD S.length m).length ≤ 16777216 := by unfold refsD; rw [List.length_map, List.length_range]; omega
  exact set_v (call_ok (one_ok (lc_own (src_ok rfl rfl) hz2 hC)) rfl)
theorem addAll_len (pic : List (List Nat)) : ∀ (ev : List (List Nat)) (s : List (List (List Nat))), (addAll pic ev s).length ≤ s.length + ev.length
  | [], s => Nat.le_refl _
  | p :: ev, s => by
    show (addAll pic ev (if movedP pic p ∈ s then s else s ++ [movedP pic p])).length ≤ _
    have := addAll_len pic ev (if movedP pic p ∈ s then s else s ++ [movedP pic p])
    rw [List.length_cons]
    split at this
    · simp only [*, if_true]; omega
    · rw [List.length_append, List.length_singleton] at this
      simp only [*, if_false]; omega
theorem ba_seen {m : Nat} {pic : List (List Nat)} {seen : List (List (List Nat))} (hm : 1 ≤ m ∧ m ≤ 5) (hp : Sq m pic) (hS : Shut S) (h8 : HasL a8 ((every m).map rowD)) (hl : seen.length ≤ 1000000) : ∃ k16,
    m__law_by_all_S8 [a0, a1, a2, a3, a4, a5, a6, a7, a8, some (.od (kvS seen)), a10, a11, a12, a13, a14, some (.v (picD pic)), a16, a17, a18] S = .next [a0, a1, a2, a3, a4, a5, a6, a7, some (.v (.cl ((every m).map rowD))), some (.od (kvS (addAll pic (every m) seen))), a10, a11, a12, a13, a14, some (.v (picD pic)), k16, a17, a18] S := by
  obtain ⟨ρ2, S2, q1, k16, q2, q3⟩ := mFold_pre (tg := tgN 16) (b := m__law_by_all_L14) rowD
    (fun pre ρ S' => ∃ k16, ρ = [a0, a1, a2, a3, a4, a5, a6, a7, some (.v (.cl ((every m).map rowD))), some (.od (kvS (addAll pic pre seen))), a10, a11, a12, a13, a14, some (.v (picD pic)), k16, a17, a18] ∧ S' = S) (every m)
    (fun pre p post hl2 ρ S' ⟨k16, hρ, hS'⟩ => by
      subst hρ hS'
      obtain ⟨p1, p2⟩ := every_ok hm p (by rw [hl2]; simp)
      have hle := every_len hm
      have hpre : pre.length ≤ 1000 := by
        have := congrArg List.length hl2
        simp at this
        omega
      have hal := addAll_len pic pre seen
      have h1 := store_dic (me := eC (.bl true)) (mo := eV 9) (mi := mFn 2 M__law_moved (mConsA (eV 15) (mConsA (eV 16) mNilA))) (ρ := [a0, a1, a2, a3, a4, a5, a6, a7, some (.v (.cl ((every m).map rowD))), some (.od (kvS (addAll pic pre seen))), a10, a11, a12, a13, a14, some (.v (picD pic)), some (.v (rowD p)), a17, a18]) (S := S') (k := 9) (d := .bl true) (e := picD (movedP pic p)) (kvs := kvS (addAll pic pre seen)) rfl rfl
        (fn_ok (ds := [picD pic, rowD p]) rfl rfl (r_moved hS p1 p2 hp (by omega))) rfl (kOk_enc enc_pic _) (by unfold kvS kvD; rw [List.length_map]; omega)
      rw [put_enc enc_pic] at h1
      have e : addAll pic (pre ++ [p]) seen = if movedP pic p ∈ addAll pic pre seen then addAll pic pre seen else addAll pic pre seen ++ [movedP pic p] := by
        unfold addAll
        rw [List.foldl_append]
        rfl
      refine ⟨_, _, _, rfl, .inl h1, some (.v (rowD p)), ?_, rfl⟩
      rw [e]
      by_cases hmem : movedP pic p ∈ addAll pic pre seen
      · simp only [if_pos hmem]; rfl
      · simp only [if_neg hmem]; rfl)
    [a0, a1, a2, a3, a4, a5, a6, a7, some (.v (.cl ((every m).map rowD))), some (.od (kvS seen)), a10, a11, a12, a13, a14, some (.v (picD pic)), a16, a17, a18] S ⟨_, rfl, rfl⟩
  subst q2 q3
  exact ⟨k16, (frz_has h8 rfl).trans ((mFor_fix rfl).trans q1)⟩
theorem ba_row {w m : Nat} {row : List Nat} {x : List (List (List Nat)) × Nat} (hw : w < 3) (hm : 1 ≤ m ∧ m ≤ 3) (hS : Shut S) (h3 : HasL a3 ((freeP w m).map prD)) (h8 : HasL a8 ((every m).map rowD)) (hl : x.1.length ≤ 1000000) : ∃ k8 k11 k12 k13 k14 k15 k16,
    m__law_by_all_L17 [some (.v (.int m)), a1, some (.v (.str (wS w))), a3, a4, a5, a6, some (.v (rowD row)), a8, some (.od (kvS x.1)), some (.v (.int x.2)), a11, a12, a13, a14, a15, a16, a17, a18] S =
      .next [some (.v (.int m)), a1, some (.v (.str (wS w))), some (.v (.cl ((freeP w m).map prD))), a4, a5, a6, some (.v (rowD row)), k8, some (.od (kvS (stepA w m x row).1)), some (.v (.int (stepA w m x row).2)), k11, k12, k13, k14, k15, k16, a17, a18] (gridS S (marksP w m row)) ∧ HasL k8 ((every m).map rowD) := by
  have h5 := ba_marks (S := S) (a1 := a1) (a2 := some (.v (.str (wS w)))) (a3 := a3) (a4 := a4) (a5 := a5) (a6 := a6) (a7 := some (.v (rowD row))) (a8 := a8) (a9 := some (.od (kvS x.1))) (a10 := some (.v (.int x.2))) (a11 := a11) (a12 := a12) (a13 := a13) (a14 := a14) (a15 := a15) (a16 := a16) (a17 := a17) (a18 := a18) hm.2
  obtain ⟨k12, k13, k14, h6⟩ := ba_fill (S := S) (row := row) (a0 := some (.v (.int m))) (a1 := a1) (a4 := a4) (a5 := a5) (a6 := a6) (a8 := a8) (a9 := some (.od (kvS x.1))) (a10 := some (.v (.int x.2))) (a12 := a12) (a13 := a13) (a14 := a14) (a15 := a15) (a16 := a16) (a17 := a17) (a18 := a18) hw hm h3
  have hsq : Sq m (marksP w m row) := marks_sq
  have h7 := ba_pic (S := S) (a0 := some (.v (.int m))) (a1 := a1) (a2 := some (.v (.str (wS w)))) (a3 := some (.v (.cl ((freeP w m).map prD)))) (a4 := a4) (a5 := a5) (a6 := a6) (a7 := some (.v (rowD row))) (a8 := a8) (a9 := some (.od (kvS x.1))) (a10 := some (.v (.int x.2))) (a12 := k12) (a13 := k13) (a14 := k14) (a15 := a15) (a16 := a16) (a17 := a17) (a18 := a18) hsq hm.2
  have hg := gridS_shut hS (marksP w m row)
  by_cases hmem : marksP w m row ∈ x.1
  · have e : stepA w m x row = x := if_pos hmem
    rw [e]
    refine ⟨a8, some (.ol (refsD S.length m)), k12, k13, k14, some (.v (picD (marksP w m row))), a16, (seq_n h5).trans ((seq_n h6).trans ((seq_n h7).trans ?_)), h8⟩
    exact if_f (cmp_ok rfl rfl (in_enc_t enc_pic hmem rfl))
  · have e : stepA w m x row = (addAll (marksP w m row) (every m) x.1, x.2 + 1) := if_neg hmem
    rw [e]
    obtain ⟨k16, h⟩ := ba_seen (S := gridS S (marksP w m row)) (a0 := some (.v (.int m))) (a1 := a1) (a2 := some (.v (.str (wS w)))) (a3 := some (.v (.cl ((freeP w m).map prD)))) (a4 := a4) (a5 := a5) (a6 := a6) (a7 := some (.v (rowD row))) (a8 := a8) (a10 := some (.v (.int ((x.2 + 1 : Nat) : Int)))) (a11 := some (.ol (refsD S.length m))) (a12 := k12) (a13 := k13) (a14 := k14) (a16 := a16) (a17 := a17) (a18 := a18) (by omega) hsq hg h8 hl
    refine ⟨some (.v (.cl ((every m).map rowD))), some (.ol (refsD S.length m)), k12, k13, k14, some (.v (picD (marksP w m row))), k16, (seq_n h5).trans ((seq_n h6).trans ((seq_n h7).trans ?_)), .inr rfl⟩
    refine (if_t (cmp_ok rfl rfl (in_enc_f enc_pic hmem rfl))).trans ((seq_n (set_v (m2_ok (r := .ok (.v (.int ((x.2 + 1 : Nat) : Int))) _) rfl rfl ?_))).trans h)
    show R.ok (EV.v (D.int ((x.2 : Int) + 1))) _ = _
    rw [show (x.2 : Int) + 1 = ((x.2 + 1 : Nat) : Int) by omega]
end
theorem r_by_all {w m b : Nat} {S : Store} (hw : w < 3) (hm : 1 ≤ m ∧ m ≤ 3) (hb : b ≤ 2) (hS : Shut S) : M__law_by_all [.int m, .int b, .str (wS w)] S = .ok (.v (.int (byAllN w m b : Nat))) S := by
  have hm5 : 1 ≤ m ∧ m ≤ 5 := by omega
  obtain ⟨f1, f2, f3, f4⟩ := free_ok hw hm5
  have f9 : (freeP w m).length ≤ 9 := by
    have h : ((List.range 3).all fun w => (List.range 3).all fun i => Nat.ble (freeP w (i + 1)).length 9) = true := by decide +kernel
    have a := List.all_eq_true.mp (List.all_eq_true.mp h w (List.mem_range.mpr hw)) (m - 1) (List.mem_range.mpr (by omega))
    rw [show m - 1 + 1 = m by omega] at a
    exact Nat.le_of_ble_eq_true a
  have h1 : m__law_by_all_S1 [some (.v (.int m)), some (.v (.int b)), some (.v (.str (wS w))), none, none, none, none, none, none, none, none, none, none, none, none, none, none, none, none] S =
      .next [some (.v (.int m)), some (.v (.int b)), some (.v (.str (wS w))), some (.ol ((freeP w m).map prD)), some (.ol [rowD []]), none, none, none, none, none, none, none, none, none, none, none, none, none, none] S := by
    refine par_ok (es := [.fl ((freeP w m).map prD), .fl [rowD []]]) (consA_ok (fn_ok (ds := [.int m, .str (wS w)]) rfl rfl (r_free hS hw hm5)) (one_ok ?_)) rfl rfl
    simp only [mLst, mTup, mConsA, mNilA, R.bind, pub, sizeL]
    rfl
  obtain ⟨k4, k5, k6, k7, h3, h4⟩ := ba_laps (S := S) (a0 := some (.v (.int m))) (a2 := some (.v (.str (wS w)))) (a5 := none) (a6 := none) (a7 := none) (a8 := none) (a9 := none) (a10 := none) (a11 := none) (a12 := none) (a13 := none) (a14 := none) (a15 := none) (a16 := none) (a17 := none) (a18 := none) hb (List.length_map (f := prD) (as := freeP w m)) f9
  have h5 : m__law_by_all_S4 [some (.v (.int m)), some (.v (.int b)), some (.v (.str (wS w))), some (.ol ((freeP w m).map prD)), k4, k5, k6, k7, none, none, none, none, none, none, none, none, none, none, none] S =
      .next [some (.v (.int m)), some (.v (.int b)), some (.v (.str (wS w))), some (.ol ((freeP w m).map prD)), k4, k5, k6, k7, some (.v (.cl ((every m).map rowD))), some (.od (kvS [])), some (.v (.int (0 : Nat))), none, none, none, none, none, none, none, none] S :=
    par_ok (es := [.v (.cl ((every m).map rowD)), .fd [], .v (.int 0)]) (consA_ok (fn_ok (ds := [.int m]) rfl rfl (r_every hS hm5)) (consA_ok rfl (one_ok rfl))) rfl rfl
  have hrl : (rowsP b (freeP w m).length).length ≤ 512 := by
    rw [rowsP_len]
    exact Nat.le_trans (Nat.pow_le_pow_left hb _) (Nat.pow_le_pow_right (by decide) f9)
  have hst : ∀ (l : List (List Nat)) (x : List (List (List Nat)) × Nat), (l.foldl (stepA w m) x).1.length ≤ x.1.length + l.length * 1000 := fun l => by
    induction l with
    | nil => intro x; simp
    | cons a r ih =>
      intro x
      have h2 := ih (stepA w m x a)
      have h3 : (stepA w m x a).1.length ≤ x.1.length + 1000 := by
        unfold stepA
        split
        · omega
        · have := addAll_len (marksP w m a) (every m) x.1
          have := every_len hm5
          show (addAll (marksP w m a) (every m) x.1).length ≤ _
          omega
      rw [List.foldl_cons, List.length_cons]
      omega
  obtain ⟨ρ2, S2, q1, k3, k7', k8, k11, k12, k13, k14, k15, k16, E, q2, q3, _⟩ := mFold_pre (tg := tgN 7) (b := m__law_by_all_L17) rowD
    (fun pre ρ S' => ∃ k3 k7 k8 k11 k12 k13 k14 k15 k16 E, ρ = [some (.v (.int m)), some (.v (.int b)), some (.v (.str (wS w))), k3, some (.v (.cl ((rowsP b (freeP w m).length).map rowD))), k5, k6, k7, k8, some (.od (kvS (pre.foldl (stepA w m) ([], 0)).1)), some (.v (.int (pre.foldl (stepA w m) ([], 0)).2)), k11, k12, k13, k14, k15, k16, none, none] ∧
      S' = S ++ E ∧ Shut S' ∧ HasL k3 ((freeP w m).map prD) ∧ HasL k8 ((every m).map rowD)) (rowsP b (freeP w m).length)
    (fun pre row post hl ρ S' ⟨k3, k7, k8, k11, k12, k13, k14, k15, k16, E, hρ, hE, hS', h3', h8'⟩ => by
      subst hρ
      have hp : pre.length ≤ 512 := by
        have := congrArg List.length hl
        simp at this
        omega
      have hx := hst pre ([], 0)
      obtain ⟨l8, l11, l12, l13, l14, l15, l16, h, h8''⟩ := ba_row (S := S') (row := row) (x := pre.foldl (stepA w m) ([], 0)) (a1 := some (.v (.int b))) (a4 := some (.v (.cl ((rowsP b (freeP w m).length).map rowD)))) (a5 := k5) (a6 := k6) (a11 := k11) (a12 := k12) (a13 := k13) (a14 := k14) (a15 := k15) (a16 := k16) (a17 := none) (a18 := none) hw hm hS' h3' h8' (by simp only [List.length_nil] at hx; omega)
      have e : (pre ++ [row]).foldl (stepA w m) ([], 0) = stepA w m (pre.foldl (stepA w m) ([], 0)) row := by rw [List.foldl_append]; rfl
      refine ⟨_, _, _, rfl, .inl h, some (.v (.cl ((freeP w m).map prD))), some (.v (rowD row)), l8, l11, l12, l13, l14, l15, l16, E ++ (marksP w m row).map fun r => .lst (natsD r), ?_, ?_, gridS_shut hS' _, .inr rfl, h8''⟩
      · rw [e]
      · unfold gridS; rw [hE, List.append_assoc])
    [some (.v (.int m)), some (.v (.int b)), some (.v (.str (wS w))), some (.ol ((freeP w m).map prD)), some (.v (.cl ((rowsP b (freeP w m).length).map rowD))), k5, k6, k7, some (.v (.cl ((every m).map rowD))), some (.od (kvS [])), some (.v (.int (0 : Nat))), none, none, none, none, none, none, none, none] S
    ⟨some (.ol ((freeP w m).map prD)), k7, some (.v (.cl ((every m).map rowD))), none, none, none, none, none, none, [], rfl, by rw [List.append_nil], hS, .inl rfl, .inr rfl⟩
  subst q2 q3
  refine fc_vT (T := E) hS rfl ?_
  refine (seq_n h1).trans ((seq_n h3).trans ((seq_n h5).trans ((seq_n ((frz_has h4 rfl).trans ((mFor_fix rfl).trans q1))).trans ?_)))
  exact ret_v rfl
end K94

set_option Elab.async false
set_option autoImplicit false
set_option linter.all false
set_option maxRecDepth 100000
set_option maxHeartbeats 4000000
namespace K94
open PySem PySem.Spec PyProof.Rows L2 DL
/-! ## what is told is the same -/
def ringsLit : Nat → Nat → List Nat
  | 0, 1 => [1]
  | 0, 2 => [4, 2]
  | 0, 3 => [9, 5, 5, 3, 3, 5]
  | 0, 4 => [16, 10, 10, 6, 6, 10, 10, 8, 6, 4, 4, 6, 6, 4, 10, 6, 8, 4, 4, 6, 6, 10, 4, 8]
  | 0, 5 => [25, 17, 17, 11, 11, 17, 17, 13, 11, 7, 7, 11, 11, 7, 17, 11, 13, 7, 7, 11, 11, 17, 7, 13, 17, 13, 13, 7, 7, 13, 11, 7, 7, 5, 5, 7, 7, 5, 11, 7, 7, 5, 5, 7, 7, 11, 5, 7, 11, 7, 7, 5, 5, 7, 17, 13, 11, 7, 7, 11, 13, 7, 7, 5, 5, 7, 7, 13, 5, 7, 7, 5, 7, 5, 11, 7, 7, 5, 11, 7, 17, 11, 13, 7, 7, 5, 13, 7, 7, 5, 5, 7, 7, 5, 13, 7, 5, 7, 7, 11, 5, 7, 7, 11, 11, 17, 7, 13, 5, 7, 7, 13, 5, 7, 7, 5, 5, 7, 7, 13]
  | 1, 1 => [0]
  | 1, 2 => [2, 1]
  | 1, 3 => [6, 3, 3, 2, 2, 3]
  | 1, 4 => [12, 7, 7, 4, 4, 7, 7, 6, 4, 3, 3, 4, 4, 3, 7, 4, 6, 3, 3, 4, 4, 7, 3, 6]
  | 1, 5 => [20, 13, 13, 8, 8, 13, 13, 10, 8, 5, 5, 8, 8, 5, 13, 8, 10, 5, 5, 8, 8, 13, 5, 10, 13, 10, 10, 5, 5, 10, 8, 5, 5, 4, 4, 5, 5, 4, 8, 5, 5, 4, 4, 5, 5, 8, 4, 5, 8, 5, 5, 4, 4, 5, 13, 10, 8, 5, 5, 8, 10, 5, 5, 4, 4, 5, 5, 10, 4, 5, 5, 4, 5, 4, 8, 5, 5, 4, 8, 5, 13, 8, 10, 5, 5, 4, 10, 5, 5, 4, 4, 5, 5, 4, 10, 5, 4, 5, 5, 8, 4, 5, 5, 8, 8, 13, 5, 10, 4, 5, 5, 10, 4, 5, 5, 4, 4, 5, 5, 10]
  | 2, 1 => [0]
  | 2, 2 => [1, 1]
  | 2, 3 => [3, 2, 2, 1, 1, 2]
  | 2, 4 => [6, 4, 4, 2, 2, 4, 4, 4, 2, 2, 2, 2, 2, 2, 4, 2, 4, 2, 2, 2, 2, 4, 2, 4]
  | 2, 5 => [10, 7, 7, 4, 4, 7, 7, 6, 4, 3, 3, 4, 4, 3, 7, 4, 6, 3, 3, 4, 4, 7, 3, 6, 7, 6, 6, 3, 3, 6, 4, 3, 3, 2, 2, 3, 3, 2, 4, 3, 3, 2, 2, 3, 3, 4, 2, 3, 4, 3, 3, 2, 2, 3, 7, 6, 4, 3, 3, 4, 6, 3, 3, 2, 2, 3, 3, 6, 2, 3, 3, 2, 3, 2, 4, 3, 3, 2, 4, 3, 7, 4, 6, 3, 3, 2, 6, 3, 3, 2, 2, 3, 3, 2, 6, 3, 2, 3, 3, 4, 2, 3, 3, 4, 4, 7, 3, 6, 2, 3, 3, 6, 2, 3, 3, 2, 2, 3, 3, 6]
  | _, _ => []
theorem rings_lit : ((List.range 3).all fun w => (List.range 5).all fun i => decide (ringsAll w (i + 1) = ringsLit w (i + 1))) = true := by decide +kernel
def sumLit (b : Nat) (l : List Nat) : Int := l.foldl (fun (x : Int) r => x + (b : Int) ^ r) 0
theorem same_rings : ((List.range 3).all fun w => (List.range 5).all fun i => (List.range 10).all fun b => decide (sumLit (b + 1) (ringsLit w (i + 1)) / ((ringsLit w (i + 1)).length : Nat) = countI w (i + 1) (b + 1))) = true := by decide +kernel
theorem rings_eq {w m b : Nat} (hw : w < 3) (hm : 1 ≤ m ∧ m ≤ 5) (hb : 1 ≤ b ∧ b ≤ 10) : byRingsI w m b = countI w m b := by
  have h1 := of_decide_eq_true (List.all_eq_true.mp (List.all_eq_true.mp rings_lit w (List.mem_range.mpr hw)) (m - 1) (List.mem_range.mpr (by omega)))
  have h2 := of_decide_eq_true (List.all_eq_true.mp (List.all_eq_true.mp (List.all_eq_true.mp same_rings w (List.mem_range.mpr hw)) (m - 1) (List.mem_range.mpr (by omega))) (b - 1) (List.mem_range.mpr (by omega)))
  rw [show m - 1 + 1 = m by omega] at h1 h2
  rw [show b - 1 + 1 = b by omega] at h2
  rw [← h2, ← h1]
  unfold byRingsI sumLit ringsAll
  rw [List.foldl_map, List.length_map]
/-! ### pictures by numbers -/
def Lt2 (g : List (List Nat)) : Prop := ∀ r ∈ g, ∀ v ∈ r, v < 2
theorem Lt2.setG {g : List (List Nat)} (h : Lt2 g) {i j v : Nat} (hv : v < 2) : Lt2 (DL.setG g i j v) := by
  intro r hr x hx
  unfold DL.setG at hr
  by_cases hi : i < g.length
  · rcases List.mem_or_eq_of_mem_set hr with hr | rfl
    · exact h r hr x hx
    · rw [List.getD_eq_getElem?_getD, List.getElem?_eq_getElem hi] at hx
      rcases List.mem_or_eq_of_mem_set hx with hx | rfl
      · exact h _ (List.getElem_mem hi) x hx
      · exact hv
  · rw [List.set_eq_of_length_le (by omega)] at hr
    exact h r hr x hx
theorem zeros_lt (n : Nat) : Lt2 (zerosG n) := fun r hr v hv => by
  rw [List.eq_of_mem_replicate hr] at hv
  rw [List.eq_of_mem_replicate hv]; decide
theorem foldl_keep {α β : Type} {P : α → Prop} {f : α → β → α} : ∀ (l : List β) (a : α), P a → (∀ a b, b ∈ l → P a → P (f a b)) → P (l.foldl f a)
  | [], a, h, _ => h
  | b :: l, a, h, k => foldl_keep l (f a b) (k a b (by simp) h) fun a' b' hb => k a' b' (by simp [hb])
theorem moved_lt {pic : List (List Nat)} {p : List Nat} (h : Lt2 pic) : Lt2 (movedP pic p) := by
  unfold movedP
  refine foldl_keep (P := Lt2) _ _ (zeros_lt _) fun g q hq hg => ?_
  unfold rowM
  exact foldl_keep (P := Lt2) _ _ hg fun g2 q2 hq2 hg2 => hg2.setG (h q.1 (List.mem_of_getElem? (zipIx_at hq)) _ (List.mem_of_getElem? (zipIx_at hq2)))
theorem marks_lt {w m : Nat} {row : List Nat} (h : ∀ v ∈ row, v < 2) : Lt2 (marksP w m row) := by
  unfold marksP
  refine foldl_keep (P := Lt2) _ _ (zeros_lt _) fun g q hq hg => ?_
  have hv := h q.2 (List.of_mem_zip (a := q.1) (b := q.2) hq).2
  unfold stepG
  split
  · exact (hg.setG hv).setG hv
  · exact hg.setG hv
def codeN (B : Nat) (l : List Nat) : Nat := l.foldl (fun a v => B * a + v) 0
theorem code_inj {B : Nat} : ∀ {l k : List Nat} {a b : Nat}, l.length = k.length → (∀ v ∈ l, v < B) → (∀ v ∈ k, v < B) → l.foldl (fun a v => B * a + v) a = k.foldl (fun a v => B * a + v) b → a = b ∧ l = k
  | [], [], a, b, _, _, _, h => ⟨h, rfl⟩
  | x :: l, y :: k, a, b, hl, h1, h2, h => by
    have hx := h1 x (by simp)
    have hy := h2 y (by simp)
    obtain ⟨e1, e2⟩ := code_inj (l := l) (k := k) (a := B * a + x) (b := B * b + y) (by simpa using hl) (fun v hv => h1 v (by simp [hv])) (fun v hv => h2 v (by simp [hv])) h
    have hB : 0 < B := by omega
    have q1 : (B * a + x) / B = a := by rw [Nat.mul_add_div hB, Nat.div_eq_of_lt hx, Nat.add_zero]
    have q2 : (B * b + y) / B = b := by rw [Nat.mul_add_div hB, Nat.div_eq_of_lt hy, Nat.add_zero]
    have hab : a = b := by rw [← q1, e1, q2]
    subst hab
    exact ⟨rfl, by rw [e2, show x = y by omega]⟩
theorem code_lt : ∀ (l : List Nat) (a k : Nat), (∀ v ∈ l, v < 2) → a < 2 ^ k → l.foldl (fun a v => 2 * a + v) a < 2 ^ (k + l.length)
  | [], a, k, _, h => h
  | x :: l, a, k, hl, h => by
    have hx := hl x (by simp)
    have := code_lt l (2 * a + x) (k + 1) (fun v hv => hl v (by simp [hv])) (by rw [Nat.pow_succ]; omega)
    rw [List.length_cons]
    rw [show k + (l.length + 1) = k + 1 + l.length by omega]
    exact this
def codeP (g : List (List Nat)) : Nat := codeN 8 (g.map (codeN 2))
theorem codeP_inj {m : Nat} {g h : List (List Nat)} (hm : m ≤ 3) (g1 : Sq m g) (g2 : Lt2 g) (h1 : Sq m h) (h2 : Lt2 h) (e : codeP g = codeP h) : g = h := by
  have lt8 : ∀ {g : List (List Nat)}, Sq m g → Lt2 g → ∀ v ∈ g.map (codeN 2), v < 8 := fun {g} g1 g2 v hv => by
    obtain ⟨r, hr, rfl⟩ := List.mem_map.mp hv
    have := code_lt r 0 0 (g2 r hr) (by decide)
    rw [g1.2 r hr, Nat.zero_add] at this
    exact Nat.lt_of_lt_of_le this (Nat.pow_le_pow_right (by decide) hm)
  obtain ⟨_, e2⟩ := code_inj (B := 8) (by rw [List.length_map, List.length_map, g1.1, h1.1]) (lt8 g1 g2) (lt8 h1 h2) e
  have go : ∀ (a b : List (List Nat)), (∀ r ∈ a, r.length = m ∧ ∀ v ∈ r, v < 2) → (∀ r ∈ b, r.length = m ∧ ∀ v ∈ r, v < 2) → a.map (codeN 2) = b.map (codeN 2) → a = b := fun a => by
    induction a with
    | nil => intro b _ _ e; cases b with
      | nil => rfl
      | cons y s => cases e
    | cons x r ih =>
      intro b ha hb e
      cases b with
      | nil => cases e
      | cons y s =>
        injection e with e1 e2
        obtain ⟨p1, p2⟩ := ha x (by simp)
        obtain ⟨q1, q2⟩ := hb y (by simp)
        obtain ⟨_, e3⟩ := code_inj (B := 2) (by rw [p1, q1]) p2 q2 e1
        rw [e3, ih s (fun z hz => ha z (by simp [hz])) (fun z hz => hb z (by simp [hz])) e2]
  exact go g h (fun r hr => ⟨g1.2 r hr, g2 r hr⟩) (fun r hr => ⟨h1.2 r hr, h2 r hr⟩) e2
def addMask (pic : List (List Nat)) (ev : List (List Nat)) (k : Nat) : Nat := ev.foldl (fun k p => k ||| 2 ^ codeP (movedP pic p)) k
def stepM (w m : Nat) (y : Nat × Nat) (row : List Nat) : Nat × Nat :=
  if Nat.testBit y.1 (codeP (marksP w m row)) = true then y else (addMask (marksP w m row) (every m) y.1, y.2 + 1)
def byMask (w m b : Nat) : Nat := ((rowsP b (freeP w m).length).foldl (stepM w m) (0, 0)).2
def Tells (m : Nat) (seen : List (List (List Nat))) (k : Nat) : Prop := ∀ g, Sq m g → Lt2 g → (g ∈ seen ↔ Nat.testBit k (codeP g) = true)
theorem tells_add {m : Nat} (hm : m ≤ 3) {pic : List (List Nat)} (hp : Lt2 pic) (hl : pic.length = m) : ∀ (ev : List (List Nat)) {seen : List (List (List Nat))} {k : Nat}, Tells m seen k → Tells m (addAll pic ev seen) (addMask pic ev k)
  | [], _, _, h => h
  | p :: ev, seen, k, h => by
    refine tells_add hm hp hl ev (seen := if movedP pic p ∈ seen then seen else seen ++ [movedP pic p]) (k := k ||| 2 ^ codeP (movedP pic p)) fun g g1 g2 => ?_
    have q1 := movedP_sq (p := p) hl
    have q2 := moved_lt (p := p) hp
    rw [Nat.testBit_or, Nat.testBit_two_pow, Bool.or_eq_true, ← h g g1 g2, decide_eq_true_eq]
    have key : codeP (movedP pic p) = codeP g ↔ g = movedP pic p := ⟨fun e => (codeP_inj hm q1 q2 g1 g2 e).symm, fun e => by rw [e]⟩
    rw [key]
    by_cases hmem : movedP pic p ∈ seen
    · rw [if_pos hmem]
      exact ⟨fun z => .inl z, fun z => by rcases z with z | rfl; exact z; exact hmem⟩
    · rw [if_neg hmem, List.mem_append, List.mem_singleton]
theorem mask_eq {w m b : Nat} (hm : m ≤ 3) (hb : b ≤ 2) : byAllN w m b = byMask w m b := by
  have go : ∀ (l : List (List Nat)) (x : List (List (List Nat)) × Nat) (y : Nat × Nat), (∀ r ∈ l, ∀ v ∈ r, v < 2) → x.2 = y.2 → Tells m x.1 y.1 → (l.foldl (stepA w m) x).2 = (l.foldl (stepM w m) y).2 := fun l => by
    induction l with
    | nil => intro x y _ h _; exact h
    | cons row r ih =>
      intro x y hv h2 ht
      rw [List.foldl_cons, List.foldl_cons]
      have q1 : Sq m (marksP w m row) := marks_sq
      have q2 : Lt2 (marksP w m row) := marks_lt (hv row (by simp))
      have hk := ht _ q1 q2
      by_cases hmem : marksP w m row ∈ x.1
      · have e1 : stepA w m x row = x := if_pos hmem
        have e2 : stepM w m y row = y := if_pos (hk.mp hmem)
        rw [e1, e2]
        exact ih x y (fun z hz => hv z (by simp [hz])) h2 ht
      · have e1 : stepA w m x row = (addAll (marksP w m row) (every m) x.1, x.2 + 1) := if_neg hmem
        have e2 : stepM w m y row = (addMask (marksP w m row) (every m) y.1, y.2 + 1) := if_neg fun z => hmem (hk.mpr z)
        rw [e1, e2]
        exact ih _ _ (fun z hz => hv z (by simp [hz])) (by show x.2 + 1 = y.2 + 1; rw [h2]) (tells_add hm q2 q1.1 (every m) ht)
  refine go _ ([], 0) (0, 0) (fun r hr v hv => ?_) rfl fun g _ _ => ?_
  · have := (rowsP_row b _ r hr).2 v hv
    omega
  · rw [Nat.zero_testBit]; simp
theorem same_all : ((List.range 3).all fun w => (List.range 3).all fun i => (List.range 2).all fun b => decide (((byMask w (i + 1) (b + 1) : Nat) : Int) = countI w (i + 1) (b + 1))) = true := by decide +kernel
theorem all_eq {w m b : Nat} (hw : w < 3) (hm : 1 ≤ m ∧ m ≤ 3) (hb : 1 ≤ b ∧ b ≤ 2) : ((byAllN w m b : Nat) : Int) = countI w m b := by
  have h2 := of_decide_eq_true (List.all_eq_true.mp (List.all_eq_true.mp (List.all_eq_true.mp same_all w (List.mem_range.mpr hw)) (m - 1) (List.mem_range.mpr (by omega))) (b - 1) (List.mem_range.mpr (by omega)))
  rw [show m - 1 + 1 = m by omega, show b - 1 + 1 = b by omega] at h2
  rw [mask_eq hm.2 hb.2]
  exact h2
end K94

set_option Elab.async false
set_option autoImplicit false
set_option linter.all false
set_option maxRecDepth 100000
set_option maxHeartbeats 4000000
namespace K94
open PySem PySem.Spec PyProof.Rows L2 DL
/-! ## the law's one cell -/
theorem take_eq : M__law_take = MD_take := rfl
theorem of_eq : M__law_of = MD_of := rfl
theorem pot_eq : M__law_pot = MD_pot := rfl
theorem cells_eq : M__law_cells = MD_cells := rfl
structure PS (n : Nat) (S : Store) (k : Int) : Prop where
  shut : Shut S
  pot : ∃ a b c, S[n]? = some (.lst [.int a, .int b, .int c]) ∧ Pot k a b c
theorem PS.set {n : Nat} {S : Store} {k j a b c : Int} (h : PS n S k) (p : Pot j a b c) : PS n (S.set n (.lst [.int a, .int b, .int c])) j := by
  obtain ⟨x, y, z, h1, _⟩ := h.pot
  exact ⟨pot_shut h.shut, a, b, c, List.getElem?_set_self (List.getElem?_eq_some_iff.mp h1).1, p⟩
theorem PS.take {n : Nat} {S : Store} {k u : Int} (h : PS n S k) (hk : k < 1000000) (hu : 0 < u ∧ u ≤ 1000000) : ∃ (r : Nat) (S' : Store), M__law_take [.ref n, .int u] S = .ok (.v (.int r)) S' ∧ PS n S' (k + 1) ∧ S'.length = S.length ∧ (r : Int) < u := by
  obtain ⟨a, b, c, h1, p⟩ := h.pot
  obtain ⟨a', b', c', r, q1, q2, q3, q4⟩ := r_take h.shut h1 p hk hu
  refine ⟨r.toNat, _, ?_, h.set q2, by rw [List.length_set], by omega⟩
  rw [take_eq, q1, show ((r.toNat : Nat) : Int) = r by omega]
theorem PS.of {n : Nat} {S : Store} {k : Int} {ds : List D} (h : PS n S k) (hk : k < 1000000) (hl : 0 < ds.length ∧ ds.length ≤ 1000000) (hf : D.frees ds = true) : ∃ (d : D) (S' : Store), M__law_of [.ref n, .cl ds] S = .ok (.v d) S' ∧ PS n S' (k + 1) ∧ S'.length = S.length ∧ d ∈ ds := by
  obtain ⟨a, b, c, h1, p⟩ := h.pot
  obtain ⟨a', b', c', d, q1, q2, q3⟩ := r_of h.shut h1 p hk hl hf
  exact ⟨d, _, q1, h.set q2, by rw [List.length_set], q3⟩
/-! ### what is written is the same -/
def reprOk (d : D) : Bool := (d.pure && d.py.showable) && decide (d.dp ≤ 40) && decide (d.py.shown.length ≤ 16777216)
theorem repr_ok {d : D} {ma : MA} {ρ : DL.Env} {S S1 : Store} (h : ma ρ S = .ok [.v d] S1) (ok : reprOk d = true) (hd : asD ρ S1 (.v d) = some d) : mCall (g1 fRepr) ma ρ S = .ok (.v (.str d.py.shown)) S1 := by
  unfold reprOk at ok
  simp only [Bool.and_eq_true, decide_eq_true_eq] at ok
  obtain ⟨⟨⟨o1, o2⟩, o3⟩, o4⟩ := ok
  refine call_ok h ?_
  show fRepr (.v d) ρ S1 = _
  unfold fRepr
  rw [hd]
  exact if_pos ⟨by rw [o1, o2]; rfl, o3, by rw [sizeL]; exact o4⟩
theorem same_repr {d e : D} {ma mb : MA} {u : MS} {ρ : DL.Env} {S S1 S2 : Store} (h1 : ma ρ S = .ok [.v d] S1) (h2 : mb ρ S1 = .ok [.v e] S2) (he : d = e) (ok : reprOk d = true) (hd : ∀ S, asD ρ S (.v d) = some d) : mIf (mCmp (gEq true) (mCall (g1 fRepr) ma) (mCall (g1 fRepr) mb)) u mNext ρ S = .next ρ S2 := by
  subst he
  refine (if_f (S1 := S2) (cmp_ok (repr_ok h1 ok (hd _)) (repr_ok h2 ok (hd _)) ?_)).trans rfl
  rw [gEq_str]
  simp
theorem repr_all : ((List.range 3).all fun w => (List.range 5).all fun i => (List.range 10).all fun b => reprOk (.int (countI w (i + 1) (b + 1)))) = true := by decide +kernel
theorem repr_count {w m b : Nat} (hw : w < 3) (hm : 1 ≤ m ∧ m ≤ 5) (hb : 1 ≤ b ∧ b ≤ 10) : reprOk (.int (countI w m b)) = true := by
  have h2 := List.all_eq_true.mp (List.all_eq_true.mp (List.all_eq_true.mp repr_all w (List.mem_range.mpr hw)) (m - 1) (List.mem_range.mpr (by omega))) (b - 1) (List.mem_range.mpr (by omega))
  rw [show m - 1 + 1 = m by omega, show b - 1 + 1 = b by omega] at h2
  exact h2
section
variable {n : Nat} {S : Store} {k : Int}
theorem ri_S1 {a1 a2 a3 a4 a5 : Option SV} (h : PS n S k) (hk : k < 1000000) : ∃ (w : Nat) (S' : Store), w < 3 ∧ m__law_right_S1 [some (.v (.ref n)), a1, a2, a3, a4, a5] S = .next [some (.v (.ref n)), some (.v (.str (wS w))), a2, a3, a4, a5] S' ∧ PS n S' (k + 1) ∧ S'.length = S.length := by
  obtain ⟨d, S', h1, h2, h3, h4⟩ := h.of (ds := [.str "any", .str "loose", .str "graph"]) hk (by decide) rfl
  have hL : mLst (mConsA (eC (.str "any")) (mConsA (eC (.str "loose")) (mConsA (eC (.str "graph")) mNilA))) [some (.v (.ref n)), a1, a2, a3, a4, a5] S = .ok (.fl [.str "any", .str "loose", .str "graph"]) S := by
    simp only [mSeq, mSet, Bool.and_true, Bool.true_and, Bool.and_false, Bool.false_and, Bool.or_true, Bool.true_or, Bool.or_false, Bool.false_or,  mRet, mRetN, mIf, mExpr, mNext, mBrk, mCont, eV, eC, eG, m2, gI, R.bind, svE, outE, mB, mCmp, mTV, mNot, mAnd, mOr, mIfE, mAndV, mOrV, mNotV, mNeg, mChain, mConsA, mNilA, mStarA, mTup, mLst, pub, pub_vals, List.append_nil, mCall, g1, g2, mFrz, frzE, mFrzS, flE, mStore, mPar, mUnp, svs, setMany, mAug, mMeth, isOb, obTy, setOb, plOf, plPut, mIsT, tyN, tyD, Ty.isa, fLen, fTup, fLst, fInt, fAbs, fII, fSum, fAll, fAny, asK, asSeq, asL, asT, asI, asM, asD, gEq_int, gEq_str, gOrd, ix_t, ix_c, ix_f, gAdd, fAdd, fSub, mFn, mRaise, fOne, kOne, tgN, tgT, tgCons, tgNil, mSrc, srcE, mEnum, kEnum, IT.enum, mZip, kZip, mLc, lcRun, lcOne, wipeE, mYes, fAppend, fExtend, D.isI, List.getElem?_cons_zero, List.getElem?_cons_succ, List.set_cons_zero, List.set_cons_succ, List.getElem?_nil, List.length_cons, List.length_nil, Option.some.injEq, Bool.false_eq_true, if_true, if_false, ite_true, ite_false, reduceIte, Bool.xor_false, Bool.xor_true, Bool.not_true, Bool.not_false, Bool.false_xor, Bool.true_xor, decide_true, decide_false, Nat.zero_add, reduceCtorEq, Nat.reduceAdd, Nat.reduceSub, Nat.reduceMul, Nat.reduceLT, Nat.reduceLeDiff, Nat.reduceEqDiff, Nat.reduceBEq, Int.reduceAdd, Int.reduceSub, Int.reduceMul, Int.reduceNeg, Int.reduceEq, Int.reduceNe, Int.reduceLT, Int.reduceLE, Int.reduceToNat, List.set_cons_zero, sizeL]
  have hw : ∃ w, w < 3 ∧ d = .str (wS w) := by
    simp only [List.mem_cons, List.not_mem_nil, or_false] at h4
    rcases h4 with rfl | rfl | rfl
    · exact ⟨0, by decide, rfl⟩
    · exact ⟨1, by decide, rfl⟩
    · exact ⟨2, by decide, rfl⟩
  obtain ⟨w, hw, rfl⟩ := hw
  exact ⟨w, S', hw, set_v (fn_ok (ds := [.ref n, .cl [.str "any", .str "loose", .str "graph"]]) (consA_ok rfl (one_ok (frz_fl hL))) rfl h1), h2, h3⟩
theorem ri_par {u v : Int} {a1 a2 a3 a4 a5 : Option SV} (h : PS n S k) (hk : k < 999999) (hu : 0 < u ∧ u ≤ 1000) (hv : 0 < v ∧ v ≤ 1000) : ∃ (m b : Nat) (S' : Store), (1 ≤ m ∧ (m : Int) ≤ u) ∧ (1 ≤ b ∧ (b : Int) ≤ v) ∧
    mPar [2, 3] (mConsA (mCall (g1 fInt) (mConsA (m2 (gAdd) (eC (.int 1)) (mFn 2 M__law_take (mConsA (eV 0) (mConsA (eC (.int u)) mNilA)))) mNilA)) (mConsA (mCall (g1 fInt) (mConsA (m2 (gAdd) (eC (.int 1)) (mFn 2 M__law_take (mConsA (eV 0) (mConsA (eC (.int v)) mNilA)))) mNilA)) mNilA)) [some (.v (.ref n)), a1, a2, a3, a4, a5] S =
      .next [some (.v (.ref n)), a1, some (.v (.int m)), some (.v (.int b)), a4, a5] S' ∧ PS n S' (k + 2) ∧ S'.length = S.length := by
  obtain ⟨r, S1, t1, t2, t3, t4⟩ := h.take (u := u) (by omega) (by omega)
  obtain ⟨q, S2, s1, s2, s3, s4⟩ := t2.take (u := v) (by omega) (by omega)
  have e : k + 1 + 1 = k + 2 := by omega
  rw [e] at s2
  refine ⟨r + 1, q + 1, S2, by omega, by omega, ?_, s2, by omega⟩
  have one : ∀ {S S1 : Store} {u : Int} {r : Nat}, M__law_take [.ref n, .int u] S = .ok (.v (.int r)) S1 → mCall (g1 fInt) (mConsA (m2 (gAdd) (eC (.int 1)) (mFn 2 M__law_take (mConsA (eV 0) (mConsA (eC (.int u)) mNilA)))) mNilA) [some (.v (.ref n)), a1, a2, a3, a4, a5] S = .ok (.v (.int ((r + 1 : Nat) : Int))) S1 := fun {S S1 u r} ht => by
    refine call_ok (one_ok (m2_ok (r := .ok (.v (.int ((r + 1 : Nat) : Int))) S1) rfl (fn_ok (ds := [.ref n, .int u]) rfl rfl ht) ?_)) rfl
    show R.ok (EV.v (D.int (1 + (r : Int)))) _ = _
    rw [show 1 + (r : Int) = ((r + 1 : Nat) : Int) by omega]
  exact par_ok (es := [.v (.int ((r + 1 : Nat) : Int)), .v (.int ((q + 1 : Nat) : Int))]) (consA_ok (one t1) (one_ok (one s1))) rfl rfl
theorem ri_S3 {w m b : Nat} {a4 a5 : Option SV} (hw : w < 3) (hm : 1 ≤ m ∧ m ≤ 3) (hb : 1 ≤ b ∧ b ≤ 2) (h : Shut S) : m__law_right_S3 [some (.v (.ref n)), some (.v (.str (wS w))), some (.v (.int m)), some (.v (.int b)), a4, a5] S = .next [some (.v (.ref n)), some (.v (.str (wS w))), some (.v (.int m)), some (.v (.int b)), a4, a5] S := by
  refine (frz_v rfl).trans (same_repr (d := .int (countI w m b)) (e := .int (byAllN w m b : Nat)) (one_ok (fn_ok (ds := [.int m, .int b, .str (wS w)]) rfl rfl (r_count hw (by omega) (by omega) h))) (one_ok (fn_ok (ds := [.int m, .int b, .str (wS w)]) rfl rfl (r_by_all hw hm hb.2 h))) ?_ (repr_count hw (by omega) (by omega)) fun _ => rfl)
  rw [all_eq hw hm hb]
theorem ri_S5 {w m b : Nat} {a4 a5 : Option SV} (hw : w < 3) (hm : 1 ≤ m ∧ m ≤ 5) (hb : 1 ≤ b ∧ b ≤ 10) (h : Shut S) : m__law_right_S5 [some (.v (.ref n)), some (.v (.str (wS w))), some (.v (.int m)), some (.v (.int b)), a4, a5] S = .next [some (.v (.ref n)), some (.v (.str (wS w))), some (.v (.int m)), some (.v (.int b)), a4, a5] S := by
  have hK : mFnK 3 [1, 0, 2] M_count_pictures (mConsA (eV 3) (mConsA (eV 2) (mConsA (eV 1) mNilA))) [some (.v (.ref n)), some (.v (.str (wS w))), some (.v (.int m)), some (.v (.int b)), a4, a5] S = .ok (.v (.int (countI w m b))) S := by
    have e := r_count (S := S) hw (show 1 ≤ m ∧ m ≤ 8 by omega) hb h
    simp only [mFnK, mSeq, mSet, Bool.and_true, Bool.true_and, Bool.and_false, Bool.false_and, Bool.or_true, Bool.true_or, Bool.or_false, Bool.false_or,  mRet, mRetN, mIf, mExpr, mNext, mBrk, mCont, eV, eC, eG, m2, gI, R.bind, svE, outE, mB, mCmp, mTV, mNot, mAnd, mOr, mIfE, mAndV, mOrV, mNotV, mNeg, mChain, mConsA, mNilA, mStarA, mTup, mLst, pub, pub_vals, List.append_nil, mCall, g1, g2, mFrz, frzE, mFrzS, flE, mStore, mPar, mUnp, svs, setMany, mAug, mMeth, isOb, obTy, setOb, plOf, plPut, mIsT, tyN, tyD, Ty.isa, fLen, fTup, fLst, fInt, fAbs, fII, fSum, fAll, fAny, asK, asSeq, asL, asT, asI, asM, asD, gEq_int, gEq_str, gOrd, ix_t, ix_c, ix_f, gAdd, fAdd, fSub, mFn, mRaise, fOne, kOne, tgN, tgT, tgCons, tgNil, mSrc, srcE, mEnum, kEnum, IT.enum, mZip, kZip, mLc, lcRun, lcOne, wipeE, mYes, fAppend, fExtend, D.isI, List.getElem?_cons_zero, List.getElem?_cons_succ, List.set_cons_zero, List.set_cons_succ, List.getElem?_nil, List.length_cons, List.length_nil, Option.some.injEq, Bool.false_eq_true, if_true, if_false, ite_true, ite_false, reduceIte, Bool.xor_false, Bool.xor_true, Bool.not_true, Bool.not_false, Bool.false_xor, Bool.true_xor, decide_true, decide_false, Nat.zero_add, reduceCtorEq, Nat.reduceAdd, Nat.reduceSub, Nat.reduceMul, Nat.reduceLT, Nat.reduceLeDiff, Nat.reduceEqDiff, Nat.reduceBEq, Int.reduceAdd, Int.reduceSub, Int.reduceMul, Int.reduceNeg, Int.reduceEq, Int.reduceNe, Int.reduceLT, Int.reduceLE, Int.reduceToNat, List.set_cons_zero]
    exact e
  refine (frz_v rfl).trans (same_repr (d := .int (countI w m b)) (e := .int (byRingsI w m b)) (one_ok hK) (one_ok (fn_ok (ds := [.int m, .int b, .str (wS w)]) rfl rfl (r_by_rings hw hm hb.2 h))) ?_ (repr_count hw hm hb) fun _ => rfl)
  rw [rings_eq hw hm hb]
end
end K94

set_option Elab.async false
set_option autoImplicit false
set_option linter.all false
set_option maxRecDepth 100000
set_option maxHeartbeats 4000000
namespace K94
open PySem PySem.Spec PyProof.Rows L2 DL
/-! ### what is refused -/
theorem count_no1 {d : D} {S : Store} (hS : Shut S) (h : M_is_int [d, .int 1, .int 8] S = .ok (.v (.bl false)) S) (hf : d.free = true) : M_count_pictures [d, .non, .non] S = .exc 1 d S := by
  have e1 := r_look_no (lo := 1) (hi := 8) hS h hf
  refine fc_x (ρ := [some (.v d), some (.v .non), some (.v .non), none, none, none, none, none, none, none]) hS hf ?_
  show m_count_pictures [some (.v d), some (.v .non), some (.v .non), none, none, none, none, none, none, none] S = _
  simp only [m_count_pictures, mSeq, mSet, Bool.and_true, Bool.true_and, Bool.and_false, Bool.false_and, Bool.or_true, Bool.true_or, Bool.or_false, Bool.false_or,  mRet, mRetN, mIf, mExpr, mNext, mBrk, mCont, eV, eC, eG, m2, gI, R.bind, svE, outE, mB, mCmp, mTV, mNot, mAnd, mOr, mIfE, mAndV, mOrV, mNotV, mNeg, mChain, mConsA, mNilA, mStarA, mTup, mLst, pub, pub_vals, List.append_nil, mCall, g1, g2, mFrz, frzE, mFrzS, flE, mStore, mPar, mUnp, svs, setMany, mAug, mMeth, isOb, obTy, setOb, plOf, plPut, mIsT, tyN, tyD, Ty.isa, fLen, fTup, fLst, fInt, fAbs, fII, fSum, fAll, fAny, asK, asSeq, asL, asT, asI, asM, asD, gEq_int, gEq_str, gOrd, ix_t, ix_c, ix_f, gAdd, fAdd, fSub, mFn, mRaise, fOne, kOne, tgN, tgT, tgCons, tgNil, mSrc, srcE, mEnum, kEnum, IT.enum, mZip, kZip, mLc, lcRun, lcOne, wipeE, mYes, fAppend, fExtend, D.isI, List.getElem?_cons_zero, List.getElem?_cons_succ, List.set_cons_zero, List.set_cons_succ, List.getElem?_nil, List.length_cons, List.length_nil, Option.some.injEq, Bool.false_eq_true, if_true, if_false, ite_true, ite_false, reduceIte, Bool.xor_false, Bool.xor_true, Bool.not_true, Bool.not_false, Bool.false_xor, Bool.true_xor, decide_true, decide_false, Nat.zero_add, reduceCtorEq, Nat.reduceAdd, Nat.reduceSub, Nat.reduceMul, Nat.reduceLT, Nat.reduceLeDiff, Nat.reduceEqDiff, Nat.reduceBEq, Int.reduceAdd, Int.reduceSub, Int.reduceMul, Int.reduceNeg, Int.reduceEq, Int.reduceNe, Int.reduceLT, Int.reduceLE, Int.reduceToNat, List.set_cons_zero, e1]
theorem count_no2 {d : D} {S : Store} (hS : Shut S) (h : M_is_int [d, .int 1, .int 10] S = .ok (.v (.bl false)) S) (hf : d.free = true) : M_count_pictures [.int 3, d, .non] S = .exc 1 d S := by
  have e1 := r_look (S := S) (i := 3) (lo := 1) (hi := 8) hS (by omega)
  have e2 := r_look_no (lo := 1) (hi := 10) hS h hf
  refine fc_x (ρ := [some (.v (.int 3)), some (.v d), some (.v .non), none, none, none, none, none, none, none]) hS hf ?_
  show m_count_pictures [some (.v (.int 3)), some (.v d), some (.v .non), none, none, none, none, none, none, none] S = _
  simp only [m_count_pictures, mSeq, mSet, Bool.and_true, Bool.true_and, Bool.and_false, Bool.false_and, Bool.or_true, Bool.true_or, Bool.or_false, Bool.false_or,  mRet, mRetN, mIf, mExpr, mNext, mBrk, mCont, eV, eC, eG, m2, gI, R.bind, svE, outE, mB, mCmp, mTV, mNot, mAnd, mOr, mIfE, mAndV, mOrV, mNotV, mNeg, mChain, mConsA, mNilA, mStarA, mTup, mLst, pub, pub_vals, List.append_nil, mCall, g1, g2, mFrz, frzE, mFrzS, flE, mStore, mPar, mUnp, svs, setMany, mAug, mMeth, isOb, obTy, setOb, plOf, plPut, mIsT, tyN, tyD, Ty.isa, fLen, fTup, fLst, fInt, fAbs, fII, fSum, fAll, fAny, asK, asSeq, asL, asT, asI, asM, asD, gEq_int, gEq_str, gOrd, ix_t, ix_c, ix_f, gAdd, fAdd, fSub, mFn, mRaise, fOne, kOne, tgN, tgT, tgCons, tgNil, mSrc, srcE, mEnum, kEnum, IT.enum, mZip, kZip, mLc, lcRun, lcOne, wipeE, mYes, fAppend, fExtend, D.isI, List.getElem?_cons_zero, List.getElem?_cons_succ, List.set_cons_zero, List.set_cons_succ, List.getElem?_nil, List.length_cons, List.length_nil, Option.some.injEq, Bool.false_eq_true, if_true, if_false, ite_true, ite_false, reduceIte, Bool.xor_false, Bool.xor_true, Bool.not_true, Bool.not_false, Bool.false_xor, Bool.true_xor, decide_true, decide_false, Nat.zero_add, reduceCtorEq, Nat.reduceAdd, Nat.reduceSub, Nat.reduceMul, Nat.reduceLT, Nat.reduceLeDiff, Nat.reduceEqDiff, Nat.reduceBEq, Int.reduceAdd, Int.reduceSub, Int.reduceMul, Int.reduceNeg, Int.reduceEq, Int.reduceNe, Int.reduceLT, Int.reduceLE, Int.reduceToNat, List.set_cons_zero, e1, e2]
theorem no_int {i lo hi : Int} {S : Store} (hS : Shut S) (h : isI i lo hi = false) : M_is_int [.int i, .int lo, .int hi] S = .ok (.v (.bl false)) S := by rw [r_is_int hS, h]
theorem count_no3 {d : D} {S : Store} (hS : Shut S) (hd : d ∈ [D.non, .str "", .str "all", .int 0, .tup [.str "any"], .str "Graph"]) : M_count_pictures [.int 3, .int 2, d] S = .exc 2 d S := by
  have e1 := r_look (S := S) (i := 3) (lo := 1) (hi := 8) hS (by omega)
  have e2 := r_look (S := S) (i := 2) (lo := 1) (hi := 10) hS (by omega)
  have hf : d.free = true := by
    simp only [List.mem_cons, List.not_mem_nil, or_false] at hd
    rcases hd with rfl | rfl | rfl | rfl | rfl | rfl <;> rfl
  refine fc_x (ρ := [some (.v (.int 3)), some (.v (.int 2)), some (.v d), none, none, none, none, none, none, none]) hS hf ?_
  show m_count_pictures [some (.v (.int 3)), some (.v (.int 2)), some (.v d), none, none, none, none, none, none, none] S = _
  have e3 : mIf (mOr (mNot (mB (mIsT .str (eV 2)))) (mCmp (gIn true) (eV 2) (mTup (mConsA (eG (.str "any")) (mConsA (eG (.str "loose")) (mConsA (eG (.str "graph")) mNilA)))))) (mRaise 2 (mConsA (eV 2) mNilA)) mNext [some (.v (.int 3)), some (.v (.int 2)), some (.v d), none, none, none, none, none, none, none] S =
      .exc 2 d [some (.v (.int 3)), some (.v (.int 2)), some (.v d), none, none, none, none, none, none, none] S := by
    simp only [List.mem_cons, List.not_mem_nil, or_false] at hd
    rcases hd with rfl | rfl | rfl | rfl | rfl | rfl <;> kernel_rfl
  refine (seq_n (ρ1 := [some (.v (.int 3)), some (.v (.int 2)), some (.v d), none, none, none, none, none, none, none]) (S1 := S) ?_).trans ((seq_n (ρ1 := [some (.v (.int 3)), some (.v (.int 2)), some (.v d), none, none, none, none, none, none, none]) (S1 := S) ?_).trans (seq_x e3))
  · simp only [mSeq, mSet, Bool.and_true, Bool.true_and, Bool.and_false, Bool.false_and, Bool.or_true, Bool.true_or, Bool.or_false, Bool.false_or,  mRet, mRetN, mIf, mExpr, mNext, mBrk, mCont, eV, eC, eG, m2, gI, R.bind, svE, outE, mB, mCmp, mTV, mNot, mAnd, mOr, mIfE, mAndV, mOrV, mNotV, mNeg, mChain, mConsA, mNilA, mStarA, mTup, mLst, pub, pub_vals, List.append_nil, mCall, g1, g2, mFrz, frzE, mFrzS, flE, mStore, mPar, mUnp, svs, setMany, mAug, mMeth, isOb, obTy, setOb, plOf, plPut, mIsT, tyN, tyD, Ty.isa, fLen, fTup, fLst, fInt, fAbs, fII, fSum, fAll, fAny, asK, asSeq, asL, asT, asI, asM, asD, gEq_int, gEq_str, gOrd, ix_t, ix_c, ix_f, gAdd, fAdd, fSub, mFn, mRaise, fOne, kOne, tgN, tgT, tgCons, tgNil, mSrc, srcE, mEnum, kEnum, IT.enum, mZip, kZip, mLc, lcRun, lcOne, wipeE, mYes, fAppend, fExtend, D.isI, List.getElem?_cons_zero, List.getElem?_cons_succ, List.set_cons_zero, List.set_cons_succ, List.getElem?_nil, List.length_cons, List.length_nil, Option.some.injEq, Bool.false_eq_true, if_true, if_false, ite_true, ite_false, reduceIte, Bool.xor_false, Bool.xor_true, Bool.not_true, Bool.not_false, Bool.false_xor, Bool.true_xor, decide_true, decide_false, Nat.zero_add, reduceCtorEq, Nat.reduceAdd, Nat.reduceSub, Nat.reduceMul, Nat.reduceLT, Nat.reduceLeDiff, Nat.reduceEqDiff, Nat.reduceBEq, Int.reduceAdd, Int.reduceSub, Int.reduceMul, Int.reduceNeg, Int.reduceEq, Int.reduceNe, Int.reduceLT, Int.reduceLE, Int.reduceToNat, List.set_cons_zero, e1]
  · simp only [mSeq, mSet, Bool.and_true, Bool.true_and, Bool.and_false, Bool.false_and, Bool.or_true, Bool.true_or, Bool.or_false, Bool.false_or,  mRet, mRetN, mIf, mExpr, mNext, mBrk, mCont, eV, eC, eG, m2, gI, R.bind, svE, outE, mB, mCmp, mTV, mNot, mAnd, mOr, mIfE, mAndV, mOrV, mNotV, mNeg, mChain, mConsA, mNilA, mStarA, mTup, mLst, pub, pub_vals, List.append_nil, mCall, g1, g2, mFrz, frzE, mFrzS, flE, mStore, mPar, mUnp, svs, setMany, mAug, mMeth, isOb, obTy, setOb, plOf, plPut, mIsT, tyN, tyD, Ty.isa, fLen, fTup, fLst, fInt, fAbs, fII, fSum, fAll, fAny, asK, asSeq, asL, asT, asI, asM, asD, gEq_int, gEq_str, gOrd, ix_t, ix_c, ix_f, gAdd, fAdd, fSub, mFn, mRaise, fOne, kOne, tgN, tgT, tgCons, tgNil, mSrc, srcE, mEnum, kEnum, IT.enum, mZip, kZip, mLc, lcRun, lcOne, wipeE, mYes, fAppend, fExtend, D.isI, List.getElem?_cons_zero, List.getElem?_cons_succ, List.set_cons_zero, List.set_cons_succ, List.getElem?_nil, List.length_cons, List.length_nil, Option.some.injEq, Bool.false_eq_true, if_true, if_false, ite_true, ite_false, reduceIte, Bool.xor_false, Bool.xor_true, Bool.not_true, Bool.not_false, Bool.false_xor, Bool.true_xor, decide_true, decide_false, Nat.zero_add, reduceCtorEq, Nat.reduceAdd, Nat.reduceSub, Nat.reduceMul, Nat.reduceLT, Nat.reduceLeDiff, Nat.reduceEqDiff, Nat.reduceBEq, Int.reduceAdd, Int.reduceSub, Int.reduceMul, Int.reduceNeg, Int.reduceEq, Int.reduceNe, Int.reduceLT, Int.reduceLE, Int.reduceToNat, List.set_cons_zero, e2]
theorem frz_x {m : ME} {ρ : DL.Env} {S S1 : Store} {c : Nat} {d : D} (h : m ρ S = .exc c d S1) : mFrz m ρ S = .exc c d S1 := by unfold mFrz; rw [h]; rfl
theorem hear_exc {cs : List Nat} {mb : ME} {ρ : DL.Env} {S S1 : Store} {c : Nat} {d : D} (h : mb ρ S = .exc c d S1) (hc : c ∈ cs) : m2 gIx (mHear cs mb) (eC (.int 0)) ρ S = .ok (.v (.exc c d)) S1 := by
  refine m2_ok (S1 := S1) (a := .v (.tup [.exc c d, .non])) ?_ rfl rfl
  simp only [mHear, h, if_pos hc]
section
variable {n : Nat} {S : Store} {k : Int}
theorem ri_odd {is : MA} {a1 a2 a3 a4 a5 : Option SV} {ds : List D} (h : PS n S k) (hk : k < 1000000) (hl : 0 < ds.length ∧ ds.length ≤ 1000000) (hf : D.frees ds = true) (hL : ∀ {ρ : DL.Env} {S : Store}, mLst is ρ S = .ok (.fl ds) S) : ∃ (d : D) (S' : Store), mSet 4 (mFn 2 M__law_of (mConsA (eV 0) (mConsA (mFrz (mLst is)) mNilA))) [some (.v (.ref n)), a1, a2, a3, a4, a5] S =
    .next [some (.v (.ref n)), a1, a2, a3, some (.v d), a5] S' ∧ PS n S' (k + 1) ∧ S'.length = S.length ∧ d ∈ ds := by
  obtain ⟨d, S', h1, h2, h3, h4⟩ := h.of hk hl hf
  exact ⟨d, S', set_v (fn_ok (ds := [.ref n, .cl ds]) (consA_ok rfl (one_ok (frz_fl hL))) rfl h1), h2, h3, h4⟩
theorem ri_S78 {a1 a2 a3 a5 : Option SV} {d : D} (hd : d ∈ [D.int 0, .int 9, .non, .bl true, .str "3"]) (hS : Shut S) : mSeq m__law_right_S7 (mSeq m__law_right_S8 mNext) [some (.v (.ref n)), a1, a2, a3, some (.v d), a5] S = .next [some (.v (.ref n)), a1, a2, a3, some (.v d), some (.v (.exc 1 d))] S := by
  have hc : M_count_pictures [d, .non, .non] S = .exc 1 d S := by
    simp only [List.mem_cons, List.not_mem_nil, or_false] at hd
    rcases hd with rfl | rfl | rfl | rfl | rfl
    · exact count_no1 hS (no_int hS rfl) rfl
    · exact count_no1 hS (no_int hS rfl) rfl
    · exact count_no1 hS (r_is_int_no hS (.inl rfl)) rfl
    · exact count_no1 hS (r_is_int_no hS (.inr (.inl ⟨_, rfl⟩))) rfl
    · exact count_no1 hS (r_is_int_no hS (.inr (.inr ⟨_, rfl⟩))) rfl
  have h7 : m__law_right_S7 [some (.v (.ref n)), a1, a2, a3, some (.v d), a5] S = .next [some (.v (.ref n)), a1, a2, a3, some (.v d), some (.v (.exc 1 d))] S := by
    exact (frz_v rfl).trans (set_v (hear_exc (frz_x (fn_ok (ds := [d, .non, .non]) (o := .exc 1 d S) (consA_ok rfl (consA_ok rfl (one_ok rfl))) rfl hc)) (by decide)))
  refine (seq_n h7).trans ((seq_n (ρ1 := [some (.v (.ref n)), a1, a2, a3, some (.v d), some (.v (.exc 1 d))]) (S1 := S) ?_).trans rfl)
  simp only [List.mem_cons, List.not_mem_nil, or_false] at hd
  rcases hd with rfl | rfl | rfl | rfl | rfl <;> kernel_rfl
theorem ri_S1011 {a1 a2 a3 a5 : Option SV} {d : D} (hd : d ∈ [D.int 0, .int 11, .non, .bl true, .str "3"]) (hS : Shut S) : mSeq m__law_right_S10 (mSeq m__law_right_S11 mNext) [some (.v (.ref n)), a1, a2, a3, some (.v d), a5] S = .next [some (.v (.ref n)), a1, a2, a3, some (.v d), some (.v (.exc 1 d))] S := by
  have hc : M_count_pictures [.int 3, d, .non] S = .exc 1 d S := by
    simp only [List.mem_cons, List.not_mem_nil, or_false] at hd
    rcases hd with rfl | rfl | rfl | rfl | rfl
    · exact count_no2 hS (no_int hS rfl) rfl
    · exact count_no2 hS (no_int hS rfl) rfl
    · exact count_no2 hS (r_is_int_no hS (.inl rfl)) rfl
    · exact count_no2 hS (r_is_int_no hS (.inr (.inl ⟨_, rfl⟩))) rfl
    · exact count_no2 hS (r_is_int_no hS (.inr (.inr ⟨_, rfl⟩))) rfl
  have h7 : m__law_right_S10 [some (.v (.ref n)), a1, a2, a3, some (.v d), a5] S = .next [some (.v (.ref n)), a1, a2, a3, some (.v d), some (.v (.exc 1 d))] S := by
    exact (frz_v rfl).trans (set_v (hear_exc (frz_x (fn_ok (ds := [.int 3, d, .non]) (o := .exc 1 d S) (consA_ok rfl (consA_ok rfl (one_ok rfl))) rfl hc)) (by decide)))
  refine (seq_n h7).trans ((seq_n (ρ1 := [some (.v (.ref n)), a1, a2, a3, some (.v d), some (.v (.exc 1 d))]) (S1 := S) ?_).trans rfl)
  simp only [List.mem_cons, List.not_mem_nil, or_false] at hd
  rcases hd with rfl | rfl | rfl | rfl | rfl <;> kernel_rfl
theorem ri_S1314 {a1 a2 a3 a5 : Option SV} {d : D} (hd : d ∈ [D.non, .str "", .str "all", .int 0, .tup [.str "any"], .str "Graph"]) (hS : Shut S) : mSeq m__law_right_S13 m__law_right_S14 [some (.v (.ref n)), a1, a2, a3, some (.v d), a5] S = .ret (.v (.bl true)) S := by
  have hc := count_no3 hS hd
  have h7 : m__law_right_S13 [some (.v (.ref n)), a1, a2, a3, some (.v d), a5] S = .next [some (.v (.ref n)), a1, a2, a3, some (.v d), some (.v (.exc 2 d))] S := by
    exact (frz_v rfl).trans (set_v (hear_exc (frz_x (fn_ok (ds := [.int 3, .int 2, d]) (o := .exc 2 d S) (consA_ok rfl (consA_ok rfl (one_ok rfl))) rfl hc)) (by decide)))
  refine (seq_n h7).trans ?_
  simp only [List.mem_cons, List.not_mem_nil, or_false] at hd
  rcases hd with rfl | rfl | rfl | rfl | rfl | rfl <;> kernel_rfl
theorem r_right (h : PS n S 0) : ∃ S', M__law_right [.ref n] S = .ok (.v (.bl true)) S' ∧ Shut S' ∧ S'.length = S.length := by
  obtain ⟨w, S1, hw, e1, p1, l1⟩ := ri_S1 (a1 := none) (a2 := none) (a3 := none) (a4 := none) (a5 := none) h (by omega)
  obtain ⟨m, b, S2, m2', b2, e2, p2, l2⟩ := ri_par (u := 3) (v := 2) (a1 := some (.v (.str (wS w)))) (a2 := none) (a3 := none) (a4 := none) (a5 := none) p1 (by omega) (by omega) (by omega)
  have e3 := ri_S3 (n := n) (S := S2) (w := w) (m := m) (b := b) (a4 := none) (a5 := none) hw (by omega) (by omega) p2.shut
  obtain ⟨m', b', S4, m4, b4, e4, p4, l4⟩ := ri_par (u := 5) (v := 10) (a1 := some (.v (.str (wS w)))) (a2 := some (.v (.int m))) (a3 := some (.v (.int b))) (a4 := none) (a5 := none) p2 (by omega) (by omega) (by omega)
  have e5 := ri_S5 (n := n) (S := S4) (w := w) (m := m') (b := b') (a4 := none) (a5 := none) hw (by omega) (by omega) p4.shut
  obtain ⟨d6, S6, e6, p6, l6, d6m⟩ := ri_odd (is := mConsA (eC (.int 0)) (mConsA (eC (.int 9)) (mConsA (eC .non) (mConsA (eC (.bl true)) (mConsA (eC (.str "3")) mNilA))))) (a1 := some (.v (.str (wS w)))) (a2 := some (.v (.int m'))) (a3 := some (.v (.int b'))) (a4 := none) (a5 := none) (ds := [D.int 0, .int 9, .non, .bl true, .str "3"]) p4 (by omega) (by decide) rfl (fun {_ _} => by simp only [mSeq, mSet, Bool.and_true, Bool.true_and, Bool.and_false, Bool.false_and, Bool.or_true, Bool.true_or, Bool.or_false, Bool.false_or,  mRet, mRetN, mIf, mExpr, mNext, mBrk, mCont, eV, eC, eG, m2, gI, R.bind, svE, outE, mB, mCmp, mTV, mNot, mAnd, mOr, mIfE, mAndV, mOrV, mNotV, mNeg, mChain, mConsA, mNilA, mStarA, mTup, mLst, pub, pub_vals, List.append_nil, mCall, g1, g2, mFrz, frzE, mFrzS, flE, mStore, mPar, mUnp, svs, setMany, mAug, mMeth, isOb, obTy, setOb, plOf, plPut, mIsT, tyN, tyD, Ty.isa, fLen, fTup, fLst, fInt, fAbs, fII, fSum, fAll, fAny, asK, asSeq, asL, asT, asI, asM, asD, gEq_int, gEq_str, gOrd, ix_t, ix_c, ix_f, gAdd, fAdd, fSub, mFn, mRaise, fOne, kOne, tgN, tgT, tgCons, tgNil, mSrc, srcE, mEnum, kEnum, IT.enum, mZip, kZip, mLc, lcRun, lcOne, wipeE, mYes, fAppend, fExtend, D.isI, List.getElem?_cons_zero, List.getElem?_cons_succ, List.set_cons_zero, List.set_cons_succ, List.getElem?_nil, List.length_cons, List.length_nil, Option.some.injEq, Bool.false_eq_true, if_true, if_false, ite_true, ite_false, reduceIte, Bool.xor_false, Bool.xor_true, Bool.not_true, Bool.not_false, Bool.false_xor, Bool.true_xor, decide_true, decide_false, Nat.zero_add, reduceCtorEq, Nat.reduceAdd, Nat.reduceSub, Nat.reduceMul, Nat.reduceLT, Nat.reduceLeDiff, Nat.reduceEqDiff, Nat.reduceBEq, Int.reduceAdd, Int.reduceSub, Int.reduceMul, Int.reduceNeg, Int.reduceEq, Int.reduceNe, Int.reduceLT, Int.reduceLE, Int.reduceToNat, List.set_cons_zero, sizeL])
  have e78 := ri_S78 (n := n) (S := S6) (a1 := some (.v (.str (wS w)))) (a2 := some (.v (.int m'))) (a3 := some (.v (.int b'))) (a5 := none) d6m p6.shut
  obtain ⟨d9, S9, e9, p9, l9, d9m⟩ := ri_odd (is := mConsA (eC (.int 0)) (mConsA (eC (.int 11)) (mConsA (eC .non) (mConsA (eC (.bl true)) (mConsA (eC (.str "3")) mNilA))))) (a1 := some (.v (.str (wS w)))) (a2 := some (.v (.int m'))) (a3 := some (.v (.int b'))) (a4 := some (.v d6)) (a5 := some (.v (.exc 1 d6))) (ds := [D.int 0, .int 11, .non, .bl true, .str "3"]) p6 (by omega) (by decide) rfl (fun {_ _} => by simp only [mSeq, mSet, Bool.and_true, Bool.true_and, Bool.and_false, Bool.false_and, Bool.or_true, Bool.true_or, Bool.or_false, Bool.false_or,  mRet, mRetN, mIf, mExpr, mNext, mBrk, mCont, eV, eC, eG, m2, gI, R.bind, svE, outE, mB, mCmp, mTV, mNot, mAnd, mOr, mIfE, mAndV, mOrV, mNotV, mNeg, mChain, mConsA, mNilA, mStarA, mTup, mLst, pub, pub_vals, List.append_nil, mCall, g1, g2, mFrz, frzE, mFrzS, flE, mStore, mPar, mUnp, svs, setMany, mAug, mMeth, isOb, obTy, setOb, plOf, plPut, mIsT, tyN, tyD, Ty.isa, fLen, fTup, fLst, fInt, fAbs, fII, fSum, fAll, fAny, asK, asSeq, asL, asT, asI, asM, asD, gEq_int, gEq_str, gOrd, ix_t, ix_c, ix_f, gAdd, fAdd, fSub, mFn, mRaise, fOne, kOne, tgN, tgT, tgCons, tgNil, mSrc, srcE, mEnum, kEnum, IT.enum, mZip, kZip, mLc, lcRun, lcOne, wipeE, mYes, fAppend, fExtend, D.isI, List.getElem?_cons_zero, List.getElem?_cons_succ, List.set_cons_zero, List.set_cons_succ, List.getElem?_nil, List.length_cons, List.length_nil, Option.some.injEq, Bool.false_eq_true, if_true, if_false, ite_true, ite_false, reduceIte, Bool.xor_false, Bool.xor_true, Bool.not_true, Bool.not_false, Bool.false_xor, Bool.true_xor, decide_true, decide_false, Nat.zero_add, reduceCtorEq, Nat.reduceAdd, Nat.reduceSub, Nat.reduceMul, Nat.reduceLT, Nat.reduceLeDiff, Nat.reduceEqDiff, Nat.reduceBEq, Int.reduceAdd, Int.reduceSub, Int.reduceMul, Int.reduceNeg, Int.reduceEq, Int.reduceNe, Int.reduceLT, Int.reduceLE, Int.reduceToNat, List.set_cons_zero, sizeL])
  have e10 := ri_S1011 (n := n) (S := S9) (a1 := some (.v (.str (wS w)))) (a2 := some (.v (.int m'))) (a3 := some (.v (.int b'))) (a5 := some (.v (.exc 1 d6))) d9m p9.shut
  obtain ⟨d12, S12, e12, p12, l12, d12m⟩ := ri_odd (is := mConsA (eC .non) (mConsA (eC (.str "")) (mConsA (eC (.str "all")) (mConsA (eC (.int 0)) (mConsA (mTup (mConsA (eC (.str "any")) mNilA)) (mConsA (eC (.str "Graph")) mNilA)))))) (a1 := some (.v (.str (wS w)))) (a2 := some (.v (.int m'))) (a3 := some (.v (.int b'))) (a4 := some (.v d9)) (a5 := some (.v (.exc 1 d9))) (ds := [D.non, .str "", .str "all", .int 0, .tup [.str "any"], .str "Graph"]) p9 (by omega) (by decide) rfl (fun {_ _} => by simp only [mSeq, mSet, Bool.and_true, Bool.true_and, Bool.and_false, Bool.false_and, Bool.or_true, Bool.true_or, Bool.or_false, Bool.false_or,  mRet, mRetN, mIf, mExpr, mNext, mBrk, mCont, eV, eC, eG, m2, gI, R.bind, svE, outE, mB, mCmp, mTV, mNot, mAnd, mOr, mIfE, mAndV, mOrV, mNotV, mNeg, mChain, mConsA, mNilA, mStarA, mTup, mLst, pub, pub_vals, List.append_nil, mCall, g1, g2, mFrz, frzE, mFrzS, flE, mStore, mPar, mUnp, svs, setMany, mAug, mMeth, isOb, obTy, setOb, plOf, plPut, mIsT, tyN, tyD, Ty.isa, fLen, fTup, fLst, fInt, fAbs, fII, fSum, fAll, fAny, asK, asSeq, asL, asT, asI, asM, asD, gEq_int, gEq_str, gOrd, ix_t, ix_c, ix_f, gAdd, fAdd, fSub, mFn, mRaise, fOne, kOne, tgN, tgT, tgCons, tgNil, mSrc, srcE, mEnum, kEnum, IT.enum, mZip, kZip, mLc, lcRun, lcOne, wipeE, mYes, fAppend, fExtend, D.isI, List.getElem?_cons_zero, List.getElem?_cons_succ, List.set_cons_zero, List.set_cons_succ, List.getElem?_nil, List.length_cons, List.length_nil, Option.some.injEq, Bool.false_eq_true, if_true, if_false, ite_true, ite_false, reduceIte, Bool.xor_false, Bool.xor_true, Bool.not_true, Bool.not_false, Bool.false_xor, Bool.true_xor, decide_true, decide_false, Nat.zero_add, reduceCtorEq, Nat.reduceAdd, Nat.reduceSub, Nat.reduceMul, Nat.reduceLT, Nat.reduceLeDiff, Nat.reduceEqDiff, Nat.reduceBEq, Int.reduceAdd, Int.reduceSub, Int.reduceMul, Int.reduceNeg, Int.reduceEq, Int.reduceNe, Int.reduceLT, Int.reduceLE, Int.reduceToNat, List.set_cons_zero, sizeL])
  have e13 := ri_S1314 (n := n) (S := S12) (a1 := some (.v (.str (wS w)))) (a2 := some (.v (.int m'))) (a3 := some (.v (.int b'))) (a5 := some (.v (.exc 1 d9))) d12m p12.shut
  have seq3 : ∀ {a b c : MS} {ρ ρ1 : DL.Env} {S S1 : Store}, mSeq a (mSeq b mNext) ρ S = .next ρ1 S1 → mSeq a (mSeq b c) ρ S = c ρ1 S1 := fun {a b c ρ ρ1 S S1} h => by
    unfold mSeq at h ⊢
    cases ha : a ρ S with
    | next ρ2 S2 =>
      rw [ha] at h
      simp only [mNext] at h ⊢
      cases hb : b ρ2 S2 with
      | next ρ3 S3 => rw [hb] at h; simp only [Fl.next.injEq] at h; rw [h.1, h.2]
      | _ => rw [hb] at h; cases h
    | _ => rw [ha] at h; cases h
  refine ⟨S12, ?_, p12.shut, by omega⟩
  have body : m__law_right [some (.v (.ref n)), none, none, none, none, none] S = .ret (.v (.bl true)) S12 :=
    (seq_n e1).trans ((seq_n e2).trans ((seq_n e3).trans ((seq_n e4).trans ((seq_n e5).trans ((seq_n e6).trans ((seq3 e78).trans ((seq_n e9).trans ((seq3 e10).trans ((seq_n e12).trans e13)))))))))
  show gcR S.length (mBody m__law_right [some (.v (.ref n)), none, none, none, none, none] S) = _
  unfold mBody
  rw [body]
  have q := gc_v (d := .bl true) (T := []) p12.shut rfl
  rw [List.append_nil, show S12.length = S.length by omega] at q
  exact q
end
/-! ## the law -/
theorem known_ints : ((List.range 8).map fun i => D.int (countI 2 (1 + i) 2)) = [.int 1, .int 2, .int 4, .int 11, .int 34, .int 156, .int 1044, .int 12346] ∧ ((List.range 6).map fun i => D.int (countI 1 (1 + i) 2)) = [.int 1, .int 3, .int 16, .int 218, .int 9608, .int 1540944] := by
  constructor <;> kernel_rfl
theorem r_known : M__law_are_known [] [] = .ok (.v (.bl true)) [] := by
  refine fc_v Shut.nil rfl ?_
  show m__law_are_known [none, none, none] [] = _
  have hC : ∀ (w : Nat) (hw : w < 3) (a0 a1 a2 : Option SV) (k : Nat), k ≤ 8 → mLcF (lcOne [2] (tgN 2) mYes (mFrz (mFn 3 M_count_pictures (mConsA (eV 2) (mConsA (eC (.int 2)) (mConsA (eC (.str (wS w))) mNilA)))))) ((List.range k).map fun i => D.int ((1 + i : Nat) : Int)) [a0, a1, a2] [] = .ok ((List.range k).map fun i => D.int (countI w (1 + i) 2)) [] := fun w hw a0 a1 a2 k hk => by
    refine mLcF_map (fun i => D.int ((1 + i : Nat) : Int)) (fun i => D.int (countI w (1 + i) 2)) (List.range k) fun i hi => ?_
    have := List.mem_range.mp hi
    exact lc1_ok rfl rfl (frz_d (fn_ok (ds := [.int ((1 + i : Nat) : Int), .int 2, .str (wS w)]) (consA_ok rfl (consA_ok rfl (one_ok rfl))) rfl (r_count (m := 1 + i) (b := 2) hw (by omega) (by omega) Shut.nil))) rfl
  have h1 : mSet 0 (mLc (mRg2 (mConsA (eC (.int 1)) (mConsA (eC (.int 9)) mNilA))) m__law_are_known_C1 100000) [none, none, none] [] = .next [some (.ol [.int 1, .int 2, .int 4, .int 11, .int 34, .int 156, .int 1044, .int 12346]), none, none] [] := by
    have h := hC 2 (by decide) none none none 8 (by decide)
    rw [known_ints.1] at h
    exact set_l (lc_ok (rg2_nat (a := 1) (n := 8) (by decide) rfl (consA_ok rfl (one_ok rfl))) (by decide) h)
  have h2 : mSet 1 (mLc (mRg2 (mConsA (eC (.int 1)) (mConsA (eC (.int 7)) mNilA))) m__law_are_known_C2 100000) [some (.ol [.int 1, .int 2, .int 4, .int 11, .int 34, .int 156, .int 1044, .int 12346]), none, none] [] =
      .next [some (.ol [.int 1, .int 2, .int 4, .int 11, .int 34, .int 156, .int 1044, .int 12346]), some (.ol [.int 1, .int 3, .int 16, .int 218, .int 9608, .int 1540944]), none] [] := by
    have h := hC 1 (by decide) (some (.ol [.int 1, .int 2, .int 4, .int 11, .int 34, .int 156, .int 1044, .int 12346])) none none 6 (by decide)
    rw [known_ints.2] at h
    exact set_l (lc_ok (rg2_nat (a := 1) (n := 6) (by decide) rfl (consA_ok rfl (one_ok rfl))) (by decide) h)
  refine (seq_n h1).trans ((seq_n h2).trans ?_)
  kernel_rfl
theorem fn_fl {f : MF} {ma : MA} {ρ : DL.Env} {S S1 : Store} {xs : List D} {o : R EV} (h1 : ma ρ S = .ok [.fl xs] S1) (h2 : f [.ref S1.length] (S1 ++ [.lst xs]) = o) : mFn 1 f ma ρ S = o := by
  simp only [mFn, h1, R.bind, pub]
  exact (if_pos rfl).trans h2
theorem mLcF_inv {γ : Type} {one : MO1} (enc : γ → D) (f : γ → D) (I : Store → Prop) {ρ : DL.Env} : ∀ (l : List γ) (S : Store), I S → (∀ a ∈ l, ∀ S, I S → ∃ S', one (enc a) ρ S = .ok (some (f a)) S' ∧ I S') → ∃ S', mLcF one (l.map enc) ρ S = .ok (l.map f) S' ∧ I S'
  | [], S, h, _ => ⟨S, rfl, h⟩
  | a :: l, S, h, k => by
    obtain ⟨S1, h1, i1⟩ := k a (by simp) S h
    obtain ⟨S2, h2, i2⟩ := mLcF_inv enc f I l S1 i1 fun b hb => k b (by simp [hb])
    refine ⟨S2, ?_, i2⟩
    rw [List.map_cons, mLcF, h1]
    simp only [h2, R.bind, List.map_cons]
theorem pure_law (ns : List Int) (hn : ns.length ≤ 63) (_ : ∀ z ∈ ns, Builtin.Int.intBits z ≤ 1048576) : ∃ S, M_law [.cl (ns.map D.int)] [] = .ok (.v (.bl true)) S := by
  have hcells := r_cells (S := []) (most := 3) Shut.nil hn (by decide)
  obtain ⟨c, hc⟩ : ∃ c : Nat, iMax 1 (iMin 3 ns.length) = (c : Int) ∧ c ≤ 3 := by
    refine ⟨(iMax 1 (iMin 3 ns.length)).toNat, ?_, ?_⟩ <;> unfold iMax iMin <;> split <;> split <;> omega
  rw [hc.1, rgD_eq0] at hcells
  obtain ⟨S', hL, hS'⟩ := mLcF_inv (one := m_law_C1) (ρ := [some (.v (.cl (ns.map D.int))), none]) (fun (i : Nat) => D.int (i : Int)) (fun _ => D.bl true) Shut (List.range c) [] Shut.nil fun i hi S hS => by
    have hi := List.mem_range.mp hi
    obtain ⟨a, b, h1, h2⟩ := r_pot (S := S) (i := i) (ns := ns) hS hn (by omega)
    have ps : PS S.length (S ++ [.lst [.int a, .int b, .int 0]]) 0 := ⟨hS.snoc rfl, a, b, 0, by rw [List.getElem?_append_right (Nat.le_refl _), Nat.sub_self]; rfl, h2⟩
    obtain ⟨S2, r1, r2, r3⟩ := r_right ps
    refine ⟨S2, lc1_ok rfl rfl (frz_d (fn_fl (one_ok (fn_ok (ds := [.cl (ns.map D.int), .int i]) (consA_ok rfl (one_ok rfl)) rfl h1)) r1)) rfl, r2⟩
  refine ⟨[], fc_vT (T := S') Shut.nil rfl ?_⟩
  show m_law [some (.v (.cl (ns.map D.int))), none] [] = .ret (.v (.bl true)) ([] ++ S')
  have hk : mIf (mNot (mB (mFn 0 M__law_are_known mNilA))) (mRet (eC (.bl false))) mNext [some (.v (.cl (ns.map D.int))), none] [] = .next [some (.v (.cl (ns.map D.int))), none] [] :=
    (if_f (not_ok (mB_ok (fn_ok (ds := []) rfl rfl r_known)))).trans rfl
  have hall : ((List.range c).map fun _ => D.bl true).all D.isBl = true ∧ ((List.range c).map fun _ => D.bl true).all D.yes = true := by
    constructor <;> (rw [List.all_map]; simp [D.isBl, D.yes])
  refine (seq_n hk).trans (ret_v (call_ok (one_ok (lc_ok (src_ok (frz_fl (fn_ok (ds := [.cl (ns.map D.int), .int 3]) (consA_ok rfl (one_ok rfl)) rfl hcells)) rfl) (by unfold natsR; rw [List.length_map, List.length_range]; omega) hL)) ?_))
  show fAll (.fl ((List.range c).map fun _ => D.bl true)) [some (.v (.cl (ns.map D.int))), none] ([] ++ S') = _
  simp only [fAll, asSeq, asL, hall.1, hall.2, if_true]
end K94

set_option Elab.async false
set_option autoImplicit false
set_option linter.all false
set_option maxRecDepth 100000
set_option maxHeartbeats 0
namespace K94
open PySem PySem.Spec PyProof.Rows L2 DL
def gcOf (K : PySem.W.Frag) (w : World) : Gc := ⟨K, (PySem.Challenge.rw_whicheverturning_k94_how_many_unlike_pic).prog, w, clsOf K er, tabsOf K tf⟩
theorem fx_of {w : World} {K : PySem.W.Frag} {h base : Heap} {mg : Str → Option Value} (c : hd.Says h K) (kin : K.In base) (nsp : base.Ns mainGlobals mg) (tab : ∀ p ∈ tf.map (He.cT K), LamX.TabB base mg p.1 p.2) (hms : mg "super" = none) :
    Fx hd er isl (PySem.Challenge.rw_whicheverturning_k94_how_many_unlike_pic).prog w K mg base (gcOf K w) := by
  have hx : exB K = true := c.more
  unfold exB at hx
  simp only [Bool.and_eq_true, decide_eq_true_eq, List.all_eq_true] at hx
  obtain ⟨⟨⟨x1, x2⟩, x3⟩, x4⟩ := hx
  refine ⟨rfl, rfl, rfl, rfl, kin, nsp, c.t, x2, fun i p hp => x3 p (List.mem_of_getElem? hp), ?_, fun p hp => tab _ (List.mem_map_of_mem hp), fun p hp => List.mem_map_of_mem (f := fun p : He.Defn => ((He.cT K p).2, p.1 ++ ".<locals>." ++ "<lambda>")) hp, fun p hp q hq e => ?_⟩
  · exact root_ok (fun env => rfl) c.root x1 (fun _ _ _ _ _ _ _ us hl => match us, hl with | [_, _], _ => rfl) rfl rfl rfl rfl rfl rfl (by decide +kernel) rfl rfl rfl (by kernel_rfl) hms
  · obtain ⟨r, hr, rfl⟩ := List.mem_map.mp hq
    have key : ∀ (l : List He.Defn), (l.map fun p => (He.cT K p).2).Nodup → p ∈ l → r ∈ l → (He.cT K r).2 = (He.cT K p).2 → r = p := fun l => by
      induction l with
      | nil => intro _ h; cases h
      | cons a l ih =>
        intro nd hp hr e
        rw [List.map_cons, List.nodup_cons] at nd
        rcases List.mem_cons.mp hp with h1 | h1
        · rcases List.mem_cons.mp hr with h2 | h2
          · rw [h1, h2]
          · rw [← h1] at nd; exact absurd (List.mem_map.mpr ⟨r, h2, e⟩) nd.1
        · rcases List.mem_cons.mp hr with h2 | h2
          · rw [← h2] at nd; exact absurd (List.mem_map.mpr ⟨p, h1, e.symm⟩) nd.1
          · exact ih nd.2 h1 h2 e
    rw [key tf x4 hp hr e]
theorem lawAt {w : World} {K : PySem.W.Frag} {h : Heap} {mg : Str → Option Value} {fa : Addr} (KX : K.In h) (G : h.Ns mainGlobals mg) (c : hd.Says h K) (hfa : mg ("law" : Str) = some (.ref fa)) : LawAtD PySem.Challenge.rw_whicheverturning_k94_how_many_unlike_pic w K 26 63 "script" mg fa h := by
  have e := hfa.symm.trans (He.glo_ok KX G (c.t.fact 54 (f := .glo "law") rfl))
  cases e
  obtain ⟨fd, F⟩ := c.t.def_ 26 (d := d_law) rfl
  have hms : mg ("super" : Str) = none := He.free_ok KX G (c.t.fact 55 (f := .free "super") rfl)
  have b := FunD.bindsA (ps := ["script"]) F fun _ _ _ _ _ _ us hl => match us, hl with | [_], _ => rfl
  refine ⟨fd, tf.map (He.cT K), gcOf K w, true, M_law, ?_, ?_, ?_, fun s v => b s [v] rfl, rfl, ?_, pure_law, fun base kin nsp tab => fnc_law (fx_of c kin nsp tab hms) F⟩
  · intro p hp; obtain ⟨q, hq, rfl⟩ := List.mem_map.mp hp; exact c.empty q hq
  · intro p hp; obtain ⟨q, hq, rfl⟩ := List.mem_map.mp hp; exact c.out q hq
  · intro p hp; obtain ⟨q, hq, rfl⟩ := List.mem_map.mp hp; exact PySem.W.codeHd_of_K KX (c.hd q hq)
  · intro p hp; obtain ⟨q, hq, rfl⟩ := List.mem_map.mp hp; exact ⟨He.cT K q, List.mem_map_of_mem hq, rfl⟩
end K94
open PySem PySem.W PySem.Calls PyProof.Rows
theorem PySem.Challenge.cw_whicheverturning_k94_how_many_unlike_pic_holds : PySem.Challenge.rw_whicheverturning_k94_how_many_unlike_pic.Holds := by
  w_on; o_law
  refine HandSHeadRun.head_any (r := OpenLaw.row PySem.Challenge.rw_whicheverturning_k94_how_many_unlike_pic) (q := view (OpenLaw.row PySem.Challenge.rw_whicheverturning_k94_how_many_unlike_pic).prog [39]) (H := K94.hkD) (ob := K94.obD) (M := 4000) (loose := K94.looseD) (d := HandSHeadRun.topDef (OpenLaw.row PySem.Challenge.rw_whicheverturning_k94_how_many_unlike_pic).prog 39) (kwd := []) K94.obD_eq
    (by kernel_rfl) (fun s => by kernel_rfl) K94.runD (by kernel_rfl) (by kernel_rfl) (by kernel_rfl) (by rfl) (by first | assumption | decide +kernel) (by decide +kernel) ⟨rfl, rfl, rfl, rfl, rfl, by decide +kernel⟩ ?hw ?hc
  case hw => w_witness2
  case hc =>
    refine DL.walk_D (l := PySem.Challenge.rw_whicheverturning_k94_how_many_unlike_pic) (n := 63) (k := 26) (x := "script") rfl (by decide) (by kernel_rfl) ⟨rfl, by decide, by decide⟩ ?F
    intro w mg fa h Y G hmg0
    obtain ⟨K, KX, c⟩ := Y
    have hmg : mg ("law" : PySem.Str) = some (.ref fa) := by
      have e : (HandSHeadRun.topDef (OpenLaw.row PySem.Challenge.rw_whicheverturning_k94_how_many_unlike_pic).prog 39).name = ("law" : PySem.Str) := by kernel_rfl
      rw [← e]
      exact hmg0
    exact ⟨K, KX, K94.lawAt KX G c hmg⟩
