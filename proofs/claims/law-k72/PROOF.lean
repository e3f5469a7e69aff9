import PyProof.Rows.All
import Wide.All
import OpenK.AllK
import Wide.FinOn
import HandS.ForMost
import HandS.ForExc
import HandS.TupAny
import HandS.TupMul
import HandS.Deep
import HandS.IsInst
import HandS.Walk
import HandS.Zip
import HandS.Rev
import HandS.More
import HandS.TryMany
import HandS.Style
import HandS.Small
import HandS.Lambda
import KE.KeyNested
import HandS.Dict
import HandS.ExcIs
import KE.GoesEnum
import KE.KSortTupAny
import HandS.SortOrd
import HandS.Strs
import HandS.TupSets
import HandS.EndTab
import HandS.Text
import PySem.Challenge.RW_wrapunwrap_k72_documents_written_and_rea
set_option Elab.async false
set_option linter.all false
set_option maxRecDepth 100000
set_option maxHeartbeats 4000000
/-! Sm1: data, the monad of mirrors, the relation of values and data, sites. -/
namespace Sm
open PySem PySem.Spec L2
open PyProof.Rows hiding St

abbrev D := PyData

/-! ### the monad of mirrors -/
/-- an exception: its class by name, the value of its attribute -/
structure Ex where
  cls : String
  arg : Option (Str × D) := none

def M (α : Type) : Type := (α → Prop) → (Ex → Prop) → Prop
namespace M
variable {α β γ : Type}
def pure (a : α) : M α := fun Q _ => Q a
def bind (m : M α) (f : α → M β) : M β := fun Q E => m (fun a => f a Q E) E
def fail : M α := fun _ _ => False
def raise (x : Ex) : M α := fun _ E => E x
def any (P : α → Prop) : M α := fun Q _ => ∀ a, P a → Q a
def guard (p : Prop) (m : M α) : M α := fun Q E => p ∧ m Q E
def ite (b : Bool) (m n : M α) : M α := match b with | true => m | false => n
def tryC (m : M α) (h : Ex → M α) : M α := fun Q E => m Q (fun x => h x Q E)
/-- no exception may leave -/
def nox (m : M α) : M α := fun Q _ => m Q (fun _ => False)
theorem pure_bind (a : α) (f : α → M β) : bind (pure a) f = f a := rfl
theorem bind_assoc (m : M α) (f : α → M β) (g : β → M γ) : bind (bind m f) g = bind m (fun a => bind (f a) g) := rfl
theorem bind_pure (m : M α) : bind m pure = m := rfl
theorem fail_bind (f : α → M β) : bind (fail : M α) f = fail := rfl
theorem raise_bind (x : Ex) (f : α → M β) : bind (raise x : M α) f = raise x := rfl
theorem ite_true (m n : M α) : ite true m n = m := rfl
theorem ite_false (m n : M α) : ite false m n = n := rfl
theorem guard_true {p : Prop} (h : p) (m : M α) : guard p m = m := by
  funext Q E
  exact propext ⟨fun x => x.2, fun x => ⟨h, x⟩⟩
/-- what goes on behind m, where it was not left -/
def seqR {σ ρ : Type} (m : M (σ ⊕ ρ)) (k : σ → M α) (emb : ρ → α) : M α := bind m (Sum.elim k fun r => pure (emb r))
/-- a loop over a list of items: the state; a body may leave with r -/
def forR {σ ρ : Type} (f : σ → α → M (σ ⊕ ρ)) : List α → σ → M (σ ⊕ ρ)
  | [], s => pure (.inl s)
  | x :: r, s => bind (f s x) (Sum.elim (fun s' => forR f r s') fun z => pure (.inr z))
/-- a loop that is never left -/
def forS {σ : Type} (f : σ → α → M σ) : List α → σ → M σ
  | [], s => pure s
  | x :: r, s => bind (f s x) fun s' => forS f r s'
/-- a while: at most n turns -/
def whileN {σ ρ : Type} (c : σ → M Bool) (f : σ → M (σ ⊕ ρ)) : Nat → σ → M (σ ⊕ ρ)
  | 0, _ => fail
  | n + 1, s => bind (c s) fun b => ite b (bind (f s) (Sum.elim (fun s' => whileN c f n s') fun z => pure (.inr z))) (pure (.inl s))
def while_ {σ ρ : Type} (c : σ → M Bool) (f : σ → M (σ ⊕ ρ)) (s : σ) : M (σ ⊕ ρ) := fun Q E => ∃ n, whileN c f n s Q E
def whileNS {σ : Type} (c : σ → M Bool) (f : σ → M σ) : Nat → σ → M σ
  | 0, _ => fail
  | n + 1, s => bind (c s) fun b => ite b (bind (f s) fun s' => whileNS c f n s') (pure s)
def whileS {σ : Type} (c : σ → M Bool) (f : σ → M σ) (s : σ) : M σ := fun Q E => ∃ n, whileNS c f n s Q E
/-- the list of what each item gives; some are left out -/
def mapC (f : α → M (Option β)) : List α → M (List β)
  | [] => pure []
  | x :: r => bind (f x) fun o => bind (mapC f r) fun l => pure (match o with | some y => y :: l | none => l)
end M

/-! ### operations on data -/
def opEq (a b : D) : M Bool := M.guard (min a.depth b.depth ≤ 150) (M.pure (PyData.eqv a b))
def opAdd : D → D → M D
  | .int i, .int j => M.pure (.int (i + j))
  | .str x, .str y => M.guard (x.length + y.length ≤ sizeLine) (M.pure (.str (x ++ y)))
  | .tuple xs, .tuple ys => M.guard (xs.length + ys.length ≤ sizeLine) (M.pure (.tuple (xs ++ ys)))
  | _, _ => M.fail
def opSub : D → D → M D
  | .int i, .int j => M.pure (.int (i - j))
  | _, _ => M.fail
def opMul : D → D → M D
  | .int i, .int j => M.guard (CMul i j) (M.pure (.int (i * j)))
  | _, _ => M.fail
def opFdiv : D → D → M D
  | .int i, .int j => M.guard (CDivN i j) (M.pure (.int (i.fdiv j)))
  | _, _ => M.fail
def opMod : D → D → M D
  | .int i, .int j => M.guard (j ≠ 0) (M.pure (.int (i.fmod j)))
  | _, _ => M.fail
def opPow : D → D → M D
  | .int i, .int j => M.guard (CPow i j) (M.pure (.int (i ^ j.toNat)))
  | _, _ => M.fail
def opNeg : D → M D
  | .int i => M.pure (.int (-i))
  | _ => M.fail
def ofOpt {α : Type} : Option α → M α
  | some a => M.pure a
  | none => M.fail
def opIx : D → D → M D
  | .tuple xs, .int i => ofOpt (atI xs i)
  | .list xs, .int i => ofOpt (atI xs i)
  | .str z, .int i => M.guard (z.length ≤ sizeLine) (ofOpt ((atI z.cps.toList i).map fun c => .str ⟨#[c]⟩))
  | _, _ => M.fail
def opLen : D → M D
  | .tuple xs => M.pure (.int xs.length)
  | .list xs => M.pure (.int xs.length)
  | .str z => M.guard (z.length ≤ sizeLine) (M.pure (.int z.length))
  | _ => M.fail
/-- a part of a slice: an int, or left out -/
def toIx : Option D → M (Option Int)
  | none => M.pure none
  | some (.int i) => M.pure (some i)
  | some _ => M.fail
def cut {α : Type} (xs : List α) (lo hi : Option Int) : List α := (xs.drop (HT.sIx xs.length 0 lo)).take (HT.sIx xs.length xs.length hi - HT.sIx xs.length 0 lo)
/-- a slice of a tuple or a text -/
def opSl (x : D) (lo hi : Option D) : M D := M.bind (toIx lo) fun l => M.bind (toIx hi) fun h => match x with
  | .tuple xs => M.pure (.tuple (cut xs l h))
  | .str z => M.guard (z.length ≤ sizeLine) (M.pure (.str (cutS z l h)))
  | _ => M.fail
/-- a bool -/
def tru : D → M Bool
  | .bool b => M.pure b
  | _ => M.fail
def asList : D → M (List D)
  | .list xs => M.pure xs
  | _ => M.fail
/-- what a for walks: a tuple's or a list's items -/
def items : D → M (List D)
  | .list xs => M.pure xs
  | .tuple xs => M.pure xs
  | _ => M.fail
def anyEq (xs : List D) (d : D) : Bool := xs.any fun y => PyData.eqv y d
/-- x in xs: a tuple or a list -/
def opIn (x y : D) : M Bool := match y with
  | .tuple ys => M.guard (x.depth ≤ 150) (M.pure (anyEq ys x))
  | .list ys => M.guard (x.depth ≤ 150) (M.pure (anyEq ys x))
  | _ => M.fail
def opIsNone : D → Bool
  | .none => true
  | _ => false

/-! ### values and data -/
/-- a list that nobody changes any more: frozen, or of the module -/
def FzL (K : PySem.W.Frag) (H : Hp) (a : Addr) (xs : List V) : Prop :=
  (∃ o, H a = some (.frz o (.lst xs))) ∨
    ∃ (o : Obj) (its : Array Value) (n : Nat), K.lookup a = some o ∧ o.cls = .type "list" ∧ o.dict = none ∧ o.data = .seq its n ∧ its.size ≤ sizeLine ∧ Vals xs its.toList
theorem FzL.sq {K : PySem.W.Frag} {H : Hp} {a : Addr} {xs : List V} (h : FzL K H a xs) : SqL K H a xs := by
  rcases h with ⟨o, h⟩ | h
  · exact .inl (.inr ⟨o, h⟩)
  · exact .inr h
mutual
inductive Rp (K : PySem.W.Frag) (H : Hp) : V → D → Prop
  | non : Rp K H .non .none
  | bl (b : Bool) : Rp K H (.bl b) (.bool b)
  | int (i : Int) : Rp K H (.int i) (.int i)
  | str (x : Str) : PyData.strOk x = true → Rp K H (.str x) (.str x)
  | lst {a : Addr} {xs : List V} {ds : List D} : FzL K H a xs → RpL K H xs ds → Rp K H (.ref a) (.list ds)
  | tup {a : Addr} {xs : List V} {ds : List D} : SqT K H a xs → RpL K H xs ds → Rp K H (.ref a) (.tuple ds)
inductive RpL (K : PySem.W.Frag) (H : Hp) : List V → List D → Prop
  | nil : RpL K H [] []
  | cons {v : V} {vs : List V} {d : D} {ds : List D} : Rp K H v d → RpL K H vs ds → RpL K H (v :: vs) (d :: ds)
end
section
variable {K : PySem.W.Frag} {H : Hp}
mutual
theorem Rp.dp : ∀ {v : V} {d : D}, Rp K H v d → Dp K H v d
  | _, _, .non => .non
  | _, _, .bl b => .bl b
  | _, _, .int i => .int i
  | _, _, .str x _ => .str x
  | _, _, .lst h r => .lst h.sq (RpL.dp r)
  | _, _, .tup h r => .tup h (RpL.dp r)
theorem RpL.dp : ∀ {vs : List V} {ds : List D}, RpL K H vs ds → DpAll K H vs ds
  | _, _, .nil => .nil
  | _, _, .cons h r => .cons (Rp.dp h) (RpL.dp r)
end
mutual
theorem Rp.lay : ∀ {v : V} {d : D}, Rp K H v d → d.canLay0 = true
  | _, _, .non => by simp [PyData.canLay0]
  | _, _, .bl b => by simp [PyData.canLay0]
  | _, _, .int i => by simp [PyData.canLay0]
  | _, _, .str x h => by simpa [PyData.canLay0] using h
  | _, _, .lst h r => by simpa [PyData.canLay0] using RpL.lay r
  | _, _, .tup h r => by simpa [PyData.canLay0] using RpL.lay r
theorem RpL.lay : ∀ {vs : List V} {ds : List D}, RpL K H vs ds → PyData.canLayAll0 ds = true
  | _, _, .nil => by simp [PyData.canLayAll0]
  | _, _, .cons h r => by simp [PyData.canLayAll0, Rp.lay h, RpL.lay r]
end
theorem RpL.length : ∀ {vs : List V} {ds : List D}, RpL K H vs ds → vs.length = ds.length
  | _, _, .nil => rfl
  | _, _, .cons _ r => by simp [RpL.length r]
theorem RpL.append : ∀ {vs ws : List V} {ds es : List D}, RpL K H vs ds → RpL K H ws es → RpL K H (vs ++ ws) (ds ++ es)
  | _, _, _, _, .nil, s => s
  | _, _, _, _, .cons h r, s => .cons h (RpL.append r s)
theorem RpL.get : ∀ {vs : List V} {ds : List D} {i : Nat} {d : D}, RpL K H vs ds → ds[i]? = some d → ∃ v, vs[i]? = some v ∧ Rp K H v d
  | _, _, _, _, .nil, e => by simp at e
  | _, _, 0, _, .cons h _, e => by simp at e; subst e; exact ⟨_, rfl, h⟩
  | _, _, i + 1, d, .cons _ r, e => by
    obtain ⟨v, h1, h2⟩ := RpL.get (i := i) (d := d) r (by simpa using e)
    exact ⟨v, by simpa using h1, h2⟩
theorem RpL.getV : ∀ {vs : List V} {ds : List D} {i : Nat} {v : V}, RpL K H vs ds → vs[i]? = some v → ∃ d, ds[i]? = some d ∧ Rp K H v d
  | _, _, _, _, .nil, e => by simp at e
  | _, _, 0, _, .cons h _, e => by simp at e; subst e; exact ⟨_, rfl, h⟩
  | _, _, i + 1, v, .cons _ r, e => by
    obtain ⟨d, h1, h2⟩ := RpL.getV (i := i) (v := v) r (by simpa using e)
    exact ⟨d, by simpa using h1, h2⟩
theorem RpL.take : ∀ {vs : List V} {ds : List D} (n : Nat), RpL K H vs ds → RpL K H (vs.take n) (ds.take n)
  | _, _, 0, _ => .nil
  | _, _, _ + 1, .nil => .nil
  | _, _, n + 1, .cons h r => .cons h (RpL.take n r)
theorem RpL.drop : ∀ {vs : List V} {ds : List D} (n : Nat), RpL K H vs ds → RpL K H (vs.drop n) (ds.drop n)
  | _, _, 0, r => r
  | _, _, _ + 1, .nil => .nil
  | _, _, n + 1, .cons _ r => RpL.drop n r
theorem RpL.reverse : ∀ {vs : List V} {ds : List D}, RpL K H vs ds → RpL K H vs.reverse ds.reverse
  | _, _, .nil => .nil
  | _, _, .cons h r => by
    rw [List.reverse_cons, List.reverse_cons]
    exact (RpL.reverse r).append (.cons h .nil)
theorem RpL.set : ∀ {vs : List V} {ds : List D} {v : V} {d : D} (n : Nat), RpL K H vs ds → Rp K H v d → RpL K H (vs.set n v) (ds.set n d)
  | _, _, _, _, _, .nil, _ => .nil
  | _, _, _, _, 0, .cons _ r, h => .cons h r
  | _, _, _, _, n + 1, .cons q r, h => .cons q (RpL.set n r h)
theorem RpL.eraseIdx : ∀ {vs : List V} {ds : List D} (n : Nat), RpL K H vs ds → RpL K H (vs.eraseIdx n) (ds.eraseIdx n)
  | _, _, _, .nil => .nil
  | _, _, 0, .cons _ r => r
  | _, _, n + 1, .cons q r => .cons q (RpL.eraseIdx n r)
theorem RpL.dropLast : ∀ {vs : List V} {ds : List D}, RpL K H vs ds → RpL K H vs.dropLast ds.dropLast := fun {vs ds} r => by
  rw [List.dropLast_eq_take, List.dropLast_eq_take, r.length]
  exact r.take _
theorem RpL.flat : ∀ {vs : List V} {ds : List D} (n : Nat), RpL K H vs ds → RpL K H (List.replicate n vs).flatten (List.replicate n ds).flatten
  | _, _, 0, _ => .nil
  | _, _, n + 1, r => by
    rw [List.replicate_succ, List.replicate_succ, List.flatten_cons, List.flatten_cons]
    exact r.append (RpL.flat n r)
theorem RpL.ofInts : ∀ (ns : List Int), RpL K H (ns.map V.int) (ns.map PyData.int)
  | [] => .nil
  | n :: r => .cons (.int n) (RpL.ofInts r)
theorem RpL.cutV {vs : List V} {ds : List D} (r : RpL K H vs ds) (lo hi : Option Int) : RpL K H (cutV vs lo hi) (cut ds lo hi) := by
  unfold L2.cutV cut
  rw [r.length]
  exact (r.drop _).take _
theorem RpL.at {vs : List V} {ds : List D} {i : Int} {d : D} (r : RpL K H vs ds) (h : atI ds i = some d) : ∃ v, atI vs i = some v ∧ Rp K H v d := by
  unfold atI at h ⊢
  rw [r.length]
  cases e : ixN ds.length i with
  | none => rw [e] at h; cases h
  | some j =>
    rw [e] at h
    exact r.get h
end

/-! ### heaps that go on -/
/-- an int list's ivs, of which all but the first are not large -/
def Gd (ns : List Int) : Prop := ∀ z ∈ ns.tail, -(2 ^ 62) < z ∧ z < 2 ^ 62
def ivs (ns : List Int) : List V := ns.map V.int
/-- what the law's lambdas are called -/
def lamName : Str := ("law" : Str) ++ ".<locals>." ++ "<lambda>"
/-- how a thing at S may change: an int list, a table of code objects -/
def HChg (H H' : Hp) (a : Addr) (o : HO) : Prop := (∃ ns ns', o = .lst (ivs ns) ∧ H' a = some (.lst (ivs ns')) ∧ ns'.length = ns.length ∧ (Gd ns → Gd ns')) ∨
  ∃ ps qs, o = .tbl ps ∧ H' a = some (.tbl qs) ∧ (LamX.TabS H a lamName → LamX.TabS H' a lamName)
/-- all that was tracked is as it was, but for the int lists and tables at S -/
def Adv (S : Addr → Prop) (H H' : Hp) : Prop := ∀ a o, H a = some o → H' a = some o ∨ (S a ∧ HChg H H' a o)
theorem Adv.refl (S : Addr → Prop) (H : Hp) : Adv S H H := fun _ _ h => .inl h
theorem ivs_inj {ns ms : List Int} (h : ivs ns = ivs ms) : ns = ms := by
  unfold ivs at h
  exact (List.map_inj_right (fun a b e => by injection e)).mp h
theorem Adv.codeO {S : Addr → Prop} {H H' : Hp} (h : Adv S H H') {c : Addr} {q : Str} (e : H c = some (LamX.CodeO c q)) : H' c = some (LamX.CodeO c q) := by
  rcases h c _ e with z | ⟨_, ⟨_, _, z, _⟩ | ⟨ps, _, z, _⟩⟩
  · exact z
  · unfold LamX.CodeO at z; cases z
  · exact absurd z (LamX.codeO_ne ps)
theorem Adv.tabS {S : Addr → Prop} {H H' : Hp} (h : Adv S H H') {P : Addr} (t : LamX.TabS H P lamName) : LamX.TabS H' P lamName := by
  obtain ⟨ps, h1, h2, h3⟩ := id t
  rcases h P _ h1 with z | ⟨_, ⟨_, _, z, _⟩ | ⟨_, _, _, _, k⟩⟩
  · refine ⟨ps, z, h2, fun pos cv hc => ?_⟩
    obtain ⟨c, e1, e2⟩ := h3 pos cv hc
    exact ⟨c, e1, h.codeO e2⟩
  · cases z
  · exact k t
theorem chg_trans {S : Addr → Prop} {H H1 H2 : Hp} {x : Addr} {o : HO} (a : Adv S H H1) (c : HChg H H1 x o) (b : Adv S H1 H2) : HChg H H2 x o := by
  rcases c with ⟨ns, ms, e, h1, l, g⟩ | ⟨ps, qs, e, h1, k⟩
  · rcases b x _ h1 with h2 | ⟨_, ⟨ms', ks, e2, h2, l2, g2⟩ | ⟨_, _, e2, _⟩⟩
    · exact .inl ⟨ns, ms, e, h2, l, g⟩
    · have e3 : ms = ms' := ivs_inj (by injection e2)
      subst e3
      exact .inl ⟨ns, ks, e, h2, l2.trans l, fun z => g2 (g z)⟩
    · cases e2
  · rcases b x _ h1 with h2 | ⟨_, ⟨_, _, e2, _⟩ | ⟨_, rs, _, h2, _⟩⟩
    · exact .inr ⟨ps, qs, e, h2, fun z => b.tabS (k z)⟩
    · cases e2
    · exact .inr ⟨ps, rs, e, h2, fun z => b.tabS (k z)⟩
theorem Adv.trans {S : Addr → Prop} {H H1 H2 : Hp} (a : Adv S H H1) (b : Adv S H1 H2) : Adv S H H2 := fun x o h => by
  rcases a x o h with h1 | ⟨s, c⟩
  · rcases b x _ h1 with h2 | ⟨s2, c2⟩
    · exact .inl h2
    · refine .inr ⟨s2, ?_⟩
      rcases c2 with c2 | ⟨ps, qs, e, h2, k⟩
      · exact .inl c2
      · exact .inr ⟨ps, qs, e, h2, fun z => b.tabS (a.tabS z)⟩
  · exact .inr ⟨s, chg_trans a c b⟩
theorem Adv.mono {S S' : Addr → Prop} {H H' : Hp} (a : Adv S H H') (h : ∀ x, S x → S' x) : Adv S' H H' := fun x o e => (a x o e).imp_right fun ⟨s, r⟩ => ⟨h x s, r⟩
theorem Adv.same {S : Addr → Prop} {H H' : Hp} (a : Same H H') : Adv S H H' := fun x o e => .inl (a x o e)
theorem Adv.new {S : Addr → Prop} {H : Hp} {p : Addr} {o : HO} (h : H p = none) : Adv S H (upd H p o) := fun x u e => .inl (by rw [upd_ne (ne_of_none e h)]; exact e)
theorem Adv.tup {S : Addr → Prop} {H H' : Hp} {a : Addr} {xs : List V} (h : Adv S H H') (e : H a = some (.tup xs)) : H' a = some (.tup xs) := by
  rcases h a _ e with q | ⟨_, ⟨_, _, z, _⟩ | ⟨_, _, z, _⟩⟩
  · exact q
  · cases z
  · cases z
theorem Adv.frz {S : Addr → Prop} {H H' : Hp} {a : Addr} {o : Obj} {u : HO} (h : Adv S H H') (e : H a = some (.frz o u)) : H' a = some (.frz o u) := by
  rcases h a _ e with q | ⟨_, ⟨_, _, z, _⟩ | ⟨_, _, z, _⟩⟩
  · exact q
  · cases z
  · cases z
theorem Adv.none {S : Addr → Prop} {H H' : Hp} {a : Addr} (h : Adv S H H') (e : H' a = Option.none) : H a = Option.none := by
  cases q : H a with
  | none => rfl
  | some o =>
    rcases h a o q with z | ⟨_, ⟨_, _, _, z, _⟩ | ⟨_, _, _, z, _⟩⟩
    · rw [z] at e; cases e
    · rw [z] at e; cases e
    · rw [z] at e; cases e
theorem Adv.keep {S : Addr → Prop} {H H' : Hp} {a : Addr} {o : HO} (h : Adv S H H') (e : H a = some o) (n : ¬ S a) : H' a = some o := (h a o e).resolve_right fun ⟨s, _⟩ => n s

/-- a thing of one's own, new since H, is put otherwise -/
theorem Adv.put {S : Addr → Prop} {H H' : Hp} {a : Addr} {u o : HO} (h : Adv S H H') (hn : H a = Option.none) (hu : H' a = some u) (nc : ∀ q, u ≠ LamX.CodeO a q) : Adv S H (upd H' a o) := fun x w e => by
  have nx : x ≠ a := ne_of_none e hn
  rcases h x w e with q | ⟨s, ⟨ns, ns', e1, q, l, g⟩ | ⟨ps, qs, e1, q, k⟩⟩
  · exact .inl (by rw [upd_ne nx]; exact q)
  · exact .inr ⟨s, .inl ⟨ns, ns', e1, by rw [upd_ne nx]; exact q, l, g⟩⟩
  · refine .inr ⟨s, .inr ⟨ps, qs, e1, by rw [upd_ne nx]; exact q, fun t => ?_⟩⟩
    obtain ⟨rs, h1, h2, h3⟩ := k t
    refine ⟨rs, by rw [upd_ne nx]; exact h1, h2, fun pos cv hc => ?_⟩
    obtain ⟨c, e2, e3⟩ := h3 pos cv hc
    refine ⟨c, e2, ?_⟩
    have nc2 : c ≠ a := fun z => by
      rw [z, hu] at e3
      exact nc lamName (Option.some.inj e3)
    rw [upd_ne nc2]
    exact e3
theorem lst_ne {a : Addr} {xs : List V} : ∀ q, HO.lst xs ≠ LamX.CodeO a q := fun q z => by unfold LamX.CodeO at z; cases z
theorem dK_ne {a : Addr} {xs : List (Key × V)} : ∀ q, HO.dK xs ≠ LamX.CodeO a q := fun q z => by unfold LamX.CodeO at z; cases z
/-- tuples and frozen things stay: what data lean on -/
def Le (H H' : Hp) : Prop := (∀ a xs, H a = some (.tup xs) → H' a = some (.tup xs)) ∧ ∀ a o u, H a = some (.frz o u) → H' a = some (.frz o u)
theorem Adv.le {S : Addr → Prop} {H H' : Hp} (h : Adv S H H') : Le H H' := ⟨fun _ _ e => h.tup e, fun _ _ _ e => h.frz e⟩
theorem Le.refl (H : Hp) : Le H H := ⟨fun _ _ e => e, fun _ _ _ e => e⟩
theorem Le.trans {H H1 H2 : Hp} (a : Le H H1) (b : Le H1 H2) : Le H H2 := ⟨fun x xs e => b.1 x xs (a.1 x xs e), fun x o u e => b.2 x o u (a.2 x o u e)⟩
theorem Le.new {H : Hp} {p : Addr} {o : HO} (h : H p = Option.none) : Le H (upd H p o) := (Adv.new (S := fun _ => False) h).le
/-- a list, dict .. is changed or locked -/
theorem Le.mut {H : Hp} {p : Addr} {o u : HO} (h : H p = some u) (m : Mut (some u)) : Le H (upd H p o) :=
  ⟨fun a xs e => by rw [upd_ne (fun z => by subst z; rw [h] at e; cases e; exact m)]; exact e, fun a ob v e => by rw [upd_ne (fun z => by subst z; rw [h] at e; cases e; exact m)]; exact e⟩
theorem Le.rd {H H' : Hp} (l : Le H H') {K : PySem.W.Frag} {a : Addr} {xs : List V} (h : SqT K H a xs) : SqT K H' a xs := by
  rcases h with (h | ⟨o, h⟩) | h
  · exact .inl (.inl (l.1 _ _ h))
  · exact .inl (.inr ⟨o, l.2 _ _ _ h⟩)
  · exact .inr h
theorem Le.fz {H H' : Hp} (l : Le H H') {K : PySem.W.Frag} {a : Addr} {xs : List V} (h : FzL K H a xs) : FzL K H' a xs := by
  rcases h with ⟨o, h⟩ | h
  · exact .inl ⟨o, l.2 _ _ _ h⟩
  · exact .inr h
mutual
theorem Rp.le {K : PySem.W.Frag} {H H' : Hp} (l : Le H H') : ∀ {v : V} {d : D}, Rp K H v d → Rp K H' v d
  | _, _, .non => .non
  | _, _, .bl b => .bl b
  | _, _, .int i => .int i
  | _, _, .str x h => .str x h
  | _, _, .lst h r => .lst (l.fz h) (RpL.le l r)
  | _, _, .tup h r => .tup (l.rd h) (RpL.le l r)
theorem RpL.le {K : PySem.W.Frag} {H H' : Hp} (l : Le H H') : ∀ {vs : List V} {ds : List D}, RpL K H vs ds → RpL K H' vs ds
  | _, _, .nil => .nil
  | _, _, .cons h r => .cons (Rp.le l h) (RpL.le l r)
end

/-! ### arguments without stars -/
def notStar : Expr → Bool
  | .Starred .. => false
  | _ => true
theorem star_cons {e : Expr} {es : List Expr} {env : Env} (h : notStar e = true) : starEach (e :: es) env = (false, eval e env) :: starEach es env := by
  cases e <;> first | rfl | cases h
def notStars : List Expr → Bool
  | [] => true
  | e :: es => notStar e && notStars es
theorem back_any {pos : Pos} {env : Env} : ∀ {es : List Expr}, notStars es = true → (backTo pos (starEach es env)).any (·.1) = false
  | [], _ => rfl
  | e :: es, h => by
    have h' : notStar e = true ∧ notStars es = true := by simpa [notStars] using h
    rw [star_cons h'.1]
    exact back_any h'.2
/-! ### semantic readings -/
def EV (X : Cx) (e : Expr) (σ : St) (H : Hp) (Q : VK) : Prop := ∀ (pins : List (Addr × Obj)) (s : Shared), Inv X pins σ H s → wpAny (model X.prog X.w) X.A (eval e X.env) (EP X pins σ Q) X.xe s
def TV (X : Cx) (e : Expr) (σ : St) (H : Hp) (Q : Bool → Hp → Prop) : Prop := ∀ (pins : List (Addr × Obj)) (s : Shared), Inv X pins σ H s → wpAny (model X.prog X.w) X.A (isTrue e X.env (eval e X.env)) (TP X pins σ Q) X.xe s
def WV (X : Cx) (e : Expr) (σ : St) (H : Hp) (Q : Bool → Hp → Prop) : Prop := ∀ (whole : Sem Value) (pins : List (Addr × Obj)) (s : Shared), Inv X pins σ H s → wpAny (model X.prog X.w) X.A (isTrue e X.env whole) (TP X pins σ Q) X.xe s
def AV (X : Cx) (es : List Expr) (σ : St) (H : Hp) (Q : List V → Hp → Prop) : Prop := ∀ (pos : Pos) (pins : List (Addr × Obj)) (s : Shared), Inv X pins σ H s → wpAny (model X.prog X.w) X.A (spliced (backTo pos (starEach es X.env))) (AP X pins σ Q) X.xe s
def SV1 (X : Cx) (st : Stmt) (D : Ends) (σ : St) (H : Hp) : Prop := ∀ (pins : List (Addr × Obj)) (s : Shared), Inv X pins σ H s → wpAny (model X.prog X.w) X.A (exec st X.env) (SP X pins D) X.xe s
def SV (X : Cx) (st : List Stmt) (D : Ends) (σ : St) (H : Hp) : Prop := ∀ (pins : List (Addr × Obj)) (s : Shared), Inv X pins σ H s → wpAny (model X.prog X.w) X.A (execs st X.env) (SP X pins D) X.xe s
section
variable {X : Cx} {e : Expr} {es : List Expr} {st : Stmt} {sts : List Stmt} {σ : St} {H : Hp}
theorem EV.pe : PE X e (EV X e) := ⟨fun pins s _ _ _ I h => h pins s I⟩
theorem TV.pt : PT X e (TV X e) := ⟨fun pins s _ _ _ I h => h pins s I⟩
theorem WV.pw : PW X e (WV X e) := ⟨fun wh pins s _ _ _ I h => h wh pins s I⟩
theorem AV.pa : PA X es (AV X es) := ⟨fun pos pins s _ _ _ I h => h pos pins s I⟩
theorem SV1.ps : PS X st (SV1 X st) := ⟨fun pins s _ _ _ I h => h pins s I⟩
theorem SV.pss : PSs X sts (SV X sts) := ⟨fun pins s _ _ _ I h => h pins s I⟩
theorem ev {t : TE} (h : PE X e t) {Q : VK} (q : t σ H Q) : EV X e σ H Q := fun pins s I => h.run pins s σ H Q I q
theorem tv {t : TT} (h : PT X e t) {Q : Bool → Hp → Prop} (q : t σ H Q) : TV X e σ H Q := fun pins s I => h.run pins s σ H Q I q
theorem wv {t : TT} (h : PW X e t) {Q : Bool → Hp → Prop} (q : t σ H Q) : WV X e σ H Q := fun wh pins s I => h.run wh pins s σ H Q I q
theorem av {t : TA} (h : PA X es t) {Q : List V → Hp → Prop} (q : t σ H Q) : AV X es σ H Q := fun pos pins s I => h.run pos pins s σ H Q I q
theorem sv1 {t : TS} (h : PS X st t) {D : Ends} (q : t D σ H) : SV1 X st D σ H := fun pins s I => h.run pins s σ H D I q
theorem sv {t : TS} (h : PSs X sts t) {D : Ends} (q : t D σ H) : SV X sts D σ H := fun pins s I => h.run pins s σ H D I q
theorem EV.mono {Q Q' : VK} (h : EV X e σ H Q) (k : ∀ v H', Q v H' → Q' v H') : EV X e σ H Q' := fun pins s I => thn (h pins s I) fun u s' ⟨v, H', I', r, q⟩ => ⟨v, H', I', r, k v H' q⟩
theorem WV.tv {Q : Bool → Hp → Prop} (h : WV X e σ H Q) : TV X e σ H Q := fun pins s I => h _ pins s I
/-- what an expression has made is frozen -/
theorem EV.freeze {Q Q' : VK} (h : EV X e σ H Q) (k : ∀ v H', Q v H' → ∃ a xs, H' a = some (.lst xs) ∧ ∀ o, Q' v (upd H' a (.frz o (.lst xs)))) : EV X e σ H Q' := fun pins s I => thn (h pins s I) fun u s' ⟨v, H', I', r, q⟩ => by
  obtain ⟨a, xs, ha, q'⟩ := k v H' q
  obtain ⟨o, I2⟩ := I'.lock ha (show Mut (some (.lst xs)) from trivial)
  exact ⟨v, _, I2, r, q' o⟩
/-- a list is frozen ahead of statements -/
theorem SV.freeze {D : Ends} {a : Addr} {xs : List V} (ha : H a = some (.lst xs)) (k : ∀ o, SV X sts D σ (upd H a (.frz o (.lst xs)))) : SV X sts D σ H := fun pins s I => by
  obtain ⟨o, I2⟩ := I.lock ha (show Mut (some (.lst xs)) from trivial)
  exact k o pins s I2
theorem SV.nil {D : Ends} (h : D.nx σ H) : SV X [] D σ H := sv pss_nil h
theorem SV.cons {D : Ends} (h : SV1 X st { D with nx := SV X sts D } σ H) : SV X (st :: sts) D σ H := sv (pss_cons SV1.ps SV.pss) h
end
end Sm

set_option Elab.async false
set_option linter.all false
set_option maxRecDepth 100000
set_option maxHeartbeats 4000000
/-! Sm1b: dicts whose keys are nested tuples, as the raw entries; the keys themselves are tracked tuples. -/
namespace Sm
open PySem PySem.Spec L2
open PyProof.Rows hiding St
mutual
def keyN : D → Option NestedKey
  | .none => some .none
  | .int i => some (.num i)
  | .str x => some (.text x)
  | .tuple xs => (keysN xs).map .tup
  | _ => none
def keysN : List D → Option (List NestedKey)
  | [] => some []
  | x :: r => match keyN x, keysN r with
    | some k, some ks => some (k :: ks)
    | _, _ => none
end
abbrev NE := NestedKey × Addr × V
abbrev VN : List NE → List (NestedKey × Addr × Value) → Prop := Paired fun p q => p.1 = q.1 ∧ p.2.1 = q.2.1 ∧ RelV p.2.2 q.2.2
def RawN (P : Program) (w : World) (h : Heap) (a : Addr) (xs : List (NestedKey × Addr × Value)) : Prop :=
  ∃ o es ep, h.get? a = some o ∧ o.ExactDict ∧ o.data = .dict es ep ∧ es.toList = xs.map (entryOfKey (nestedKind P w)) ∧ (xs.map (·.1)).Nodup
def DictN (P : Program) (w : World) (a : Addr) (L : List NE) : HO := .ext fun h => L.length ≤ sizeLine ∧ (a == sysModules) = false ∧ ∃ xs, VN L xs ∧ RawN P w h a xs
theorem heap_size : ∀ n : Nat, ∃ h : Heap, h.objs.size = n
  | 0 => ⟨{ objs := #[] }, rfl⟩
  | n + 1 => by
    obtain ⟨h, e⟩ := heap_size n
    exact ⟨h.push { cls := .none, data := .fields #[] }, by rw [Heap.size_push, e]⟩
theorem dictN_ne {P : Program} {w : World} {a : Addr} {L : List NE} : ∀ q, DictN P w a L ≠ LamX.CodeO a q := fun q z => by
  unfold DictN LamX.CodeO at z
  have e := HO.ext.inj z
  obtain ⟨h, hz⟩ := heap_size a
  have e2 := congrFun e (h.push { cls := .none, data := .fields #[.none, .str q default] })
  have e3 : (h.push { cls := .none, data := .fields #[.none, .str q default] }).get? a = some { cls := .none, data := .fields #[.none, .str q default] } := by
    have := Heap.get?_push_size h (o := { cls := .none, data := .fields #[.none, .str q default] }) rfl
    rwa [hz] at this
  have e4 := e2.symm.mp ⟨_, _, _, e3, rfl, rfl⟩
  obtain ⟨_, _, xs, _, o, es, ep, h1, _, h2, _⟩ := e4
  rw [e3] at h1
  cases h1
  cases h2
inductive RpN (K : PySem.W.Frag) (H : Hp) : List NE → List (NestedKey × D) → Prop
  | nil : RpN K H [] []
  | cons {k : NestedKey} {b : Addr} {v : V} {kd d : D} {L : List NE} {kvs : List (NestedKey × D)} : keyN kd = some k → k.depth ≤ 8 → Rp K H (.ref b) kd → Rp K H v d → RpN K H L kvs → RpN K H ((k, b, v) :: L) ((k, d) :: kvs)
theorem RpN.le {K : PySem.W.Frag} {H H' : Hp} (l : Le H H') : ∀ {L : List NE} {kvs : List (NestedKey × D)}, RpN K H L kvs → RpN K H' L kvs
  | _, _, .nil => .nil
  | _, _, .cons h1 h2 r1 r2 t => .cons h1 h2 (Rp.le l r1) (Rp.le l r2) (RpN.le l t)
theorem RpN.len {K : PySem.W.Frag} {H : Hp} : ∀ {L : List NE} {kvs : List (NestedKey × D)}, RpN K H L kvs → L.length = kvs.length
  | _, _, .nil => rfl
  | _, _, .cons _ _ _ _ t => by simp [RpN.len t]
def hasN {α : Type} (kvs : List (NestedKey × α)) (k : NestedKey) : Bool := kvs.any fun p => decide (p.1 = k)
def getN (kvs : List (NestedKey × D)) (k : NestedKey) : Option D := (kvs.find? fun p => decide (p.1 = k)).map (·.2)
def putN (kvs : List (NestedKey × D)) (k : NestedKey) (d : D) : List (NestedKey × D) := if hasN kvs k = true then kvs.map (fun p => if p.1 = k then (p.1, d) else p) else kvs ++ [(k, d)]
def getL (L : List NE) (k : NestedKey) : Option V := (L.find? fun p => decide (p.1 = k)).map (·.2.2)
def putL (L : List NE) (k : NestedKey) (b : Addr) (v : V) : List NE := if hasN L k = true then L.map (fun p => if p.1 = k then (p.1, p.2.1, v) else p) else L ++ [(k, b, v)]
section
variable {K : PySem.W.Frag} {H : Hp} {k : NestedKey}
theorem rpn_has : ∀ {L : List NE} {kvs : List (NestedKey × D)}, RpN K H L kvs → hasN L k = hasN kvs k
  | _, _, .nil => rfl
  | _, _, .cons _ _ _ _ t => by
    have ih := rpn_has t
    unfold hasN at ih ⊢
    simp only [List.any_cons, ih]
theorem rpn_get : ∀ {L : List NE} {kvs : List (NestedKey × D)} {d : D}, RpN K H L kvs → getN kvs k = some d → ∃ v, getL L k = some v ∧ Rp K H v d
  | _, _, d, .nil, h => by cases h
  | _, _, d, .cons (k := k') (v := v) (d := d') _ _ _ r t, h => by
    unfold getN at h
    unfold getL
    simp only [List.find?_cons] at h ⊢
    by_cases e : k' = k
    · simp only [e, decide_true, Option.map_some, Option.some.injEq] at h ⊢
      exact ⟨v, rfl, h ▸ r⟩
    · simp only [e, decide_false] at h ⊢
      exact rpn_get t h
theorem rpn_map {v : V} {d : D} (r0 : Rp K H v d) : ∀ {L : List NE} {kvs : List (NestedKey × D)}, RpN K H L kvs → RpN K H (L.map fun p => if p.1 = k then (p.1, p.2.1, v) else p) (kvs.map fun p => if p.1 = k then (p.1, d) else p)
  | _, _, .nil => .nil
  | _, _, .cons (k := k') h1 h2 r1 r2 t => by
    simp only [List.map_cons]
    by_cases e : k' = k
    · rw [if_pos e, if_pos e]
      exact .cons h1 h2 r1 r0 (rpn_map r0 t)
    · rw [if_neg e, if_neg e]
      exact .cons h1 h2 r1 r2 (rpn_map r0 t)
theorem rpn_append : ∀ {L M : List NE} {kvs kws : List (NestedKey × D)}, RpN K H L kvs → RpN K H M kws → RpN K H (L ++ M) (kvs ++ kws)
  | _, _, _, _, .nil, q => q
  | _, _, _, _, .cons h1 h2 r1 r2 t, q => .cons h1 h2 r1 r2 (rpn_append t q)
theorem rpn_put {b : Addr} {v : V} {kd d : D} {L : List NE} {kvs : List (NestedKey × D)} (h : RpN K H L kvs) (hk : keyN kd = some k) (h8 : k.depth ≤ 8) (r1 : Rp K H (.ref b) kd) (r2 : Rp K H v d) : RpN K H (putL L k b v) (putN kvs k d) := by
  unfold putL putN
  rw [rpn_has h]
  split
  · exact rpn_map r2 h
  · exact rpn_append h (.cons hk h8 r1 r2 .nil)
theorem putN_len (kvs : List (NestedKey × D)) (k : NestedKey) (d : D) : (putN kvs k d).length ≤ kvs.length + 1 := by
  unfold putN
  split <;> simp
theorem vn_has : ∀ {L : List NE} {xs : List (NestedKey × Addr × Value)}, VN L xs → hasN L k = (atKey xs k).isSome := by
  intro L xs h
  induction h with
  | nil => rfl
  | @cons p q ps qs h t ih =>
    unfold hasN atKey at ih ⊢
    simp only [List.any_cons, List.find?_cons, h.1]
    by_cases e : q.1 = k
    · simp [e]
    · simp only [e, decide_false, Bool.false_or]
      exact ih
theorem vn_get {v : V} : ∀ {L : List NE} {xs : List (NestedKey × Addr × Value)}, VN L xs → getL L k = some v → ∃ p, atKey xs k = some p ∧ RelV v p.2 := by
  intro L xs h
  induction h with
  | nil => intro e; cases e
  | @cons p q ps qs h t ih =>
    intro e
    unfold getL at e ih
    unfold atKey at ih ⊢
    simp only [List.find?_cons, h.1] at e ⊢
    by_cases c : q.1 = k
    · simp only [c, decide_true, Option.map_some, Option.some.injEq] at e ⊢
      exact ⟨q.2, rfl, e ▸ h.2.2⟩
    · simp only [c, decide_false] at e ⊢
      exact ih e
theorem vn_map {v : V} {u : Value} (r0 : RelV v u) : ∀ {L : List NE} {xs : List (NestedKey × Addr × Value)}, VN L xs → VN (L.map fun p => if p.1 = k then (p.1, p.2.1, v) else p) (xs.map (putAt k u)) := by
  intro L xs h
  induction h with
  | nil => exact .nil
  | @cons p q ps qs h t ih =>
    simp only [List.map_cons]
    refine .cons ?_ ih
    unfold putAt
    rw [h.1]
    by_cases c : q.1 = k
    · rw [if_pos c, if_pos c]
      exact ⟨rfl, h.2.1, r0⟩
    · rw [if_neg c, if_neg c]
      exact h
theorem vn_append : ∀ {L M : List NE} {xs ys : List (NestedKey × Addr × Value)}, VN L xs → VN M ys → VN (L ++ M) (xs ++ ys) := by
  intro L M xs ys h g
  induction h with
  | nil => exact g
  | cons h t ih => exact .cons h ih
theorem vn_put {b : Addr} {v : V} {u : Value} {L : List NE} {xs : List (NestedKey × Addr × Value)} (h : VN L xs) (r0 : RelV v u) : VN (putL L k b v) (storedH xs k b u) := by
  unfold putL storedH
  rw [vn_has h]
  split
  · exact vn_map r0 h
  · exact vn_append h (.cons ⟨rfl, rfl, r0⟩ .nil)
theorem vn_len {L : List NE} {xs : List (NestedKey × Addr × Value)} (h : VN L xs) : L.length = xs.length := by
  induction h with
  | nil => rfl
  | cons _ _ ih => simp [ih]
end
end Sm

set_option Elab.async false
set_option linter.all false
set_option maxRecDepth 100000
set_option maxHeartbeats 4000000
/-! Sm1c: such a dict is asked, read and written. -/
namespace Sm
open PySem PySem.Spec L2
open PyProof.Rows hiding St
section
variable {X : Cx} {pins : List (Addr × Obj)} {σ : St} {H : Hp} {s : Shared}
mutual
theorem key_is (I : Inv X pins σ H s) : ∀ {d : D} {v : V} {u : Value} {k : NestedKey}, Rp X.K H v d → keyN d = some k → RelV v u → NestedIs s.heap k u
  | .none, _, u, k, r, hk, ru => by
    cases r
    simp only [keyN, Option.some.injEq] at hk
    subst hk
    cases (show u = Value.none from ru)
    exact .none
  | .int i, _, u, k, r, hk, ru => by
    cases r
    simp only [keyN, Option.some.injEq] at hk
    subst hk
    obtain ⟨t, rfl⟩ := ru
    exact .int i t
  | .str x, _, u, k, r, hk, ru => by
    cases r
    simp only [keyN, Option.some.injEq] at hk
    subst hk
    obtain ⟨t, rfl⟩ := ru
    exact .text x t
  | .tuple ds, _, u, k, r, hk, ru => by
    cases r with
    | tup hq rq =>
      rename_i a xs
      simp only [keyN] at hk
      cases e : keysN ds with
      | none => rw [e] at hk; cases hk
      | some ks =>
        rw [e] at hk
        simp only [Option.map_some, Option.some.injEq] at hk
        subst hk
        cases (show u = Value.ref a from ru)
        obtain ⟨its, rv, ⟨o, ho, hc, n, hd⟩, _⟩ := I.tuple hq
        exact .tup ho hc hd (by simpa using keys_is I rq e rv)
  | .bool _, _, _, _, _, hk, _ => by simp [keyN] at hk
  | .list _, _, _, _, _, hk, _ => by simp [keyN] at hk
  | .dict _, _, _, _, _, hk, _ => by simp [keyN] at hk
theorem keys_is (I : Inv X pins σ H s) : ∀ {ds : List D} {vs : List V} {us : List Value} {ks : List NestedKey}, RpL X.K H vs ds → keysN ds = some ks → Vals vs us → NestedAll s.heap ks us
  | [], _, us, ks, r, hk, ru => by
    cases r
    simp only [keysN, Option.some.injEq] at hk
    subst hk
    cases ru
    exact .nil
  | d :: ds, _, us, ks, r, hk, ru => by
    cases r with
    | cons r1 r2 =>
      cases ru with
      | cons u1 u2 =>
        simp only [keysN] at hk
        cases e1 : keyN d with
        | none => rw [e1] at hk; cases hk
        | some k1 =>
          cases e2 : keysN ds with
          | none => rw [e1, e2] at hk; cases hk
          | some ks2 =>
            rw [e1, e2] at hk
            simp only [Option.some.injEq] at hk
            subst hk
            exact .cons (key_is I r1 e1 u1) (keys_is I r2 e2 u2)
end
/-- the entries' keys lie in the heap -/
theorem rpn_is (I : Inv X pins σ H s) : ∀ {L : List NE} {kvs : List (NestedKey × D)} {xs : List (NestedKey × Addr × Value)}, RpN X.K H L kvs → VN L xs → ∀ x ∈ xs, (nestedKind X.prog X.w).is s.heap x.1 x.2.1 := by
  intro L kvs xs r
  induction r generalizing xs with
  | nil => intro v x hx; cases v; cases hx
  | cons h1 h2 r1 r2 t ih =>
    intro v x hx
    cases v with
    | @cons p q ps qs hq tq =>
      rcases List.mem_cons.mp hx with rfl | hx
      · obtain ⟨e1, e2, _⟩ := hq
        rw [← e1, ← e2]
        exact ⟨key_is I r1 h1 rfl, h2⟩
      · exact ih tq x hx
theorem dn_at (I : Inv X pins σ H s) {a : Addr} {L : List NE} {kvs : List (NestedKey × D)} (h : H a = some (DictN X.prog X.w a L)) (r : RpN X.K H L kvs) :
    L.length ≤ sizeLine ∧ (a == sysModules) = false ∧ ∃ xs, VN L xs ∧ s.heap.DictOfH (nestedKind X.prog X.w) a xs := by
  obtain ⟨h1, h2, xs, v, o, es, ep, q1, q2, q3, q4, q5⟩ := (I.hok a _ h).1
  exact ⟨h1, h2, xs, v, o, es, ep, q1, q2, q3, q4, rpn_is I r v, q5⟩
theorem dn_new {P : Program} {w : World} {H' : Hp} {h' : Heap} {a : Addr} {L : List NE} {xs : List (NestedKey × Addr × Value)} (z : L.length ≤ sizeLine) (hd : (a == sysModules) = false) (v : VN L xs) (q : RawN P w h' a xs) : ObjOk P w H' h' a (DictN P w a L) := by
  have q2 := q
  obtain ⟨o, es, ep, ho, r⟩ := q
  refine ⟨⟨z, hd, xs, v, q2⟩, ⟨o, ho⟩, fun h1 h2 p k => ?_⟩
  obtain ⟨p1, p2, ys, p3, o', es', ep', p4, p5⟩ := p
  exact ⟨p1, p2, ys, p3, o', es', ep', k o' p4, p5⟩
theorem RawN.of {P : Program} {w : World} {h : Heap} {a : Addr} {xs : List (NestedKey × Addr × Value)} (x : h.DictOfH (nestedKind P w) a xs) : RawN P w h a xs := by
  obtain ⟨o, es, ep, h1, h2, h3, h4, _, h5⟩ := x
  exact ⟨o, es, ep, h1, h2, h3, h4, h5⟩
/-- {} -/
theorem pe_dnewN {pos : Pos} : PE X (.Dict [] [] pos) (fun _ H Q => ∀ p, H p = none → Q (.ref p) (upd H p (DictN X.prog X.w p []))) := ⟨fun pins s σ H Q I h =>
  wpAny_Dict_empty ⟨.ref s.heap.objs.size, _, I.laid (a := s.heap.objs.size) (o := DictN X.prog X.w s.heap.objs.size []) (t' := s.toks) (fun _ _ q => Heap.get?_push_of_some _ q) (Nat.le_refl _)
    (dn_new (Nat.zero_le _) (beq_eq_false_iff_ne.mpr (Ne.symm (Nat.ne_of_lt I.big))) .nil (RawN.of (Heap.DictOfH.new s.heap))), rfl, h _ (I.hok.fresh (Nat.le_refl _))⟩⟩
theorem room8 {A : Around} (hu : A.units + 20 < cLine) : A.in1.units + 8 < cLine := by
  have : A.in1.units = A.units + 1 := by simp
  omega
/-- k in d, k not in d -/
def rInN (P : Program) (w : World) (K : PySem.W.Frag) (neg : Bool) : V → V → Hp → VK → Prop := fun x y H Q => ∃ b a L kvs kd k, x = .ref b ∧ y = .ref a ∧ H a = some (DictN P w a L) ∧ RpN K H L kvs ∧ Rp K H (.ref b) kd ∧ keyN kd = some k ∧ k.depth ≤ 8 ∧ Q (.bl (if neg then !hasN kvs k else hasN kvs k)) H
theorem or_inN (hu : X.A.units + 20 < cLine) : OpR X (compareOp .In) (rInN X.prog X.w X.K false) := by
  intro pins s σ H x y v u Q I rx ry h
  obtain ⟨b, a, L, kvs, kd, k, rfl, rfl, ha, r, rk, hk, h8, q⟩ := h
  cases (show v = Value.ref b from rx)
  cases (show u = Value.ref a from ry)
  obtain ⟨z, hd, xs, vn, dd⟩ := dn_at I ha r
  refine wpAny_in_heap (knd := nestedKind X.prog X.w) (k := k) (room8 hu) ⟨key_is I rk hk rfl, h8⟩ hd dd ?_
  rw [← vn_has vn, rpn_has r]
  exact ⟨.bl (hasN kvs k), H, I.tok _, rfl, by simpa using q⟩
theorem or_notInN (hu : X.A.units + 20 < cLine) : OpR X (compareOp .NotIn) (rInN X.prog X.w X.K true) := by
  intro pins s σ H x y v u Q I rx ry h
  obtain ⟨b, a, L, kvs, kd, k, rfl, rfl, ha, r, rk, hk, h8, q⟩ := h
  cases (show v = Value.ref b from rx)
  cases (show u = Value.ref a from ry)
  obtain ⟨z, hd, xs, vn, dd⟩ := dn_at I ha r
  refine wpAny_notIn_heap (knd := nestedKind X.prog X.w) (k := k) (room8 hu) ⟨key_is I rk hk rfl, h8⟩ hd dd ?_
  rw [← vn_has vn, rpn_has r]
  exact ⟨.bl (!hasN kvs k), H, I.tok _, rfl, by simpa using q⟩
/-- d[k] -/
theorem dn_get (hu : X.A.units + 20 < cLine) (I : Inv X pins σ H s) {a b : Addr} {L : List NE} {kvs : List (NestedKey × D)} {kd d : D} {k : NestedKey} {Q : VK} (ha : H a = some (DictN X.prog X.w a L)) (r : RpN X.K H L kvs) (rk : Rp X.K H (.ref b) kd) (hk : keyN kd = some k) (h8 : k.depth ≤ 8) (hg : getN kvs k = some d)
    (q : ∀ v, Rp X.K H v d → Q v H) : wpAny (model X.prog X.w) X.A (getItem (.ref a) (.ref b)) (fun u s' => ∃ v H', Inv X pins σ H' s' ∧ RelV v u ∧ Q v H') X.xe s := by
  obtain ⟨z, hd, xs, vn, dd⟩ := dn_at I ha r
  obtain ⟨v, h1, h2⟩ := rpn_get r hg
  obtain ⟨p, h3, h4⟩ := vn_get vn h1
  exact wpAny_getItem_heap (knd := nestedKind X.prog X.w) (k := k) (room8 hu) ⟨key_is I rk hk rfl, h8⟩ dd h3 ⟨v, H, I.tok _, h4, q v h2⟩
/-- d[k] = v -/
theorem dn_set (hu : X.A.units + 20 < cLine) (I : Inv X pins σ H s) {a b : Addr} {L : List NE} {kvs : List (NestedKey × D)} {kd d : D} {k : NestedKey} {v : V} {u : Value} {Q : Unit → Shared → Prop} (ha : H a = some (DictN X.prog X.w a L)) (r : RpN X.K H L kvs) (rk : Rp X.K H (.ref b) kd) (hk : keyN kd = some k) (h8 : k.depth ≤ 8) (hz : kvs.length < sizeLine) (rv : RelV v u)
    (q : ∀ s', Inv X pins σ (upd H a (DictN X.prog X.w a (putL L k b v))) s' → Q () s') : wpAny (model X.prog X.w) X.A (setItem (.ref a) (.ref b) u) Q X.xe s := by
  obtain ⟨z, hd, xs, vn, dd⟩ := dn_at I ha r
  have hzx : xs.length ≤ sizeLine := by rw [← vn_len vn]; exact z
  refine wpAny_setItem_heap (knd := nestedKind X.prog X.w) (k := k) (hsz := hzx) (room8 hu) ⟨key_is I rk hk rfl, h8⟩ dd fun h' dd' hs => q _ ?_
  obtain ⟨o, es, ep, hq, h2, h3, h4, _, h5⟩ := dd'
  have hl : (putL L k b v).length ≤ sizeLine := by
    have h1 := r.len
    have : (putL L k b v).length ≤ L.length + 1 := by unfold putL; split <;> simp
    omega
  exact d_write I (by rw [ha]; exact True.intro) hs ⟨o, hq⟩ (dn_new hl hd (vn_put vn rv) ⟨o, es, ep, hq, h2, h3, h4, h5⟩)
end
end Sm

set_option Elab.async false
set_option linter.all false
set_option maxRecDepth 100000
set_option maxHeartbeats 4000000
/-! Sm2: sites, slots, the judgements of expressions and their rules. -/
namespace Sm
open PySem PySem.Spec L2
open PyProof.Rows hiding St

/-- what a slot holds: data, a list of this def's own, an int list that calls may change, a dict with text keys of one's own -/
inductive B where
  | d (x : D)
  | ml (xs : List D)
  | src (n : Nat)
  | fv (v : V)
  | dk (kvs : List (Str × D))
  | dn (kvs : List (NestedKey × D))
def B.own : B → Bool
  | .ml _ => true
  | .dk _ => true
  | .dn _ => true
  | _ => false
abbrev Ctx := List (Option B)

/-- where code stands: H0, the heap at the entry; S, the int lists that may change; W, what is wished of exceptions; ca, where the classes stand; wr, the slots that may be stored -/
structure Site where
  X : Cx
  S : Addr → Prop
  H0 : Hp
  W : WX
  ca : String → Addr
  wr : Nat → Prop

def SrcV (S : Addr → Prop) (H : Hp) (n : Nat) (v : V) : Prop := ∃ a ns, v = .ref a ∧ S a ∧ H a = some (.lst (ivs ns)) ∧ ns.length = n ∧ Gd ns
inductive RpK (K : PySem.W.Frag) (H : Hp) : List (Key × V) → List (Str × D) → Prop
  | nil : RpK K H [] []
  | cons {k : Str} {v : V} {d : D} {vs : List (Key × V)} {ds : List (Str × D)} : PyData.strOk k = true → Rp K H v d → RpK K H vs ds → RpK K H ((Sum.inr k, v) :: vs) ((k, d) :: ds)
def RB (c : Site) (H : Hp) (v : V) : B → Prop
  | .d x => Rp c.X.K H v x
  | .ml xs => ∃ a vs, v = .ref a ∧ H a = some (.lst vs) ∧ RpL c.X.K H vs xs ∧ ¬ c.S a
  | .src n => SrcV c.S H n v
  | .fv u => v = u
  | .dk kvs => ∃ a vs, v = .ref a ∧ H a = some (.dK vs) ∧ RpK c.X.K H vs kvs ∧ ¬ c.S a
  | .dn kvs => ∃ a L, v = .ref a ∧ H a = some (DictN c.X.prog c.X.w a L) ∧ RpN c.X.K H L kvs ∧ ¬ c.S a
structure FR (c : Site) (γ : Ctx) (σ : St) (H : Hp) : Prop where
  val : ∀ (i : Nat) (b : B), γ[i]? = some (some b) → ∃ v, σ[i]? = some (some v) ∧ RB c H v b
  sep : ∀ (i j : Nat) (b b' : B) (a : Addr), i ≠ j → γ[i]? = some (some b) → γ[j]? = some (some b') → b.own = true → b'.own = true → σ[i]? = some (some (V.ref a)) → σ[j]? ≠ some (some (V.ref a))
  new : ∀ (i : Nat) (b : B) (a : Addr), γ[i]? = some (some b) → b.own = true → σ[i]? = some (some (V.ref a)) → c.H0 a = none
  base : Adv c.S c.H0 H
  src : ∀ a, c.S a → H a ≠ none

theorem SrcV.adv {S : Addr → Prop} {H H' : Hp} {n : Nat} {v : V} (h : SrcV S H n v) (a : Adv S H H') : SrcV S H' n v := by
  obtain ⟨p, ns, e, s, h, l, g⟩ := h
  rcases a p _ h with q | ⟨_, ⟨ms, ms', e2, q, l2, g2⟩ | ⟨_, _, e2, _⟩⟩
  · exact ⟨p, ns, e, s, q, l, g⟩
  rotate_left
  · cases e2
  · have e3 : ns = ms := ivs_inj (by injection e2)
    subst e3
    exact ⟨p, ms', e, s, q, l2.trans l, g2 g⟩
theorem RpK.le {K : PySem.W.Frag} {H H' : Hp} (l : Le H H') : ∀ {vs : List (Key × V)} {ds : List (Str × D)}, RpK K H vs ds → RpK K H' vs ds
  | _, _, .nil => .nil
  | _, _, .cons h r t => .cons h (Rp.le l r) (RpK.le l t)
theorem RB.adv {c : Site} {H H' : Hp} {v : V} {b : B} (h : RB c H v b) (a : Adv c.S H H') : RB c H' v b := by
  cases b with
  | d x => exact Rp.le a.le h
  | ml xs => obtain ⟨p, vs, e, q, r, n⟩ := h; exact ⟨p, vs, e, a.keep q n, RpL.le a.le r, n⟩
  | src n => exact SrcV.adv h a
  | fv u => exact h
  | dk kvs => obtain ⟨p, vs, e, q, r, n⟩ := h; exact ⟨p, vs, e, a.keep q n, RpK.le a.le r, n⟩
  | dn kvs => obtain ⟨p, vs, e, q, r, n⟩ := h; exact ⟨p, vs, e, a.keep q n, RpN.le a.le r, n⟩
theorem FR.adv {c : Site} {γ : Ctx} {σ : St} {H H' : Hp} (F : FR c γ σ H) (a : Adv c.S H H') : FR c γ σ H' :=
  ⟨fun i b e => let ⟨v, h1, h2⟩ := F.val i b e; ⟨v, h1, h2.adv a⟩, F.sep, F.new, F.base.trans a, fun x s => by
    have h := F.src x s
    intro z
    exact h (a.none z)⟩

/-- how an exception lies -/
def RpX (c : Site) (H : Hp) (x : Ex) (cls : Value) (dd : Option Addr) : Prop := cls = .ref (c.ca x.cls) ∧ match x.arg with
  | none => dd = none
  | some (f, d) => ∃ a v, dd = some a ∧ H a = some (.xd [(f, v)]) ∧ Rp c.X.K H v d
/-- what is wished of exceptions lets QE's pass -/
def Xok (c : Site) (σ : St) (H : Hp) (QE : Ex → Prop) : Prop := ∀ x H' cls dd, QE x → Adv c.S H H' → RpX c H' x cls dd → c.W cls dd σ H'
theorem Xok.adv {c : Site} {σ : St} {H H' : Hp} {QE : Ex → Prop} (h : Xok c σ H QE) (a : Adv c.S H H') : Xok c σ H' QE := fun x H1 cls dd q b r => h x H1 cls dd q (a.trans b) r

/-- an expression gives data -/
abbrev SimE.T (c : Site) (γ : Ctx) (e : Expr) (m : M D) : Prop := ∀ (σ : St) (H : Hp), FR c γ σ H → ∀ (QD : D → Prop) (QE : Ex → Prop), m QD QE → Xok c σ H QE →
  ∀ Q : VK, (∀ d v H', QD d → Adv c.S H H' → Rp c.X.K H' v d → Q v H') → EV c.X e σ H Q
structure SimE (c : Site) (γ : Ctx) (e : Expr) (m : M D) : Prop where
  run : SimE.T c γ e m
instance {c : Site} {γ : Ctx} {e : Expr} {m : M D} : CoeFun (SimE c γ e m) (fun _ => SimE.T c γ e m) := ⟨SimE.run⟩
/-- a list, new or a slot's own, or data: as it stands now -/
def RK (c : Site) (H : Hp) (v : V) (d : D) : Prop := Rp c.X.K H v d ∨ ∃ a vs ds, v = .ref a ∧ d = .list ds ∧ H a = some (.lst vs) ∧ RpL c.X.K H vs ds ∧ ¬ c.S a
abbrev SimK.T (c : Site) (γ : Ctx) (e : Expr) (m : M D) : Prop := ∀ (σ : St) (H : Hp), FR c γ σ H → ∀ (QD : D → Prop) (QE : Ex → Prop), m QD QE → Xok c σ H QE →
  ∀ Q : VK, (∀ d v H', QD d → Adv c.S H H' → RK c H' v d → Q v H') → EV c.X e σ H Q
structure SimK (c : Site) (γ : Ctx) (e : Expr) (m : M D) : Prop where
  run : SimK.T c γ e m
instance {c : Site} {γ : Ctx} {e : Expr} {m : M D} : CoeFun (SimK c γ e m) (fun _ => SimK.T c γ e m) := ⟨SimK.run⟩
/-- a new list -/
abbrev SimL.T (c : Site) (γ : Ctx) (e : Expr) (m : M (List D)) : Prop := ∀ (σ : St) (H : Hp), FR c γ σ H → ∀ (QD : List D → Prop) (QE : Ex → Prop), m QD QE → Xok c σ H QE →
  ∀ Q : VK, (∀ ds a vs H', QD ds → Adv c.S H H' → H a = none → H' a = some (.lst vs) → RpL c.X.K H' vs ds → ¬ c.S a → Q (.ref a) H') → EV c.X e σ H Q
structure SimL (c : Site) (γ : Ctx) (e : Expr) (m : M (List D)) : Prop where
  run : SimL.T c γ e m
instance {c : Site} {γ : Ctx} {e : Expr} {m : M (List D)} : CoeFun (SimL c γ e m) (fun _ => SimL.T c γ e m) := ⟨SimL.run⟩
abbrev SimT.T (c : Site) (γ : Ctx) (e : Expr) (m : M Bool) : Prop := ∀ (σ : St) (H : Hp), FR c γ σ H → ∀ (QD : Bool → Prop) (QE : Ex → Prop), m QD QE → Xok c σ H QE →
  ∀ Q : Bool → Hp → Prop, (∀ b H', QD b → Adv c.S H H' → Q b H') → TV c.X e σ H Q
structure SimT (c : Site) (γ : Ctx) (e : Expr) (m : M Bool) : Prop where
  run : SimT.T c γ e m
instance {c : Site} {γ : Ctx} {e : Expr} {m : M Bool} : CoeFun (SimT c γ e m) (fun _ => SimT.T c γ e m) := ⟨SimT.run⟩
abbrev SimW.T (c : Site) (γ : Ctx) (e : Expr) (m : M Bool) : Prop := ∀ (σ : St) (H : Hp), FR c γ σ H → ∀ (QD : Bool → Prop) (QE : Ex → Prop), m QD QE → Xok c σ H QE →
  ∀ Q : Bool → Hp → Prop, (∀ b H', QD b → Adv c.S H H' → Q b H') → WV c.X e σ H Q
structure SimW (c : Site) (γ : Ctx) (e : Expr) (m : M Bool) : Prop where
  run : SimW.T c γ e m
instance {c : Site} {γ : Ctx} {e : Expr} {m : M Bool} : CoeFun (SimW c γ e m) (fun _ => SimW.T c γ e m) := ⟨SimW.run⟩
/-- a parameter: data, an int list that the call may change -/
inductive PK where
  | d
  | src (n : Nat)
def ArgsR (K : PySem.W.Frag) (S : Addr → Prop) (H : Hp) : List PK → List V → List D → Prop
  | [], [], [] => True
  | .d :: ks, v :: vs, d :: ds => Rp K H v d ∧ ArgsR K S H ks vs ds
  | .src n :: ks, v :: vs, ds => SrcV S H n v ∧ ArgsR K S H ks vs ds
  | _, _, _ => False
/-- S' is S and new things -/
def SExt (S S' : Addr → Prop) (H : Hp) : Prop := (∀ a, S a → S' a) ∧ ∀ a, S' a → S a ∨ H a = none
theorem SExt.refl {S : Addr → Prop} {H : Hp} : SExt S S H := ⟨fun _ h => h, fun _ h => .inl h⟩
theorem SExt.back {S S' : Addr → Prop} {H H1 : Hp} (h : SExt S S' H1) (a : Adv S H H1) : SExt S S' H := ⟨h.1, fun x s => (h.2 x s).imp_right a.none⟩
theorem Adv.shrink {S S' : Addr → Prop} {H H1 H2 : Hp} (a : Adv S H H1) (b : Adv S' H1 H2) (h : SExt S S' H) : Adv S H H2 := fun x o e => by
  have hs : S' x → S x := fun z => (h.2 x z).resolve_right fun z => by rw [e] at z; cases z
  have b2 : Adv (fun y => S y ∨ S' y) H1 H2 := b.mono fun y z => .inr z
  have a2 : Adv (fun y => S y ∨ S' y) H H1 := a.mono fun y z => .inl z
  rcases (a2.trans b2) x o e with z | ⟨s | s, c⟩
  · exact .inl z
  · exact .inr ⟨s, c⟩
  · exact .inr ⟨hs s, c⟩
theorem SrcV.mono {S S' : Addr → Prop} {H : Hp} {n : Nat} {v : V} (h : SrcV S H n v) (hs : ∀ a, S a → S' a) : SrcV S' H n v := by
  obtain ⟨p, ns, e, s, r⟩ := h
  exact ⟨p, ns, e, hs p s, r⟩
theorem ArgsR.mono {K : PySem.W.Frag} {S S' : Addr → Prop} {H : Hp} (hs : ∀ a, S a → S' a) : ∀ {ks : List PK} {vs : List V} {ds : List D}, ArgsR K S H ks vs ds → ArgsR K S' H ks vs ds
  | [], [], [], _ => trivial
  | [], [], _ :: _, h => h.elim
  | [], _ :: _, _, h => h.elim
  | .d :: ks, v :: vs, d :: ds, h => ⟨h.1, ArgsR.mono hs h.2⟩
  | .d :: ks, [], _, h => h.elim
  | .d :: ks, _ :: _, [], h => h.elim
  | .src n :: ks, v :: vs, ds, h => ⟨h.1.mono hs, ArgsR.mono hs h.2⟩
  | .src n :: ks, [], _, h => h.elim
abbrev SimA.T (c : Site) (γ : Ctx) (es : List Expr) (ks : List PK) (m : M (List D)) : Prop := ∀ (σ : St) (H : Hp), FR c γ σ H → ∀ (QD : List D → Prop) (QE : Ex → Prop), m QD QE → Xok c σ H QE →
  ∀ Q : List V → Hp → Prop, (∀ ds vs H' S', QD ds → Adv c.S H H' → SExt c.S S' H → (∀ a, S' a → H' a ≠ none) → ArgsR c.X.K S' H' ks vs ds → Q vs H') → AV c.X es σ H Q
structure SimA (c : Site) (γ : Ctx) (es : List Expr) (ks : List PK) (m : M (List D)) : Prop where
  run : SimA.T c γ es ks m
instance {c : Site} {γ : Ctx} {es : List Expr} {ks : List PK} {m : M (List D)} : CoeFun (SimA c γ es ks m) (fun _ => SimA.T c γ es ks m) := ⟨SimA.run⟩

theorem ArgsR.adv {K : PySem.W.Frag} {S : Addr → Prop} {H H' : Hp} (a : Adv S H H') : ∀ {ks : List PK} {vs : List V} {ds : List D}, ArgsR K S H ks vs ds → ArgsR K S H' ks vs ds
  | [], [], [], _ => trivial
  | [], [], _ :: _, h => h.elim
  | [], _ :: _, _, h => h.elim
  | .d :: ks, v :: vs, d :: ds, h => ⟨Rp.le a.le h.1, ArgsR.adv a h.2⟩
  | .d :: ks, [], _, h => h.elim
  | .d :: ks, _ :: _, [], h => h.elim
  | .src n :: ks, v :: vs, ds, h => ⟨h.1.adv a, ArgsR.adv a h.2⟩
  | .src n :: ks, [], _, h => h.elim
def allD : Nat → List PK
  | 0 => []
  | n + 1 => .d :: allD n
theorem ArgsR.len {K : PySem.W.Frag} {S : Addr → Prop} {H : Hp} : ∀ {ks : List PK} {vs : List V} {ds : List D}, ArgsR K S H ks vs ds → vs.length = ks.length
  | [], [], _, _ => rfl
  | [], _ :: _, _, h => h.elim
  | .d :: ks, v :: vs, d :: ds, h => by simp [ArgsR.len h.2]
  | .d :: ks, [], _, h => h.elim
  | .d :: ks, _ :: _, [], h => h.elim
  | .src n :: ks, v :: vs, ds, h => by simp [ArgsR.len h.2]
  | .src n :: ks, [], _, h => h.elim
theorem ArgsR.all {K : PySem.W.Frag} {S : Addr → Prop} {H : Hp} : ∀ {n : Nat} {vs : List V} {ds : List D}, ArgsR K S H (allD n) vs ds → RpL K H vs ds
  | 0, [], [], _ => .nil
  | 0, [], _ :: _, h => h.elim
  | 0, _ :: _, _, h => h.elim
  | n + 1, v :: vs, d :: ds, h => .cons h.1 (ArgsR.all (n := n) h.2)
  | n + 1, [], _, h => h.elim
  | n + 1, _ :: _, [], h => h.elim

section
variable {c : Site} {γ : Ctx} {e a b : Expr} {m ma mb : M D} {pos : Pos}

theorem RK.adv {H H' : Hp} {v : V} {d : D} (h : RK c H v d) (q : Adv c.S H H') : RK c H' v d := by
  rcases h with h | ⟨a, vs, ds, e, f, h, r, n⟩
  · exact .inl (h.le q.le)
  · exact .inr ⟨a, vs, ds, e, f, q.keep h n, RpL.le q.le r, n⟩
theorem RK.dp {H : Hp} {v : V} {d : D} (h : RK c H v d) : Dp c.X.K H v d := by
  rcases h with h | ⟨a, vs, ds, rfl, rfl, h, r, n⟩
  · exact h.dp
  · exact .lst (SqL.of h) r.dp
theorem RK.lay {H : Hp} {v : V} {d : D} (h : RK c H v d) : d.canLay0 = true := by
  rcases h with h | ⟨a, vs, ds, rfl, rfl, h, r, n⟩
  · exact h.lay
  · simpa [PyData.canLay0] using r.lay
theorem SimE.k (h : SimE c γ e m) : SimK c γ e m := .mk fun σ H F QD QE hm hx Q k => h σ H F QD QE hm hx Q fun d v H' q a r => k d v H' q a (.inl r)
theorem SimL.k {m : M (List D)} (h : SimL c γ e m) : SimK c γ e (M.bind m fun ds => M.pure (.list ds)) := .mk fun σ H F QD QE hm hx Q k =>
  h σ H F _ QE hm hx Q fun ds a vs H' q ad h0 h1 r n => k _ _ H' q ad (.inr ⟨a, vs, ds, rfl, rfl, h1, r, n⟩)
/-- a new list as data: frozen -/
theorem SimL.fz {m : M (List D)} (h : SimL c γ e m) : SimE c γ e (M.bind m fun ds => M.pure (.list ds)) := .mk fun σ H F QD QE hm hx Q k =>
  (h σ H F _ QE hm hx (fun v H' => ∃ ds a vs, v = .ref a ∧ QD (.list ds) ∧ Adv c.S H H' ∧ H a = none ∧ H' a = some (.lst vs) ∧ RpL c.X.K H' vs ds)
    fun ds a vs H' q ad h0 h1 r n => ⟨ds, a, vs, rfl, q, ad, h0, h1, r⟩).freeze fun v H' ⟨ds, a, vs, e1, q, ad, h0, h1, r⟩ => ⟨a, vs, h1, fun o => by
      subst e1
      exact k _ _ _ q (ad.put h0 h1 lst_ne) (.lst (.inl ⟨o, upd_same⟩) (r.le (Le.mut h1 trivial)))⟩

theorem FR.get {i : Nat} {x : B} {σ : St} {H : Hp} (F : FR c γ σ H) (h : γ[i]? = some (some x)) : ∃ v, σ[i]? = some (some v) ∧ RB c H v x := F.val i x h

/-! ### names, constants -/
theorem E_var (i : Nat) {x : Str} {d : D} (hγ : γ[i]? = some (some (.d d)) := by rfl) (hN : c.X.N[i]? = some x := by rfl) (hv : Vis c.X.env.scope x := by first | exact Or.inl rfl | exact Or.inr (Or.inl rfl) | exact Or.inr (Or.inr rfl))
    (hd : (x == ("__debug__" : Str)) = false := by decide) (hcd : (x == ("__classdict__" : Str)) = false := by decide) : SimE c γ (.Name x pos) (M.pure d) := .mk fun σ H F QD QE hm hx Q k => by
  obtain ⟨v, e, r⟩ := F.val i _ hγ
  exact ev (pe_var hN hv hd hcd) ⟨v, e, k d v H hm (.refl _ _) r⟩
theorem K_var (i : Nat) {x : Str} {ds : List D} (hγ : γ[i]? = some (some (.ml ds)) := by rfl) (hN : c.X.N[i]? = some x := by rfl) (hv : Vis c.X.env.scope x := by first | exact Or.inl rfl | exact Or.inr (Or.inl rfl) | exact Or.inr (Or.inr rfl))
    (hd : (x == ("__debug__" : Str)) = false := by decide) (hcd : (x == ("__classdict__" : Str)) = false := by decide) : SimK c γ (.Name x pos) (M.pure (.list ds)) := .mk fun σ H F QD QE hm hx Q k => by
  obtain ⟨v, e, a, vs, e1, h, r, n⟩ := F.val i _ hγ
  exact ev (pe_var hN hv hd hcd) ⟨v, e, k _ v H hm (.refl _ _) (.inr ⟨a, vs, ds, e1, rfl, h, r, n⟩)⟩
theorem E_int {i : Int} {j} : SimE c γ (.Constant (.int i) j pos) (M.pure (.int i)) := .mk fun σ H F QD QE hm hx Q k => ev pe_int (k _ _ H hm (.refl _ _) (.int i))
theorem E_str {x : Str} {j} (h : PyData.strOk x = true := by decide +kernel) : SimE c γ (.Constant (.str x) j pos) (M.pure (.str x)) := .mk fun σ H F QD QE hm hx Q k => ev pe_str (k _ _ H hm (.refl _ _) (.str x h))
theorem E_bl {x : Bool} {j} : SimE c γ (.Constant (.bool x) j pos) (M.pure (.bool x)) := .mk fun σ H F QD QE hm hx Q k => ev pe_bl (k _ _ H hm (.refl _ _) (.bl x))
theorem E_non {j} : SimE c γ (.Constant .none j pos) (M.pure .none) := .mk fun σ H F QD QE hm hx Q k => ev pe_non (k _ _ H hm (.refl _ _) .non)
/-- a constant of the module -/
def GConst (K : PySem.W.Frag) (mg : Str → Option Value) (x : Str) (d : D) : Prop := ∃ u v, mg x = some u ∧ RelV v u ∧ ∀ H, Rp K H v d
theorem E_glob {x : Str} {d : D} (g : GConst c.X.K c.X.mg x d) (hg : Gl c.X x := by rfl) (hd : (x == ("__debug__" : Str)) = false := by decide) : SimE c γ (.Name x pos) (M.pure d) := .mk fun σ H F QD QE hm hx Q k => by
  obtain ⟨u, v, h1, h2, h3⟩ := g
  exact ev (pe_glob hg h1 h2 hd) (k _ _ H hm (.refl _ _) (h3 H))

/-! ### operators -/
/-- an operator over data -/
structure BinD (c : Site) (f : Value → Value → Sem Value) (opm : D → D → M D) : Prop where
  ex : ∃ r : R2, OpR c.X f r ∧ ∀ (H : Hp) (x y : V) (d e : D) (QD : D → Prop) (QE : Ex → Prop) (Q : VK), Rp c.X.K H x d → Rp c.X.K H y e → opm d e QD QE → (∀ z v H', QD z → Adv c.S H H' → Rp c.X.K H' v z → Q v H') → r x y H Q
theorem E_bin {op : Operator} {opm : D → D → M D} (ho : BinD c (binaryOp op) opm) (ha : SimE c γ a ma) (hb : SimE c γ b mb) : SimE c γ (.BinOp a op b pos) (M.bind ma fun x => M.bind mb fun y => opm x y) := .mk fun σ H F QD QE hm hx Q k => by
  obtain ⟨r, hr, sem⟩ := ho.ex
  refine ev (pe_op hr EV.pe EV.pe) (ha σ H F _ QE hm hx _ fun d v H1 q1 a1 r1 => ?_)
  refine hb σ H1 (F.adv a1) _ QE q1 (hx.adv a1) _ fun d2 v2 H2 q2 a2 r2 => ?_
  exact sem H2 v v2 d d2 QD QE Q (r1.le a2.le) r2 q2 fun z v' H' qz az rz => k z v' H' qz ((a1.trans a2).trans az) rz
theorem strOk_append {x y : Str} (h1 : PyData.strOk x = true) (h2 : PyData.strOk y = true) : PyData.strOk (x ++ y) = true := by
  unfold PyData.strOk at *
  show (x.cps ++ y.cps).all _ = true
  rw [Array.all_append, h1, h2]
  rfl
theorem b_sub : BinD c (binaryOp .Sub) opSub := ⟨_, op_sub, fun H x y d e QD QE Q r1 r2 hm k => by
  cases r1 <;> cases r2 <;> first | exact hm.elim | skip
  exact ⟨_, _, rfl, rfl, k _ _ H hm (.refl _ _) (.int _)⟩⟩
theorem b_mul : BinD c (binaryOp .Mult) opMul := ⟨_, op_mul, fun H x y d e QD QE Q r1 r2 hm k => by
  cases r1 <;> cases r2 <;> first | exact hm.elim | skip
  exact ⟨_, _, rfl, rfl, hm.1, k _ _ H hm.2 (.refl _ _) (.int _)⟩⟩
theorem b_fdiv : BinD c (binaryOp .FloorDiv) opFdiv := ⟨_, op_fdivN, fun H x y d e QD QE Q r1 r2 hm k => by
  cases r1 <;> cases r2 <;> first | exact hm.elim | skip
  exact ⟨_, _, rfl, rfl, hm.1, k _ _ H hm.2 (.refl _ _) (.int _)⟩⟩
theorem b_mod : BinD c (binaryOp .Mod) opMod := ⟨_, op_modN, fun H x y d e QD QE Q r1 r2 hm k => by
  cases r1 <;> cases r2 <;> first | exact hm.elim | skip
  exact ⟨_, _, rfl, rfl, hm.1, k _ _ H hm.2 (.refl _ _) (.int _)⟩⟩
theorem b_pow : BinD c (binaryOp .Pow) opPow := ⟨_, op_pow, fun H x y d e QD QE Q r1 r2 hm k => by
  cases r1 <;> cases r2 <;> first | exact hm.elim | skip
  exact ⟨_, _, rfl, rfl, hm.1, k _ _ H hm.2 (.refl _ _) (.int _)⟩⟩
theorem b_add : BinD c (binaryOp .Add) opAdd := ⟨_, (op_add.or op_add_str).or op_catA, fun H x y d e QD QE Q r1 r2 hm k => by
  cases r1 <;> cases r2 <;> first | exact hm.elim | skip
  · exact .inl (.inl ⟨_, _, rfl, rfl, k _ _ H hm (.refl _ _) (.int _)⟩)
  · rename_i x hx y hy
    exact .inl (.inr ⟨_, _, rfl, rfl, hm.1, k _ _ H hm.2 (.refl _ _) (.str _ (strOk_append hx hy))⟩)
  · rename_i p xs ds hp rp q ys es hq rq
    refine .inr ⟨p, q, xs, ys, rfl, rfl, hp, hq, ?_, fun e => ?_, fun h1 e => ?_, fun h1 h2 z hz => ?_⟩
    · rw [rp.length, rq.length]; exact hm.1
    · subst e
      cases rp
      exact k _ _ H hm.2 (.refl _ _) (.tup hq rq)
    · subst e
      cases rq
      have q2 := hm.2
      rw [List.append_nil] at q2
      exact k _ _ H q2 (.refl _ _) (.tup hp rp)
    · exact k _ _ _ hm.2 (.new hz) (.tup (SqT.of upd_same) ((rp.append rq).le (Le.new hz)))⟩
theorem E_neg (ha : SimE c γ a ma) : SimE c γ (.UnaryOp .USub a pos) (M.bind ma opNeg) := .mk fun σ H F QD QE hm hx Q k => by
  refine ev (pe_un un_neg EV.pe) (ha σ H F _ QE hm hx _ fun d v H1 q1 a1 r1 => ?_)
  cases r1 <;> first | exact q1.elim | skip
  exact ⟨_, rfl, k _ _ H1 q1 a1 (.int _)⟩

/-! ### comparisons -/
structure CmpD (c : Site) (op : CmpOp) (opm : D → D → M Bool) : Prop where
  ex : ∃ r : R2, OpR c.X (compareOp op) r ∧ ∀ (H : Hp) (x y : V) (d e : D) (QD : Bool → Prop) (QE : Ex → Prop) (Q : VK), RK c H x d → RK c H y e → opm d e QD QE → (∀ b, QD b → Q (.bl b) H) → r x y H Q
theorem E_cmp {op : CmpOp} {opm : D → D → M Bool} (ho : CmpD c op opm) (ha : SimK c γ a ma) (hb : SimK c γ b mb) (hm : behindInMarks op b = false := by first | exact nomark _ | rfl) :
    SimE c γ (.Compare a [op] [b] pos) (M.bind ma fun x => M.bind mb fun y => M.bind (opm x y) fun z => M.pure (.bool z)) := .mk fun σ H F QD QE q hx Q k => by
  obtain ⟨r, hr, sem⟩ := ho.ex
  refine ev (pe_cmpR hr EV.pe EV.pe hm) (ha σ H F _ QE q hx _ fun d v H1 q1 a1 r1 => ?_)
  refine hb σ H1 (F.adv a1) _ QE q1 (hx.adv a1) _ fun d2 v2 H2 q2 a2 r2 => ?_
  exact sem H2 v v2 d d2 _ QE Q (r1.adv a2) r2 q2 fun z qz => k _ _ H2 qz (a1.trans a2) (.bl z)
theorem T_cmp {op : CmpOp} {opm : D → D → M Bool} (ho : CmpD c op opm) (ha : SimK c γ a ma) (hb : SimK c γ b mb) (hm : behindInMarks op b = false := by first | exact nomark _ | rfl) :
    SimT c γ (.Compare a [op] [b] pos) (M.bind ma fun x => M.bind mb fun y => opm x y) := .mk fun σ H F QD QE q hx Q k => by
  obtain ⟨r, hr, sem⟩ := ho.ex
  refine tv (pt_cmpR hr EV.pe EV.pe hm) (ha σ H F _ QE q hx _ fun d v H1 q1 a1 r1 => ?_)
  refine hb σ H1 (F.adv a1) _ QE q1 (hx.adv a1) _ fun d2 v2 H2 q2 a2 r2 => ?_
  exact sem H2 v v2 d d2 _ QE _ (r1.adv a2) r2 q2 fun z qz => ⟨z, rfl, k _ H2 qz (a1.trans a2)⟩
theorem E_chain {op op' : CmpOp} {opm opm' : D → D → M Bool} {e₃ : Expr} {m₃ : M D} (ho : CmpD c op opm) (ho' : CmpD c op' opm') (ha : SimK c γ a ma) (hb : SimK c γ b mb) (h3 : SimK c γ e₃ m₃) (hm : lastMarks [op, op'] [b, e₃] = false := by with_unfolding_all rfl) :
    SimE c γ (.Compare a [op, op'] [b, e₃] pos) (M.bind ma fun x => M.bind mb fun y => M.bind (opm x y) fun z => M.ite z (M.bind m₃ fun w => M.bind (opm' y w) fun t => M.pure (.bool t)) (M.pure (.bool false))) := .mk fun σ H F QD QE q hx Q k => by
  obtain ⟨r, hr, sem⟩ := ho.ex
  obtain ⟨r', hr', sem'⟩ := ho'.ex
  refine ev (pe_chain hr hr' EV.pe EV.pe EV.pe hm) (ha σ H F _ QE q hx _ fun d v H1 q1 a1 r1 => ?_)
  refine hb σ H1 (F.adv a1) _ QE q1 (hx.adv a1) _ fun d2 v2 H2 q2 a2 r2 => ?_
  refine sem H2 v v2 d d2 _ QE _ (r1.adv a2) r2 q2 fun z qz => ⟨z, rfl, ?_⟩
  cases z with
  | false => exact iteF (k _ _ H2 qz (a1.trans a2) (.bl false))
  | true =>
    refine iteT (h3 σ H2 (F.adv (a1.trans a2)) _ QE qz (hx.adv (a1.trans a2)) _ fun d3 v3 H3 q3 a3 r3 => ?_)
    exact sem' H3 v2 v3 d2 d3 _ QE Q (r2.adv a3) r3 q3 fun t qt => k _ _ H3 qt ((a1.trans a2).trans a3) (.bl t)
theorem T_chain {op op' : CmpOp} {opm opm' : D → D → M Bool} {e₃ : Expr} {m₃ : M D} (ho : CmpD c op opm) (ho' : CmpD c op' opm') (ha : SimK c γ a ma) (hb : SimK c γ b mb) (h3 : SimK c γ e₃ m₃) (hm : lastMarks [op, op'] [b, e₃] = false := by with_unfolding_all rfl) :
    SimT c γ (.Compare a [op, op'] [b, e₃] pos) (M.bind ma fun x => M.bind mb fun y => M.bind (opm x y) fun z => M.ite z (M.bind m₃ fun w => opm' y w) (M.pure false)) := .mk fun σ H F QD QE q hx Q k => by
  obtain ⟨r, hr, sem⟩ := ho.ex
  obtain ⟨r', hr', sem'⟩ := ho'.ex
  refine tv (pt_chain hr hr' EV.pe EV.pe EV.pe hm) (ha σ H F _ QE q hx _ fun d v H1 q1 a1 r1 => ?_)
  refine hb σ H1 (F.adv a1) _ QE q1 (hx.adv a1) _ fun d2 v2 H2 q2 a2 r2 => ?_
  refine sem H2 v v2 d d2 _ QE _ (r1.adv a2) r2 q2 fun z qz => ⟨z, rfl, ?_⟩
  cases z with
  | false => exact iteF ⟨_, rfl, k _ H2 qz (a1.trans a2)⟩
  | true =>
    refine iteT (h3 σ H2 (F.adv (a1.trans a2)) _ QE qz (hx.adv (a1.trans a2)) _ fun d3 v3 H3 q3 a3 r3 => ?_)
    exact sem' H3 v2 v3 d2 d3 _ QE _ (r2.adv a3) r3 q3 fun t qt => ⟨t, rfl, k _ H3 qt ((a1.trans a2).trans a3)⟩

/-- == over data -/
def rEqDD (K : PySem.W.Frag) : R2 := fun x y H Q => ∃ d e, Dp K H x d ∧ Dp K H y e ∧ d.canLay0 = true ∧ e.canLay0 = true ∧ min d.depth e.depth ≤ 150 ∧ Q (.bl (PyData.eqv d e)) H
def rNeDD (K : PySem.W.Frag) : R2 := fun x y H Q => ∃ d e, Dp K H x d ∧ Dp K H y e ∧ d.canLay0 = true ∧ e.canLay0 = true ∧ min d.depth e.depth ≤ 150 ∧ Q (.bl (!PyData.eqv d e)) H
theorem op_eqDD {X : Cx} (hu : X.A.units + 150 < cLine) : OpR X (compareOp .Eq) (rEqDD X.K) := by
  intro pins s σ H x y v u Q I rx ry h
  obtain ⟨d, e, hd, he, sd, se, hz, q⟩ := h
  obtain ⟨as, r1⟩ := Dp.reads I d x v hd rx
  obtain ⟨bs, r2⟩ := Dp.reads I e y u he ry
  exact SeqAt.compareEq_reads r1 r2 sd se (by omega) ⟨.bl _, H, I, rfl, q⟩
theorem op_neDD {X : Cx} (hu : X.A.units + 150 < cLine) : OpR X (compareOp .NotEq) (rNeDD X.K) := by
  intro pins s σ H x y v u Q I rx ry h
  obtain ⟨d, e, hd, he, sd, se, hz, q⟩ := h
  obtain ⟨as, r1⟩ := Dp.reads I d x v hd rx
  obtain ⟨bs, r2⟩ := Dp.reads I e y u he ry
  exact SeqAt.compareNe_reads r1 r2 sd se (by omega) ⟨.bl _, H, I, rfl, q⟩
theorem units150 {k : Nat} {A : Around} (r : Room k A) : A.units + 150 < cLine := by have := r.un; omega
theorem c_eq {k : Nat} (hr : Room k c.X.A) : CmpD c .Eq opEq := ⟨_, op_eqDD (units150 hr), fun H x y d e QD QE Q r1 r2 hm k => ⟨d, e, r1.dp, r2.dp, r1.lay, r2.lay, hm.1, k _ hm.2⟩⟩
def opNe (a b : D) : M Bool := M.bind (opEq a b) fun t => M.pure (!t)
theorem c_ne {k : Nat} (hr : Room k c.X.A) : CmpD c .NotEq opNe := ⟨_, op_neDD (units150 hr), fun H x y d e QD QE Q r1 r2 hm k => ⟨d, e, r1.dp, r2.dp, r1.lay, r2.lay, hm.1, k _ hm.2⟩⟩
def opLt : D → D → M Bool
  | .int i, .int j => M.pure (decide (i < j))
  | _, _ => M.fail
def opLe : D → D → M Bool
  | .int i, .int j => M.pure (decide (i ≤ j))
  | _, _ => M.fail
def opGt : D → D → M Bool
  | .int i, .int j => M.pure (decide (j < i))
  | _, _ => M.fail
def opGe : D → D → M Bool
  | .int i, .int j => M.pure (decide (j ≤ i))
  | _, _ => M.fail
theorem RK.int {H : Hp} {v : V} {i : Int} (h : RK c H v (.int i)) : v = .int i := by
  rcases h with h | ⟨_, _, _, _, e, _⟩
  · cases h; rfl
  · cases e
theorem ints2 {opm : D → D → M Bool} {H : Hp} {x y : V} {d e : D} {QD : Bool → Prop} {QE : Ex → Prop} (r1 : RK c H x d) (r2 : RK c H y e) (hm : opm d e QD QE)
    (hf : ∀ d e, (¬ ∃ i j, d = .int i ∧ e = .int j) → opm d e = M.fail) : ∃ i j, d = .int i ∧ e = .int j ∧ x = .int i ∧ y = .int j := by
  by_cases h : ∃ i j, d = .int i ∧ e = .int j
  · obtain ⟨i, j, rfl, rfl⟩ := h
    exact ⟨i, j, rfl, rfl, r1.int, r2.int⟩
  · rw [hf d e h] at hm
    exact hm.elim
theorem notints {opm : D → D → M Bool} (h : ∀ d e, opm d e = M.fail ∨ ∃ i j, d = .int i ∧ e = .int j) : ∀ d e, (¬ ∃ i j, d = .int i ∧ e = .int j) → opm d e = M.fail := fun d e n => (h d e).resolve_right n
theorem c_lt : CmpD c .Lt opLt := ⟨_, op_lt, fun H x y d e QD QE Q r1 r2 hm k => by
  obtain ⟨i, j, rfl, rfl, rfl, rfl⟩ := ints2 r1 r2 hm (notints fun d e => by cases d <;> cases e <;> first | exact .inl rfl | exact .inr ⟨_, _, rfl, rfl⟩)
  exact ⟨i, j, rfl, rfl, k _ hm⟩⟩
theorem c_le : CmpD c .LtE opLe := ⟨_, op_le, fun H x y d e QD QE Q r1 r2 hm k => by
  obtain ⟨i, j, rfl, rfl, rfl, rfl⟩ := ints2 r1 r2 hm (notints fun d e => by cases d <;> cases e <;> first | exact .inl rfl | exact .inr ⟨_, _, rfl, rfl⟩)
  exact ⟨i, j, rfl, rfl, k _ hm⟩⟩
theorem c_gt : CmpD c .Gt opGt := ⟨_, op_gt, fun H x y d e QD QE Q r1 r2 hm k => by
  obtain ⟨i, j, rfl, rfl, rfl, rfl⟩ := ints2 r1 r2 hm (notints fun d e => by cases d <;> cases e <;> first | exact .inl rfl | exact .inr ⟨_, _, rfl, rfl⟩)
  exact ⟨i, j, rfl, rfl, k _ hm⟩⟩
theorem c_ge : CmpD c .GtE opGe := ⟨_, op_ge, fun H x y d e QD QE Q r1 r2 hm k => by
  obtain ⟨i, j, rfl, rfl, rfl, rfl⟩ := ints2 r1 r2 hm (notints fun d e => by cases d <;> cases e <;> first | exact .inl rfl | exact .inr ⟨_, _, rfl, rfl⟩)
  exact ⟨i, j, rfl, rfl, k _ hm⟩⟩
/-- in -/
def rInDD (K : PySem.W.Frag) : R2 := fun x y H Q => ∃ d ds, Dp K H x d ∧ (Dp K H y (.list ds) ∨ Dp K H y (.tuple ds)) ∧ d.canLay0 = true ∧ PyData.canLayAll0 ds = true ∧ d.depth ≤ 150 ∧ Q (.bl (anyEq ds d)) H
def rNotInDD (K : PySem.W.Frag) : R2 := fun x y H Q => ∃ d ds, Dp K H x d ∧ (Dp K H y (.list ds) ∨ Dp K H y (.tuple ds)) ∧ d.canLay0 = true ∧ PyData.canLayAll0 ds = true ∧ d.depth ≤ 150 ∧ Q (.bl (!anyEq ds d)) H
theorem op_inDD {X : Cx} (hu : X.A.units + 1 + 150 < cLine) : OpR X (compareOp .In) (rInDD X.K) := by
  intro pins s σ H x y v u Q I rx ry h
  obtain ⟨d, ds, hd, he, sd, se, hz, q⟩ := h
  obtain ⟨as, r1⟩ := Dp.reads I d x v hd rx
  rcases he with he | he
  · obtain ⟨bs, r2⟩ := Dp.reads I (.list ds) y u he ry
    exact SeqAt.in_list_reads r2 r1 se sd (by omega) ⟨.bl _, H, I, rfl, q⟩
  · obtain ⟨bs, r2⟩ := Dp.reads I (.tuple ds) y u he ry
    exact SeqAt.in_tuple_reads r2 r1 se sd (by omega) ⟨.bl _, H, I, rfl, q⟩
theorem op_notInDD {X : Cx} (hu : X.A.units + 1 + 150 < cLine) : OpR X (compareOp .NotIn) (rNotInDD X.K) := by
  intro pins s σ H x y v u Q I rx ry h
  obtain ⟨d, ds, hd, he, sd, se, hz, q⟩ := h
  obtain ⟨as, r1⟩ := Dp.reads I d x v hd rx
  rcases he with he | he
  · obtain ⟨bs, r2⟩ := Dp.reads I (.list ds) y u he ry
    exact SeqAt.notIn_list_reads r2 r1 se sd (by omega) ⟨.bl _, H, I, rfl, q⟩
  · obtain ⟨bs, r2⟩ := Dp.reads I (.tuple ds) y u he ry
    exact SeqAt.notIn_tuple_reads r2 r1 se sd (by omega) ⟨.bl _, H, I, rfl, q⟩
theorem units151 {k : Nat} {A : Around} (r : Room k A) : A.units + 1 + 150 < cLine := by have := r.un; omega
/-- a text in a text -/
def inStr (i j : Str) : Bool := !(Builtin.Str.occurrences j i 0 j.length 1).isEmpty
def opInA (x y : D) : M Bool := match y with
  | .str j => match x with
    | .str i => M.pure (inStr i j)
    | _ => M.fail
  | _ => opIn x y
theorem RK.str {H : Hp} {v : V} {x : Str} (h : RK c H v (.str x)) : v = .str x := by
  rcases h with h | ⟨_, _, _, _, e, _⟩
  · cases h; rfl
  · cases e
theorem c_in {k : Nat} (hr : Room k c.X.A) : CmpD c .In opInA := ⟨_, op_in_str.or (op_inDD (units151 hr)), fun H x y d e QD QE Q r1 r2 hm k => by
  cases e with
  | str j =>
    cases d with
    | str i => exact .inl ⟨i, j, r1.str, r2.str, k _ hm⟩
    | _ => exact hm.elim
  | list ys => exact .inr ⟨d, ys, r1.dp, .inl r2.dp, r1.lay, by simpa [PyData.canLay0] using r2.lay, hm.1, k _ hm.2⟩
  | tuple ys => exact .inr ⟨d, ys, r1.dp, .inr r2.dp, r1.lay, by simpa [PyData.canLay0] using r2.lay, hm.1, k _ hm.2⟩
  | _ => exact hm.elim⟩
def opNotInA (x y : D) : M Bool := M.bind (opInA x y) fun t => M.pure (!t)
theorem c_notIn {k : Nat} (hr : Room k c.X.A) : CmpD c .NotIn opNotInA := ⟨_, op_notIn_str.or (op_notInDD (units151 hr)), fun H x y d e QD QE Q r1 r2 hm k => by
  cases e with
  | str j =>
    cases d with
    | str i => exact .inl ⟨i, j, r1.str, r2.str, k _ hm⟩
    | _ => exact hm.elim
  | list ys => exact .inr ⟨d, ys, r1.dp, .inl r2.dp, r1.lay, by simpa [PyData.canLay0] using r2.lay, hm.1, k _ hm.2⟩
  | tuple ys => exact .inr ⟨d, ys, r1.dp, .inr r2.dp, r1.lay, by simpa [PyData.canLay0] using r2.lay, hm.1, k _ hm.2⟩
  | _ => exact hm.elim⟩
/-- is None, is True -/
def opIs (x y : D) : M Bool := match y with
  | .none => M.pure (opIsNone x)
  | .bool t => match x with
    | .bool b => M.pure (decide (b = t))
    | _ => M.fail
  | _ => M.fail
theorem RK.isNon {H : Hp} {v : V} {d : D} (h : RK c H v d) : decide (v = .non) = opIsNone d := by
  rcases h with h | ⟨_, _, _, e1, e2, _⟩
  · cases h <;> simp [opIsNone]
  · subst e1 e2; simp [opIsNone]
theorem RK.non {H : Hp} {v : V} (h : RK c H v .none) : v = .non := by
  rcases h with h | ⟨_, _, _, _, e, _⟩
  · cases h; rfl
  · cases e
theorem RK.bl {H : Hp} {v : V} {b : Bool} (h : RK c H v (.bool b)) : v = .bl b := by
  rcases h with h | ⟨_, _, _, _, e, _⟩
  · cases h; rfl
  · cases e
theorem c_is : CmpD c .Is opIs := ⟨_, op_isN.or op_isBl, fun H x y d e QD QE Q r1 r2 hm k => by
  cases e with
  | none => exact .inl ⟨r2.non, by rw [r1.isNon]; exact k _ hm⟩
  | bool t =>
    cases d with
    | bool b => exact .inr ⟨b, t, r1.bl, r2.bl, k _ hm⟩
    | _ => exact hm.elim
  | _ => exact hm.elim⟩
def opIsNot (x y : D) : M Bool := M.bind (opIs x y) fun t => M.pure (!t)
theorem c_isNot : CmpD c .IsNot opIsNot := ⟨_, op_notN.or op_notBl, fun H x y d e QD QE Q r1 r2 hm k => by
  cases e with
  | none => exact .inl ⟨r2.non, by rw [r1.isNon]; exact k _ hm⟩
  | bool t =>
    cases d with
    | bool b => exact .inr ⟨b, t, r1.bl, r2.bl, k _ hm⟩
    | _ => exact hm.elim
  | _ => exact hm.elim⟩

/-! ### and, or, not, if .. else -/
theorem T_val (h : SimE c γ e m) (he : ∀ whole, isTrue e c.X.env whole = (do let v ← whole; standAt e.pos; holding [v] (truthy v)) := by intro _; rfl) : SimT c γ e (M.bind m tru) := .mk fun σ H F QD QE hm hx Q k => by
  refine tv (pt_val EV.pe he) (h σ H F _ QE hm hx _ fun d v H1 q1 a1 r1 => ?_)
  cases r1 <;> first | exact q1.elim | skip
  exact ⟨_, rfl, k _ H1 q1 a1⟩
theorem T_not {m : M Bool} (h : SimT c γ a m) : SimT c γ (.UnaryOp .Not a pos) (M.bind m fun b => M.pure (!b)) := .mk fun σ H F QD QE hm hx Q k =>
  tv (pt_not TV.pt) (h σ H F _ QE hm hx _ fun b H1 q1 a1 => k _ H1 q1 a1)
theorem SimW.t {m : M Bool} (h : SimW c γ e m) : SimT c γ e m := .mk fun σ H F QD QE hm hx Q k => (h σ H F QD QE hm hx Q k).tv
theorem W_and1 {m : M Bool} (h : SimT c γ a m) : SimW c γ (.BoolOp .And [a] pos) m := .mk fun σ H F QD QE hm hx Q k => wv (pw_and1 TV.pt) (h σ H F QD QE hm hx Q k)
theorem W_or1 {m : M Bool} (h : SimT c γ a m) : SimW c γ (.BoolOp .Or [a] pos) m := .mk fun σ H F QD QE hm hx Q k => wv (pw_or1 TV.pt) (h σ H F QD QE hm hx Q k)
theorem W_and {rest : List Expr} {m m' : M Bool} (h : SimT c γ a m) (h' : SimW c γ (.BoolOp .And (b :: rest) pos) m') : SimW c γ (.BoolOp .And (a :: b :: rest) pos) (M.bind m fun t => M.ite t m' (M.pure false)) := .mk fun σ H F QD QE hm hx Q k =>
  wv (pw_and TV.pt WV.pw) (h σ H F _ QE hm hx _ fun t H1 q1 a1 => by
    cases t with
    | false => exact iteF (k _ H1 q1 a1)
    | true => exact iteT (h' σ H1 (F.adv a1) _ QE q1 (hx.adv a1) _ fun b H2 q2 a2 => k b H2 q2 (a1.trans a2)))
theorem W_or {rest : List Expr} {m m' : M Bool} (h : SimT c γ a m) (h' : SimW c γ (.BoolOp .Or (b :: rest) pos) m') : SimW c γ (.BoolOp .Or (a :: b :: rest) pos) (M.bind m fun t => M.ite t (M.pure true) m') := .mk fun σ H F QD QE hm hx Q k =>
  wv (pw_or TV.pt WV.pw) (h σ H F _ QE hm hx _ fun t H1 q1 a1 => by
    cases t with
    | true => exact iteT (k _ H1 q1 a1)
    | false => exact iteF (h' σ H1 (F.adv a1) _ QE q1 (hx.adv a1) _ fun b H2 q2 a2 => k b H2 q2 (a1.trans a2)))
theorem E_one {op} (h : SimE c γ a m) : SimE c γ (.BoolOp op [a] pos) m := .mk fun σ H F QD QE hm hx Q k => ev (pe_one EV.pe) (h σ H F QD QE hm hx Q k)
theorem E_and {rest : List Expr} (h : SimE c γ a ma) (h' : SimE c γ (.BoolOp .And (b :: rest) pos) mb) : SimE c γ (.BoolOp .And (a :: b :: rest) pos) (M.bind ma fun x => M.bind (tru x) fun t => M.ite t mb (M.pure (.bool false))) := .mk fun σ H F QD QE hm hx Q k =>
  ev (pe_and EV.pe EV.pe) (h σ H F _ QE hm hx _ fun d v H1 q1 a1 r1 => by
    cases r1 <;> first | exact q1.elim | skip
    rename_i t
    refine ⟨t, rfl, ?_⟩
    cases t with
    | false => exact iteF (k _ _ H1 q1 a1 (.bl false))
    | true => exact iteT (h' σ H1 (F.adv a1) _ QE q1 (hx.adv a1) _ fun d v H2 q2 a2 r2 => k d v H2 q2 (a1.trans a2) r2))
theorem E_or {rest : List Expr} (h : SimE c γ a ma) (h' : SimE c γ (.BoolOp .Or (b :: rest) pos) mb) : SimE c γ (.BoolOp .Or (a :: b :: rest) pos) (M.bind ma fun x => M.bind (tru x) fun t => M.ite t (M.pure (.bool true)) mb) := .mk fun σ H F QD QE hm hx Q k =>
  ev (pe_or EV.pe EV.pe) (h σ H F _ QE hm hx _ fun d v H1 q1 a1 r1 => by
    cases r1 <;> first | exact q1.elim | skip
    rename_i t
    refine ⟨t, rfl, ?_⟩
    cases t with
    | true => exact iteT (k _ _ H1 q1 a1 (.bl true))
    | false => exact iteF (h' σ H1 (F.adv a1) _ QE q1 (hx.adv a1) _ fun d v H2 q2 a2 r2 => k d v H2 q2 (a1.trans a2) r2))
theorem E_not (h : SimE c γ a m) : SimE c γ (.UnaryOp .Not a pos) (M.bind m fun x => M.bind (tru x) fun t => M.pure (.bool (!t))) := .mk fun σ H F QD QE hm hx Q k =>
  ev (pe_not EV.pe) (h σ H F _ QE hm hx _ fun d v H1 q1 a1 r1 => by
    cases r1 <;> first | exact q1.elim | skip
    exact ⟨_, rfl, k _ _ H1 q1 a1 (.bl _)⟩)
theorem E_if {t : Expr} {mt : M Bool} (ht : SimT c γ t mt) (ha : SimE c γ a ma) (hb : SimE c γ b mb) : SimE c γ (.IfExp t a b pos) (M.bind mt fun z => M.ite z ma mb) := .mk fun σ H F QD QE hm hx Q k =>
  ev (pe_ifExp TV.pt EV.pe EV.pe) (ht σ H F _ QE hm hx _ fun t H1 q1 a1 => by
    cases t with
    | true => exact iteT (ha σ H1 (F.adv a1) _ QE q1 (hx.adv a1) _ fun d v H2 q2 a2 r2 => k d v H2 q2 (a1.trans a2) r2)
    | false => exact iteF (hb σ H1 (F.adv a1) _ QE q1 (hx.adv a1) _ fun d v H2 q2 a2 r2 => k d v H2 q2 (a1.trans a2) r2))
theorem L_if {t : Expr} {mt : M Bool} {ma mb : M (List D)} (ht : SimT c γ t mt) (ha : SimL c γ a ma) (hb : SimL c γ b mb) : SimL c γ (.IfExp t a b pos) (M.bind mt fun z => M.ite z ma mb) := .mk fun σ H F QD QE hm hx Q k =>
  ev (pe_ifExp TV.pt EV.pe EV.pe) (ht σ H F _ QE hm hx _ fun t H1 q1 a1 => by
    cases t with
    | true => exact iteT (ha σ H1 (F.adv a1) _ QE q1 (hx.adv a1) _ fun ds p vs H2 q2 a2 n2 h2 r2 s2 => k ds p vs H2 q2 (a1.trans a2) (a1.none n2) h2 r2 s2)
    | false => exact iteF (hb σ H1 (F.adv a1) _ QE q1 (hx.adv a1) _ fun ds p vs H2 q2 a2 n2 h2 r2 s2 => k ds p vs H2 q2 (a1.trans a2) (a1.none n2) h2 r2 s2))

/-! ### subscripts, slices -/
theorem strOk_at {z : Str} {i : Int} {x : Nat} (h : PyData.strOk z = true) (e : atI z.cps.toList i = some x) : PyData.strOk ⟨#[x]⟩ = true := by
  unfold atI at e
  cases q : ixN z.cps.toList.length i with
  | none => rw [q] at e; cases e
  | some j =>
    rw [q] at e
    have e2 : z.cps.toList[j]? = some x := e
    have hm : x ∈ z.cps.toList := List.mem_of_getElem? e2
    have h2 : ∀ y ∈ z.cps.toList, y < 0x110000 := by
      intro y hy
      have := (Array.all_eq_true_iff_forall_mem.mp (show z.cps.all (fun k => decide (k < 0x110000)) = true from h)) y (by simpa using hy)
      simpa using this
    have := h2 x hm
    simp [PyData.strOk, this]
theorem E_ix (ha : SimK c γ a ma) (hb : SimE c γ b mb) (hs : PlainIx b := by exact fun _ _ => rfl) : SimE c γ (.Subscript a b pos) (M.bind ma fun x => M.bind mb fun y => opIx x y) := .mk fun σ H F QD QE hm hx Q k => by
  refine ev (pe_ix ix_seq EV.pe EV.pe hs) (ha σ H F _ QE hm hx _ fun d v H1 q1 a1 r1 => ?_)
  refine hb σ H1 (F.adv a1) _ QE q1 (hx.adv a1) _ fun d2 v2 H2 q2 a2 r2 => ?_
  have r1' := r1.adv a2
  cases r2 <;> first | (cases d <;> exact q2.elim) | skip
  rename_i i
  cases d with
  | tuple xs =>
    have q2 : ofOpt (atI xs i) QD QE := q2
    cases e : atI xs i with
    | none => rw [e] at q2; exact q2.elim
    | some z =>
      rw [e] at q2
      rcases r1' with r1' | ⟨_, _, _, _, z, _⟩
      · cases r1' with
        | tup hq rq =>
          obtain ⟨vz, h1, h2⟩ := rq.at e
          exact .inr (.inl ⟨_, _, i, vz, rfl, rfl, hq, h1, k _ _ H2 q2 (a1.trans a2) h2⟩)
      · cases z
  | list xs =>
    have q2 : ofOpt (atI xs i) QD QE := q2
    cases e : atI xs i with
    | none => rw [e] at q2; exact q2.elim
    | some z =>
      rw [e] at q2
      rcases r1' with r1' | ⟨p, vs, ds, e1, e2, h, rq, n⟩
      · cases r1' with
        | lst hq rq =>
          obtain ⟨vz, h1, h2⟩ := rq.at e
          exact .inl ⟨_, _, i, vz, rfl, rfl, hq.sq, h1, k _ _ H2 q2 (a1.trans a2) h2⟩
      · cases e2
        obtain ⟨vz, h1, h2⟩ := rq.at e
        exact .inl ⟨_, _, i, vz, e1, rfl, SqL.of h, h1, k _ _ H2 q2 (a1.trans a2) h2⟩
  | str z =>
    obtain ⟨hz, q2⟩ := q2
    cases e : atI z.cps.toList i with
    | none => rw [e] at q2; exact q2.elim
    | some x =>
      rw [e] at q2
      rcases r1' with r1' | ⟨_, _, _, _, z, _⟩
      · cases r1' with
        | str _ hs =>
          exact .inr (.inr ⟨z, i, x, rfl, rfl, hz, e, k _ _ H2 q2 (a1.trans a2) (.str _ (strOk_at hs e))⟩)
      · cases z
  | _ => exact q2.elim
/-- a part of a slice -/
abbrev SimO.T (c : Site) (γ : Ctx) (o : Option Expr) (m : M (Option Int)) : Prop := ∀ (σ : St) (H : Hp), FR c γ σ H → ∀ (QD : Option Int → Prop) (QE : Ex → Prop), m QD QE → Xok c σ H QE →
  ∀ Q : Option Int → Hp → Prop, (∀ i H', QD i → Adv c.S H H' → Q i H') → ∃ t, PO c.X o t ∧ t σ H Q
structure SimO (c : Site) (γ : Ctx) (o : Option Expr) (m : M (Option Int)) : Prop where
  run : SimO.T c γ o m
instance {c : Site} {γ : Ctx} {o : Option Expr} {m : M (Option Int)} : CoeFun (SimO c γ o m) (fun _ => SimO.T c γ o m) := ⟨SimO.run⟩
theorem O_none : SimO c γ none (M.pure none) := .mk fun σ H F QD QE hm hx Q k => ⟨_, po_none, k _ H hm (.refl _ _)⟩
def intM : D → M (Option Int)
  | .int i => M.pure (some i)
  | _ => M.fail
theorem O_some (h : SimE c γ e m) : SimO c γ (some e) (M.bind m intM) := .mk fun σ H F QD QE hm hx Q k => ⟨_, po_some EV.pe, h σ H F _ QE hm hx _ fun d v H1 q1 a1 r1 => by
  cases r1 <;> first | exact q1.elim | skip
  exact ⟨_, rfl, k _ H1 q1 a1⟩⟩
def opCut (x : D) (l h : Option Int) : M D := match x with
  | .tuple xs => M.pure (.tuple (cut xs l h))
  | .str z => M.guard (z.length ≤ sizeLine) (M.pure (.str (cutS z l h)))
  | _ => M.fail
theorem strOk_cut {z : Str} {l h : Option Int} (hz : PyData.strOk z = true) : PyData.strOk (cutS z l h) = true := by
  have h2 : ∀ y ∈ z.cps.toList, y < 0x110000 := by
    intro y hy
    have := (Array.all_eq_true_iff_forall_mem.mp (show z.cps.all (fun k => decide (k < 0x110000)) = true from hz)) y (by simpa using hy)
    simpa using this
  unfold PyData.strOk cutS
  rw [List.all_toArray]
  refine List.all_eq_true.mpr fun y hy => ?_
  have := h2 y (List.mem_of_mem_drop (List.mem_of_mem_take hy))
  simpa using this
/-- a PO of any part: its own reading, told afterwards -/
def OV (X : Cx) (o : Option Expr) (σ : St) (H : Hp) (Q : Option Int → Hp → Prop) : Prop := ∃ t, PO X o t ∧ t σ H Q
theorem OV.po {X : Cx} {o : Option Expr} : PO X o (OV X o) := ⟨fun pins s σ H Q I ⟨_, h, q⟩ => h.run pins s σ H Q I q⟩
theorem E_sl {lo hi : Option Expr} {ml mh : M (Option Int)} {p2 : Pos} (ha : SimE c γ a ma) (hl : SimO c γ lo ml) (hh : SimO c γ hi mh) : SimE c γ (.Subscript a (.Slice lo hi none p2) pos) (M.bind ma fun x => M.bind ml fun l => M.bind mh fun h => opCut x l h) := .mk fun σ H F QD QE hm hx Q k => by
  refine ev (pe_slice (sl_tupA.or sl_str) EV.pe OV.po OV.po) (ha σ H F _ QE hm hx _ fun d v H1 q1 a1 r1 => ?_)
  refine hl σ H1 (F.adv a1) _ QE q1 (hx.adv a1) _ fun l H2 q2 a2 => ?_
  refine hh σ H2 (F.adv (a1.trans a2)) _ QE q2 (hx.adv (a1.trans a2)) _ fun h H3 q3 a3 => ?_
  have r1' := r1.le (a2.trans a3).le
  have ad := (a1.trans a2).trans a3
  cases r1' <;> first | exact q3.elim | skip
  · rename_i z hz
    exact .inr ⟨z, rfl, q3.1, k _ _ H3 q3.2 ad (.str _ (strOk_cut hz))⟩
  · rename_i p xs ds hq rq
    refine .inl ⟨p, xs, rfl, hq, fun hw => ?_, fun hw z hz => ?_⟩
    · have e : cut ds l h = ds := by
        unfold cut
        rw [← rq.length, hw.1, hw.2, List.drop_zero, rq.length]
        simp
      have q3 : QD (.tuple (cut ds l h)) := q3
      rw [e] at q3
      exact k _ _ H3 q3 ad (.tup hq rq)
    · exact k _ _ _ q3 (ad.trans (.new hz)) (.tup (SqT.of upd_same) ((rq.cutV l h).le (Le.new hz)))
theorem L_sl {lo hi : Option Expr} {ml mh : M (Option Int)} {p2 : Pos} (ha : SimK c γ a ma) (hl : SimO c γ lo ml) (hh : SimO c γ hi mh) : SimL c γ (.Subscript a (.Slice lo hi none p2) pos) (M.bind ma fun x => M.bind ml fun l => M.bind mh fun h => M.bind (asList x) fun xs => M.pure (cut xs l h)) := .mk fun σ H F QD QE hm hx Q k => by
  refine ev (pe_slice sl_list EV.pe OV.po OV.po) (ha σ H F _ QE hm hx _ fun d v H1 q1 a1 r1 => ?_)
  refine hl σ H1 (F.adv a1) _ QE q1 (hx.adv a1) _ fun l H2 q2 a2 => ?_
  refine hh σ H2 (F.adv (a1.trans a2)) _ QE q2 (hx.adv (a1.trans a2)) _ fun h H3 q3 a3 => ?_
  have r1' := r1.adv (a2.trans a3)
  have ad := (a1.trans a2).trans a3
  have F3 := F.adv ad
  cases d with
  | list xs =>
    rcases r1' with r1' | ⟨p, vs, ds, e1, e2, hp, rq, n⟩
    · cases r1' with
      | lst hq rq =>
        exact ⟨_, _, rfl, hq.sq, fun z hz => k _ z _ _ q3 (ad.trans (.new hz)) (ad.none hz) upd_same ((rq.cutV l h).le (Le.new hz)) fun s => F3.src z s hz⟩
    · cases e2
      exact ⟨p, vs, e1, SqL.of hp, fun z hz => k _ z _ _ q3 (ad.trans (.new hz)) (ad.none hz) upd_same ((rq.cutV l h).le (Le.new hz)) fun s => F3.src z s hz⟩
  | _ => exact q3.elim

/-! ### displays -/
def isInt : D → M Unit
  | .int _ => M.pure ()
  | _ => M.fail
theorem A_nil : SimA c γ [] [] (M.pure []) := .mk fun σ H F QD QE hm hx Q k => av pa_nil (k _ _ H c.S hm (.refl _ _) .refl F.src trivial)
theorem A_d {es : List Expr} {ks : List PK} {ms : M (List D)} (h : SimE c γ e m) (hr : SimA c γ es ks ms) (hs : starEach (e :: es) c.X.env = (false, eval e c.X.env) :: starEach es c.X.env := by exact star_cons rfl) :
    SimA c γ (e :: es) (.d :: ks) (M.bind m fun d => M.bind ms fun ds => M.pure (d :: ds)) := .mk fun σ H F QD QE hm hx Q k =>
  av (pa_cons EV.pe AV.pa hs) (h σ H F _ QE hm hx _ fun d v H1 q1 a1 r1 => hr σ H1 (F.adv a1) _ QE q1 (hx.adv a1) _ fun ds vs H2 S' q2 a2 x2 n2 r2 => k _ _ H2 S' q2 (a1.trans a2) (x2.back a1) n2 ⟨r1.le a2.le, r2⟩)
theorem A_src {es : List Expr} {ks : List PK} {ms : M (List D)} {x : Str} {n : Nat} {p : Pos} (i : Nat) (hr : SimA c γ es ks ms) (hγ : γ[i]? = some (some (.src n)) := by rfl) (hN : c.X.N[i]? = some x := by rfl) (hv : Vis c.X.env.scope x := by first | exact Or.inl rfl | exact Or.inr (Or.inl rfl) | exact Or.inr (Or.inr rfl))
    (hd : (x == ("__debug__" : Str)) = false := by decide) (hcd : (x == ("__classdict__" : Str)) = false := by decide) (hs : starEach (.Name x p :: es) c.X.env = (false, eval (.Name x p) c.X.env) :: starEach es c.X.env := by exact star_cons rfl) :
    SimA c γ (.Name x p :: es) (.src n :: ks) ms := .mk fun σ H F QD QE hm hx Q k => by
  obtain ⟨v, e, r⟩ := F.val i _ hγ
  exact av (pa_cons (pe_var hN hv hd hcd) AV.pa hs) ⟨v, e, hr σ H F QD QE hm hx _ fun ds vs H2 S' q2 a2 x2 n2 r2 => k _ _ H2 S' q2 a2 x2 n2 ⟨(SrcV.adv r a2).mono x2.1, r2⟩⟩
/-- a new list of one int -/
theorem A_new {es : List Expr} {ks : List PK} {ms : M (List D)} {m : M D} {p : Pos} (h : SimE c γ e m) (hr : SimA c γ es ks ms) (hs : starEach (.List [e] p :: es) c.X.env = (false, eval (.List [e] p) c.X.env) :: starEach es c.X.env := by exact star_cons rfl) (hs2 : starEach [e] c.X.env = (false, eval e c.X.env) :: starEach [] c.X.env := by exact star_cons rfl) :
    SimA c γ (.List [e] p :: es) (.src 1 :: ks) (M.bind m fun d => M.bind (isInt d) fun _ => ms) := .mk fun σ H F QD QE hm hx Q k => by
  refine av (pa_cons (pe_lst (pa_cons EV.pe pa_nil hs2)) AV.pa hs) (h σ H F _ QE hm hx _ fun d v H1 q1 a1 r1 => ?_)
  cases r1 <;> first | exact q1.elim | skip
  rename_i i
  refine ⟨by rw [sizeLine_eq]; exact Nat.le_of_ble_eq_true rfl, fun p hp => ?_⟩
  have F1 := F.adv a1
  have np : ¬ c.S p := fun s => F1.src p s hp
  have ad : Adv c.S H1 (upd H1 p (.lst [.int i])) := .new hp
  refine hr σ _ (F1.adv ad) QD QE q1 (hx.adv (a1.trans ad)) _ fun ds vs H2 S' q2 a2 x2 n2 r2 => ?_
  have hp2 : H2 p = some (.lst (ivs [i])) := a2.keep upd_same np
  refine k _ _ H2 (fun x => S' x ∨ x = p) q2 ((a1.trans ad).trans a2) ⟨fun x s => .inl (x2.1 x s), fun x s => ?_⟩ (fun x s => ?_) ⟨⟨p, [i], rfl, .inr rfl, hp2, rfl, fun z hz => by simp at hz⟩, r2.mono fun x s => .inl s⟩
  · rcases s with s | s
    · exact (x2.2 x s).imp_right fun z => a1.none (ad.none z)
    · subst s; exact .inr (a1.none hp)
  · rcases s with s | s
    · exact n2 x s
    · subst s; rw [hp2]; exact fun z => nomatch z
theorem E_tup {es : List Expr} {n : Nat} {ms : M (List D)} {x1} (h : SimA c γ es (allD n) ms) (hz : n ≤ sizeLine := by decide) : SimE c γ (.Tuple es x1 pos) (M.bind ms fun ds => M.pure (.tuple ds)) := .mk fun σ H F QD QE hm hx Q k =>
  ev (pe_tup AV.pa) (h σ H F _ QE hm hx _ fun ds vs H1 S' q1 a1 _ _ r1 => ⟨by rw [r1.len]; have e : ∀ n, (allD n).length = n := fun n => by { induction n with | zero => rfl | succ n ih => simp [allD, ih] }; rw [e]; exact hz, fun p hp => k _ _ _ q1 (a1.trans (.new hp)) (.tup (SqT.of upd_same) (r1.all.le (Le.new hp)))⟩)
theorem L_lst {es : List Expr} {n : Nat} {ms : M (List D)} (h : SimA c γ es (allD n) ms) (hz : n ≤ sizeLine := by decide) : SimL c γ (.List es pos) ms := .mk fun σ H F QD QE hm hx Q k =>
  ev (pe_lst AV.pa) (h σ H F _ QE hm hx _ fun ds vs H1 S' q1 a1 _ _ r1 => ⟨by rw [r1.len]; have e : ∀ n, (allD n).length = n := fun n => by { induction n with | zero => rfl | succ n ih => simp [allD, ih] }; rw [e]; exact hz, fun p hp => k _ p _ _ q1 (a1.trans (.new hp)) (a1.none hp) upd_same (r1.all.le (Le.new hp)) fun s => (F.adv a1).src p s hp⟩)
end
end Sm

set_option Elab.async false
set_option linter.all false
set_option maxRecDepth 100000
set_option maxHeartbeats 4000000
/-! Sm3: statements. -/
namespace Sm
open PySem PySem.Spec L2
open PyProof.Rows hiding St

/-- what comes of a statement: it goes on; a turn of a loop has ended; continue; data, a new list are returned -/
inductive Oc where
  | nx (γ : Ctx)
  | lp (γ : Ctx)
  | ct (γ : Ctx)
  | rt (d : D)
  | rl (ds : List D)
  | no
def Done (c : Site) (H : Hp) (D : Ends) : Oc → Prop
  | .nx γ => ∀ σ' H', Le H H' → FR c γ σ' H' → D.nx σ' H'
  | .lp γ => ∀ σ' H', Le H H' → FR c γ σ' H' → D.nx σ' H' ∧ D.ct σ' H'
  | .ct γ => ∀ σ' H', Le H H' → FR c γ σ' H' → D.ct σ' H'
  | .rt d => ∀ v H', Adv c.S c.H0 H' → Rp c.X.K H' v d → D.rt v H'
  | .rl ds => ∀ a vs H', Adv c.S c.H0 H' → c.H0 a = none → H' a = some (.lst vs) → RpL c.X.K H' vs ds → ¬ c.S a → D.rt (.ref a) H'
  | .no => True
theorem Done.le {c : Site} {H H1 : Hp} {D : Ends} {o : Oc} (h : Done c H D o) (l : Le H H1) : Done c H1 D o := by
  cases o with
  | nx γ => exact fun σ' H' l' F => h σ' H' (l.trans l') F
  | lp γ => exact fun σ' H' l' F => h σ' H' (l.trans l') F
  | ct γ => exact fun σ' H' l' F => h σ' H' (l.trans l') F
  | rt d => exact h
  | rl ds => exact h
  | no => trivial
/-- at an exception the slots of γx are known -/
def XokS (c : Site) (γx : Ctx) (H : Hp) (QE : Ex → Prop) : Prop := ∀ x σ' H' cls dd, QE x → Le H H' → FR c γx σ' H' → RpX c H' x cls dd → c.W cls dd σ' H'
def Sub (γ' γ : Ctx) : Prop := ∀ (i : Nat) (b : B), γ'[i]? = some (some b) → γ[i]? = some (some b)
theorem Sub.nil {γ : Ctx} : Sub [] γ := fun i b h => by simp at h
theorem Sub.refl {γ : Ctx} : Sub γ γ := fun _ _ h => h
theorem Sub.none {γ' γ : Ctx} {x : Option B} (h : Sub γ' γ) : Sub (Option.none :: γ') (x :: γ) := fun i b e => by
  cases i with
  | zero => simp at e
  | succ i => simpa using h i b (by simpa using e)
theorem Sub.same {γ' γ : Ctx} {x : Option B} (h : Sub γ' γ) : Sub (x :: γ') (x :: γ) := fun i b e => by
  cases i with
  | zero => simpa using e
  | succ i => simpa using h i b (by simpa using e)
theorem FR.sub {c : Site} {γ γ' : Ctx} {σ : St} {H : Hp} (F : FR c γ σ H) (s : Sub γ' γ) : FR c γ' σ H :=
  ⟨fun i b e => F.val i b (s i b e), fun i j b b' a n e e' => F.sep i j b b' a n (s i b e) (s j b' e'), fun i b a e => F.new i b a (s i b e), F.base, F.src⟩
theorem XokS.le {c : Site} {γx : Ctx} {H H1 : Hp} {QE : Ex → Prop} (h : XokS c γx H QE) (l : Le H H1) : XokS c γx H1 QE := fun x σ' H' cls dd q l' F r => h x σ' H' cls dd q (l.trans l') F r
theorem XokS.at {c : Site} {γx γ : Ctx} {σ : St} {H : Hp} {QE : Ex → Prop} (h : XokS c γx H QE) (F : FR c γ σ H) (s : Sub γx γ) : Xok c σ H QE := fun x H' cls dd q a r => h x σ H' cls dd q a.le ((F.adv a).sub s) r

abbrev SimS.T (c : Site) (γx : Ctx) (ss : List Stmt) (γ : Ctx) {α : Type} (m : M α) (dec : α → Oc) : Prop := ∀ (σ : St) (H : Hp), FR c γ σ H → ∀ (QD : α → Prop) (QE : Ex → Prop), m QD QE → XokS c γx H QE →
  ∀ D : Ends, (∀ a, QD a → Done c H D (dec a)) → SV c.X ss D σ H
structure SimS (c : Site) (γx : Ctx) (ss : List Stmt) (γ : Ctx) {α : Type} (m : M α) (dec : α → Oc) : Prop where
  run : SimS.T c γx ss γ m dec
instance {c : Site} {γx : Ctx} {ss : List Stmt} {γ : Ctx} {α : Type} {m : M α} {dec : α → Oc} : CoeFun (SimS c γx ss γ m dec) (fun _ => SimS.T c γx ss γ m dec) := ⟨SimS.run⟩
/-- one statement -/
abbrev Sim1.T (c : Site) (γx : Ctx) (st : Stmt) (γ : Ctx) {α : Type} (m : M α) (dec : α → Oc) : Prop := ∀ (σ : St) (H : Hp), FR c γ σ H → ∀ (QD : α → Prop) (QE : Ex → Prop), m QD QE → XokS c γx H QE →
  ∀ D : Ends, (∀ a, QD a → Done c H D (dec a)) → SV1 c.X st D σ H
structure Sim1 (c : Site) (γx : Ctx) (st : Stmt) (γ : Ctx) {α : Type} (m : M α) (dec : α → Oc) : Prop where
  run : Sim1.T c γx st γ m dec
instance {c : Site} {γx : Ctx} {st : Stmt} {γ : Ctx} {α : Type} {m : M α} {dec : α → Oc} : CoeFun (Sim1 c γx st γ m dec) (fun _ => Sim1.T c γx st γ m dec) := ⟨Sim1.run⟩
/-- a target takes a value -/
def GV (X : Cx) (tg : Expr) (v : V) (σ : St) (H : Hp) (Q : St → Hp → Prop) : Prop := ∀ (pins : List (Addr × Obj)) (s : Shared) (u : Value), Inv X pins σ H s → RelV v u →
  wpAny (model X.prog X.w) X.A (assign tg X.env u) (fun _ s' => ∃ σ' H', Inv X pins σ' H' s' ∧ Q σ' H') X.xe s
theorem GV.pg {X : Cx} {tg : Expr} : PG X tg (fun v σ H Q => GV X tg v σ H Q) := ⟨fun pins s _ _ _ u _ I r h => h pins s u I r⟩
theorem gv {X : Cx} {tg : Expr} {g : TG} (h : PG X tg g) {v : V} {σ : St} {H : Hp} {Q : St → Hp → Prop} (q : g v σ H Q) : GV X tg v σ H Q := fun pins s u I r => h.run pins s σ H v u Q I r q
/-- what is wanted at slots and a heap, of a mirror's ends -/
abbrev RW (α : Type) := St → Hp → (α → Prop) → (Ex → Prop) → Prop
abbrev SimX.T {α : Type} (R : RW α) (c : Site) (γ : Ctx) (m : M α) : Prop := ∀ (σ : St) (H : Hp), FR c γ σ H → ∀ (QD : α → Prop) (QE : Ex → Prop), m QD QE → R σ H QD QE
structure SimX {α : Type} (R : RW α) (c : Site) (γ : Ctx) (m : M α) : Prop where
  run : SimX.T R c γ m
instance {α : Type} {R : RW α} {c : Site} {γ : Ctx} {m : M α} : CoeFun (SimX R c γ m) (fun _ => SimX.T R c γ m) := ⟨SimX.run⟩
/-- .. of statements -/
def RS (c : Site) (γx : Ctx) (ss : List Stmt) {α : Type} (dec : α → Oc) : RW α := fun σ H QD QE => XokS c γx H QE → ∀ D : Ends, (∀ a, QD a → Done c H D (dec a)) → SV c.X ss D σ H
/-- only slots that may be stored have changed -/
def OutEq (c : Site) (σ σ' : St) : Prop := σ'.length = σ.length ∧ ∀ i, ¬ c.wr i → σ'[i]? = σ[i]?
theorem OutEq.refl {c : Site} {σ : St} : OutEq c σ σ := ⟨rfl, fun _ _ => rfl⟩
theorem OutEq.trans {c : Site} {σ σ1 σ2 : St} (a : OutEq c σ σ1) (b : OutEq c σ1 σ2) : OutEq c σ σ2 := ⟨b.1.trans a.1, fun i n => (b.2 i n).trans (a.2 i n)⟩
theorem OutEq.set {c : Site} {σ : St} {i : Nat} {x : Option V} (h : c.wr i) : OutEq c σ (σ.set i x) := ⟨List.length_set, fun j n => by
  have e : i ≠ j := fun z => n (by rw [← z]; exact h)
  rw [List.getElem?_set_ne e]⟩
/-- the item is data -/
abbrev SimB.T {α : Type} (R : RW α) (c : Site) (tg : Expr) (γ : Ctx) (d : D) (m : M α) : Prop := ∀ (σ : St) (H : Hp) (v : V), FR c γ σ H → Rp c.X.K H v d → ∀ (QD : α → Prop) (QE : Ex → Prop), m QD QE → GV c.X tg v σ H (fun σ2 H2 => H2 = H ∧ OutEq c σ σ2 ∧ R σ2 H2 QD QE)
structure SimB {α : Type} (R : RW α) (c : Site) (tg : Expr) (γ : Ctx) (d : D) (m : M α) : Prop where
  run : SimB.T R c tg γ d m
instance {α : Type} {R : RW α} {c : Site} {tg : Expr} {γ : Ctx} {d : D} {m : M α} : CoeFun (SimB R c tg γ d m) (fun _ => SimB.T R c tg γ d m) := ⟨SimB.run⟩
/-- targets one after another take items -/
abbrev SimBs.T {α : Type} (R : RW α) (c : Site) (tgs : List Expr) (γ : Ctx) (ds : List D) (m : M α) : Prop := ∀ (σ : St) (H : Hp) (vs : List V), FR c γ σ H → RpL c.X.K H vs ds → ∀ (QD : α → Prop) (QE : Ex → Prop), m QD QE →
  ∀ (pins : List (Addr × Obj)) (s : Shared) (us : List Value), Inv c.X pins σ H s → Vals vs us →
    wpAny (model c.X.prog c.X.w) c.X.A (assignInOrder ((assignEach tgs c.X.env).map (·.2)) us) (fun _ s' => ∃ σ' H', Inv c.X pins σ' H' s' ∧ H' = H ∧ OutEq c σ σ' ∧ R σ' H' QD QE) c.X.xe s
structure SimBs {α : Type} (R : RW α) (c : Site) (tgs : List Expr) (γ : Ctx) (ds : List D) (m : M α) : Prop where
  run : SimBs.T R c tgs γ ds m
instance {α : Type} {R : RW α} {c : Site} {tgs : List Expr} {γ : Ctx} {ds : List D} {m : M α} : CoeFun (SimBs R c tgs γ ds m) (fun _ => SimBs.T R c tgs γ ds m) := ⟨SimBs.run⟩

section
variable {c : Site} {γx γ : Ctx} {α : Type} {dec : α → Oc} {rest : List Stmt} {e : Expr} {pos pos' : Pos}

/-! ### slots -/
theorem FR.set_d {σ : St} {H : Hp} {v : V} {d : D} {i : Nat} (F : FR c γ σ H) (hl : i < σ.length) (r : Rp c.X.K H v d) : FR c (γ.set i (some (.d d))) (σ.set i (some v)) H := by
  refine ⟨fun j b e => ?_, fun j k b b' a n e e' h h' z => ?_, fun j b a e h z => ?_, F.base, F.src⟩
  · by_cases hj : i = j
    · subst hj
      by_cases hg : i < γ.length
      · rw [List.getElem?_set_self hg] at e
        cases e
        exact ⟨v, List.getElem?_set_self hl, r⟩
      · rw [List.getElem?_eq_none (by simpa using hg)] at e
        cases e
    · rw [List.getElem?_set_ne hj] at e
      obtain ⟨w, h1, h2⟩ := F.val j b e
      exact ⟨w, by rw [List.getElem?_set_ne hj]; exact h1, h2⟩
  · have ne : ∀ {l : Nat} {x : B}, (γ.set i (some (.d d)))[l]? = some (some x) → x.own = true → i ≠ l := fun {l x} e h q => by
      subst q
      by_cases hg : i < γ.length
      · rw [List.getElem?_set_self hg] at e
        cases e
        cases h
      · rw [List.getElem?_eq_none (by simpa using hg)] at e
        cases e
    have n1 := ne e h
    have n2 := ne e' h'
    rw [List.getElem?_set_ne n1] at e z
    rw [List.getElem?_set_ne n2] at e' ⊢
    exact F.sep j k b b' a n e e' h h' z
  · have n1 : i ≠ j := fun q => by
      subst q
      by_cases hg : i < γ.length
      · rw [List.getElem?_set_self hg] at e
        cases e
        cases h
      · rw [List.getElem?_eq_none (by simpa using hg)] at e
        cases e
    rw [List.getElem?_set_ne n1] at e z
    exact F.new j b a e h z
/-- a new thing of one's own -/
theorem FR.set_f {σ : St} {H : Hp} {v : V} {d : V} {i : Nat} (F : FR c γ σ H) (hl : i < σ.length) (r : v = d) : FR c (γ.set i (some (.fv d))) (σ.set i (some v)) H := by
  refine ⟨fun j b e => ?_, fun j k b b' a n e e' h h' z => ?_, fun j b a e h z => ?_, F.base, F.src⟩
  · by_cases hj : i = j
    · subst hj
      by_cases hg : i < γ.length
      · rw [List.getElem?_set_self hg] at e
        cases e
        exact ⟨v, List.getElem?_set_self hl, r⟩
      · rw [List.getElem?_eq_none (by simpa using hg)] at e
        cases e
    · rw [List.getElem?_set_ne hj] at e
      obtain ⟨w, h1, h2⟩ := F.val j b e
      exact ⟨w, by rw [List.getElem?_set_ne hj]; exact h1, h2⟩
  · have ne : ∀ {l : Nat} {x : B}, (γ.set i (some (.fv d)))[l]? = some (some x) → x.own = true → i ≠ l := fun {l x} e h q => by
      subst q
      by_cases hg : i < γ.length
      · rw [List.getElem?_set_self hg] at e
        cases e
        cases h
      · rw [List.getElem?_eq_none (by simpa using hg)] at e
        cases e
    have n1 := ne e h
    have n2 := ne e' h'
    rw [List.getElem?_set_ne n1] at e z
    rw [List.getElem?_set_ne n2] at e' ⊢
    exact F.sep j k b b' a n e e' h h' z
  · have n1 : i ≠ j := fun q => by
      subst q
      by_cases hg : i < γ.length
      · rw [List.getElem?_set_self hg] at e
        cases e
        cases h
      · rw [List.getElem?_eq_none (by simpa using hg)] at e
        cases e
    rw [List.getElem?_set_ne n1] at e z
    exact F.new j b a e h z
/-- a new thing of one's own -/
theorem FR.set_own {σ : St} {H : Hp} {a : Addr} {b : B} {i : Nat} (F : FR c γ σ H) (hl : i < σ.length) (r : RB c H (.ref a) b) (hn : c.H0 a = none) (hf : ∀ (j : Nat) (b' : B), γ[j]? = some (some b') → b'.own = true → σ[j]? ≠ some (some (V.ref a))) :
    FR c (γ.set i (some b)) (σ.set i (some (.ref a))) H := by
  refine ⟨fun j b' e => ?_, fun j k b1 b2 x n e e' h h' z => ?_, fun j b' x e h z => ?_, F.base, F.src⟩
  · by_cases hj : i = j
    · subst hj
      by_cases hg : i < γ.length
      · rw [List.getElem?_set_self hg] at e
        cases e
        exact ⟨_, List.getElem?_set_self hl, r⟩
      · rw [List.getElem?_eq_none (by simpa using hg)] at e
        cases e
    · rw [List.getElem?_set_ne hj] at e
      obtain ⟨w, h1, h2⟩ := F.val j b' e
      exact ⟨w, by rw [List.getElem?_set_ne hj]; exact h1, h2⟩
  · by_cases hj : i = j
    · subst hj
      rw [List.getElem?_set_self hl] at z
      cases z
      rw [List.getElem?_set_ne n] at e' ⊢
      exact hf k b2 e' h'
    · rw [List.getElem?_set_ne hj] at e z
      by_cases hk : i = k
      · subst hk
        rw [List.getElem?_set_self hl]
        intro q
        cases q
        exact hf j b1 e h z
      · rw [List.getElem?_set_ne hk] at e' ⊢
        exact F.sep j k b1 b2 x n e e' h h' z
  · by_cases hj : i = j
    · subst hj
      rw [List.getElem?_set_self hl] at z
      cases z
      exact hn
    · rw [List.getElem?_set_ne hj] at e z
      exact F.new j b' x e h z
/-- one's own thing in slot i changes: o at its address -/
theorem FR.upd_own {σ : St} {H : Hp} {a : Addr} {b b' : B} {i : Nat} {o u : HO} (F : FR c γ σ H) (hi : γ[i]? = some (some b)) (ho : b.own = true) (hv : σ[i]? = some (some (.ref a))) (hu : H a = some u) (mu : Mut (some u)) (hs : ¬ c.S a)
    (r : RB c (upd H a o) (.ref a) b') (nc : ∀ q, u ≠ LamX.CodeO a q := by first | exact lst_ne | exact dK_ne | exact dictN_ne) : FR c (γ.set i (some b')) σ (upd H a o) := by
  have hn : c.H0 a = none := F.new i b a hi ho hv
  have le : Le H (upd H a o) := Le.mut hu mu
  refine ⟨fun j x e => ?_, fun j k b1 b2 x n e e' h h' z => ?_, fun j b1 x e h z => ?_, fun x w e => ?_, fun x s => ?_⟩
  · by_cases hj : i = j
    · subst hj
      rw [List.getElem?_set_self (List.getElem?_eq_some_iff.mp hi).1] at e
      cases e
      exact ⟨_, hv, r⟩
    · rw [List.getElem?_set_ne hj] at e
      obtain ⟨w, h1, h2⟩ := F.val j x e
      refine ⟨w, h1, ?_⟩
      have ne : ∀ {p : Addr}, x.own = true → w = .ref p → p ≠ a := fun {p} hx hw q => by
        subst hw q
        exact F.sep i j b x p hj hi e ho hx hv h1
      cases x with
      | d y => exact Rp.le le h2
      | ml ys => obtain ⟨p, vs, e1, q, rr, ns⟩ := h2; exact ⟨p, vs, e1, by rw [upd_ne (ne rfl e1)]; exact q, RpL.le le rr, ns⟩
      | src n => obtain ⟨p, ns, e1, sp, q, l, g⟩ := h2; exact ⟨p, ns, e1, sp, by rw [upd_ne (fun z => hs (by rw [← z]; exact sp))]; exact q, l, g⟩
      | fv u => exact h2
      | dk kvs => obtain ⟨p, vs, e1, q, rr, ns⟩ := h2; exact ⟨p, vs, e1, by rw [upd_ne (ne rfl e1)]; exact q, RpK.le le rr, ns⟩
      | dn kvs => obtain ⟨p, vs, e1, q, rr, ns⟩ := h2; exact ⟨p, vs, e1, by rw [upd_ne (ne rfl e1)]; exact q, RpN.le le rr, ns⟩
  · have own_of : ∀ {l : Nat} {y : B}, (γ.set i (some b'))[l]? = some (some y) → y.own = true → ∃ y', γ[l]? = some (some y') ∧ y'.own = true := fun {l y} e h => by
      by_cases hl : i = l
      · subst hl; exact ⟨b, hi, ho⟩
      · rw [List.getElem?_set_ne hl] at e; exact ⟨y, e, h⟩
    obtain ⟨y1, q1, o1⟩ := own_of e h
    obtain ⟨y2, q2, o2⟩ := own_of e' h'
    exact F.sep j k y1 y2 x n q1 q2 o1 o2 z
  · by_cases hj : i = j
    · subst hj
      exact F.new i b x hi ho z
    · rw [List.getElem?_set_ne hj] at e
      exact F.new j b1 x e h z
  · exact (F.base.put hn hu nc) x w e
  · by_cases hx : x = a
    · subst hx; exact absurd s hs
    · rw [upd_ne hx]; exact F.src x s

/-! ### ends -/
theorem S_nil {a : α} {γ' : Ctx} (hd : dec a = .nx γ' ∨ dec a = .lp γ' := by first | exact .inl rfl | exact .inr rfl) (hs : Sub γ' γ) : SimS c γx [] γ (M.pure a) dec := .mk fun σ H F QD QE hm hx D k => by
  have q := k a hm
  rcases hd with hd | hd
  · rw [hd] at q; exact SV.nil (q σ H (.refl H) (F.sub hs))
  · rw [hd] at q; exact SV.nil (q σ H (.refl H) (F.sub hs)).1
theorem S_continue {a : α} {γ' : Ctx} (hd : dec a = .ct γ' ∨ dec a = .lp γ' := by first | exact .inl rfl | exact .inr rfl) (hs : Sub γ' γ) : SimS c γx (.Continue pos :: rest) γ (M.pure a) dec := .mk fun σ H F QD QE hm hx D k => by
  have q := k a hm
  refine SV.cons (sv1 ps_continue ?_)
  rcases hd with hd | hd
  · rw [hd] at q; exact q σ H (.refl H) (F.sub hs)
  · rw [hd] at q; exact (q σ H (.refl H) (F.sub hs)).2
theorem S_pass {m : M α} (h : SimS c γx rest γ m dec) : SimS c γx (.Pass pos :: rest) γ m dec := .mk fun σ H F QD QE hm hx D k => SV.cons (sv1 ps_pass (h σ H F QD QE hm hx D k))
theorem S_doc {x j} {m : M α} (h : SimS c γx rest γ m dec) : SimS c γx (.Expr (.Constant (.str x) j pos) pos' :: rest) γ m dec := .mk fun σ H F QD QE hm hx D k => SV.cons (sv1 ps_doc (h σ H F QD QE hm hx D k))
/-- forget slots -/
theorem S_sub {ss : List Stmt} {m : M α} {γ' : Ctx} (hs : Sub γ' γ) (h : SimS c γx ss γ' m dec) : SimS c γx ss γ m dec := .mk fun σ H F QD QE hm hx D k => h σ H (F.sub hs) QD QE hm hx D k
theorem S_ret {r : D → α} {m : M D} (he : SimE c γ e m) (hx : Sub γx γ := by exact Sub.nil) (hd : ∀ d, dec (r d) = .rt d := by intro _; rfl) : SimS c γx (.Return (some e) pos :: rest) γ (M.bind m fun d => M.pure (r d)) dec := .mk fun σ H F QD QE hm hxx D k =>
  SV.cons (sv1 (ps_ret EV.pe) (he σ H F _ QE hm (hxx.at F hx) _ fun d v H' q a rr => by
    have z := k _ q
    rw [hd] at z
    exact z v H' (F.base.trans a) rr))
theorem S_retL {r : List D → α} {m : M (List D)} (he : SimL c γ e m) (hx : Sub γx γ := by exact Sub.nil) (hd : ∀ d, dec (r d) = .rl d := by intro _; rfl) : SimS c γx (.Return (some e) pos :: rest) γ (M.bind m fun d => M.pure (r d)) dec := .mk fun σ H F QD QE hm hxx D k =>
  SV.cons (sv1 (ps_ret EV.pe) (he σ H F _ QE hm (hxx.at F hx) _ fun ds a vs H' q ad h0 h1 rr ns => by
    have z := k _ q
    rw [hd] at z
    exact z a vs H' (F.base.trans ad) (F.base.none h0) h1 rr ns))
/-- one's own list is returned -/
theorem S_retV {x : Str} {ds : List D} {r : List D → α} (i : Nat) (hγ : γ[i]? = some (some (.ml ds)) := by rfl) (hN : c.X.N[i]? = some x := by rfl) (hv : Vis c.X.env.scope x := by first | exact Or.inl rfl | exact Or.inr (Or.inl rfl) | exact Or.inr (Or.inr rfl))
    (hd : ∀ d, dec (r d) = .rl d := by intro _; rfl) (hdb : (x == ("__debug__" : Str)) = false := by decide) (hcd : (x == ("__classdict__" : Str)) = false := by decide) : SimS c γx (.Return (some (.Name x pos')) pos :: rest) γ (M.pure (r ds)) dec := .mk fun σ H F QD QE hm hxx D k => by
  obtain ⟨v, e1, a, vs, e2, h, rr, ns⟩ := F.val i _ hγ
  subst e2
  have z := k _ hm
  rw [hd] at z
  exact SV.cons (sv1 (ps_ret (pe_var hN hv hdb hcd)) ⟨_, e1, z a vs H F.base (F.new i _ a hγ rfl e1) h rr ns⟩)
theorem S_retN {r : α} (hd : dec r = .rt .none := by rfl) : SimS c γx (.Return none pos :: rest) γ (M.pure r) dec := .mk fun σ H F QD QE hm hxx D k => by
  have z := k _ hm
  rw [hd] at z
  exact SV.cons (sv1 ps_retN (z .non H F.base .non))

/-! ### expressions as statements, assignments -/
theorem S_expr {m : M D} {m2 : M α} (he : SimE c γ e m) (hr : SimS c γx rest γ m2 dec) (hx : Sub γx γ := by exact Sub.nil) (hs : swapsWith e none pos.line c.X.env = pure false := by rfl) : SimS c γx (.Expr e pos :: rest) γ (M.bind m fun _ => m2) dec := .mk fun σ H F QD QE hm hxx D k =>
  SV.cons (sv1 (ps_expr EV.pe hs) (he σ H F _ QE hm (hxx.at F hx) _ fun d v H' q a rr => hr σ H' (F.adv a) QD QE q (hxx.le a.le) D fun x z => (k x z).le a.le))
theorem S_asg {tg : Expr} {m : M D} {m2 : D → M α} (he : SimE c γ e m) (hb : ∀ d, SimB (RS c γx rest dec) c tg γ d (m2 d)) (hx : Sub γx γ := by exact Sub.nil) (hs : swapsWithSole [tg] e pos.line c.X.env = pure false := by rfl) (hw : swappedStores [tg] e c.X.env = pure none := by rfl)
    (h1 : (assignEach [tg] c.X.env).map (·.2) = [assign tg c.X.env] := by rfl) : SimS c γx (.Assign [tg] e pos :: rest) γ (M.bind m m2) dec := .mk fun σ H F QD QE hm hxx D k =>
  SV.cons (sv1 (ps_asg EV.pe GV.pg hs hw h1) (he σ H F _ QE hm (hxx.at F hx) _ fun d v H' q a rr pins s u I r => thn (hb d σ H' v (F.adv a) rr QD QE q pins s u I r) fun _ s' ⟨σ2, H2, I2, l, _, z⟩ => ⟨σ2, H2, I2, z (hxx.le (a.le.trans (l ▸ .refl _))) D fun x y => (k x y).le (a.le.trans (l ▸ .refl _))⟩))
end

/-- the number of slots is known from the invariant -/
theorem GV.len {X : Cx} {tg : Expr} {v : V} {σ : St} {H : Hp} {Q : St → Hp → Prop} (h : σ.length = X.N.length → GV X tg v σ H Q) : GV X tg v σ H Q := fun pins s u I r => h I.len pins s u I r
theorem SV.len {X : Cx} {ss : List Stmt} {D : Ends} {σ : St} {H : Hp} (h : σ.length = X.N.length → SV X ss D σ H) : SV X ss D σ H := fun pins s I => h I.len pins s I

section
variable {c : Site} {γx γ : Ctx} {α : Type} {dec : α → Oc} {rest : List Stmt} {e : Expr} {pos pos' : Pos}
abbrev LocF (c : Site) (x : Str) : Prop := c.X.fn x = true ∨ c.X.env.scope.names.lookup x = some .local
theorem SimX.s {m : M α} {ss : List Stmt} (h : SimX (RS c γx ss dec) c γ m) : SimS c γx ss γ m dec := .mk fun σ H F QD QE hm hx D k => h σ H F QD QE hm hx D k
theorem SimS.x {m : M α} {ss : List Stmt} (h : SimS c γx ss γ m dec) : SimX (RS c γx ss dec) c γ m := .mk fun σ H F QD QE hm hx D k => h σ H F QD QE hm hx D k
section
variable {R : RW α}
theorem B_1 (i : Nat) {x : Str} {d : D} {m : M α} (hr : SimX R c (γ.set i (some (.d d))) m) (hN : c.X.N.Nodup) (hi : c.X.N[i]? = some x := by rfl) (hl : Loc c.X.env.scope x := by first | exact Or.inl rfl | exact Or.inr rfl) (hf : LocF c x := by first | exact .inl rfl | exact .inr rfl) (hw : c.wr i := by exact True.intro) :
    SimB R c (.Name x pos) γ d m := .mk fun σ H v F r QD QE hm => GV.len fun hlen =>
  gv (pg_name hN hi hl hf) ⟨rfl, .set hw, hr _ H (F.set_d (by rw [hlen]; exact (List.getElem?_eq_some_iff.mp hi).1) r) QD QE hm⟩
/-- the items of a tuple of a known length -/
def unp2 : D → M (D × D)
  | .tuple [a, b] => M.pure (a, b)
  | _ => M.fail
def unp3 : D → M (D × D × D)
  | .tuple [a, b, c] => M.pure (a, b, c)
  | _ => M.fail
theorem Bs_nil {m : M α} (hr : SimX R c γ m) : SimBs R c [] γ [] m := .mk fun σ H vs F r QD QE hm pins s us I rv => by
  cases r
  exact pgs_nil.run pins s σ H [] us _ I rv ⟨rfl, rfl, .refl, hr σ H F QD QE hm⟩
/-- a target, then the rest: whatever follows -/
theorem Bs_cons {tg : Expr} {d : D} {ds : List D} {tgs : List Expr} {m : M α} (h : ∀ R1 : RW α, (∀ γ' m', SimBs R c tgs γ' ds m' → SimX R1 c γ' m') → SimB R1 c tg γ d m)
    (hs : (assignEach (tg :: tgs) c.X.env).map (·.2) = assign tg c.X.env :: (assignEach tgs c.X.env).map (·.2) := by rfl) : SimBs R c (tg :: tgs) γ (d :: ds) m := .mk fun σ H vs F r QD QE hm pins s us I rv => by
  cases r with
  | cons r1 r2 =>
    cases rv with
    | cons v1 v2 =>
      rename_i v vs u us
      rw [hs]
      refine assignInOrder_cons (thn (h (fun σ2 H2 QD QE => H2 = H → OutEq c σ σ2 → ∀ pins s us, Inv c.X pins σ2 H2 s → Vals vs us → wpAny (model c.X.prog c.X.w) c.X.A (assignInOrder ((assignEach tgs c.X.env).map (·.2)) us) (fun _ s' => ∃ σ' H', Inv c.X pins σ' H' s' ∧ H' = H ∧ OutEq c σ σ' ∧ R σ' H' QD QE) c.X.xe s)
        (fun γ' m' q => .mk fun σ2 H2 F2 QD QE hm l o pins s us I rv => thn (q σ2 H2 vs F2 (by rw [l]; exact r2) QD QE hm pins s us I rv) fun _ s' ⟨σ', H', I', l', o', z⟩ => ⟨σ', H', I', l'.trans l, o.trans o', z⟩) σ H v F r1 QD QE hm pins s u I v1) fun _ s1 ⟨σ1, H1, I1, l1, o1, q1⟩ => ?_)
      exact q1 l1 o1 pins s1 us I1 v2
/-- a tuple of targets -/
theorem B_tup {tgs : List Expr} {kt : Nat} {ds : List D} {m : M α} (hc : c.X.calm = true) (hr : SimBs R c tgs γ ds m) (hn : (assignEach tgs c.X.env).length = ds.length) (hst : (assignEach tgs c.X.env).findIdx? (·.1) = none) :
    SimB R c (.Tuple tgs kt pos) γ (.tuple ds) m := .mk fun σ H v F r QD QE hm pins s u I rv => by
  cases r with
  | tup hq rq =>
    rename_i a xs
    have tgs_ok : PGs c.X tgs (fun vs σ' H' Q => vs = xs ∧ σ' = σ ∧ H' = H ∧ ∀ (pins : List (Addr × Obj)) (s : Shared) (us : List Value), Inv c.X pins σ H s → Vals xs us → wpAny (model c.X.prog c.X.w) c.X.A (assignInOrder ((assignEach tgs c.X.env).map (·.2)) us) (fun _ s' => ∃ σ' H', Inv c.X pins σ' H' s' ∧ Q σ' H') c.X.xe s) :=
      ⟨fun pins s σ' H' vs us Q I' rv' h => by
        obtain ⟨rfl, rfl, rfl, h⟩ := h
        exact h pins s us I' rv'⟩
    exact (pg_tup hc tgs_ok hn hst).run pins s σ H _ u _ I rv ⟨a, xs, rfl, hq, by rw [rq.length], rfl, rfl, rfl, fun pins s us I' rv' => hr σ H xs F rq QD QE hm pins s us I' rv'⟩
theorem B_2 {t1 t2 : Expr} {kt : Nat} {d : D} {m : D × D → M α} (hc : c.X.calm = true) (hr : ∀ p, SimBs R c [t1, t2] γ [p.1, p.2] (m p)) (hn : (assignEach [t1, t2] c.X.env).length = 2 := by rfl) (hst : (assignEach [t1, t2] c.X.env).findIdx? (·.1) = none := by rfl) :
    SimB R c (.Tuple [t1, t2] kt pos) γ d (M.bind (unp2 d) m) := by
  refine .mk fun σ H v F r QD QE hm => ?_
  unfold unp2 at hm
  split at hm
  · exact B_tup hc (hr _) hn hst σ H v F r QD QE hm
  · exact hm.elim
theorem B_3 {t1 t2 t3 : Expr} {kt : Nat} {d : D} {m : D × D × D → M α} (hc : c.X.calm = true) (hr : ∀ p, SimBs R c [t1, t2, t3] γ [p.1, p.2.1, p.2.2] (m p)) (hn : (assignEach [t1, t2, t3] c.X.env).length = 3 := by rfl) (hst : (assignEach [t1, t2, t3] c.X.env).findIdx? (·.1) = none := by rfl) :
    SimB R c (.Tuple [t1, t2, t3] kt pos) γ d (M.bind (unp3 d) m) := by
  refine .mk fun σ H v F r QD QE hm => ?_
  unfold unp3 at hm
  split at hm
  · exact B_tup hc (hr _) hn hst σ H v F r QD QE hm
  · exact hm.elim
end
end
end Sm

set_option Elab.async false
set_option linter.all false
set_option maxRecDepth 100000
set_option maxHeartbeats 4000000
/-! Sm4: if, loops, one's own lists, calls, comprehensions, built-ins. -/
namespace Sm
open PySem PySem.Spec L2
open PyProof.Rows hiding St

section
variable {c : Site} {γx γ : Ctx} {α β : Type} {dec : α → Oc} {rest thn els : List Stmt} {t e : Expr} {pos pos' : Pos}

/-! ### if -/
/-- a block behind which nothing of this block follows -/
def decC (dec : α → Oc) : α → Oc := fun a => match dec a with
  | .lp g => .ct g
  | .nx _ => .no
  | o => o
theorem doneC {H : Hp} {D D' : Ends} {a : α} (h : Done c H D (dec a)) (h1 : D'.rt = D.rt) (h2 : D'.ct = D.ct) : Done c H D' (decC dec a) := by
  unfold decC
  cases e : dec a with
  | nx g => trivial
  | lp g =>
    rw [e] at h
    show ∀ σ' H', Le H H' → FR c g σ' H' → D'.ct σ' H'
    rw [h2]
    exact fun σ' H' l F => (h σ' H' l F).2
  | ct g =>
    rw [e] at h
    show ∀ σ' H', Le H H' → FR c g σ' H' → D'.ct σ' H'
    rw [h2]
    exact h
  | rt d =>
    rw [e] at h
    show ∀ v H', Adv c.S c.H0 H' → Rp c.X.K H' v d → D'.rt v H'
    rw [h1]
    exact h
  | rl ds =>
    rw [e] at h
    show ∀ a vs H', Adv c.S c.H0 H' → c.H0 a = none → H' a = some (.lst vs) → RpL c.X.K H' vs ds → ¬ c.S a → D'.rt (.ref a) H'
    rw [h1]
    exact h
  | no => trivial
theorem S_if {mt : M Bool} {m1 m2 : M α} (ht : SimT c γ t mt) (h1 : SimS c γx thn γ m1 dec) (h2 : SimS c γx els γ m2 dec) (hx : Sub γx γ := by exact Sub.nil) : SimS c γx [.If t thn els pos] γ (M.bind mt fun b => M.ite b m1 m2) dec := .mk fun σ H F QD QE hm hxx D k =>
  sv (pss_one (ps_if TV.pt SV.pss SV.pss)) (ht σ H F _ QE hm (hxx.at F hx) _ fun b H1 q a => by
    cases b with
    | true => exact iteT (h1 σ H1 (F.adv a) QD QE q (hxx.le a.le) D fun x z => (k x z).le a.le)
    | false => exact iteF (h2 σ H1 (F.adv a) QD QE q (hxx.le a.le) D fun x z => (k x z).le a.le))
/-- the first way never goes on behind the if -/
theorem S_ifT {mt : M Bool} {m1 m2 : M α} (ht : SimT c γ t mt) (h1 : SimS c γx thn γ m1 (decC dec)) (h2 : SimS c γx rest γ m2 dec) (hx : Sub γx γ := by exact Sub.nil) : SimS c γx (.If t thn [] pos :: rest) γ (M.bind mt fun b => M.ite b m1 m2) dec := .mk fun σ H F QD QE hm hxx D k =>
  SV.cons (sv1 (ps_if TV.pt SV.pss pss_nil) (ht σ H F _ QE hm (hxx.at F hx) _ fun b H1 q a => by
    cases b with
    | true => exact iteT (h1 σ H1 (F.adv a) QD QE q (hxx.le a.le) _ fun x z => doneC ((k x z).le a.le) rfl rfl)
    | false => exact iteF (h2 σ H1 (F.adv a) QD QE q (hxx.le a.le) D fun x z => (k x z).le a.le)))
/-- both ways meet -/
theorem S_ifJ {S : Type} {mt : M Bool} {m1 m2 : M S} {m3 : S → M α} (γ1 : S → Ctx) (ht : SimT c γ t mt) (h1 : SimS c γx thn γ m1 (fun s => Oc.nx (γ1 s))) (h2 : SimS c γx els γ m2 (fun s => Oc.nx (γ1 s))) (h3 : ∀ s, SimS c γx rest (γ1 s) (m3 s) dec) (hx : Sub γx γ := by exact Sub.nil) :
    SimS c γx (.If t thn els pos :: rest) γ (M.bind (M.bind mt fun b => M.ite b m1 m2) m3) dec := .mk fun σ H F QD QE hm hxx D k => by
  refine SV.cons (sv1 (ps_if TV.pt SV.pss SV.pss) (ht σ H F _ QE hm (hxx.at F hx) _ fun b H1 q a => ?_))
  have go : ∀ (s : S), m3 s QD QE → Done c H1 { D with nx := SV c.X rest D } (.nx (γ1 s)) := fun s z σ' H' l F' => h3 s σ' H' F' QD QE z (hxx.le (a.le.trans l)) D fun x y => (k x y).le (a.le.trans l)
  cases b with
  | true => exact iteT (h1 σ H1 (F.adv a) _ QE q (hxx.le a.le) _ go)
  | false => exact iteF (h2 σ H1 (F.adv a) _ QE q (hxx.le a.le) _ go)
/-- both ways meet, or leave -/
theorem S_ifR {S R : Type} {mt : M Bool} {m1 m2 : M (S ⊕ R)} {m3 : S → M α} (γ1 : S → Ctx) (emb : R → α) (ht : SimT c γ t mt) (h1 : SimS c γx thn γ m1 (Sum.elim (fun s => Oc.nx (γ1 s)) fun r => decC dec (emb r)))
    (h2 : SimS c γx els γ m2 (Sum.elim (fun s => Oc.nx (γ1 s)) fun r => decC dec (emb r))) (h3 : ∀ s, SimS c γx rest (γ1 s) (m3 s) dec) (hx : Sub γx γ := by exact Sub.nil) :
    SimS c γx (.If t thn els pos :: rest) γ (M.seqR (M.bind mt fun b => M.ite b m1 m2) m3 emb) dec := .mk fun σ H F QD QE hm hxx D k => by
  refine SV.cons (sv1 (ps_if TV.pt SV.pss SV.pss) (ht σ H F _ QE hm (hxx.at F hx) _ fun b H1 q a => ?_))
  have go : ∀ (o : S ⊕ R), (Sum.elim m3 (fun r => M.pure (emb r)) o) QD QE → Done c H1 { D with nx := SV c.X rest D } (Sum.elim (fun s => Oc.nx (γ1 s)) (fun r => decC dec (emb r)) o) := fun o z => by
    cases o with
    | inl s => exact fun σ' H' l F' => h3 s σ' H' F' QD QE z (hxx.le (a.le.trans l)) D fun x y => (k x y).le (a.le.trans l)
    | inr r => exact doneC ((k _ z).le a.le) rfl rfl
  cases b with
  | true => exact iteT (h1 σ H1 (F.adv a) _ QE q (hxx.le a.le) _ go)
  | false => exact iteF (h2 σ H1 (F.adv a) _ QE q (hxx.le a.le) _ go)

/-! ### what is walked -/
def IV (X : Cx) (tg it : Expr) (σ : St) (H : Hp) (R : It → Hp → Prop) : Prop := ∀ (pins : List (Addr × Obj)) (s : Shared), Inv X pins σ H s →
  wpAny (model X.prog X.w) X.A (eval it X.env) (fun v s1 => wpAny (model X.prog X.w) X.A (pyIter v) (PIE X pins σ tg R) X.xe s1) X.xe s
theorem IV.pi {X : Cx} {tg it : Expr} : PI X tg it (IV X tg it) := ⟨fun pins s _ _ _ I h => h pins s I⟩
/-- the i-th item -/
def YD (c : Site) (ds : List D) (i : Nat) (H : Hp) (v : V) (H' : Hp) : Prop := Adv c.S H H' ∧ ∃ d, ds[i]? = some d ∧ Rp c.X.K H' v d
abbrev SimI.T (c : Site) (tg : Expr) (γ : Ctx) (it : Expr) (m : M (List D)) : Prop := ∀ (σ : St) (H : Hp), FR c γ σ H → ∀ (QD : List D → Prop) (QE : Ex → Prop), m QD QE → Xok c σ H QE →
  ∀ R : It → Hp → Prop, (∀ ds J G H1, QD ds → Adv c.S H H1 → ds.length ≤ sizeLine → Walk J ds.length G (YD c ds) → G H1 → (∀ H' H'', G H' → Le H' H'' → G H'') → R J H1) → IV c.X tg it σ H R
structure SimI (c : Site) (tg : Expr) (γ : Ctx) (it : Expr) (m : M (List D)) : Prop where
  run : SimI.T c tg γ it m
instance {c : Site} {tg : Expr} {γ : Ctx} {it : Expr} {m : M (List D)} : CoeFun (SimI c tg γ it m) (fun _ => SimI.T c tg γ it m) := ⟨SimI.run⟩
theorem I_any {tg : Expr} {m : M D} (h : SimE c γ e m) : SimI c tg γ e (M.bind m items) := .mk fun σ H F QD QE hm hx R k pins s I => by
  refine thn (h σ H F _ QE hm hx (fun v H1 => ∃ d, Adv c.S H H1 ∧ Rp c.X.K H1 v d ∧ items d QD QE) (fun d v H' q a r => ⟨d, a, r, q⟩) pins s I) fun v s1 ⟨x, H1, I1, r1, d, a, r, q⟩ => ?_
  cases r <;> first | exact q.elim | skip
  · rename_i p xs ds hq rq
    cases r1
    obtain ⟨its, rv, pl, hz⟩ := I1.list hq.sq
    refine wpAny_pyIter_list pl.isList ?_
    refine ⟨s1.heap.objs.size, [s1.heap.objs.size], _, _, H1, rfl, I1.kept (t' := s1.toks) fun b o e => Heap.get?_push_of_some _ e, turn_list p _, ⟨_, Heap.get?_push_size _ rfl, rfl, rfl⟩, fun b hb => ?_, ?_⟩
    · have e : b = s1.heap.objs.size := by simpa using hb
      subst e
      exact I1.fpOk (Nat.le_refl _) (I1.hok.fresh (Nat.le_refl _))
    · refine k ds _ (fun H' => FzL c.X.K H' p xs ∧ RpL c.X.K H' xs ds) H1 q a (by rw [← rq.length]; exact hz) ?_ ⟨hq, rq⟩ fun H' H'' g l => ⟨l.fz g.1, g.2.le l⟩
      rw [← rq.length]
      refine walk_list.mono (fun H' g => g.1.sq) fun i H' v H'' hi g y => ?_
      obtain ⟨rfl, hv⟩ := y
      obtain ⟨d, h1, h2⟩ := g.2.getV hv
      exact ⟨.refl _ _, d, h1, h2⟩
  · rename_i p xs ds hq rq
    cases r1
    obtain ⟨its, rv, pl, hz⟩ := I1.tuple hq
    refine wpAny_pyIter_tuple (show s1.heap.IsTuple p its.toArray from pl) ?_
    refine ⟨s1.heap.objs.size, [s1.heap.objs.size], _, _, H1, rfl, I1.kept (t' := s1.toks) fun b o e => Heap.get?_push_of_some _ e, turn_tuple p _, ⟨_, Heap.get?_push_size _ rfl, rfl, rfl⟩, fun b hb => ?_, ?_⟩
    · have e : b = s1.heap.objs.size := by simpa using hb
      subst e
      exact I1.fpOk (Nat.le_refl _) (I1.hok.fresh (Nat.le_refl _))
    · refine k ds _ (fun H' => SqT c.X.K H' p xs ∧ RpL c.X.K H' xs ds) H1 q a (by rw [← rq.length]; exact hz) ?_ ⟨hq, rq⟩ fun H' H'' g l => ⟨l.rd g.1, g.2.le l⟩
      rw [← rq.length]
      refine walk_tup.mono (fun H' g => g.1) fun i H' v H'' hi g y => ?_
      obtain ⟨rfl, hv⟩ := y
      obtain ⟨d, h1, h2⟩ := g.2.getV hv
      exact ⟨.refl _ _, d, h1, h2⟩
def signs (z : Str) : List D := z.cps.toList.map fun x => .str ⟨#[x]⟩
/-- a text's signs -/
def itemsS : D → M (List D)
  | .str z => M.guard (z.length ≤ sizeLine) (M.pure (signs z))
  | _ => M.fail
theorem strOk_sign {z : Str} {i x : Nat} (h : PyData.strOk z = true) (e : z.cps[i]? = some x) : PyData.strOk ⟨#[x]⟩ = true := by
  have hm : x ∈ z.cps := Array.mem_of_getElem? e
  have := (Array.all_eq_true_iff_forall_mem.mp (show z.cps.all (fun k => decide (k < 0x110000)) = true from h)) x hm
  have h2 : x < 0x110000 := by simpa using this
  simp [PyData.strOk, h2]
theorem I_str {tg : Expr} {m : M D} (h : SimE c γ e m) : SimI c tg γ e (M.bind m itemsS) := .mk fun σ H F QD QE hm hx R k pins s I => by
  refine (pi_str EV.pe).run pins s σ H R I (h σ H F _ QE hm hx _ fun d v H' q a r => ?_)
  cases r <;> first | exact q.elim | skip
  rename_i z hz
  refine ⟨z, rfl, k (signs z) _ (fun _ => True) H' q.2 a (by unfold signs; rw [List.length_map, Array.length_toList]; exact q.1) ?_ trivial fun _ _ _ _ => trivial⟩
  have e : (signs z).length = z.cps.size := by simp [signs]
  rw [e]
  refine walk_str.mono (fun _ g => g) fun i H' v H'' hi g y => ?_
  obtain ⟨rfl, x, hx, rfl⟩ := y
  refine ⟨.refl _ _, .str ⟨#[x]⟩, ?_, .str _ (strOk_sign hz hx)⟩
  unfold signs
  rw [List.getElem?_map, Array.getElem?_toList, hx]
  rfl
def rangeM : D → M (List D)
  | .int n => M.guard (-(2 ^ 62) ≤ n ∧ n ≤ sizeLine) (M.pure ((List.range n.toNat).map fun (i : Nat) => (.int (i : Int) : D)))
  | _ => M.fail
theorem I_range {tg : Expr} {m : M D} {p : Pos} (hm : c.X.mg "range" = none) (h : SimE c γ e m) (hg : Gl c.X "range" := by rfl) (hs : starEach [e] c.X.env = [(false, eval e c.X.env)] := by exact star_cons rfl) : SimI c tg γ (.Call (.Name "range" p) [e] [] pos) (M.bind m rangeM) := .mk fun σ H F QD QE hm' hx R k pins s I => by
  refine (pi_range1 hg hm (pa_cons EV.pe pa_nil hs) hs).run pins s σ H R I (h σ H F _ QE hm' hx _ fun d v H' q a r => ?_)
  cases r <;> first | exact q.elim | skip
  rename_i n
  obtain ⟨⟨hn, hz⟩, q⟩ := q
  have e2 : (sizeLine : Int) = 16777216 := by rw [sizeLine_eq]; rfl
  refine ⟨n, rfl, hn, by omega, k _ _ (fun _ => True) H' q a (by rw [List.length_map, List.length_range]; omega) ?_ trivial fun _ _ _ _ => trivial⟩
  rw [List.length_map, List.length_range]
  refine walk_range.mono (fun _ g => g) fun i H' v H'' hi g y => ?_
  obtain ⟨rfl, rfl⟩ := y
  refine ⟨.refl _ _, .int (i : Nat), ?_, ?_⟩
  · rw [List.getElem?_map, List.getElem?_range hi]
    rfl
  · have e3 : (0 : Int) + (i : Nat) = (i : Nat) := by omega
    show Rp c.X.K _ (V.int ((0 : Int) + (i : Nat))) _
    rw [e3]
    exact .int _

/-! ### for -/
theorem RS.run {σ : St} {H H1 : Hp} {QD : α → Prop} {QE : Ex → Prop} {D : Ends} {ss : List Stmt} (h : RS c γx ss dec σ H QD QE) (hxx : XokS c γx H QE) (k : ∀ a, QD a → Done c H D (dec a)) : SV c.X ss D σ H := h hxx D k
theorem S_for {S : Type} {tg it : Expr} {body : List Stmt} {mi : M (List D)} {s0 : S} {f : S → D → M S} {m2 : S → M α} (γS : S → Ctx) (hi : SimI c tg γ it mi) (h0 : Sub (γS s0) γ) (hb : ∀ s d, SimB (RS c γx body (fun s' => Oc.lp (γS s'))) c tg (γS s) d (f s d)) (hr : ∀ s, SimS c γx rest (γS s) (m2 s) dec)
    (hp : PassesOwn (model c.X.prog c.X.w) c.X.A c.X.env c.X.xe) (hc : c.X.calm = true) (hx : Sub γx γ := by exact Sub.nil) (hs : ∀ x, foldedSetIterable it c.X.env x = pure x := by intro _; rfl) :
    SimS c γx (.For tg it body [] pos :: rest) γ (M.bind mi fun xs => M.bind (M.forS f xs s0) m2) dec := .mk fun σ H F QD QE hm hxx D k => by
  refine SV.cons (sv1 (ps_for hp hc IV.pi GV.pg SV.pss hs) (hi σ H F _ QE hm (hxx.at F hx) _ fun ds J G H1 q a hz w g0 gl => ?_))
  refine for_it (w := w) (fun i σ' H' => ∃ s, FR c (γS s) σ' H' ∧ G H' ∧ Le H H' ∧ M.forS f (ds.drop i) s (fun s' => m2 s' QD QE) QE) ⟨s0, (F.adv a).sub h0, g0, a.le, by rw [List.drop_zero]; exact q⟩ (fun i σ' H' _ ⟨_, _, g, _⟩ => g) ?_ ?_
  · rintro i v σ' H' H'' hi ⟨s, F', g, l, q'⟩ ⟨a', d, hd, r⟩
    have e : ds.drop i = d :: ds.drop (i + 1) := by
      obtain ⟨h1, h2⟩ := List.getElem?_eq_some_iff.mp hd
      rw [← h2]
      exact List.drop_eq_getElem_cons h1
    rw [e] at q'
    intro pins st u I rv
    refine thn (hb s d σ' H'' v (F'.adv a') r _ QE q' pins st u I rv) fun _ s' ⟨σ2, H2, I2, l2, _, z⟩ => ⟨σ2, H2, I2, z (hxx.le (l2 ▸ l.trans a'.le)) _ fun s2 q2 σ3 H3 l3 F3 => ?_⟩
    have l4 : Le H' H3 := a'.le.trans (l2 ▸ l3)
    exact ⟨⟨s2, F3, gl _ _ g l4, l.trans l4, q2⟩, ⟨s2, F3, gl _ _ g l4, l.trans l4, q2⟩⟩
  · rintro σ' H' ⟨s, F', g, l, q'⟩
    rw [List.drop_length] at q'
    exact hr s σ' H' F' QD QE q' (hxx.le l) D fun x y => (k x y).le l
/-- a loop that may be left by a return -/
theorem S_forR {S R : Type} {tg it : Expr} {body : List Stmt} {mi : M (List D)} {s0 : S} {f : S → D → M (S ⊕ R)} {m2 : S → M α} (γS : S → Ctx) (emb : R → α) (hi : SimI c tg γ it mi) (h0 : Sub (γS s0) γ)
    (hb : ∀ s d, SimB (RS c γx body (Sum.elim (fun s' => Oc.lp (γS s')) fun r => dec (emb r))) c tg (γS s) d (f s d)) (hd : ∀ r, (∃ d, dec (emb r) = .rt d) ∨ ∃ ds, dec (emb r) = .rl ds) (hr : ∀ s, SimS c γx rest (γS s) (m2 s) dec)
    (hp : PassesOwn (model c.X.prog c.X.w) c.X.A c.X.env c.X.xe) (hc : c.X.calm = true) (hx : Sub γx γ := by exact Sub.nil) (hs : ∀ x, foldedSetIterable it c.X.env x = pure x := by intro _; rfl) :
    SimS c γx (.For tg it body [] pos :: rest) γ (M.bind mi fun xs => M.seqR (M.forR f xs s0) m2 emb) dec := .mk fun σ H F QD QE hm hxx D k => by
  refine SV.cons (sv1 (ps_for hp hc IV.pi GV.pg SV.pss hs) (hi σ H F _ QE hm (hxx.at F hx) _ fun ds J G H1 q a hz w g0 gl => ?_))
  refine for_it (w := w) (fun i σ' H' => ∃ s, FR c (γS s) σ' H' ∧ G H' ∧ Le H H' ∧ M.forR f (ds.drop i) s (fun o => (Sum.elim m2 (fun r => M.pure (emb r)) o) QD QE) QE) ⟨s0, (F.adv a).sub h0, g0, a.le, by rw [List.drop_zero]; exact q⟩ (fun i σ' H' _ ⟨_, _, g, _⟩ => g) ?_ ?_
  · rintro i v σ' H' H'' hi ⟨s, F', g, l, q'⟩ ⟨a', d, hd', r⟩
    have e : ds.drop i = d :: ds.drop (i + 1) := by
      obtain ⟨h1, h2⟩ := List.getElem?_eq_some_iff.mp hd'
      rw [← h2]
      exact List.drop_eq_getElem_cons h1
    rw [e] at q'
    intro pins st u I rv
    refine thn (hb s d σ' H'' v (F'.adv a') r _ QE q' pins st u I rv) fun _ s' ⟨σ2, H2, I2, l2, _, z⟩ => ⟨σ2, H2, I2, z (hxx.le (l2 ▸ l.trans a'.le)) _ fun o q2 => ?_⟩
    cases o with
    | inl s2 =>
      refine fun σ3 H3 l3 F3 => ?_
      have l4 : Le H' H3 := a'.le.trans (l2 ▸ l3)
      exact ⟨⟨s2, F3, gl _ _ g l4, l.trans l4, q2⟩, ⟨s2, F3, gl _ _ g l4, l.trans l4, q2⟩⟩
    | inr r =>
      have kk := k _ (show QD (emb r) from q2)
      rcases hd r with ⟨d, e2⟩ | ⟨ds, e2⟩
      · show Done c H2 _ (dec (emb r))
        rw [e2] at kk ⊢
        exact kk
      · show Done c H2 _ (dec (emb r))
        rw [e2] at kk ⊢
        exact kk
  · rintro σ' H' ⟨s, F', g, l, q'⟩
    rw [List.drop_length] at q'
    exact hr s σ' H' F' QD QE q' (hxx.le l) D fun x y => (k x y).le l

/-! ### while -/
theorem S_while {S : Type} {body : List Stmt} {s0 : S} {mc : S → M Bool} {f : S → M S} {m2 : S → M α} (γS : S → Ctx) (h0 : Sub (γS s0) γ) (ht : ∀ s, SimT c (γS s) t (mc s)) (hb : ∀ s, SimS c γx body (γS s) (f s) (fun s' => Oc.lp (γS s'))) (hr : ∀ s, SimS c γx rest (γS s) (m2 s) dec)
    (hp : PassesOwn (model c.X.prog c.X.w) c.X.A c.X.env c.X.xe) (hx : ∀ s, Sub γx (γS s) := by intro _; exact Sub.nil) :
    SimS c γx (.While t body [] pos :: rest) γ (M.bind (M.whileS mc f s0) m2) dec := .mk fun σ H F QD QE hm hxx D k => by
  obtain ⟨n, hm⟩ := hm
  refine SV.cons (sv1 (ps_while hp TV.pt SV.pss) ⟨fun m σ' H' => ∃ s, FR c (γS s) σ' H' ∧ Le H H' ∧ M.whileNS mc f m s (fun s' => m2 s' QD QE) QE, ⟨n, s0, F.sub h0, .refl H, hm⟩, ?_⟩)
  rintro m σ' H' ⟨s, F', l, q⟩
  cases m with
  | zero => exact q.elim
  | succ m =>
    refine ht s σ' H' F' _ QE q ((hxx.le l).at F' (hx s)) _ fun b H1 q1 a1 => ?_
    cases b with
    | false => exact iteF (hr s σ' H1 (F'.adv a1) QD QE q1 (hxx.le (l.trans a1.le)) D fun x y => (k x y).le (l.trans a1.le))
    | true =>
      refine iteT ⟨fun σ2 H2 => ∃ s, FR c (γS s) σ2 H2 ∧ Le H H2 ∧ M.whileNS mc f m s (fun s' => m2 s' QD QE) QE, fun σ2 H2 z => ⟨m, Nat.lt_succ_self m, z⟩, ?_⟩
      exact hb s σ' H1 (F'.adv a1) _ QE q1 (hxx.le (l.trans a1.le)) _ fun s2 q2 σ3 H3 l3 F3 => ⟨⟨s2, F3, (l.trans a1.le).trans l3, q2⟩, ⟨s2, F3, (l.trans a1.le).trans l3, q2⟩⟩
theorem S_whileR {S R : Type} {body : List Stmt} {s0 : S} {mc : S → M Bool} {f : S → M (S ⊕ R)} {m2 : S → M α} (γS : S → Ctx) (emb : R → α) (h0 : Sub (γS s0) γ) (ht : ∀ s, SimT c (γS s) t (mc s))
    (hb : ∀ s, SimS c γx body (γS s) (f s) (Sum.elim (fun s' => Oc.lp (γS s')) fun r => dec (emb r))) (hd : ∀ r, (∃ d, dec (emb r) = .rt d) ∨ ∃ ds, dec (emb r) = .rl ds) (hr : ∀ s, SimS c γx rest (γS s) (m2 s) dec)
    (hp : PassesOwn (model c.X.prog c.X.w) c.X.A c.X.env c.X.xe) (hx : ∀ s, Sub γx (γS s) := by intro _; exact Sub.nil) :
    SimS c γx (.While t body [] pos :: rest) γ (M.seqR (M.while_ mc f s0) m2 emb) dec := .mk fun σ H F QD QE hm hxx D k => by
  obtain ⟨n, hm⟩ := hm
  refine SV.cons (sv1 (ps_while hp TV.pt SV.pss) ⟨fun m σ' H' => ∃ s, FR c (γS s) σ' H' ∧ Le H H' ∧ M.whileN mc f m s (fun o => (Sum.elim m2 (fun r => M.pure (emb r)) o) QD QE) QE, ⟨n, s0, F.sub h0, .refl H, hm⟩, ?_⟩)
  rintro m σ' H' ⟨s, F', l, q⟩
  cases m with
  | zero => exact q.elim
  | succ m =>
    refine ht s σ' H' F' _ QE q ((hxx.le l).at F' (hx s)) _ fun b H1 q1 a1 => ?_
    cases b with
    | false => exact iteF (hr s σ' H1 (F'.adv a1) QD QE q1 (hxx.le (l.trans a1.le)) D fun x y => (k x y).le (l.trans a1.le))
    | true =>
      refine iteT ⟨fun σ2 H2 => ∃ s, FR c (γS s) σ2 H2 ∧ Le H H2 ∧ M.whileN mc f m s (fun o => (Sum.elim m2 (fun r => M.pure (emb r)) o) QD QE) QE, fun σ2 H2 z => ⟨m, Nat.lt_succ_self m, z⟩, ?_⟩
      refine hb s σ' H1 (F'.adv a1) _ QE q1 (hxx.le (l.trans a1.le)) _ fun o q2 => ?_
      cases o with
      | inl s2 => exact fun σ3 H3 l3 F3 => ⟨⟨s2, F3, (l.trans a1.le).trans l3, q2⟩, ⟨s2, F3, (l.trans a1.le).trans l3, q2⟩⟩
      | inr r =>
        have kk := k _ (show QD (emb r) from q2)
        rcases hd r with ⟨d, e2⟩ | ⟨ds, e2⟩
        · show Done c H1 _ (dec (emb r))
          rw [e2] at kk ⊢
          exact kk
        · show Done c H1 _ (dec (emb r))
          rw [e2] at kk ⊢
          exact kk
end
end Sm

set_option Elab.async false
set_option linter.all false
set_option maxRecDepth 100000
set_option maxHeartbeats 4000000
/-! Sm5: one's own lists, defs and calls, raise. -/
namespace Sm
open PySem PySem.Spec L2
open PyProof.Rows hiding St

section
variable {c : Site} {γx γ : Ctx} {α β : Type} {dec : α → Oc} {rest : List Stmt} {e : Expr} {pos pos' cpos apos : Pos}

/-! ### one's own lists -/
/-- name = a new list -/
theorem S_setL (i : Nat) {x : Str} {m : M (List D)} {m2 : List D → M α} (he : SimL c γ e m) (hr : ∀ ds, SimS c γx rest (γ.set i (some (.ml ds))) (m2 ds) dec) (hN : c.X.N.Nodup) (hx : Sub γx γ := by exact Sub.nil) (hi : c.X.N[i]? = some x := by rfl)
    (hl : Loc c.X.env.scope x := by first | exact Or.inl rfl | exact Or.inr rfl) (hf : LocF c x := by first | exact .inl rfl | exact .inr rfl) (hs : swapsWith e (some (.Name x pos')) pos.line c.X.env = pure false := by rfl) :
    SimS c γx (.Assign [.Name x pos'] e pos :: rest) γ (M.bind m m2) dec := .mk fun σ H F QD QE hm hxx D k => SV.len fun hlen =>
  SV.cons (sv1 (ps_set hN hi hl EV.pe hs hf) (he σ H F _ QE hm (hxx.at F hx) _ fun ds a vs H' q ad h0 h1 r ns =>
    hr ds _ H' ((F.adv ad).set_own (by rw [hlen]; exact (List.getElem?_eq_some_iff.mp hi).1) ⟨a, vs, rfl, h1, r, ns⟩ (F.base.none h0) fun j b' e2 ho z => by
      obtain ⟨v, e3, rb⟩ := F.val j b' e2
      rw [z] at e3
      cases e3
      cases b' with
      | ml ys => obtain ⟨p, ws, e4, q4, _⟩ := rb; cases e4; rw [h0] at q4; cases q4
      | dk ys => obtain ⟨p, ws, e4, q4, _⟩ := rb; cases e4; rw [h0] at q4; cases q4
      | dn ys => obtain ⟨p, ws, e4, q4, _⟩ := rb; cases e4; rw [h0] at q4; cases q4
      | d _ => cases ho
      | fv _ => cases ho
      | src _ => cases ho) QD QE q (hxx.le ad.le) D fun x y => (k x y).le ad.le))
/-- one's own list is as data from here on -/
theorem S_freeze (i : Nat) {ss : List Stmt} {ds : List D} {m : M α} (hr : SimS c γx ss (γ.set i (some (.d (.list ds)))) m dec) (hγ : γ[i]? = some (some (.ml ds)) := by rfl) : SimS c γx ss γ m dec := .mk fun σ H F QD QE hm hxx D k => by
  obtain ⟨v, e1, a, vs, e2, h, r, ns⟩ := F.val i _ hγ
  subst e2
  have le : Le H (upd H a (.frz default (.lst vs))) := Le.mut h trivial
  refine SV.freeze h fun o => ?_
  have l : Le H (upd H a (.frz o (.lst vs))) := Le.mut h trivial
  exact hr σ _ (F.upd_own hγ rfl e1 h trivial ns (.lst (.inl ⟨o, upd_same⟩) (r.le l))) QD QE hm (hxx.le l) D fun x y => (k x y).le l
/-- xs.append(e) -/
theorem S_append (i : Nat) {x : Str} {p : Pos} {ds : List D} {m : M D} {m2 : D → M α} (he : SimE c γ e m) (hr : ∀ d, SimS c γx rest (γ.set i (some (.ml (ds ++ [d])))) (m2 d) dec) (hx : Sub γx γ := by exact Sub.nil) (hγ : γ[i]? = some (some (.ml ds)) := by rfl) (hN : c.X.N[i]? = some x := by rfl)
    (hv : Vis c.X.env.scope x := by first | exact Or.inl rfl | exact Or.inr (Or.inl rfl) | exact Or.inr (Or.inr rfl)) (hd : (x == ("__debug__" : Str)) = false := by decide) (hcd : (x == ("__classdict__" : Str)) = false := by decide)
    (hs : swapsWith (.Call (.Attribute (.Name x p) "append" apos) [e] [] cpos) none pos.line c.X.env = pure false := by rfl) (hbase : attributeBase (.Name x p) "append" c.X.env (eval (.Name x p) c.X.env) = eval (.Name x p) c.X.env := by rfl)
    (hline : (apos.endLine == cpos.line) = true := by rfl) (hst : starEach [e] c.X.env = (false, eval e c.X.env) :: starEach [] c.X.env := by exact star_cons rfl) :
    SimS c γx (.Expr (.Call (.Attribute (.Name x p) "append" apos) [e] [] cpos) pos :: rest) γ (M.bind m fun d => M.guard (ds.length < sizeLine) (m2 d)) dec := .mk fun σ H F QD QE hm hxx D k => by
  obtain ⟨v, e1, a, vs, e2, h, r, ns⟩ := F.val i _ hγ
  subst e2
  have hfew : ((backTo cpos (starEach [e] c.X.env)).all (fun x => !x.1) && (backToKw cpos (keywordEach [] c.X.env)).all (fun x => x.1.isSome) && decide (([e] : List Expr).length + ([] : List Keyword).length + (if ([] : List Keyword).isEmpty then 0 else 1) < 30)) = true := by rw [hst]; rfl
  refine SV.cons (sv1 (ps_expr (pe_bm PySem.F.plainAttrs_list PySem.F.slot_list_append PySem.F.type_list_append mt_append (pe_var hN hv hd hcd) (pa_cons EV.pe pa_nil hst) hbase hfew hline hst rfl) hs) ⟨_, e1, .inl ⟨rfl, _, SqL.of h⟩, ?_⟩)
  refine he σ H F _ QE hm (hxx.at F hx) _ fun d y H1 q a1 ry => ?_
  have F1 := F.adv a1
  have h1 := a1.keep h ns
  have r1 := r.le a1.le
  have l : Le H1 (upd H1 a (.lst (vs ++ [y]))) := Le.mut h1 trivial
  refine ⟨a, vs, y, rfl, rfl, h1, by rw [r.length]; exact q.1, ?_⟩
  exact hr d σ _ (F1.upd_own hγ rfl e1 h1 trivial ns ⟨a, _, rfl, upd_same, (r1.append (.cons ry .nil)).le l, ns⟩) QD QE q.2 (hxx.le (a1.le.trans l)) D fun x y => (k x y).le (a1.le.trans l)
/-- xs.extend(a new list) -/
theorem S_extend (i : Nat) {x : Str} {p : Pos} {ds : List D} {m : M (List D)} {m2 : List D → M α} (he : SimL c γ e m) (hr : ∀ es, SimS c γx rest (γ.set i (some (.ml (ds ++ es)))) (m2 es) dec) (hx : Sub γx γ := by exact Sub.nil) (hγ : γ[i]? = some (some (.ml ds)) := by rfl) (hN : c.X.N[i]? = some x := by rfl)
    (hv : Vis c.X.env.scope x := by first | exact Or.inl rfl | exact Or.inr (Or.inl rfl) | exact Or.inr (Or.inr rfl)) (hd : (x == ("__debug__" : Str)) = false := by decide) (hcd : (x == ("__classdict__" : Str)) = false := by decide)
    (hs : swapsWith (.Call (.Attribute (.Name x p) "extend" apos) [e] [] cpos) none pos.line c.X.env = pure false := by rfl) (hbase : attributeBase (.Name x p) "extend" c.X.env (eval (.Name x p) c.X.env) = eval (.Name x p) c.X.env := by rfl)
    (hline : (apos.endLine == cpos.line) = true := by rfl) (hst : starEach [e] c.X.env = (false, eval e c.X.env) :: starEach [] c.X.env := by exact star_cons rfl) :
    SimS c γx (.Expr (.Call (.Attribute (.Name x p) "extend" apos) [e] [] cpos) pos :: rest) γ (M.bind m fun es => M.guard (ds.length + es.length ≤ sizeLine) (m2 es)) dec := .mk fun σ H F QD QE hm hxx D k => by
  obtain ⟨v, e1, a, vs, e2, h, r, ns⟩ := F.val i _ hγ
  subst e2
  have hfew : ((backTo cpos (starEach [e] c.X.env)).all (fun x => !x.1) && (backToKw cpos (keywordEach [] c.X.env)).all (fun x => x.1.isSome) && decide (([e] : List Expr).length + ([] : List Keyword).length + (if ([] : List Keyword).isEmpty then 0 else 1) < 30)) = true := by rw [hst]; rfl
  refine SV.cons (sv1 (ps_expr (pe_bm PySem.F.plainAttrs_list PySem.F.slot_list_extend PySem.F.type_list_extend mt_extend (pe_var hN hv hd hcd) (pa_cons EV.pe pa_nil hst) hbase hfew hline hst rfl) hs) ⟨_, e1, .inl ⟨rfl, _, SqL.of h⟩, ?_⟩)
  refine he σ H F _ QE hm (hxx.at F hx) _ fun es b ws H1 q a1 n1 hb rb _ => ?_
  have F1 := F.adv a1
  have h1 := a1.keep h ns
  have r1 := r.le a1.le
  have l : Le H1 (upd H1 a (.lst (vs ++ ws))) := Le.mut h1 trivial
  refine ⟨a, b, vs, ws, rfl, rfl, h1, hb, by rw [r.length, rb.length]; exact q.1, ?_⟩
  exact hr es σ _ (F1.upd_own hγ rfl e1 h1 trivial ns ⟨a, _, rfl, upd_same, (r1.append rb).le l, ns⟩) QD QE q.2 (hxx.le (a1.le.trans l)) D fun x y => (k x y).le (a1.le.trans l)
/-- the last of a list, and the list without it -/
def popM (ds : List D) : M (D × List D) := match ds[ds.length - 1]? with
  | some d => M.pure (d, ds.dropLast)
  | none => M.fail
/-- target = xs.pop() -/
theorem S_pop (i : Nat) {x : Str} {p : Pos} {tg : Expr} {ds : List D} {m2 : D × List D → M α} (hb : ∀ q : D × List D, SimB (RS c γx rest dec) c tg (γ.set i (some (.ml q.2))) q.1 (m2 q)) (hx : Sub γx γ := by exact Sub.nil) (hγ : γ[i]? = some (some (.ml ds)) := by rfl) (hN : c.X.N[i]? = some x := by rfl)
    (hv : Vis c.X.env.scope x := by first | exact Or.inl rfl | exact Or.inr (Or.inl rfl) | exact Or.inr (Or.inr rfl)) (hd : (x == ("__debug__" : Str)) = false := by decide) (hcd : (x == ("__classdict__" : Str)) = false := by decide)
    (hs : swapsWithSole [tg] (.Call (.Attribute (.Name x p) "pop" apos) [] [] cpos) pos.line c.X.env = pure false := by rfl) (hw : swappedStores [tg] (.Call (.Attribute (.Name x p) "pop" apos) [] [] cpos) c.X.env = pure none := by rfl)
    (h1 : (assignEach [tg] c.X.env).map (·.2) = [assign tg c.X.env] := by rfl) (hbase : attributeBase (.Name x p) "pop" c.X.env (eval (.Name x p) c.X.env) = eval (.Name x p) c.X.env := by rfl) (hline : (apos.endLine == cpos.line) = true := by rfl) :
    SimS c γx (.Assign [tg] (.Call (.Attribute (.Name x p) "pop" apos) [] [] cpos) pos :: rest) γ (M.bind (popM ds) m2) dec := .mk fun σ H F QD QE hm hxx D k => by
  obtain ⟨v, e1, a, vs, e2, h, r, ns⟩ := F.val i _ hγ
  subst e2
  unfold popM at hm
  cases e3 : ds[ds.length - 1]? with
  | none => rw [e3] at hm; exact hm.elim
  | some d =>
    rw [e3] at hm
    obtain ⟨y, hy, ry⟩ := r.get e3
    have l : Le H (upd H a (.lst vs.dropLast)) := Le.mut h trivial
    refine SV.cons (sv1 (ps_asg (pe_bm0 PySem.F.plainAttrs_list PySem.F.slot_list_pop PySem.F.type_list_pop mt_pop (pe_var hN hv hd hcd) hbase hline) GV.pg hs hw h1) ⟨_, e1, .inl ⟨rfl, _, SqL.of h⟩, a, vs, y, rfl, rfl, h, by rw [r.length]; exact hy, ?_⟩)
    intro pins s u I rv
    exact thn (hb (d, ds.dropLast) σ _ y (F.upd_own hγ rfl e1 h trivial ns ⟨a, _, rfl, upd_same, r.dropLast.le l, ns⟩) (ry.le l) QD QE hm pins s u I rv) fun _ s' ⟨σ2, H2, I2, l2, _, z⟩ => ⟨σ2, H2, I2, z (hxx.le (l2 ▸ l)) D fun x y => (k x y).le (l2 ▸ l)⟩
/-- the first of a list, and the list without it -/
def pop0M : List D → M (D × List D)
  | d :: r => M.pure (d, r)
  | [] => M.fail
/-- target = xs.pop(0) -/
theorem S_pop0 (i : Nat) {x : Str} {p p0 : Pos} {j : Nat} {tg : Expr} {ds : List D} {m2 : D × List D → M α} (hb : ∀ q : D × List D, SimB (RS c γx rest dec) c tg (γ.set i (some (.ml q.2))) q.1 (m2 q)) (hx : Sub γx γ := by exact Sub.nil) (hγ : γ[i]? = some (some (.ml ds)) := by rfl) (hN : c.X.N[i]? = some x := by rfl)
    (hv : Vis c.X.env.scope x := by first | exact Or.inl rfl | exact Or.inr (Or.inl rfl) | exact Or.inr (Or.inr rfl)) (hd : (x == ("__debug__" : Str)) = false := by decide) (hcd : (x == ("__classdict__" : Str)) = false := by decide)
    (hs : swapsWithSole [tg] (.Call (.Attribute (.Name x p) "pop" apos) [.Constant (.int 0) j p0] [] cpos) pos.line c.X.env = pure false := by rfl) (hw : swappedStores [tg] (.Call (.Attribute (.Name x p) "pop" apos) [.Constant (.int 0) j p0] [] cpos) c.X.env = pure none := by rfl)
    (h1 : (assignEach [tg] c.X.env).map (·.2) = [assign tg c.X.env] := by rfl) (hbase : attributeBase (.Name x p) "pop" c.X.env (eval (.Name x p) c.X.env) = eval (.Name x p) c.X.env := by rfl) (hline : (apos.endLine == cpos.line) = true := by rfl) :
    SimS c γx (.Assign [tg] (.Call (.Attribute (.Name x p) "pop" apos) [.Constant (.int 0) j p0] [] cpos) pos :: rest) γ (M.bind (pop0M ds) m2) dec := .mk fun σ H F QD QE hm hxx D k => by
  obtain ⟨v, e1, a, vs, e2, h, r, ns⟩ := F.val i _ hγ
  subst e2
  cases r with
  | nil => exact hm.elim
  | cons ry rr =>
    rename_i y vs d ds
    have l : Le H (upd H a (.lst vs)) := Le.mut h trivial
    refine SV.cons (sv1 (ps_asg (pe_bm PySem.F.plainAttrs_list PySem.F.slot_list_pop PySem.F.type_list_pop mt_popAt (pe_var hN hv hd hcd) (pa_cons pe_int pa_nil) hbase rfl hline rfl rfl) GV.pg hs hw h1)
      ⟨_, e1, .inl ⟨rfl, _, SqL.of h⟩, a, y :: vs, 0, 0, y, rfl, rfl, h, by decide, by decide, (ixN_seq (show ixN (y :: vs).length 0 = some 0 from by unfold ixN; rw [if_pos (by decide), if_pos (by rw [List.length_cons]; omega)]; rfl)).1, rfl, ?_⟩)
    intro pins s u I rv
    exact thn (hb (d, ds) σ _ y (F.upd_own hγ rfl e1 h trivial ns ⟨a, _, rfl, upd_same, rr.le l, ns⟩) (ry.le l) QD QE hm pins s u I rv) fun _ s' ⟨σ2, H2, I2, l2, _, z⟩ => ⟨σ2, H2, I2, z (hxx.le (l2 ▸ l)) D fun x y => (k x y).le (l2 ▸ l)⟩
/-- a list with another item at a place -/
def setM (ds : List D) (j : D) (d : D) : M (List D) := match j with
  | .int n => match ixN ds.length n with
    | some k => M.pure (ds.set k d)
    | none => M.fail
  | _ => M.fail
/-- xs[j] = e -/
theorem S_setItem (i : Nat) {x : Str} {p : Pos} {ej : Expr} {ds : List D} {m mj : M D} {m2 : List D → M α} (he : SimE c γ e m) (hj : SimE c γ ej mj) (hr : ∀ ds', SimS c γx rest (γ.set i (some (.ml ds'))) (m2 ds') dec) (hx : Sub γx γ := by exact Sub.nil) (hγ : γ[i]? = some (some (.ml ds)) := by rfl) (hN : c.X.N[i]? = some x := by rfl)
    (hv : Vis c.X.env.scope x := by first | exact Or.inl rfl | exact Or.inr (Or.inl rfl) | exact Or.inr (Or.inr rfl)) (hd : (x == ("__debug__" : Str)) = false := by decide) (hcd : (x == ("__classdict__" : Str)) = false := by decide)
    (hs : swapsWithSole [.Subscript (.Name x p) ej apos] e pos.line c.X.env = pure false := by rfl) (hw : swappedStores [.Subscript (.Name x p) ej apos] e c.X.env = pure none := by rfl) (h1 : (assignEach [.Subscript (.Name x p) ej apos] c.X.env).map (·.2) = [assign (.Subscript (.Name x p) ej apos) c.X.env] := by rfl)
    (ha : ∀ v, assign (.Subscript (.Name x p) ej apos) c.X.env v = (do
      let ov ← holding [v] (eval (.Name x p) c.X.env)
      let iv ← holding [v, ov] (eval ej c.X.env)
      standAt apos
      holding [v, ov, iv] (setItem ov iv v)
      release [v, ov, iv] []) := by intro _; rfl) :
    SimS c γx (.Assign [.Subscript (.Name x p) ej apos] e pos :: rest) γ (M.bind m fun d => M.bind mj fun j => M.bind (setM ds j d) m2) dec := .mk fun σ H F QD QE hm hxx D k => by
  refine SV.cons (sv1 (ps_asg EV.pe (pg_sub (pe_var hN hv hd hcd) EV.pe set_list ha) hs hw h1) (he σ H F _ QE hm (hxx.at F hx) _ fun d y H1 q a1 ry => ?_))
  have F1 := F.adv a1
  obtain ⟨v, e1, a, vs, e2, h, r, ns⟩ := F1.val i _ hγ
  subst e2
  refine ⟨_, e1, hj σ H1 F1 _ QE q ((hxx.le a1.le).at F1 hx) _ fun jd jv H2 q2 a2 rj => ?_⟩
  have F2 := F1.adv a2
  have h2 := a2.keep h ns
  have r2 := r.le a2.le
  unfold setM at q2
  cases rj <;> first | exact q2.elim | skip
  rename_i n
  cases e3 : ixN ds.length n with
  | none => simp only [e3] at q2; exact q2.elim
  | some z =>
    simp only [e3] at q2
    have l : Le H2 (upd H2 a (.lst (vs.set z y))) := Le.mut h2 trivial
    refine ⟨a, vs, n, z, rfl, rfl, h2, by rw [r.length]; exact e3, ?_⟩
    exact hr _ σ _ (F2.upd_own hγ rfl e1 h2 trivial ns ⟨a, _, rfl, upd_same, (r2.set z (ry.le a2.le)).le l, ns⟩) QD QE q2 (hxx.le ((a1.le.trans a2.le).trans l)) D fun x y => (k x y).le ((a1.le.trans a2.le).trans l)
end

/-! ### defs -/
/-- how an exception lies, without a site -/
def RpX0 (K : PySem.W.Frag) (ca : String → Addr) (H : Hp) (x : Ex) (cls : Value) (dd : Option Addr) : Prop := cls = .ref (ca x.cls) ∧ match x.arg with
  | none => dd = none
  | some (f, d) => ∃ a v, dd = some a ∧ H a = some (.xd [(f, v)]) ∧ Rp K H v d
/-- the promise: with data, this mirror's data -/
def spD (K : PySem.W.Frag) (ca : String → Addr) (ks : List PK) (F : List D → M D) : Sp := fun vs H Q E => ∃ (S : Addr → Prop) (ds : List D) (QD : D → Prop) (QE : Ex → Prop), ArgsR K S H ks vs ds ∧ (∀ a, S a → H a ≠ none) ∧ F ds QD QE ∧
  (∀ d v H', QD d → Adv S H H' → Rp K H' v d → Q v H') ∧ ∀ x H' cls dd, QE x → Adv S H H' → RpX0 K ca H' x cls dd → E cls dd H'
/-- .. a new list -/
def spL (K : PySem.W.Frag) (ca : String → Addr) (ks : List PK) (F : List D → M (List D)) : Sp := fun vs H Q E => ∃ (S : Addr → Prop) (ds : List D) (QD : List D → Prop) (QE : Ex → Prop), ArgsR K S H ks vs ds ∧ (∀ a, S a → H a ≠ none) ∧ F ds QD QE ∧
  (∀ ds a ws H', QD ds → Adv S H H' → H a = none → H' a = some (.lst ws) → RpL K H' ws ds → ¬ S a → Q (.ref a) H') ∧ ∀ x H' cls dd, QE x → Adv S H H' → RpX0 K ca H' x cls dd → E cls dd H'
/-- .. data or a new list -/
def spM (K : PySem.W.Frag) (ca : String → Addr) (ks : List PK) (F : List D → M (D ⊕ List D)) : Sp := fun vs H Q E => ∃ (S : Addr → Prop) (ds : List D) (QD : D ⊕ List D → Prop) (QE : Ex → Prop), ArgsR K S H ks vs ds ∧ (∀ a, S a → H a ≠ none) ∧ F ds QD QE ∧
  (∀ d v H', QD (.inl d) → Adv S H H' → Rp K H' v d → Q v H') ∧ (∀ ds a ws H', QD (.inr ds) → Adv S H H' → H a = none → H' a = some (.lst ws) → RpL K H' ws ds → ¬ S a → Q (.ref a) H') ∧ ∀ x H' cls dd, QE x → Adv S H H' → RpX0 K ca H' x cls dd → E cls dd H'
/-- a def that stands in the module and keeps its promise -/
def Has (P : Program) (w : World) (K : PySem.W.Frag) (mg : Str → Option Value) (base : Heap) (name : Str) (j : Nat) (ps : List Str) (sp : Sp) : Prop :=
  ∃ f fd, mg name = some (.ref f) ∧ PySem.W.keepIn K (.ref f) = true ∧ Binds K fd ps [] ∧ FnOk P w K mg base (L2.CX P w) j f fd ps sp

section
variable {c : Site} {γ : Ctx} {e : Expr} {es : List Expr} {pos p : Pos} {x : Str} {ks : List PK} {ps : List Str} {j k : Nat} {ms : M (List D)}
theorem E_call {F : List D → M D} (G : Has c.X.prog c.X.w c.X.K c.X.mg c.X.base x j ps (spD c.X.K c.ca ks F)) (hr : Room k c.X.A) (hj : j ≤ k) (tk : Takes c.X c.W) (ha : SimA c γ (e :: es) ks ms) (hg : Gl c.X x := by rfl)
    (hdb : (x == ("__debug__" : Str)) = false := by decide) (he : starEach (e :: es) c.X.env = (false, eval e c.X.env) :: starEach es c.X.env := by exact star_cons rfl) (hpl : (backTo pos (starEach es c.X.env)).any (·.1) = false := by exact back_any rfl) :
    SimE c γ (.Call (.Name x p) (e :: es) [] pos) (M.bind ms F) := .mk fun σ H Fr QD QE hm hx Q kq => by
  obtain ⟨f, fd, h1, h2, h3, h4⟩ := G
  refine ev (pe_callS h4 (hr.mono hj) hg h1 h2 h3 (fun σ => passAt tk σ) AV.pa hdb he hpl) (ha σ H Fr _ QE hm hx _ fun ds vs H1 S' q a x n r => ?_)
  exact ⟨S', ds, QD, QE, r, n, q, fun d v H' qd a' r' => kq d v H' qd (a.shrink a' x) r', fun e H' cls dd qx a' r' => hx e H' cls dd qx (a.shrink a' x) r'⟩
theorem L_call {F : List D → M (List D)} (G : Has c.X.prog c.X.w c.X.K c.X.mg c.X.base x j ps (spL c.X.K c.ca ks F)) (hr : Room k c.X.A) (hj : j ≤ k) (tk : Takes c.X c.W) (ha : SimA c γ (e :: es) ks ms) (hg : Gl c.X x := by rfl)
    (hdb : (x == ("__debug__" : Str)) = false := by decide) (he : starEach (e :: es) c.X.env = (false, eval e c.X.env) :: starEach es c.X.env := by exact star_cons rfl) (hpl : (backTo pos (starEach es c.X.env)).any (·.1) = false := by exact back_any rfl) :
    SimL c γ (.Call (.Name x p) (e :: es) [] pos) (M.bind ms F) := .mk fun σ H Fr QD QE hm hx Q kq => by
  obtain ⟨f, fd, h1, h2, h3, h4⟩ := G
  refine ev (pe_callS h4 (hr.mono hj) hg h1 h2 h3 (fun σ => passAt tk σ) AV.pa hdb he hpl) (ha σ H Fr _ QE hm hx _ fun ds vs H1 S' q a x n r => ?_)
  exact ⟨S', ds, QD, QE, r, n, q, fun ds b ws H' qd a' n' h' r' s' => kq ds b ws H' qd (a.shrink a' x) (a.none n') h' r' fun z => s' (x.1 b z), fun e H' cls dd qx a' r' => hx e H' cls dd qx (a.shrink a' x) r'⟩
end

/-- the slots at the entry -/
def ctx0 : List PK → List D → Nat → Ctx
  | [], _, n => List.replicate n none
  | .d :: ks, d :: ds, n => some (.d d) :: ctx0 ks ds n
  | .d :: ks, [], n => none :: ctx0 ks [] n
  | .src m :: ks, ds, n => some (.src m) :: ctx0 ks ds n
def nD : List PK → Nat
  | [] => 0
  | .d :: ks => nD ks + 1
  | .src _ :: ks => nD ks
theorem ArgsR.nD {K : PySem.W.Frag} {S : Addr → Prop} {H : Hp} : ∀ {ks : List PK} {vs : List V} {ds : List D}, ArgsR K S H ks vs ds → ds.length = nD ks
  | [], [], [], _ => rfl
  | [], [], _ :: _, h => h.elim
  | [], _ :: _, _, h => h.elim
  | .d :: ks, v :: vs, d :: ds, h => by simp [ArgsR.nD h.2, Sm.nD]
  | .d :: ks, [], _, h => h.elim
  | .d :: ks, _ :: _, [], h => h.elim
  | .src n :: ks, v :: vs, ds, h => by simp [ArgsR.nD h.2, Sm.nD]
  | .src n :: ks, [], _, h => h.elim
theorem ctx0_val {c : Site} {H : Hp} : ∀ {ks : List PK} {vs : List V} {ds : List D} {n : Nat}, ArgsR c.X.K c.S H ks vs ds → ∀ (i : Nat) (b : B), (ctx0 ks ds n)[i]? = some (some b) → b.own = false ∧ ∃ v, vs[i]? = some v ∧ RB c H v b
  | [], [], [], n, _, i, b, e => by
    simp only [ctx0, List.getElem?_replicate] at e
    split at e <;> cases e
  | [], [], _ :: _, _, h, _, _, _ => h.elim
  | [], _ :: _, _, _, h, _, _, _ => h.elim
  | .d :: ks, v :: vs, d :: ds, n, h, 0, b, e => by simp [ctx0] at e; subst e; exact ⟨rfl, v, rfl, h.1⟩
  | .d :: ks, v :: vs, d :: ds, n, h, i + 1, b, e => by
    obtain ⟨h0, w, h1, h2⟩ := ctx0_val (n := n) h.2 i b (by simpa [ctx0] using e)
    exact ⟨h0, w, by simpa using h1, h2⟩
  | .d :: ks, [], _, _, h, _, _, _ => h.elim
  | .d :: ks, _ :: _, [], _, h, _, _, _ => h.elim
  | .src m :: ks, v :: vs, ds, n, h, 0, b, e => by simp [ctx0] at e; subst e; exact ⟨rfl, v, rfl, h.1⟩
  | .src m :: ks, v :: vs, ds, n, h, i + 1, b, e => by
    obtain ⟨h0, w, h1, h2⟩ := ctx0_val (n := n) h.2 i b (by simpa [ctx0] using e)
    exact ⟨h0, w, by simpa using h1, h2⟩
  | .src m :: ks, [], _, _, h, _, _, _ => h.elim

/-- a def's body -/
abbrev bodySite (P : Program) (w : World) (K : PySem.W.Frag) (mg : Str → Option Value) (base : Heap) (ca : String → Addr) (N : List Str) (qual : Str) (sc : Scope) (f : Addr) (cdv : Value) (A : Around) (outer : List Env) (s : Shared) (H : Hp) (E : XK) (S : Addr → Prop) (H0 : Hp) : Site where
  X := cxOf (L2.CX P w) P w K mg base N qual sc f cdv A outer s H E
  S := S
  H0 := H0
  W := fun cls d _ H => E cls d H
  ca := ca
  wr := fun _ => True
section
variable {P : Program} {w : World} {K : PySem.W.Frag} {mg : Str → Option Value} {base : Heap} {ca : String → Addr} {x qual : Str} {st : Stmt} {f : Addr} {fd : FuncData} {N ps : List Str} {k : Nat} {ks : List PK}
theorem FR.start {c : Site} {vs : List V} {ds : List D} {n : Nat} (r : ArgsR c.X.K c.S c.H0 ks vs ds) (hs : ∀ a, c.S a → c.H0 a ≠ none) : FR c (ctx0 ks ds n) (start N vs) c.H0 := by
  have q := ctx0_val (c := c) (n := n) r
  refine ⟨fun i b e => ?_, fun i j b b' a _ e _ h => ?_, fun i b a e h => ?_, .refl _ _, hs⟩
  · obtain ⟨_, v, h1, h2⟩ := q i b e
    refine ⟨v, ?_, h2⟩
    have hi := (List.getElem?_eq_some_iff.mp h1).1
    show (vs.map some ++ _)[i]? = _
    rw [List.getElem?_append_left (by simpa using hi), List.getElem?_map, h1] <;> rfl
  · rw [(q i b e).1] at h; cases h
  · rw [(q i b e).1] at h; cases h
theorem fnD {F : List D → M D} (F0 : Fun K x qual st f fd) (S0 : FnScope N ps (defScope st)) (hks : ks.length = ps.length)
    (hb : ∀ (cdv : Value) (A : Around) (outer : List Env) (s : Shared) (H : Hp) (E : XK) (S : Addr → Prop) (H0 : Hp), Room k (bodySite P w K mg base ca N qual (defScope st) f cdv A outer s H E S H0).X.A → Takes (bodySite P w K mg base ca N qual (defScope st) f cdv A outer s H E S H0).X (bodySite P w K mg base ca N qual (defScope st) f cdv A outer s H E S H0).W →
      PassesOwn (model P w) (bodySite P w K mg base ca N qual (defScope st) f cdv A outer s H E S H0).X.A (bodySite P w K mg base ca N qual (defScope st) f cdv A outer s H E S H0).X.env (bodySite P w K mg base ca N qual (defScope st) f cdv A outer s H E S H0).X.xe →
      ∀ ds, ds.length = nD ks → SimS (bodySite P w K mg base ca N qual (defScope st) f cdv A outer s H E S H0) [] (defBody st) (ctx0 ks ds (N.length - ps.length)) (F ds) Oc.rt) :
    FnOk P w K mg base (L2.CX P w) (k + 1) f fd ps (spD K ca ks F) := by
  refine F0.okX S0 (fun vs H Q E ⟨S, ds, QD, QE, r, _⟩ => by rw [r.len, hks]) fun cdv A outer s H vs Q E hr ⟨S, ds, QD, QE, r, hs, hm, hq, hx⟩ => ?_
  refine ⟨_, SV.pss, ?_⟩
  exact hb cdv A outer s H E S H hr (takes_of rfl rfl rfl rfl) (passes_of rfl) ds r.nD (start N vs) H (FR.start (c := bodySite P w K mg base ca N qual (defScope st) f cdv A outer s H E S H) r hs) QD QE hm (fun x σ' H' cls dd qx _ F' rx => hx x H' cls dd qx F'.base rx) _ fun d qo v H' a r' => hq d v H' qo a r'
/-- a def that hands back nothing -/
theorem fnU {F : List D → M D} {U : Type} {G : List D → M U} (hF : F = fun ds => M.bind (G ds) fun _ => M.pure .none) (F0 : Fun K x qual st f fd) (S0 : FnScope N ps (defScope st)) (hks : ks.length = ps.length)
    (hb : ∀ (cdv : Value) (A : Around) (outer : List Env) (s : Shared) (H : Hp) (E : XK) (S : Addr → Prop) (H0 : Hp), Room k (bodySite P w K mg base ca N qual (defScope st) f cdv A outer s H E S H0).X.A → Takes (bodySite P w K mg base ca N qual (defScope st) f cdv A outer s H E S H0).X (bodySite P w K mg base ca N qual (defScope st) f cdv A outer s H E S H0).W →
      PassesOwn (model P w) (bodySite P w K mg base ca N qual (defScope st) f cdv A outer s H E S H0).X.A (bodySite P w K mg base ca N qual (defScope st) f cdv A outer s H E S H0).X.env (bodySite P w K mg base ca N qual (defScope st) f cdv A outer s H E S H0).X.xe →
      ∀ ds, ds.length = nD ks → SimS (bodySite P w K mg base ca N qual (defScope st) f cdv A outer s H E S H0) [] (defBody st) (ctx0 ks ds (N.length - ps.length)) (G ds) (fun _ => Oc.nx [])) :
    FnOk P w K mg base (L2.CX P w) (k + 1) f fd ps (spD K ca ks F) := by
  subst hF
  refine F0.okX S0 (fun vs H Q E ⟨S, ds, QD, QE, r, _⟩ => by rw [r.len, hks]) fun cdv A outer s H vs Q E hr ⟨S, ds, QD, QE, r, hs, hm, hq, hx⟩ => ?_
  refine ⟨_, SV.pss, ?_⟩
  exact hb cdv A outer s H E S H hr (takes_of rfl rfl rfl rfl) (passes_of rfl) ds r.nD (start N vs) H (FR.start (c := bodySite P w K mg base ca N qual (defScope st) f cdv A outer s H E S H) r hs) (fun _ => QD .none) QE hm (fun x σ' H' cls dd qx _ F' rx => hx x H' cls dd qx F'.base rx) _ fun d qo σ' H' _ F' => hq .none .non H' qo F'.base .non
/-- a def that hands back data or a new list -/
theorem fnM {F : List D → M (D ⊕ List D)} (F0 : Fun K x qual st f fd) (S0 : FnScope N ps (defScope st)) (hks : ks.length = ps.length)
    (hb : ∀ (cdv : Value) (A : Around) (outer : List Env) (s : Shared) (H : Hp) (E : XK) (S : Addr → Prop) (H0 : Hp), Room k (bodySite P w K mg base ca N qual (defScope st) f cdv A outer s H E S H0).X.A → Takes (bodySite P w K mg base ca N qual (defScope st) f cdv A outer s H E S H0).X (bodySite P w K mg base ca N qual (defScope st) f cdv A outer s H E S H0).W →
      PassesOwn (model P w) (bodySite P w K mg base ca N qual (defScope st) f cdv A outer s H E S H0).X.A (bodySite P w K mg base ca N qual (defScope st) f cdv A outer s H E S H0).X.env (bodySite P w K mg base ca N qual (defScope st) f cdv A outer s H E S H0).X.xe →
      ∀ ds, ds.length = nD ks → SimS (bodySite P w K mg base ca N qual (defScope st) f cdv A outer s H E S H0) [] (defBody st) (ctx0 ks ds (N.length - ps.length)) (F ds) (fun o => match o with | .inl d => Oc.rt d | .inr ds => Oc.rl ds)) :
    FnOk P w K mg base (L2.CX P w) (k + 1) f fd ps (spM K ca ks F) := by
  refine F0.okX S0 (fun vs H Q E ⟨S, ds, QD, QE, r, _⟩ => by rw [r.len, hks]) fun cdv A outer s H vs Q E hr ⟨S, ds, QD, QE, r, hs, hm, hq, hq2, hx⟩ => ?_
  refine ⟨_, SV.pss, ?_⟩
  refine hb cdv A outer s H E S H hr (takes_of rfl rfl rfl rfl) (passes_of rfl) ds r.nD (start N vs) H (FR.start (c := bodySite P w K mg base ca N qual (defScope st) f cdv A outer s H E S H) r hs) QD QE hm (fun x σ' H' cls dd qx _ F' rx => hx x H' cls dd qx F'.base rx) _ fun o qo => ?_
  cases o with
  | inl d => exact fun v H' a r' => hq d v H' qo a r'
  | inr es => exact fun a ws H' ad n h r' s' => hq2 es a ws H' qo ad n h r' s'
theorem fnL {F : List D → M (List D)} (F0 : Fun K x qual st f fd) (S0 : FnScope N ps (defScope st)) (hks : ks.length = ps.length)
    (hb : ∀ (cdv : Value) (A : Around) (outer : List Env) (s : Shared) (H : Hp) (E : XK) (S : Addr → Prop) (H0 : Hp), Room k (bodySite P w K mg base ca N qual (defScope st) f cdv A outer s H E S H0).X.A → Takes (bodySite P w K mg base ca N qual (defScope st) f cdv A outer s H E S H0).X (bodySite P w K mg base ca N qual (defScope st) f cdv A outer s H E S H0).W →
      PassesOwn (model P w) (bodySite P w K mg base ca N qual (defScope st) f cdv A outer s H E S H0).X.A (bodySite P w K mg base ca N qual (defScope st) f cdv A outer s H E S H0).X.env (bodySite P w K mg base ca N qual (defScope st) f cdv A outer s H E S H0).X.xe →
      ∀ ds, ds.length = nD ks → SimS (bodySite P w K mg base ca N qual (defScope st) f cdv A outer s H E S H0) [] (defBody st) (ctx0 ks ds (N.length - ps.length)) (F ds) Oc.rl) :
    FnOk P w K mg base (L2.CX P w) (k + 1) f fd ps (spL K ca ks F) := by
  refine F0.okX S0 (fun vs H Q E ⟨S, ds, QD, QE, r, _⟩ => by rw [r.len, hks]) fun cdv A outer s H vs Q E hr ⟨S, ds, QD, QE, r, hs, hm, hq, hx⟩ => ?_
  refine ⟨_, SV.pss, ?_⟩
  exact hb cdv A outer s H E S H hr (takes_of rfl rfl rfl rfl) (passes_of rfl) ds r.nD (start N vs) H (FR.start (c := bodySite P w K mg base ca N qual (defScope st) f cdv A outer s H E S H) r hs) QD QE hm (fun x σ' H' cls dd qx _ F' rx => hx x H' cls dd qx F'.base rx) _ fun es qo a ws H' ad n h r' s' => hq es a ws H' qo ad n h r' s'
/-- what law(script) promises -/
def spLaw (K : PySem.W.Frag) : Sp := fun vs H Q _ => ∃ (a : Addr) (ns : List Int), vs = [.ref a] ∧ SqL K H a (ns.map V.int) ∧ ns.length ≤ 63 ∧ ∀ H', Q (.bl true) H'
theorem fnLaw {F : List D → M D} (hF : ∀ ns : List Int, ns.length ≤ 63 → F [.list (ns.map .int)] (fun d => d = .bool true) (fun _ => False)) (F0 : Fun K x qual st f fd) (S0 : FnScope N ps (defScope st)) (hks : 1 = ps.length)
    (hb : ∀ (cdv : Value) (A : Around) (outer : List Env) (s : Shared) (H : Hp) (E : XK) (S : Addr → Prop) (H0 : Hp), Room k (bodySite P w K mg base ca N qual (defScope st) f cdv A outer s H E S H0).X.A → Takes (bodySite P w K mg base ca N qual (defScope st) f cdv A outer s H E S H0).X (bodySite P w K mg base ca N qual (defScope st) f cdv A outer s H E S H0).W →
      PassesOwn (model P w) (bodySite P w K mg base ca N qual (defScope st) f cdv A outer s H E S H0).X.A (bodySite P w K mg base ca N qual (defScope st) f cdv A outer s H E S H0).X.env (bodySite P w K mg base ca N qual (defScope st) f cdv A outer s H E S H0).X.xe →
      ∀ ds, ds.length = nD [PK.d] → SimS (bodySite P w K mg base ca N qual (defScope st) f cdv A outer s H E S H0) [] (defBody st) (ctx0 [PK.d] ds (N.length - ps.length)) (F ds) Oc.rt) :
    FnOk P w K mg base (L2.CX P w) (k + 1) f fd ps (spLaw K) := by
  refine F0.okX S0 (fun vs H Q E ⟨a, ns, e, _⟩ => by rw [e]; exact hks) fun cdv A outer s H vs Q E hr ⟨a, ns, e, hq, hl, hQ⟩ => ?_
  subst e
  refine ⟨_, SV.pss, ?_⟩
  have go : ∀ H1 : Hp, FzL K H1 a (ns.map V.int) → SV (bodySite P w K mg base ca N qual (defScope st) f cdv A outer s H E (fun _ => False) H1).X (defBody st) { nx := fun _ H' => Q .non H', rt := Q } (start N [.ref a]) H1 := fun H1 hz => by
    have r : ArgsR K (fun _ => False) H1 [PK.d] [.ref a] [.list (ns.map .int)] := ⟨.lst hz (RpL.ofInts ns), trivial⟩
    exact hb cdv A outer s H E (fun _ => False) H1 hr (takes_of rfl rfl rfl rfl) (passes_of rfl) _ rfl (start N [.ref a]) H1 (FR.start (c := bodySite P w K mg base ca N qual (defScope st) f cdv A outer s H E (fun _ => False) H1) r fun _ h => h.elim) _ _ (hF ns hl) (fun _ _ _ _ _ z => z.elim) _ fun d qo v H' _ r' => by
      subst qo
      cases r'
      exact hQ H'
  rcases hq with (h | ⟨o, h⟩) | h
  · exact SV.freeze h fun o => go _ (.inl ⟨o, upd_same⟩)
  · exact go H (.inl ⟨o, h⟩)
  · exact go H (.inr h)
end
end Sm

set_option Elab.async false
set_option linter.all false
set_option maxRecDepth 100000
set_option maxHeartbeats 4000000
/-! Sm6: built-ins, list +, comprehensions, raise, try. -/
namespace Sm
open PySem PySem.Spec L2
open PyProof.Rows hiding St

section
variable {c : Site} {γx γ : Ctx} {α β : Type} {dec : α → Oc} {rest : List Stmt} {e a b : Expr} {pos pos' p : Pos} {k : Nat}

/-! ### list + -/
theorem op_catK {X : Cx} : OpR X (binaryOp .Add) (fun x y H Q => ∃ l b xs zs, x = .ref l ∧ y = .ref b ∧ SqL X.K H l xs ∧ SqL X.K H b zs ∧ xs.length + zs.length ≤ sizeLine ∧ ∀ p, H p = none → Q (.ref p) (upd H p (.lst (xs ++ zs)))) := by
  intro pins s σ H x y v u Q I rx ry h
  obtain ⟨l, b, xs, zs, rfl, rfl, hH, hB, hz, q⟩ := h
  cases rx
  cases ry
  obtain ⟨its, r, ⟨⟨cls, dd, data, sl⟩, n, ho, hc, hdd, hd⟩, z1⟩ := I.list hH
  obtain ⟨its2, r2, ⟨⟨cls2, dd2, data2, sl2⟩, n2, ho2, hc2, hdd2, hd2⟩, z2⟩ := I.list hB
  simp only at hc hdd hd hc2 hdd2 hd2
  subst hc hdd hd hc2 hdd2 hd2
  have ea : its.toArray ++ its2.toArray = (its ++ its2).toArray := by simp
  refine concat_meets ⟨_, ho, rfl⟩ ⟨_, ho2, rfl⟩ noFill_list_add seq_list_add PySem.F.slot_list_add PySem.F.entry_list_add (PySem.F.args_list_add_2 _ _) (PyProof.Rows.list_addW l b its.toArray its2.toArray n n2 none none sl sl2 (by rw [List.size_toArray, List.size_toArray, ← r.length, ← r2.length]; exact hz)) ⟨ho, ho2, ?_⟩
  rw [ea]
  exact ⟨.ref _, _, I.lnew (t' := s.toks) (r.append r2) (by rw [List.length_append]; omega), rfl, q _ I.fresh⟩
theorem RK.lst {H : Hp} {v : V} {ds : List D} (h : RK c H v (.list ds)) : ∃ a vs, v = .ref a ∧ SqL c.X.K H a vs ∧ RpL c.X.K H vs ds := by
  rcases h with h | ⟨a, vs, ds', e1, e2, h, r, n⟩
  · cases h with
    | lst hq r => exact ⟨_, _, rfl, hq.sq, r⟩
  · cases e2; exact ⟨a, vs, e1, SqL.of h, r⟩
def addL (x y : D) : M (List D) := match x, y with
  | .list xs, .list ys => M.guard (xs.length + ys.length ≤ sizeLine) (M.pure (xs ++ ys))
  | _, _ => M.fail
theorem L_add {ma mb : M D} (ha : SimK c γ a ma) (hb : SimK c γ b mb) : SimL c γ (.BinOp a .Add b pos) (M.bind ma fun x => M.bind mb fun y => addL x y) := .mk fun σ H F QD QE hm hx Q kq => by
  refine ev (pe_op op_catK EV.pe EV.pe) (ha σ H F _ QE hm hx _ fun d v H1 q1 a1 r1 => ?_)
  refine hb σ H1 (F.adv a1) _ QE q1 (hx.adv a1) _ fun d2 v2 H2 q2 a2 r2 => ?_
  have q2 : addL d d2 QD QE := q2
  unfold addL at q2
  split at q2
  · obtain ⟨p1, vs1, rfl, h1, s1⟩ := (r1.adv a2).lst
    obtain ⟨p2, vs2, rfl, h2, s2⟩ := r2.lst
    exact ⟨p1, p2, vs1, vs2, rfl, rfl, h1, h2, by rw [s1.length, s2.length]; exact q2.1, fun p hp => kq _ p _ _ q2.2 ((a1.trans a2).trans (.new hp)) ((a1.trans a2).none hp) upd_same ((s1.append s2).le (Le.new hp)) fun s => ((F.adv a1).adv a2).src p s hp⟩
  · exact q2.elim
/-- a list times an int -/
def mulL (xs : List D) (n : D) : M (List D) := match n with
  | .int k => M.guard (-(2 ^ 63) ≤ k ∧ k < 2 ^ 63 ∧ xs.length * k.toNat ≤ sizeLine) (M.pure (List.replicate k.toNat xs).flatten)
  | _ => M.fail
theorem L_mul {ma : M (List D)} {mb : M D} (ha : SimL c γ a ma) (hb : SimE c γ b mb) : SimL c γ (.BinOp a .Mult b pos) (M.bind ma fun x => M.bind mb fun y => mulL x y) := .mk fun σ H F QD QE hm hx Q kq => by
  refine ev (pe_op op_rep EV.pe EV.pe) (ha σ H F _ QE hm hx _ fun ds l vs H1 q1 a1 n1 h1 r1 s1 => ?_)
  refine hb σ H1 (F.adv a1) _ QE q1 (hx.adv a1) _ fun d2 v2 H2 q2 a2 r2 => ?_
  cases r2 <;> first | exact q2.elim | skip
  rename_i n
  refine ⟨l, n, vs, rfl, rfl, a2.keep h1 s1, q2.1.1, q2.1.2.1, by rw [r1.length]; exact q2.1.2.2, fun p hp => kq _ p _ _ q2.2 ((a1.trans a2).trans (.new hp)) ((a1.trans a2).none hp) upd_same (((r1.le a2.le).flat n.toNat).le (Le.new hp)) fun s => ((F.adv a1).adv a2).src p s hp⟩

/-! ### built-ins -/
theorem E_len {m : M D} (hm : c.X.mg "len" = none) (h : SimK c γ e m) (hg : Gl c.X "len" := by rfl) (he : starEach [e] c.X.env = (false, eval e c.X.env) :: starEach [] c.X.env := by exact star_cons rfl) : SimE c γ (.Call (.Name "len" p) [e] [] pos) (M.bind m opLen) := .mk fun σ H F QD QE q hx Q kq => by
  refine ev (pe_callB call_len hg hm PySem.boot_len (pa_cons EV.pe pa_nil he) (by decide) (by decide) he rfl) (h σ H F _ QE q hx _ fun d v H1 q1 a1 r1 => ?_)
  cases d with
  | str z =>
    refine ⟨v, z.length, rfl, ?_, kq _ _ H1 q1.2 a1 (.int _)⟩
    rw [r1.str]
    exact ⟨q1.1, rfl⟩
  | list ds =>
    obtain ⟨a, vs, rfl, h1, s1⟩ := r1.lst
    refine ⟨_, ds.length, rfl, .inl ⟨vs, h1, s1.length.symm⟩, kq _ _ H1 q1 a1 (.int _)⟩
  | tuple ds =>
    rcases r1 with r1 | ⟨_, _, _, _, e2, _⟩
    · cases r1 with
      | tup hq r => exact ⟨_, ds.length, rfl, .inr ⟨_, hq, r.length.symm⟩, kq _ _ H1 q1 a1 (.int _)⟩
    · cases e2
  | _ => exact q1.elim
def tyName : D → String
  | .none => "NoneType"
  | .bool _ => "bool"
  | .int _ => "int"
  | .str _ => "str"
  | .list _ => "list"
  | .tuple _ => "tuple"
  | .dict _ => "dict"
/-- isinstance(x, T), T a built-in class by name -/
def isInst (T : String) (d : D) : Bool := tyName d == T || (tyName d == "bool" && T == "int")
theorem kit_name (K : PySem.W.Frag) (T : String) (hT : T = "str" ∨ T = "tuple" ∨ T = "list" ∨ T = "int" ∨ T = "bool") (d : D) (hd : ∀ kvs, d ≠ .dict kvs) : PySem.W.kitOne K (.type (tyName d)) (.type T) = some (isInst T d) := by
  refine kit_ty ?_
  rcases hT with rfl | rfl | rfl | rfl | rfl <;> cases d <;> first | (exact absurd rfl (hd _)) | (simp only [tyName, isInst]; decide +kernel)
theorem RK.ty {H : Hp} {v : V} {d : D} (h : RK c H v d) : TyX c.X.K H v (.type (tyName d)) ∧ ∀ kvs, d ≠ .dict kvs := by
  rcases h with h | ⟨a, vs, ds, rfl, rfl, h, r, n⟩
  · cases h with
    | non => exact ⟨.base .non, fun _ z => nomatch z⟩
    | bl b => exact ⟨.base (.bl b), fun _ z => nomatch z⟩
    | int i => exact ⟨.base (.int i), fun _ z => nomatch z⟩
    | str x _ => exact ⟨.base (.str x), fun _ z => nomatch z⟩
    | lst hq r =>
      refine ⟨?_, fun _ z => nomatch z⟩
      rcases hq with ⟨o, h⟩ | ⟨o, its, n, h, hc, _⟩
      · exact .base (.frz h)
      · exact .kList h hc
    | tup hq r =>
      refine ⟨?_, fun _ z => nomatch z⟩
      rcases hq with (h | ⟨o, h⟩) | ⟨o, its, n, h, hc, _⟩
      · exact .base (.tup h)
      · exact .fTuple h
      · exact .kTuple h hc
  · exact ⟨.base (.lst h), fun _ z => nomatch z⟩
theorem E_isinst {T : String} {m : M D} {tx : Str} {p2 : Pos} (hm : c.X.mg "isinstance" = none) (hmT : c.X.mg tx = none) (hT : T = "str" ∨ T = "tuple" ∨ T = "list" ∨ T = "int" ∨ T = "bool") (hb : bootBuiltins tx = some (.type T)) (h : SimK c γ e m)
    (hg : Gl c.X "isinstance" := by rfl) (hgT : Gl c.X tx := by rfl) (hn : tx ≠ "__name__" := by decide) (hd : (tx == ("__debug__" : Str)) = false := by decide)
    (he : starEach [e, .Name tx p2] c.X.env = (false, eval e c.X.env) :: starEach [.Name tx p2] c.X.env := by exact star_cons rfl) (he2 : starEach [.Name tx p2] c.X.env = (false, eval (.Name tx p2) c.X.env) :: starEach [] c.X.env := by exact star_cons rfl) (hpl : (backTo pos (starEach [.Name tx p2] c.X.env)).any (·.1) = false := by exact back_any rfl) :
    SimE c γ (.Call (.Name "isinstance" p) [e, .Name tx p2] [] pos) (M.bind m fun d => M.pure (.bool (isInst T d))) := .mk fun σ H F QD QE q hx Q kq => by
  refine ev (pe_callB call_isi hg hm boot_isinstance (pa_cons EV.pe (pa_cons (pe_bltn (v := .ty T) hgT hmT hb rfl hn hd) pa_nil he2) he) (by decide) (by decide) he hpl) (h σ H F _ QE q hx _ fun d v H1 q1 a1 r1 => ?_)
  exact ⟨v, .ty T, _, _, _, rfl, .ty T, r1.ty.1, kit_name _ T hT d r1.ty.2, kq _ _ H1 q1 a1 (.bl _)⟩
def boolsM : List D → M (List Bool)
  | [] => M.pure []
  | d :: r => M.bind (tru d) fun b => M.bind (boolsM r) fun l => M.pure (b :: l)
def allM (d : D) : M D := M.bind (asList d) fun ds => M.bind (boolsM ds) fun l => M.pure (.bool (l.all id))
theorem bools_of {K : PySem.W.Frag} {H : Hp} : ∀ {ds : List D} {vs : List V} {QD : List Bool → Prop} {QE : Ex → Prop}, RpL K H vs ds → boolsM ds QD QE → ∃ l, vs = l.map V.bl ∧ QD l
  | [], _, QD, QE, r, h => by cases r; exact ⟨[], rfl, h⟩
  | d :: ds, _, QD, QE, r, h => by
    cases r with
    | cons r1 r2 =>
      cases r1 <;> first | exact (show False from h).elim | skip
      rename_i b
      obtain ⟨l, e, q⟩ := bools_of (QD := fun l => QD (b :: l)) (QE := QE) r2 h
      exact ⟨b :: l, by rw [e]; rfl, q⟩
theorem E_all {m : M D} (hc : c.X.calm = true) (hm : c.X.mg "all" = none) (h : SimK c γ e m) (hg : Gl c.X "all" := by rfl) (he : starEach [e] c.X.env = (false, eval e c.X.env) :: starEach [] c.X.env := by exact star_cons rfl) : SimE c γ (.Call (.Name "all" p) [e] [] pos) (M.bind m allM) := .mk fun σ H F QD QE q hx Q kq => by
  refine ev (pe_callB (cr_all hc) hg hm (by decide +kernel) (pa_cons EV.pe pa_nil he) (by decide) (by decide) he rfl) (h σ H F _ QE q hx _ fun d v H1 q1 a1 r1 => ?_)
  cases d <;> first | exact (show False from q1).elim | skip
  rename_i ds
  obtain ⟨a, vs, rfl, h1, s1⟩ := r1.lst
  obtain ⟨l, rfl, q2⟩ := bools_of s1 q1
  exact ⟨a, l, rfl, h1, kq _ _ H1 q2 a1 (.bl _)⟩
def intOf : D → M D
  | .int i => M.pure (.int i)
  | .bool b => M.pure (.int (if b then 1 else 0))
  | _ => M.fail
theorem E_intOf {m : M D} (hm : c.X.mg "int" = none) (h : SimE c γ e m) (hg : Gl c.X "int" := by rfl) (he : starEach [e] c.X.env = (false, eval e c.X.env) :: starEach [] c.X.env := by exact star_cons rfl) : SimE c γ (.Call (.Name "int" p) [e] [] pos) (M.bind m intOf) := .mk fun σ H F QD QE q hx Q kq => by
  refine ev (pe_callTy call_int1 hg hm boot_int (pa_cons EV.pe pa_nil he) (by decide) (by decide) he rfl) (h σ H F _ QE q hx _ fun d v H1 q1 a1 r1 => ?_)
  cases r1 <;> first | exact q1.elim | skip
  · exact .inr ⟨_, rfl, kq _ _ H1 q1 a1 (.int _)⟩
  · exact .inl ⟨_, rfl, kq _ _ H1 q1 a1 (.int _)⟩
def tupOf : D → M D
  | .list ds => M.pure (.tuple ds)
  | .tuple ds => M.pure (.tuple ds)
  | _ => M.fail
/-- tuple(x) of a list or a tuple -/
theorem E_tupOf {m : M D} (hm : c.X.mg "tuple" = none) (h : SimK c γ e m) (hg : Gl c.X "tuple" := by rfl) (he : starEach [e] c.X.env = (false, eval e c.X.env) :: starEach [] c.X.env := by exact star_cons rfl) : SimE c γ (.Call (.Name "tuple" p) [e] [] pos) (M.bind m tupOf) := .mk fun σ H F QD QE q hx Q kq => by
  refine ev (pe_callTy call_tuple_of hg hm boot_tuple (pa_cons EV.pe pa_nil he) (by decide) (by decide) he rfl) (h σ H F _ QE q hx _ fun d v H1 q1 a1 r1 => ?_)
  cases d <;> first | exact (show False from q1).elim | skip
  · obtain ⟨a, vs, rfl, h1, s1⟩ := r1.lst
    exact ⟨a, vs, rfl, .inl ⟨h1, fun l hl => kq _ _ _ q1 (a1.trans (.new hl)) (.tup (SqT.of upd_same) (s1.le (Le.new hl)))⟩⟩
  · rcases r1 with r1 | ⟨_, _, _, _, e2, _⟩
    · cases r1 with
      | tup hq r => exact ⟨_, _, rfl, .inr ⟨hq, kq _ _ H1 q1 a1 (.tup hq r)⟩⟩
    · cases e2
/-- list(x) of a list or a tuple -/
theorem L_listOf {m : M D} (hm : c.X.mg "list" = none) (h : SimK c γ e m) (hg : Gl c.X "list" := by rfl) (he : starEach [e] c.X.env = (false, eval e c.X.env) :: starEach [] c.X.env := by exact star_cons rfl) : SimL c γ (.Call (.Name "list" p) [e] [] pos) (M.bind m items) := .mk fun σ H F QD QE q hx Q kq => by
  refine ev (pe_callTy call_list_of hg hm boot_list (pa_cons EV.pe pa_nil he) (by decide) (by decide) he rfl) (h σ H F _ QE q hx _ fun d v H1 q1 a1 r1 => ?_)
  cases d <;> first | exact (show False from q1).elim | skip
  · obtain ⟨a, vs, rfl, h1, s1⟩ := r1.lst
    exact ⟨a, vs, rfl, .inl h1, fun l hl => kq _ l _ _ q1 (a1.trans (.new hl)) (a1.none hl) upd_same (s1.le (Le.new hl)) fun s => (F.adv a1).src l s hl⟩
  · rcases r1 with r1 | ⟨_, _, _, _, e2, _⟩
    · cases r1 with
      | tup hq r => exact ⟨_, _, rfl, .inr hq, fun l hl => kq _ l _ _ q1 (a1.trans (.new hl)) (a1.none hl) upd_same (r.le (Le.new hl)) fun s => (F.adv a1).src l s hl⟩
    · cases e2
def opMax : D → D → M D
  | .int i, .int j => M.pure (.int (if j > i then j else i))
  | _, _ => M.fail
def opMin : D → D → M D
  | .int i, .int j => M.pure (.int (if j < i then j else i))
  | _, _ => M.fail
theorem E_max {ma mb : M D} (hc : c.X.calm = true) (hm : c.X.mg "max" = none) (ha : SimE c γ a ma) (hb : SimE c γ b mb) (hg : Gl c.X "max" := by rfl) (he : starEach [a, b] c.X.env = (false, eval a c.X.env) :: starEach [b] c.X.env := by exact star_cons rfl) (he2 : starEach [b] c.X.env = (false, eval b c.X.env) :: starEach [] c.X.env := by exact star_cons rfl)
    (hpl : (backTo pos (starEach [b] c.X.env)).any (·.1) = false := by exact back_any rfl) : SimE c γ (.Call (.Name "max" p) [a, b] [] pos) (M.bind ma fun x => M.bind mb fun y => opMax x y) := .mk fun σ H F QD QE q hx Q kq => by
  refine ev (pe_callB (call_max2 hc) hg hm (by decide +kernel) (pa_cons EV.pe (pa_cons EV.pe pa_nil he2) he) (by decide) (by decide) he hpl) (ha σ H F _ QE q hx _ fun d v H1 q1 a1 r1 => ?_)
  refine hb σ H1 (F.adv a1) _ QE q1 (hx.adv a1) _ fun d2 v2 H2 q2 a2 r2 => ?_
  cases r1 <;> cases r2 <;> first | exact (show False from q2).elim | skip
  exact ⟨_, _, rfl, kq _ _ H2 q2 (a1.trans a2) (.int _)⟩
theorem E_min {ma mb : M D} (hc : c.X.calm = true) (hm : c.X.mg "min" = none) (ha : SimE c γ a ma) (hb : SimE c γ b mb) (hg : Gl c.X "min" := by rfl) (he : starEach [a, b] c.X.env = (false, eval a c.X.env) :: starEach [b] c.X.env := by exact star_cons rfl) (he2 : starEach [b] c.X.env = (false, eval b c.X.env) :: starEach [] c.X.env := by exact star_cons rfl)
    (hpl : (backTo pos (starEach [b] c.X.env)).any (·.1) = false := by exact back_any rfl) : SimE c γ (.Call (.Name "min" p) [a, b] [] pos) (M.bind ma fun x => M.bind mb fun y => opMin x y) := .mk fun σ H F QD QE q hx Q kq => by
  refine ev (pe_callB (call_min2 hc) hg hm (by decide +kernel) (pa_cons EV.pe (pa_cons EV.pe pa_nil he2) he) (by decide) (by decide) he hpl) (ha σ H F _ QE q hx _ fun d v H1 q1 a1 r1 => ?_)
  refine hb σ H1 (F.adv a1) _ QE q1 (hx.adv a1) _ fun d2 v2 H2 q2 a2 r2 => ?_
  cases r1 <;> cases r2 <;> first | exact (show False from q2).elim | skip
  exact ⟨_, _, rfl, kq _ _ H2 q2 (a1.trans a2) (.int _)⟩
end

/-! ### comprehensions -/
/-- the slots of a comprehension's own names forgotten -/
def clr (γ : Ctx) : List Nat → Ctx
  | [] => γ
  | v :: vs => (clr γ vs).set v none
theorem clr_get {γ : Ctx} {i : Nat} {b : B} : ∀ {vs : List Nat}, (clr γ vs)[i]? = some (some b) → γ[i]? = some (some b) ∧ i ∉ vs
  | [], h => ⟨h, by simp⟩
  | v :: vs, h => by
    unfold clr at h
    by_cases hi : v = i
    · subst hi
      by_cases hv : v < (clr γ vs).length
      · rw [List.getElem?_set_self hv] at h; cases h
      · rw [List.getElem?_eq_none (by simpa using hv)] at h; cases h
    · rw [List.getElem?_set_ne hi] at h
      obtain ⟨h1, h2⟩ := clr_get h
      exact ⟨h1, by simp only [List.mem_cons, not_or]; exact ⟨fun e => hi e.symm, h2⟩⟩
theorem FR.clr {c : Site} {γ : Ctx} {σ : St} {H : Hp} (F : FR c γ σ H) (vs : List Nat) : FR c (clr γ vs) (wipe σ vs) H := by
  refine ⟨fun i b e => ?_, fun i j b b' x n e e' h h' z => ?_, fun i b x e h z => ?_, F.base, F.src⟩
  · obtain ⟨h1, h2⟩ := clr_get e
    obtain ⟨v, h3, h4⟩ := F.val i b h1
    exact ⟨v, by rw [wipe_out h2]; exact h3, h4⟩
  · obtain ⟨h1, h2⟩ := clr_get e
    obtain ⟨h3, h4⟩ := clr_get e'
    rw [wipe_out h2] at z
    rw [wipe_out h4]
    exact F.sep i j b b' x n h1 h3 h h' z
  · obtain ⟨h1, h2⟩ := clr_get e
    rw [wipe_out h2] at z
    exact F.new i b x h1 h z
theorem wipe_in {σ : St} {i : Nat} : ∀ {vs : List Nat}, i ∈ vs → (wipe σ vs)[i]? = if i < σ.length then some none else none
  | v :: vs, h => by
    unfold wipe
    by_cases hv : v = i
    · subst hv
      by_cases hl : v < σ.length
      · rw [List.getElem?_set_self (by rw [wipe_length]; exact hl), if_pos hl]
      · rw [List.getElem?_eq_none (by rw [List.length_set, wipe_length]; omega), if_neg hl]
    · have h2 : i ∈ vs := by
        rcases List.mem_cons.mp h with z | z
        · exact absurd z.symm hv
        · exact z
      rw [List.getElem?_set_ne hv]
      exact wipe_in h2
theorem wipe_eq {σ σ' : St} {vs : List Nat} (hl : σ'.length = σ.length) (h : ∀ i, i ∉ vs → σ'[i]? = σ[i]?) : wipe σ' vs = wipe σ vs := by
  refine List.ext_getElem? fun i => ?_
  by_cases hi : i ∈ vs
  · rw [wipe_in hi, wipe_in hi, hl]
  · rw [wipe_out hi, wipe_out hi, h i hi]
/-- the site of a comprehension's block -/
abbrev blkSite (c : Site) (scope : Scope) (vs : List Nat) (s : Shared) (H : Hp) (C : Addr) (cl : List (Str × Addr)) (fp : List Addr) : Site where
  X := c.X.blk s H scope (compEnvC scope cl C c.X.env) fp
  S := c.S
  H0 := c.H0
  W := fun _ _ _ _ => False
  ca := c.ca
  wr := fun i => i ∈ vs
theorem FR.blk {c : Site} {γ : Ctx} {σ : St} {H : Hp} {scope : Scope} {vs : List Nat} {s : Shared} {H1 : Hp} {C : Addr} {cl : List (Str × Addr)} {fp : List Addr} (F : FR c γ σ H) : FR (blkSite c scope vs s H1 C cl fp) γ σ H := ⟨F.val, F.sep, F.new, F.base, F.src⟩
/-- what is wanted behind the target: the element, if the tests are met -/
def RC (c' : Site) (elt : Expr) : RW (Option D) := fun σ H QD QE => Xok c' σ H QE → EV c'.X elt σ H (fun v H' => ∃ d, QD (some d) ∧ Adv c'.S H H' ∧ Rp c'.X.K H' v d)
def RC1 (c : Site) (scope : Scope) (vs : List Nat) (t elt : Expr) (c' : Site) : RW (Option D) := fun σ H QD QE => (∀ x, ¬ QE x) → TV c'.X t σ H (fun b H1 => Adv c.S H H1 ∧ if b = true then ∀ (s : Shared) (H2 : Hp) (C : Addr) (cl : List (Str × Addr)) (fp : List Addr), EV (blkSite c scope vs s H2 C cl fp).X elt σ H1 (fun v H' => ∃ d, QD (some d) ∧ Adv c.S H1 H' ∧ Rp c.X.K H' v d) else QD none)
section
variable {c : Site} {γ : Ctx} {elt tg it t : Expr} {scope : Scope} {own : List (Str × Nat)} {pos : Pos} {me : M D} {mt : M Bool}
theorem C_0 {c' : Site} {γ : Ctx} (h : SimE c' γ elt me) : SimX (RC c' elt) c' γ (M.bind me fun d => M.pure (some d)) := .mk fun σ H F QD QE hm hx => h σ H F _ QE hm hx _ fun d v H' q a r => ⟨d, q, a, r⟩
theorem C_1 {vs : List Nat} {γ : Ctx} {s : Shared} {H1 : Hp} {C : Addr} {cl : List (Str × Addr)} {fp : List Addr} (ht : SimT (blkSite c scope vs s H1 C cl fp) γ t mt) (h : ∀ (s : Shared) (H1 : Hp) (C : Addr) (cl : List (Str × Addr)) (fp : List Addr), SimE (blkSite c scope vs s H1 C cl fp) γ elt me) :
    SimX (RC1 c scope vs t elt (blkSite c scope vs s H1 C cl fp)) (blkSite c scope vs s H1 C cl fp) γ (M.bind mt fun b => M.ite b (M.bind me fun d => M.pure (some d)) (M.pure none)) := .mk fun σ H F QD QE hm hx =>
  ht σ H F _ QE hm (fun x H' cls dd q _ _ => hx x q) _ fun b H1 q a => ⟨a, by
    cases b with
    | true => exact iteT fun s' H2 C' cl' fp' => h s' H2 C' cl' fp' σ H1 ⟨(F.adv a).val, (F.adv a).sep, (F.adv a).new, (F.adv a).base, (F.adv a).src⟩ _ QE q (fun x H' cls dd q _ _ => hx x q) _ fun d v H' q' a' r => ⟨d, q', a', r⟩
    | false => exact iteF q⟩
/-- the readings of the block, whatever the block's own frame is -/
def gAll (X : Cx) (scope : Scope) (tg : Expr) : TG := fun v σ H Q => ∀ (s : Shared) (H1 : Hp) (C : Addr) (cl : List (Str × Addr)) (fp : List Addr), GV (X.blk s H1 scope (compEnvC scope cl C X.env) fp) tg v σ H Q
def eAll (X : Cx) (scope : Scope) (e : Expr) : TE := fun σ H Q => ∀ (s : Shared) (H1 : Hp) (C : Addr) (cl : List (Str × Addr)) (fp : List Addr), EV (X.blk s H1 scope (compEnvC scope cl C X.env) fp) e σ H Q
def tAll (X : Cx) (scope : Scope) (e : Expr) : TT := fun σ H Q => ∀ (s : Shared) (H1 : Hp) (C : Addr) (cl : List (Str × Addr)) (fp : List Addr), TV (X.blk s H1 scope (compEnvC scope cl C X.env) fp) e σ H Q
theorem gAll_pg (s : Shared) (H : Hp) (C : Addr) (cl : List (Str × Addr)) (fp : List Addr) : PG (c.X.blk s H scope (compEnvC scope cl C c.X.env) fp) tg (gAll c.X scope tg) := ⟨fun pins st _ _ _ u _ I r h => h s H C cl fp pins st u I r⟩
theorem eAll_pe (s : Shared) (H : Hp) (C : Addr) (cl : List (Str × Addr)) (fp : List Addr) : PE (c.X.blk s H scope (compEnvC scope cl C c.X.env) fp) elt (eAll c.X scope elt) := ⟨fun pins st _ _ _ I h => h s H C cl fp pins st I⟩
theorem tAll_pt (s : Shared) (H : Hp) (C : Addr) (cl : List (Str × Addr)) (fp : List Addr) : PT (c.X.blk s H scope (compEnvC scope cl C c.X.env) fp) t (tAll c.X scope t) := ⟨fun pins st _ _ _ I h => h s H C cl fp pins st I⟩
end
end Sm

set_option Elab.async false
set_option linter.all false
set_option maxRecDepth 100000
set_option maxHeartbeats 4000000
/-! Sm7: comprehensions, raise, try. -/
namespace Sm
open PySem PySem.Spec L2
open PyProof.Rows hiding St

section
variable {c : Site} {γx γ : Ctx} {α : Type} {dec : α → Oc} {rest : List Stmt} {elt tg it t : Expr} {scope : Scope} {own : List (Str × Nat)} {pos spos py : Pos} {vs : List Nat} {f : D → M (Option D)} {mi : M (List D)}
/-- the target takes an item, whatever is wanted of the block behind it -/
abbrev CompB.T (c : Site) (scope : Scope) (vs : List Nat) (Rc : Site → RW (Option D)) (tg : Expr) (γ : Ctx) (d : D) (m : M (Option D)) : Prop := ∀ (R : RW (Option D)) (s : Shared) (H1 : Hp) (C : Addr) (cl : List (Str × Addr)) (fp : List Addr),
  (∀ γ' m', (∀ (s : Shared) (H1 : Hp) (C : Addr) (cl : List (Str × Addr)) (fp : List Addr), SimX (Rc (blkSite c scope vs s H1 C cl fp)) (blkSite c scope vs s H1 C cl fp) γ' m') → SimX R (blkSite c scope vs s H1 C cl fp) γ' m') → SimB R (blkSite c scope vs s H1 C cl fp) tg γ d m
structure CompB (c : Site) (scope : Scope) (vs : List Nat) (Rc : Site → RW (Option D)) (tg : Expr) (γ : Ctx) (d : D) (m : M (Option D)) : Prop where
  run : CompB.T c scope vs Rc tg γ d m
instance {c : Site} {scope : Scope} {vs : List Nat} {Rc : Site → RW (Option D)} {tg : Expr} {γ : Ctx} {d : D} {m : M (Option D)} : CoeFun (CompB c scope vs Rc tg γ d m) (fun _ => CompB.T c scope vs Rc tg γ d m) := ⟨CompB.run⟩
theorem lc_main {tt : TT} {Rc : Site → RW (Option D)} (hi : SimI c tg γ it mi) (hb : ∀ d, CompB c scope vs Rc tg (clr γ vs) d (f d))
    (hR : ∀ σ2 H2 (QDo : Option D → Prop) (Qe : V → Hp → Prop) (Qn : Hp → Prop), (∀ (s : Shared) (H1 : Hp) (C : Addr) (cl : List (Str × Addr)) (fp : List Addr), Rc (blkSite c scope vs s H1 C cl fp) σ2 H2 QDo (fun _ => False)) →
      (∀ d v H', QDo (some d) → Adv c.S H2 H' → Rp c.X.K H' v d → Qe v H') → (∀ H', QDo none → Adv c.S H2 H' → Qn H') → tt σ2 H2 fun b H3 => if b = true then eAll c.X scope elt σ2 H3 Qe else Qn H3)
    {σ : St} {H : Hp} (F : FR c γ σ H) {QD : List D → Prop} {QE : Ex → Prop} (hm : (M.bind mi fun xs => M.nox (M.mapC f xs)) QD QE) (hx : Xok c σ H QE) {Q : VK}
    (kq : ∀ ds a ws H', QD ds → Adv c.S H H' → H a = none → H' a = some (.lst ws) → RpL c.X.K H' ws ds → ¬ c.S a → Q (.ref a) H') : tLc (IV c.X tg it) (gAll c.X scope tg) tt (eAll c.X scope elt) vs σ H Q := by
  refine hi σ H F _ QE hm hx _ fun ds J G H1 q a hz w g0 gl => fun D hD => ?_
  have F1 := F.adv a
  have nS : ¬ c.S D := fun s => F1.src D s hD
  refine lc_it w (fun i H' => ∃ acc accD, Adv c.S H1 H' ∧ H' D = some (.lst acc) ∧ RpL c.X.K H' acc accD ∧ acc.length ≤ i ∧ G H' ∧ M.mapC f (ds.drop i) (fun l => QD (accD ++ l)) (fun _ => False))
    ⟨[], [], .new hD, upd_same, .nil, Nat.le_refl _, gl _ _ g0 (Le.new hD), by rw [List.drop_zero]; exact q⟩ (fun i H' _ ⟨_, _, _, _, _, _, g, _⟩ => g) ?_ ?_
  · rintro i v H' H'' hlt ⟨acc, accD, a1, hd, rr, hl, g, q'⟩ ⟨a2, d, hdi, rv⟩
    have e : ds.drop i = d :: ds.drop (i + 1) := by
      obtain ⟨h1, h2⟩ := List.getElem?_eq_some_iff.mp hdi
      rw [← h2]
      exact List.drop_eq_getElem_cons h1
    rw [e] at q'
    intro s Hs C cl fp pins st u I ru
    have F2 : FR (blkSite c scope vs s Hs C cl fp) (clr γ vs) (wipe σ vs) H'' := ((F1.adv (a1.trans a2)).clr vs).blk
    refine thn (hb d (fun σ2 H2 QDo QE' => ∀ (s : Shared) (H1 : Hp) (C : Addr) (cl : List (Str × Addr)) (fp : List Addr), Rc (blkSite c scope vs s H1 C cl fp) σ2 H2 QDo QE') s Hs C cl fp
      (fun γ' m' h => .mk fun σ2 H2 F' QD' QE' hm' s2 Hs2 C2 cl2 fp2 => h s2 Hs2 C2 cl2 fp2 σ2 H2 ⟨F'.val, F'.sep, F'.new, F'.base, F'.src⟩ QD' QE' hm') (wipe σ vs) H'' v F2 rv _ _ q' pins st u I ru) fun _ s' ⟨σ2, H2, I2, e2, oe, z⟩ => ⟨σ2, H2, I2, ?_⟩
    subst e2
    have we : wipe σ2 vs = wipe σ vs := by
      rw [wipe_eq (σ := wipe σ vs) oe.1 oe.2]
      exact wipe_eq (wipe_length σ vs) fun i hi => wipe_out hi
    refine ⟨we, hR σ2 H2 _ _ _ z (fun d' y H4 q4 a4 r4 => ?_) fun H4 q4 a4 => ?_⟩
    · have ad := a2.trans a4
      have h4 := ad.keep hd nS
      have l : Le H4 (upd H4 D (.lst (acc ++ [y]))) := Le.mut h4 trivial
      refine ⟨acc, h4, by omega, acc ++ [y], accD ++ [d'], (a1.trans ad).put hD h4 lst_ne, upd_same, ((rr.le ad.le).append (.cons r4 .nil)).le l, by rw [List.length_append]; show acc.length + 1 ≤ i + 1; omega, gl _ _ (gl _ _ g ad.le) l, ?_⟩
      · have q5 : M.mapC f (ds.drop (i + 1)) (fun l => QD (accD ++ d' :: l)) (fun _ => False) := q4
        have e5 : (fun l => QD (accD ++ [d'] ++ l)) = fun l => QD (accD ++ d' :: l) := by
          funext l
          rw [List.append_assoc]
          rfl
        rw [e5]
        exact q5
    · have ad := a2.trans a4
      exact ⟨acc, accD, a1.trans ad, ad.keep hd nS, rr.le ad.le, by omega, gl _ _ g ad.le, q4⟩
  · rintro H' ⟨acc, accD, a1, hd, rr, hl, g, q'⟩
    rw [List.drop_length] at q'
    have q2 : QD (accD ++ []) := q'
    rw [List.append_nil] at q2
    exact kq accD D acc H' q2 (a.trans a1) (a.none hD) hd rr nS
theorem tests0 {c : Site} {scope : Scope} {vs : List Nat} {elt : Expr} (σ2 : St) (H2 : Hp) (QDo : Option D → Prop) (Qe : V → Hp → Prop) (Qn : Hp → Prop) (h : ∀ (s : Shared) (H1 : Hp) (C : Addr) (cl : List (Str × Addr)) (fp : List Addr), RC (blkSite c scope vs s H1 C cl fp) elt σ2 H2 QDo (fun _ => False))
    (k : ∀ d v H', QDo (some d) → Adv c.S H2 H' → Rp c.X.K H' v d → Qe v H') : tYes σ2 H2 fun b H3 => if b = true then eAll c.X scope elt σ2 H3 Qe else Qn H3 := by
  show if true = true then eAll c.X scope elt σ2 H2 Qe else Qn H2
  exact iteT fun s Hs C cl fp => (h s Hs C cl fp (fun x H' cls dd z _ _ => z.elim)).mono fun v H' ⟨d, q, a, r⟩ => k d v H' q a r
theorem TV.mono {X : Cx} {e : Expr} {σ : St} {H : Hp} {Q Q' : Bool → Hp → Prop} (h : TV X e σ H Q) (k : ∀ v H', Q v H' → Q' v H') : TV X e σ H Q' := fun pins s I => thn (h pins s I) fun u s' ⟨H', I', q⟩ => ⟨H', I', k u H' q⟩
theorem tests1 {c : Site} {scope : Scope} {vs : List Nat} {t elt : Expr} (σ2 : St) (H2 : Hp) (QDo : Option D → Prop) (Qe : V → Hp → Prop) (Qn : Hp → Prop) (h : ∀ (s : Shared) (H1 : Hp) (C : Addr) (cl : List (Str × Addr)) (fp : List Addr), RC1 c scope vs t elt (blkSite c scope vs s H1 C cl fp) σ2 H2 QDo (fun _ => False))
    (k : ∀ d v H', QDo (some d) → Adv c.S H2 H' → Rp c.X.K H' v d → Qe v H') (k2 : ∀ H', QDo none → Adv c.S H2 H' → Qn H') : tAll c.X scope t σ2 H2 fun b H3 => if b = true then eAll c.X scope elt σ2 H3 Qe else Qn H3 := fun s Hs C cl fp =>
  TV.mono (h s Hs C cl fp (fun x z => z)) fun b H3 ⟨a, q⟩ => by
    cases b with
    | true =>
      rw [if_pos rfl] at q
      exact iteT fun s' Hs' C' cl' fp' => (q s' Hs' C' cl' fp').mono fun v H' ⟨d, q', a', r⟩ => k d v H' q' (a.trans a') r
    | false =>
      rw [if_neg Bool.false_ne_true] at q
      exact iteF (k2 H3 q a)
abbrev Rc0 (elt : Expr) : Site → RW (Option D) := fun c' => RC c' elt
/-- [elt for tg in it] -/
theorem L_comp (own : List (Str × Nat)) (hc : c.X.calm = true) (hN : c.X.N.Nodup) (ok : BlkOk c.X.N c.X.env.scope scope own) (hi : SimI c tg γ it mi) (hb : ∀ d, CompB c scope (own.map (·.2)) (Rc0 elt) tg (clr γ (own.map (·.2))) d (f d)) (hs : ∀ x, foldedSetIterable it c.X.env x = pure x := by intro _; rfl) :
    SimL c γ (.ListComp elt [⟨tg, it, [], 0⟩] scope pos) (M.bind mi fun xs => M.nox (M.mapC f xs)) := .mk fun σ H F QD QE hm hx Q k =>
  ev (pe_lc (own := own) (g := gAll c.X scope tg) (tt := tYes) (te := eAll c.X scope elt) hc hN IV.pi ok (fun s H C cl fp => gAll_pg s H C cl fp) (fun _ _ _ _ _ => pts_nil) (fun s H C cl fp => eAll_pe s H C cl fp) hs)
    (lc_main hi hb (fun σ2 H2 QDo Qe Qn h k1 k2 => tests0 σ2 H2 QDo Qe Qn h k1) F hm hx k)
/-- [elt for tg in it if t] -/
theorem L_compIf (own : List (Str × Nat)) (hc : c.X.calm = true) (hN : c.X.N.Nodup) (ok : BlkOk c.X.N c.X.env.scope scope own) (hi : SimI c tg γ it mi) (hb : ∀ d, CompB c scope (own.map (·.2)) (RC1 c scope (own.map (·.2)) t elt) tg (clr γ (own.map (·.2))) d (f d)) (hs : ∀ x, foldedSetIterable it c.X.env x = pure x := by intro _; rfl) :
    SimL c γ (.ListComp elt [⟨tg, it, [t], 0⟩] scope pos) (M.bind mi fun xs => M.nox (M.mapC f xs)) := .mk fun σ H F QD QE hm hx Q k =>
  ev (pe_lc (own := own) (g := gAll c.X scope tg) (tt := tAll c.X scope t) (te := eAll c.X scope elt) hc hN IV.pi ok (fun s H C cl fp => gAll_pg s H C cl fp) (fun s H C cl fp => pts_one (tAll_pt s H C cl fp)) (fun s H C cl fp => eAll_pe s H C cl fp) hs)
    (lc_main hi hb (fun σ2 H2 QDo Qe Qn h k1 k2 => tests1 σ2 H2 QDo Qe Qn h k1 k2) F hm hx k)
theorem FR.set_new {σ : St} {H H' : Hp} {i : Nat} {x : Str} {a : Addr} {ws : List V} {ds : List D} (F : FR c γ σ H) (hlen : σ.length = c.X.N.length) (hi : c.X.N[i]? = some x) (ad : Adv c.S H H') (h0 : H a = none) (h1 : H' a = some (.lst ws)) (r : RpL c.X.K H' ws ds) (ns : ¬ c.S a) :
    FR c (γ.set i (some (.ml ds))) (σ.set i (some (.ref a))) H' := (F.adv ad).set_own (by rw [hlen]; exact (List.getElem?_eq_some_iff.mp hi).1) ⟨a, ws, rfl, h1, r, ns⟩ (F.base.none h0) fun j b' e2 ho z => by
      obtain ⟨v, e3, rb⟩ := F.val j b' e2
      rw [z] at e3
      cases e3
      cases b' with
      | ml ys => obtain ⟨p, ws, e4, q4, _⟩ := rb; cases e4; rw [h0] at q4; cases q4
      | dk ys => obtain ⟨p, ws, e4, q4, _⟩ := rb; cases e4; rw [h0] at q4; cases q4
      | dn ys => obtain ⟨p, ws, e4, q4, _⟩ := rb; cases e4; rw [h0] at q4; cases q4
      | d _ => cases ho
      | fv _ => cases ho
      | src _ => cases ho
/-- name = [elt for tg in it] on one line -/
theorem S_comp (own : List (Str × Nat)) (i : Nat) {y : Str} {m2 : List D → M α} (hc : c.X.calm = true) (hN : c.X.N.Nodup) (ok : BlkOk c.X.N c.X.env.scope scope own) (hi : SimI c tg γ it mi) (hb : ∀ d, CompB c scope (own.map (·.2)) (Rc0 elt) tg (clr γ (own.map (·.2))) d (f d)) (hr : ∀ ds, SimS c γx rest (γ.set i (some (.ml ds))) (m2 ds) dec)
    (hx : Sub γx γ := by exact Sub.nil) (hy : c.X.N[i]? = some y := by rfl) (hyl : c.X.env.scope.names.lookup y = some .local := by rfl) (hsw : swapsWith (.ListComp elt [⟨tg, it, [], 0⟩] scope pos) (some (.Name y py)) spos.line c.X.env = pure true := by exact sw_true rfl rfl rfl (by decide +kernel)) (hs : ∀ x, foldedSetIterable it c.X.env x = pure x := by intro _; rfl) :
    SimS c γx (.Assign [.Name y py] (.ListComp elt [⟨tg, it, [], 0⟩] scope pos) spos :: rest) γ (M.bind (M.bind mi fun xs => M.nox (M.mapC f xs)) m2) dec := .mk fun σ H F QD QE hm hxx D k => SV.len fun hlen =>
  SV.cons (sv1 (ps_setLc (own := own) (g := gAll c.X scope tg) (tt := tYes) (te := eAll c.X scope elt) hc hN hy hyl hsw IV.pi ok (fun s H C cl fp => gAll_pg s H C cl fp) (fun _ _ _ _ _ => pts_nil) (fun s H C cl fp => eAll_pe s H C cl fp) hs)
    (lc_main hi hb (fun σ2 H2 QDo Qe Qn h k1 k2 => tests0 σ2 H2 QDo Qe Qn h k1) F hm (hxx.at F hx) fun ds a ws H' q ad h0 h1 r ns => hr ds _ H' (F.set_new hlen hy ad h0 h1 r ns) QD QE q (hxx.le ad.le) D fun x z => (k x z).le ad.le))
/-- name = [elt for tg in it if t] on one line -/
theorem S_compIf (own : List (Str × Nat)) (i : Nat) {y : Str} {m2 : List D → M α} (hc : c.X.calm = true) (hN : c.X.N.Nodup) (ok : BlkOk c.X.N c.X.env.scope scope own) (hi : SimI c tg γ it mi) (hb : ∀ d, CompB c scope (own.map (·.2)) (RC1 c scope (own.map (·.2)) t elt) tg (clr γ (own.map (·.2))) d (f d)) (hr : ∀ ds, SimS c γx rest (γ.set i (some (.ml ds))) (m2 ds) dec)
    (hx : Sub γx γ := by exact Sub.nil) (hy : c.X.N[i]? = some y := by rfl) (hyl : c.X.env.scope.names.lookup y = some .local := by rfl) (hsw : swapsWith (.ListComp elt [⟨tg, it, [t], 0⟩] scope pos) (some (.Name y py)) spos.line c.X.env = pure true := by exact sw_true rfl rfl rfl (by decide +kernel)) (hs : ∀ x, foldedSetIterable it c.X.env x = pure x := by intro _; rfl) :
    SimS c γx (.Assign [.Name y py] (.ListComp elt [⟨tg, it, [t], 0⟩] scope pos) spos :: rest) γ (M.bind (M.bind mi fun xs => M.nox (M.mapC f xs)) m2) dec := .mk fun σ H F QD QE hm hxx D k => SV.len fun hlen =>
  SV.cons (sv1 (ps_setLc (own := own) (g := gAll c.X scope tg) (tt := tAll c.X scope t) (te := eAll c.X scope elt) hc hN hy hyl hsw IV.pi ok (fun s H C cl fp => gAll_pg s H C cl fp) (fun s H C cl fp => pts_one (tAll_pt s H C cl fp)) (fun s H C cl fp => eAll_pe s H C cl fp) hs)
    (lc_main hi hb (fun σ2 H2 QDo Qe Qn h k1 k2 => tests1 σ2 H2 QDo Qe Qn h k1 k2) F hm (hxx.at F hx) fun ds a ws H' q ad h0 h1 r ns => hr ds _ H' (F.set_new hlen hy ad h0 h1 r ns) QD QE q (hxx.le ad.le) D fun x z => (k x z).le ad.le))

/-! ### raise -/
/-- an exception class of the program without an __init__ of its own -/
structure ExcCls (K : PySem.W.Frag) (mg : Str → Option Value) (ca : String → Addr) (n : String) : Prop where
  mg : mg (Str.ofString n) = some (.ref (ca n))
  exc : PySem.W.excIn K (ca n) [.type "ValueError", .type "Exception", .type "BaseException", .type "object"] "ValueError.__new__" = true
  keep : PySem.W.keepIn K (.ref (ca n)) = true
  sub : PySem.W.subIn K (.ref (ca n)) (.type "BaseException") = some true
  ty : PySem.W.typeIn K (.ref (ca n)) = some (.type "type")
theorem S_raise (n : String) {x m : Str} {j : Nat} {p p2 : Pos} (hxn : x = Str.ofString n := by rfl) (E : ExcCls c.X.K c.X.mg c.ca n) (hc : c.X.calm = true) (tk : Takes c.X c.W) (hx : Sub γx γ := by exact Sub.nil) (hg : Gl c.X x := by rfl) (hdb : (x == ("__debug__" : Str)) = false := by decide) :
    SimS c γx (.Raise (some (.Call (.Name x p) [.Constant (.str m) j p2] [] spos)) none pos :: rest) γ (M.raise ⟨n, none⟩ : M α) dec := .mk fun σ H F QD QE hm hxx D k => by
  subst hxn
  exact SV.cons (sv1 (ps_raise hc tk (pmk_own PySem.F.excBase_ValueError E.exc E.mg E.keep (raises_own E.sub E.ty) hg hdb)) (hxx.at F hx _ H _ none hm (.refl _ _) ⟨rfl, rfl⟩))
end

/-! ### try -/
/-- n is m or below m -/
def exSub (n m : String) : Bool := n == m || m == "ScriptError"
structure ExTab (K : PySem.W.Frag) (ca : String → Addr) (tab : List String) : Prop where
  one : ∀ n ∈ tab, ∀ m ∈ tab, PySem.W.exmOne K (.ref (ca n)) (.ref (ca m)) = some (exSub n m)
/-- except X: mh -/
def catch1 {β : Type} (tab : List String) (X : String) (mh : M β) (r : Ex → M β) : Ex → M β := fun x => M.guard (x.cls ∈ tab) (M.ite (exSub x.cls X) (M.nox mh) (r x))
/-- the site within a try -/
abbrev trySite (c : Site) (pn : List (Addr × Obj)) (xe : Value → Shared → Prop) (W : WX) : Site := { c with X := c.X.tr pn xe, W := W }
/-- the site of an except suite -/
abbrev suiteSite (c : Site) (a : Addr) (pn : List (Addr × Obj)) : Site := { c with X := c.X.suite a pn, W := fun _ _ _ _ => False }
section
variable {c : Site} {γx γ γy : Ctx} {α β : Type} {dec : α → Oc} {decb : β → Oc} {rest body : List Stmt} {tab : List String} {pos : Pos}
theorem FR.try_ {pn : List (Addr × Obj)} {xe : Value → Shared → Prop} {W : WX} {σ : St} {H : Hp} (F : FR c γ σ H) : FR (trySite c pn xe W) γ σ H := ⟨F.val, F.sep, F.new, F.base, F.src⟩
theorem FR.untry {pn : List (Addr × Obj)} {xe : Value → Shared → Prop} {W : WX} {σ : St} {H : Hp} (F : FR (trySite c pn xe W) γ σ H) : FR c γ σ H := ⟨F.val, F.sep, F.new, F.base, F.src⟩
theorem FR.suite {a : Addr} {pn : List (Addr × Obj)} {σ : St} {H : Hp} (F : FR c γ σ H) : FR (suiteSite c a pn) γ σ H := ⟨F.val, F.sep, F.new, F.base, F.src⟩
theorem FR.unsuite {a : Addr} {pn : List (Addr × Obj)} {σ : St} {H : Hp} (F : FR (suiteSite c a pn) γ σ H) : FR c γ σ H := ⟨F.val, F.sep, F.new, F.base, F.src⟩
theorem Done.try_ {pn : List (Addr × Obj)} {xe : Value → Shared → Prop} {W : WX} {H : Hp} {D : Ends} {o : Oc} (h : Done c H D o) : Done (trySite c pn xe W) H D o := by
  cases o with
  | nx γ => exact fun σ' H' l F => h σ' H' l F.untry
  | lp γ => exact fun σ' H' l F => h σ' H' l F.untry
  | ct γ => exact fun σ' H' l F => h σ' H' l F.untry
  | rt d => exact h
  | rl ds => exact h
  | no => trivial
theorem Done.suite {a : Addr} {pn : List (Addr × Obj)} {H : Hp} {D : Ends} {o : Oc} (h : Done c H D o) : Done (suiteSite c a pn) H D o := by
  cases o with
  | nx γ => exact fun σ' H' l F => h σ' H' l F.unsuite
  | lp γ => exact fun σ' H' l F => h σ' H' l F.unsuite
  | ct γ => exact fun σ' H' l F => h σ' H' l F.unsuite
  | rt d => exact h
  | rl ds => exact h
  | no => trivial
/-- the readings of a try's body and suites, whatever the pins are -/
def bodyAll (X : Cx) (body : List Stmt) : WX → TS := fun W D σ H => ∀ (pn : List (Addr × Obj)) (xe : Value → Shared → Prop), Takes (X.tr pn xe) W → PassesOwn (model X.prog X.w) X.A X.env xe → SV (X.tr pn xe) body D σ H
def suiteAll (X : Cx) (suite : List Stmt) : Addr → Value → Option Addr → TS := fun a cls d D σ H => ∀ (oe : Obj) (pn : List (Addr × Obj)), Zc cls d oe → (∃ vs, oe.data = .fields vs) → SV (X.suite a ((a, oe) :: pn)) suite D σ H
/-- except clauses: their classes by name, their suites' mirrors -/
inductive SimHs (c : Site) (γy : Ctx) (dec : β → Oc) (tab : List String) : List ExceptHandler → (Ex → M β) → Prop
  | nil : SimHs c γy dec tab [] M.raise
  | cons {n : String} {x : Str} {np pos' : Pos} {b₀ : Stmt} {suite : List Stmt} {hds : List ExceptHandler} {mh : M β} {r : Ex → M β} (hn : n ∈ tab) (hxn : x = Str.ofString n) (hm : c.X.mg x = some (.ref (c.ca n))) (hg : Gl c.X x) (hd : (x == ("__debug__" : Str)) = false)
      (hs : ∀ (a : Addr) (oe : Obj) (pn : List (Addr × Obj)), SimS (suiteSite c a ((a, oe) :: pn)) [] (b₀ :: suite) γy mh dec) (h : SimHs c γy dec tab hds r) : SimHs c γy dec tab (.ExceptHandler (some (.Name x np)) none (b₀ :: suite) pos' :: hds) (catch1 tab n mh r)
theorem hs_ok {hds : List ExceptHandler} {h : Ex → M β} (hh : SimHs c γy decb tab hds h) (T : ExTab c.X.K c.ca tab) : ∃ l, HdsOk c.X hds l ∧ ∀ (D : Ends) (QD : β → Prop) (QE : Ex → Prop) (σ : St) (H : Hp) (x : Ex) (cls : Value) (dd : Option Addr), FR c γy σ H → h x QD QE → RpX c H x cls dd →
    (∀ x', QE x' → RpX c H x' cls dd → c.W cls dd σ H) → (∀ b, QD b → Done c H D (decb b)) → wMany c.X.K c.W D l cls dd σ H := by
  induction hh with
  | nil => exact ⟨[], .nil, fun D QD QE σ H x cls dd F hm rx hq hd => hq x hm rx⟩
  | @cons n x np pos' b₀ suite hds mh r hn hxn hm hg hd hs h ih =>
    obtain ⟨l, h1, h2⟩ := ih
    refine ⟨(.ref (c.ca n), suiteAll c.X (b₀ :: suite)) :: l, .cons ⟨hg, hd, .inl hm⟩ (fun a oe cls d pn hz hf => ⟨fun pins s σ H D I q => q oe pn hz hf pins s I⟩) h1, fun D QD QE σ H ex cls dd F hmm rx hq hdn => ?_⟩
    obtain ⟨hin, hmm⟩ := hmm
    refine ⟨exSub ex.cls n, ?_, fun e a na oe pn hz hf => ?_, fun e => ?_⟩
    · rw [rx.1]
      exact T.one _ hin _ hn
    · rw [e] at hmm
      exact hs a oe pn σ H F.suite QD _ hmm (fun x' σ' H' cls' dd' z _ _ _ => z.elim) D fun b qb => (hdn b qb).suite
    · rw [e] at hmm
      exact h2 D QD QE σ H ex cls dd F hmm rx hq hdn
theorem S_try {hds : List ExceptHandler} {h₀ : ExceptHandler} {h : Ex → M α} {mb : M α} (hb : ∀ (W : WX) (pn : List (Addr × Obj)) (xe : Value → Shared → Prop), Takes (c.X.tr pn xe) W → PassesOwn (model c.X.prog c.X.w) c.X.A c.X.env xe → SimS (trySite c pn xe W) γy body γ mb dec) (hh : SimHs c γy dec tab (h₀ :: hds) h) (T : ExTab c.X.K c.ca tab)
    (tk : Takes c.X c.W) (hxy : Sub γx γy := by exact Sub.nil) (hs : c.X.stack = c.X.env :: c.X.outer := by rfl) (hf : c.X.env.frame = some c.X.env.locals := by rfl) : SimS c γx [.Try body (h₀ :: hds) [] [] pos] γ (M.tryC mb h) dec := .mk fun σ H F QD QE hm hxx D k => by
  obtain ⟨l, h1, h2⟩ := hs_ok hh T
  refine sv (pss_one (ps_try_many (tb := bodyAll c.X body) hs hf tk (fun W pn xe tk' hp' => ⟨fun pins s σ H D I q => q pn xe tk' hp' pins s I⟩) h1)) fun pn xe tk' hp' => ?_
  refine hb _ pn xe tk' hp' σ H F.try_ QD _ hm (fun x σ' H' cls dd q l' F' r => ?_) D fun a qa => (k a qa).try_
  exact h2 D QD QE σ' H' x cls dd F'.untry q r (fun x' q' r' => hxx x' σ' H' cls dd q' l' (F'.untry.sub hxy) r') fun b qb => (k b qb).le l'
/-- a try that may be left or gone through -/
theorem S_tryR {S R : Type} {hds : List ExceptHandler} {h₀ : ExceptHandler} {h : Ex → M (S ⊕ R)} {mb : M (S ⊕ R)} {m3 : S → M α} (γ1 : S → Ctx) (emb : R → α)
    (hb : ∀ (W : WX) (pn : List (Addr × Obj)) (xe : Value → Shared → Prop), Takes (c.X.tr pn xe) W → PassesOwn (model c.X.prog c.X.w) c.X.A c.X.env xe → SimS (trySite c pn xe W) γy body γ mb (Sum.elim (fun s => Oc.nx (γ1 s)) fun r => decC dec (emb r)))
    (hh : SimHs c γy (Sum.elim (fun s => Oc.nx (γ1 s)) fun r => decC dec (emb r)) tab (h₀ :: hds) h) (T : ExTab c.X.K c.ca tab) (h3 : ∀ s, SimS c γx rest (γ1 s) (m3 s) dec)
    (tk : Takes c.X c.W) (hxy : Sub γx γy := by exact Sub.nil) (hs : c.X.stack = c.X.env :: c.X.outer := by rfl) (hf : c.X.env.frame = some c.X.env.locals := by rfl) :
    SimS c γx (.Try body (h₀ :: hds) [] [] pos :: rest) γ (M.seqR (M.tryC mb h) m3 emb) dec := .mk fun σ H F QD QE hm hxx D k => by
  obtain ⟨l, h1, h2⟩ := hs_ok hh T
  have go : ∀ (H1 : Hp), Le H H1 → ∀ (o : S ⊕ R), (Sum.elim m3 (fun r => M.pure (emb r)) o) QD QE → Done c H1 { D with nx := SV c.X rest D } (Sum.elim (fun s => Oc.nx (γ1 s)) (fun r => decC dec (emb r)) o) := fun H1 l1 o z => by
    cases o with
    | inl s => exact fun σ' H' l F' => h3 s σ' H' F' QD QE z (hxx.le (l1.trans l)) D fun x y => (k x y).le (l1.trans l)
    | inr r => exact doneC ((k _ z).le l1) rfl rfl
  refine SV.cons (sv1 (ps_try_many (tb := bodyAll c.X body) hs hf tk (fun W pn xe tk' hp' => ⟨fun pins s σ H D I q => q pn xe tk' hp' pins s I⟩) h1) fun pn xe tk' hp' => ?_)
  refine hb _ pn xe tk' hp' σ H F.try_ _ _ hm (fun x σ' H' cls dd q l' F' r => ?_) _ fun a qa => (go H (.refl H) a qa).try_
  exact h2 _ _ QE σ' H' x cls dd F'.untry q r (fun x' q' r' => hxx x' σ' H' cls dd q' l' (F'.untry.sub hxy) r') (go H' l')
end
end Sm

set_option Elab.async false
set_option linter.all false
set_option maxRecDepth 100000
set_option maxHeartbeats 4000000
/-! Sm8: sources, parallel assignment, reversed slices, sum, any items. -/
namespace Sm
open PySem PySem.Spec L2
open PyProof.Rows hiding St

section
variable {c : Site} {γx γ : Ctx} {α β : Type} {dec : α → Oc} {rest : List Stmt} {e a b : Expr} {pos pos' p p2 p3 apos : Pos} {x : Str} {n : Nat}

/-! ### sources -/
def anyI : M D := M.bind (M.any fun _ : Int => True) fun i => M.pure (.int i)
def anyG : M D := M.bind (M.any fun i : Int => -(2 ^ 62) < i ∧ i < 2 ^ 62) fun i => M.pure (.int i)
/-- source[0] -/
theorem E_src0 (i : Nat) {j : Nat} (hγ : γ[i]? = some (some (.src n)) := by rfl) (hn : 0 < n := by decide) (hN : c.X.N[i]? = some x := by rfl) (hv : Vis c.X.env.scope x := by first | exact Or.inl rfl | exact Or.inr (Or.inl rfl) | exact Or.inr (Or.inr rfl))
    (hd : (x == ("__debug__" : Str)) = false := by decide) (hcd : (x == ("__classdict__" : Str)) = false := by decide) : SimE c γ (.Subscript (.Name x p) (.Constant (.int 0) j p2) pos) anyI := .mk fun σ H F QD QE hm hx Q k => by
  obtain ⟨v, e, q, ns, e1, s, h, l, g⟩ := F.val i _ hγ
  subst e1
  cases ns with
  | nil => subst l; exact absurd hn (Nat.lt_irrefl _)
  | cons z zs =>
    exact ev (pe_ix ix_seq (pe_var hN hv hd hcd) pe_int (fun _ _ => rfl)) ⟨_, e, .inl ⟨q, _, 0, .int z, rfl, rfl, SqL.of h, by simp [atI, ixN, ivs], k _ _ H (hm z trivial) (.refl _ _) (.int z)⟩⟩
/-- source[1] .. -/
theorem E_srcG (i : Nat) (k : Nat) {j : Nat} (hγ : γ[i]? = some (some (.src n)) := by rfl) (hn : k + 1 < n := by decide) (hN : c.X.N[i]? = some x := by rfl) (hv : Vis c.X.env.scope x := by first | exact Or.inl rfl | exact Or.inr (Or.inl rfl) | exact Or.inr (Or.inr rfl))
    (hd : (x == ("__debug__" : Str)) = false := by decide) (hcd : (x == ("__classdict__" : Str)) = false := by decide) : SimE c γ (.Subscript (.Name x p) (.Constant (.int (k + 1 : Nat)) j p2) pos) anyG := .mk fun σ H F QD QE hm hx Q kq => by
  obtain ⟨v, e, q, ns, e1, s, h, l, g⟩ := F.val i _ hγ
  subst e1
  cases ns with
  | nil => subst l; exact absurd hn (Nat.not_lt_zero _)
  | cons z zs =>
    have hk : k < zs.length := by simp at l; omega
    have hz : zs[k] ∈ zs := List.getElem_mem hk
    have hg := g _ (show zs[k] ∈ (z :: zs).tail from hz)
    refine ev (pe_ix ix_seq (pe_var hN hv hd hcd) pe_int (fun _ _ => rfl)) ⟨_, e, .inl ⟨q, _, ((k + 1 : Nat) : Int), .int zs[k], rfl, rfl, SqL.of h, ?_, kq _ _ H (hm _ hg) (.refl _ _) (.int _)⟩⟩
    unfold atI ixN ivs
    simp only [List.length_map, List.length_cons]
    rw [if_pos (by omega)]
    simp [hk]
def srcSet (k : Nat) : D → M Unit
  | .int i => M.guard (k = 0 ∨ (-(2 ^ 62) < i ∧ i < 2 ^ 62)) (M.pure ())
  | _ => M.fail
/-- source[k] = e -/
theorem S_srcSet (i : Nat) (k : Nat) {j : Nat} {m : M D} {m2 : M α} (he : SimE c γ e m) (hr : SimS c γx rest γ m2 dec) (hγ : γ[i]? = some (some (.src n)) := by rfl) (hn : k < n := by decide) (hx : Sub γx γ := by exact Sub.nil) (hN : c.X.N[i]? = some x := by rfl)
    (hv : Vis c.X.env.scope x := by first | exact Or.inl rfl | exact Or.inr (Or.inl rfl) | exact Or.inr (Or.inr rfl)) (hd : (x == ("__debug__" : Str)) = false := by decide) (hcd : (x == ("__classdict__" : Str)) = false := by decide)
    (hs : swapsWithSole [.Subscript (.Name x p) (.Constant (.int (k : Nat)) j p2) apos] e pos.line c.X.env = pure false := by rfl) (hw : swappedStores [.Subscript (.Name x p) (.Constant (.int (k : Nat)) j p2) apos] e c.X.env = pure none := by rfl) (h1 : (assignEach [.Subscript (.Name x p) (.Constant (.int (k : Nat)) j p2) apos] c.X.env).map (·.2) = [assign (.Subscript (.Name x p) (.Constant (.int (k : Nat)) j p2) apos) c.X.env] := by rfl)
    (ha : ∀ v, assign (.Subscript (.Name x p) (.Constant (.int (k : Nat)) j p2) apos) c.X.env v = (do
      let ov ← holding [v] (eval (.Name x p) c.X.env)
      let iv ← holding [v, ov] (eval (.Constant (.int (k : Nat)) j p2) c.X.env)
      standAt apos
      holding [v, ov, iv] (setItem ov iv v)
      release [v, ov, iv] []) := by intro _; rfl) :
    SimS c γx (.Assign [.Subscript (.Name x p) (.Constant (.int (k : Nat)) j p2) apos] e pos :: rest) γ (M.bind m fun d => M.bind (srcSet k d) fun _ => m2) dec := .mk fun σ H F QD QE hm hxx D kq => by
  refine SV.cons (sv1 (ps_asg EV.pe (pg_sub (pe_var hN hv hd hcd) pe_int set_list ha) hs hw h1) (he σ H F _ QE hm (hxx.at F hx) _ fun d y H1 q a1 ry => ?_))
  have F1 := F.adv a1
  obtain ⟨v, e1, a, ns, e2, s, h, l, g⟩ := F1.val i _ hγ
  subst e2
  cases ry <;> first | exact q.elim | skip
  rename_i z
  obtain ⟨hz, q⟩ := q
  have ad : Adv c.S H1 (upd H1 a (.lst (ivs (ns.set k z)))) := fun x o ex => by
    by_cases ha : x = a
    · subst ha
      rw [h] at ex
      cases ex
      refine .inr ⟨s, .inl ⟨ns, ns.set k z, rfl, upd_same, List.length_set, fun g => fun w hw => ?_⟩⟩
      rcases hz with rfl | hz
      · cases ns with
        | nil => simp at hw
        | cons n0 ns => exact g w (by simpa using hw)
      · cases ns with
        | nil => simp at hw
        | cons n0 ns =>
          cases k with
          | zero => exact g w (by simpa using hw)
          | succ k =>
            rcases List.mem_or_eq_of_mem_set (show w ∈ ns.set k z by simpa using hw) with h3 | h3
            · exact g w h3
            · subst h3; exact hz
    · exact .inl (by rw [upd_ne ha]; exact ex)
  refine ⟨_, e1, a, ivs ns, (k : Nat), k, rfl, rfl, h, ?_, ?_⟩
  · unfold ixN ivs
    rw [List.length_map, if_pos (by omega)]
    simp
    omega
  · have e3 : (ivs ns).set k (.int z) = ivs (ns.set k z) := by unfold ivs; rw [List.map_set]
    rw [e3]
    exact hr σ _ (F1.adv ad) QD QE q (hxx.le (a1.le.trans ad.le)) D fun x y => (kq x y).le (a1.le.trans ad.le)
/-- no slot is an int list that calls change -/
def NoSrc : Ctx → Prop
  | [] => True
  | some (.src _) :: _ => False
  | _ :: r => NoSrc r
theorem NoSrc.get : ∀ {γ : Ctx} {i n : Nat}, NoSrc γ → γ[i]? ≠ some (some (.src n))
  | [], _, _, _, e => by simp at e
  | some (.src _) :: _, _, _, h, _ => h.elim
  | none :: r, 0, n, h, e => by simp at e
  | none :: r, i + 1, n, h, e => NoSrc.get (γ := r) (i := i) (n := n) h (by simpa using e)
  | some (.d _) :: r, 0, n, h, e => by simp at e
  | some (.d _) :: r, i + 1, n, h, e => NoSrc.get (γ := r) (i := i) (n := n) h (by simpa using e)
  | some (.ml _) :: r, 0, n, h, e => by simp at e
  | some (.ml _) :: r, i + 1, n, h, e => NoSrc.get (γ := r) (i := i) (n := n) h (by simpa using e)
  | some (.dk _) :: r, 0, n, h, e => by simp at e
  | some (.dn _) :: r, 0, n, h, e => by simp at e
  | some (.fv _) :: r, 0, n, h, e => by simp at e
  | some (.dk _) :: r, i + 1, n, h, e => NoSrc.get (γ := r) (i := i) (n := n) h (by simpa using e)
  | some (.dn _) :: r, i + 1, n, h, e => NoSrc.get (γ := r) (i := i) (n := n) h (by simpa using e)
  | some (.fv _) :: r, i + 1, n, h, e => NoSrc.get (γ := r) (i := i) (n := n) h (by simpa using e)
def NoSrcO : Oc → Prop
  | .nx γ => NoSrc γ
  | .lp γ => NoSrc γ
  | .ct γ => NoSrc γ
  | _ => True
abbrev srcSite (c : Site) (q : Addr) : Site := { c with S := fun a => c.S a ∨ a = q }
theorem FR.unsrc {q : Addr} {σ : St} {H : Hp} {γ : Ctx} (F : FR (srcSite c q) γ σ H) (hn : NoSrc γ) (h0 : c.H0 q = none) : FR c γ σ H := by
  refine ⟨fun i b e => ?_, F.sep, F.new, fun x o e => ?_, fun x s => F.src x (.inl s)⟩
  · obtain ⟨v, h1, h2⟩ := F.val i b e
    refine ⟨v, h1, ?_⟩
    cases b with
    | d y => exact h2
    | ml ys => obtain ⟨p, vs, e1, q, rr, ns⟩ := h2; exact ⟨p, vs, e1, q, rr, fun s => ns (.inl s)⟩
    | dk ys => obtain ⟨p, vs, e1, q, rr, ns⟩ := h2; exact ⟨p, vs, e1, q, rr, fun s => ns (.inl s)⟩
    | dn ys => obtain ⟨p, vs, e1, q, rr, ns⟩ := h2; exact ⟨p, vs, e1, q, rr, fun s => ns (.inl s)⟩
    | fv _ => exact h2
    | src n => exact absurd e hn.get
  · rcases F.base x o e with z | ⟨s | s, r⟩
    · exact .inl z
    · exact .inr ⟨s, r⟩
    · subst s; rw [h0] at e; cases e
theorem Adv.unsrc {S : Addr → Prop} {q : Addr} {H H' : Hp} (h : Adv (fun a => S a ∨ a = q) H H') (h0 : H q = Option.none) : Adv S H H' := fun x o e => by
  rcases h x o e with z | ⟨s | s, r⟩
  · exact .inl z
  · exact .inr ⟨s, r⟩
  · subst s; rw [h0] at e; cases e
theorem Done.src {q : Addr} {H : Hp} {D : Ends} {o : Oc} (h : Done c H D o) (hn : NoSrcO o) (h0 : c.H0 q = none) : Done (srcSite c q) H D o := by
  cases o with
  | nx γ => exact fun σ' H' l F => h σ' H' l (F.unsrc hn h0)
  | lp γ => exact fun σ' H' l F => h σ' H' l (F.unsrc hn h0)
  | ct γ => exact fun σ' H' l F => h σ' H' l (F.unsrc hn h0)
  | rt d => exact fun v H' a r => h v H' (a.unsrc h0) r
  | rl ds => exact fun a vs H' ad n e r ns => h a vs H' (ad.unsrc h0) n e r fun s => ns (.inl s)
  | no => trivial
def srcM (n : Nat) (ds : List D) : M Unit := M.guard (∃ ns : List Int, ds = ns.map .int ∧ ns.length = n ∧ Gd ns) (M.pure ())
theorem RpL.toInts {K : PySem.W.Frag} {H : Hp} : ∀ {vs : List V} {ns : List Int}, RpL K H vs (ns.map .int) → vs = ivs ns
  | _, [], h => by cases h; rfl
  | _, n :: r, h => by
    cases h with
    | cons h1 h2 => cases h1; rw [RpL.toInts h2]; rfl
/-- source = a new list of ints, which calls may change from here on -/
theorem S_src (i n : Nat) {m : M (List D)} {m2 : M α} (he : SimL c γ e m) (hr : ∀ q, SimS (srcSite c q) γx rest (γ.set i (some (.src n))) m2 dec) (hno : ∀ a, NoSrcO (dec a)) (hN : c.X.N.Nodup) (hnx : NoSrc γx := by exact True.intro) (hx : Sub γx γ := by exact Sub.nil) (hi : c.X.N[i]? = some x := by rfl)
    (hl : Loc c.X.env.scope x := by first | exact Or.inl rfl | exact Or.inr rfl) (hf : LocF c x := by first | exact .inl rfl | exact .inr rfl) (hs : swapsWith e (some (.Name x pos')) pos.line c.X.env = pure false := by rfl) :
    SimS c γx (.Assign [.Name x pos'] e pos :: rest) γ (M.bind m fun ds => M.bind (srcM n ds) fun _ => m2) dec := .mk fun σ H F QD QE hm hxx D k => SV.len fun hlen =>
  SV.cons (sv1 (ps_set hN hi hl EV.pe hs hf) (he σ H F _ QE hm (hxx.at F hx) _ fun ds q vs H' qm ad h0 h1 r ns => by
    obtain ⟨⟨zs, rfl, hz, hg⟩, qm⟩ := qm
    have ev := r.toInts
    subst ev
    have F1 := F.adv ad
    have b0 : c.H0 q = none := F.base.none h0
    have hne : ∀ (j : Nat) (b' : B) (w : Addr), γ[j]? = some (some b') → b'.own = true → σ[j]? = some (some (V.ref w)) → w ≠ q := fun j b' w e2 ho e3 z => by
      subst z
      obtain ⟨v, e4, rb⟩ := F.val j b' e2
      rw [e3] at e4
      cases e4
      cases b' with
      | ml ys => obtain ⟨p, ws, e5, q4, _⟩ := rb; cases e5; rw [h0] at q4; cases q4
      | dk ys => obtain ⟨p, ws, e5, q4, _⟩ := rb; cases e5; rw [h0] at q4; cases q4
      | dn ys => obtain ⟨p, ws, e5, q4, _⟩ := rb; cases e5; rw [h0] at q4; cases q4
      | d _ => cases ho
      | fv _ => cases ho
      | src _ => cases ho
    have hli : i < σ.length := by rw [hlen]; exact (List.getElem?_eq_some_iff.mp hi).1
    have nown : ∀ {j : Nat} {b : B}, (γ.set i (some (.src n)))[j]? = some (some b) → b.own = true → i ≠ j := fun {j b} e h z => by
      subst z
      by_cases hg : i < γ.length
      · rw [List.getElem?_set_self hg] at e; cases e; cases h
      · rw [List.getElem?_eq_none (by simpa using hg)] at e; cases e
    have F2 : FR (srcSite c q) (γ.set i (some (.src n))) (σ.set i (some (.ref q))) H' := by
      refine ⟨fun j b e => ?_, fun j l b b' w nw e e' h h' z => ?_, fun j b w e h z => ?_, F1.base.mono fun x s => .inl s, fun x s => ?_⟩
      · by_cases hj : i = j
        · subst hj
          by_cases hg' : i < γ.length
          · rw [List.getElem?_set_self hg'] at e
            cases e
            exact ⟨_, List.getElem?_set_self hli, q, zs, rfl, .inr rfl, h1, hz, hg⟩
          · rw [List.getElem?_eq_none (by simpa using hg')] at e
            cases e
        · rw [List.getElem?_set_ne hj] at e
          obtain ⟨w, h2, h3⟩ := F1.val j b e
          refine ⟨w, by rw [List.getElem?_set_ne hj]; exact h2, ?_⟩
          cases b with
          | d y => exact h3
          | ml ys => obtain ⟨p, ws, e1, q', rr, ns'⟩ := h3; exact ⟨p, ws, e1, q', rr, fun s => s.elim ns' fun z => hne j _ p e rfl (by rw [h2, e1]) z⟩
          | dk ys => obtain ⟨p, ws, e1, q', rr, ns'⟩ := h3; exact ⟨p, ws, e1, q', rr, fun s => s.elim ns' fun z => hne j _ p e rfl (by rw [h2, e1]) z⟩
          | dn ys => obtain ⟨p, ws, e1, q', rr, ns'⟩ := h3; exact ⟨p, ws, e1, q', rr, fun s => s.elim ns' fun z => hne j _ p e rfl (by rw [h2, e1]) z⟩
          | fv _ => exact h3
          | src n => exact SrcV.mono h3 fun x s => .inl s
      · have n1 := nown e h
        have n2 := nown e' h'
        rw [List.getElem?_set_ne n1] at e z
        rw [List.getElem?_set_ne n2] at e' ⊢
        exact F1.sep j l b b' w nw e e' h h' z
      · have n1 := nown e h
        rw [List.getElem?_set_ne n1] at e z
        exact F1.new j b w e h z
      · rcases s with s | s
        · exact F1.src x s
        · subst s; rw [h1]; exact fun z => nomatch z
    exact hr q _ H' F2 QD QE qm (fun x σ' H2 cls dd qx l F' rx => hxx x σ' H2 cls dd qx (ad.le.trans l) (F'.unsrc hnx b0) rx) D fun y qy => ((k y qy).le ad.le).src (hno y) b0))

/-! ### parallel assignment -/
/-- data or a new list -/
abbrev SimG.T (c : Site) (γ : Ctx) (e : Expr) {X : Type} (m : M X) (toB : X → B) : Prop := ∀ (σ : St) (H : Hp), FR c γ σ H → ∀ (QD : X → Prop) (QE : Ex → Prop), m QD QE → Xok c σ H QE →
  ∀ Q : VK, (∀ x v H', QD x → Adv c.S H H' → RB c H' v (toB x) → ((toB x).own = true → ∃ a, v = .ref a ∧ H a = none) → Q v H') → EV c.X e σ H Q
structure SimG (c : Site) (γ : Ctx) (e : Expr) {X : Type} (m : M X) (toB : X → B) : Prop where
  run : SimG.T c γ e m toB
instance {c : Site} {γ : Ctx} {e : Expr} {X : Type} {m : M X} {toB : X → B} : CoeFun (SimG c γ e m toB) (fun _ => SimG.T c γ e m toB) := ⟨SimG.run⟩
theorem SimE.g {m : M D} (h : SimE c γ e m) : SimG c γ e m B.d := .mk fun σ H F QD QE hm hx Q k => h σ H F QD QE hm hx Q fun d v H' q a r => k d v H' q a r fun z => nomatch z
theorem SimL.g {m : M (List D)} (h : SimL c γ e m) : SimG c γ e m B.ml := .mk fun σ H F QD QE hm hx Q k => h σ H F QD QE hm hx Q fun ds a vs H' q ad h0 h1 r ns => k ds _ H' q ad ⟨a, vs, rfl, h1, r, ns⟩ fun _ => ⟨a, rfl, h0⟩
/-- B's that a slot may take so -/
def Plain (b : B) : Prop := match b with | .src _ => False | _ => True
theorem FR.setG {σ : St} {H1 : Hp} {v : V} {b : B} {i : Nat} (F : FR c γ σ H1) (hl : i < σ.length) (r : RB c H1 v b) (hb : Plain b)
    (ho : b.own = true → ∃ a, v = .ref a ∧ c.H0 a = none ∧ ∀ (j : Nat) (b' : B), γ[j]? = some (some b') → b'.own = true → σ[j]? ≠ some (some (V.ref a))) : FR c (γ.set i (some b)) (σ.set i (some v)) H1 := by
  cases b with
  | d y => exact F.set_d hl r
  | ml ys => obtain ⟨a, rfl, h0, hf⟩ := ho rfl; exact F.set_own hl r h0 hf
  | dk ys => obtain ⟨a, rfl, h0, hf⟩ := ho rfl; exact F.set_own hl r h0 hf
  | dn ys => obtain ⟨a, rfl, h0, hf⟩ := ho rfl; exact F.set_own hl r h0 hf
  | fv y => exact F.set_f hl r
  | src n => exact hb.elim
theorem FR.fresh {σ : St} {H : Hp} (F : FR c γ σ H) {a : Addr} (h : H a = none) (j : Nat) (b' : B) (e : γ[j]? = some (some b')) (ho : b'.own = true) : σ[j]? ≠ some (some (V.ref a)) := fun z => by
  obtain ⟨v, e4, rb⟩ := F.val j b' e
  rw [z] at e4
  cases e4
  cases b' with
  | ml ys => obtain ⟨p, ws, e5, q4, _⟩ := rb; cases e5; rw [h] at q4; cases q4
  | dk ys => obtain ⟨p, ws, e5, q4, _⟩ := rb; cases e5; rw [h] at q4; cases q4
  | dn ys => obtain ⟨p, ws, e5, q4, _⟩ := rb; cases e5; rw [h] at q4; cases q4
  | d _ => cases ho
  | fv _ => cases ho
  | src _ => cases ho
theorem S_par (i j : Nat) {X Y : Type} {ma : M X} {mb : M Y} {ta : X → B} {tb : Y → B} {x y : Str} {px py pt p2 : Pos} {kt k2} {m2 : X → Y → M α} (ha : SimG c γ a ma ta) (hb : SimG c γ b mb tb) (hr : ∀ u v, SimS c γx rest ((γ.set i (some (ta u))).set j (some (tb v))) (m2 u v) dec) (hN : c.X.N.Nodup) (hc : c.X.calm = true)
    (hx : Sub γx γ := by exact Sub.nil) (pa : ∀ u, Plain (ta u) := by intro _; exact True.intro) (pb : ∀ u, Plain (tb u) := by intro _; exact True.intro) (hi : c.X.N[i]? = some x := by rfl) (hj : c.X.N[j]? = some y := by rfl) (hij : i ≠ j := by decide) (hlx : c.X.env.scope.names.lookup x = some .local := by rfl) (hly : c.X.env.scope.names.lookup y = some .local := by rfl)
    (hw : swappedStores [.Tuple [.Name x px, .Name y py] kt pt] (.Tuple [a, b] k2 p2) c.X.env = pure (some [x, y]) := by rfl) (hs : swapsWithSole [.Tuple [.Name x px, .Name y py] kt pt] (.Tuple [a, b] k2 p2) pos.line c.X.env = pure false := by rfl)
    (he1 : starEach [a, b] c.X.env = (false, eval a c.X.env) :: starEach [b] c.X.env := by exact star_cons rfl) (he2 : starEach [b] c.X.env = (false, eval b c.X.env) :: starEach [] c.X.env := by exact star_cons rfl) :
    SimS c γx (.Assign [.Tuple [.Name x px, .Name y py] kt pt] (.Tuple [a, b] k2 p2) pos :: rest) γ (M.bind ma fun u => M.bind mb fun v => m2 u v) dec := .mk fun σ H F QD QE hm hxx D kq => SV.len fun hlen => by
  refine SV.cons (sv1 (ps_par hc hN hi hj hij hlx hly (pa_cons EV.pe (pa_cons EV.pe pa_nil he2) he1) hw hs) (ha σ H F _ QE hm (hxx.at F hx) _ fun u v1 H1 q1 a1 r1 o1 => ?_))
  have F1 := F.adv a1
  refine hb σ H1 F1 _ QE q1 ((hxx.le a1.le).at F1 hx) _ fun v v2 H2 q2 a2 r2 o2 => ?_
  refine ⟨v1, v2, rfl, ?_⟩
  have F2 := F1.adv a2
  have li : i < σ.length := by rw [hlen]; exact (List.getElem?_eq_some_iff.mp hi).1
  have lj : j < σ.length := by rw [hlen]; exact (List.getElem?_eq_some_iff.mp hj).1
  have F3 : FR c (γ.set i (some (ta u))) (σ.set i (some v1)) H2 := F2.setG li (r1.adv a2) (pa u) fun o => by
    obtain ⟨w, e, h⟩ := o1 o
    exact ⟨w, e, F.base.none h, fun l b' e1 ho => F.fresh h l b' e1 ho⟩
  have F4 := F3.setG (i := j) (by rw [List.length_set]; exact lj) r2 (pb v) fun o => by
    obtain ⟨w, e, h⟩ := o2 o
    refine ⟨w, e, F1.base.none h, fun l b' e1 ho => ?_⟩
    exact (show FR c (γ.set i (some (ta u))) (σ.set i (some v1)) H1 from F1.setG li r1 (pa u) fun o => by
      obtain ⟨w, e, h⟩ := o1 o
      exact ⟨w, e, F.base.none h, fun l b' e1 ho => F.fresh h l b' e1 ho⟩).fresh h l b' e1 ho
  exact hr u v _ H2 F4 QD QE q2 (hxx.le (a1.le.trans a2.le)) D fun x y => (kq x y).le (a1.le.trans a2.le)
theorem S_par3 (i j l : Nat) {X Y Z : Type} {e₃ : Expr} {ma : M X} {mb : M Y} {mc : M Z} {ta : X → B} {tb : Y → B} {tc : Z → B} {x y z : Str} {px py pz pt p2 : Pos} {kt k2} {m2 : X → Y → Z → M α} (ha : SimG c γ a ma ta) (hb : SimG c γ b mb tb) (h3 : SimG c γ e₃ mc tc) (hr : ∀ u v w, SimS c γx rest (((γ.set i (some (ta u))).set j (some (tb v))).set l (some (tc w))) (m2 u v w) dec) (hN : c.X.N.Nodup) (hc : c.X.calm = true)
    (hx : Sub γx γ := by exact Sub.nil) (pa : ∀ u, Plain (ta u) := by intro _; exact True.intro) (pb : ∀ u, Plain (tb u) := by intro _; exact True.intro) (pc : ∀ u, Plain (tc u) := by intro _; exact True.intro) (hi : c.X.N[i]? = some x := by rfl) (hj : c.X.N[j]? = some y := by rfl) (hl : c.X.N[l]? = some z := by rfl) (hij : i ≠ j := by decide) (hil : i ≠ l := by decide) (hjl : j ≠ l := by decide) (hlx : c.X.env.scope.names.lookup x = some .local := by rfl) (hly : c.X.env.scope.names.lookup y = some .local := by rfl) (hlz : c.X.env.scope.names.lookup z = some .local := by rfl)
    (hw : swappedStores [.Tuple [.Name x px, .Name y py, .Name z pz] kt pt] (.Tuple [a, b, e₃] k2 p2) c.X.env = pure (some [x, y, z]) := by rfl) (hs : swapsWithSole [.Tuple [.Name x px, .Name y py, .Name z pz] kt pt] (.Tuple [a, b, e₃] k2 p2) pos.line c.X.env = pure false := by rfl)
    (he1 : starEach [a, b, e₃] c.X.env = (false, eval a c.X.env) :: starEach [b, e₃] c.X.env := by exact star_cons rfl) (he2 : starEach [b, e₃] c.X.env = (false, eval b c.X.env) :: starEach [e₃] c.X.env := by exact star_cons rfl) (he3 : starEach [e₃] c.X.env = (false, eval e₃ c.X.env) :: starEach [] c.X.env := by exact star_cons rfl) :
    SimS c γx (.Assign [.Tuple [.Name x px, .Name y py, .Name z pz] kt pt] (.Tuple [a, b, e₃] k2 p2) pos :: rest) γ (M.bind ma fun u => M.bind mb fun v => M.bind mc fun w => m2 u v w) dec := .mk fun σ H F QD QE hm hxx D kq => SV.len fun hlen => by
  refine SV.cons (sv1 (ps_par3 hc hN hi hj hl hij hil hjl hlx hly hlz (pa_cons EV.pe (pa_cons EV.pe (pa_cons EV.pe pa_nil he3) he2) he1) hw hs) (ha σ H F _ QE hm (hxx.at F hx) _ fun u v1 H1 q1 a1 r1 o1 => ?_))
  have F1 := F.adv a1
  refine hb σ H1 F1 _ QE q1 ((hxx.le a1.le).at F1 hx) _ fun v v2 H2 q2 a2 r2 o2 => ?_
  have F2 := F1.adv a2
  refine h3 σ H2 F2 _ QE q2 ((hxx.le (a1.le.trans a2.le)).at F2 hx) _ fun w v3 H3 q3 a3 r3 o3 => ?_
  refine ⟨v1, v2, v3, rfl, ?_⟩
  have li : i < σ.length := by rw [hlen]; exact (List.getElem?_eq_some_iff.mp hi).1
  have lj : j < σ.length := by rw [hlen]; exact (List.getElem?_eq_some_iff.mp hj).1
  have ll : l < σ.length := by rw [hlen]; exact (List.getElem?_eq_some_iff.mp hl).1
  have G1 : FR c (γ.set i (some (ta u))) (σ.set i (some v1)) H1 := F1.setG li r1 (pa u) fun o => by
    obtain ⟨w, e, h⟩ := o1 o
    exact ⟨w, e, F.base.none h, fun l b' e1 ho => F.fresh h l b' e1 ho⟩
  have G2 : FR c ((γ.set i (some (ta u))).set j (some (tb v))) ((σ.set i (some v1)).set j (some v2)) H2 := (G1.adv a2).setG (i := j) (by rw [List.length_set]; exact lj) r2 (pb v) fun o => by
    obtain ⟨w, e, h⟩ := o2 o
    exact ⟨w, e, F1.base.none h, fun l b' e1 ho => G1.fresh h l b' e1 ho⟩
  have G3 := (G2.adv a3).setG (i := l) (by rw [List.length_set, List.length_set]; exact ll) r3 (pc w) fun o => by
    obtain ⟨w, e, h⟩ := o3 o
    exact ⟨w, e, F2.base.none h, fun l b' e1 ho => G2.fresh h l b' e1 ho⟩
  exact hr u v w _ H3 G3 QD QE q3 (hxx.le ((a1.le.trans a2.le).trans a3.le)) D fun x y => (kq x y).le ((a1.le.trans a2.le).trans a3.le)

/-! ### xs[::-1], sum -/
theorem L_rev {k : Nat} {p1 p4 : Pos} {m : M D} (h : SimK c γ e m) : SimL c γ (.Subscript e (.Slice none none (some (.UnaryOp .USub (.Constant (.int 1) k p1) p4)) p3) pos) (M.bind m fun x => M.bind (asList x) fun xs => M.pure xs.reverse) := .mk fun σ H F QD QE hm hx Q kq => by
  refine ev (pe_revL EV.pe) (h σ H F _ QE hm hx _ fun d v H1 q a r => ?_)
  cases d with
  | list ds =>
    obtain ⟨q1, vs, rfl, h1, s1⟩ := r.lst
    exact ⟨q1, vs, rfl, h1, fun z hz => kq _ z _ _ q (a.trans (.new hz)) (a.none hz) upd_same (s1.reverse.le (Le.new hz)) fun s => (F.adv a).src z s hz⟩
  | _ => exact q.elim
def intsM : List D → M (List Int)
  | [] => M.pure []
  | .int i :: r => M.bind (intsM r) fun l => M.pure (i :: l)
  | _ :: _ => M.fail
def sumM (d : D) : M D := M.bind (asList d) fun ds => M.bind (intsM ds) fun l => M.pure (.int l.sum)
theorem ints_of {K : PySem.W.Frag} {H : Hp} : ∀ {ds : List D} {vs : List V} {QD : List Int → Prop} {QE : Ex → Prop}, RpL K H vs ds → intsM ds QD QE → ∃ l, vs = l.map V.int ∧ QD l
  | [], _, QD, QE, r, h => by cases r; exact ⟨[], rfl, h⟩
  | d :: ds, _, QD, QE, r, h => by
    cases r with
    | cons r1 r2 =>
      cases r1 <;> first | exact (show False from h).elim | skip
      rename_i b
      obtain ⟨l, e, q⟩ := ints_of (QD := fun l => QD (b :: l)) (QE := QE) r2 h
      exact ⟨b :: l, by rw [e]; rfl, q⟩
theorem E_sum {m : M D} (hc : c.X.calm = true) (hm : c.X.mg "sum" = none) (h : SimK c γ e m) (hg : Gl c.X "sum" := by rfl) (he : starEach [e] c.X.env = (false, eval e c.X.env) :: starEach [] c.X.env := by exact star_cons rfl) : SimE c γ (.Call (.Name "sum" p) [e] [] pos) (M.bind m sumM) := .mk fun σ H F QD QE q hx Q kq => by
  refine ev (pe_callB (cr_sum hc) hg hm (by decide +kernel) (pa_cons EV.pe pa_nil he) (by decide) (by decide) he rfl) (h σ H F _ QE q hx _ fun d v H1 q1 a1 r1 => ?_)
  cases d <;> first | exact (show False from q1).elim | skip
  rename_i ds
  obtain ⟨a, vs, rfl, h1, s1⟩ := r1.lst
  obtain ⟨l, rfl, q2⟩ := ints_of s1 q1
  exact ⟨a, l, rfl, h1, kq _ _ H1 q2 a1 (.int _)⟩

/-! ### items of a tuple, a list, a text -/
def itemsA : D → M (List D)
  | .str z => itemsS (.str z)
  | d => items d
theorem I_all {tg : Expr} {m : M D} (h : SimE c γ e m) : SimI c tg γ e (M.bind m itemsA) := .mk fun σ H F QD QE hm hx R k pins s I => by
  refine thn (h σ H F _ QE hm hx (fun v H1 => ∃ d, Adv c.S H H1 ∧ Rp c.X.K H1 v d ∧ itemsA d QD QE) (fun d v H' q a r => ⟨d, a, r, q⟩) pins s I) fun v s1 ⟨x, H1, I1, r1, d, a, r, q⟩ => ?_
  cases r <;> first | exact q.elim | skip
  · rename_i z hz
    obtain ⟨t, rfl⟩ := r1
    have K : R (Its z) H1 := by
      refine k (signs z) _ (fun _ => True) H1 q.2 a (by unfold signs; rw [List.length_map, Array.length_toList]; exact q.1) ?_ trivial fun _ _ _ _ => trivial
      have e : (signs z).length = z.cps.size := by simp [signs]
      rw [e]
      refine walk_str.mono (fun _ g => g) fun i H' v H'' hi g y => ?_
      obtain ⟨rfl, x, hx, rfl⟩ := y
      refine ⟨.refl _ _, .str ⟨#[x]⟩, ?_, .str _ (strOk_sign hz hx)⟩
      unfold signs
      rw [List.getElem?_map, Array.getElem?_toList, hx]
      rfl
    cases ha : z.cps.all (· < 128)
    · exact wpAny_pyIter_wide ha (pi_one (tk := s1.toks) I1 _ (turn_str _ z t "str_iterator" (.inr rfl)) ⟨_, Heap.get?_push_size _ rfl, rfl, rfl⟩ K)
    · exact wpAny_pyIter_ascii ha (pi_one (tk := s1.toks) I1 _ (turn_str _ z t "str_ascii_iterator" (.inl rfl)) ⟨_, Heap.get?_push_size _ rfl, rfl, rfl⟩ K)
  · rename_i p xs ds hq rq
    cases r1
    obtain ⟨its, rv, pl, hz⟩ := I1.list hq.sq
    refine wpAny_pyIter_list pl.isList ?_
    refine ⟨s1.heap.objs.size, [s1.heap.objs.size], _, _, H1, rfl, I1.kept (t' := s1.toks) fun b o e => Heap.get?_push_of_some _ e, turn_list p _, ⟨_, Heap.get?_push_size _ rfl, rfl, rfl⟩, fun b hb => ?_, ?_⟩
    · have e : b = s1.heap.objs.size := by simpa using hb
      subst e
      exact I1.fpOk (Nat.le_refl _) (I1.hok.fresh (Nat.le_refl _))
    · refine k ds _ (fun H' => FzL c.X.K H' p xs ∧ RpL c.X.K H' xs ds) H1 q a (by rw [← rq.length]; exact hz) ?_ ⟨hq, rq⟩ fun H' H'' g l => ⟨l.fz g.1, g.2.le l⟩
      rw [← rq.length]
      refine walk_list.mono (fun H' g => g.1.sq) fun i H' v H'' hi g y => ?_
      obtain ⟨rfl, hv⟩ := y
      obtain ⟨d, h1, h2⟩ := g.2.getV hv
      exact ⟨.refl _ _, d, h1, h2⟩
  · rename_i p xs ds hq rq
    cases r1
    obtain ⟨its, rv, pl, hz⟩ := I1.tuple hq
    refine wpAny_pyIter_tuple (show s1.heap.IsTuple p its.toArray from pl) ?_
    refine ⟨s1.heap.objs.size, [s1.heap.objs.size], _, _, H1, rfl, I1.kept (t' := s1.toks) fun b o e => Heap.get?_push_of_some _ e, turn_tuple p _, ⟨_, Heap.get?_push_size _ rfl, rfl, rfl⟩, fun b hb => ?_, ?_⟩
    · have e : b = s1.heap.objs.size := by simpa using hb
      subst e
      exact I1.fpOk (Nat.le_refl _) (I1.hok.fresh (Nat.le_refl _))
    · refine k ds _ (fun H' => SqT c.X.K H' p xs ∧ RpL c.X.K H' xs ds) H1 q a (by rw [← rq.length]; exact hz) ?_ ⟨hq, rq⟩ fun H' H'' g l => ⟨l.rd g.1, g.2.le l⟩
      rw [← rq.length]
      refine walk_tup.mono (fun H' g => g.1) fun i H' v H'' hi g y => ?_
      obtain ⟨rfl, hv⟩ := y
      obtain ⟨d, h1, h2⟩ := g.2.getV hv
      exact ⟨.refl _ _, d, h1, h2⟩
/-- a tuple times an int -/
def opMulT : D → D → M D
  | .tuple xs, .int k => M.guard (xs ≠ [] ∧ 2 ≤ k ∧ k ≤ 1000 ∧ xs.length ≤ 1000) (M.pure (.tuple (List.replicate k.toNat xs).flatten))
  | _, _ => M.fail
theorem b_mulT : BinD c (binaryOp .Mult) opMulT := ⟨_, op_repT, fun H x y d e QD QE Q r1 r2 hm k => by
  cases r1 <;> cases r2 <;> first | exact hm.elim | skip
  rename_i p xs ds hq rq n
  obtain ⟨⟨h1, h2, h3, h4⟩, q⟩ := hm
  refine ⟨p, n, xs, rfl, rfl, hq, fun e => ?_, h2, h3, by rw [rq.length]; exact h4, fun z hz => ?_⟩
  · subst e; cases rq; exact h1 rfl
  · exact k _ _ _ q (.new hz) (.tup (SqT.of upd_same) ((rq.flat n.toNat).le (Le.new hz)))⟩
end
end Sm

set_option Elab.async false
set_option linter.all false
set_option maxRecDepth 100000
set_option maxHeartbeats 4000000
/-! Sm9: a def that stands in the module, as given. -/
namespace Sm
open PySem PySem.Spec L2
open PyProof.Rows hiding St
section
variable {P : Program} {w : World} {K : PySem.W.Frag} {mg : Str → Option Value} {base : Heap} {ca : String → Addr} {x : Str} {st : Stmt} {ps : List Str} {j : Nat} {sp : Sp} {ks : List PK} {f : Addr} {fd : FuncData}
def HereF (K : PySem.W.Frag) (mg : Str → Option Value) (x : Str) (st : Stmt) (ps : List Str) : Prop := ∃ f fd, mg x = some (.ref f) ∧ PySem.W.keepIn K (.ref f) = true ∧ Binds K fd ps [] ∧ Fun K x x st f fd
theorem HereF.has (h : HereF K mg x st ps) (k : ∀ f fd, Fun K x x st f fd → FnOk P w K mg base (L2.CX P w) j f fd ps sp) : Has P w K mg base x j ps sp := by
  obtain ⟨f, fd, h1, h2, h3, h4⟩ := h
  exact ⟨f, fd, h1, h2, h3, k f fd h4⟩
theorem none_D {F : List D → M D} (h : ∀ ds QD QE, ¬ F ds QD QE) : FnOk P w K mg base (L2.CX P w) j f fd ps (spD K ca ks F) :=
  have no : ∀ vs H Q E, ¬ spD K ca ks F vs H Q E := fun vs H Q E ⟨_, ds, QD, QE, _, _, z, _⟩ => h ds QD QE z
  ⟨fun vs H Q E z => absurd z (no vs H Q E), fun A outer s H args us vs Q E _ _ _ _ z => absurd z (no vs H Q E)⟩
theorem none_L {F : List D → M (List D)} (h : ∀ ds QD QE, ¬ F ds QD QE) : FnOk P w K mg base (L2.CX P w) j f fd ps (spL K ca ks F) :=
  have no : ∀ vs H Q E, ¬ spL K ca ks F vs H Q E := fun vs H Q E ⟨_, ds, QD, QE, _, _, z, _⟩ => h ds QD QE z
  ⟨fun vs H Q E z => absurd z (no vs H Q E), fun A outer s H args us vs Q E _ _ _ _ z => absurd z (no vs H Q E)⟩
end
/-- a def that calls itself: at most n calls deep -/
def recF {α : Type} (st : (List D → M α) → List D → M α) : Nat → List D → M α := fun n => Nat.rec (fun _ => M.fail) (fun _ r => st r) n
theorem recF_succ {α : Type} (st : (List D → M α) → List D → M α) (n : Nat) : recF st (n + 1) = st (recF st n) := rfl
end Sm

set_option Elab.async false
set_option linter.all false
set_option maxRecDepth 100000
set_option maxHeartbeats 4000000
/-! Sm10: mirrors read as conditions. -/
namespace Sm
open PySem PySem.Spec L2
open PyProof.Rows hiding St
section
variable {α β γ σ ρ : Type} {Q : α → Prop} {E : Ex → Prop}
@[simp] theorem w_bind {m : M β} {f : β → M α} : M.bind m f Q E = m (fun a => f a Q E) E := propext ⟨fun h => h, fun h => h⟩
@[simp] theorem w_pure {a : α} : M.pure a Q E = Q a := propext ⟨fun h => h, fun h => h⟩
@[simp] theorem w_fail : (M.fail : M α) Q E = False := propext ⟨fun h => h, fun h => h⟩
@[simp] theorem w_raise {x : Ex} : (M.raise x : M α) Q E = E x := propext ⟨fun h => h, fun h => h⟩
@[simp] theorem w_any {P : α → Prop} : M.any P Q E = ∀ a, P a → Q a := propext ⟨fun h => h, fun h => h⟩
@[simp] theorem w_guard {p : Prop} {m : M α} : M.guard p m Q E = (p ∧ m Q E) := propext ⟨fun h => h, fun h => h⟩
@[simp] theorem w_iteT {m n : M α} : M.ite true m n Q E = m Q E := propext ⟨fun h => h, fun h => h⟩
@[simp] theorem w_iteF {m n : M α} : M.ite false m n Q E = n Q E := propext ⟨fun h => h, fun h => h⟩
theorem w_ite {b : Bool} {m n : M α} : M.ite b m n Q E = if b = true then m Q E else n Q E := by cases b <;> rfl
@[simp] theorem w_nox {m : M α} : M.nox m Q E = m Q (fun _ => False) := propext ⟨fun h => h, fun h => h⟩
@[simp] theorem w_tryC {m : M α} {h : Ex → M α} : M.tryC m h Q E = m Q (fun x => h x Q E) := propext ⟨fun h => h, fun h => h⟩
@[simp] theorem w_seqR {m : M (σ ⊕ ρ)} {k : σ → M α} {emb : ρ → α} : M.seqR m k emb Q E = m (Sum.elim (fun s => k s Q E) fun r => Q (emb r)) E := by
  show m (fun a => Sum.elim k (fun r => M.pure (emb r)) a Q E) E = _
  congr 1
  funext o
  cases o <;> rfl
@[simp] theorem w_catch {tab : List String} {X : String} {mh : M α} {r : Ex → M α} {x : Ex} : catch1 tab X mh r x Q E = (x.cls ∈ tab ∧ if exSub x.cls X = true then mh Q (fun _ => False) else r x Q E) := by
  unfold catch1
  rw [w_guard, w_ite, w_nox]
@[simp] theorem w_forS0 {f : σ → β → M σ} {s : σ} {Q : σ → Prop} : M.forS f [] s Q E = Q s := propext ⟨fun h => h, fun h => h⟩
@[simp] theorem w_forS1 {f : σ → β → M σ} {s : σ} {x : β} {r : List β} {Q : σ → Prop} : M.forS f (x :: r) s Q E = f s x (fun s' => M.forS f r s' Q E) E := propext ⟨fun h => h, fun h => h⟩
@[simp] theorem w_forR0 {f : σ → β → M (σ ⊕ ρ)} {s : σ} {Q : σ ⊕ ρ → Prop} : M.forR f [] s Q E = Q (.inl s) := propext ⟨fun h => h, fun h => h⟩
@[simp] theorem w_forR1 {f : σ → β → M (σ ⊕ ρ)} {s : σ} {x : β} {r : List β} {Q : σ ⊕ ρ → Prop} : M.forR f (x :: r) s Q E = f s x (Sum.elim (fun s' => M.forR f r s' Q E) fun z => Q (.inr z)) E := by
  show f s x (fun o => Sum.elim (fun s' => M.forR f r s') (fun z => M.pure (.inr z)) o Q E) E = _
  congr 1
  funext o
  cases o <;> rfl
/-- a loop by an invariant of what is left -/
theorem forS_inv {f : σ → β → M σ} {Q : σ → Prop} (I : List β → σ → Prop) (step : ∀ x r s, I (x :: r) s → ∀ Q' : σ → Prop, (∀ s', I r s' → Q' s') → f s x Q' E) (fin : ∀ s, I [] s → Q s) : ∀ xs s, I xs s → M.forS f xs s Q E
  | [], s, h => fin s h
  | x :: r, s, h => step x r s h _ fun s' h' => forS_inv I step fin r s' h'
theorem forR_inv {f : σ → β → M (σ ⊕ ρ)} {Q : σ ⊕ ρ → Prop} (I : List β → σ → Prop) (step : ∀ x r s, I (x :: r) s → ∀ Q' : σ ⊕ ρ → Prop, (∀ s', I r s' → Q' (.inl s')) → (∀ z, Q (.inr z) → Q' (.inr z)) → f s x Q' E) (fin : ∀ s, I [] s → Q (.inl s)) : ∀ xs s, I xs s → M.forR f xs s Q E
  | [], s, h => fin s h
  | x :: r, s, h => by
    rw [w_forR1]
    exact step x r s h _ (fun s' h' => forR_inv I step fin r s' h') fun z hz => hz
@[simp] theorem w_map0 {f : β → M (Option γ)} {Q : List γ → Prop} : M.mapC f [] Q E = Q [] := propext ⟨fun h => h, fun h => h⟩
/-- a comprehension of a function -/
theorem mapC_fn {f : β → M (Option γ)} (g : β → Option γ) : ∀ {xs : List β} {Q : List γ → Prop}, (∀ x ∈ xs, ∀ Q' : Option γ → Prop, Q' (g x) → f x Q' E) → Q (xs.filterMap g) → M.mapC f xs Q E
  | [], Q, _, h => h
  | x :: r, Q, hf, h => by
    refine hf x (List.mem_cons_self ..) _ ?_
    refine mapC_fn (xs := r) (Q := fun l => Q (match g x with | some y => y :: l | none => l)) g (fun y hy => hf y (List.mem_cons_of_mem _ hy)) ?_
    cases e : g x with
    | none => rw [List.filterMap_cons_none e] at h; exact h
    | some y => rw [List.filterMap_cons_some e] at h; exact h
/-- .. of draws: each result keeps R -/
theorem mapC_all {f : β → M (Option γ)} (R : γ → Prop) : ∀ {xs : List β} {Q : List γ → Prop}, (∀ x ∈ xs, ∀ Q' : Option γ → Prop, (∀ y, R y → Q' (some y)) → f x Q' E) → (∀ l, l.length = xs.length → (∀ y ∈ l, R y) → Q l) → M.mapC f xs Q E
  | [], Q, _, h => h [] rfl (by simp)
  | x :: r, Q, hf, h => by
    refine hf x (List.mem_cons_self ..) _ fun y hy => ?_
    refine mapC_all (xs := r) (Q := fun l => Q (y :: l)) R (fun y hy => hf y (List.mem_cons_of_mem _ hy)) fun l hl hr => h _ (by simp [hl]) fun z hz => ?_
    rcases List.mem_cons.mp hz with rfl | hz
    · exact hy
    · exact hr z hz
/-- a while by a measure -/
theorem whileN_inv {c : σ → M Bool} {f : σ → M (σ ⊕ ρ)} {Q : σ ⊕ ρ → Prop} (I : σ → Prop) (μ : σ → Nat)
    (step : ∀ s, I s → ∀ C : Bool → Prop, C = (fun b => (b = false → Q (.inl s)) ∧ (b = true → ∀ Q' : σ ⊕ ρ → Prop, (∀ s', I s' → μ s' < μ s → Q' (.inl s')) → (∀ z, Q (.inr z) → Q' (.inr z)) → f s Q' E)) → c s C E)
    (mono : ∀ s, I s → ∀ C C' : Bool → Prop, (∀ b, C b → C' b) → c s C E → c s C' E) : ∀ n s, I s → μ s < n → M.whileN c f n s Q E
  | 0, s, _, h => absurd h (Nat.not_lt_zero _)
  | n + 1, s, hs, hn => by
    refine mono s hs _ _ (fun b hb => ?_) (step s hs _ rfl)
    cases b with
    | false => exact hb.1 rfl
    | true =>
      refine (hb.2 rfl _ (fun s' h' l => ?_) fun z hz => ?_)
      · exact whileN_inv I μ step mono n s' h' (by omega)
      · exact hz
/-- .. that is never left; the test is a function of the state -/
theorem whileS_fn {c : σ → M Bool} {f : σ → M σ} {Q : σ → Prop} (I : σ → Prop) (μ : σ → Nat) (g : σ → Bool) (hc : ∀ s, I s → ∀ C : Bool → Prop, C (g s) → c s C E) (step : ∀ s, I s → g s = true → ∀ Q' : σ → Prop, (∀ s', I s' → μ s' < μ s → Q' s') → f s Q' E) (fin : ∀ s, I s → g s = false → Q s) {s : σ} (h : I s) : M.whileS c f s Q E := by
  refine ⟨μ s + 1, ?_⟩
  have go : ∀ n s, I s → μ s < n → M.whileNS c f n s Q E := by
    intro n
    induction n with
    | zero => intro s _ h; exact absurd h (Nat.not_lt_zero _)
    | succ n ih =>
      intro s hs hn
      refine hc s hs _ ?_
      cases e : g s with
      | false => exact fin s hs e
      | true => exact step s hs e _ fun s' h' l => ih s' h' (by omega)
  exact go _ s h (Nat.lt_succ_self _)
theorem while_fn {c : σ → M Bool} {f : σ → M (σ ⊕ ρ)} {Q : σ ⊕ ρ → Prop} (I : σ → Prop) (μ : σ → Nat) (g : σ → Bool) (hc : ∀ s, I s → ∀ C : Bool → Prop, C (g s) → c s C E)
    (step : ∀ s, I s → g s = true → ∀ Q' : σ ⊕ ρ → Prop, (∀ s', I s' → μ s' < μ s → Q' (.inl s')) → (∀ z, Q (.inr z) → Q' (.inr z)) → f s Q' E) (fin : ∀ s, I s → g s = false → Q (.inl s)) {s : σ} (h : I s) : M.while_ c f s Q E := by
  refine ⟨μ s + 1, ?_⟩
  have go : ∀ n s, I s → μ s < n → M.whileN c f n s Q E := by
    intro n
    induction n with
    | zero => intro s _ h; exact absurd h (Nat.not_lt_zero _)
    | succ n ih =>
      intro s hs hn
      refine hc s hs _ ?_
      cases e : g s with
      | false => exact fin s hs e
      | true => exact step s hs e _ (fun s' h' l => ih s' h' (by omega)) fun z hz => hz
  exact go _ s h (Nat.lt_succ_self _)
end
section
variable {Q : D → Prop} {QB : Bool → Prop} {QL : List D → Prop} {E : Ex → Prop} {xs ys : List D} {i j : Int} {x y : Str} {b t : Bool} {d e : D}
@[simp] theorem tru_b : tru (.bool b) QB E = QB b := propext ⟨fun h => h, fun h => h⟩
@[simp] theorem ofOpt_s {α : Type} {a : α} {Q : α → Prop} : ofOpt (some a) Q E = Q a := propext ⟨fun h => h, fun h => h⟩
@[simp] theorem opIx_t : opIx (.tuple xs) (.int i) Q E = ofOpt (atI xs i) Q E := propext ⟨fun h => h, fun h => h⟩
@[simp] theorem opIx_l : opIx (.list xs) (.int i) Q E = ofOpt (atI xs i) Q E := propext ⟨fun h => h, fun h => h⟩
@[simp] theorem opLen_t : opLen (.tuple xs) Q E = Q (.int xs.length) := propext ⟨fun h => h, fun h => h⟩
@[simp] theorem opLen_l : opLen (.list xs) Q E = Q (.int xs.length) := propext ⟨fun h => h, fun h => h⟩
@[simp] theorem opLen_s : opLen (.str x) Q E = (x.length ≤ sizeLine ∧ Q (.int x.length)) := propext ⟨fun h => h, fun h => h⟩
@[simp] theorem items_t : items (.tuple xs) QL E = QL xs := propext ⟨fun h => h, fun h => h⟩
@[simp] theorem items_l : items (.list xs) QL E = QL xs := propext ⟨fun h => h, fun h => h⟩
@[simp] theorem itemsA_t : itemsA (.tuple xs) QL E = QL xs := propext ⟨fun h => h, fun h => h⟩
@[simp] theorem itemsA_l : itemsA (.list xs) QL E = QL xs := propext ⟨fun h => h, fun h => h⟩
@[simp] theorem itemsA_s : itemsA (.str x) QL E = (x.length ≤ sizeLine ∧ QL (signs x)) := propext ⟨fun h => h, fun h => h⟩
@[simp] theorem asList_l : asList (.list xs) QL E = QL xs := propext ⟨fun h => h, fun h => h⟩
@[simp] theorem opAdd_i : opAdd (.int i) (.int j) Q E = Q (.int (i + j)) := propext ⟨fun h => h, fun h => h⟩
@[simp] theorem opAdd_t : opAdd (.tuple xs) (.tuple ys) Q E = (xs.length + ys.length ≤ sizeLine ∧ Q (.tuple (xs ++ ys))) := propext ⟨fun h => h, fun h => h⟩
@[simp] theorem opAdd_s : opAdd (.str x) (.str y) Q E = (x.length + y.length ≤ sizeLine ∧ Q (.str (x ++ y))) := propext ⟨fun h => h, fun h => h⟩
@[simp] theorem opSub_i : opSub (.int i) (.int j) Q E = Q (.int (i - j)) := propext ⟨fun h => h, fun h => h⟩
@[simp] theorem opMul_i : opMul (.int i) (.int j) Q E = (CMul i j ∧ Q (.int (i * j))) := propext ⟨fun h => h, fun h => h⟩
@[simp] theorem opMod_i : opMod (.int i) (.int j) Q E = (j ≠ 0 ∧ Q (.int (i.fmod j))) := propext ⟨fun h => h, fun h => h⟩
@[simp] theorem opFdiv_i : opFdiv (.int i) (.int j) Q E = (CDivN i j ∧ Q (.int (i.fdiv j))) := propext ⟨fun h => h, fun h => h⟩
@[simp] theorem opPow_i : opPow (.int i) (.int j) Q E = (CPow i j ∧ Q (.int (i ^ j.toNat))) := propext ⟨fun h => h, fun h => h⟩
@[simp] theorem opLt_i : opLt (.int i) (.int j) QB E = QB (decide (i < j)) := propext ⟨fun h => h, fun h => h⟩
@[simp] theorem opLe_i : opLe (.int i) (.int j) QB E = QB (decide (i ≤ j)) := propext ⟨fun h => h, fun h => h⟩
@[simp] theorem opGt_i : opGt (.int i) (.int j) QB E = QB (decide (j < i)) := propext ⟨fun h => h, fun h => h⟩
@[simp] theorem opGe_i : opGe (.int i) (.int j) QB E = QB (decide (j ≤ i)) := propext ⟨fun h => h, fun h => h⟩
@[simp] theorem opEq_w : opEq d e QB E = (min d.depth e.depth ≤ 150 ∧ QB (PyData.eqv d e)) := propext ⟨fun h => h, fun h => h⟩
@[simp] theorem opNe_w : opNe d e QB E = (min d.depth e.depth ≤ 150 ∧ QB (!PyData.eqv d e)) := propext ⟨fun h => h, fun h => h⟩
@[simp] theorem opMax_i : opMax (.int i) (.int j) Q E = Q (.int (if j > i then j else i)) := propext ⟨fun h => h, fun h => h⟩
@[simp] theorem opMin_i : opMin (.int i) (.int j) Q E = Q (.int (if j < i then j else i)) := propext ⟨fun h => h, fun h => h⟩
@[simp] theorem intOf_i : intOf (.int i) Q E = Q (.int i) := propext ⟨fun h => h, fun h => h⟩
@[simp] theorem tupOf_l : tupOf (.list xs) Q E = Q (.tuple xs) := propext ⟨fun h => h, fun h => h⟩
@[simp] theorem tupOf_t : tupOf (.tuple xs) Q E = Q (.tuple xs) := propext ⟨fun h => h, fun h => h⟩
@[simp] theorem addL_l : addL (.list xs) (.list ys) QL E = (xs.length + ys.length ≤ sizeLine ∧ QL (xs ++ ys)) := propext ⟨fun h => h, fun h => h⟩
@[simp] theorem rangeM_i : rangeM (.int i) QL E = ((-(2 ^ 62) ≤ i ∧ i ≤ sizeLine) ∧ QL ((List.range i.toNat).map fun (k : Nat) => (.int (k : Int) : D))) := propext ⟨fun h => h, fun h => h⟩
@[simp] theorem opIn_s : opInA (.str x) (.str y) QB E = QB (inStr x y) := propext ⟨fun h => h, fun h => h⟩
@[simp] theorem opNotIn_s : opNotInA (.str x) (.str y) QB E = QB (!inStr x y) := propext ⟨fun h => h, fun h => h⟩
@[simp] theorem opIn_l : opInA d (.list xs) QB E = (d.depth ≤ 150 ∧ QB (anyEq xs d)) := propext ⟨fun h => h, fun h => h⟩
@[simp] theorem opIn_t : opInA d (.tuple xs) QB E = (d.depth ≤ 150 ∧ QB (anyEq xs d)) := propext ⟨fun h => h, fun h => h⟩
@[simp] theorem anyI_w : anyI Q E = ∀ i : Int, Q (.int i) := by
  show (∀ i : Int, True → Q (.int i)) = _
  simp
@[simp] theorem anyG_w : anyG Q E = ∀ i : Int, (-(2 ^ 62) < i ∧ i < 2 ^ 62) → Q (.int i) := propext ⟨fun h => h, fun h => h⟩
@[simp] theorem srcSet_w {k : Nat} {QU : Unit → Prop} : srcSet k (.int i) QU E = ((k = 0 ∨ (-(2 ^ 62) < i ∧ i < 2 ^ 62)) ∧ QU ()) := propext ⟨fun h => h, fun h => h⟩
theorem srcM_w {n : Nat} {QU : Unit → Prop} : srcM n xs QU E = ((∃ ns : List Int, xs = ns.map .int ∧ ns.length = n ∧ Gd ns) ∧ QU ()) := propext ⟨fun h => h, fun h => h⟩
@[simp] theorem isInt_w {QU : Unit → Prop} : isInt (.int i) QU E = QU () := propext ⟨fun h => h, fun h => h⟩
@[simp] theorem intM_w {QO : Option Int → Prop} : intM (.int i) QO E = QO (some i) := propext ⟨fun h => h, fun h => h⟩
@[simp] theorem opCut_t {l h : Option Int} : opCut (.tuple xs) l h Q E = Q (.tuple (cut xs l h)) := propext ⟨fun h => h, fun h => h⟩
@[simp] theorem opMulT_t : opMulT (.tuple xs) (.int i) Q E = ((xs ≠ [] ∧ 2 ≤ i ∧ i ≤ 1000 ∧ xs.length ≤ 1000) ∧ Q (.tuple (List.replicate i.toNat xs).flatten)) := propext ⟨fun h => h, fun h => h⟩
@[simp] theorem opNeg_i : opNeg (.int i) Q E = Q (.int (-i)) := propext ⟨fun h => h, fun h => h⟩
/-- the items' bools -/
theorem boolsM_of : ∀ {bs : List Bool} {QB : List Bool → Prop}, QB bs → boolsM (bs.map .bool) QB E
  | [], _, h => h
  | b :: r, QB, h => by
    show tru (.bool b) (fun t => boolsM (r.map .bool) (fun l => QB (t :: l)) E) E
    exact boolsM_of (bs := r) h
theorem intsM_of : ∀ {ns : List Int} {QI : List Int → Prop}, QI ns → intsM (ns.map .int) QI E
  | [], _, h => h
  | b :: r, QI, h => by
    show intsM (r.map .int) (fun l => QI (b :: l)) E
    exact intsM_of (ns := r) h
theorem depth_nil : (PyData.list []).depth = 1 := rfl
theorem eqv_list_nil {xs : List D} : PyData.eqv (.list xs) (.list []) = xs.isEmpty := by cases xs <;> simp [PyData.eqv, PyData.eqvAll]
theorem min_one (n : Nat) : min n 1 ≤ 150 := by omega
@[simp] theorem sizeLine_ge (n : Nat) (h : n ≤ 16777216) : n ≤ sizeLine := by rw [sizeLine_eq]; exact h
end
end Sm

set_option Elab.async false
set_option linter.all false
set_option maxRecDepth 100000
set_option maxHeartbeats 4000000
/-! Sm11: more rules. -/
namespace Sm
open PySem PySem.Spec L2
open PyProof.Rows hiding St
section
variable {c : Site} {γx γ : Ctx} {α β : Type} {dec : α → Oc} {rest ss : List Stmt} {e a b : Expr} {pos pos' p p2 p3 apos : Pos} {x : Str} {n : Nat}
/-- a name that may be unset is set here -/
theorem S_some (i : Nat) {o : Option D} {m2 : D → M α} (h : ∀ d, SimS c γx ss (γ.set i (some (.d d))) (m2 d) dec) (hγ : γ[i]? = some (o.map B.d) := by rfl) : SimS c γx ss γ (M.bind (ofOpt o) m2) dec := .mk fun σ H F QD QE hm hxx D k => by
  cases o with
  | none => exact hm.elim
  | some d =>
    refine h d σ H (F.sub fun j b' e => ?_) QD QE hm hxx D k
    by_cases hj : i = j
    · subst hj
      rw [List.getElem?_set_self (List.getElem?_eq_some_iff.mp hγ).1] at e
      cases e
      exact hγ
    · rwa [List.getElem?_set_ne hj] at e
end
end Sm

set_option Elab.async false
set_option linter.all false
set_option maxRecDepth 100000
set_option maxHeartbeats 4000000
/-! Sm12: reversed slices of tuples and texts, enumerate over tuples and lists. -/
namespace Sm
open PySem PySem.Spec L2
open PyProof.Rows hiding St
section
variable {prog : Program} {w : World} {A : Around} {E : Value → Shared → Prop} {s : Shared}
theorem adjust_back (n : Nat) : Builtin.Slice.sliceAdjust none none (-1) (n : Int) = ((n : Int) - 1, -1) := by
  unfold Builtin.Slice.sliceAdjust
  simp
theorem places_back (n : Nat) : Builtin.Slice.slicePlaces ((n : Int) - 1) (-1) (-1) = n := by
  unfold Builtin.Slice.slicePlaces
  simp only [show ¬ ((-1 : Int) > 0) from by decide, if_false]
  have e : ∀ x : Int, x / -(-1) = x := fun x => by simp
  rw [e]
  split <;> omega
theorem fm_congr {α β : Type} {f g : α → Option β} : ∀ {l : List α}, (∀ x ∈ l, f x = g x) → l.filterMap f = l.filterMap g
  | [], _ => rfl
  | x :: r, h => by
    have h1 := h x List.mem_cons_self
    have h2 := fm_congr (l := r) fun y hy => h y (List.mem_cons_of_mem _ hy)
    simp only [List.filterMap_cons, h1, h2]
theorem pick_backG {α : Type} (its : List α) : ((List.range its.length).filterMap fun (k : Nat) => its.toArray[(((its.length : Int) - 1) + (k : Int) * (-1)).toNat]?) = its.reverse := by
  have e : ∀ k ∈ List.range its.length, its.toArray[(((its.length : Int) - 1) + (k : Int) * (-1)).toNat]? = its.reverse[k]? := fun k hk => by
    have hk' : k < its.length := List.mem_range.mp hk
    have e1 : (((its.length : Int) - 1) + (k : Int) * (-1)).toNat = its.length - 1 - k := by omega
    rw [e1, List.getElem?_reverse hk']
    simp
  have e2 : ((List.range its.length).filterMap fun (k : Nat) => its.toArray[(((its.length : Int) - 1) + (k : Int) * (-1)).toNat]?) = (List.range its.length).filterMap fun k => its.reverse[k]? := by
    generalize its.length = n at e ⊢
    exact fm_congr e
  rw [e2]
  refine List.ext_getElem? fun i => ?_
  have e3 : (List.range its.length).filterMap (fun k => its.reverse[k]?) = (List.range its.length).pmap (fun k (hk : k < its.reverse.length) => its.reverse[k]) (fun k hk => by simpa using hk) := by
    have h : ∀ l : List Nat, (hl : ∀ k ∈ l, k < its.reverse.length) → l.filterMap (fun k => its.reverse[k]?) = l.pmap (fun k (hk : k < its.reverse.length) => its.reverse[k]) hl := by
      intro l
      induction l with
      | nil => intro _; rfl
      | cons x r ih =>
        intro hl
        have hx := hl x (by simp)
        rw [List.pmap_cons, List.filterMap_cons_some (List.getElem?_eq_getElem hx), ih fun k hk => hl k (by simp [hk])]
    exact h _ _
  rw [e3]
  by_cases hi : i < its.length
  · simp [hi]
  · simp [hi]
theorem pick_back (its : List Value) : ((List.range its.length).filterMap fun (k : Nat) => its.toArray[(((its.length : Int) - 1) + (k : Int) * (-1)).toNat]?) = its.reverse := pick_backG its
theorem pick_backN (its : List Nat) : ((List.range its.length).filterMap fun (k : Nat) => its.toArray[(((its.length : Int) - 1) + (k : Int) * (-1)).toNat]?) = its.reverse := pick_backG its
/-- t[::-1] at the model's level -/
theorem getItem_tuple_back {t sl : Addr} {its : List Value} {vs : Value} {Q : Value → Shared → Prop} (ht : IsTup s.heap t its.toArray) (hs : s.heap.IsSliceOf sl .none .none vs) (ps : IsPart vs (some (-1))) (hz : its.length ≤ sizeLine)
    (h : Q (.ref s.heap.objs.size) { s with heap := s.heap.push { cls := .type "tuple", data := .seq its.reverse.toArray } }) : wpAny (model prog w) A (getItem (.ref t) (.ref sl)) Q E s := by
  have hsz : sizeOk (.seq its.reverse.toArray) := by
    show its.reverse.toArray.size ≤ sizeLine
    simpa using hz
  obtain ⟨os, o1, o2, o3⟩ := id hs
  have tsl : s.TypeIs (.ref sl) "slice" := ⟨os, o1, o2⟩
  unfold getItem
  try with_reducible refine wpAny_holding ?_
  first | refine wpAny_bind (wpAny_pure ?_) | skip
  refine wpAny_bind (wpAny_sequenceKey ht.typeIs (by decide) ?_)
  refine wpAny_bind (wpAny_callSpecial?_slot (name := Str.ofString "__getitem__") ht.typeIs PyProof.Rows.slot_tuple_getitem
    (wpAny_call_entry PyProof.Rows.slot_tuple_getitem ht.typeIs entry_tuple_getitem ?_ (args_tuple_getitem _ _)))
  show wpAny _ _ (Builtin.Tuple.tupleItemsOf (.ref t) >>= _) _ _ s
  refine wpAny_bind (tupleItemsOf_ ht ?_)
  refine wpAny_bind (wpAny_typeOf tsl ?_)
  rw [if_pos (by decide)]
  have app : ∀ {R : Int × Int × Nat → Shared → Prop}, R (((its.toArray.size : Nat) : Int) - 1, -1, its.toArray.size) s → wpAny (model prog w) A.in1 (Builtin.Slice.sliceApplied (.ref sl) (pure ((its.toArray.size : Nat) : Int))) R E s := fun {R} hR => by
    unfold Builtin.Slice.sliceApplied Builtin.Slice.sliceFields
    refine wpAny_bind (wpAny_bind (wpAny_field o1 o3 (x := .none) rfl (wpAny_bind (wpAny_field o1 o3 (x := .none) rfl (wpAny_bind (wpAny_field o1 o3 (x := vs) rfl (wpAny_pure ?_)))))))
    refine wpAny_bind (HT.slicePart_ ps ?_)
    show wpAny _ _ (if ((-1 : Int) == 0) = true then _ else _) _ _ s
    rw [if_neg (by decide)]
    refine wpAny_bind (HT.slicePart_ .none (wpAny_bind (HT.slicePart_ .none (wpAny_bind (wpAny_pure ?_)))))
    show wpAny _ _ (match Builtin.Slice.sliceAdjust none none (-1) ((its.toArray.size : Nat) : Int) with | (lo, hi) => pure (lo, (-1 : Int), Builtin.Slice.slicePlaces lo hi (-1))) _ _ s
    rw [adjust_back]
    show wpAny _ _ (pure (((its.toArray.size : Nat) : Int) - 1, (-1 : Int), Builtin.Slice.slicePlaces (((its.toArray.size : Nat) : Int) - 1) (-1) (-1))) _ _ s
    rw [places_back]
    exact wpAny_pure hR
  refine wpAny_bind (app ?_)
  have hno : ¬ ((((its.toArray.size : Nat) : Int) - 1 == 0 && (-1 : Int) == 1 && its.toArray.size == its.toArray.size) = true) := by simp
  show wpAny _ _ (if (((its.toArray.size : Nat) : Int) - 1 == 0 && (-1 : Int) == 1 && its.toArray.size == its.toArray.size) = true then _ else _) _ _ s
  rw [if_neg hno]
  have pk : ((List.range its.toArray.size).filterMap fun (k : Nat) => its.toArray[((((its.toArray.size : Nat) : Int) - 1) + (k : Int) * (-1)).toNat]?) = its.reverse := by
    rw [List.size_toArray]; exact pick_back its
  rw [pk]
  first
    | exact wpAny_bind (m := Builtin.Tuple.tupleExact _) (wpAny_newObj_type (wpAny_pure ⟨_, rfl, wpAny_pure h⟩) hsz)
    | exact wpAny_bind (wpAny_bind (m := Builtin.Tuple.tupleExact _) (wpAny_newObj_type (wpAny_pure ⟨_, rfl, wpAny_pure h⟩) hsz))
end
/-- the signs of a text from the last on -/
def revS (z : Str) : Str := ⟨z.cps.toList.reverse.toArray⟩
theorem strSl_back (z : Str) : ((Builtin.Str.strSliceIndices none none (-1) z.length).filterMap (z.cps[·]?)) = z.cps.toList.reverse := by
  have e : Builtin.Str.strSliceIndices none none (-1) z.length = (List.range z.cps.toList.length).map fun (k : Nat) => (((z.cps.toList.length : Int) - 1) + (-1) * (k : Int)).toNat := by
    unfold Builtin.Str.strSliceIndices sliceRange
    have hl : z.length = z.cps.toList.length := by rw [Array.length_toList]; rfl
    simp only [show ¬ ((-1 : Int) > 0) from by decide, if_false]
    rw [hl]
    congr 2
    have e0 : ∀ x : Int, x / (- -1) = x := fun x => by simp
    rw [e0]
    split <;> omega
  rw [e, List.filterMap_map]
  have h := fun its : List Nat => (show ((List.range its.length).filterMap fun (k : Nat) => its.toArray[(((its.length : Int) - 1) + (-1) * (k : Int)).toNat]?) = its.reverse from by
    have e2 : ∀ k : Nat, (((its.length : Int) - 1) + (-1) * (k : Int)).toNat = (((its.length : Int) - 1) + (k : Int) * (-1)).toNat := fun k => by rw [Int.mul_comm]
    simp only [e2]
    exact pick_backN its)
  have h2 := h z.cps.toList
  rw [← h2]
  refine fm_congr fun k hk => ?_
  simp
section
variable {c : Site} {γ : Ctx} {e : Expr} {m : M D}
def opRev : D → M D
  | .tuple xs => M.pure (.tuple xs.reverse)
  | .str z => M.guard (z.length ≤ sizeLine) (M.pure (.str (revS z)))
  | _ => M.fail
theorem strOk_rev {z : Str} (h : PyData.strOk z = true) : PyData.strOk (revS z) = true := by
  unfold PyData.strOk revS at *
  rw [List.all_toArray, List.all_reverse]
  simpa using h
/-- e[::-1] of a tuple or a text -/
theorem E_rev {k : Nat} {p1 p4 p3 pos : Pos} (h : SimE c γ e m) : SimE c γ (.Subscript e (.Slice none none (some (.UnaryOp .USub (.Constant (.int 1) k p1) p4)) p3) pos) (M.bind m opRev) := .mk fun σ H F QD QE hm hx Q kq pins s I => by
  refine Subscript_ (thn (h σ H F _ QE hm hx (fun v H1 => ∃ d, Adv c.S H H1 ∧ Rp c.X.K H1 v d ∧ opRev d QD QE) (fun d v H' q a r => ⟨d, a, r, q⟩) pins s I) fun v s1 ⟨x, H1, I1, r1, d, a, r, q⟩ => ?_)
  have hst : PO c.X (some (.UnaryOp .USub (.Constant (.int 1) k p1) p4)) (tPart (tUn (rU fun i => .int (-i)) (tC (.int 1)))) := po_some (pe_un un_neg pe_int)
  refine wpAny_Slice (thn (po_none.run pins s1 σ H1 (fun o H2 => o = none ∧ H2 = H1) I1 ⟨rfl, rfl⟩) fun vl s2 ⟨l, H2, I2, pl, el, e2⟩ => ?_)
  subst el e2
  refine thn (po_none.run pins s2 σ H2 (fun o H3 => o = none ∧ H3 = H2) I2 ⟨rfl, rfl⟩) fun vu s3 ⟨u, H3, I3, pu, eu, e3⟩ => ?_
  subst eu e3
  refine thn (hst.run pins s3 σ H3 (fun o H4 => o = some (-1) ∧ H4 = H3) I3 ⟨1, rfl, -1, rfl, rfl, rfl⟩) fun vs s4 ⟨o, H4, I4, ps, eo, e4⟩ => ?_
  subst eo e4
  have I5 : Inv c.X pins σ H4 { s4 with heap := s4.heap.push { cls := .type "slice", data := .fields #[vl, vu, vs] } } := I4.kept (t' := s4.toks) fun b ob q => Heap.get?_push_of_some _ q
  cases pl
  cases pu
  cases r <;> first | exact q.elim | skip
  · rename_i z hz
    obtain ⟨tk, rfl⟩ := r1
    obtain ⟨hl, q⟩ := q
    show wpAny (model c.X.prog c.X.w) c.X.A (subscriptTail e (.Slice none none (some (.UnaryOp .USub (.Constant (.int 1) k p1) p4)) p3) (.str z tk) (.ref s4.heap.objs.size)) (EP c.X pins σ Q) c.X.xe { s4 with heap := s4.heap.push { cls := .type "slice", data := .fields #[.none, .none, vs] } }
    refine tail_any (ops := [.str z tk, .ref s4.heap.objs.size]) (typeIs_str _ z tk) (PySem.F.slot_str_getitem.lookup) ?_ (by with_unfolding_all rfl)
    obtain ⟨u, e1, e2⟩ := IsPart.raw ps
    subst e1
    cases u with
    | none => cases e2
    | some u =>
      obtain ⟨i, ut⟩ := u
      have e3 : i = -1 := by simp at e2; omega
      subst e3
      refine wpAny_getItem_str_slice (l := none) (u := none) (st := some (-1, ut)) ⟨_, Heap.get?_push_size _ rfl, rfl, rfl⟩ rfl ?_
      have em : sliceMade z tk none none (some (-1, ut)) = Made.str (revS z) := by
        unfold sliceMade slicePicked
        rw [if_neg (by intro h; simp at h)]
        show Made.str ⟨((Builtin.Str.strSliceIndices none none (-1) z.length).filterMap (z.cps[·]?)).toArray⟩ = _
        rw [strSl_back]
        rfl
      rw [em]
      exact ⟨by show z.cps.toList.reverse.toArray.size ≤ sizeLine; rw [List.size_toArray, List.length_reverse, Array.length_toList]; exact hl, .str _, H4, I5.tok _, ⟨_, rfl⟩, kq _ _ _ q a (.str _ (strOk_rev hz))⟩
  · rename_i p xs ds hq rq
    cases r1
    obtain ⟨its, r, ht, hz⟩ := I5.tuple hq
    show wpAny (model c.X.prog c.X.w) c.X.A (subscriptTail e (.Slice none none (some (.UnaryOp .USub (.Constant (.int 1) k p1) p4)) p3) (.ref p) (.ref s4.heap.objs.size)) (EP c.X pins σ Q) c.X.xe { s4 with heap := s4.heap.push { cls := .type "slice", data := .fields #[.none, .none, vs] } }
    refine tail_any (ops := [.ref p, .ref s4.heap.objs.size]) ht.typeIs (PyProof.Rows.slot_tuple_getitem.lookup) ?_ (by with_unfolding_all rfl)
    refine getItem_tuple_back ht (Heap.IsSliceOf.new _ _ _ vs) ps (by rw [← r.length]; exact hz) ?_
    refine ⟨.ref _, _, I5.laid (t' := s4.toks) (o := .tup xs.reverse) (fun b ob q => Heap.get?_push_of_some _ q) (Nat.le_refl _) ?_, rfl, kq _ _ _ q (a.trans (.new (I5.hok.fresh (Nat.le_refl _)))) (.tup (SqT.of upd_same) (rq.reverse.le (Le.new (I5.hok.fresh (Nat.le_refl _)))))⟩
    exact ⟨by rw [List.length_reverse]; exact hz, _, r.reverse, IsTup.new _ _⟩
end
end Sm

set_option Elab.async false
set_option linter.all false
set_option maxRecDepth 100000
set_option maxHeartbeats 4000000
/-! Sm13: enumerate over tuples and lists. -/
namespace Sm
open PySem PySem.Spec L2
open PyProof.Rows hiding St
/-- the pairs of places and items, from place k on -/
def enumL : Nat → List D → List D
  | _, [] => []
  | k, x :: r => .tuple [.int (k : Nat), x] :: enumL (k + 1) r
theorem enumL_len : ∀ (k : Nat) (xs : List D), (enumL k xs).length = xs.length
  | _, [] => rfl
  | k, x :: r => by simp [enumL, enumL_len (k + 1) r]
theorem enumL_get : ∀ (k : Nat) (xs : List D) (i : Nat), (enumL k xs)[i]? = xs[i]?.map fun x => .tuple [.int ((k + i : Nat) : Int), x]
  | _, [], i => by simp [enumL]
  | k, x :: r, 0 => by simp [enumL]
  | k, x :: r, i + 1 => by
    have e : k + 1 + i = k + (i + 1) := by omega
    simp only [enumL, List.getElem?_cons_succ, enumL_get (k + 1) r i, e]
def enumM : D → M (List D)
  | .tuple xs => M.pure (enumL 0 xs)
  | .list xs => M.pure (enumL 0 xs)
  | _ => M.fail
/-- the tuple at a, its items in new pairs -/
def IteT (K : PySem.W.Frag) (a : Addr) : It :=
  ⟨fun i H => ∃ (xs : List V) (x : V), SqT K H a xs ∧ xs[i]? = some x, fun i H v H' => ∃ T x, v = .ref T ∧ H T = none ∧ H' = upd H T (.tup [.int (i : Nat), x]) ∧ ∀ xs, SqT K H a xs → xs[i]? = some x, fun i H => ∃ xs : List V, SqT K H a xs ∧ xs.length ≤ i⟩
theorem tup_ne_iter {h : Heap} {a it : Addr} {i : Nat} {its : Array Value} (ht : h.IsTuple a its) (hi : h.IsTupleIter it a i) : a ≠ it := fun z => by
  subst z
  obtain ⟨o, ho, hc, _⟩ := ht
  obtain ⟨o', ho', hc', _⟩ := hi
  rw [ho] at ho'
  cases ho'
  rw [hc] at hc'
  exact absurd (Value.type.inj hc') (by decide)
theorem turn_enumT {P : Program} {w : World} {K : PySem.W.Frag} {elts : List Expr} {kk : Nat} {tpos : Pos} (a e it : Addr) :
    Turn P w K (.Tuple elts kk tpos) (IteT K a) [e, it] e (fun i h => (∃ old, IsEnum h e it ((i : Nat) : Int) old) ∧ h.IsTupleIter it a i ∧ e ≠ it) where
  mem := List.mem_cons_self
  obj := fun i h st b hb => by
    obtain ⟨⟨old, he⟩, ⟨o, o1, o2, o3⟩, _⟩ := st
    rcases (show b = e ∨ b = it by simpa using hb) with rfl | rfl
    · exact ⟨_, he, fun v q => nomatch q⟩
    · exact ⟨o, o1, fun v q => by rw [o3] at q; cases q⟩
  keep := fun i h h' st k => by
    obtain ⟨⟨old, he⟩, hi, hne⟩ := st
    exact ⟨⟨old, k e (by simp) _ he⟩, hi.at fun o q => k it (by simp) o q, hne⟩
  item := by
    intro X hP hw hK hc i pins s σ H E I hf st hg
    subst hP hw hK
    obtain ⟨⟨old, he⟩, hit, hne⟩ := st
    obtain ⟨xs, x, hq, hx⟩ := hg
    obtain ⟨its, rv, p, hz⟩ := I.tuple hq
    obtain ⟨u, hu, ru⟩ := rv.get hx
    have p' : s.heap.IsTuple a its.toArray := p
    have hae := tup_ne_iter p' hit
    have hel : e < s.heap.objs.size := Heap.lt_size he
    have hil : it < s.heap.objs.size := by obtain ⟨_, q, _⟩ := hit; exact Heap.lt_size q
    have hea : e ≠ a := fun z => by
      subst z
      obtain ⟨o, ho, hc, _⟩ := p'
      rw [he] at ho
      cases ho
      exact absurd (Value.type.inj hc) (by decide)
    have hi : i < its.toArray.size := by
      have := (List.getElem?_eq_some_iff.mp hu).1
      simpa using this
    refine wpAny_pyNext_enum_itemD (Draws.tuple (prog := X.prog) (w := X.w) (A := X.A.in1) (show X.A.in1.handled = none from I.ok.hd hc) it a hae its.toArray) he ⟨hit, p'⟩ hi hne (by simp only [List.mem_cons, List.not_mem_nil, or_false, not_or]; exact ⟨hne, hea⟩) fun y h' tk hy ho st' hT hsz hk => ?_
    have ey : y = u := by
      have : its.toArray[i]? = some u := by simpa using hu
      rw [this] at hy
      cases hy
      rfl
    subst ey
    refine ⟨_, rfl, wpAny_letOwnedTupleGo_enum (s := { s with heap := h', toks := tk + 1 }) ho fun h'' he' sb => ?_⟩
    have hT2 : h''.get? s.heap.objs.size = some { cls := .type "tuple", data := .seq #[.int i tk, y] } := (sb.2 _ (Nat.ne_of_gt hel)).trans hT
    have new : ObjOk X.prog X.w (upd H s.heap.objs.size (.tup [.int (i : Nat), x])) h'' s.heap.objs.size (.tup [.int (i : Nat), x]) := by
      refine ⟨?_, [.int i tk, y], .cons ⟨_, rfl⟩ (.cons ru .nil), ⟨_, hT2, rfl, _, rfl⟩⟩
      show 2 ≤ sizeLine
      decide
    have I1 : Inv X pins σ (upd H s.heap.objs.size (.tup [.int (i : Nat), x])) { s with heap := h'', toks := tk + 1 } := by
      refine I.turnedNew (ch := [e, it]) (fun b ob hb q => ?_) hf (Nat.le_refl _) new
      have b1 : b ≠ e := fun z => hb (by simp [z])
      have b2 : b ≠ it := fun z => hb (by simp [z])
      exact (sb.2 b b1).trans (hk b ob b1 b2 q)
    refine ⟨.ref s.heap.objs.size, _, I1, rfl, ⟨_, x, rfl, I.hok.fresh (Nat.le_refl _), rfl, fun ys hy => by rw [I.tuple_inj hy hq]; exact hx⟩, ⟨⟨y, ?_⟩, st'.1.at fun o q => (sb.2 it (Ne.symm hne)).trans q, hne⟩, fun b hb => ?_⟩
    · have e1 : ((i + 1 : Nat) : Int) = (i : Int) + 1 := Int.natCast_succ i
      rw [e1]
      exact he'
    · have hb' : b < s.heap.objs.size := by
        rcases (show b = e ∨ b = it by simpa using hb) with z | z
        · rw [z]; exact hel
        · rw [z]; exact hil
      rw [upd_ne (Nat.ne_of_lt hb')]
      exact (hf b hb).1
  done := by
    intro X hP hw hK hc i pins s σ H E I hf st hg
    subst hP hw hK
    obtain ⟨⟨old, he⟩, hit, hne⟩ := st
    obtain ⟨xs, hq, hx⟩ := hg
    obtain ⟨its, rv, p, hz⟩ := I.tuple hq
    have p' : s.heap.IsTuple a its.toArray := p
    have hae := tup_ne_iter p' hit
    obtain ⟨f0, f1, f2, f3, f4, f5⟩ := hf it (by simp)
    have hl := rv.length
    have hT : s.TypeIs (.ref e) "enumerate" := ⟨_, he, rfl⟩
    have hx' : its.toArray[i]? = none := by simp; omega
    unfold pyNext
    refine wpAny_bind (wpAny_attempt (wpAny_callSpecial?_slot (name := Str.ofString "__next__") hT F.slot_enumerate_next
      (wpAny_call_entry F.slot_enumerate_next hT F.entry_enumerate_next ?_ (F.args_enumerate_next_1 _))))
    show wpAny _ _ (field (.ref e) 2 >>= _) _ _ _
    refine wpAny_bind (wpAny_field he rfl (x := .ref it) rfl ?_)
    refine wpAny_bind (wpAny_nextOf_tuple_end (I.ok.hd hc) hit p' hx' fun h' x he' hx2 => ?_)
    obtain ⟨o, ho, hc2⟩ := hx2
    refine wpAny_bind (wpAny_isInstance (T := "StopIteration") (b := true) ⟨o, ho, hc2⟩ isSubtype_stop ?_)
    exact wpAny_pure ⟨rfl, I.turned (t' := s.toks) (fun b o hb q => he' b o hb q) f0 f1 f3 f4 f5⟩
  self := fun A i s Q E st h => by
    obtain ⟨⟨_, he⟩, _⟩ := st
    exact wpAny_pyIter_enum he h
theorem walk_enumT {K : PySem.W.Frag} {a : Addr} {xs : List V} : Walk (IteT K a) xs.length (fun H => SqT K H a xs) (YPair (fun i => some (.int (i : Nat))) (fun i => xs[i]?)) := by
  refine ⟨fun i _ hi q => ⟨xs, xs[i], q, by simp [hi]⟩, fun _ q => ⟨xs, q, Nat.le_refl _⟩, fun i H v H' _ q y => ?_⟩
  obtain ⟨T, x, h1, h2, h3, h4⟩ := y
  exact ⟨T, .int (i : Nat), x, h1, h2, h3, rfl, h4 xs q⟩
set_option maxHeartbeats 1000000 in
theorem meets_enum_newT (l : Addr) (items : Array Value) (n : Nat) (dct : Option Addr) (sl : Array (Option Value)) :
    Meets (Builtin.«enumerate.__new__» ⟨[.type "enumerate", .ref l], []⟩) (fun _ R s => s.heap.get? l = some { cls := .type "tuple", dict := dct, data := .seq items n, slots := sl } ∧
      R (.ok (.ret (.ref (s.heap.push { cls := .type "tuple_iterator", data := .fields #[.ref l, .int 0 0] }).objs.size)))
        { s with heap := (s.heap.push { cls := .type "tuple_iterator", data := .fields #[.ref l, .int 0 0] }).push { cls := .type "enumerate", data := .fields #[.none, .bool false, .ref s.heap.objs.size, rawInt 0, .none, .none] } }) :=
  .of_wp fun prog w A R s h => by
    obtain ⟨hp, g, d, tk, os⟩ := s
    obtain ⟨hl, h⟩ := h
    have hsub := sub_enumerate
    have hL : Heap.IsTuple (Shared.heap ⟨hp, g, d, tk, os⟩) l items := ⟨_, hl, rfl, n, rfl⟩
    wp_walk using AutoSeq1.wpAny_loadPart' hl, wpAny_pyIter_tuple hL
    refine wpAny_stack_any fun st => wpAny_pure ?_
    split
    · rename_i c _ _ _ _ _
      cases (c == Value.type "enumerate") <;> (wp_walk using AutoSeq1.wpAny_loadPart' hl, wpAny_pyIter_tuple hL; exact ⟨_, rfl, h⟩)
    · wp_walk using AutoSeq1.wpAny_loadPart' hl, wpAny_pyIter_tuple hL
      exact ⟨_, rfl, h⟩
theorem call_enum_tuple {prog : Program} {w : World} {A : Around} {E : Value → Shared → Prop} {s : Shared} {l : Addr} {items : Array Value} {Q : Value → Shared → Prop} (hL : s.heap.IsTuple l items)
    (h : ∀ h', IsEnum h' (s.heap.objs.size + 1) s.heap.objs.size 0 .none → h'.IsTupleIter s.heap.objs.size l 0 → (∀ b o, s.heap.get? b = some o → h'.get? b = some o) → Q (.ref (s.heap.objs.size + 1)) { s with heap := h' }) :
    wpAny (model prog w) A (call (.type "enumerate") [.ref l]) Q E s := by
  obtain ⟨⟨c, dct, dt, sl⟩, hl, hc, n, hd⟩ := hL
  simp only at hc hd
  subst hc hd
  refine callType_new F.called_enumerate (by decide) (F.typeCall_enumerate_1 _) (F.newCall_enumerate_1 _) (fun obj => F.args_object_init_2 obj _) F.entry_enumerate_new
    (meets_enum_newT l items n dct sl) ⟨hl, ?_⟩
  have hz : (s.heap.push { cls := .type "tuple_iterator", data := .fields #[.ref l, .int 0 0] }).objs.size = s.heap.objs.size + 1 := Heap.size_push ..
  show _ ∧ _
  rw [hz]
  have he : IsEnum ((s.heap.push { cls := .type "tuple_iterator", data := .fields #[.ref l, .int 0 0] }).push { cls := .type "enumerate", data := .fields #[.none, .bool false, .ref s.heap.objs.size, rawInt 0, .none, .none] }) (s.heap.objs.size + 1) s.heap.objs.size 0 .none := by
    have := Heap.get?_push_size (s.heap.push { cls := .type "tuple_iterator", data := .fields #[.ref l, .int 0 0] }) (o := { cls := .type "enumerate", data := .fields #[.none, .bool false, .ref s.heap.objs.size, rawInt 0, .none, .none] }) rfl
    rw [hz] at this
    exact this
  exact ⟨⟨_, he, rfl⟩, h _ he ⟨_, Heap.get?_push_of_some _ (Heap.get?_push_size _ rfl), rfl, rfl⟩ fun b o x => Heap.get?_push_of_some _ (Heap.get?_push_of_some _ x)⟩
section
variable {c : Site} {γ : Ctx} {e : Expr} {p pos tpos : Pos} {elts : List Expr} {kk : Nat} {m : M D}
/-- for .. in enumerate(e), e a tuple or a list that nobody changes -/
theorem I_enum (hm : c.X.mg "enumerate" = none) (h : SimE c γ e m) (hg : Gl c.X "enumerate" := by rfl) (hs : starEach [e] c.X.env = [(false, eval e c.X.env)] := by exact star_cons rfl) :
    SimI c (.Tuple elts kk tpos) γ (.Call (.Name "enumerate" p) [e] [] pos) (M.bind m enumM) := .mk fun σ H F QD QE hm' hx R k pins s I => by
  have ha := (pa_cons (X := c.X) EV.pe pa_nil hs).run pos pins s σ H (fun vs H1 => ∃ v d, vs = [v] ∧ Adv c.S H H1 ∧ Rp c.X.K H1 v d ∧ enumM d QD QE) I
    (h σ H F _ QE hm' hx _ fun d v H' q a r => ⟨v, d, rfl, a, r, q⟩)
  refine Call_ (ld_blt I hg hm boot_enumerate (PyProof.Rows.callWith_type1 (thn ha fun us s1 ⟨vs, H1, I1, r1, v, d, ev, a, r, q⟩ => ?_) hs rfl))
  subst ev
  cases r1 with
  | cons rv rr =>
    cases rr
    have fp : ∀ (h' : Heap), (∀ b o, s1.heap.get? b = some o → h'.get? b = some o) → ∀ b ∈ [s1.heap.objs.size + 1, s1.heap.objs.size], FpOk c.X pins H1 b := fun h' hk b hb => by
      have hle : s1.heap.objs.size ≤ b := by
        rcases (show b = s1.heap.objs.size + 1 ∨ b = s1.heap.objs.size by simpa using hb) with z | z
        · rw [z]; exact Nat.le_succ _
        · rw [z]; exact Nat.le_refl _
      exact I1.fpOk hle (I1.hok.fresh hle)
    have yd : ∀ {xs : List V} {ds : List D} (G : Hp → Prop) (hG : ∀ H, G H → RpL c.X.K H xs ds) (i : Nat) (H : Hp) (v : V) (H' : Hp), i < xs.length → G H → YPair (fun i => some (.int (i : Nat))) (fun i => xs[i]?) i H v H' → YD c (enumL 0 ds) i H v H' := fun {xs ds} G hG i H v H' hi g y => by
      obtain ⟨T, x, z, rfl, hT, rfl, e1, e2⟩ := y
      cases e1
      obtain ⟨dd, h1, h2⟩ := (hG H g).getV e2
      refine ⟨.new hT, .tuple [.int (i : Nat), dd], ?_, .tup (SqT.of upd_same) (.cons (.int _) (.cons (h2.le (Le.new hT)) .nil))⟩
      rw [enumL_get, h1, Nat.zero_add]
      rfl
    cases r <;> first | exact q.elim | skip
    · rename_i a0 xs ds hq rq
      cases rv
      obtain ⟨its, rv, p', hz⟩ := I1.list hq.sq
      refine call_enumerate_list p'.isList fun h' he hit hsz hk => wpAny_pyIter_enum he ?_
      refine ⟨s1.heap.objs.size + 1, [s1.heap.objs.size + 1, s1.heap.objs.size], _, _, H1, rfl, I1.kept (t' := s1.toks) hk, turn_enum a0 (s1.heap.objs.size + 1) s1.heap.objs.size, ⟨⟨.none, he⟩, hit, Nat.succ_ne_self _⟩, fp h' hk, ?_⟩
      refine k _ _ (fun H' => FzL c.X.K H' a0 xs ∧ RpL c.X.K H' xs ds) H1 q a (by rw [enumL_len, ← rq.length]; exact hz) ?_ ⟨hq, rq⟩ fun H' H'' g l => ⟨l.fz g.1, g.2.le l⟩
      rw [enumL_len, ← rq.length]
      exact walk_enum.mono (fun H' g => g.1.sq) (yd _ fun H g => g.2)
    · rename_i a0 xs ds hq rq
      cases rv
      obtain ⟨its, rv, p', hz⟩ := I1.tuple hq
      refine call_enum_tuple (show s1.heap.IsTuple a0 its.toArray from p') fun h' he hit hk => wpAny_pyIter_enum he ?_
      refine ⟨s1.heap.objs.size + 1, [s1.heap.objs.size + 1, s1.heap.objs.size], _, _, H1, rfl, I1.kept (t' := s1.toks) hk, turn_enumT a0 (s1.heap.objs.size + 1) s1.heap.objs.size, ⟨⟨.none, he⟩, hit, Nat.succ_ne_self _⟩, fp h' hk, ?_⟩
      refine k _ _ (fun H' => SqT c.X.K H' a0 xs ∧ RpL c.X.K H' xs ds) H1 q a (by rw [enumL_len, ← rq.length]; exact hz) ?_ ⟨hq, rq⟩ fun H' H'' g l => ⟨l.rd g.1, g.2.le l⟩
      rw [enumL_len, ← rq.length]
      exact walk_enumT.mono (fun H' g => g.1) (yd _ fun H g => g.2)
end
end Sm

set_option Elab.async false
set_option linter.all false
set_option maxRecDepth 100000
set_option maxHeartbeats 4000000
/-! Sm14: sorted of tuples of ints or of texts, == of deep data, calls without arguments. -/
namespace Sm
open PySem PySem.Spec L2
open PyProof.Rows hiding St
/-! ### sorting -/
abbrev SK := List (Int ⊕ List Nat)
def keyI : D → Option (Int ⊕ List Nat)
  | .int i => some (.inl i)
  | .str x => some (.inr x.cps.toList)
  | _ => none
def keyL : List D → SK
  | [] => []
  | x :: r => match keyI x with
    | some k => k :: keyL r
    | none => keyL r
def keyD : D → SK
  | .tuple xs => keyL xs
  | _ => []
/-- all ints (b false), all texts (b true) -/
def ofK (b : Bool) : D → Bool
  | .int _ => !b
  | .str _ => b
  | _ => false
def tupK (b : Bool) : D → Bool
  | .tuple xs => !xs.isEmpty && xs.all (ofK b)
  | _ => false
abbrev kLt (x y : SK) : Bool := lexLt itemOrd x y
/-- the items in their order -/
def sortT (ds : List D) : M (List D) := M.guard (∃ b, ∀ d ∈ ds, tupK b d = true) (M.any fun ys => ys.Perm ds ∧ ys.Pairwise fun x y => kLt (keyD y) (keyD x) = false)
theorem perm_rp {K : PySem.W.Frag} {H : Hp} : ∀ {vs ws : List V}, ws.Perm vs → ∀ {ds : List D}, RpL K H vs ds → ∃ es, RpL K H ws es ∧ es.Perm ds := by
  intro vs ws p
  induction p with
  | nil => exact fun r => ⟨_, r, .refl _⟩
  | cons x p ih =>
    intro ds r
    cases r with
    | cons r1 r2 =>
      obtain ⟨es, h1, h2⟩ := ih r2
      exact ⟨_ :: es, .cons r1 h1, h2.cons _⟩
  | swap x y l =>
    intro ds r
    cases r with
    | cons r1 r2 =>
      cases r2 with
      | cons r2 r3 => exact ⟨_, .cons r2 (.cons r1 r3), .swap _ _ _⟩
  | trans p q ih1 ih2 =>
    intro ds r
    obtain ⟨es, h1, h2⟩ := ih2 r
    obtain ⟨fs, h3, h4⟩ := ih1 h1
    exact ⟨fs, h3, h4.trans h2⟩
section
variable {prog : Program} {w : World} {A : Around} {E : Value → Shared → Prop} {s : Shared}
/-- v is a tuple in h, of one kind, with this key -/
def TupV (h : Heap) (b : Bool) (v : Value) (k : SK) : Prop := ∃ a o xs n f, v = .ref a ∧ h.get? a = some o ∧ o.cls = .type "tuple" ∧ o.data = .seq xs n ∧ xs[0]? = some f ∧ ((b = false → ∃ i t, f = .int i t) ∧ (b = true → ∃ x t, f = .str x t)) ∧ tupItems (fun _ => b) 0 xs.toList = some k
theorem TupV.keeps {h h' : Heap} {b : Bool} {v : Value} {k : SK} (t : TupV h b v k) (hk : ∀ a o, h.get? a = some o → o.cls = .type "tuple" → h'.get? a = some o) : TupV h' b v k := by
  obtain ⟨a, o, xs, n, f, e, ho, hc, r⟩ := t
  exact ⟨a, o, xs, n, f, e, hk a o ho hc, hc, r⟩
theorem swo_key (k : Value → SK) : SrtO.Swo fun v u => kLt (k v) (k u) := by
  refine ⟨fun x y h => ?_, fun x y z h1 h2 => ?_⟩
  · exact KeyOrd.klt_asymm (O := listOrd itemOrd) h
  · exact KeyOrd.kle_trans (O := listOrd itemOrd) h1 h2
theorem tups_sortable {a : Addr} {vs : List Value} {k : Value → SK} {b : Bool} (h0 : 0 < vs.length) (hp : ∀ v ∈ vs, TupV s.heap b v (k v)) (ha : ∀ o, s.heap.get? a = some o → o.cls ≠ .type "tuple") : SrtO.SortableO prog w A s a vs fun v u => kLt (k v) (k u) := by
  intro h' keep
  have hp' : ∀ v ∈ vs, TupV h' b v (k v) := fun v hm => (hp v hm).keeps fun c o e hc => keep c o (fun z => by subst z; exact ha o e hc) e
  have fs : ∀ l : List Value, (∀ v ∈ l, TupV h' b v (k v)) → ∃ fs, TupsOf h' (fun _ => b) l fs ∧ fs.length = l.length := by
    intro l
    induction l with
    | nil => exact fun _ => ⟨[], .nil, rfl⟩
    | cons v l ih =>
      intro hl
      obtain ⟨fs, h1, h2⟩ := ih fun u hu => hl u (by simp [hu])
      obtain ⟨a, o, xs, n, f, e, ho, hc, hd, hf, hk, _⟩ := hl v (by simp)
      exact ⟨f :: fs, .cons ⟨a, o, xs, n, e, ho, hc, hd, hf, hk.1, hk.2⟩ h1, by simp [h2]⟩
  obtain ⟨fs, h1, h2⟩ := fs vs hp'
  refine ⟨tuples' true, fun Q E hq => tup_kind (s := { s with heap := h' }) (by omega) h1 hq, ?_⟩
  intro p q hm hm'
  obtain ⟨a1, o1, xs1, n1, f1, e1, ho1, hc1, hd1, hf1, _, hi1⟩ := hp' _ hm
  obtain ⟨a2, o2, xs2, n2, f2, e2, ho2, hc2, hd2, hf2, _, hi2⟩ := hp' _ hm'
  show wpAny (model prog w) A (keyLt' (tuples' true) p.1 q.1) (fun r s' => s' = { s with heap := h' } ∧ r = kLt (k p.1) (k q.1)) (fun _ _ => False) { s with heap := h' }
  rw [e1, e2] at *
  exact PySem.W.kat_lt ho1 hd1 ho2 hd2 (tup_lex xs1.toList xs2.toList 0 _ _ hi1 hi2 (by rw [Array.length_toList, Array.length_toList]) ⟨rfl, rfl⟩)
theorem sorted_keys {l : Addr} {vs : List Value} {k : Value → SK} {b : Bool} {Q : Value → Shared → Prop} (hl : s.heap.IsList l vs.toArray) (hz : vs.length ≤ sizeLine) (hp : ∀ v ∈ vs, TupV s.heap b v (k v))
    (h : ∀ (h' : Heap) (d : Addr) (out : List Value), SrtO.Srtd (fun v u => kLt (k v) (k u)) out → out.Perm vs → (∀ b o, s.heap.get? b = some o → h'.get? b = some o) → s.heap.objs.size ≤ d → (∃ n, h'.get? d = some (seqObj "list" out.toArray n)) → Q (.ref d) { s with heap := h' }) :
    wpAny (model prog w) A (call (.builtin "sorted") [.ref l]) Q E s := by
  refine SrtO.sorted_ord (swo_key k) hl hz (fun h2 h₁ a ha kk => ?_) fun out hs hb => ?_
  · refine tups_sortable (s := { s with heap := h₁ }) (by omega) (fun v hm => (hp v hm).keeps fun b o e _ => (kk b o e).2) fun o e => ?_
    have e' : some o = some (seqObj "list" vs.toArray 0) := e.symm.trans ha
    cases e'
    intro c
    exact absurd (Value.type.inj c) (by decide)
  · exact h _ _ out hs hb.perm (fun b o e => sortedAll_old e) (Nat.le_succ _) (sortedAll_at s.heap vs out.toArray)
end
/-- the key of a tuple of the state -/
theorem items_key {K : PySem.W.Frag} {H : Hp} {b : Bool} : ∀ {xs : List V} {us : List Value} {ds : List D} (i : Nat), RpL K H xs ds → Vals xs us → ds.all (ofK b) = true → tupItems (fun _ => b) i us = some (keyL ds)
  | _, _, _, i, .nil, r, _ => by cases r; simp [tupItems, keyL]
  | _, _, _, i, .cons (v := v) (d := d) r1 r2, r, ho => by
    cases r with
    | cons q1 q2 =>
      simp only [List.all_cons, Bool.and_eq_true] at ho
      have ih := items_key (i + 1) r2 q2 ho.2
      cases r1 <;> simp only [ofK, Bool.false_eq_true, false_and] at ho
      · obtain ⟨t, rfl⟩ := q1
        have hb : b = false := by simpa using ho.1
        subst hb
        simp [tupItems, keyL, keyI, ih]
      · obtain ⟨t, rfl⟩ := q1
        have hb : b = true := by simpa using ho.1
        subst hb
        simp [tupItems, keyL, keyI, ih]
theorem first_kind {K : PySem.W.Frag} {H : Hp} {b : Bool} {xs : List V} {us : List Value} {ds : List D} (r : RpL K H xs ds) (q : Vals xs us) (hn : ds ≠ []) (ho : ds.all (ofK b) = true) : ∃ f, us[0]? = some f ∧ (b = false → ∃ i t, f = .int i t) ∧ (b = true → ∃ x t, f = .str x t) := by
  cases r with
  | nil => exact absurd rfl hn
  | cons r1 r2 =>
    cases q with
    | cons q1 q2 =>
      simp only [List.all_cons, Bool.and_eq_true] at ho
      refine ⟨_, rfl, ?_⟩
      cases r1 <;> simp only [ofK, Bool.false_eq_true, false_and] at ho
      · obtain ⟨t, rfl⟩ := q1
        exact ⟨fun _ => ⟨_, _, rfl⟩, fun e => by subst e; simp at ho⟩
      · obtain ⟨t, rfl⟩ := q1
        exact ⟨fun e => by subst e; simp at ho, fun _ => ⟨_, _, rfl⟩⟩
theorem tupKey_of {h : Heap} {b : Bool} {v : Value} {k : SK} (t : TupV h b v k) : (tupKey h (fun _ => b) v).getD [] = k := by
  obtain ⟨a, o, xs, n, f, rfl, ho, hc, hd, hf, _, hi⟩ := t
  simp [tupKey, ho, hd, hi]
theorem tupV_of {X : Cx} {pins : List (Addr × Obj)} {σ : St} {H : Hp} {s : Shared} {b : Bool} {x : V} {d : D} (I : Inv X pins σ H s) (r : Rp X.K H x d) (ht : tupK b d = true) : ∃ a, x = .ref a ∧ TupV s.heap b (.ref a) (keyD d) := by
  cases r <;> simp only [tupK, Bool.false_eq_true] at ht
  rename_i a xs ds hq rq
  obtain ⟨its, rv, ⟨o, ho, hc, n, hd⟩, hz⟩ := I.tuple hq
  simp only [Bool.and_eq_true] at ht
  obtain ⟨f, hf, hk⟩ := first_kind rq rv (fun e => by subst e; simp at ht) ht.2
  exact ⟨a, rfl, a, o, its.toArray, n, f, rfl, ho, hc, hd, by simpa using hf, hk, by rw [List.toList_toArray]; exact items_key 0 rq rv ht.2⟩
def rSortTup (K : PySem.W.Frag) : List V → Hp → VK → Prop := fun vs H Q => ∃ (a : Addr) (xs : List V) (ds : List D) (b : Bool), vs = [V.ref a] ∧ SqL K H a xs ∧ RpL K H xs ds ∧ (∀ d ∈ ds, tupK b d = true) ∧
  ∀ ys es p, RpL K H ys es → es.Perm ds → es.Pairwise (fun x y => kLt (keyD y) (keyD x) = false) → H p = none → Q (.ref p) (upd H p (.lst ys))
theorem RpL.mem {K : PySem.W.Frag} {H : Hp} : ∀ {vs : List V} {ds : List D}, RpL K H vs ds → (∀ v ∈ vs, ∃ d ∈ ds, Rp K H v d)
  | _, _, .nil, v, h => by cases h
  | _, _, .cons (v := x) (d := d) r t, v, h => by
    rcases List.mem_cons.mp h with rfl | h
    · exact ⟨d, List.mem_cons_self, r⟩
    · obtain ⟨e, h1, h2⟩ := RpL.mem t v h
      exact ⟨e, List.mem_cons_of_mem _ h1, h2⟩
theorem cr_sortTup {X : Cx} : CallR X (.builtin "sorted") (rSortTup X.K) := by
  intro pins s σ H vs us Q I r h
  obtain ⟨a, xs, ds, b, rfl, hs, rq, hk, q⟩ := h
  obtain ⟨its, rv, hl, hz⟩ := I.list hs
  obtain ⟨u, rfl, ru⟩ := vals1 r
  obtain rfl : u = Value.ref a := ru
  have hx : ∀ x ∈ xs, ∃ a, x = V.ref a := fun x m => by
    obtain ⟨d, hd, rd⟩ := rq.mem x m
    obtain ⟨a, e, _⟩ := tupV_of I rd (hk d hd)
    exact ⟨a, e⟩
  obtain ⟨e1, e2⟩ := refs_back rv hx
  have tv : ∀ v, (∃ a, v = Value.ref a) → ∀ d, Rp X.K H (backV v) d → tupK b d = true → TupV s.heap b v (keyD d) := fun v ⟨c, e⟩ d rd ht => by
    subst e
    obtain ⟨c', e3, t⟩ := tupV_of I rd ht
    have e4 : c = c' := by
      have : V.ref c = V.ref c' := e3
      injection this
    rw [e4]
    exact t
  refine sorted_keys (b := b) (k := fun v => (tupKey s.heap (fun _ => b) v).getD []) hl.isList (by rw [← rv.length]; exact hz) (fun v hv => ?_) fun h' d out h1 h2 kp hd hn => ?_
  · have hm : backV v ∈ xs := by rw [e1]; exact List.mem_map.mpr ⟨v, hv, rfl⟩
    obtain ⟨d, hd, rd⟩ := rq.mem _ hm
    have t := tv v (e2 v hv) d rd (hk d hd)
    rw [tupKey_of t]
    exact t
  · have h3 : ∀ u ∈ out, ∃ a, u = Value.ref a := fun u hu => e2 u (h2.mem_iff.mp hu)
    obtain ⟨n, hn⟩ := hn
    have hp : (out.map backV).Perm xs := by rw [e1]; exact h2.map backV
    obtain ⟨es, r1, r2⟩ := perm_rp hp rq
    refine ⟨.ref d, upd H d (.lst (out.map backV)), I.laid (t' := s.toks) kp hd ⟨?_, out, n, vals_back h3, hn⟩, rfl, q _ es d r1 r2 ?_ (I.hok.fresh hd)⟩
    · rw [hp.length_eq]
      exact hz
    · have hke : ∀ e ∈ es, tupK b e = true := fun e he => hk e (r2.mem_iff.mp he)
      clear q hp kp hn h2 r2 hd
      induction out generalizing es with
      | nil => cases r1; exact .nil
      | cons v out ih =>
        cases r1 with
        | cons q1 q2 =>
          rename_i d1 es1
          refine List.pairwise_cons.mpr ⟨fun e he => ?_, ih (List.pairwise_cons.mp h1).2 (fun u hu => h3 u (by simp [hu])) _ q2 fun e he => hke e (by simp [he])⟩
          have t1 := tv v (h3 v (by simp)) d1 q1 (hke d1 (by simp))
          have gg : ∀ {o : List Value} {l : List D}, RpL X.K H (o.map backV) l → ∀ e ∈ l, ∃ u ∈ o, Rp X.K H (backV u) e := by
            intro o
            induction o with
            | nil => intro l r e he; cases r; cases he
            | cons u o ih =>
              intro l r e he
              cases r with
              | cons a1 a2 =>
                rcases List.mem_cons.mp he with rfl | he
                · exact ⟨u, by simp, a1⟩
                · obtain ⟨u', m, z⟩ := ih a2 e he
                  exact ⟨u', by simp [m], z⟩
          obtain ⟨u, hu, ru⟩ := gg q2 e he
          have t2 := tv u (h3 u (by simp [hu])) e ru (hke e (by simp [he]))
          have z := (List.pairwise_cons.mp h1).1 u hu
          have z' : kLt ((tupKey s.heap (fun _ => b) u).getD []) ((tupKey s.heap (fun _ => b) v).getD []) = false := z
          rw [tupKey_of t1, tupKey_of t2] at z'
          exact z'
section
variable {c : Site} {γ : Ctx} {e : Expr} {p pos : Pos} {k : Nat}
theorem L_sortT {m : M D} (hm : c.X.mg "sorted" = none) (h : SimK c γ e m) (hg : Gl c.X "sorted" := by rfl) (he : starEach [e] c.X.env = (false, eval e c.X.env) :: starEach [] c.X.env := by exact star_cons rfl) :
    SimL c γ (.Call (.Name "sorted" p) [e] [] pos) (M.bind m fun d => M.bind (asList d) sortT) := .mk fun σ H F QD QE q hx Q kq => by
  refine ev (pe_callB cr_sortTup hg hm (by decide +kernel) (pa_cons EV.pe pa_nil he) (by decide) (by decide) he rfl) (h σ H F _ QE q hx _ fun d v H1 q1 a1 r1 => ?_)
  cases d <;> first | exact (show False from q1).elim | skip
  rename_i ds
  obtain ⟨a, vs, rfl, h1, s1⟩ := r1.lst
  obtain ⟨⟨b, hb⟩, q2⟩ := q1
  exact ⟨a, vs, ds, b, rfl, h1, s1, hb, fun ys es p r2 pm pw hp => kq es p ys _ (q2 es ⟨pm, pw⟩) (a1.trans (.new hp)) (a1.none hp) upd_same (r2.le (Le.new hp)) fun s => (F.adv a1).src p s hp⟩
/-! ### == of deep data -/
def opEqB (a b : D) : M Bool := M.guard (min a.depth b.depth ≤ 1000) (M.pure (PyData.eqv a b))
def opNeB (a b : D) : M Bool := M.bind (opEqB a b) fun t => M.pure (!t)
theorem op_eqDL {X : Cx} (n : Nat) (hu : X.A.units + n < cLine) : OpR X (compareOp .Eq) (fun x y H Q => ∃ d e, Dp X.K H x d ∧ Dp X.K H y e ∧ d.canLay0 = true ∧ e.canLay0 = true ∧ min d.depth e.depth ≤ n ∧ Q (.bl (PyData.eqv d e)) H) := by
  intro pins s σ H x y v u Q I rx ry ⟨d, e, hd, he, sd, se, hz, q⟩
  obtain ⟨as, r1⟩ := Dp.reads I d x v hd rx
  obtain ⟨bs, r2⟩ := Dp.reads I e y u he ry
  exact SeqAt.compareEq_reads r1 r2 sd se (by omega) ⟨.bl _, H, I, rfl, q⟩
theorem op_neDL {X : Cx} (n : Nat) (hu : X.A.units + n < cLine) : OpR X (compareOp .NotEq) (fun x y H Q => ∃ d e, Dp X.K H x d ∧ Dp X.K H y e ∧ d.canLay0 = true ∧ e.canLay0 = true ∧ min d.depth e.depth ≤ n ∧ Q (.bl (!PyData.eqv d e)) H) := by
  intro pins s σ H x y v u Q I rx ry ⟨d, e, hd, he, sd, se, hz, q⟩
  obtain ⟨as, r1⟩ := Dp.reads I d x v hd rx
  obtain ⟨bs, r2⟩ := Dp.reads I e y u he ry
  exact SeqAt.compareNe_reads r1 r2 sd se (by omega) ⟨.bl _, H, I, rfl, q⟩
theorem unitsB {A : Around} (r : Room k A) (h : 60 ≤ k) : A.units + 1000 < cLine := by have := r.un; omega
theorem c_eqB (hr : Room k c.X.A) (h : 60 ≤ k) : CmpD c .Eq opEqB := ⟨_, op_eqDL 1000 (unitsB hr h), fun H x y d e QD QE Q r1 r2 hm k => ⟨d, e, r1.dp, r2.dp, r1.lay, r2.lay, hm.1, k _ hm.2⟩⟩
theorem c_neB (hr : Room k c.X.A) (h : 60 ≤ k) : CmpD c .NotEq opNeB := ⟨_, op_neDL 1000 (unitsB hr h), fun H x y d e QD QE Q r1 r2 hm k => ⟨d, e, r1.dp, r2.dp, r1.lay, r2.lay, hm.1, k _ hm.2⟩⟩
/-! ### f() -/
theorem pe_callS0 {X : Cx} {CX : CXT} {j : Nat} {f : Addr} {fd : FuncData} {ps : List Str} {sp : Sp} {x : Str} {E : St → XK} (F : FnOk X.prog X.w X.K X.mg X.base CX j f fd ps sp) (hr : Room j X.A) (hg : Gl X x) (hm : X.mg x = some (.ref f)) (hk : PySem.W.keepIn X.K (.ref f) = true) (hb : Binds X.K fd ps []) (hx : ∀ σ, PassesAt CX X σ (E σ))
    (hdb : (x == ("__debug__" : Str)) = false := by decide) : PE X (.Call (.Name x p) [] [] pos) (tCallS sp E tNil) := by
  refine ⟨fun pins s σ H Q I h => ?_⟩
  refine wpAny_Call_Name_kw (ld_glob I hg hm ?_ hdb)
  exact PySem.W.callWith_K0 I.kIn hk (run_fnS (us := []) F hr hb (hx σ) I .nil h)
theorem E_call0 {x : Str} {j : Nat} {ps : List Str} {F : List D → M D} (G : Has c.X.prog c.X.w c.X.K c.X.mg c.X.base x j ps (spD c.X.K c.ca [] F)) (hr : Room k c.X.A) (hj : j ≤ k) (tk : Takes c.X c.W) (hg : Gl c.X x := by rfl)
    (hdb : (x == ("__debug__" : Str)) = false := by decide) : SimE c γ (.Call (.Name x p) [] [] pos) (M.bind (M.pure []) F) := .mk fun σ H Fr QD QE hm hx Q kq => by
  obtain ⟨f, fd, h1, h2, h3, h4⟩ := G
  exact ev (pe_callS0 h4 (hr.mono hj) hg h1 h2 h3 (fun σ => passAt tk σ) hdb) ⟨c.S, [], QD, QE, trivial, Fr.src, hm, fun d v H' qd a' r' => kq d v H' qd a' r', fun e H' cls dd qx a' r' => hx e H' cls dd qx a' r'⟩
theorem L_call0 {x : Str} {j : Nat} {ps : List Str} {F : List D → M (List D)} (G : Has c.X.prog c.X.w c.X.K c.X.mg c.X.base x j ps (spL c.X.K c.ca [] F)) (hr : Room k c.X.A) (hj : j ≤ k) (tk : Takes c.X c.W) (hg : Gl c.X x := by rfl)
    (hdb : (x == ("__debug__" : Str)) = false := by decide) : SimL c γ (.Call (.Name x p) [] [] pos) (M.bind (M.pure []) F) := .mk fun σ H Fr QD QE hm hx Q kq => by
  obtain ⟨f, fd, h1, h2, h3, h4⟩ := G
  exact ev (pe_callS0 h4 (hr.mono hj) hg h1 h2 h3 (fun σ => passAt tk σ) hdb) ⟨c.S, [], QD, QE, trivial, Fr.src, hm, fun ds b ws H' qd a' n' h' r' s' => kq ds b ws H' qd a' n' h' r' s', fun e H' cls dd qx a' r' => hx e H' cls dd qx a' r'⟩
end
end Sm

set_option Elab.async false
set_option linter.all false
set_option maxRecDepth 100000
set_option maxHeartbeats 4000000
/-! Sm15: data or a new list. -/
namespace Sm
open PySem PySem.Spec L2
open PyProof.Rows hiding St
/-- an expression gives data or a new list -/
abbrev SimM.T (c : Site) (γ : Ctx) (e : Expr) (m : M (D ⊕ List D)) : Prop := ∀ (σ : St) (H : Hp), FR c γ σ H → ∀ (QD : D ⊕ List D → Prop) (QE : Ex → Prop), m QD QE → Xok c σ H QE →
  ∀ Q : VK, (∀ d v H', QD (.inl d) → Adv c.S H H' → Rp c.X.K H' v d → Q v H') → (∀ ds a vs H', QD (.inr ds) → Adv c.S H H' → H a = none → H' a = some (.lst vs) → RpL c.X.K H' vs ds → ¬ c.S a → Q (.ref a) H') → EV c.X e σ H Q
structure SimM (c : Site) (γ : Ctx) (e : Expr) (m : M (D ⊕ List D)) : Prop where
  run : SimM.T c γ e m
section
variable {c : Site} {γx γ : Ctx} {α : Type} {dec : α → Oc} {rest : List Stmt} {e a b t : Expr} {pos pos' p : Pos} {x : Str} {ks : List PK} {ps : List Str} {j k : Nat} {es : List Expr} {ms : M (List D)}
theorem SimE.m {m : M D} (h : SimE c γ e m) : SimM c γ e (M.bind m fun d => M.pure (.inl d)) := .mk fun σ H F QD QE hm hx Q k1 k2 => h σ H F _ QE hm hx Q k1
theorem SimL.m {m : M (List D)} (h : SimL c γ e m) : SimM c γ e (M.bind m fun d => M.pure (.inr d)) := .mk fun σ H F QD QE hm hx Q k1 k2 => h σ H F _ QE hm hx Q k2
theorem M_if {mt : M Bool} {ma mb : M (D ⊕ List D)} (ht : SimT c γ t mt) (ha : SimM c γ a ma) (hb : SimM c γ b mb) : SimM c γ (.IfExp t a b pos) (M.bind mt fun z => M.ite z ma mb) := .mk fun σ H F QD QE hm hx Q k1 k2 =>
  ev (pe_ifExp TV.pt EV.pe EV.pe) (ht σ H F _ QE hm hx _ fun t H1 q1 a1 => by
    cases t with
    | true => exact iteT (ha.run σ H1 (F.adv a1) _ QE q1 (hx.adv a1) _ (fun d v H2 q2 a2 r2 => k1 d v H2 q2 (a1.trans a2) r2) fun ds p vs H2 q2 a2 n2 h2 r2 s2 => k2 ds p vs H2 q2 (a1.trans a2) (a1.none n2) h2 r2 s2)
    | false => exact iteF (hb.run σ H1 (F.adv a1) _ QE q1 (hx.adv a1) _ (fun d v H2 q2 a2 r2 => k1 d v H2 q2 (a1.trans a2) r2) fun ds p vs H2 q2 a2 n2 h2 r2 s2 => k2 ds p vs H2 q2 (a1.trans a2) (a1.none n2) h2 r2 s2))
theorem M_call {F : List D → M (D ⊕ List D)} (G : Has c.X.prog c.X.w c.X.K c.X.mg c.X.base x j ps (spM c.X.K c.ca ks F)) (hr : Room k c.X.A) (hj : j ≤ k) (tk : Takes c.X c.W) (ha : SimA c γ (e :: es) ks ms) (hg : Gl c.X x := by rfl)
    (hdb : (x == ("__debug__" : Str)) = false := by decide) (he : starEach (e :: es) c.X.env = (false, eval e c.X.env) :: starEach es c.X.env := by exact star_cons rfl) (hpl : (backTo pos (starEach es c.X.env)).any (·.1) = false := by exact back_any rfl) :
    SimM c γ (.Call (.Name x p) (e :: es) [] pos) (M.bind ms F) := .mk fun σ H Fr QD QE hm hx Q kq1 kq2 => by
  obtain ⟨f, fd, h1, h2, h3, h4⟩ := G
  refine ev (pe_callS h4 (hr.mono hj) hg h1 h2 h3 (fun σ => passAt tk σ) AV.pa hdb he hpl) (ha σ H Fr _ QE hm hx _ fun ds vs H1 S' q a x n r => ?_)
  exact ⟨S', ds, QD, QE, r, n, q, fun d v H' qd a' r' => kq1 d v H' qd (a.shrink a' x) r', fun ds b ws H' qd a' n' h' r' s' => kq2 ds b ws H' qd (a.shrink a' x) (a.none n') h' r' fun z => s' (x.1 b z), fun e H' cls dd qx a' r' => hx e H' cls dd qx (a.shrink a' x) r'⟩
/-- one or the other is returned -/
theorem S_retM {r : D ⊕ List D → α} {m : M (D ⊕ List D)} (he : SimM c γ e m) (hx : Sub γx γ := by exact Sub.nil) (hd : ∀ d, dec (r (.inl d)) = .rt d := by intro _; rfl) (hd2 : ∀ d, dec (r (.inr d)) = .rl d := by intro _; rfl) :
    SimS c γx (.Return (some e) pos :: rest) γ (M.bind m fun d => M.pure (r d)) dec := .mk fun σ H F QD QE hm hxx D k =>
  SV.cons (sv1 (ps_ret EV.pe) (he.run σ H F _ QE hm (hxx.at F hx) _ (fun d v H' q a rr => by
    have z := k _ q
    rw [hd] at z
    exact z v H' (F.base.trans a) rr) fun ds a vs H' q ad h0 h1 rr ns => by
    have z := k _ q
    rw [hd2] at z
    exact z a vs H' (F.base.trans ad) (F.base.none h0) h1 rr ns))
/-- nothing is known of what follows -/
theorem S_fail {ss : List Stmt} : SimS c γx ss γ (M.fail : M α) dec := .mk fun σ H F QD QE hm hx D k => hm.elim
/-- name = data or a new list: two ways from here on -/
theorem S_setM (i : Nat) {m : M (D ⊕ List D)} {m1 : D → M α} {m2 : List D → M α} (he : SimM c γ e m) (hr1 : ∀ d, SimS c γx rest (γ.set i (some (.d d))) (m1 d) dec) (hr2 : ∀ ds, SimS c γx rest (γ.set i (some (.ml ds))) (m2 ds) dec) (hN : c.X.N.Nodup) (hx : Sub γx γ := by exact Sub.nil) (hi : c.X.N[i]? = some x := by rfl)
    (hl : Loc c.X.env.scope x := by first | exact Or.inl rfl | exact Or.inr rfl) (hf : LocF c x := by first | exact .inl rfl | exact .inr rfl) (hs : swapsWith e (some (.Name x pos')) pos.line c.X.env = pure false := by rfl) :
    SimS c γx (.Assign [.Name x pos'] e pos :: rest) γ (M.bind m (Sum.elim m1 m2)) dec := .mk fun σ H F QD QE hm hxx D k => SV.len fun hlen =>
  SV.cons (sv1 (ps_set hN hi hl EV.pe hs hf) (he.run σ H F _ QE hm (hxx.at F hx) _ (fun d v H' q ad r =>
    hr1 d _ H' ((F.adv ad).set_d (by rw [hlen]; exact (List.getElem?_eq_some_iff.mp hi).1) r) QD QE q (hxx.le ad.le) D fun x y => (k x y).le ad.le) fun ds a vs H' q ad h0 h1 r ns =>
    hr2 ds _ H' ((F.adv ad).set_own (by rw [hlen]; exact (List.getElem?_eq_some_iff.mp hi).1) ⟨a, vs, rfl, h1, r, ns⟩ (F.base.none h0) fun j b' e2 ho z => by
      obtain ⟨v, e3, rb⟩ := F.val j b' e2
      rw [z] at e3
      cases e3
      cases b' with
      | ml ys => obtain ⟨p, ws, e4, q4, _⟩ := rb; cases e4; rw [h0] at q4; cases q4
      | dk ys => obtain ⟨p, ws, e4, q4, _⟩ := rb; cases e4; rw [h0] at q4; cases q4
      | dn ys => obtain ⟨p, ws, e4, q4, _⟩ := rb; cases e4; rw [h0] at q4; cases q4
      | d _ => cases ho
      | fv _ => cases ho
      | src _ => cases ho) QD QE q (hxx.le ad.le) D fun x y => (k x y).le ad.le))
end
end Sm
namespace Sm
open PySem PySem.Spec L2
open PyProof.Rows hiding St
def oneD : D ⊕ List D → D
  | .inl d => d
  | .inr ds => .list ds
theorem SimM.k {c : Site} {γ : Ctx} {e : Expr} {m : M (D ⊕ List D)} (h : SimM c γ e m) : SimK c γ e (M.bind m fun o => M.pure (oneD o)) := .mk fun σ H F QD QE hm hx Q k =>
  h.run σ H F _ QE hm hx Q (fun d v H' q a r => k d v H' q a (.inl r)) fun ds a vs H' q ad h0 h1 r ns => k _ _ H' q ad (.inr ⟨a, vs, ds, rfl, rfl, h1, r, ns⟩)
end Sm

set_option Elab.async false
set_option linter.all false
set_option maxRecDepth 100000
set_option maxHeartbeats 4000000
/-! Sm16: sorted(set(..)) of a list of texts. -/
namespace Sm
open PySem PySem.Spec L2
open PyProof.Rows hiding St
def txtOf (e : Int × Value) : Str := match e.2 with
  | .str x _ => x
  | _ => Str.empty
def GoodS (P : Program) (w : World) (e : Int × Value) : Prop := ∃ x tk, e.2 = Value.str x tk ∧ e.1 = (strKind P w).hash x
/-- the set of texts at a -/
def TxS (P : Program) (w : World) (h : Heap) (a : Addr) (ks : List Str) : Prop :=
  ∃ o es ep t, h.get? a = some o ∧ o.ExactSet ∧ o.data = .set es ep t ∧ (∀ e ∈ es.toList, GoodS P w e) ∧ (es.toList.map txtOf).Perm ks ∧ ks.Nodup ∧
    es.size < scanBound ∧ t.fits es.size = true ∧ Ris t.place.toList ∧ (w.params.followText "set-order" = true ∨ t.led = true)
section
variable {P : Program} {w : World} {A : Around} {E : Value → Shared → Prop} {s : Shared} {h h' : Heap} {a : Addr} {ks : List Str}
theorem TxS.at (R : TxS P w h a ks) (k : ∀ o, h.get? a = some o → h'.get? a = some o) : TxS P w h' a ks := by
  obtain ⟨o, es, ep, t, ho, r⟩ := R
  exact ⟨o, es, ep, t, k o ho, r⟩
theorem TxS.size {o : Obj} {es : Array (Int × Value)} (p : (es.toList.map txtOf).Perm ks) : es.size = ks.length := by
  have := p.length_eq
  rwa [List.length_map, Array.length_toList] at this
theorem gs_elems {l : List (Int × Value)} (g : ∀ e ∈ l, GoodS P w e) : ElemsOf (strKind P w) l := fun e he => by
  obtain ⟨k, tk, h1, h2⟩ := g e he
  exact ⟨⟨k, by rw [h1]; exact strKind_is P w k tk, h2⟩, by rw [h1] <;> rfl⟩
theorem gs_is {e : Int × Value} (g : GoodS P w e) (k : Str) : (strKind P w).is k e.2 = true ↔ txtOf e = k := by
  obtain ⟨x, tk, h1, _⟩ := g
  unfold txtOf
  rw [h1]
  constructor
  · intro q
    exact Value.isStrOf_inj (.str x tk) x k (strKind_is P w x tk) q
  · rintro rfl
    exact strKind_is P w _ tk
theorem gs_mem {l : List (Int × Value)} (g : ∀ e ∈ l, GoodS P w e) (k : Str) : k ∈ l.map txtOf ↔ ∃ e ∈ l, (strKind P w).is k e.2 = true := by
  rw [List.mem_map]
  exact ⟨fun ⟨e, he, q⟩ => ⟨e, he, (gs_is (g e he) k).2 q⟩, fun ⟨e, he, q⟩ => ⟨e, he, (gs_is (g e he) k).1 q⟩⟩
/-- what is stored, and laid anew if the table is too full -/
theorem txs_tail {g : Bool → Sem Unit} (hg : ∀ (b : Bool) (s₁ : Shared) (Q' : Unit → Shared → Prop), Q' () s₁ → wpAny (model P w) A (g b) Q' E s₁)
    {o : Obj} {es es1 : Array (Int × Value)} {ep : Nat} {t t2 : SetTable} (ho : s.heap.get? a = some o) (hex : o.ExactSet) (hd : o.data = .set es ep t)
    (g1 : ∀ e ∈ es1.toList, GoodS P w e) (p1 : (es1.toList.map txtOf).Perm ks) (nd : ks.Nodup) (hb1 : es1.size < scanBound) (hf2 : t2.fits es1.size = true) (hr : Ris t2.place.toList)
    (hl : w.params.followText "set-order" = true ∨ t2.led = true) {wasDummy : Bool} {R : Option Bool → Shared → Prop} (hR : ∀ h', Heap.SameBut a s.heap h' → TxS P w h' a ks → R (some true) { s with heap := h' }) :
    wpAny (model P w) A (do
        storeSet a es1 t2
        if (!wasDummy && t2.tooFull) = true then do
            g (relayAll t2 es1 (SetTable.grown es1.size)).2.2
            storeSet a (relayAll t2 es1 (SetTable.grown es1.size)).1 (relayAll t2 es1 (SetTable.grown es1.size)).2.1
            pure (some true)
          else pure (some true)) R E s := by
  refine wpAny_bind (wpAny_storeSet_of ho hd ?_ (fits_of_scanBound hb1))
  have ho1 := store_at (es' := es1) (t' := t2) ho hd
  have sb1 := Heap.SameBut.update s.heap a (Obj.putSet es1 t2)
  split
  · have pm := relayAll_perm t2 es1 (SetTable.grown es1.size)
    have hf3 := relayAll_fits t2 es1 (SetTable.grown es1.size)
    have hr3 := relayAll_ris t2 es1 (SetTable.grown es1.size)
    have hl3 := relayAll_led t2 es1 (SetTable.grown es1.size)
    generalize relayAll t2 es1 (SetTable.grown es1.size) = Z at pm hf3 hr3 hl3 ⊢
    obtain ⟨es2, t3, gave⟩ := Z
    dsimp only at pm hf3 hr3 hl3 ⊢
    have hsz : es2.size = es1.size := by rw [← Array.length_toList, pm.length_eq, Array.length_toList]
    refine wpAny_bind (hg _ _ _ ?_)
    refine wpAny_bind (wpAny_storeSet_of ho1 rfl ?_ (fits_of_scanBound (by rw [hsz]; exact hb1)))
    refine wpAny_pure (hR _ (sb1.trans (Heap.SameBut.update _ a _)) ⟨_, es2, _, t3, store_at ho1 rfl, hex, rfl, fun e he => g1 e (pm.mem_iff.mp he), (pm.map txtOf).trans p1, nd, by rw [hsz]; exact hb1, hf3, hr3, ?_⟩)
    exact hl.imp id fun z => by rw [hl3]; exact z
  · exact wpAny_pure (hR _ sb1 ⟨_, es1, _, t2, ho1, hex, rfl, g1, p1, nd, hb1, hf2, hr, hl⟩)
/-- a text is added -/
theorem txs_add {x : Str} {tk : Tok} {Q : Bool → Shared → Prop} (R : TxS P w s.heap a ks) (room : ks.length + 1 < scanBound)
    (hQ : ∀ h' b, Heap.SameBut a s.heap h' → TxS P w h' a (if x ∈ ks then ks else x :: ks) → Q b { s with heap := h' }) :
    wpAny (model P w) A (setAddHashed a (.str x tk) ((strKind P w).hash x)) Q E s := by
  obtain ⟨o, es, ep, t, ho, hex, hd, g, pm0, nd, hb, hf, hr, hl⟩ := R
  have hkey : (strKind P w).is x (.str x tk) = true := strKind_is P w x tk
  have hsc : (Value.str x tk).scannable = true := rfl
  have hel : ElemsOf (strKind P w) es.toList := gs_elems g
  have hn : es.size = ks.length := TxS.size (o := o) pm0
  unfold setAddHashed setAddHashedIn
  refine wpAny_holding (wpAny_bind (wpAny_setState_of ho hd hf ?_))
  dsimp only
  rw [byScan_of hsc hb hel]
  simp only [↓reduceIte]
  unfold setAddByScan
  refine wpAny_bind ?_
  refine wpAny_bind (wpAny_rule ?_)
  refine wpAny_bind (wpAny_setScan_of hkey ho hd hf hel ?_)
  cases hfi : List.findIdx? (fun e => (strKind P w).is x e.2) es.toList with
  | some j =>
    dsimp only
    obtain ⟨hj, pj, _⟩ := List.findIdx?_eq_some_iff_getElem.mp hfi
    have hin : x ∈ ks := pm0.mem_iff.mp ((gs_mem (P := P) (w := w) g x).2 ⟨es.toList[j], List.getElem_mem hj, pj⟩)
    refine wpAny_pure (wpAny_pure ?_)
    exact hQ s.heap _ (Heap.SameBut.refl a s.heap) (by rw [if_pos hin]; exact ⟨o, es, ep, t, ho, hex, hd, g, pm0, nd, hb, hf, hr, hl⟩)
  | none =>
    dsimp only
    have hnk : x ∉ ks := fun z => by
      obtain ⟨e, he, q⟩ := (gs_mem (P := P) (w := w) g x).1 (pm0.mem_iff.mpr z)
      have c := List.findIdx?_eq_none_iff.mp hfi e he
      rw [q] at c
      cases c
    have hgw : ∀ (b : Bool) {s₁ : Shared} {Q' : Unit → Shared → Prop}, Q' () s₁ → wpAny (model P w) A (match b with | true => rule "set.scan.the-table-gave-way" | false => pure ()) Q' E s₁ :=
      fun b s₁ Q' q => by cases b <;> first | exact wpAny_pure q | exact wpAny_rule q
    have pm := layNew_perm t es ((strKind P w).hash x) (.str x tk)
    have hf1 := layNew_fits t es ((strKind P w).hash x) (.str x tk)
    have hr1 := layNew_ris t es ((strKind P w).hash x) (.str x tk) hr
    have hl1 := layNew_led t es ((strKind P w).hash x) (.str x tk)
    generalize layNew t es ((strKind P w).hash x) (.str x tk) = Z at pm hf1 hr1 hl1 ⊢
    obtain ⟨es1, t1, wasDummy, gave⟩ := Z
    dsimp only at pm hf1 hr1 hl1 ⊢
    rw [Array.toList_push] at pm
    have pc : es1.toList.Perm (((strKind P w).hash x, Value.str x tk) :: es.toList) := pm.trans (List.perm_append_singleton _ _)
    have pk : (es1.toList.map txtOf).Perm (x :: ks) := (pc.map txtOf).trans (pm0.cons x)
    have g1 : ∀ e ∈ es1.toList, GoodS P w e := fun e he => by
      rcases List.mem_cons.mp (pc.mem_iff.mp he) with z | z
      · rw [z]; exact ⟨x, tk, rfl, rfl⟩
      · exact g e z
    have hsz : es1.size = ks.length + 1 := by rw [← Array.length_toList, pc.length_eq, List.length_cons, Array.length_toList, hn]
    have hb1 : es1.size < scanBound := by rw [hsz]; exact room
    have hled : w.params.followText "set-order" = true ∨ t1.led = true := hl.imp id fun z => by rw [hl1]; exact z
    have nd1 : (x :: ks).Nodup := List.nodup_cons.mpr ⟨hnk, nd⟩
    have fin : ∀ h', Heap.SameBut a s.heap h' → TxS P w h' a (x :: ks) → Q true { s with heap := h' } := fun h' sb r => hQ h' true sb (by rw [if_neg hnk]; exact r)
    refine wpAny_bind (hgw _ ?_)
    split
    · refine wpAny_bind ?_
      rw [hashByValue_scannable 8 hsc]
      refine wpAny_pure ?_
      refine txs_tail ?_ ho hex hd g1 pk nd1 hb1 ?_ ?_ ?_ ?_
      · intro b s₁ Q' q; cases b <;> first | exact wpAny_pure q | exact wpAny_rule q
      · first | (split <;> first | exact hf1 | exact SetTable.fits_plain_off hf1) | exact hf1
      · first | (split <;> exact hr1) | exact hr1
      · first | (split <;> exact hled) | exact hled
      · intro h' sb r; dsimp only; exact wpAny_pure (fin h' sb r)
    · refine wpAny_bind (wpAny_pure ?_)
      simp only [↓reduceIte]
      refine txs_tail ?_ ho hex hd g1 pk nd1 hb1 hf1 hr1 hled ?_
      · intro b s₁ Q' q; cases b <;> first | exact wpAny_pure q | exact wpAny_rule q
      · intro h' sb r; dsimp only; exact wpAny_pure (fin h' sb r)
theorem txs_fresh {h : Heap} (P : Program) (w : World) {a : Addr} (ho : h.get? a = some { cls := .type "set", dict := none, data := .set #[] 0 (.fresh 0 0 (!w.params.followText "set-order")) }) : TxS P w h a [] :=
  ⟨_, #[], 0, _, ho, ⟨rfl, rfl, rfl⟩, rfl, (fun e he => by simp at he), (by simp), List.nodup_nil, (by decide), (by rfl), List.Pairwise.nil, by
    show _ ∨ (!w.params.followText "set-order") = true
    cases w.params.followText "set-order"
    · exact .inr rfl
    · exact .inl rfl⟩
end
end Sm

set_option Elab.async false
set_option linter.all false
set_option maxRecDepth 100000
set_option maxHeartbeats 4000000
/-! Sm17: set(a list of texts), sorted(that set). -/
namespace Sm
open PySem PySem.Spec L2
open PyProof.Rows hiding St
/-- the texts that are met -/
def uniq : List Str → List Str → List Str
  | [], ks => ks
  | x :: r, ks => uniq r (if x ∈ ks then ks else x :: ks)
theorem uniq_mem : ∀ (xs ks : List Str) (z : Str), z ∈ uniq xs ks ↔ z ∈ xs ∨ z ∈ ks
  | [], ks, z => by simp [uniq]
  | x :: r, ks, z => by
    rw [uniq, uniq_mem r]
    by_cases h : x ∈ ks
    · rw [if_pos h]
      constructor
      · rintro (q | q)
        · exact .inl (List.mem_cons_of_mem _ q)
        · exact .inr q
      · rintro (q | q)
        · rcases List.mem_cons.mp q with e | q
          · exact .inr (e ▸ h)
          · exact .inl q
        · exact .inr q
    · rw [if_neg h]
      simp only [List.mem_cons]
      exact ⟨fun q => q.elim (fun a => .inl (.inr a)) fun b => b.elim (fun c => .inl (.inl c)) .inr, fun q => q.elim (fun a => a.elim (fun c => .inr (.inl c)) .inl) fun b => .inr (.inr b)⟩
theorem uniq_nod : ∀ (xs ks : List Str), ks.Nodup → (uniq xs ks).Nodup
  | [], ks, h => h
  | x :: r, ks, h => by
    rw [uniq]
    refine uniq_nod r _ ?_
    split
    · exact h
    · rename_i q
      exact List.nodup_cons.mpr ⟨q, h⟩
theorem uniq_len : ∀ (xs ks : List Str), (uniq xs ks).length ≤ xs.length + ks.length
  | [], ks => by simp [uniq]
  | x :: r, ks => by
    have := uniq_len r (if x ∈ ks then ks else x :: ks)
    rw [uniq]
    have h2 : (if x ∈ ks then ks else x :: ks).length ≤ ks.length + 1 := by split <;> simp
    simp only [List.length_cons]
    omega
theorem uniq_snoc : ∀ (xs ks : List Str) (x : Str), uniq (xs ++ [x]) ks = (if x ∈ uniq xs ks then uniq xs ks else x :: uniq xs ks)
  | [], ks, x => rfl
  | y :: r, ks, x => by simp only [List.cons_append, uniq]; exact uniq_snoc r _ x
section
variable {prog : Program} {w : World} {A : Around} {R : Result → Shared → Prop} {I : Addr} {fp wr : List Addr} {G : Array GenState → Array GenState → Prop} {n : Nat} {P : Nat → Value → Prop} {St : Nat → Shared → Prop}
theorem txs_loop (W : WalksS prog w A.in1 I fp wr G n P St) (S : Addr) (hSf : S ∉ fp) (xs : List Str) (hsz : xs.length = n) (hn1 : n < 4000)
    (hval : ∀ i v, P i v → ∃ t, v = .str (xs.getD i Str.empty) t) :
    ∀ (k i : Nat) (s : Shared), n - i = k → i ≤ n → St i s → TxS prog w s.heap S (uniq (xs.take i) []) →
      (∀ s', Moved (S :: wr) G s s' → TxS prog w s'.heap S (uniq xs []) → R (.ok (.ret .none)) s') →
      codeAny (model prog w) A (.builtin "set.update.loop" ⟨[.ref S, .ref I], []⟩) R s := by
  have hSw : S ∉ wr := fun h => hSf (W.sub _ h)
  have hsub : ∀ b ∈ wr, b ∈ S :: wr := fun b hb => List.mem_cons_of_mem _ hb
  intro k
  induction k with
  | zero =>
    intro i s hk hi hst hS hR
    have hin : i = n := by omega
    subst hin
    refine codeAny_builtin PyProof.Rows.F.entry_set_update_loop ?_
    rw [Around.under_plainId PyProof.Rows.F.plain_set_update_loop _]
    show wpAny _ A.in1 (pyNext (.ref I) >>= _) _ _ s
    refine wpAny_bind (W.done s _ _ hst fun s' hm => ?_)
    show wpAny _ A.in1 (ret Value.none) _ _ s'
    refine wpAny_pure (hR s' (hm.mono hsub) ?_)
    rw [← hsz, List.take_length] at hS
    exact hS.at fun o e => hm.heap S _ hSw e
  | succ k ih =>
    intro i s hk hi hst hS hR
    have hlt : i < n := by omega
    refine codeAny_builtin PyProof.Rows.F.entry_set_update_loop ?_
    rw [Around.under_plainId PyProof.Rows.F.plain_set_update_loop _]
    show wpAny _ A.in1 (pyNext (.ref I) >>= _) _ _ s
    refine wpAny_bind (W.item i s _ _ hlt hst fun v s' hP hst' hm => ?_)
    obtain ⟨t, rfl⟩ := hval i v hP
    have hS' : TxS prog w s'.heap S (uniq (xs.take i) []) := hS.at fun o e => hm.heap S _ hSw e
    show wpAny _ A.in1 (holding [Value.str (xs.getD i Str.empty) t] (setAdd S (.str (xs.getD i Str.empty) t)) >>= _) _ _ s'
    refine wpAny_bind (wpAny_holding ?_)
    unfold setAdd
    refine wpAny_holding ?_
    refine wpAny_bind ((PySem.strKind prog w).pyHash (k := xs.getD i Str.empty) (strKind_is _ _ _ _) ?_)
    have hroom : (uniq (xs.take i) []).length + 1 < scanBound := by
      have h1 := uniq_len (xs.take i) []
      have h2 : (xs.take i).length ≤ xs.length := by rw [List.length_take]; exact Nat.min_le_right _ _
      simp only [List.length_nil] at h1
      unfold scanBound
      omega
    refine txs_add (s := { s' with toks := s'.toks + 1 }) hS' hroom fun h' b hsb hS2 => ?_
    have hget : xs[i]? = some (xs.getD i Str.empty) := by
      rw [List.getD_eq_getElem?_getD, List.getElem?_eq_getElem (by omega)]
      rfl
    have hSi : TxS prog w h' S (uniq (xs.take (i + 1)) []) := by
      rw [List.take_add_one, hget]
      show TxS prog w h' S (uniq (xs.take i ++ [xs.getD i Str.empty]) [])
      rw [uniq_snoc]
      exact hS2
    refine wpAny_pure ⟨plainId_quiet PyProof.Rows.F.plain_set_update_loop _, ih (i + 1) _ (by omega) hlt (W.frame _ s' _ _ hst' (Nat.le_succ _) fun b hb o e => ?_) hSi fun s'' hm'' hS'' => ?_⟩
    · rw [hsb.2 b (fun h : b = S => hSf (by rw [← h]; exact hb))]; exact e
    · refine hR s'' (Moved.trans W.gtrans ((hm.mono hsub).then_heap (Nat.le_succ _) fun b o hb e => ?_) hm'') hS''
      rw [hsb.2 b (fun h : b = S => hb (by rw [h]; exact List.mem_cons_self))]; exact e
end
section
variable {prog : Program} {w : World} {A : Around} {E : Value → Shared → Prop} {s : Shared}
theorem call_setTx {l : Addr} {items : Array Value} {xs : List Str} {Q : Value → Shared → Prop}
    (hh : A.handled = none) (hl : s.heap.IsList l items) (hi : PyProof.Rows.StrsAre items.toList xs) (hn1 : xs.length < 4000)
    (h : ∀ (h' : Heap) (tk : Nat), TxS prog w h' s.heap.objs.size (uniq xs []) → (∀ b o, b < s.heap.objs.size → s.heap.get? b = some o → h'.get? b = some o) → Q (.ref s.heap.objs.size) { s with heap := h', toks := tk }) :
    wpAny (model prog w) A (call (.type "set") [.ref l]) Q E s := by
  obtain ⟨c, tl, hmro⟩ := PySem.F.called_set.mro
  have hmade := PySem.F.called_set.made
  have hsub := PySem.F.called_set.sub
  refine wpAny_call (codeAny_of_tree ?_)
  show wpAny _ _ (callAny (.type "set") _) _ _ _
  refine wpAny_pure ⟨Code.quiet_builtin _ (by decide +kernel), codeAny_builtin PySem.F.entry_type_call ?_⟩
  rw [Around.under_plain (weight_type_call_type "set" [.ref l] []) rfl]
  have h1 := PySem.F.called_set.notType
  have h2 := PySem.F.called_set.canCreate
  have hct := PySem.F.typeCall_set_1 (.ref l)
  repeat (any_goals (first | assumption | wp_step))
  refine codeAny_mono (code_set_led1 (.ref l) (E := E) (Q₁ := fun obj s₁ => obj = .ref s.heap.objs.size ∧ s₁ = { s with heap := s.heap.push { cls := .type "set", dict := none, data := .set #[] 0 (.fresh 0 0 (!w.params.followText "set-order")) } }) ⟨rfl, rfl⟩) fun r s₁ hr => ?_
  cases r with
  | error e => exact hr
  | ok fl =>
    cases fl with
    | ret obj =>
      obtain ⟨rfl, rfl⟩ := hr
      have hS : (s.heap.push { cls := .type "set", dict := none, data := .set #[] 0 (.fresh 0 0 (!w.params.followText "set-order")) }).get? s.heap.objs.size = some { cls := .type "set", dict := none, data := .set #[] 0 (.fresh 0 0 (!w.params.followText "set-order")) } := Heap.get?_push_size _ rfl
      have hT : Shared.TypeIs { s with heap := s.heap.push { cls := .type "set", dict := none, data := .set #[] 0 (.fresh 0 0 (!w.params.followText "set-order")) } } (.ref s.heap.objs.size) "set" := ⟨_, hS, rfl⟩
      have hli := PySem.F.called_set.init.lookup
      have hbi := PySem.F.called_set.init.bind (.ref s.heap.objs.size)
      repeat (any_goals (first | assumption | wp_step))
      refine codeAny_mono (codeAny_call_builtin (R := wants (fun r s₂ => r = .none ∧ ∃ h' tk, s₂ = { s with heap := h', toks := tk } ∧ TxS prog w h' s.heap.objs.size (uniq xs []) ∧
          (∀ b o, b < s.heap.objs.size → s.heap.get? b = some o → h'.get? b = some o)) E) PySem.F.called_set.init.plain PySem.F.entry_set_init (check_set_init_1 hT ?_)) fun r₂ s₂ hr₂ => ?_
      · obtain ⟨ol, hol, hcl, nl, hdl⟩ := hl
        obtain ⟨ocls, odict, odata, oslots⟩ := ol
        simp only at hcl hdl
        subst hcl; subst hdl
        have hol' : (s.heap.push { cls := .type "set", dict := none, data := .set #[] 0 (.fresh 0 0 (!w.params.followText "set-order")) }).get? l = some { cls := .type "list", dict := odict, data := .seq items nl, slots := oslots } := Heap.get?_push_of_some _ hol
        have hsls := PySem.F.sub_list_set
        have hslf := PySem.F.sub_list_frozenset
        have hne : (Value.type "list" == Value.type "dict") = false := by decide
        have hl1 : (s.heap.push { cls := .type "set", dict := none, data := .set #[] 0 (.fresh 0 0 (!w.params.followText "set-order")) }).IsList l items := ⟨_, hol', rfl, nl, rfl⟩
        unfold Builtin.«set.__init__» noKeywords Builtin.Frozenset.updateFrom
        generalize hPI : pyIter = PI
        wp_walk
        subst hPI
        refine wpAny_pyIter_list hl1 ?_
        refine wpAny_bind (wpAny_runValue ?_)
        have hlS : l < s.heap.objs.size := Heap.lt_size hol
        have hh3 : A.in1.in1.in1.handled = none := by simp [hh]
        have hneI : l ≠ (s.heap.push { cls := .type "set", dict := none, data := .set #[] 0 (.fresh 0 0 (!w.params.followText "set-order")) }).objs.size := by
          rw [Heap.size_push]; exact Nat.ne_of_lt (Nat.lt_succ_of_lt hlS)
        have hSf : s.heap.objs.size ∉ [(s.heap.push { cls := .type "set", dict := none, data := .set #[] 0 (.fresh 0 0 (!w.params.followText "set-order")) }).objs.size, l] := by
          rw [Heap.size_push]; simp only [List.mem_cons, List.mem_singleton, List.not_mem_nil, or_false, not_or]
          exact ⟨Nat.ne_of_lt (Nat.lt_succ_self _), Nat.ne_of_gt hlS⟩
        have hsz : xs.length = items.size := by rw [← StrsAre.len_eq hi, Array.length_toList]
        have hval : ∀ (i : Nat) (v : Value), items[i]? = some v → ∃ t, v = .str (xs.getD i Str.empty) t := fun i v hv => SS.strs_at hi i v (by rw [Array.getElem?_toList]; exact hv)
        refine txs_loop ((Walks.list hh3 _ l hneI items).toS) s.heap.objs.size hSf xs hsz (by rw [← hsz]; exact hn1) hval (items.size - 0) 0 _ (by omega) (Nat.zero_le _)
          ⟨⟨_, Heap.get?_push_size _ rfl, rfl, rfl⟩, (hl1.push _)⟩ ?hS0 ?hR
        case hS0 => exact txs_fresh _ _ (Heap.get?_push_of_some _ hS)
        case hR =>
          intro s' hm hS'
          obtain ⟨h', g', d', tk', os'⟩ := s'
          have eg : g' = s.gens := hm.gens
          have ed : d' = s.drawn := hm.drawn
          have eo : os' = s.os := hm.os
          subst eg; subst ed; subst eo
          show wpAny _ _ _ _ _ _
          refine wpAny_pure ?_
          show wpAny _ _ (ret Value.none) _ _ _
          refine wpAny_pure ⟨rfl, h', tk', rfl, hS', fun b o hb e => ?_⟩
          have hb1 : b ≠ s.heap.objs.size := Nat.ne_of_lt hb
          have hb2 : b ≠ (s.heap.push { cls := .type "set", dict := none, data := .set #[] 0 (.fresh 0 0 (!w.params.followText "set-order")) }).objs.size := by
            rw [Heap.size_push]; exact Nat.ne_of_lt (Nat.lt_succ_of_lt hb)
          exact hm.heap b o (by simp only [List.mem_cons, List.mem_singleton, List.not_mem_nil, or_false, not_or]; exact ⟨hb1, hb2⟩) (Heap.get?_push_of_some _ (Heap.get?_push_of_some _ e))
      · cases r₂ with
        | error e => exact hr₂
        | ok fl₂ =>
          cases fl₂ with
          | ret r =>
            obtain ⟨rfl, h', tk, rfl, hS', hk'⟩ := hr₂
            repeat (any_goals (first | assumption | wp_step))
            exact h _ _ hS' hk'
          | _ => exact hr₂.elim
    | _ => exact hr.elim
/-- sorted(a set of texts) -/
theorem sorted_txs {a : Addr} {ks : List Str} {Q : Value → Shared → Prop} (R : TxS prog w s.heap a ks) (hh : A.handled = none) (h64 : ks.length < 64)
    (hQ : ∀ s' p (out : Array Value) (c : Nat) (ys : List Str), (∀ b o, s.heap.get? b = some o → s'.heap.get? b = some o) → s'.gens = s.gens → s'.os = s.os → s.heap.objs.size ≤ p →
      s'.heap.get? p = some (seqObj "list" out c) → StrsAre out.toList ys → sortedS ys = true → ys.Perm ks → Q (.ref p) s') :
    wpAny (model prog w) A (call (.builtin "sorted") [.ref a]) Q E s := by
  obtain ⟨o, es, ep, t, ho, hex, hd, g, pm0, nd, hb, hf, hr, hl⟩ := R
  refine Calls.call_function_entry kind_sorted plain_sorted entry_sorted (args_sorted1 _) ?_
  unfold Builtin.«sorted»
  refine wpAny_bind (m := checkCount "sorted" 1 1 _) (wpAny_pure ?_)
  refine wpAny_bind (collect_set (A := A.in1) hh ⟨o, ho, hex.1, hd⟩ hf hb hr hl fun s1 vs k1 hz g1 o1 pm => ?_)
  have hvl : vs.length = ks.length := by rw [pm.length_eq, List.length_map, ← pm0.length_eq, List.length_map]
  have hall : ∀ v ∈ vs, ∃ x tk, v = Value.str x tk := fun v hv => by
    obtain ⟨e, he, q⟩ := List.mem_map.mp (pm.mem_iff.mp hv)
    obtain ⟨x, tk, h1, _⟩ := g e he
    exact ⟨x, tk, by rw [← q]; exact h1⟩
  have hS : StrsAre vs (vs.map fun v => txtOf (0, v)) := by
    clear pm hvl
    induction vs with
    | nil => exact .nil
    | cons v vs ih =>
      obtain ⟨x, tk, rfl⟩ := hall v (by simp)
      exact .cons x tk (ih fun u hu => hall u (by simp [hu]))
  have pk : (vs.map fun v => txtOf (0, v)).Perm ks := by
    have q := pm.map fun v => txtOf (0, v)
    rw [List.map_map] at q
    exact q.trans pm0
  refine wpAny_bind (wpAny_newList ?_ (by rw [hvl, sizeLine_eq]; omega))
  have hoL : (s1.heap.push (seqObj "list" vs.toArray 0)).get? s1.heap.objs.size = some (seqObj "list" vs.toArray 0) := Heap.get?_push_size _ rfl
  refine wpAny_bind (wpAny_holding (wpAny_call_entry slot_list_sort ⟨_, hoL, rfl⟩ entry_list_sort
    (list_sort_treeK strKind_oneLt (s := { s1 with heap := s1.heap.push (seqObj "list" vs.toArray 0) }) hoL hS.keysOf (fun v₁ v₂ rest e => keyKind_strs (by rw [← e]; exact hS)) (by rw [hvl]; exact h64) fun st' hp hs => ⟨_, rfl, ?_⟩)
    (args_list_sort _)))
  obtain ⟨ys, q1, q2, q3⟩ := sorted_out_str hS hp hs
  obtain ⟨c, hc⟩ := sortedHeap_at (vs := vs) (out := (arrOf st').map (·.2)) hoL
  refine wpAny_pure ⟨_, rfl, hQ _ s1.heap.objs.size _ c ys (fun b u e => ?_) g1 o1 hz hc q1 q3 (q2.trans pk)⟩
  have q := k1 b u e
  have hlt := Heap.lt_size q
  show (sortedHeap (s1.heap.push (seqObj "list" vs.toArray 0)) s1.heap.objs.size vs _).get? b = some u
  rw [sortedHeap_old (Nat.ne_of_lt hlt) (by rw [size_push']; exact Nat.lt_succ_of_lt hlt)]
  exact Heap.get?_push_of_some _ q
end
end Sm

set_option Elab.async false
set_option linter.all false
set_option maxRecDepth 100000
set_option maxHeartbeats 4000000
/-! Sm18: sorted(set(e)), one's own dict with text keys. -/
namespace Sm
open PySem PySem.Spec L2
open PyProof.Rows hiding St
def SetTx (P : Program) (w : World) (a : Addr) (ks : List Str) : HO := .ext fun h => TxS P w h a ks
section
variable {X : Cx}
theorem setTx_new {w : World} {P : Program} {H : Hp} {h : Heap} {a : Addr} {ks : List Str} (R : TxS P w h a ks) : ObjOk P w H h a (SetTx P w a ks) := by
  have ⟨o, _, _, _, ho, _⟩ := R
  exact ⟨R, ⟨o, ho⟩, fun h1 h2 p k => TxS.at p k⟩
def rSetTx (K : PySem.W.Frag) (P : Program) (w : World) : List V → Hp → VK → Prop := fun xs H Q => ∃ (l : Addr) (zs : List Str), xs = [V.ref l] ∧ SqL K H l (zs.map V.str) ∧ zs.length < 4000 ∧ ∀ a, H a = none → Q (.ref a) (upd H a (SetTx P w a (uniq zs [])))
theorem cr_setTx (hc : X.calm = true) : CallR X (.type "set") (rSetTx X.K X.prog X.w) := by
  intro pins s σ H xs us Q I r h
  obtain ⟨l, zs, rfl, hl, hf, q⟩ := h
  rw [Vals.ref1 r]
  obtain ⟨its, rv, pl, hz⟩ := I.list hl
  have hn : H s.heap.objs.size = none := I.hok.fresh (Nat.le_refl _)
  refine call_setTx (I.ok.hd hc) pl.isList (by simpa using strsAre_of rv) hf fun h' tk R k => ?_
  exact ⟨.ref s.heap.objs.size, upd H s.heap.objs.size (SetTx X.prog X.w s.heap.objs.size (uniq zs [])), I.laid (t' := tk) (fun b u e => k b u (Heap.lt_size e) e) (Nat.le_refl _) (setTx_new R), rfl, q _ hn⟩
def rSortedTx (P : Program) (w : World) : List V → Hp → VK → Prop := fun vs H Q => ∃ (a : Addr) (ks : List Str), vs = [V.ref a] ∧ H a = some (SetTx P w a ks) ∧ ks.length < 64 ∧
  ∀ (ys : List Str) (p : Addr), sortedS ys = true → ys.Perm ks → H p = none → Q (.ref p) (upd H p (.lst (ys.map V.str)))
theorem cr_sortedTx (hc : X.calm = true) : CallR X (.builtin "sorted") (rSortedTx X.prog X.w) := by
  intro pins s σ H vs us Q I r h
  obtain ⟨a, ks, rfl, ha, h64, q⟩ := h
  have R : TxS X.prog X.w s.heap a ks := (I.hok a _ ha).1
  rw [Vals.ref1 r]
  refine sorted_txs R (I.ok.hd hc) h64 fun s' p out c ys k g o hp hg hi hs pm => ?_
  have hlen : (ys.map V.str).length ≤ sizeLine := by rw [List.length_map, pm.length_eq, sizeLine_eq]; omega
  have hn : H p = none := I.hok.fresh hp
  have J : Inv X pins σ (upd H p (.lst (ys.map V.str))) { s with heap := s'.heap, gens := s'.gens, drawn := s'.drawn, toks := s'.toks } :=
    I.call (ch := []) (Un.laid k hp hn) (I.hok.laid k hp ⟨hlen, out.toList, c, vals_of_strs hi, hg⟩) (by rw [g]; exact I.bare) (fun _ z => nomatch z)
  have e : s' = { s with heap := s'.heap, gens := s'.gens, drawn := s'.drawn, toks := s'.toks } := by
    cases s'
    cases s
    cases o
    rfl
  rw [e]
  exact ⟨.ref p, _, J, rfl, q ys p hs pm hn⟩
end
/-- the texts of a list, each once, in their order -/
def sortSetM (ds : List D) : M (List D) := M.guard (∃ zs : List Str, ds = zs.map .str ∧ zs.length < 64) (M.any fun ys => ∃ zs ks : List Str, ds = zs.map .str ∧ ys = ks.map .str ∧ ks.Nodup ∧ sortedS ks = true ∧ ∀ z, z ∈ ks ↔ z ∈ zs)
theorem rp_strs {K : PySem.W.Frag} {H : Hp} : ∀ {vs : List V} {zs : List Str}, RpL K H vs (zs.map .str) → vs = zs.map V.str ∧ ∀ z ∈ zs, PyData.strOk z = true
  | _, [], r => by cases r; exact ⟨rfl, fun z h => by cases h⟩
  | _, z :: zs, r => by
    cases r with
    | cons r1 r2 =>
      obtain ⟨h1, h2⟩ := rp_strs r2
      cases r1 with
      | str _ ok => exact ⟨by rw [h1]; rfl, fun x hx => by
          rcases List.mem_cons.mp hx with rfl | hx
          · exact ok
          · exact h2 x hx⟩
theorem strs_rp {K : PySem.W.Frag} {H : Hp} : ∀ {zs : List Str}, (∀ z ∈ zs, PyData.strOk z = true) → RpL K H (zs.map V.str) (zs.map .str)
  | [], _ => .nil
  | z :: zs, h => .cons (.str z (h z (by simp))) (strs_rp fun x hx => h x (by simp [hx]))
section
variable {c : Site} {γ γx : Ctx} {e : Expr} {p p2 pos pos' pos2 : Pos} {k : Nat} {α : Type} {dec : α → Oc} {rest : List Stmt}
theorem L_sortSet {m : M D} (hc : c.X.calm = true) (hm : c.X.mg "sorted" = none) (hm2 : c.X.mg "set" = none) (h : SimK c γ e m) (hg : Gl c.X "sorted" := by rfl) (hg2 : Gl c.X "set" := by rfl)
    (he : starEach [Expr.Call (.Name "set" p2) [e] [] pos2] c.X.env = (false, eval (Expr.Call (.Name "set" p2) [e] [] pos2) c.X.env) :: starEach [] c.X.env := by exact star_cons rfl) (he2 : starEach [e] c.X.env = (false, eval e c.X.env) :: starEach [] c.X.env := by exact star_cons rfl) :
    SimL c γ (.Call (.Name "sorted" p) [.Call (.Name "set" p2) [e] [] pos2] [] pos) (M.bind m fun d => M.bind (asList d) sortSetM) := .mk fun σ H F QD QE q hx Q kq => by
  refine ev (pe_callB (cr_sortedTx hc) hg hm (by decide +kernel) (pa_cons EV.pe pa_nil he) (by decide) (by decide) he rfl) ?_
  refine ev (pe_callTy (cr_setTx hc) hg2 hm2 (by decide +kernel) (pa_cons EV.pe pa_nil he2) (by decide) (by decide) he2 rfl) (h σ H F _ QE q hx _ fun d v H1 q1 a1 r1 => ?_)
  cases d <;> first | exact (show False from q1).elim | skip
  rename_i ds
  obtain ⟨a, vs, rfl, h1, s1⟩ := r1.lst
  obtain ⟨⟨zs, rfl, hz⟩, q2⟩ := q1
  obtain ⟨rfl, ok⟩ := rp_strs s1
  refine ⟨a, zs, rfl, h1, by omega, fun b hb => ?_⟩
  have hl := uniq_len zs []
  simp only [List.length_nil] at hl
  refine ⟨b, uniq zs [], rfl, upd_same, by omega, fun ys p' hs pm hp => ?_⟩
  have a2 := a1.trans (Adv.new (o := SetTx c.X.prog c.X.w b (uniq zs [])) hb)
  have hmem : ∀ z, z ∈ ys ↔ z ∈ zs := fun z => by rw [pm.mem_iff, uniq_mem]; simp
  refine kq (ys.map .str) p' _ _ (q2 _ ⟨zs, ys, rfl, rfl, pm.nodup_iff.mpr (uniq_nod zs [] List.nodup_nil), hs, hmem⟩) (a2.trans (.new hp)) (a2.none hp) upd_same (strs_rp fun z hz' => ok z ((hmem z).mp hz')) fun s => (F.adv a2).src p' s hp
end
end Sm

set_option Elab.async false
set_option linter.all false
set_option maxRecDepth 100000
set_option maxHeartbeats 4000000
/-! Sm19: one's own dict with text keys; {..}.get(k, x). -/
namespace Sm
open PySem PySem.Spec L2
open PyProof.Rows hiding St
def putS (kvs : List (Str × D)) (k : Str) (d : D) : List (Str × D) :=
  if (kvs.any fun p => decide (p.1 = k)) = true then kvs.map (fun p => if p.1 = k then (p.1, d) else p) else kvs ++ [(k, d)]
def keyS : D → M Str
  | .str z => M.pure z
  | _ => M.fail
section
variable {K : PySem.W.Frag} {H : Hp}
theorem rpk_any {k : Str} : ∀ {vs : List (Key × V)} {kvs : List (Str × D)}, RpK K H vs kvs → (vs.any fun kv => decide (kv.1 = Sum.inr k)) = kvs.any fun p => decide (p.1 = k)
  | _, _, .nil => rfl
  | _, _, .cons (k := k') h r t => by
    simp only [List.any_cons, rpk_any t]
    by_cases e : k' = k
    · subst e; simp
    · have : ¬ ((Sum.inr k' : Key) = Sum.inr k) := fun q => e (Sum.inr.inj q)
      simp [e, this]
theorem rpk_map {k : Str} {v : V} {d : D} (r0 : Rp K H v d) : ∀ {vs : List (Key × V)} {kvs : List (Str × D)}, RpK K H vs kvs → RpK K H (vs.map fun kv => if kv.1 = Sum.inr k then (kv.1, v) else kv) (kvs.map fun p => if p.1 = k then (p.1, d) else p)
  | _, _, .nil => .nil
  | _, _, .cons (k := k') h r t => by
    simp only [List.map_cons]
    by_cases e : k' = k
    · subst e
      simp only [if_true]
      exact .cons h r0 (rpk_map r0 t)
    · have : ¬ ((Sum.inr k' : Key) = Sum.inr k) := fun q => e (Sum.inr.inj q)
      rw [if_neg e, if_neg this]
      exact .cons h r (rpk_map r0 t)
theorem rpk_append : ∀ {vs ws : List (Key × V)} {kvs kws : List (Str × D)}, RpK K H vs kvs → RpK K H ws kws → RpK K H (vs ++ ws) (kvs ++ kws)
  | _, _, _, _, .nil, q => q
  | _, _, _, _, .cons h r t, q => .cons h r (rpk_append t q)
theorem rpk_put {k : Str} {v : V} {d : D} {vs : List (Key × V)} {kvs : List (Str × D)} (h : RpK K H vs kvs) (ok : PyData.strOk k = true) (r0 : Rp K H v d) : RpK K H (putK vs (Sum.inr k) v) (putS kvs k d) := by
  unfold putK putS
  rw [rpk_any h]
  split
  · exact rpk_map r0 h
  · exact rpk_append h (.cons ok r0 .nil)
theorem rpk_len : ∀ {vs : List (Key × V)} {kvs : List (Str × D)}, RpK K H vs kvs → vs.length = kvs.length
  | _, _, .nil => rfl
  | _, _, .cons _ _ t => by simp [rpk_len t]
theorem rpk_keys : ∀ {vs : List (Key × V)} {kvs : List (Str × D)}, RpK K H vs kvs → vs.map (·.1) = (kvs.map (·.1)).map Sum.inr
  | _, _, .nil => rfl
  | _, _, .cons _ _ t => by simp [rpk_keys t]
theorem rpk_ok : ∀ {vs : List (Key × V)} {kvs : List (Str × D)}, RpK K H vs kvs → ∀ z ∈ kvs.map (·.1), PyData.strOk z = true
  | _, _, .nil, z, h => by cases h
  | _, _, .cons ok _ t, z, h => by
    simp only [List.map_cons, List.mem_cons] at h
    rcases h with rfl | h
    · exact ok
    · exact rpk_ok t z h
end
section
variable {c : Site} {γ γx : Ctx} {e ek ev0 : Expr} {p p2 pos pos' pos2 apos cpos : Pos} {k : Nat} {α : Type} {dec : α → Oc} {rest : List Stmt}
/-- name = {} -/
theorem S_dnew (i : Nat) {x : Str} {m2 : M α} (hr : SimS c γx rest (γ.set i (some (.dk []))) m2 dec) (hN : c.X.N.Nodup) (hi : c.X.N[i]? = some x := by rfl)
    (hl : Loc c.X.env.scope x := by first | exact Or.inl rfl | exact Or.inr rfl) (hf : LocF c x := by first | exact .inl rfl | exact .inr rfl) (hs : swapsWith (.Dict [] [] pos2) (some (.Name x pos')) pos.line c.X.env = pure false := by rfl) :
    SimS c γx (.Assign [.Name x pos'] (.Dict [] [] pos2) pos :: rest) γ m2 dec := .mk fun σ H F QD QE hm hxx D k => SV.len fun hlen =>
  SV.cons (sv1 (ps_set hN hi hl EV.pe hs hf) (ev pe_dnewK fun a h0 =>
    hr _ _ ((F.adv (.new h0)).set_own (by rw [hlen]; exact (List.getElem?_eq_some_iff.mp hi).1) ⟨a, [], rfl, upd_same, .nil, fun s => F.src a s h0⟩ (F.base.none h0) fun j b' e2 ho z => by
      obtain ⟨v, e3, rb⟩ := F.val j b' e2
      rw [z] at e3
      cases e3
      cases b' with
      | ml ys => obtain ⟨p, ws, e4, q4, _⟩ := rb; cases e4; rw [h0] at q4; cases q4
      | dk ys => obtain ⟨p, ws, e4, q4, _⟩ := rb; cases e4; rw [h0] at q4; cases q4
      | dn ys => obtain ⟨p, ws, e4, q4, _⟩ := rb; cases e4; rw [h0] at q4; cases q4
      | d _ => cases ho
      | fv _ => cases ho
      | src _ => cases ho) QD QE hm (hxx.le (Le.new h0)) D fun x y => (k x y).le (Le.new h0)))
/-- name[ek] = e -/
theorem S_dput (i : Nat) {x : Str} {kvs : List (Str × D)} {m mk : M D} {m2 : Str → D → M α} (hu : c.X.A.units + 1 < cLine) (he : SimE c γ e m) (hk : SimE c γ ek mk) (hr : ∀ z d, SimS c γx rest (γ.set i (some (.dk (putS kvs z d)))) (m2 z d) dec) (hx : Sub γx γ := by exact Sub.nil) (hγ : γ[i]? = some (some (.dk kvs)) := by rfl) (hN : c.X.N[i]? = some x := by rfl)
    (hv : Vis c.X.env.scope x := by first | exact Or.inl rfl | exact Or.inr (Or.inl rfl) | exact Or.inr (Or.inr rfl)) (hd : (x == ("__debug__" : Str)) = false := by decide) (hcd : (x == ("__classdict__" : Str)) = false := by decide)
    (hs : swapsWith e (some (.Subscript (.Name x p) ek pos')) pos.line c.X.env = pure false := by rfl) :
    SimS c γx (.Assign [.Subscript (.Name x p) ek pos'] e pos :: rest) γ (M.bind m fun d => M.bind mk fun y => M.bind (keyS y) fun z => M.guard (kvs.length < sizeLine) (m2 z d)) dec := .mk fun σ H F QD QE hm hxx D k => by
  refine SV.cons (sv1 (ps_dput hu (pe_var hN hv hd hcd) EV.pe EV.pe hs) (he σ H F _ QE hm (hxx.at F hx) _ fun d v H1 q a1 rv => ?_))
  have F1 := F.adv a1
  obtain ⟨v1, e1, a, vs, e2, h, r, ns⟩ := F1.val i _ hγ
  subst e2
  refine ⟨_, e1, hk σ H1 F1 _ QE q ((hxx.le a1.le).at F1 hx) _ fun y yv H2 q2 a2 ry => ?_⟩
  have F2 := F1.adv a2
  have h2 := a2.keep h ns
  have r2 := RpK.le a2.le r
  cases ry <;> first | exact (show False from q2).elim | skip
  rename_i z ok
  obtain ⟨q3, q4⟩ := q2
  have l : Le H2 (upd H2 a (.dK (putK vs (Sum.inr z) v))) := Le.mut h2 trivial
  refine ⟨a, _, rfl, DPut.k (k := Sum.inr z) h2 (by rw [rpk_len r2]; exact q3), ?_⟩
  exact hr z d σ _ (F2.upd_own hγ rfl e1 h2 trivial ns ⟨a, _, rfl, upd_same, RpK.le l (rpk_put r2 ok (rv.le a2.le)), ns⟩) QD QE q4 (hxx.le ((a1.le.trans a2.le).trans l)) D fun x y => (k x y).le ((a1.le.trans a2.le).trans l)
/-- sorted(name), a dict of one's own -/
theorem L_sortedD (i : Nat) {x : Str} {kvs : List (Str × D)} (hc : c.X.calm = true) (hm : c.X.mg "sorted" = none) (hγ : γ[i]? = some (some (.dk kvs)) := by rfl) (hN : c.X.N[i]? = some x := by rfl)
    (hv : Vis c.X.env.scope x := by first | exact Or.inl rfl | exact Or.inr (Or.inl rfl) | exact Or.inr (Or.inr rfl)) (hd : (x == ("__debug__" : Str)) = false := by decide) (hcd : (x == ("__classdict__" : Str)) = false := by decide)
    (hg : Gl c.X "sorted" := by rfl) (he : starEach [Expr.Name x p2] c.X.env = (false, eval (Expr.Name x p2) c.X.env) :: starEach [] c.X.env := by exact star_cons rfl) :
    SimL c γ (.Call (.Name "sorted" p) [.Name x p2] [] pos) (M.guard (kvs.length < 64) (M.any fun ys => ∃ ks : List Str, ys = ks.map .str ∧ ks.Perm (kvs.map (·.1)) ∧ sortedS ks = true)) := .mk fun σ H F QD QE q hx Q kq => by
  obtain ⟨v, e1, a, vs, e2, h, r, ns⟩ := F.val i _ hγ
  subst e2
  obtain ⟨q1, q2⟩ := q
  refine ev (pe_callB (call_sortedD hc) hg hm (by decide +kernel) (pa_cons (pe_var hN hv hd hcd) pa_nil he) (by decide) (by decide) he rfl) ⟨_, e1, ?_⟩
  refine ⟨a, vs, kvs.map (·.1), rfl, .inl h, rpk_keys r, by rw [List.length_map]; exact q1, fun ys p' pm hs hp => ?_⟩
  exact kq (ys.map .str) p' _ _ (q2 _ ⟨ys, rfl, pm, hs⟩) (.new hp) hp upd_same (strs_rp fun z hz => rpk_ok r z (pm.mem_iff.mp hz)) fun s => F.src p' s hp
end
end Sm

set_option Elab.async false
set_option linter.all false
set_option maxRecDepth 100000
set_option maxHeartbeats 4000000
/-! Sm20: {"..": 1, ..}.get(k, x). -/
namespace Sm
open PySem PySem.Spec L2
open PyProof.Rows hiding St
/-- a display of texts with ints -/
inductive DispC : List (Option Expr) → List Expr → List (Str × Int) → Prop
  | nil : DispC [] [] []
  | cons {k : Str} {i : Int} {j1 j2 : Nat} {p1 p2 : Pos} {ks : List (Option Expr)} {vs : List Expr} {t : List (Str × Int)} : DispC ks vs t → DispC (some (.Constant (.str k) j1 p1) :: ks) (.Constant (.int i) j2 p2 :: vs) ((k, i) :: t)
def tabK (t : List (Str × Int)) : List (Key × V) := t.map fun p => (Sum.inr p.1, V.int p.2)
theorem DispC.pps {X : Cx} {pos : Pos} : ∀ {ks : List (Option Expr)} {vs : List Expr} {t : List (Str × Int)}, DispC ks vs t → PPs X pos ks vs (t.map fun p => (tC (.str p.1), tC (.int p.2)))
  | _, _, _, .nil => pps_nil
  | _, _, _, .cons h => pps_cons pe_str pe_int h.pps
theorem tPairs_c {σ : St} {H : Hp} : ∀ (t : List (Str × Int)) {Q : List (V × V) → Hp → Prop}, Q ((tabK t).map fun kv => (kV kv.1, kv.2)) H → tPairs (t.map fun p => (tC (.str p.1), tC (.int p.2))) σ H Q
  | [], _, h => h
  | p :: t, Q, h => tPairs_c t (Q := fun ps H3 => Q ((V.str p.1, V.int p.2) :: ps) H3) h
theorem putK_new {kvs : List (Key × V)} {k : Key} {v : V} (h : k ∉ kvs.map (·.1)) : putK kvs k v = kvs ++ [(k, v)] := by
  unfold putK
  rw [if_neg]
  intro q
  obtain ⟨kv, h1, h2⟩ := List.any_eq_true.mp q
  exact h (List.mem_map.mpr ⟨kv, h1, of_decide_eq_true h2⟩)
theorem merge_nod : ∀ (more kvs : List (Key × V)), ((kvs ++ more).map (·.1)).Nodup → mergeK kvs more = kvs ++ more
  | [], kvs, _ => by simp [mergeK]
  | p :: r, kvs, h => by
    have h1 : p.1 ∉ kvs.map (·.1) := by
      rw [List.map_append, List.map_cons, List.nodup_append] at h
      exact fun q => h.2.2 _ q _ (List.mem_cons_self) rfl
    have e : mergeK kvs (p :: r) = mergeK (putK kvs p.1 p.2) r := rfl
    rw [e, putK_new h1, merge_nod r]
    · simp
    · simpa using h
def lookT (t : List (Str × Int)) (z : Str) : Option Int := (t.find? fun p => decide (p.1 = z)).map (·.2)
theorem valV_tab (t : List (Str × Int)) (z : Str) : valV (tabK t) (Sum.inr z) = (lookT t z).map V.int := by
  unfold valV lookT
  induction t with
  | nil => rfl
  | cons p t ih =>
    simp only [tabK, List.map_cons, List.find?_cons]
    by_cases e : p.1 = z
    · simp [e]
    · have e2 : ¬ ((Sum.inr p.1 : Key) = Sum.inr z) := fun q => e (Sum.inr.inj q)
      simp only [e, e2, decide_false]
      exact ih
section
variable {c : Site} {γ : Ctx} {ek ed : Expr} {mk md : M D} {pos apos cpos : Pos}
theorem E_dispGet {ks : List (Option Expr)} {vs : List Expr} {t : List (Str × Int)} (h : DispC ks vs t) (hu : c.X.A.units + 1 < cLine) (hk : SimE c γ ek mk) (hd : SimE c γ ed md) (hn : (t.map (·.1)).Nodup := by decide +kernel) (h0 : ks ≠ [] := by exact List.cons_ne_nil _ _) (hall : ks.all (·.isSome) = true := by rfl) (hl : ks.length = vs.length := by rfl) (h15 : ks.length ≤ 15 := by decide)
    (m : M2 c.X (.Dict ks vs pos) "get" apos ek ed cpos) : SimE c γ (.Call (.Attribute (.Dict ks vs pos) "get" apos) [ek, ed] [] cpos) (M.bind mk fun y => M.bind md fun d => M.bind (keyS y) fun z => M.pure (match lookT t z with | some i => .int i | none => d)) := .mk fun σ H F QD QE q hx Q kq => by
  have hm : mergeK [] (tabK t) = tabK t := merge_nod _ _ (by
    have : ((tabK t).map (·.1)) = (t.map (·.1)).map (Sum.inr : Str → Key) := by simp [tabK]
    rw [List.nil_append, this]
    exact List.pairwise_map.mpr (hn.imp fun h q => h (Sum.inr.inj q)))
  have hlen : t.length = ks.length := by
    clear hm hn h0 hall hl h15 m q
    induction h with
    | nil => rfl
    | cons _ ih => simp [ih]
  refine ev (pe_dget2 hu (pe_disp h.pps hall hl h0 h15) EV.pe EV.pe m) fun p hp => tPairs_c t ⟨upd_same, tabK t, rfl, by simp [tabK, hlen, h15], p, rfl, .inl ⟨_, .inl upd_same⟩, ?_⟩
  rw [hm]
  have a0 : Adv c.S H (upd (upd H p (.dK [])) p (.dK (tabK t))) := fun x u ex => .inl (by rw [upd_ne (ne_of_none ex hp), upd_ne (ne_of_none ex hp)]; exact ex)
  have hs : ¬ c.S p := fun z => F.src p z hp
  refine hk σ _ (F.adv a0) _ QE q (hx.adv a0) _ fun y yv H1 q1 a1 ry => ?_
  refine hd σ H1 ((F.adv a0).adv a1) _ QE q1 ((hx.adv a0).adv a1) _ fun d dv H2 q2 a2 rd => ?_
  have h2 : H2 p = some (.dK (tabK t)) := a2.keep (a1.keep upd_same hs) hs
  cases ry <;> first | exact (show False from q2).elim | skip
  rename_i z ok
  refine ⟨_, .inl ⟨_, Sum.inr z, .inl h2, rfl, rfl⟩, ?_⟩
  rw [valV_tab]
  cases e : lookT t z with
  | none =>
    have q3 := q2
    simp only [keyS, w_bind, w_pure, e] at q3
    exact kq _ _ H2 q3 ((a0.trans a1).trans a2) rd
  | some i =>
    have q3 := q2
    simp only [keyS, w_bind, w_pure, e] at q3
    exact kq _ _ H2 q3 ((a0.trans a1).trans a2) (.int i)
end
end Sm
namespace Sm
open PySem PySem.Spec L2
open PyProof.Rows hiding St
theorem units1 {k : Nat} {A : Around} (r : Room k A) : A.units + 1 < cLine := by have := r.un; omega
end Sm

set_option Elab.async false
set_option linter.all false
set_option maxRecDepth 100000
set_option maxHeartbeats 4000000
/-! Sm21: one's own dict whose keys are nested tuples. -/
namespace Sm
open PySem PySem.Spec L2
open PyProof.Rows hiding St
def keyM (d : D) : M NestedKey := match d with
  | .tuple xs => match keyN (.tuple xs) with
    | some k => M.guard (k.depth ≤ 8) (M.pure k)
    | none => M.fail
  | _ => M.fail
theorem keyM_w {d : D} {Q : NestedKey → Prop} {E : Ex → Prop} (h : keyM d Q E) : ∃ xs k, d = .tuple xs ∧ keyN d = some k ∧ k.depth ≤ 8 ∧ Q k := by
  unfold keyM at h
  cases d <;> first | exact h.elim | skip
  rename_i xs
  cases e : keyN (.tuple xs) with
  | none => simp only [e] at h; exact h.elim
  | some k => simp only [e] at h; exact ⟨xs, k, rfl, rfl, h.1, h.2⟩
theorem rp_tupv {K : PySem.W.Frag} {H : Hp} {v : V} {xs : List D} (r : Rp K H v (.tuple xs)) : ∃ b, v = .ref b := by
  cases r
  exact ⟨_, rfl⟩
section
variable {c : Site} {γ γx : Ctx} {e ek : Expr} {p p2 pos pos' pos2 apos cpos : Pos} {k : Nat} {α : Type} {dec : α → Oc} {rest : List Stmt}
theorem units20 {k : Nat} {A : Around} (r : Room k A) : A.units + 20 < cLine := by have := r.un; omega
/-- name = {} -/
theorem S_dnewN (i : Nat) {x : Str} {m2 : M α} (hr : SimS c γx rest (γ.set i (some (.dn []))) m2 dec) (hN : c.X.N.Nodup) (hi : c.X.N[i]? = some x := by rfl)
    (hl : Loc c.X.env.scope x := by first | exact Or.inl rfl | exact Or.inr rfl) (hf : LocF c x := by first | exact .inl rfl | exact .inr rfl) (hs : swapsWith (.Dict [] [] pos2) (some (.Name x pos')) pos.line c.X.env = pure false := by rfl) :
    SimS c γx (.Assign [.Name x pos'] (.Dict [] [] pos2) pos :: rest) γ m2 dec := .mk fun σ H F QD QE hm hxx D k => SV.len fun hlen =>
  SV.cons (sv1 (ps_set hN hi hl EV.pe hs hf) (ev pe_dnewN fun a h0 =>
    hr _ _ ((F.adv (.new h0)).set_own (by rw [hlen]; exact (List.getElem?_eq_some_iff.mp hi).1) ⟨a, [], rfl, upd_same, .nil, fun s => F.src a s h0⟩ (F.base.none h0) fun j b' e2 ho z => by
      obtain ⟨v, e3, rb⟩ := F.val j b' e2
      rw [z] at e3
      cases e3
      cases b' with
      | ml ys => obtain ⟨p, ws, e4, q4, _⟩ := rb; cases e4; rw [h0] at q4; cases q4
      | dk ys => obtain ⟨p, ws, e4, q4, _⟩ := rb; cases e4; rw [h0] at q4; cases q4
      | dn ys => obtain ⟨p, ws, e4, q4, _⟩ := rb; cases e4; rw [h0] at q4; cases q4
      | d _ => cases ho
      | fv _ => cases ho
      | src _ => cases ho) QD QE hm (hxx.le (Le.new h0)) D fun x y => (k x y).le (Le.new h0)))
/-- the store of a key -/
theorem ps_dputN {X : Cx} {o i value : Expr} {td ty tv : TE} {pos pos' : Pos} (hu : X.A.units + 20 < cLine) (ho : PE X o td) (hi : PE X i ty) (hv : PE X value tv) (hs : swapsWith value (some (.Subscript o i pos')) pos.line X.env = pure false) :
    PS X (.Assign [.Subscript o i pos'] value pos) (fun D σ H => tv σ H fun v H1 => td σ H1 fun x H2 => ty σ H2 fun y H3 => ∃ a b L kvs kd k, x = .ref a ∧ y = .ref b ∧ H3 a = some (DictN X.prog X.w a L) ∧ RpN X.K H3 L kvs ∧ Rp X.K H3 (.ref b) kd ∧ keyN kd = some k ∧ k.depth ≤ 8 ∧ kvs.length < sizeLine ∧ D.nx σ (upd H3 a (DictN X.prog X.w a (putL L k b v)))) := by
  refine ⟨fun pins s σ H D I h => ?_⟩
  refine wpAny_Assign_Subscript (thn (hv.run pins s σ H _ I h) fun r s1 ⟨v, H1, I1, rv, q1⟩ => thn (ho.run pins s1 σ H1 _ I1 q1) fun u s2 ⟨x, H2, I2, rx, q2⟩ => thn (hi.run pins s2 σ H2 _ I2 q2) fun iv s3 ⟨y, H3, I3, ry, a, b, L, kvs, kd, k, ex, ey, ha, rn, rk, hk, h8, hz, q3⟩ => ?_) hs
  subst ex ey
  obtain rfl : u = Value.ref a := rx
  obtain rfl : iv = Value.ref b := ry
  exact dn_set (d := .none) hu I3 ha rn rk hk h8 hz rv fun s4 I4 => ⟨σ, _, I4, q3⟩
/-- name[ek] = e -/
theorem S_dputN (i : Nat) {x : Str} {kvs : List (NestedKey × D)} {m mk : M D} {m2 : NestedKey → D → M α} (hu : c.X.A.units + 20 < cLine) (he : SimE c γ e m) (hk : SimE c γ ek mk) (hr : ∀ z d, SimS c γx rest (γ.set i (some (.dn (putN kvs z d)))) (m2 z d) dec) (hx : Sub γx γ := by exact Sub.nil) (hγ : γ[i]? = some (some (.dn kvs)) := by rfl) (hN : c.X.N[i]? = some x := by rfl)
    (hv : Vis c.X.env.scope x := by first | exact Or.inl rfl | exact Or.inr (Or.inl rfl) | exact Or.inr (Or.inr rfl)) (hd : (x == ("__debug__" : Str)) = false := by decide) (hcd : (x == ("__classdict__" : Str)) = false := by decide)
    (hs : swapsWith e (some (.Subscript (.Name x p) ek pos')) pos.line c.X.env = pure false := by rfl) :
    SimS c γx (.Assign [.Subscript (.Name x p) ek pos'] e pos :: rest) γ (M.bind m fun d => M.bind mk fun y => M.bind (keyM y) fun z => M.guard (kvs.length < sizeLine) (m2 z d)) dec := .mk fun σ H F QD QE hm hxx D k => by
  refine SV.cons (sv1 (ps_dputN hu (pe_var hN hv hd hcd) EV.pe EV.pe hs) (he σ H F _ QE hm (hxx.at F hx) _ fun d v H1 q a1 rv => ?_))
  have F1 := F.adv a1
  obtain ⟨v1, e1, a, L, e2, h, r, ns⟩ := F1.val i _ hγ
  subst e2
  refine ⟨_, e1, hk σ H1 F1 _ QE q ((hxx.le a1.le).at F1 hx) _ fun y yv H2 q2 a2 ry => ?_⟩
  have F2 := F1.adv a2
  have h2 := a2.keep h ns
  have r2 := RpN.le a2.le r
  obtain ⟨xs, z, rfl, hz, h8, q3, q4⟩ := keyM_w q2
  obtain ⟨b, rfl⟩ := rp_tupv ry
  have l : Le H2 (upd H2 a (DictN c.X.prog c.X.w a (putL L z b v))) := Le.mut h2 trivial
  refine ⟨a, b, L, kvs, _, z, rfl, rfl, h2, r2, ry, hz, h8, q3, ?_⟩
  exact hr z d σ _ (F2.upd_own hγ rfl e1 h2 trivial ns ⟨a, _, rfl, upd_same, RpN.le l (rpn_put r2 hz h8 ry (rv.le a2.le)), ns⟩) QD QE q4 (hxx.le ((a1.le.trans a2.le).trans l)) D fun x y => (k x y).le ((a1.le.trans a2.le).trans l)
theorem T_inN (i : Nat) {x : Str} {kvs : List (NestedKey × D)} {mk : M D} (hu : c.X.A.units + 20 < cLine) (hk : SimE c γ ek mk) (hγ : γ[i]? = some (some (.dn kvs)) := by rfl) (hN : c.X.N[i]? = some x := by rfl)
    (hv : Vis c.X.env.scope x := by first | exact Or.inl rfl | exact Or.inr (Or.inl rfl) | exact Or.inr (Or.inr rfl)) (hd : (x == ("__debug__" : Str)) = false := by decide) (hcd : (x == ("__classdict__" : Str)) = false := by decide)
    (hmk : behindInMarks .In (Expr.Name x p2) = false := by first | exact nomark _ | rfl) :
    SimT c γ (.Compare ek [.In] [.Name x p2] pos) (M.bind mk fun y => M.bind (keyM y) fun z => M.pure (hasN kvs z)) := .mk fun σ H F QD QE q hx Q kq => by
  refine tv (pt_cmpR (or_inN hu) EV.pe (pe_var hN hv hd hcd) hmk) (hk σ H F _ QE q hx _ fun y yv H1 q1 a1 ry => ?_)
  have F1 := F.adv a1
  obtain ⟨v1, e1, a, L, e2, h, r, ns⟩ := F1.val i _ hγ
  subst e2
  obtain ⟨xs, z, rfl, hz, h8, q2⟩ := keyM_w q1
  obtain ⟨b, rfl⟩ := rp_tupv ry
  exact ⟨_, e1, b, a, L, kvs, _, z, rfl, rfl, h, r, ry, hz, h8, _, rfl, kq _ H1 q2 a1⟩
theorem T_notInN (i : Nat) {x : Str} {kvs : List (NestedKey × D)} {mk : M D} (hu : c.X.A.units + 20 < cLine) (hk : SimE c γ ek mk) (hγ : γ[i]? = some (some (.dn kvs)) := by rfl) (hN : c.X.N[i]? = some x := by rfl)
    (hv : Vis c.X.env.scope x := by first | exact Or.inl rfl | exact Or.inr (Or.inl rfl) | exact Or.inr (Or.inr rfl)) (hd : (x == ("__debug__" : Str)) = false := by decide) (hcd : (x == ("__classdict__" : Str)) = false := by decide)
    (hmk : behindInMarks .NotIn (Expr.Name x p2) = false := by first | exact nomark _ | rfl) :
    SimT c γ (.Compare ek [.NotIn] [.Name x p2] pos) (M.bind mk fun y => M.bind (keyM y) fun z => M.pure (!hasN kvs z)) := .mk fun σ H F QD QE q hx Q kq => by
  refine tv (pt_cmpR (or_notInN hu) EV.pe (pe_var hN hv hd hcd) hmk) (hk σ H F _ QE q hx _ fun y yv H1 q1 a1 ry => ?_)
  have F1 := F.adv a1
  obtain ⟨v1, e1, a, L, e2, h, r, ns⟩ := F1.val i _ hγ
  subst e2
  obtain ⟨xs, z, rfl, hz, h8, q2⟩ := keyM_w q1
  obtain ⟨b, rfl⟩ := rp_tupv ry
  exact ⟨_, e1, b, a, L, kvs, _, z, rfl, rfl, h, r, ry, hz, h8, _, rfl, kq _ H1 q2 a1⟩
/-- name[ek] -/
theorem pe_dgetN {X : Cx} {o i : Expr} {td ty : TE} {pos : Pos} (hu : X.A.units + 20 < cLine) (ho : PE X o td) (hi : PE X i ty) (hs : NoSl i) : PE X (.Subscript o i pos) (fun σ H Q => td σ H fun x H1 => ty σ H1 fun y H2 => ∃ a b L kvs kd k d, x = .ref a ∧ y = .ref b ∧ H2 a = some (DictN X.prog X.w a L) ∧ RpN X.K H2 L kvs ∧ Rp X.K H2 (.ref b) kd ∧ keyN kd = some k ∧ k.depth ≤ 8 ∧ getN kvs k = some d ∧ ∀ v, Rp X.K H2 v d → Q v H2) := by
  refine ⟨fun pins s σ H Q I h => ?_⟩
  refine subD_of PySem.F.slot_dict_getitem.lookup hs (thn (ho.run pins s σ H _ I h) fun u s1 ⟨x, H1, I1, rx, q1⟩ => thn (hi.run pins s1 σ H1 _ I1 q1) fun iv s2 ⟨y, H2, I2, ry, a, b, L, kvs, kd, k, d, ex, ey, ha, rn, rk, hk, h8, hg, q2⟩ => ?_)
  subst ex ey
  obtain rfl : u = Value.ref a := rx
  obtain rfl : iv = Value.ref b := ry
  obtain ⟨_, _, xs, _, dd⟩ := dn_at I2 ha rn
  exact ⟨dd.typeIs, dn_get hu I2 ha rn rk hk h8 hg q2⟩
theorem E_dgetN (i : Nat) {x : Str} {kvs : List (NestedKey × D)} {mk : M D} (hu : c.X.A.units + 20 < cLine) (hk : SimE c γ ek mk) (hsl : NoSl ek) (hγ : γ[i]? = some (some (.dn kvs)) := by rfl) (hN : c.X.N[i]? = some x := by rfl)
    (hv : Vis c.X.env.scope x := by first | exact Or.inl rfl | exact Or.inr (Or.inl rfl) | exact Or.inr (Or.inr rfl)) (hd : (x == ("__debug__" : Str)) = false := by decide) (hcd : (x == ("__classdict__" : Str)) = false := by decide) :
    SimE c γ (.Subscript (.Name x p2) ek pos) (M.bind mk fun y => M.bind (keyM y) fun z => ofOpt (getN kvs z)) := .mk fun σ H F QD QE q hx Q kq => by
  obtain ⟨v1, e1, a, L, e2, h, r, ns⟩ := F.val i _ hγ
  subst e2
  refine ev (pe_dgetN hu (pe_var hN hv hd hcd) EV.pe hsl) ⟨_, e1, hk σ H F _ QE q hx _ fun y yv H1 q1 a1 ry => ?_⟩
  obtain ⟨xs, z, rfl, hz, h8, q2⟩ := keyM_w q1
  obtain ⟨b, rfl⟩ := rp_tupv ry
  cases eg : getN kvs z with
  | none => rw [eg] at q2; exact q2.elim
  | some d =>
    rw [eg] at q2
    exact ⟨a, b, L, kvs, _, z, d, rfl, rfl, a1.keep h ns, RpN.le a1.le r, ry, hz, h8, eg, fun v rv => kq d v H1 q2 a1 rv⟩
/-- {} in a row of assignments -/
theorem G_dnewN : SimG c γ (.Dict [] [] pos) (M.pure ()) (fun _ : Unit => B.dn []) := .mk fun σ H F QD QE hm hx Q k => ev pe_dnewN fun a h0 =>
  k () _ _ hm (.new h0) ⟨a, [], rfl, upd_same, .nil, fun s => F.src a s h0⟩ fun _ => ⟨a, rfl, h0⟩
end
end Sm

set_option Elab.async false
set_option linter.all false
set_option maxRecDepth 100000
set_option maxHeartbeats 4000000
/-! Sm22: for name in (def, def); a def called by a name of one's own. -/
namespace Sm
open PySem PySem.Spec L2
open PyProof.Rows hiding St
def YF (c : Site) (vs : List V) (i : Nat) (H : Hp) (v : V) (H' : Hp) : Prop := Adv c.S H H' ∧ vs[i]? = some v
section
variable {c : Site} {γ γx : Ctx} {pos p p1 p2 p3 : Pos} {α : Type} {dec : α → Oc} {rest body : List Stmt}
theorem B_f (i : Nat) {β : Type} {R : RW β} {m : M β} {v0 : V} {x : Str} (hr : SimX R c (γ.set i (some (.fv v0))) m) (hN : c.X.N.Nodup) (hi : c.X.N[i]? = some x) (hl : Loc c.X.env.scope x) (hf : LocF c x) (hw : c.wr i)
    (σ : St) (H : Hp) (F : FR c γ σ H) (QD : β → Prop) (QE : Ex → Prop) (hm : m QD QE) : GV c.X (.Name x pos) v0 σ H (fun σ2 H2 => H2 = H ∧ OutEq c σ σ2 ∧ R σ2 H2 QD QE) := GV.len fun hlen =>
  gv (pg_name hN hi hl hf) ⟨rfl, .set hw, hr _ H (F.set_f (by rw [hlen]; exact (List.getElem?_eq_some_iff.mp hi).1) rfl) QD QE hm⟩
theorem iv_two {tg : Expr} {f1 f2 : Str} {a1 a2 : Addr} {x1 : Nat} (h1 : c.X.mg f1 = some (.ref a1)) (h2 : c.X.mg f2 = some (.ref a2)) (g1 : Gl c.X f1) (g2 : Gl c.X f2) (d1 : (f1 == ("__debug__" : Str)) = false) (d2 : (f2 == ("__debug__" : Str)) = false)
    (he1 : starEach [Expr.Name f1 p1, Expr.Name f2 p2] c.X.env = (false, eval (Expr.Name f1 p1) c.X.env) :: starEach [Expr.Name f2 p2] c.X.env) (he2 : starEach [Expr.Name f2 p2] c.X.env = (false, eval (Expr.Name f2 p2) c.X.env) :: starEach [] c.X.env)
    {σ : St} {H : Hp} (R : It → Hp → Prop) (k : ∀ J G H1, Adv c.S H H1 → Walk J 2 G (YF c [V.ref a1, V.ref a2]) → G H1 → (∀ H' H'', G H' → Le H' H'' → G H'') → R J H1) : IV c.X tg (.Tuple [.Name f1 p1, .Name f2 p2] x1 p3) σ H R := fun pins s I => by
  refine thn ((pe_tup (pa_cons (pe_glob (v := V.ref a1) g1 h1 rfl d1) (pa_cons (pe_glob (v := V.ref a2) g2 h2 rfl d2) pa_nil he2) he1)).run pins s σ H (fun v H1 => ∃ q, v = .ref q ∧ H1 q = some (.tup [V.ref a1, V.ref a2]) ∧ Adv c.S H H1) I ⟨by rw [sizeLine_eq]; show 2 ≤ 16777216; omega, fun q hq => ⟨q, rfl, upd_same, .new hq⟩⟩) fun v s1 ⟨x, H1, I1, r1, q, ex, hq, a⟩ => ?_
  subst ex
  obtain rfl : v = Value.ref q := r1
  have hs : SqT c.X.K H1 q [V.ref a1, V.ref a2] := SqT.of hq
  obtain ⟨its, rv, pl, hz⟩ := I1.tuple hs
  refine wpAny_pyIter_tuple (show s1.heap.IsTuple q its.toArray from pl) ?_
  refine ⟨s1.heap.objs.size, [s1.heap.objs.size], _, _, H1, rfl, I1.kept (t' := s1.toks) fun b o e => Heap.get?_push_of_some _ e, turn_tuple q _, ⟨_, Heap.get?_push_size _ rfl, rfl, rfl⟩, fun b hb => ?_, ?_⟩
  · have e : b = s1.heap.objs.size := by simpa using hb
    subst e
    exact I1.fpOk (Nat.le_refl _) (I1.hok.fresh (Nat.le_refl _))
  · refine k _ (fun H' => SqT c.X.K H' q [V.ref a1, V.ref a2]) H1 a ?_ hs fun H' H'' g l => l.rd g
    refine (walk_tup (xs := [V.ref a1, V.ref a2])).mono (fun H' g => g) fun i H' v H'' hi g y => ?_
    obtain ⟨rfl, hv⟩ := y
    exact ⟨.refl _ _, hv⟩
/-- for name in (f1, f2): .. -/
theorem S_forF2 {R : Type} (i : Nat) {x f1 f2 : Str} {a1 a2 : Addr} {x1 : Nat} {mb1 mb2 : M (Unit ⊕ R)} {m2 : Unit → M α} {emb : R → α} (h1 : c.X.mg f1 = some (.ref a1)) (h2 : c.X.mg f2 = some (.ref a2))
    (hb1 : SimS c γx body (γ.set i (some (.fv (.ref a1)))) mb1 (Sum.elim (fun _ => Oc.lp γ) fun r => dec (emb r))) (hb2 : SimS c γx body (γ.set i (some (.fv (.ref a2)))) mb2 (Sum.elim (fun _ => Oc.lp γ) fun r => dec (emb r)))
    (hd : ∀ r, (∃ d, dec (emb r) = .rt d) ∨ ∃ ds, dec (emb r) = .rl ds) (hr : ∀ s, SimS c γx rest γ (m2 s) dec) (hp : PassesOwn (model c.X.prog c.X.w) c.X.A c.X.env c.X.xe) (hc : c.X.calm = true) (hN : c.X.N.Nodup) (hx : Sub γx γ := by exact Sub.nil)
    (hi : c.X.N[i]? = some x := by rfl) (hl : Loc c.X.env.scope x := by first | exact Or.inl rfl | exact Or.inr rfl) (hf : LocF c x := by first | exact .inl rfl | exact .inr rfl) (hw : c.wr i := by exact True.intro) (g1 : Gl c.X f1 := by rfl) (g2 : Gl c.X f2 := by rfl) (d1 : (f1 == ("__debug__" : Str)) = false := by decide) (d2 : (f2 == ("__debug__" : Str)) = false := by decide)
    (he1 : starEach [Expr.Name f1 p1, Expr.Name f2 p2] c.X.env = (false, eval (Expr.Name f1 p1) c.X.env) :: starEach [Expr.Name f2 p2] c.X.env := by exact star_cons rfl) (he2 : starEach [Expr.Name f2 p2] c.X.env = (false, eval (Expr.Name f2 p2) c.X.env) :: starEach [] c.X.env := by exact star_cons rfl)
    (hs : ∀ y, foldedSetIterable (Expr.Tuple [.Name f1 p1, .Name f2 p2] x1 p3) c.X.env y = pure y := by intro _; rfl) :
    SimS c γx (.For (.Name x p) (.Tuple [.Name f1 p1, .Name f2 p2] x1 p3) body [] pos :: rest) γ (M.seqR (M.forR (fun _ (b : M (Unit ⊕ R)) => b) [mb1, mb2] ()) m2 emb) dec := .mk fun σ H F QD QE hm hxx D k => by
  refine SV.cons (sv1 (ps_for hp hc IV.pi GV.pg SV.pss hs) (iv_two h1 h2 g1 g2 d1 d2 he1 he2 _ fun J G H1 a w g0 gl => ?_))
  refine for_it (w := w) (fun j σ' H' => FR c γ σ' H' ∧ G H' ∧ Le H H' ∧ M.forR (fun _ (b : M (Unit ⊕ R)) => b) ([mb1, mb2].drop j) () (fun o => (Sum.elim m2 (fun r => M.pure (emb r)) o) QD QE) QE) ⟨F.adv a, g0, a.le, by rw [List.drop_zero]; exact hm⟩ (fun j σ' H' _ ⟨_, g, _⟩ => g) ?_ ?_
  · rintro j v σ' H' H'' hj ⟨F', g, l, q'⟩ ⟨a', hd'⟩
    obtain ⟨v0, mb, hb, ev0, ed⟩ : ∃ v0 mb, SimS c γx body (γ.set i (some (.fv v0))) mb (Sum.elim (fun _ => Oc.lp γ) fun r => dec (emb r)) ∧ v = v0 ∧ [mb1, mb2].drop j = mb :: [mb1, mb2].drop (j + 1) := by
      match j, hj with
      | 0, _ => exact ⟨.ref a1, mb1, hb1, by simpa using hd'.symm, rfl⟩
      | 1, _ => exact ⟨.ref a2, mb2, hb2, by simpa using hd'.symm, rfl⟩
    subst ev0
    rw [ed] at q'
    intro pins st u I rv
    refine thn (B_f i (pos := p) hb.x hN hi hl hf hw σ' H'' (F'.adv a') _ QE q' pins st u I rv) fun _ s' ⟨σ2, H2, I2, l2, _, z⟩ => ⟨σ2, H2, I2, z (hxx.le (l2 ▸ l.trans a'.le)) _ fun o q2 => ?_⟩
    cases o with
    | inl s2 =>
      refine fun σ3 H3 l3 F3 => ?_
      have l4 : Le H' H3 := a'.le.trans (l2 ▸ l3)
      exact ⟨⟨F3, gl _ _ g l4, l.trans l4, q2⟩, ⟨F3, gl _ _ g l4, l.trans l4, q2⟩⟩
    | inr r =>
      have kk := k _ (show QD (emb r) from q2)
      rcases hd r with ⟨d, e2⟩ | ⟨ds, e2⟩
      · show Done c H2 _ (dec (emb r))
        rw [e2] at kk ⊢
        exact kk
      · show Done c H2 _ (dec (emb r))
        rw [e2] at kk ⊢
        exact kk
  · rintro σ' H' ⟨F', g, l, q'⟩
    exact hr () σ' H' F' QD QE q' (hxx.le l) D fun x y => (k x y).le l
theorem pe_callV {X : Cx} {CX : CXT} {k i : Nat} {f : Addr} {fd : FuncData} {ps : List Str} {sp : Sp} {x : Str} {e : Expr} {es : List Expr} {t : TA} {E : St → XK} (F : FnOk X.prog X.w X.K X.mg X.base CX k f fd ps sp) (hr : Room k X.A) (hk : PySem.W.keepIn X.K (.ref f) = true) (hb : Binds X.K fd ps []) (hx : ∀ σ, PassesAt CX X σ (E σ))
    (ha : PA X (e :: es) t) (hN : X.N[i]? = some x) (hv : Vis X.env.scope x) (hd : (x == ("__debug__" : Str)) = false) (hcd : (x == ("__classdict__" : Str)) = false) (he : starEach (e :: es) X.env = (false, eval e X.env) :: starEach es X.env) (hpl : (backTo pos (starEach es X.env)).any (·.1) = false) :
    PE X (.Call (.Name x p) (e :: es) [] pos) (fun σ H Q => σ[i]? = some (some (V.ref f)) ∧ tCallS sp E t σ H Q) := by
  refine ⟨fun pins s σ H Q I ⟨h0, h⟩ => ?_⟩
  refine wpAny_Call_Name_kw (thn ((pe_var (pos := p) hN hv hd hcd).run pins s σ H (fun v H1 => v = V.ref f ∧ tCallS sp E t σ H1 Q) I ⟨_, h0, rfl, h⟩) fun u s1 ⟨v, H1, I1, rv, ev1, q1⟩ => ?_)
  subst ev1
  obtain rfl : u = Value.ref f := rv
  refine PySem.W.callWith_K (h₀ := X.base) I1.ok.mod.kin hk (thn (ha.run pos pins s1 σ H1 _ I1 q1) fun us s2 ⟨vs, H2, I2, r, q⟩ => ⟨I2.kIn, ?_⟩) he hpl
  exact run_fnS F hr hb (hx σ) I2 r q
theorem E_callV (i : Nat) {x y : Str} {f : Addr} {e : Expr} {es : List Expr} {ks : List PK} {ps : List Str} {j k : Nat} {ms : M (List D)} {F : List D → M D} (G : Has c.X.prog c.X.w c.X.K c.X.mg c.X.base y j ps (spD c.X.K c.ca ks F)) (hy : c.X.mg y = some (.ref f)) (hr : Room k c.X.A) (hj : j ≤ k) (tk : Takes c.X c.W) (ha : SimA c γ (e :: es) ks ms)
    (hγ : γ[i]? = some (some (.fv (.ref f))) := by rfl) (hN : c.X.N[i]? = some x := by rfl) (hv : Vis c.X.env.scope x := by first | exact Or.inl rfl | exact Or.inr (Or.inl rfl) | exact Or.inr (Or.inr rfl)) (hd : (x == ("__debug__" : Str)) = false := by decide) (hcd : (x == ("__classdict__" : Str)) = false := by decide)
    (he : starEach (e :: es) c.X.env = (false, eval e c.X.env) :: starEach es c.X.env := by exact star_cons rfl) (hpl : (backTo pos (starEach es c.X.env)).any (·.1) = false := by exact back_any rfl) :
    SimE c γ (.Call (.Name x p) (e :: es) [] pos) (M.bind ms F) := .mk fun σ H Fr QD QE hm hx Q kq => by
  obtain ⟨f', fd, h1, h2, h3, h4⟩ := G
  have ef : f' = f := by
    rw [h1] at hy
    injection hy with hy
    injection hy
  subst ef
  obtain ⟨v, e1, e2⟩ := Fr.val i _ hγ
  rw [show v = V.ref f' from e2] at e1
  refine ev (pe_callV h4 (hr.mono hj) h2 h3 (fun σ => passAt tk σ) AV.pa hN hv hd hcd he hpl) ⟨e1, ha σ H Fr _ QE hm hx _ fun ds vs H1 S' q a x n r => ?_⟩
  exact ⟨S', ds, QD, QE, r, n, q, fun d v H' qd a' r' => kq d v H' qd (a.shrink a' x) r', fun e H' cls dd qx a' r' => hx e H' cls dd qx (a.shrink a' x) r'⟩
end
end Sm

set_option Elab.async false
set_option linter.all false
set_option maxRecDepth 100000
set_option maxHeartbeats 4000000
/-! Sm23: a tuple times 0 or 1. -/
namespace Sm
open PySem PySem.Spec L2
open PyProof.Rows hiding St
theorem tuple_mul0 (l : Addr) (items : Array Value) (n : Nat) (dd : Option Addr) (sl : Array (Option Value)) (x : Int) (u : Tok) (c0 : (decide (x < -(2 ^ 63)) || decide (x ≥ 2 ^ 63)) = false) (c1 : (items.isEmpty || x == 1) = false) (c2 : (decide (x ≤ 0) || items.isEmpty) = true) :
    Meets (Builtin.«tuple.__mul__» ⟨[.ref l, .int x u], []⟩) (fun _ R s => s.heap.get? l = some { cls := .type "tuple", dict := dd, data := .seq items n, slots := sl } ∧
      R (.ok (.ret (Value.ref s.heap.objs.size))) { s with heap := s.heap.push { cls := Value.type "tuple", data := Data.seq #[] }, toks := s.toks }) :=
  .of_wp fun prog w A R s h => by
    obtain ⟨hp, g, d, tk, os⟩ := s
    obtain ⟨hl, h⟩ := h
    have f1 := AutoSeq1.idx_int
    wp_walk using wpAny_loadPart' hl
    repeat (first
      | (refine wpAny_ite_false (decide_eq_false (by rw [c0]; exact Bool.false_ne_true)) ?_; wp_walk using wpAny_loadPart' hl)
      | (refine wpAny_ite_false (decide_eq_false (by rw [c1]; exact Bool.false_ne_true)) ?_; wp_walk using wpAny_loadPart' hl)
      | (refine wpAny_ite_true (decide_eq_true c2) ?_; wp_walk using wpAny_loadPart' hl))
    exact ⟨_, rfl, h⟩
theorem tuple_mul1 (l : Addr) (items : Array Value) (n : Nat) (dd : Option Addr) (sl : Array (Option Value)) (x : Int) (u : Tok) (c0 : (decide (x < -(2 ^ 63)) || decide (x ≥ 2 ^ 63)) = false) (c1 : (items.isEmpty || x == 1) = true) :
    Meets (Builtin.«tuple.__mul__» ⟨[.ref l, .int x u], []⟩) (fun _ R s => s.heap.get? l = some { cls := .type "tuple", dict := dd, data := .seq items n, slots := sl } ∧ R (.ok (.ret (Value.ref l))) s) :=
  .of_wp fun prog w A R s h => by
    obtain ⟨hp, g, d, tk, os⟩ := s
    obtain ⟨hl, h⟩ := h
    have f1 := AutoSeq1.idx_int
    wp_walk using wpAny_loadPart' hl
    repeat (first
      | (refine wpAny_ite_false (decide_eq_false (by rw [c0]; exact Bool.false_ne_true)) ?_; wp_walk using wpAny_loadPart' hl)
      | (refine wpAny_ite_true (decide_eq_true c1) ?_; wp_walk using wpAny_loadPart' hl))
    exact ⟨_, rfl, h⟩
def rRep01 (K : PySem.W.Frag) : R2 := fun x y H Q => ∃ l k xs, x = .ref l ∧ y = .int k ∧ SqT K H l xs ∧ -(2 ^ 62) < k ∧ k < 2 ^ 62 ∧ (((xs = [] ∨ k = 1) ∧ Q (.ref l) H) ∨ (xs ≠ [] ∧ k ≤ 0 ∧ ∀ p, H p = none → Q (.ref p) (upd H p (.tup []))))
theorem op_rep01 {X : Cx} : OpR X (binaryOp .Mult) (rRep01 X.K) := by
  intro pins s σ H x y v u Q I rx ry h
  obtain ⟨l, k, xs, rfl, rfl, hT, h1, h2, q⟩ := h
  cases rx
  obtain ⟨t, rfl⟩ := ry
  obtain ⟨its, r, ⟨⟨cls, dd, data, sl⟩, ho, hc, n, hd⟩, hs⟩ := I.tuple hT
  simp only at hc hd
  subst hc hd
  have hle : its.length = xs.length := r.length.symm
  have c0 : (decide (k < -(2 ^ 63)) || decide (k ≥ 2 ^ 63)) = false := by
    rw [decide_eq_false (by omega), decide_eq_false (by omega)] <;> rfl
  rcases q with ⟨hq, q⟩ | ⟨hne, hk, q⟩
  · have c1 : (its.toArray.isEmpty || k == 1) = true := by
      rcases hq with e | e
      · subst e
        cases its with
        | nil => rfl
        | cons a b => simp at hle
      · subst e; simp
    refine wpAny_binaryOp_repeat_ref (T := "tuple") (U := "int") (by decide) ⟨_, ho, rfl⟩ (fun s' => typeIs_int s' k t) noFill_tuple_mul F.fills_int_mul F.slot_int_rmul repeat_tuple F.slot_int_index.lookup
      (call_meets F.slot_int_rmul (typeIs_int s k t) F.entry_int_rmul (F.args_int_rmul_2 _ _) (int_rmul_tuple k t l its.toArray n dd sl)
        ⟨ho, rfl, ⟨_, ho, rfl⟩, call_meets F.slot_tuple_mul ⟨_, ho, rfl⟩ F.entry_tuple_mul (F.args_tuple_mul_2 _ _) (tuple_mul1 l its.toArray n dd sl k t c0 c1) ⟨ho, ?_⟩⟩)
    exact ⟨.ref l, H, I, rfl, q⟩
  · have hi : its.toArray.isEmpty = false := by
      cases its with
      | nil => exact absurd (List.eq_nil_of_length_eq_zero hle.symm) hne
      | cons a b => rfl
    have c1 : (its.toArray.isEmpty || k == 1) = false := by
      rw [hi, Bool.false_or]
      exact beq_eq_false_iff_ne.mpr (by omega)
    have c2 : (decide (k ≤ 0) || its.toArray.isEmpty) = true := by simp [hk]
    refine wpAny_binaryOp_repeat_ref (T := "tuple") (U := "int") (by decide) ⟨_, ho, rfl⟩ (fun s' => typeIs_int s' k t) noFill_tuple_mul F.fills_int_mul F.slot_int_rmul repeat_tuple F.slot_int_index.lookup
      (call_meets F.slot_int_rmul (typeIs_int s k t) F.entry_int_rmul (F.args_int_rmul_2 _ _) (int_rmul_tuple k t l its.toArray n dd sl)
        ⟨ho, rfl, ⟨_, ho, rfl⟩, call_meets F.slot_tuple_mul ⟨_, ho, rfl⟩ F.entry_tuple_mul (F.args_tuple_mul_2 _ _) (tuple_mul0 l its.toArray n dd sl k t c0 c1 c2) ⟨ho, ?_⟩⟩)
    refine ⟨.ref s.heap.objs.size, _, I.laid (t' := s.toks) (o := .tup []) (fun b ob q => Heap.get?_push_of_some _ q) (Nat.le_refl _) ?_, rfl, q _ (I.hok.fresh (Nat.le_refl _))⟩
    exact ⟨Nat.zero_le _, [], .nil, IsTup.new _ _⟩
def opMulU (x y : D) : M D := match x with
  | .tuple xs => match y with
    | .int i => M.guard (-(2 ^ 62) < i ∧ i ≤ 1000 ∧ xs.length ≤ 1000) (M.pure (.tuple (List.replicate i.toNat xs).flatten))
    | _ => M.fail
  | _ => M.fail
theorem b_mulU {c : Site} : BinD c (binaryOp .Mult) opMulU := ⟨_, op_repT.or op_rep01, fun H x y d e QD QE Q r1 r2 hm k => by
  cases r1 <;> first | exact hm.elim | skip
  cases r2 <;> first | exact hm.elim | skip
  rename_i p xs ds hq rq i
  obtain ⟨⟨h1, h2, h3⟩, q⟩ := hm
  have hl : xs.length = ds.length := rq.length
  by_cases e0 : xs = []
  · subst e0
    cases rq
    refine .inr ⟨p, i, [], rfl, rfl, hq, h1, by omega, .inl ⟨.inl rfl, ?_⟩⟩
    have : (List.replicate i.toNat ([] : List D)).flatten = [] := by simp
    rw [this] at q
    exact k _ _ H q (.refl _ _) (.tup hq .nil)
  · by_cases e1 : i = 1
    · subst e1
      refine .inr ⟨p, 1, xs, rfl, rfl, hq, by omega, by omega, .inl ⟨.inr rfl, ?_⟩⟩
      have : (List.replicate (1 : Int).toNat ds).flatten = ds := by simp
      rw [this] at q
      exact k _ _ H q (.refl _ _) (.tup hq rq)
    · by_cases e2 : i ≤ 0
      · refine .inr ⟨p, i, xs, rfl, rfl, hq, h1, by omega, .inr ⟨e0, e2, fun b hb => ?_⟩⟩
        have : i.toNat = 0 := by omega
        rw [this] at q
        exact k _ _ _ q (.new hb) (.tup (SqT.of upd_same) .nil)
      · refine .inl ⟨p, i, xs, rfl, rfl, hq, e0, by omega, h2, by omega, fun b hb => ?_⟩
        exact k _ _ _ q (.new hb) (.tup (SqT.of upd_same) ((rq.flat i.toNat).le (Le.new hb)))⟩
theorem opMulU_t {xs : List D} {i : Int} {Q : D → Prop} {E : Ex → Prop} : opMulU (.tuple xs) (.int i) Q E = ((-(2 ^ 62) < i ∧ i ≤ 1000 ∧ xs.length ≤ 1000) ∧ Q (.tuple (List.replicate i.toNat xs).flatten)) := propext ⟨fun h => h, fun h => h⟩
end Sm

set_option Elab.async false
set_option linter.all false
set_option maxRecDepth 100000
set_option maxHeartbeats 4000000
/-! Sm24: a comprehension with two fors and a test. -/
namespace Sm
open PySem PySem.Spec L2
open PyProof.Rows hiding St
/-- all but the list at D goes on -/
def AdvB (S : Addr → Prop) (D : Addr) (H H' : Hp) : Prop := ∀ a o, a ≠ D → H a = some o → H' a = some o ∨ (S a ∧ HChg H H' a o)
section
variable {S : Addr → Prop} {D : Addr} {H H1 H2 H' : Hp}
theorem Adv.b (a : Adv S H H') : AdvB S D H H' := fun x o _ h => a x o h
theorem AdvB.le {acc : List V} (h : H D = some (.lst acc)) (a : AdvB S D H H') : Le H H' := by
  refine ⟨fun x xs e => ?_, fun x o u e => ?_⟩
  · have n : x ≠ D := fun z => by rw [z, h] at e; cases e
    rcases a x _ n e with q | ⟨_, ⟨_, _, z, _⟩ | ⟨_, _, z, _⟩⟩
    · exact q
    · cases z
    · cases z
  · have n : x ≠ D := fun z => by rw [z, h] at e; cases e
    rcases a x _ n e with q | ⟨_, ⟨_, _, z, _⟩ | ⟨_, _, z, _⟩⟩
    · exact q
    · cases z
    · cases z
theorem AdvB.codeO {acc : List V} (hD : H D = some (.lst acc)) (h : AdvB S D H H') {c : Addr} {q : Str} (e : H c = some (LamX.CodeO c q)) : H' c = some (LamX.CodeO c q) := by
  have n : c ≠ D := fun z => by
    rw [z, hD] at e
    exact lst_ne q (Option.some.inj e)
  rcases h c _ n e with z | ⟨_, ⟨_, _, z, _⟩ | ⟨ps, _, z, _⟩⟩
  · exact z
  · unfold LamX.CodeO at z; cases z
  · exact absurd z (LamX.codeO_ne ps)
theorem AdvB.tabS {acc : List V} (hD : H D = some (.lst acc)) (h : AdvB S D H H') {P : Addr} (t : LamX.TabS H P lamName) : LamX.TabS H' P lamName := by
  obtain ⟨ps, h1, h2, h3⟩ := id t
  have n : P ≠ D := fun z => by
    rw [z, hD] at h1
    cases h1
  rcases h P _ n h1 with z | ⟨_, ⟨_, _, z, _⟩ | ⟨_, _, _, _, k⟩⟩
  · refine ⟨ps, z, h2, fun pos cv hc => ?_⟩
    obtain ⟨c, e1, e2⟩ := h3 pos cv hc
    exact ⟨c, e1, h.codeO hD e2⟩
  · cases z
  · exact k t
theorem chg_transB {x : Addr} {o : HO} {acc : List V} (n : x ≠ D) (hD : H1 D = some (.lst acc)) (c : HChg H H1 x o) (b : AdvB S D H1 H2) : HChg H H2 x o := by
  rcases c with ⟨ns, ms, e, h1, l, g⟩ | ⟨ps, qs, e, h1, k⟩
  · rcases b x _ n h1 with h2 | ⟨_, ⟨ms', ks, e2, h2, l2, g2⟩ | ⟨_, _, e2, _⟩⟩
    · exact .inl ⟨ns, ms, e, h2, l, g⟩
    · have e3 : ms = ms' := ivs_inj (by injection e2)
      subst e3
      exact .inl ⟨ns, ks, e, h2, l2.trans l, fun z => g2 (g z)⟩
    · cases e2
  · rcases b x _ n h1 with h2 | ⟨_, ⟨_, _, e2, _⟩ | ⟨_, rs, _, h2, _⟩⟩
    · exact .inr ⟨ps, qs, e, h2, fun z => b.tabS hD (k z)⟩
    · cases e2
    · exact .inr ⟨ps, rs, e, h2, fun z => b.tabS hD (k z)⟩
theorem AdvB.trans {acc acc1 : List V} (hD : H D = some (.lst acc)) (hD1 : H1 D = some (.lst acc1)) (a : AdvB S D H H1) (b : AdvB S D H1 H2) : AdvB S D H H2 := fun x o n h => by
  rcases a x o n h with h1 | ⟨s, c⟩
  · rcases b x _ n h1 with h2 | ⟨s2, c2⟩
    · exact .inl h2
    · refine .inr ⟨s2, ?_⟩
      rcases c2 with c2 | ⟨ps, qs, e, h2, k⟩
      · exact .inl c2
      · exact .inr ⟨ps, qs, e, h2, fun z => b.tabS hD1 (a.tabS hD z)⟩
  · exact .inr ⟨s, chg_transB n hD1 c b⟩
theorem Adv.transB {acc : List V} (hD : H1 D = some (.lst acc)) (h0 : H D = Option.none) (a : Adv S H H1) (b : AdvB S D H1 H2) : Adv S H H2 := fun x o h => by
  have n : x ≠ D := ne_of_none h h0
  rcases a x o h with h1 | ⟨s, c⟩
  · rcases b x _ n h1 with h2 | ⟨s2, c2⟩
    · exact .inl h2
    · refine .inr ⟨s2, ?_⟩
      rcases c2 with c2 | ⟨ps, qs, e, h2, k⟩
      · exact .inl c2
      · exact .inr ⟨ps, qs, e, h2, fun z => b.tabS hD (a.tabS z)⟩
  · exact .inr ⟨s, chg_transB n hD c b⟩
/-- the list at D is put otherwise -/
theorem AdvB.upd {acc acc' : List V} (hD : H D = some (.lst acc)) : AdvB S D H (L2.upd H D (.lst acc')) := fun x u n e => .inl (by rw [upd_ne n]; exact e)
end
def NoOwn (γ : Ctx) : Prop := ∀ (i : Nat) (b : B), γ[i]? = some (some b) → b.own = false
def noOwnB (γ : Ctx) : Bool := γ.all fun b => match b with | some b => !b.own | none => true
theorem noOwn_by {γ : Ctx} (h : noOwnB γ = true) : NoOwn γ := fun i b e => by
  have := List.all_eq_true.mp h (some b) (List.mem_of_getElem? e)
  simpa using this
theorem FR.advB {c : Site} {γ : Ctx} {σ : St} {H H' : Hp} {D : Addr} {acc : List V} (F : FR c γ σ H) (hno : NoOwn γ) (hD : H D = some (.lst acc)) (nS : ¬ c.S D) (h0 : c.H0 D = none) (a : AdvB c.S D H H') : FR c γ σ H' := by
  have l := a.le hD
  refine ⟨fun i b e => ?_, fun i j b b' x n e e' h h' z => ?_, fun i b x e h z => ?_, fun x o e => ?_, fun x s => ?_⟩
  · obtain ⟨v, h1, h2⟩ := F.val i b e
    refine ⟨v, h1, ?_⟩
    have hn := hno i b e
    cases b with
    | d y => exact Rp.le l h2
    | fv u => exact h2
    | src n =>
      obtain ⟨p, ns, e1, s, hp, hl, g⟩ := h2
      have np : p ≠ D := fun z => nS (z ▸ s)
      rcases a p _ np hp with q | ⟨_, ⟨ms, ms', e2, q, l2, g2⟩ | ⟨_, _, e2, _⟩⟩
      · exact ⟨p, ns, e1, s, q, hl, g⟩
      rotate_left
      · cases e2
      · have e3 : ns = ms := ivs_inj (by injection e2)
        subst e3
        exact ⟨p, ms', e1, s, q, l2.trans hl, g2 g⟩
    | ml _ => cases hn
    | dk _ => cases hn
    | dn _ => cases hn
  · rw [hno i b e] at h; cases h
  · rw [hno i b e] at h; cases h
  · exact F.base.transB hD h0 a x o e
  · have nx : x ≠ D := fun z => nS (z ▸ s)
    have h := F.src x s
    cases e : H x with
    | none => exact absurd e h
    | some o =>
      rcases a x o nx e with q | ⟨_, ⟨_, _, _, q, _⟩ | ⟨_, _, _, q, _⟩⟩
      · rw [q]; exact fun z => by cases z
      · rw [q]; exact fun z => by cases z
      · rw [q]; exact fun z => by cases z
/-- the list grown by an element, or as it was -/
def optM (acc : List D) (o : Option D) : M (List D) := match o with
  | some d => M.guard (acc.length < sizeLine) (M.pure (acc ++ [d]))
  | none => M.pure acc
def accF (g : D → M (Option D)) (acc : List D) (e : D) : M (List D) := M.bind (g e) (optM acc)
def iAll (X : Cx) (scope : Scope) (tg it : Expr) : TI := fun σ H R => ∀ (s : Shared) (H1 : Hp) (C : Addr) (cl : List (Str × Addr)) (fp : List Addr), IV (X.blk s H1 scope (compEnvC scope cl C X.env) fp) tg it σ H R
/-- what is wanted behind the first target: the second walk, from a list acc at D on -/
def RO (c : Site) (scope : Scope) (vs1 : List Nat) (tg1 it1 t elt : Expr) (accD : List D) (c' : Site) : RW (List D) := fun σ2 H2 QL QE => (∀ x, ¬ QE x) → ∀ (Dd : Addr) (acc : List V), H2 Dd = some (.lst acc) → RpL c.X.K H2 acc accD → ¬ c.S Dd → c.H0 Dd = none →
  ∀ Nx : Hp → Prop, (∀ l acc' H', QL l → AdvB c.S Dd H2 H' → H' Dd = some (.lst acc') → RpL c.X.K H' acc' l → Nx H') →
  IV c'.X tg1 it1 σ2 H2 fun J1 H4 => ∃ W1 : Nat → Nat → Hp → Prop, (∃ m, W1 0 m H4) ∧ ∀ j k H, W1 j k H →
      (J1.stop j H ∧ Nx H) ∨ (J1.go j H ∧ ∃ Nx1 : Hp → Prop, (∀ H', Nx1 H' → ∃ k', k' < k ∧ W1 (j + 1) k' H') ∧ ∀ x H', J1.yld j H x H' → gAll c.X scope tg1 x (wipe σ2 vs1) H' fun σ3 H5 => wipe σ3 vs1 = wipe σ2 vs1 ∧ tAll c.X scope t σ3 H5 fun b H6 =>
        if b = true then eAll c.X scope elt σ3 H6 fun y H7 => ∃ acc, H7 Dd = some (.lst acc) ∧ acc.length < sizeLine ∧ Nx1 (upd H7 Dd (.lst (acc ++ [y]))) else Nx1 H6)
abbrev CompG.T {α : Type} (c : Site) (scope : Scope) (vs : List Nat) (Rc : Site → RW α) (tg : Expr) (γ : Ctx) (d : D) (m : M α) : Prop := ∀ (R : RW α) (s : Shared) (H1 : Hp) (C : Addr) (cl : List (Str × Addr)) (fp : List Addr),
  (∀ γ' m', (∀ (s : Shared) (H1 : Hp) (C : Addr) (cl : List (Str × Addr)) (fp : List Addr), SimX (Rc (blkSite c scope vs s H1 C cl fp)) (blkSite c scope vs s H1 C cl fp) γ' m') → SimX R (blkSite c scope vs s H1 C cl fp) γ' m') → SimB R (blkSite c scope vs s H1 C cl fp) tg γ d m
structure CompG {α : Type} (c : Site) (scope : Scope) (vs : List Nat) (Rc : Site → RW α) (tg : Expr) (γ : Ctx) (d : D) (m : M α) : Prop where
  run : CompG.T c scope vs Rc tg γ d m
instance {α : Type} {c : Site} {scope : Scope} {vs : List Nat} {Rc : Site → RW α} {tg : Expr} {γ : Ctx} {d : D} {m : M α} : CoeFun (CompG c scope vs Rc tg γ d m) (fun _ => CompG.T c scope vs Rc tg γ d m) := ⟨CompG.run⟩
section
variable {c : Site} {γx γ γ0 : Ctx} {α : Type} {dec : α → Oc} {rest : List Stmt} {elt tg it tg1 it1 t : Expr} {scope : Scope} {own : List (Str × Nat)} {pos spos py : Pos} {vs vs1 : List Nat} {f : List D → D → M (List D)} {g : D → M (Option D)} {mi mi1 : M (List D)}
theorem C_2 {s : Shared} {H1 : Hp} {C : Addr} {cl : List (Str × Addr)} {fp : List Addr} {accD : List D} (hi1 : SimI (blkSite c scope vs s H1 C cl fp) tg1 γ it1 mi1) (hb1 : ∀ e, CompB c scope vs1 (RC1 c scope vs1 t elt) tg1 (clr γ vs1) e (g e)) (hno : NoOwn γ) :
    SimX (RO c scope vs1 tg1 it1 t elt accD (blkSite c scope vs s H1 C cl fp)) (blkSite c scope vs s H1 C cl fp) γ (M.bind mi1 fun ys => M.forS (accF g) ys accD) := .mk fun σ2 H2 F QL QE hm hx Dd acc0 hD0 rr0 nS h0 Nx hNx => by
  refine hi1 σ2 H2 F _ QE hm (fun x H' cls dd q _ _ => (hx x q).elim) _ fun ys J1 G1 H4 q a hz w g0 gl => ?_
  have a' : Adv c.S H2 H4 := a
  refine ⟨fun j k H' => k = ys.length - j ∧ j ≤ ys.length ∧ ∃ acc accD', AdvB c.S Dd H2 H' ∧ H' Dd = some (.lst acc) ∧ RpL c.X.K H' acc accD' ∧ G1 H' ∧ M.forS (accF g) (ys.drop j) accD' QL QE, ⟨ys.length, rfl, Nat.zero_le _, acc0, accD, a'.b, a'.keep hD0 nS, rr0.le a'.le, g0, by rw [List.drop_zero]; exact q⟩, ?_⟩
  rintro j k H' ⟨rfl, hj, acc, accD', a1, hd, rr, gg, q'⟩
  by_cases hlt : j < ys.length
  · refine .inr ⟨w.goes j H' hlt gg, fun H'' => ∃ acc accD', AdvB c.S Dd H2 H'' ∧ H'' Dd = some (.lst acc) ∧ RpL c.X.K H'' acc accD' ∧ G1 H'' ∧ M.forS (accF g) (ys.drop (j + 1)) accD' QL QE, fun H'' z => ⟨ys.length - (j + 1), by omega, rfl, hlt, z⟩, fun v H'' hy => ?_⟩
    obtain ⟨a2, d, hdi, rv⟩ := w.yields j H' v H'' hlt gg hy
    have a2 : Adv c.S H' H'' := a2
    have e : ys.drop j = d :: ys.drop (j + 1) := by
      obtain ⟨h1, h2⟩ := List.getElem?_eq_some_iff.mp hdi
      rw [← h2]
      exact List.drop_eq_getElem_cons h1
    rw [e] at q'
    intro s Hs C cl fp pins st u I ru
    have hd2 : H'' Dd = some (.lst acc) := a2.keep hd nS
    have F2 : FR (blkSite c scope vs1 s Hs C cl fp) (clr γ vs1) (wipe σ2 vs1) H'' := by
      have z := (F.advB hno hD0 nS h0 (a1.trans hD0 hd a2.b)).clr vs1
      exact ⟨z.val, z.sep, z.new, z.base, z.src⟩
    refine thn (hb1 d (fun σ3 H5 QDo QE' => ∀ (s : Shared) (H1 : Hp) (C : Addr) (cl : List (Str × Addr)) (fp : List Addr), RC1 c scope vs1 t elt (blkSite c scope vs1 s H1 C cl fp) σ3 H5 QDo QE') s Hs C cl fp
      (fun γ' m' h => .mk fun σ3 H5 F' QD' QE' hm' s2 Hs2 C2 cl2 fp2 => h s2 Hs2 C2 cl2 fp2 σ3 H5 ⟨F'.val, F'.sep, F'.new, F'.base, F'.src⟩ QD' QE' hm') (wipe σ2 vs1) H'' v F2 rv _ _ q' pins st u I ru) fun _ s' ⟨σ3, H5, I3, e3, oe, z⟩ => ⟨σ3, H5, I3, ?_⟩
    subst e3
    have we : wipe σ3 vs1 = wipe σ2 vs1 := by
      rw [wipe_eq (σ := wipe σ2 vs1) oe.1 oe.2]
      exact wipe_eq (wipe_length σ2 vs1) fun i hi => wipe_out hi
    refine ⟨we, tests1 (vs := vs1) σ3 H5 (fun o => optM accD' o (fun s' => M.forS (accF g) (ys.drop (j + 1)) s' QL QE) QE) _ _ (fun s Hs C cl fp _ => z s Hs C cl fp hx) (fun d' y H6 q4 a4 r4 => ?_) fun H6 q4 a4 => ?_⟩
    · have h4 := a4.keep hd2 nS
      have l : Le H6 (upd H6 Dd (.lst (acc ++ [y]))) := Le.mut h4 trivial
      have ad := a1.trans hD0 hd (a2.trans a4).b
      obtain ⟨hsz, q5⟩ : accD'.length < sizeLine ∧ M.forS (accF g) (ys.drop (j + 1)) (accD' ++ [d']) QL QE := q4
      refine ⟨acc, h4, by rw [rr.length]; exact hsz, acc ++ [y], accD' ++ [d'], ad.trans hD0 h4 (.upd h4), upd_same, (((rr.le (a2.trans a4).le)).append (.cons r4 .nil)).le l, gl _ _ (gl _ _ gg (a2.trans a4).le) l, q5⟩
    · exact ⟨acc, accD', a1.trans hD0 hd (a2.trans a4).b, a4.keep hd2 nS, rr.le (a2.trans a4).le, gl _ _ gg (a2.trans a4).le, q4⟩
  · have ej : j = ys.length := by omega
    subst ej
    rw [List.drop_length] at q'
    exact .inl ⟨w.stops H' gg, hNx accD' acc H' q' a1 hd rr⟩
theorem lc2_main (hi : SimI c tg γ it mi) (hs : Sub γ0 γ) (hb : ∀ accD d, CompG c scope vs (RO c scope vs1 tg1 it1 t elt accD) tg (clr γ0 vs) d (f accD d))
    {σ : St} {H : Hp} (F : FR c γ σ H) {QD : List D → Prop} {QE : Ex → Prop} (hm : (M.bind mi fun xs => M.nox (M.forS f xs [])) QD QE) (hx : Xok c σ H QE) {Q : VK}
    (kq : ∀ ds a ws H', QD ds → Adv c.S H H' → H a = none → H' a = some (.lst ws) → RpL c.X.K H' ws ds → ¬ c.S a → Q (.ref a) H') : tLc2 (IV c.X tg it) (gAll c.X scope tg) tYes (iAll c.X scope tg1 it1) (gAll c.X scope tg1) (tAll c.X scope t) (eAll c.X scope elt) vs vs1 σ H Q := by
  refine hi σ H F _ QE hm hx _ fun ds J G H1 q a hz w g0 gl => fun Dd hD => ?_
  have F1 := (F.sub hs).adv a
  have nS : ¬ c.S Dd := fun s => F1.src Dd s hD
  have h0 : c.H0 Dd = none := F1.base.none hD
  refine ⟨fun i m H' => m = ds.length - i ∧ i ≤ ds.length ∧ ∃ acc accD, Adv c.S H1 H' ∧ H' Dd = some (.lst acc) ∧ RpL c.X.K H' acc accD ∧ G H' ∧ M.forS f (ds.drop i) accD QD (fun _ => False),
    ⟨ds.length, rfl, Nat.zero_le _, [], [], .new hD, upd_same, .nil, gl _ _ g0 (Le.new hD), by rw [List.drop_zero]; exact q⟩, ?_⟩
  rintro i m H' ⟨rfl, hi', acc, accD, a1, hd, rr, g, q'⟩
  by_cases hlt : i < ds.length
  · refine .inr ⟨w.goes i H' hlt g, fun H'' => ∃ acc accD, Adv c.S H1 H'' ∧ H'' Dd = some (.lst acc) ∧ RpL c.X.K H'' acc accD ∧ G H'' ∧ M.forS f (ds.drop (i + 1)) accD QD (fun _ => False), fun H'' z => ⟨ds.length - (i + 1), by omega, rfl, hlt, z⟩, fun v H'' hy => ?_⟩
    obtain ⟨a2, d, hdi, rv⟩ := w.yields i H' v H'' hlt g hy
    have e : ds.drop i = d :: ds.drop (i + 1) := by
      obtain ⟨h1, h2⟩ := List.getElem?_eq_some_iff.mp hdi
      rw [← h2]
      exact List.drop_eq_getElem_cons h1
    rw [e] at q'
    intro s Hs C cl fp pins st u I ru
    have F2 : FR (blkSite c scope vs s Hs C cl fp) (clr γ0 vs) (wipe σ vs) H'' := ((F1.adv (a1.trans a2)).clr vs).blk
    have hd2 : H'' Dd = some (.lst acc) := a2.keep hd nS
    refine thn (hb accD d (fun σ2 H2 QL QE' => ∀ (s : Shared) (H1 : Hp) (C : Addr) (cl : List (Str × Addr)) (fp : List Addr), RO c scope vs1 tg1 it1 t elt accD (blkSite c scope vs s H1 C cl fp) σ2 H2 QL QE') s Hs C cl fp
      (fun γ' m' h => .mk fun σ2 H2 F' QD' QE' hm' s2 Hs2 C2 cl2 fp2 => h s2 Hs2 C2 cl2 fp2 σ2 H2 ⟨F'.val, F'.sep, F'.new, F'.base, F'.src⟩ QD' QE' hm') (wipe σ vs) H'' v F2 rv _ _ q' pins st u I ru) fun _ s' ⟨σ2, H2, I2, e2, oe, z⟩ => ⟨σ2, H2, I2, ?_⟩
    subst e2
    have we : wipe σ2 vs = wipe σ vs := by
      rw [wipe_eq (σ := wipe σ vs) oe.1 oe.2]
      exact wipe_eq (wipe_length σ vs) fun i hi => wipe_out hi
    refine ⟨we, ?_⟩
    unfold tYes
    refine iteT fun s3 Hs3 C3 cl3 fp3 => z s3 Hs3 C3 cl3 fp3 (fun _ h => h) Dd acc hd2 (rr.le a2.le) nS h0 _ fun l acc' H3 ql a3 hd3 rr3 => ⟨acc', l, Adv.transB hd2 hD (a1.trans a2) a3, hd3, rr3, gl _ _ (gl _ _ g a2.le) (a3.le hd2), ql⟩
  · have ej : i = ds.length := by omega
    subst ej
    rw [List.drop_length] at q'
    exact .inl ⟨w.stops H' g, kq accD Dd acc H' q' (a.trans a1) (a.none hD) hd rr nS⟩
/-- name = [elt for tg in it for tg1 in it1 if t] on one line -/
theorem S_comp2If (own : List (Str × Nat)) (vs1 : List Nat) (γ0 : Ctx) (i : Nat) {y : Str} {m2 : List D → M α} (hc : c.X.calm = true) (hN : c.X.N.Nodup) (ok : BlkOk c.X.N c.X.env.scope scope own) (hv : ∀ i ∈ vs1, i ∈ own.map (·.2)) (hi : SimI c tg γ it mi) (hs0 : Sub γ0 γ) (hb : ∀ accD d, CompG c scope (own.map (·.2)) (RO c scope vs1 tg1 it1 t elt accD) tg (clr γ0 (own.map (·.2))) d (f accD d)) (hr : ∀ ds, SimS c γx rest (γ.set i (some (.ml ds))) (m2 ds) dec)
    (hx : Sub γx γ := by exact Sub.nil) (hy : c.X.N[i]? = some y := by rfl) (hyl : c.X.env.scope.names.lookup y = some .local := by rfl) (hsw : swapsWith (.ListComp elt [⟨tg, it, [], 0⟩, ⟨tg1, it1, [t], 0⟩] scope pos) (some (.Name y py)) spos.line c.X.env = pure true := by exact sw_true rfl rfl rfl (by decide +kernel)) (hs : ∀ x, foldedSetIterable it c.X.env x = pure x := by intro _; rfl) (hs1 : ∀ env x, foldedSetIterable it1 env x = pure x := by intro _ _; rfl) :
    SimS c γx (.Assign [.Name y py] (.ListComp elt [⟨tg, it, [], 0⟩, ⟨tg1, it1, [t], 0⟩] scope pos) spos :: rest) γ (M.bind (M.bind mi fun xs => M.nox (M.forS f xs [])) m2) dec := .mk fun σ H F QD QE hm hxx D k => SV.len fun hlen =>
  SV.cons (sv1 (ps_setLc2 (own := own) (vs1 := vs1) (g := gAll c.X scope tg) (tt := tYes) (wi1 := iAll c.X scope tg1 it1) (g1 := gAll c.X scope tg1) (tt1 := tAll c.X scope t) (te := eAll c.X scope elt) hc hN hy hyl hsw IV.pi ok hv (fun s H C cl fp => gAll_pg s H C cl fp) (fun _ _ _ _ _ => pts_nil) (fun s H C cl fp => ⟨fun pins st _ _ _ I h => h s H C cl fp pins st I⟩) (fun s H C cl fp => gAll_pg s H C cl fp) (fun s H C cl fp => pts_one (tAll_pt s H C cl fp)) (fun s H C cl fp => eAll_pe s H C cl fp) hs hs1)
    (lc2_main hi hs0 hb F hm (hxx.at F hx) fun ds a ws H' q ad h0 h1 r ns => hr ds _ H' (F.set_new hlen hy ad h0 h1 r ns) QD QE q (hxx.le ad.le) D fun x z => (k x z).le ad.le))
end
end Sm

set_option Elab.async false
set_option linter.all false
set_option maxRecDepth 100000
set_option maxHeartbeats 4000000
/-! Sm25: a lambda of law, handed to a def that calls it within a try. -/
namespace Sm
open PySem PySem.Spec L2
open PyProof.Rows hiding St
/-- only the table at P may have grown; its code objects bear the lambda's name -/
structure Grown (P : Addr) (q : Str) (H H1 : Hp) : Prop where
  keep : ∀ b o, b ≠ P → H b = some o → H1 b = some o
  tab : LamX.TabS H1 P q
section
variable {X : Cx} {pins : List (Addr × Obj)} {σ : L2.St} {H : Hp} {s : Shared}
/-- a lambda is made -/
theorem lam_new {c P : Addr} {params : Arguments} {body : Expr} {scope : Scope} {pos : Pos} {E : Value → Shared → Prop} {Q : Value → Shared → Prop} (I : Inv X pins σ H s) (TB : LamX.TabB X.base X.mg c P) (hcode : X.env.code = .ref c)
    (hT : LamX.TabS H P (X.env.qual ++ "<lambda>")) (hdef : defaultsOf params X.env = ([], [])) (hfree : ∀ y ∈ scope.names, y.2 = .free → ∃ c, X.env.cells.lookup y.1 = some c)
    (h : ∀ (f c' : Addr) (pm ctv : Value) (H1 : Hp) (s' : Shared), Inv X pins σ H1 s' → Grown P (X.env.qual ++ "<lambda>") H H1 →
      s'.heap.get? f = some (PySem.W.kla_obj "<lambda>" (X.env.qual ++ "<lambda>") params body scope (cloFrom X.env.cells scope.names []) pm c' ctv) → H1 f = none → f ∉ frs X.stack → H1 c' = some (LamX.CodeO c' (X.env.qual ++ "<lambda>")) → Q (.ref f) s') :
    wpAny (model X.prog X.w) X.A (eval (.Lambda params body scope pos) X.env) Q E s := by
  obtain ⟨ps, eP, tri, told⟩ := id hT
  have oP : s.heap.get? P = some { cls := .none, data := .fields ps } := I.hok P _ eP
  have away : ∀ f, s.heap.objs.size ≤ f → f ∉ frs X.stack := fun f hf z => by
    rcases List.mem_cons.mp (I.stkSub _ z) with e | e
    · exact absurd (e ▸ I.lt) (Nat.not_lt.mpr hf)
    · exact I.nofs hf e
  refine PySem.W.kla_eval hdef ?_
  cases hc : codeAmong pos ps.toList with
  | some cv =>
    obtain ⟨c', rfl, hco⟩ := told pos cv hc
    refine PySem.W.kla_makeFunctionHit (mg := X.mg) (c := c) (P := P) (ps := ps) (closure_ok hfree) I.ok.glob (I.mod.glob.keeps I.bk) hcode (TB.code.keeps I.bk) oP tri hc (TB.bm.keeps I.bk) fun ctv h' tk up hsz => ?_
    exact h h'.objs.size c' _ ctv H _ (I.kept (t' := tk) fun b o e => Heap.get?_push_of_some _ (up b o e)) ⟨fun _ _ _ e => e, hT⟩ (Heap.get?_push_size _ rfl) (I.hok.fresh hsz) (away _ hsz) hco
  | none =>
    refine PySem.W.kla_makeFunction (mg := X.mg) (c := c) (P := P) (ps := ps) (closure_ok hfree) I.ok.glob (I.mod.glob.keeps I.bk) hcode (TB.code.keeps I.bk) oP tri hc TB.gP (TB.bm.keeps I.bk) fun c' ctv h' tk up hge hlt hrec otb => ?_
    obtain ⟨_, oc, vs, t, ⟨⟩, hoc, hd, hv⟩ := hrec
    have nC : H c' = none := I.hok.fresh hge
    have nPc : P ≠ c' := ne_of_none eP nC
    have hsz : s.heap.objs.size ≤ h'.objs.size := Nat.le_trans hge (Nat.le_of_lt hlt)
    have keep : ∀ b o, b ≠ P → H b = some o → L2.upd (L2.upd H P (.tbl (ps ++ #[rawInt pos.line, rawInt pos.col, .ref c']))) c' (LamX.CodeO c' (X.env.qual ++ "<lambda>")) b = some o := fun b o n e => by
      rw [upd_ne (ne_of_none e nC), upd_ne n]
      exact e
    have now := LamX.inv_table (q := X.env.qual ++ "<lambda>") (t' := tk) (more := #[rawInt pos.line, rawInt pos.col, .ref c']) I eP (fun b o n e => Heap.get?_push_of_some (PySem.W.kla_obj "<lambda>" (X.env.qual ++ "<lambda>") params body scope (cloFrom X.env.cells scope.names []) ((X.mg "__name__").getD .none) c' ctv) (up b o n e))
      (Heap.get?_push_of_some _ otb) hge ⟨oc, vs, t, Heap.get?_push_of_some _ hoc, hd, hv⟩
    refine h h'.objs.size c' _ ctv _ _ now ⟨keep, _, by rw [upd_ne nPc, upd_same], ?_, fun p' cv hcv => ?_⟩ (Heap.get?_push_size _ rfl) ?_ (away _ hsz) upd_same
    · rw [Array.toList_append]
      exact PySem.TriplesOk_snoc _ _ _ _ tri
    · rw [Array.toList_append] at hcv
      rcases LamX.among_app _ tri hcv with z | z
      · obtain ⟨c0, e1, e2⟩ := told p' cv z
        refine ⟨c0, e1, keep _ _ (fun z => ?_) e2⟩
        rw [z, eP] at e2
        exact LamX.codeO_ne ps (Option.some.inj e2).symm
      · exact ⟨c', z, upd_same⟩
    · rw [upd_ne (Nat.ne_of_gt hlt), upd_ne (Nat.ne_of_gt (Nat.lt_of_lt_of_le (Heap.lt_size oP) hsz))]
      exact I.hok.fresh hsz
end
section
variable {X : Cx}
/-- x(lambda: body) -/
theorem pe_lam {TT : (XK → Hp → VK → Prop) → Hp → VK → Prop} {x a : Str} {g c P : Addr} {k : Nat} {pg : Arguments} {bg : List Stmt} {sg : Scope} {dV kV doc pm cdv ct oc : Value} {an od : Option Addr} {osl : Array (Option Value)} {Ng : List Str}
    {params : Arguments} {body : Expr} {scope : Scope} {t : XK → TE} {p lpos pos : Pos} (hg : Gl X x) (hm : X.mg x = some (.ref g)) (hk : PySem.W.keepIn X.K (.ref g) = true)
    (lk : X.K.lookup g = some ⟨oc, od, .func (PySem.W.fnOf x x pg bg sg dV kV doc pm an cdv ct), osl⟩) (hcg : PySem.W.codeIn X.K cdv x = true) (hb : L2.Binds X.K (PySem.W.fnOf x x pg bg sg dV kV doc pm an cdv ct) [a] []) (Sg : FnScope Ng [a] sg) (hNg : Ng[0]? = some a) (hva : Vis sg a)
    (hG : LamX.GivesTo X Ng x sg g cdv bg a (X.env.qual ++ "<lambda>") TT)
    (TB : LamX.TabB X.base X.mg c P) (hcode : X.env.code = .ref c) (hr : Room (k + 2) X.A) (L : LamX.LamS X.env.scope scope) (hdef : defaultsOf params X.env = ([], []))
    (hbind : ∀ (q : Str) (cl : List (Str × Addr)) (pm cv ctv : Value), bindArgs (PySem.W.kla_fn "<lambda>" q params body scope cl pm cv ctv) ⟨[], []⟩ = pure [])
    (hbody : ∀ (A : Around) (outer : List Env) (s : Shared) (H : Hp) (E : XK) (f c' : Addr), Room k (A.deeper (LamX.lamEnv X scope s.heap.objs.size f c')) → PE (LamX.lamCx X A outer s H E scope f c') body (t E))
    (hdb : (x == ("__debug__" : Str)) = false := by decide) (hd : (a == ("__debug__" : Str)) = false := by decide) (hcd : (a == ("__classdict__" : Str)) = false := by decide) :
    PE X (.Call (.Name x p) [.Lambda params body scope lpos] [] pos) (fun σ H Q => LamX.TabS H P (X.env.qual ++ "<lambda>") ∧ ∀ H1, Grown P (X.env.qual ++ "<lambda>") H H1 → TT (fun E H' Q' => t E σ H' Q') H1 Q) := by
  refine ⟨fun pins s σ H Q I ⟨hT, h⟩ => ?_⟩
  refine wpAny_Call_Name_kw (ld_glob I hg hm ?_ hdb)
  refine PySem.W.callWith_K (h₀ := X.base) I.ok.mod.kin hk ?_ (by rfl) (by rfl)
  show wpAny _ _ (spliced ((false, eval (.Lambda params body scope lpos) X.env) :: backTo pos (starEach [] X.env))) _ _ s
  refine Calls.spliced_cons (lam_new I TB hcode hT hdef (L.has I.ok) fun f c' pm' ctv H1 s' I1 gr hf hfn hfr hco => Calls.spliced_nil ⟨I1.kIn, ?_⟩)
  have rc : codeAny (model X.prog X.w) X.A (.call (.ref g) ⟨[.ref f], []⟩) (CR C8.CX0 X.stack X.prog X.w H1 s' Q C8.E0) s' :=
    LamX.run_ofS (N := Ng) (ps := [a]) (us := [.ref f]) (vs := [.ref f]) lk hcg Sg hr I1.env0 (hb s' [.ref f] I1.kIn rfl) (.cons rfl .nil) rfl fun hr' => by
      obtain ⟨t', ht', hq'⟩ := hG f c' s' H1 Q (fun E H' Q' => t E σ H' Q') (fun W pn xe E p1 p2 tk hW => LamX.pe_act (i := 0) I1 L hf hfn hfr (hbind _ _ _ _ _) tk hW hr' (fun A outer s H hr2 => hbody A outer s H E f c' hr2) hNg hva hd hcd) hco (h H1 gr)
      exact ⟨t', ht'.nox, hq'⟩
  refine wpAny_call (codeAny_mono rc fun r s2 hq => ?_)
  match r, hq with
  | .error e, hq => exact (show False from hq).elim
  | .ok (.ret u), hq => exact I1.after hq
  | .ok .next, hq => exact False.elim hq
  | .ok .brk, hq => exact False.elim hq
  | .ok .cont, hq => exact False.elim hq
/-- told: try: a() / except e: return True; return False -/
def TTref (K : PySem.W.Frag) (CS : Addr) : (XK → Hp → VK → Prop) → Hp → VK → Prop := fun tl H Q =>
  tl (fun cls _ H' => ∃ b, PySem.W.exmOne K cls (.ref CS) = some b ∧ (b = true → Q (.bl true) H') ∧ (b = false → False)) H fun _ H' => Q (.bl false) H'
theorem refused_gives {Ng : List Str} {x a e q : Str} {sg : Scope} {g CS : Addr} {cdg : Value} {j1 j2 : Nat} {p1 p2 p3 p4 p5 p6 p7 p8 p9 p10 : Pos} (hge : sg.names.lookup e = some .globalImplicit) (hme : X.mg e = some (.ref CS)) (hde : (e == ("__debug__" : Str)) = false) (h0 : ∀ f : Addr, (L2.start Ng [V.ref f])[0]? = some (some (V.ref f))) :
    LamX.GivesTo X Ng x sg g cdg [.Try [.Expr (.Call (.Name a p1) [] [] p2) p3] [.ExceptHandler (some (.Name e p4)) none [.Return (some (.Constant (.bool true) j1 p5)) p6] p7] [] [] p8, .Return (some (.Constant (.bool false) j2 p9)) p10] a q (TTref X.K CS) := by
  intro f c' s H Q tl act hc h
  have hgl : Gl (cxOf C8.CX0 X.prog X.w X.K X.mg X.base Ng x sg g cdg X.A X.stack s H C8.E0).nox e := hge
  refine ⟨_, pss_cons (ps_try_only (X := (cxOf C8.CX0 X.prog X.w X.K X.mg X.base Ng x sg g cdg X.A X.stack s H C8.E0).nox) (c := .ref CS)
      (tb := fun W D σ H => ∃ Ech : XK, (∀ cls d σ' H', Ech cls d H' → W cls d σ' H') ∧ σ[0]? = some (some (.ref f)) ∧ H c' = some (LamX.CodeO c' q) ∧ tl Ech H fun _ H' => D.nx σ H')
      rfl rfl ⟨hgl, hde, .inl hme⟩ LamX.takes0 (fun W pn xe tk _ => ?_) (fun a oe cls d pn _ _ => pss_one (ps_ret pe_bl))) (pss_one (ps_ret pe_bl)), ?_⟩
  · refine ⟨fun pins s' σ H' D I h' => ?_⟩
    obtain ⟨Ech, hW, h1, h2, h3⟩ := h'
    have hp := act W pn xe Ech p1 p2 tk hW
    have hq := pss_one (ps_expr (pos := p3) hp rfl)
    exact hq.run pins s' σ H' D I ⟨h1, h2, h3⟩
  · exact ⟨fun cls _ H' => ∃ b, PySem.W.exmOne X.K cls (.ref CS) = some b ∧ (b = true → Q (.bl true) H') ∧ (b = false → False), fun cls d σ' H' ⟨b, e1, e2, e3⟩ => ⟨b, e1, fun hb a _ => e2 hb, fun hb => e3 hb⟩, h0 f, hc, h⟩
end
/-- a def: try: a() / except e: return True; return False -/
structure Refuser (K : PySem.W.Frag) (mg : Str → Option Value) (x e : Str) (CS : Addr) : Prop where
  ex : ∃ (st : Stmt) (f : Addr) (fd : FuncData) (a : Str) (j1 j2 : Nat) (p1 p2 p3 p4 p5 p6 p7 p8 p9 p10 : Pos), mg x = some (.ref f) ∧ PySem.W.keepIn K (.ref f) = true ∧ Binds K fd [a] [] ∧ Fun K x x st f fd ∧ FnScope [a] [a] (defScope st) ∧ Vis (defScope st) a ∧
    (defScope st).names.lookup e = some .globalImplicit ∧ mg e = some (.ref CS) ∧ (e == ("__debug__" : Str)) = false ∧ (a == ("__debug__" : Str)) = false ∧ (a == ("__classdict__" : Str)) = false ∧
    defBody st = [.Try [.Expr (.Call (.Name a p1) [] [] p2) p3] [.ExceptHandler (some (.Name e p4)) none [.Return (some (.Constant (.bool true) j1 p5)) p6] p7] [] [] p8, .Return (some (.Constant (.bool false) j2 p9)) p10]
/-- a site at which law's lambdas may be made -/
structure LamAt (c : Site) : Prop where
  ex : ∃ (cc P : Addr), LamX.TabB c.X.base c.X.mg cc P ∧ c.X.env.code = .ref cc ∧ c.S P ∧ LamX.TabS c.H0 P lamName
  qual : c.X.env.qual ++ "<lambda>" = lamName
theorem LamAt.src {c : Site} {a : Addr} (h : LamAt c) : LamAt (srcSite c a) := ⟨let ⟨cc, P, h1, h2, h3, h4⟩ := h.ex; ⟨cc, P, h1, h2, .inl h3, h4⟩, h.qual⟩
/-- the site of a lambda's body -/
abbrev lamSite (c : Site) (A : Around) (outer : List Env) (s : Shared) (H : Hp) (E : XK) (scope : Scope) (f c' : Addr) : Site where
  X := LamX.lamCx c.X A outer s H E scope f c'
  S := c.S
  H0 := c.H0
  W := fun cls d _ H => E cls d H
  ca := c.ca
  wr := fun _ => False
/-- is it refused: the mirror -/
def refM (tab : List String) (n : String) (mb : M D) : M D := M.nox (M.tryC (M.bind mb fun _ => M.pure (.bool false)) (catch1 tab n (M.pure (.bool true)) M.raise))
theorem E_refused {c : Site} {γ : Ctx} {x : Str} {tab : List String} (n : String) {e : Str} {params : Arguments} {body : Expr} {scope : Scope} {p lpos pos : Pos} {mb : M D} (k : Nat) {k' : Nat} (R : Refuser c.X.K c.X.mg x e (c.ca n)) (T : ExTab c.X.K c.ca tab) (LA : LamAt c) (hr : Room k' c.X.A) (hk : k + 2 ≤ k')
    (hbody : ∀ (A : Around) (outer : List Env) (s : Shared) (H : Hp) (E : XK) (f c' : Addr), Room k (lamSite c A outer s H E scope f c').X.A → Takes (lamSite c A outer s H E scope f c').X (lamSite c A outer s H E scope f c').W → SimE (lamSite c A outer s H E scope f c') γ body mb)
    (sc0 : Scope) (hn : n ∈ tab := by decide) (L0 : LamX.lamSB sc0 scope = true := by decide +kernel) (hsc : c.X.env.scope = sc0 := by rfl) (hg : Gl c.X x := by rfl) (hdb : (x == ("__debug__" : Str)) = false := by decide) (hdef : defaultsOf params c.X.env = ([], []) := by rfl)
    (hbind : ∀ (q : Str) (cl : List (Str × Addr)) (pm cv ctv : Value), bindArgs (PySem.W.kla_fn "<lambda>" q params body scope cl pm cv ctv) ⟨[], []⟩ = pure [] := by intros; rfl) :
    SimE c γ (.Call (.Name x p) [.Lambda params body scope lpos] [] pos) (refM tab n mb) := .mk fun σ H F QD QE hm hx Q kq => by
  obtain ⟨st, f, fd, a, j1, j2, p1, p2, p3, p4, p5, p6, p7, p8, p9, p10, h1, h2, h3, F0, Sg, hva, hge, hme, hde, hd, hcd, eb⟩ := R.ex
  obtain ⟨oc, od, kV, doc, pm, an, cdv, ct, osl, rfl, lk, hcg⟩ := F0.ex
  obtain ⟨cc, P, TB, hcode, hSP, hTS⟩ := LA.ex
  rw [eb] at lk h3
  have L : LamX.LamS c.X.env.scope scope := by rw [hsc]; exact LamX.lamS_by L0
  refine ev (pe_lam (P := P) (k := k) (t := fun E σ H' Q' => ∀ (A : Around) (outer : List Env) (s : Shared) (H1 : Hp) (f c' : Addr), Room k (A.deeper (LamX.lamEnv c.X scope s.heap.objs.size f c')) → EV (LamX.lamCx c.X A outer s H1 E scope f c') body σ H' Q')
    hg h1 h2 lk hcg h3 Sg rfl hva (refused_gives hge hme hde fun _ => rfl) TB hcode (hr.mono hk) L hdef hbind (fun A outer s H E f c' hr2 => ⟨fun pins s' σ H' Q' I h => (h A outer s H f c' hr2) pins s' I⟩) hdb hd hcd) ?_
  rw [LA.qual]
  refine ⟨F.base.tabS hTS, fun H1 gr A outer s H1' f' c' hr2 => ?_⟩
  have a1 : Adv c.S H H1 := fun b o e => by
    by_cases hb : b = P
    · subst hb
      obtain ⟨ps, e1, _⟩ := F.base.tabS hTS
      obtain ⟨qs, e2, _⟩ := id gr.tab
      rw [e1] at e
      cases e
      exact .inr ⟨hSP, .inr ⟨ps, qs, rfl, e2, fun _ => gr.tab⟩⟩
    · exact .inl (gr.keep b o hb e)
  have F1 := F.adv a1
  refine hbody A outer s H1' _ f' c' hr2 (takes_of rfl rfl rfl rfl) σ H1 ⟨F1.val, F1.sep, F1.new, F1.base, F1.src⟩ _ _ hm (fun x H2 cls dd q a2 rx => ?_) _ fun d v H2 q a2 _ => kq _ _ _ q (a1.trans a2) (.bl false)
  obtain ⟨hin, hmm⟩ := q
  refine ⟨exSub x.cls n, by rw [rx.1]; exact T.one _ hin _ hn, fun e => ?_, fun e => ?_⟩
  · rw [e] at hmm
    exact kq _ _ _ hmm (a1.trans a2) (.bl true)
  · rw [e] at hmm
    exact hmm.elim
/-- what law(script) promises, where its table T is empty -/
def spLawT (K : PySem.W.Frag) (T : Addr) : Sp := fun vs H Q _ => ∃ (a : Addr) (ns : List Int), vs = [.ref a] ∧ SqL K H a (ns.map V.int) ∧ ns.length ≤ 63 ∧ H T = some (.tbl #[]) ∧ ∀ H', Q (.bl true) H'
theorem fnLawT {P : Program} {w : World} {K : PySem.W.Frag} {mg : Str → Option Value} {base : Heap} {ca : String → Addr} {x : Str} {st : Stmt} {f cc T : Addr} {N ps : List Str} {k : Nat} {oc : Value} {od : Option Addr} {kV doc pm : Value} {an : Option Addr} {ct : Value} {osl : Array (Option Value)} {F : List D → M D}
    (hF : ∀ ns : List Int, ns.length ≤ 63 → F [.list (ns.map .int)] (fun d => d = .bool true) (fun _ => False)) (lk : K.lookup f = some ⟨oc, od, .func (PySem.W.fnOf x x (defArgs st) (defBody st) (defScope st) .none kV doc pm an (.ref cc) ct), osl⟩) (hcd : PySem.W.codeIn K (.ref cc) x = true)
    (S0 : FnScope N ps (defScope st)) (hks : 1 = ps.length) (TB : LamX.TabB base mg cc T) (hx : x ++ ".<locals>." ++ "<lambda>" = lamName)
    (hb : ∀ (cdv : Value) (A : Around) (outer : List Env) (s : Shared) (H : Hp) (E : XK) (S : Addr → Prop) (H0 : Hp), Room k (bodySite P w K mg base ca N x (defScope st) f cdv A outer s H E S H0).X.A → Takes (bodySite P w K mg base ca N x (defScope st) f cdv A outer s H E S H0).X (bodySite P w K mg base ca N x (defScope st) f cdv A outer s H E S H0).W →
      PassesOwn (model P w) (bodySite P w K mg base ca N x (defScope st) f cdv A outer s H E S H0).X.A (bodySite P w K mg base ca N x (defScope st) f cdv A outer s H E S H0).X.env (bodySite P w K mg base ca N x (defScope st) f cdv A outer s H E S H0).X.xe →
      LamAt (bodySite P w K mg base ca N x (defScope st) f cdv A outer s H E S H0) → ∀ ds, ds.length = nD [PK.d] → SimS (bodySite P w K mg base ca N x (defScope st) f cdv A outer s H E S H0) [] (defBody st) (ctx0 [PK.d] ds (N.length - ps.length)) (F ds) Oc.rt) :
    FnOk P w K mg base (L2.CX P w) (k + 1) f (PySem.W.fnOf x x (defArgs st) (defBody st) (defScope st) .none kV doc pm an (.ref cc) ct) ps (spLawT K T) := by
  refine fn_of lk hcd S0 (fun vs H Q E ⟨a, ns, e, _⟩ => by rw [e]; exact hks) fun A outer s H vs Q E hr ⟨a, ns, e, hq, hl, hT, hQ⟩ => ?_
  subst e
  refine ⟨_, SV.pss, ?_⟩
  have go : ∀ H1 : Hp, H1 T = some (.tbl #[]) → FzL K H1 a (ns.map V.int) → SV (bodySite P w K mg base ca N x (defScope st) f (.ref cc) A outer s H E (fun y => y = T) H1).X (defBody st) { nx := fun _ H' => Q .non H', rt := Q } (start N [.ref a]) H1 := fun H1 hT1 hz => by
    have r : ArgsR K (fun y => y = T) H1 [PK.d] [.ref a] [.list (ns.map .int)] := ⟨.lst hz (RpL.ofInts ns), trivial⟩
    exact hb (.ref cc) A outer s H E (fun y => y = T) H1 hr (takes_of rfl rfl rfl rfl) (passes_of rfl) ⟨⟨cc, T, TB, rfl, rfl, LamX.TabS.nil hT1⟩, hx⟩ _ rfl (start N [.ref a]) H1
      (FR.start (c := bodySite P w K mg base ca N x (defScope st) f (.ref cc) A outer s H E (fun y => y = T) H1) r fun y e z => by
        have z2 : H1 T = none := (show y = T from e) ▸ z
        rw [hT1] at z2
        cases z2) _ _ (hF ns hl) (fun _ _ _ _ _ z => z.elim) _ fun d qo v H' _ r' => by
      subst qo
      cases r'
      exact hQ H'
  rcases hq with (h | ⟨o, h⟩) | h
  · refine SV.freeze h fun o => go _ ?_ (.inl ⟨o, upd_same⟩)
    rw [upd_ne (fun z => by rw [← z, hT] at h; cases h)]
    exact hT
  · exact go H hT (.inl ⟨o, h⟩)
  · exact go H hT (.inr h)
theorem walkT {k : Nat} {l : PySem.W.OpenLaw} {q : Program} {loose : List Str} {XP : (Str → Option Value) → Heap → Prop} {YP : World → Heap → Prop} {d : DefRec} {K : Params → PySem.W.Frag} (hn : l.most = some 63) (hdf : d.params.defaults = []) (hr : Room k callerA)
    (hY : ∀ (w : World) (h : Heap), YP w h → (K w.params).In h)
    (F : ∀ (w : World) (mg : Str → Option Value) (fa : Addr) (h : Heap), YP w h → (K w.params).In h → h.Ns mainGlobals mg → mg d.name = some (.ref fa) →
      ∃ (fd : FuncData) (cc T : Addr), h.get? T = some { cls := .none, data := .fields #[] } ∧ (K w.params).lookup T = none ∧ PySem.W.CodeHd h cc T ∧ (∀ (s : Shared) (u : Value), BindsTo s fd ⟨[u], []⟩ [("script", u)]) ∧
        ∀ base : Heap, (K w.params).In base → base.Ns mainGlobals mg → LamX.TabB base mg cc T → FnOk l.prog w (K w.params) mg base (L2.CX l.prog w) k fa fd ["script"] (spLawT (K w.params) T)) :
    PySem.W.WalkO q loose XP YP l.row.toRowW d [] (fun f vs => PySem.call f vs) :=
  LamX.walk_ofTs (n := 63) (k := k) (x := "script") (K := K) (CX := fun w => L2.CX l.prog w) hn (by decide) hdf hr hY (fun w mg fa h Y KX G hmg => by
    obtain ⟨fd, cc, T, h1, h2, h3, h4, h5⟩ := F w mg fa h Y KX G hmg
    exact ⟨fd, [(cc, T)], spLawT (K w.params) T, List.forall_mem_singleton.mpr h1, List.forall_mem_singleton.mpr h2, List.forall_mem_singleton.mpr h3, h4, fun H a ns hl _ hT hS => ⟨a, ns, rfl, hS, hl, hT _ (List.mem_singleton.mpr rfl), fun _ => rfl⟩,
      fun base b1 b2 b3 => h5 base b1 b2 (b3 _ (List.mem_singleton.mpr rfl))⟩) fun _ _ _ _ _ z => by
    obtain ⟨_, _, _, _, _, _, _, _, _, _, _, _, z⟩ := z
    exact z
end Sm

set_option Elab.async false
set_option linter.all false
set_option maxRecDepth 100000
set_option maxHeartbeats 4000000
/-! Sm26: sep.join(a list of texts); code that is never reached. -/
namespace Sm
open PySem PySem.Spec L2
open PyProof.Rows hiding St
def strsOf : List D → Option (List Str)
  | [] => some []
  | .str x :: r => (strsOf r).map (x :: ·)
  | _ => none
theorem strsOf_map : ∀ ys : List Str, strsOf (ys.map .str) = some ys
  | [] => rfl
  | y :: r => by
    show (strsOf (r.map .str)).map (y :: ·) = _
    rw [strsOf_map r] <;> rfl
theorem strsOf_eq : ∀ {ds : List D} {ys : List Str}, strsOf ds = some ys → ds = ys.map .str
  | [], ys, h => by
    cases h
    rfl
  | d :: r, ys, h => by
    cases d <;> first | exact nomatch (show (none : Option (List Str)) = some ys from h) | skip
    rename_i x
    have h2 : (strsOf r).map (x :: ·) = some ys := h
    cases e : strsOf r with
    | none => rw [e] at h2; cases h2
    | some zs =>
      rw [e] at h2
      cases h2
      rw [strsOf_eq e] <;> rfl
/-- a.join(texts) -/
def joinO (a : Str) : Option (List Str) → M D
  | some ys => M.guard ((ys.map (·.length)).sum + ys.length * a.length ≤ 16777216) (M.pure (.str (Str.join a ys)))
  | none => M.fail
def joinM : D → D → M D
  | .str a, .list ds => joinO a (strsOf ds)
  | _, _ => M.fail
theorem joinM_w {a : Str} {ys : List Str} {Q : D → Prop} {E : Ex → Prop} : joinM (.str a) (.list (ys.map .str)) Q E = ((ys.map (·.length)).sum + ys.length * a.length ≤ 16777216 ∧ Q (.str (Str.join a ys))) := by
  show joinO a (strsOf (ys.map .str)) Q E = _
  rw [strsOf_map]
  exact propext ⟨fun h => h, fun h => h⟩
theorem strOk_join {a : Str} (ha : PyData.strOk a = true) : ∀ {ys : List Str}, (∀ y ∈ ys, PyData.strOk y = true) → PyData.strOk (Str.join a ys) = true
  | [], _ => by
    show PyData.strOk Str.empty = true
    decide +kernel
  | [x], h => h x (by simp)
  | x :: y :: r, h => by
    show PyData.strOk (x ++ a ++ Str.join a (y :: r)) = true
    exact strOk_append (strOk_append (h x (by simp)) ha) (strOk_join ha fun z hz => h z (by simp at hz ⊢; exact .inr hz))
section
variable {c : Site} {γ γx : Ctx} {o e : Expr} {apos pos : Pos} {mo me : M D} {α : Type} {dec : α → Oc}
theorem E_join {a : Str} {j : Nat} {p : Pos} (he : SimK c γ e me) (hok : PyData.strOk a = true := by decide +kernel) (hs : starEach [e] c.X.env = [(false, eval e c.X.env)] := by exact star_cons rfl) (hbase : attributeBase (.Constant (.str a) j p) "join" c.X.env (eval (.Constant (.str a) j p) c.X.env) = eval (.Constant (.str a) j p) c.X.env := by rfl) (hline : (apos.endLine == pos.line) = true := by rfl) :
    SimE c γ (.Call (.Attribute (.Constant (.str a) j p) "join" apos) [e] [] pos) (M.bind me fun y => joinM (.str a) y) := .mk fun σ H F QD QE hm hx Q kq => by
  refine ev (pe_join pe_str EV.pe hs hbase hline) ⟨⟨a, rfl⟩, he σ H F _ QE hm hx _ fun d v H1 q1 a1 r1 => ?_⟩
  cases d <;> first | exact (show False from q1).elim | skip
  rename_i ds
  obtain ⟨l, vs, rfl, h1, s1⟩ := r1.lst
  have q2 : joinO a (strsOf ds) QD QE := q1
  cases e1 : strsOf ds with
  | none => rw [e1] at q2; exact (show False from q2).elim
  | some ys =>
    rw [e1] at q2
    obtain ⟨hz, q3⟩ := q2
    have e2 := strsOf_eq e1
    subst e2
    obtain ⟨rfl, ok⟩ := rp_strs s1
    refine ⟨a, l, ys, rfl, rfl, .inl h1, hz, ?_⟩
    rw [TL.join_eq]
    exact kq _ _ _ q3 a1 (.str _ (strOk_join hok ok))
/-- code that is never reached -/
theorem S_dead {rest : List Stmt} : SimS c γx rest γ (M.fail : M α) dec := .mk fun σ H F QD QE hm _ D k => (show False from hm).elim
end
end Sm

set_option Elab.async false
set_option linter.all false
set_option maxRecDepth 100000
set_option maxHeartbeats 4000000

/-! printed by gen.py: mirrors and walks of the defs of law_k72_documents_written_and_read -/
namespace Sm
open PySem PySem.Spec L2
open PyProof.Rows hiding St
def top (i : Nat) : Stmt := PySem.Challenge.pw_wrapunwrap_k72_documents_written_and_rea.main.body.getD i (.Pass ⟨0, 0, 0, 0⟩)
def c_LETTERS : D := (.str "abcdefghijklmnopqrstuvwxyz")
def c_MOST_SIGNS : D := (.int 8)
def exTab : List String := ["ScriptError", "InvalidDocument", "WrongText"]
def m_is_label (a0 : D) : M D :=
  (M.bind (M.bind (M.bind (M.bind (M.bind (M.pure a0) fun z1 => M.pure (.bool (isInst "str" z1))) tru) fun z2 => M.pure (!z2)) fun z8 => M.ite z8 (M.pure true) (M.bind (M.bind (M.pure (.int 1)) fun z3 => M.bind (M.bind (M.pure a0) opLen) fun z4 => M.bind (opLe z3 z4) fun z5 => M.ite z5 (M.bind (M.pure c_MOST_SIGNS) fun z6 => opLe z4 z6) (M.pure false)) fun z7 => M.pure (!z7))) fun b9 => M.ite b9 (M.bind (M.pure (.bool false)) fun z10 => M.pure z10) (M.bind (M.bind (M.bind (M.bind (M.bind (M.pure a0) itemsA) fun xs => M.nox (M.mapC (fun d11 => (M.bind (M.bind (M.pure d11) fun z12 => M.bind (M.pure c_LETTERS) fun z13 => M.bind (opInA z12 z13) fun z14 => M.pure (.bool z14)) fun z15 => M.pure (some z15))) xs)) fun z => M.pure (.list z)) allM) fun z16 => M.pure z16))
def u_is_label : List D → M D := fun ds => match ds with | [a0] => m_is_label a0 | _ => M.fail
def m_is_wide (a0 : D) (a1 : D) (a2 : D) : M D :=
  (M.bind (M.bind (M.bind (M.pure a0) fun z1 => M.pure (.bool (isInst "tuple" z1))) fun z7 => M.bind (tru z7) fun z8 => M.ite z8 (M.bind (M.pure a1) fun z2 => M.bind (M.bind (M.pure a0) opLen) fun z3 => M.bind (opLe z2 z3) fun z4 => M.ite z4 (M.bind (M.pure a2) fun z5 => M.bind (opLe z3 z5) fun z6 => M.pure (.bool z6)) (M.pure (.bool false))) (M.pure (.bool false))) fun z9 => M.pure z9)
def u_is_wide : List D → M D := fun ds => match ds with | [a0, a1, a2] => m_is_wide a0 a1 a2 | _ => M.fail
def m_label_end (a0 : D) (a1 : D) : M D :=
  (M.bind (M.whileS (fun s1 => (M.bind (M.bind (M.pure s1) fun z2 => M.bind (M.bind (M.pure a0) opLen) fun z3 => opLt z2 z3) fun z8 => M.ite z8 (M.bind (M.bind (M.pure a0) fun z4 => M.bind (M.pure s1) fun z5 => opIx z4 z5) fun z6 => M.bind (M.pure (PyData.str " ()")) fun z7 => opNotInA z6 z7) (M.pure false))) (fun s1 => ((M.bind (M.bind (M.pure s1) fun z9 => M.bind (M.pure (.int 1)) fun z10 => opAdd z9 z10) fun z11 => (M.pure z11)) : M (D))) a1) fun s1 => (M.bind (M.pure s1) fun z12 => M.pure z12))
def u_label_end : List D → M D := fun ds => match ds with | [a0, a1] => m_label_end a0 a1 | _ => M.fail
def m__law_source (a0 : D) (a1 : D) : M (List D) :=
  (M.bind (M.pure (.int 0)) fun z1 => (M.bind (M.bind (M.bind (M.bind (M.pure a0) opLen) fun z2 => M.bind (M.pure a1) fun z3 => opGt z2 z3) fun b4 => M.ite b4 ((M.bind (M.bind (M.bind (M.pure a0) fun z6 => M.bind (M.pure a1) fun z7 => opIx z6 z7) intOf) fun z8 => (M.pure z8)) : M (D)) ((M.pure z1) : M (D))) fun s5 => (M.bind (M.bind (M.bind (M.bind (M.bind (M.pure s5) fun z9 => M.bind (M.pure (.int 16807)) fun z10 => opMul z9 z10) fun z13 => M.bind (M.bind (M.pure (.int 60919)) fun z11 => M.bind (M.pure a1) fun z12 => opMul z11 z12) fun z14 => opAdd z13 z14) fun z15 => M.bind (M.pure (.int 31)) fun z16 => opAdd z15 z16) fun z17 => M.bind (M.pure (.int 2147481173)) fun z18 => opMod z17 z18) fun z19 => (M.bind (M.bind (M.bind (M.bind (M.bind (M.pure z19) fun z20 => M.bind (M.pure z19) fun z21 => opMul z20 z21) fun z22 => M.bind (M.pure (.int 2147481151)) fun z23 => opMod z22 z23) fun z26 => M.bind (M.bind (M.pure (.int 2)) fun z24 => M.bind (M.pure a1) fun z25 => opMul z24 z25) fun z27 => opAdd z26 z27) fun z28 => M.bind (M.pure (.int 5)) fun z29 => opAdd z28 z29) fun z30 => (M.bind (M.bind (M.bind (M.bind (M.pure s5) fun z35 => M.bind (M.bind (M.pure (.int 10)) fun z33 => M.bind (M.pure (.int 18)) fun z34 => opPow z33 z34) fun z36 => opGe z35 z36) fun z37 => M.ite z37 (M.pure s5) (M.pure (.int 0))) fun z38 => M.bind (M.bind (M.pure z30) fun z31 => M.bind (M.pure []) fun z32 => M.pure (z31 :: z32)) fun z39 => M.pure (z38 :: z39)) fun z40 => M.pure z40)))))
def u__law_source : List D → M (List D) := fun ds => match ds with | [a0, a1] => m__law_source a0 a1 | _ => M.fail
def m__law_pick (a0 : D) : M D :=
  (M.bind (M.bind anyI fun z1 => M.bind (M.pure (.int 0)) fun z2 => opGt z1 z2) fun b3 => M.ite b3 (M.bind (M.bind (M.bind anyI intOf) fun z4 => M.bind (M.pure a0) fun z5 => opMod z4 z5) fun z6 => (M.bind (M.bind (M.bind anyI intOf) fun z7 => M.bind (M.pure a0) fun z8 => opFdiv z7 z8) fun z9 => M.bind (srcSet 0 z9) fun _ => (M.bind (M.pure z6) fun z10 => M.pure z10))) (M.bind (M.bind (M.bind (M.bind (M.bind anyG fun z11 => M.bind (M.pure (.int 44497)) fun z12 => opMul z11 z12) fun z13 => M.bind (M.pure (.int 9973)) fun z14 => opAdd z13 z14) intOf) fun z15 => M.bind (M.pure (.int 2147483647)) fun z16 => opMod z15 z16) fun z17 => M.bind (srcSet 1 z17) fun _ => (M.bind (M.bind (M.bind (M.bind (M.bind (M.bind anyG fun z18 => M.bind anyG fun z19 => opMul z18 z19) intOf) fun z20 => M.bind (M.pure (.int 2147483399)) fun z21 => opMod z20 z21) fun z22 => M.bind (M.pure (.int 11)) fun z23 => opFdiv z22 z23) fun z24 => M.bind (M.pure a0) fun z25 => opMod z24 z25) fun z26 => M.pure z26)))
def u__law_pick : List D → M D := fun ds => match ds with | [a0] => m__law_pick a0 | _ => M.fail
def m__law_wide (a0 : D) (a1 : D) (a2 : D) : M D :=
  (M.bind (M.bind (M.bind (M.pure a0) fun z1 => M.pure (.bool (isInst "tuple" z1))) fun z7 => M.bind (tru z7) fun z8 => M.ite z8 (M.bind (M.pure a1) fun z2 => M.bind (M.bind (M.pure a0) opLen) fun z3 => M.bind (opLe z2 z3) fun z4 => M.ite z4 (M.bind (M.pure a2) fun z5 => M.bind (opLe z3 z5) fun z6 => M.pure (.bool z6)) (M.pure (.bool false))) (M.pure (.bool false))) fun z9 => M.pure z9)
def u__law_wide : List D → M D := fun ds => match ds with | [a0, a1, a2] => m__law_wide a0 a1 a2 | _ => M.fail
def m__law_is_label (a0 : D) : M D :=
  (M.bind (M.bind (M.bind (M.bind (M.bind (M.pure a0) fun z1 => M.pure (.bool (isInst "str" z1))) tru) fun z2 => M.pure (!z2)) fun z8 => M.ite z8 (M.pure true) (M.bind (M.bind (M.pure (.int 1)) fun z3 => M.bind (M.bind (M.pure a0) opLen) fun z4 => M.bind (opLe z3 z4) fun z5 => M.ite z5 (M.bind (M.pure (.int 8)) fun z6 => opLe z4 z6) (M.pure false)) fun z7 => M.pure (!z7))) fun b9 => M.ite b9 (M.bind (M.pure (.bool false)) fun z10 => M.pure z10) (M.bind (M.bind (M.bind (M.bind (M.bind (M.pure a0) itemsA) fun xs => M.nox (M.mapC (fun d11 => (M.bind (M.bind (M.pure d11) fun z12 => M.bind (M.pure (PyData.str "abcdefghijklmnopqrstuvwxyz")) fun z13 => opNotInA z12 z13) fun z14 => M.ite z14 (M.bind (M.pure d11) fun z15 => M.pure (some z15)) (M.pure none))) xs)) fun z => M.pure (.list z)) fun z16 => M.bind (M.bind (M.pure []) fun z => M.pure (.list z)) fun z17 => M.bind (opEq z16 z17) fun z18 => M.pure (.bool z18)) fun z19 => M.pure z19))
def u__law_is_label : List D → M D := fun ds => match ds with | [a0] => m__law_is_label a0 | _ => M.fail
def m_is_right_document (a0 : D) : M D :=
  (M.bind (M.bind (M.pure a0) fun z1 => M.bind (M.pure []) fun z2 => M.pure (z1 :: z2)) fun z3 => (M.seqR (M.while_ (fun s4 => (M.bind (M.pure (.list s4)) fun z5 => M.bind (M.bind (M.pure []) fun z => M.pure (.list z)) fun z6 => opNe z5 z6)) (fun s4 => ((M.bind (popM s4) fun q7 => (M.bind (M.bind (M.bind (M.bind (M.pure q7.1) fun z8 => M.pure (.bool (isInst "tuple" z8))) tru) fun z9 => M.pure (!z9)) fun b10 => M.ite b10 (M.bind (M.pure (.bool false)) fun z11 => M.pure (Sum.inr z11)) (M.bind (M.bind (M.pure q7.1) itemsA) fun xs => M.seqR (M.forR (fun s12 d13 => ((M.bind (M.bind (M.bind (M.bind (M.bind (M.bind (M.pure d13) fun z18 => M.bind (M.bind (M.pure (.int 2)) fun z16 => M.bind (M.bind (M.pure (.int 2)) fun z14 => M.bind (M.pure []) fun z15 => M.pure (z14 :: z15)) fun z17 => M.pure (z16 :: z17)) fun z19 => M.pure (z18 :: z19)) u_is_wide) tru) fun z20 => M.pure (!z20)) fun z26 => M.ite z26 (M.pure true) (M.bind (M.bind (M.bind (M.bind (M.bind (M.pure d13) fun z21 => M.bind (M.pure (.int 0)) fun z22 => opIx z21 z22) fun z23 => M.bind (M.pure []) fun z24 => M.pure (z23 :: z24)) u_is_label) tru) fun z25 => M.pure (!z25))) fun b27 => M.ite b27 (M.bind (M.pure (.bool false)) fun z28 => M.pure (Sum.inr z28)) (M.bind (M.bind (M.pure d13) fun z30 => M.bind (M.pure (.int 1)) fun z31 => opIx z30 z31) fun z29 => M.guard (s12.length < sizeLine) (M.pure (Sum.inl (s12 ++ [z29]))))) : M ((List D) ⊕ D))) xs q7.2) (fun s12 => (M.pure (Sum.inl s12))) (fun r => (Sum.inr r))))) : M ((List D) ⊕ D))) z3) (fun s4 => (M.bind (M.pure (.bool true)) fun z32 => M.pure z32)) (fun r => r)))
def u_is_right_document : List D → M D := fun ds => match ds with | [a0] => m_is_right_document a0 | _ => M.fail
def m__law_chosen (a0 : D) : M D :=
  (M.bind (M.bind (M.pure a0) fun z3 => M.bind (M.bind (M.bind (M.bind (M.pure a0) opLen) fun z1 => M.bind (M.pure []) fun z2 => M.pure (z1 :: z2)) u__law_pick) fun z4 => opIx z3 z4) fun z5 => M.pure z5)
def u__law_chosen : List D → M D := fun ds => match ds with | [a0] => m__law_chosen a0 | _ => M.fail
def m_need_document (a0 : D) : M Unit :=
  (M.bind (M.bind (M.bind (M.bind (M.bind (M.pure a0) fun z1 => M.bind (M.pure []) fun z2 => M.pure (z1 :: z2)) u_is_right_document) tru) fun z3 => M.pure (!z3)) fun b4 => M.ite b4 (M.raise ⟨"InvalidDocument", none⟩) (M.pure ()))
def v_need_document : List D → M Unit := fun ds => match ds with | [a0] => m_need_document a0 | _ => M.fail
def u_need_document : List D → M D := fun ds => M.bind (v_need_document ds) fun _ => M.pure .none
def m__law_labels : M D :=
  (M.bind (M.bind (M.bind (M.bind (M.bind (M.bind (M.bind (M.pure (PyData.str "a")) fun z27 => M.bind (M.pure []) fun z28 => M.pure (z27 :: z28)) fun z => M.pure (.list z)) fun z29 => M.bind (M.bind (M.bind (M.bind (M.pure (PyData.str "a")) fun z23 => M.bind (M.bind (M.pure (PyData.str "b")) fun z21 => M.bind (M.pure []) fun z22 => M.pure (z21 :: z22)) fun z24 => M.pure (z23 :: z24)) fun z => M.pure (.list z)) fun z25 => M.bind (M.bind (M.bind (M.bind (M.pure (PyData.str "a")) fun z17 => M.bind (M.bind (M.pure (PyData.str "b")) fun z15 => M.bind (M.pure []) fun z16 => M.pure (z15 :: z16)) fun z18 => M.pure (z17 :: z18)) fun z => M.pure (.list z)) fun z19 => M.bind (M.bind (M.bind (M.bind (M.pure (PyData.str "a")) fun z11 => M.bind (M.bind (M.pure (PyData.str "b")) fun z9 => M.bind (M.bind (M.pure (PyData.str "c")) fun z7 => M.bind (M.pure []) fun z8 => M.pure (z7 :: z8)) fun z10 => M.pure (z9 :: z10)) fun z12 => M.pure (z11 :: z12)) fun z => M.pure (.list z)) fun z13 => M.bind (M.bind (M.bind (M.bind (M.pure (PyData.str "li")) fun z3 => M.bind (M.bind (M.pure (PyData.str "ul")) fun z1 => M.bind (M.pure []) fun z2 => M.pure (z1 :: z2)) fun z4 => M.pure (z3 :: z4)) fun z => M.pure (.list z)) fun z5 => M.bind (M.pure []) fun z6 => M.pure (z5 :: z6)) fun z14 => M.pure (z13 :: z14)) fun z20 => M.pure (z19 :: z20)) fun z26 => M.pure (z25 :: z26)) fun z30 => M.pure (z29 :: z30)) fun z => M.pure (.list z)) fun z31 => M.bind (M.pure []) fun z32 => M.pure (z31 :: z32)) u__law_chosen) fun z33 => M.pure z33)
def u__law_labels : List D → M D := fun ds => match ds with | [] => m__law_labels  | _ => M.fail
def m__law_bent (a0 : D) : M D :=
  (M.bind (M.bind (M.bind (M.bind (M.bind (M.pure a0) opLen) fun z2 => M.bind (M.pure (.int 1)) fun z3 => opAdd z2 z3) fun z4 => M.bind (M.pure []) fun z5 => M.pure (z4 :: z5)) u__law_pick) fun z1 => M.bind (M.pure (PyData.str " ()abA")) fun z6 => (M.bind (M.bind (M.bind (M.pure (.int 4)) fun z7 => M.bind (M.pure []) fun z8 => M.pure (z7 :: z8)) u__law_pick) fun z9 => (M.bind (M.bind (M.pure z9) fun z10 => M.bind (M.pure (.int 2)) fun z11 => opLt z10 z11) fun b12 => M.ite b12 (M.bind (M.bind (M.bind (M.bind (M.pure a0) fun z13 => M.bind (M.pure none) fun z14 => M.bind (M.bind (M.pure z1) intM) fun z15 => opCut z13 z14 z15) fun z20 => M.bind (M.bind (M.pure z6) fun z18 => M.bind (M.bind (M.bind (M.bind (M.pure z6) opLen) fun z16 => M.bind (M.pure []) fun z17 => M.pure (z16 :: z17)) u__law_pick) fun z19 => opIx z18 z19) fun z21 => opAdd z20 z21) fun z27 => M.bind (M.bind (M.pure a0) fun z24 => M.bind (M.bind (M.bind (M.pure z1) fun z22 => M.bind (M.pure z9) fun z23 => opAdd z22 z23) intM) fun z25 => M.bind (M.pure none) fun z26 => opCut z24 z25 z26) fun z28 => opAdd z27 z28) fun z29 => M.pure z29) (M.bind (M.bind (M.pure z9) fun z30 => M.bind (M.pure (.int 2)) fun z31 => opEq z30 z31) fun b32 => M.ite b32 (M.bind (M.bind (M.bind (M.pure a0) fun z33 => M.bind (M.pure none) fun z34 => M.bind (M.bind (M.pure z1) intM) fun z35 => opCut z33 z34 z35) fun z41 => M.bind (M.bind (M.pure a0) fun z38 => M.bind (M.bind (M.bind (M.pure z1) fun z36 => M.bind (M.pure (.int 1)) fun z37 => opAdd z36 z37) intM) fun z39 => M.bind (M.pure none) fun z40 => opCut z38 z39 z40) fun z42 => opAdd z41 z42) fun z43 => M.pure z43) (M.bind (M.bind (M.bind (M.bind (M.pure a0) fun z44 => M.bind (M.pure none) fun z45 => M.bind (M.bind (M.pure z1) intM) fun z46 => opCut z44 z45 z46) fun z65 => M.bind (M.bind (M.bind (M.bind (M.bind (M.pure (PyData.str "()")) fun z61 => M.bind (M.bind (M.pure (PyData.str ") (")) fun z59 => M.bind (M.bind (M.pure (PyData.str "(a)")) fun z57 => M.bind (M.bind (M.pure (PyData.str " a")) fun z55 => M.bind (M.bind (M.pure (PyData.str "a ")) fun z53 => M.bind (M.bind (M.pure (PyData.str ")")) fun z51 => M.bind (M.bind (M.pure (PyData.str "(")) fun z49 => M.bind (M.bind (M.pure (PyData.str "  ")) fun z47 => M.bind (M.pure []) fun z48 => M.pure (z47 :: z48)) fun z50 => M.pure (z49 :: z50)) fun z52 => M.pure (z51 :: z52)) fun z54 => M.pure (z53 :: z54)) fun z56 => M.pure (z55 :: z56)) fun z58 => M.pure (z57 :: z58)) fun z60 => M.pure (z59 :: z60)) fun z62 => M.pure (z61 :: z62)) fun z => M.pure (.list z)) fun z63 => M.bind (M.pure []) fun z64 => M.pure (z63 :: z64)) u__law_chosen) fun z66 => opAdd z65 z66) fun z70 => M.bind (M.bind (M.pure a0) fun z67 => M.bind (M.bind (M.pure z1) intM) fun z68 => M.bind (M.pure none) fun z69 => opCut z67 z68 z69) fun z71 => opAdd z70 z71) fun z72 => M.pure z72)))))
def u__law_bent : List D → M D := fun ds => match ds with | [a0] => m__law_bent a0 | _ => M.fail
def m_written (r : List D → M D) (a0 : D) : M D :=
  (M.bind (M.bind (M.bind (M.bind (M.bind (M.pure a0) itemsA) fun xs => M.nox (M.mapC (fun d1 => (M.bind (unp2 d1) fun p2 => (M.bind (M.bind (M.pure p2.1) fun z13 => M.bind (M.bind (M.bind (M.pure p2.2) fun z4 => M.bind (M.bind (M.pure []) fun z3 => M.pure (.tuple z3)) fun z5 => opNe z4 z5) fun z12 => M.ite z12 (M.bind (M.bind (M.pure (PyData.str "(")) fun z8 => M.bind (M.bind (M.bind (M.pure p2.2) fun z6 => M.bind (M.pure []) fun z7 => M.pure (z6 :: z7)) r) fun z9 => opAdd z8 z9) fun z10 => M.bind (M.pure (PyData.str ")")) fun z11 => opAdd z10 z11) (M.pure (PyData.str ""))) fun z14 => opAdd z13 z14) fun z15 => M.pure (some z15)))) xs)) fun z => M.pure (.list z)) fun z16 => joinM (.str " ") z16) fun z17 => M.pure z17)
def st_written (r : List D → M D) : List D → M D := fun ds => match ds with | [a0] => m_written r a0 | _ => M.fail
def u_written : Nat → List D → M D := recF st_written
def m__law_doc_text (r : List D → M D) (a0 : D) : M D :=
  (M.bind (M.pure []) fun z1 => (M.bind (M.bind (M.pure a0) itemsA) fun xs => M.bind (M.forS (fun s2 d3 => ((M.bind (unp2 d3) fun p4 => (M.bind (M.bind (M.pure p4.1) fun z16 => M.bind (M.bind (M.bind (M.pure p4.2) fun z7 => M.bind (M.bind (M.pure []) fun z6 => M.pure (.tuple z6)) fun z8 => opNe z7 z8) fun z15 => M.ite z15 (M.bind (M.bind (M.pure (PyData.str "(")) fun z11 => M.bind (M.bind (M.bind (M.pure p4.2) fun z9 => M.bind (M.pure []) fun z10 => M.pure (z9 :: z10)) r) fun z12 => opAdd z11 z12) fun z13 => M.bind (M.pure (PyData.str ")")) fun z14 => opAdd z13 z14) (M.pure (PyData.str ""))) fun z17 => opAdd z16 z17) fun z5 => M.guard (s2.length < sizeLine) (M.pure (s2 ++ [z5])))) : M (List D))) xs z1) fun s2 => (M.bind (M.bind (M.pure (.list s2)) fun z18 => joinM (.str " ") z18) fun z19 => M.pure z19)))
def st__law_doc_text (r : List D → M D) : List D → M D := fun ds => match ds with | [a0] => m__law_doc_text r a0 | _ => M.fail
def u__law_doc_text : Nat → List D → M D := recF st__law_doc_text
def m_content_in (r : List D → M D) (a0 : D) (a1 : D) : M D :=
  (M.bind (M.bind (M.pure []) fun z1 => M.pure (.tuple z1)) fun z2 => (M.seqR (M.while_ (fun s3 => (M.bind (M.pure (.bool true)) tru)) (fun s3 => ((M.bind (M.bind (M.bind (M.pure a0) fun z6 => M.bind (M.bind (M.pure s3.1) fun z4 => M.bind (M.pure []) fun z5 => M.pure (z4 :: z5)) fun z7 => M.pure (z6 :: z7)) u_label_end) fun z8 => (M.bind (M.bind (M.pure a0) fun z10 => M.bind (M.bind (M.pure s3.1) intM) fun z11 => M.bind (M.bind (M.pure z8) intM) fun z12 => opCut z10 z11 z12) fun z9 => M.bind (M.bind (M.pure []) fun z14 => M.pure (.tuple z14)) fun z13 => (M.bind (M.bind (M.bind (M.bind (M.bind (M.pure z9) fun z15 => M.bind (M.pure []) fun z16 => M.pure (z15 :: z16)) u_is_label) tru) fun z17 => M.pure (!z17)) fun b18 => M.ite b18 (M.raise ⟨"WrongText", none⟩) (M.bind (M.bind (M.bind (M.bind (M.pure a0) fun z21 => M.bind (M.bind (M.pure z8) intM) fun z22 => M.bind (M.bind (M.bind (M.pure z8) fun z19 => M.bind (M.pure (.int 1)) fun z20 => opAdd z19 z20) intM) fun z23 => opCut z21 z22 z23) fun z24 => M.bind (M.pure (PyData.str "(")) fun z25 => opEq z24 z25) fun b26 => M.ite b26 ((M.bind (M.bind (M.bind (M.pure a0) fun z32 => M.bind (M.bind (M.bind (M.pure z8) fun z28 => M.bind (M.pure (.int 1)) fun z29 => opAdd z28 z29) fun z30 => M.bind (M.pure []) fun z31 => M.pure (z30 :: z31)) fun z33 => M.pure (z32 :: z33)) r) fun z34 => (M.bind (unp2 z34) fun p35 => (M.bind (M.bind (M.bind (M.pure a0) fun z38 => M.bind (M.bind (M.pure p35.2) intM) fun z39 => M.bind (M.bind (M.bind (M.pure p35.2) fun z36 => M.bind (M.pure (.int 1)) fun z37 => opAdd z36 z37) intM) fun z40 => opCut z38 z39 z40) fun z41 => M.bind (M.pure (PyData.str ")")) fun z42 => opNe z41 z42) fun b43 => M.ite b43 (M.raise ⟨"WrongText", none⟩) (M.bind (M.bind (M.pure p35.2) fun z44 => M.bind (M.pure (.int 1)) fun z45 => opAdd z44 z45) fun z46 => (M.pure (z46, p35.1)))))) : M (D × D)) ((M.pure (z8, z13)) : M (D × D))) fun s27 => (M.bind (M.bind (M.pure s3.2) fun z55 => M.bind (M.bind (M.bind (M.bind (M.bind (M.pure z9) fun z49 => M.bind (M.bind (M.pure s27.2) fun z47 => M.bind (M.pure []) fun z48 => M.pure (z47 :: z48)) fun z50 => M.pure (z49 :: z50)) fun z51 => M.pure (.tuple z51)) fun z52 => M.bind (M.pure []) fun z53 => M.pure (z52 :: z53)) fun z54 => M.pure (.tuple z54)) fun z56 => opAdd z55 z56) fun z57 => (M.bind (M.bind (M.bind (M.pure a0) fun z60 => M.bind (M.bind (M.pure s27.1) intM) fun z61 => M.bind (M.bind (M.bind (M.pure s27.1) fun z58 => M.bind (M.pure (.int 1)) fun z59 => opAdd z58 z59) intM) fun z62 => opCut z60 z61 z62) fun z63 => M.bind (M.pure (PyData.str " ")) fun z64 => opNe z63 z64) fun b65 => M.ite b65 (M.bind (M.bind (M.bind (M.pure z57) fun z68 => M.bind (M.bind (M.pure s27.1) fun z66 => M.bind (M.pure []) fun z67 => M.pure (z66 :: z67)) fun z69 => M.pure (z68 :: z69)) fun z70 => M.pure (.tuple z70)) fun z71 => M.pure (Sum.inr z71)) (M.bind (M.bind (M.pure s27.1) fun z72 => M.bind (M.pure (.int 1)) fun z73 => opAdd z72 z73) fun z74 => (M.pure (Sum.inl (z74, z57)))))))))) : M ((D × D) ⊕ D))) (a1, z2)) (fun s3 => M.fail) (fun r => r)))
def st_content_in (r : List D → M D) : List D → M D := fun ds => match ds with | [a0, a1] => m_content_in r a0 a1 | _ => M.fail
def u_content_in : Nat → List D → M D := recF st_content_in
def m_document_text (a0 : D) : M D :=
  (M.bind ((M.bind (M.bind (M.pure a0) fun z1 => M.bind (M.pure []) fun z2 => M.pure (z1 :: z2)) u_need_document) : M D) fun _ => (M.bind (M.bind (M.bind (M.pure a0) fun z3 => M.bind (M.pure []) fun z4 => M.pure (z3 :: z4)) (u_written 40)) fun z5 => M.pure z5))
def u_document_text : List D → M D := fun ds => match ds with | [a0] => m_document_text a0 | _ => M.fail
def m__law_good_document (r : List D → M D) (a0 : D) : M D :=
  (M.bind (M.bind (M.bind (M.bind (M.pure a0) fun z1 => M.pure (.bool (isInst "tuple" z1))) tru) fun z2 => M.pure (!z2)) fun b3 => M.ite b3 (M.bind (M.pure (.bool false)) fun z4 => M.pure z4) (M.bind (M.bind (M.bind (M.pure a0) itemsA) fun xs => M.nox (M.mapC (fun d5 => (M.bind (M.bind (M.bind (M.bind (M.bind (M.bind (M.pure d5) fun z10 => M.bind (M.bind (M.pure (.int 2)) fun z8 => M.bind (M.bind (M.pure (.int 2)) fun z6 => M.bind (M.pure []) fun z7 => M.pure (z6 :: z7)) fun z9 => M.pure (z8 :: z9)) fun z11 => M.pure (z10 :: z11)) u__law_wide) tru) fun z12 => M.pure (!z12)) fun z18 => M.ite z18 (M.pure true) (M.bind (M.bind (M.bind (M.bind (M.bind (M.pure d5) fun z13 => M.bind (M.pure (.int 0)) fun z14 => opIx z13 z14) fun z15 => M.bind (M.pure []) fun z16 => M.pure (z15 :: z16)) u__law_is_label) tru) fun z17 => M.pure (!z17))) fun z19 => M.ite z19 (M.bind (M.pure d5) fun z20 => M.pure (some z20)) (M.pure none))) xs)) fun z21 => (M.bind (M.bind (M.bind (M.pure (.list z21)) fun z22 => M.bind (M.bind (M.pure []) fun z => M.pure (.list z)) fun z23 => M.bind (opEq z22 z23) fun z24 => M.pure (.bool z24)) fun z36 => M.bind (tru z36) fun z37 => M.ite z37 (M.bind (M.bind (M.bind (M.bind (M.pure a0) itemsA) fun xs => M.nox (M.mapC (fun d25 => (M.bind (M.bind (M.bind (M.bind (M.bind (M.bind (M.pure d25) fun z26 => M.bind (M.pure (.int 1)) fun z27 => opIx z26 z27) fun z28 => M.bind (M.pure []) fun z29 => M.pure (z28 :: z29)) r) tru) fun z30 => M.pure (!z30)) fun z31 => M.ite z31 (M.bind (M.pure d25) fun z32 => M.pure (some z32)) (M.pure none))) xs)) fun z => M.pure (.list z)) fun z33 => M.bind (M.bind (M.pure []) fun z => M.pure (.list z)) fun z34 => M.bind (opEq z33 z34) fun z35 => M.pure (.bool z35)) (M.pure (.bool false))) fun z38 => M.pure z38)))
def st__law_good_document (r : List D → M D) : List D → M D := fun ds => match ds with | [a0] => m__law_good_document r a0 | _ => M.fail
def u__law_good_document : Nat → List D → M D := recF st__law_good_document
def m_read_document (a0 : D) : M D :=
  (M.bind (M.bind (M.bind (M.bind (M.pure a0) fun z1 => M.pure (.bool (isInst "str" z1))) tru) fun z2 => M.pure (!z2)) fun b3 => M.ite b3 (M.raise ⟨"WrongText", none⟩) (M.bind (M.bind (M.pure a0) fun z4 => M.bind (M.pure (PyData.str "")) fun z5 => opEq z4 z5) fun b6 => M.ite b6 (M.bind (M.bind (M.pure []) fun z7 => M.pure (.tuple z7)) fun z8 => M.pure z8) (M.bind (M.bind (M.bind (M.pure a0) fun z11 => M.bind (M.bind (M.pure (.int 0)) fun z9 => M.bind (M.pure []) fun z10 => M.pure (z9 :: z10)) fun z12 => M.pure (z11 :: z12)) (u_content_in 40)) fun z13 => (M.bind (unp2 z13) fun p14 => (M.bind (M.bind (M.pure p14.2) fun z15 => M.bind (M.bind (M.pure a0) opLen) fun z16 => opNe z15 z16) fun b17 => M.ite b17 (M.raise ⟨"WrongText", none⟩) (M.bind (M.pure p14.1) fun z18 => M.pure z18))))))
def u_read_document : List D → M D := fun ds => match ds with | [a0] => m_read_document a0 | _ => M.fail
def m__law_document (r : List D → M D) (a0 : D) (a1 : D) : M D :=
  (M.bind (M.bind (M.pure []) fun z1 => M.pure (.tuple z1)) fun z2 => (M.bind (M.bind (M.bind (M.pure (.int 1)) fun z6 => M.bind (M.bind (M.bind (M.pure (.int 3)) fun z4 => M.bind (M.pure []) fun z5 => M.pure (z4 :: z5)) u__law_pick) fun z7 => opAdd z6 z7) rangeM) fun xs => M.bind (M.forS (fun s3 d8 => ((M.bind (M.bind anyI fun z9 => M.bind (M.pure (.int 0)) fun z10 => opGt z9 z10) fun b11 => M.ite b11 (M.bind (M.bind anyI fun z12 => M.bind (M.pure (.int 1)) fun z13 => opSub z12 z13) fun z14 => M.bind (srcSet 0 z14) fun _ => (M.bind (M.bind (M.pure []) fun z16 => M.pure (.tuple z16)) fun z15 => M.bind (M.bind (M.bind (M.bind (M.bind (M.pure a0) fun z20 => M.bind (M.bind (M.bind (M.pure (PyData.str "q")) fun z18 => M.bind (M.pure []) fun z19 => M.pure (z18 :: z19)) fun z => M.pure (.list z)) fun z21 => addL z20 z21) fun z => M.pure (.list z)) fun z22 => M.bind (M.pure []) fun z23 => M.pure (z22 :: z23)) u__law_chosen) fun z17 => (M.bind (M.bind (M.bind (M.bind (M.pure a1) fun z24 => M.bind (M.pure (.int 1)) fun z25 => opGt z24 z25) fun z30 => M.ite z30 (M.bind (M.bind (M.bind (M.pure (.int 3)) fun z26 => M.bind (M.pure []) fun z27 => M.pure (z26 :: z27)) u__law_pick) fun z28 => M.bind (M.pure (.int 0)) fun z29 => opGt z28 z29) (M.pure false)) fun b31 => M.ite b31 ((M.bind (M.bind (M.bind (M.pure a0) fun z37 => M.bind (M.bind (M.bind (M.pure a1) fun z33 => M.bind (M.pure (.int 1)) fun z34 => opSub z33 z34) fun z35 => M.bind (M.pure []) fun z36 => M.pure (z35 :: z36)) fun z38 => M.pure (z37 :: z38)) r) fun z39 => (M.pure z39)) : M (D)) ((M.pure z15) : M (D))) fun s32 => (M.bind (M.bind (M.pure s3) fun z48 => M.bind (M.bind (M.bind (M.bind (M.bind (M.pure z17) fun z42 => M.bind (M.bind (M.pure s32) fun z40 => M.bind (M.pure []) fun z41 => M.pure (z40 :: z41)) fun z43 => M.pure (z42 :: z43)) fun z44 => M.pure (.tuple z44)) fun z45 => M.bind (M.pure []) fun z46 => M.pure (z45 :: z46)) fun z47 => M.pure (.tuple z47)) fun z49 => opAdd z48 z49) fun z50 => (M.pure z50))))) (M.pure s3)) : M (D))) xs z2) fun s3 => (M.bind (M.pure s3) fun z51 => M.pure z51)))
def st__law_document (r : List D → M D) : List D → M D := fun ds => match ds with | [a0, a1] => m__law_document r a0 a1 | _ => M.fail
def u__law_document : Nat → List D → M D := recF st__law_document
def m__law_doc (a0 : D) (a1 : D) : M D :=
  (M.bind (M.bind (M.bind (M.pure a0) fun z8 => M.bind (M.bind (M.bind (M.bind (M.bind (M.pure a1) fun z3 => M.bind (M.pure (.int 1)) fun z4 => opAdd z3 z4) fun z5 => M.bind (M.pure []) fun z6 => M.pure (z5 :: z6)) u__law_pick) fun z7 => M.bind (isInt z7) fun _ => (M.bind (M.pure (.int 8)) fun z1 => M.bind (M.pure []) fun z2 => M.pure (z1 :: z2))) fun z9 => M.pure (z8 :: z9)) (u__law_document 40)) fun z10 => M.pure z10)
def u__law_doc : List D → M D := fun ds => match ds with | [a0, a1] => m__law_doc a0 a1 | _ => M.fail
def m__law_told (a0 : D) : M D :=
  (M.tryC ((M.bind (M.bind (M.bind (M.pure a0) fun z1 => M.bind (M.pure []) fun z2 => M.pure (z1 :: z2)) u_read_document) fun z3 => M.pure z3) : M D) (catch1 exTab "WrongText" ((M.bind (M.pure (PyData.str "wrong!")) fun z4 => M.pure z4) : M D) M.raise))
def u__law_told : List D → M D := fun ds => match ds with | [a0] => m__law_told a0 | _ => M.fail
def m_law (a0 : D) : M D :=
  (M.bind (M.bind (M.bind (M.pure (.int 6)) fun z4 => M.bind (M.bind (M.pure (.int 24)) fun z2 => M.bind (M.bind (M.pure a0) opLen) fun z3 => opMin z2 z3) fun z5 => opMax z4 z5) rangeM) fun xs => M.seqR (M.forR (fun s1 d6 => ((M.bind (M.bind (M.bind (M.pure a0) fun z9 => M.bind (M.bind (M.pure d6) fun z7 => M.bind (M.pure []) fun z8 => M.pure (z7 :: z8)) fun z10 => M.pure (z9 :: z10)) u__law_source) fun z11 => M.bind (srcM 2 z11) fun _ => (M.bind (M.bind (M.bind (M.bind (M.pure []) u__law_labels) fun z22 => M.bind (M.bind (M.bind (M.bind (M.bind (M.pure (.int 4)) fun z14 => M.bind (M.bind (M.pure (.int 20)) fun z12 => M.bind (M.pure []) fun z13 => M.pure (z12 :: z13)) fun z15 => M.pure (z14 :: z15)) fun z => M.pure (.list z)) fun z18 => M.bind (M.bind (M.bind (M.pure (.int 2)) fun z16 => M.bind (M.pure []) fun z17 => M.pure (z16 :: z17)) u__law_pick) fun z19 => opIx z18 z19) fun z20 => M.bind (M.pure []) fun z21 => M.pure (z20 :: z21)) fun z23 => M.pure (z22 :: z23)) u__law_doc) fun z24 => (M.bind (M.bind (M.bind (M.pure z24) fun z25 => M.bind (M.pure []) fun z26 => M.pure (z25 :: z26)) (u__law_doc_text 40)) fun z27 => (M.bind (M.bind (M.bind (M.bind (M.bind (M.pure z24) fun z28 => M.bind (M.pure []) fun z29 => M.pure (z28 :: z29)) u_document_text) fun z30 => M.bind (M.pure z27) fun z31 => opNe z30 z31) fun z36 => M.ite z36 (M.pure true) (M.bind (M.bind (M.bind (M.pure z27) fun z32 => M.bind (M.pure []) fun z33 => M.pure (z32 :: z33)) u__law_told) fun z34 => M.bind (M.pure z24) fun z35 => opNe z34 z35)) fun b37 => M.ite b37 (M.bind (M.pure (.bool false)) fun z38 => M.pure (Sum.inr z38)) (M.bind (M.bind (M.pure (PyData.str " ")) fun z59 => M.bind (M.bind (M.pure (PyData.str "a(")) fun z57 => M.bind (M.bind (M.pure (PyData.str "a()")) fun z55 => M.bind (M.bind (M.pure (PyData.str "a(b")) fun z53 => M.bind (M.bind (M.pure (PyData.str "a b)")) fun z51 => M.bind (M.bind (M.pure (PyData.str "(a)")) fun z49 => M.bind (M.bind (M.pure (PyData.str "a(b) (c)")) fun z47 => M.bind (M.bind (M.pure (PyData.str "a  b")) fun z45 => M.bind (M.bind (M.pure (PyData.str "A")) fun z43 => M.bind (M.bind (M.pure (PyData.str "a\nb")) fun z41 => M.bind (M.bind (M.pure (PyData.str "a(b)c")) fun z39 => M.bind (M.pure []) fun z40 => M.pure (z39 :: z40)) fun z42 => M.pure (z41 :: z42)) fun z44 => M.pure (z43 :: z44)) fun z46 => M.pure (z45 :: z46)) fun z48 => M.pure (z47 :: z48)) fun z50 => M.pure (z49 :: z50)) fun z52 => M.pure (z51 :: z52)) fun z54 => M.pure (z53 :: z54)) fun z56 => M.pure (z55 :: z56)) fun z58 => M.pure (z57 :: z58)) fun z60 => M.pure (z59 :: z60)) fun z61 => (M.bind (M.bind (M.pure (.int 14)) rangeM) fun xs => M.bind (M.forS (fun s62 d63 => ((M.bind (M.bind (M.bind (M.pure z27) fun z64 => M.bind (M.pure []) fun z65 => M.pure (z64 :: z65)) u__law_bent) fun z66 => (M.bind (M.bind (M.pure (.list s62)) fun z73 => M.bind (M.bind (M.bind (M.pure z66) fun z71 => M.bind (M.bind (M.bind (M.bind (M.pure z66) fun z67 => M.bind (M.pure []) fun z68 => M.pure (z67 :: z68)) u__law_bent) fun z69 => M.bind (M.pure []) fun z70 => M.pure (z69 :: z70)) fun z72 => M.pure (z71 :: z72)) fun z => M.pure (.list z)) fun z74 => addL z73 z74) fun z75 => (M.pure z75))) : M (List D))) xs z61) fun s62 => (M.bind (M.bind (M.pure (.list s62)) itemsA) fun xs => M.seqR (M.forR (fun s77 d78 => ((M.bind (M.bind (M.bind (M.pure d78) fun z79 => M.bind (M.pure []) fun z80 => M.pure (z79 :: z80)) u__law_told) fun z81 => (M.bind (M.bind (M.bind (M.pure z81) fun z82 => M.bind (M.pure (PyData.str "wrong!")) fun z83 => opNe z82 z83) fun z92 => M.ite z92 (M.bind (M.bind (M.bind (M.bind (M.bind (M.pure z81) fun z84 => M.bind (M.pure []) fun z85 => M.pure (z84 :: z85)) (u__law_good_document 40)) tru) fun z86 => M.pure (!z86)) fun z91 => M.ite z91 (M.pure true) (M.bind (M.bind (M.bind (M.pure z81) fun z87 => M.bind (M.pure []) fun z88 => M.pure (z87 :: z88)) (u__law_doc_text 40)) fun z89 => M.bind (M.pure d78) fun z90 => opNe z89 z90)) (M.pure false)) fun b93 => M.ite b93 (M.bind (M.pure (.bool false)) fun z94 => M.pure (Sum.inr z94)) (M.pure (Sum.inl (some d78))))) : M ((Option D) ⊕ D))) xs none) (fun s77 => (M.bind (M.bind (M.bind (M.bind (M.bind (M.bind (M.pure .none) fun z105 => M.bind (M.bind (M.pure (.int 5)) fun z103 => M.bind (M.bind (M.bind (M.bind (M.pure (PyData.str "a")) fun z98 => M.bind (M.pure []) fun z99 => M.pure (z98 :: z99)) fun z100 => M.pure (.tuple z100)) fun z101 => M.bind (M.bind (M.pure z24) fun z96 => M.bind (M.pure []) fun z97 => M.pure (z96 :: z97)) fun z102 => M.pure (z101 :: z102)) fun z104 => M.pure (z103 :: z104)) fun z106 => M.pure (z105 :: z106)) fun z => M.pure (.list z)) fun z111 => M.bind (M.bind (M.bind (M.pure (.list s62)) fun z107 => M.bind (M.pure none) fun z108 => M.bind (M.bind (M.pure (.int 11)) intM) fun z109 => M.bind (asList z107) fun z110 => M.pure (cut z110 z108 z109)) fun z => M.pure (.list z)) fun z112 => addL z111 z112) fun z => M.pure (.list z)) itemsA) fun xs => M.seqR (M.forR (fun s95 d113 => ((M.bind (M.bind (M.bind (M.bind (M.pure d113) fun z114 => M.bind (M.pure []) fun z115 => M.pure (z114 :: z115)) u__law_told) fun z116 => M.bind (M.pure (PyData.str "wrong!")) fun z117 => opNe z116 z117) fun b118 => M.ite b118 (M.bind (M.pure (.bool false)) fun z119 => M.pure (Sum.inr z119)) (M.pure (Sum.inl ()))) : M (Unit ⊕ D))) xs ()) (fun s95 => (M.pure (Sum.inl ()))) (fun r => (Sum.inr r)))) (fun r => (Sum.inr r))))))))) : M (Unit ⊕ D))) xs ()) (fun s1 => (M.bind (M.bind (M.bind (M.bind (M.bind (M.pure (PyData.str "a")) fun z163 => M.bind (M.bind (M.bind (M.bind (M.bind (M.bind (M.pure (PyData.str "b")) fun z155 => M.bind (M.bind (M.bind (M.bind (M.bind (M.bind (M.pure (PyData.str "c")) fun z147 => M.bind (M.bind (M.bind (M.pure []) fun z144 => M.pure (.tuple z144)) fun z145 => M.bind (M.pure []) fun z146 => M.pure (z145 :: z146)) fun z148 => M.pure (z147 :: z148)) fun z149 => M.pure (.tuple z149)) fun z150 => M.bind (M.bind (M.bind (M.bind (M.pure (PyData.str "d")) fun z139 => M.bind (M.bind (M.bind (M.pure []) fun z136 => M.pure (.tuple z136)) fun z137 => M.bind (M.pure []) fun z138 => M.pure (z137 :: z138)) fun z140 => M.pure (z139 :: z140)) fun z141 => M.pure (.tuple z141)) fun z142 => M.bind (M.pure []) fun z143 => M.pure (z142 :: z143)) fun z151 => M.pure (z150 :: z151)) fun z152 => M.pure (.tuple z152)) fun z153 => M.bind (M.pure []) fun z154 => M.pure (z153 :: z154)) fun z156 => M.pure (z155 :: z156)) fun z157 => M.pure (.tuple z157)) fun z158 => M.bind (M.bind (M.bind (M.bind (M.pure (PyData.str "e")) fun z131 => M.bind (M.bind (M.bind (M.pure []) fun z128 => M.pure (.tuple z128)) fun z129 => M.bind (M.pure []) fun z130 => M.pure (z129 :: z130)) fun z132 => M.pure (z131 :: z132)) fun z133 => M.pure (.tuple z133)) fun z134 => M.bind (M.pure []) fun z135 => M.pure (z134 :: z135)) fun z159 => M.pure (z158 :: z159)) fun z160 => M.pure (.tuple z160)) fun z161 => M.bind (M.pure []) fun z162 => M.pure (z161 :: z162)) fun z164 => M.pure (z163 :: z164)) fun z165 => M.pure (.tuple z165)) fun z166 => M.bind (M.bind (M.bind (M.bind (M.pure (PyData.str "f")) fun z123 => M.bind (M.bind (M.bind (M.pure []) fun z120 => M.pure (.tuple z120)) fun z121 => M.bind (M.pure []) fun z122 => M.pure (z121 :: z122)) fun z124 => M.pure (z123 :: z124)) fun z125 => M.pure (.tuple z125)) fun z126 => M.bind (M.pure []) fun z127 => M.pure (z126 :: z127)) fun z167 => M.pure (z166 :: z167)) fun z168 => M.pure (.tuple z168)) fun z169 => (M.bind (M.bind (M.bind (M.bind (M.bind (M.pure (PyData.str "")) fun z170 => M.bind (M.pure []) fun z171 => M.pure (z170 :: z171)) u__law_told) fun z173 => M.bind (M.bind (M.pure []) fun z172 => M.pure (.tuple z172)) fun z174 => M.bind (opEq z173 z174) fun z175 => M.pure (.bool z175)) fun z181 => M.bind (tru z181) fun z182 => M.ite z182 (M.bind (M.bind (M.bind (M.pure (PyData.str "a(b(c d) e) f")) fun z176 => M.bind (M.pure []) fun z177 => M.pure (z176 :: z177)) u__law_told) fun z178 => M.bind (M.pure z169) fun z179 => M.bind (opEq z178 z179) fun z180 => M.pure (.bool z180)) (M.pure (.bool false))) fun z183 => M.pure z183))) (fun r => r))
def u_law : List D → M D := fun ds => match ds with | [a0] => m_law a0 | _ => M.fail
structure Facts (K : PySem.W.Frag) (mg : Str → Option Value) (ca : String → Addr) : Prop where
  n_all : mg "all" = none
  n_int : mg "int" = none
  n_isinstance : mg "isinstance" = none
  n_len : mg "len" = none
  n_max : mg "max" = none
  n_min : mg "min" = none
  n_range : mg "range" = none
  n_str : mg "str" = none
  n_tuple : mg "tuple" = none
  c_LETTERS : GConst K mg "LETTERS" c_LETTERS
  c_MOST_SIGNS : GConst K mg "MOST_SIGNS" c_MOST_SIGNS
  x_ScriptError : ExcCls K mg ca "ScriptError"
  x_InvalidDocument : ExcCls K mg ca "InvalidDocument"
  x_WrongText : ExcCls K mg ca "WrongText"
  tab : ExTab K ca exTab
section
variable {P : Program} {w : World} {K : PySem.W.Frag} {mg : Str → Option Value} {base : Heap} {ca : String → Addr}
theorem sc_is_label : FnScope ["value", "sign"] ["value"] (defScope (top 7)) := ⟨rfl, rfl, rfl, by decide +kernel, rfl, by decide +kernel, by decide +kernel⟩
theorem ok_is_label (FB : Facts K mg ca) (h : HereF K mg "is_label" (top 7) ["value"]) : Has P w K mg base "is_label" 1 ["value"] (spD K ca [PK.d] u_is_label) := by
    have sc := sc_is_label
    refine h.has fun f fd F => fnD (ca := ca) (F := u_is_label) (k := 0) F sc rfl fun cdv A outer s H E S H0 hr tk hp ds hds => ?_
    match ds, hds with
    | [a0], _ =>
      show SimS _ _ _ _ (m_is_label a0) _
      delta m_is_label
      refine (S_ifT (SimW.t (W_or (T_not (T_val (E_isinst (T := "str") FB.n_isinstance FB.n_str (.inl rfl) boot_str (SimE.k (E_var 0))))) (W_or1 (T_not (T_chain c_le c_le (SimE.k E_int) (SimE.k (E_len FB.n_len (SimE.k (E_var 0)))) (SimE.k (E_glob FB.c_MOST_SIGNS))))))) (S_ret (r := fun d => d) E_bl) (S_ret (r := fun d => d) (E_all rfl FB.n_all (SimL.k (L_comp [("sign", 1)] rfl sc.nd (blkOk_by (show blkC ["value", "sign"] (defScope (top 7)) _ [("sign", 1)] = true by decide +kernel)) (I_all (E_var 0)) (fun d11 => .mk fun R s H1 C cl fp k => B_1 1 (k _ _ fun s H1 C cl fp => (C_0 (E_cmp (c_in hr) (SimE.k (E_var 1)) (SimE.k (E_glob FB.c_LETTERS))))) sc.nd (hw := .head _)))))))
theorem sc_is_wide : FnScope ["value", "low", "high"] ["value", "low", "high"] (defScope (top 8)) := ⟨rfl, rfl, rfl, by decide +kernel, rfl, by decide +kernel, by decide +kernel⟩
theorem ok_is_wide (FB : Facts K mg ca) (h : HereF K mg "is_wide" (top 8) ["value", "low", "high"]) : Has P w K mg base "is_wide" 1 ["value", "low", "high"] (spD K ca [PK.d, PK.d, PK.d] u_is_wide) := by
    have sc := sc_is_wide
    refine h.has fun f fd F => fnD (ca := ca) (F := u_is_wide) (k := 0) F sc rfl fun cdv A outer s H E S H0 hr tk hp ds hds => ?_
    match ds, hds with
    | [a0, a1, a2], _ =>
      show SimS _ _ _ _ (m_is_wide a0 a1 a2) _
      delta m_is_wide
      refine (S_ret (r := fun d => d) (E_and (E_isinst (T := "tuple") FB.n_isinstance FB.n_tuple (.inr (.inl rfl)) boot_tuple (SimE.k (E_var 0))) (E_one (E_chain c_le c_le (SimE.k (E_var 1)) (SimE.k (E_len FB.n_len (SimE.k (E_var 0)))) (SimE.k (E_var 2))))))
theorem sc_label_end : FnScope ["text", "at"] ["text", "at"] (defScope (top 13)) := ⟨rfl, rfl, rfl, by decide +kernel, rfl, by decide +kernel, by decide +kernel⟩
theorem ok_label_end (FB : Facts K mg ca) (h : HereF K mg "label_end" (top 13) ["text", "at"]) : Has P w K mg base "label_end" 1 ["text", "at"] (spD K ca [PK.d, PK.d] u_label_end) := by
    have sc := sc_label_end
    refine h.has fun f fd F => fnD (ca := ca) (F := u_label_end) (k := 0) F sc rfl fun cdv A outer s H E S H0 hr tk hp ds hds => ?_
    match ds, hds with
    | [a0, a1], _ =>
      show SimS _ _ _ _ (m_label_end a0 a1) _
      delta m_label_end
      refine (S_while (S := (D)) (fun s1 => [some (B.d a0), some (B.d s1)]) (Sub.same (Sub.same Sub.nil)) (fun s1 => (SimW.t (W_and (T_cmp c_lt (SimE.k (E_var 1)) (SimE.k (E_len FB.n_len (SimE.k (E_var 0))))) (W_and1 (T_cmp (c_notIn hr) (SimE.k (E_ix (SimE.k (E_var 0)) (E_var 1))) (SimE.k (E_str))))))) (fun s1 => (S_asg (E_bin b_add (E_var 1) E_int) (fun z11 => B_1 1 (SimS.x (S_nil (.inr rfl) (Sub.same (Sub.same Sub.nil)))) sc.nd ))) (fun s1 => (S_ret (r := fun d => d) (E_var 1))) hp)
theorem sc__law_source : FnScope ["script", "k", "number", "start"] ["script", "k"] (defScope (top 18)) := ⟨rfl, rfl, rfl, by decide +kernel, rfl, by decide +kernel, by decide +kernel⟩
theorem ok__law_source (FB : Facts K mg ca) (h : HereF K mg "_law_source" (top 18) ["script", "k"]) : Has P w K mg base "_law_source" 1 ["script", "k"] (spL K ca [PK.d, PK.d] u__law_source) := by
    have sc := sc__law_source
    refine h.has fun f fd F => fnL (ca := ca) (F := u__law_source) (k := 0) F sc rfl fun cdv A outer s H E S H0 hr tk hp ds hds => ?_
    match ds, hds with
    | [a0, a1], _ =>
      show SimS _ _ _ _ (m__law_source a0 a1) _
      delta m__law_source
      refine (S_asg E_int (fun z1 => B_1 2 (SimS.x (S_ifJ (S := (D)) (fun s5 => [some (B.d a0), some (B.d a1), some (B.d s5), none]) (T_cmp c_gt (SimE.k (E_len FB.n_len (SimE.k (E_var 0)))) (SimE.k (E_var 1))) (S_asg (E_intOf FB.n_int (E_ix (SimE.k (E_var 0)) (E_var 1))) (fun z8 => B_1 2 (SimS.x (S_nil (.inl rfl) (Sub.same (Sub.same (Sub.same (Sub.none Sub.nil)))))) sc.nd )) (S_nil (.inl rfl) (Sub.same (Sub.same (Sub.same (Sub.none Sub.nil))))) (fun s5 => (S_asg (E_bin b_mod (E_bin b_add (E_bin b_add (E_bin b_mul (E_var 2) E_int) (E_bin b_mul E_int (E_var 1))) E_int) E_int) (fun z19 => B_1 3 (SimS.x (S_asg (E_bin b_add (E_bin b_add (E_bin b_mod (E_bin b_mul (E_var 3) (E_var 3)) E_int) (E_bin b_mul E_int (E_var 1))) E_int) (fun z30 => B_1 3 (SimS.x (S_retL (r := fun d => d) (L_lst (n := 2) (A_d (E_if (T_cmp c_ge (SimE.k (E_var 2)) (SimE.k (E_bin b_pow E_int E_int))) (E_var 2) E_int) (A_d (E_var 3) A_nil))))) sc.nd ))) sc.nd ))))) sc.nd ))
theorem sc__law_pick : FnScope ["source", "many", "found"] ["source", "many"] (defScope (top 19)) := ⟨rfl, rfl, rfl, by decide +kernel, rfl, by decide +kernel, by decide +kernel⟩
theorem ok__law_pick (FB : Facts K mg ca) (h : HereF K mg "_law_pick" (top 19) ["source", "many"]) : Has P w K mg base "_law_pick" 1 ["source", "many"] (spD K ca [PK.src 2, PK.d] u__law_pick) := by
    have sc := sc__law_pick
    refine h.has fun f fd F => fnD (ca := ca) (F := u__law_pick) (k := 0) F sc rfl fun cdv A outer s H E S H0 hr tk hp ds hds => ?_
    match ds, hds with
    | [a0], _ =>
      show SimS _ _ _ _ (m__law_pick a0) _
      delta m__law_pick
      refine (S_ifT (T_cmp c_gt (SimE.k (E_src0 0)) (SimE.k E_int)) (S_asg (E_bin b_mod (E_intOf FB.n_int (E_src0 0)) (E_var 1)) (fun z6 => B_1 2 (SimS.x (S_srcSet 0 0 (E_bin b_fdiv (E_intOf FB.n_int (E_src0 0)) (E_var 1)) (S_ret (r := fun d => d) (E_var 2)) (hx := Sub.nil))) sc.nd )) (S_srcSet 0 1 (E_bin b_mod (E_intOf FB.n_int (E_bin b_add (E_bin b_mul (E_srcG 0 0) E_int) E_int)) E_int) (S_ret (r := fun d => d) (E_bin b_mod (E_bin b_fdiv (E_bin b_mod (E_intOf FB.n_int (E_bin b_mul (E_srcG 0 0) (E_srcG 0 0))) E_int) E_int) (E_var 1))) (hx := Sub.nil)))
theorem sc__law_wide : FnScope ["value", "low", "high"] ["value", "low", "high"] (defScope (top 21)) := ⟨rfl, rfl, rfl, by decide +kernel, rfl, by decide +kernel, by decide +kernel⟩
theorem ok__law_wide (FB : Facts K mg ca) (h : HereF K mg "_law_wide" (top 21) ["value", "low", "high"]) : Has P w K mg base "_law_wide" 1 ["value", "low", "high"] (spD K ca [PK.d, PK.d, PK.d] u__law_wide) := by
    have sc := sc__law_wide
    refine h.has fun f fd F => fnD (ca := ca) (F := u__law_wide) (k := 0) F sc rfl fun cdv A outer s H E S H0 hr tk hp ds hds => ?_
    match ds, hds with
    | [a0, a1, a2], _ =>
      show SimS _ _ _ _ (m__law_wide a0 a1 a2) _
      delta m__law_wide
      refine (S_ret (r := fun d => d) (E_and (E_isinst (T := "tuple") FB.n_isinstance FB.n_tuple (.inr (.inl rfl)) boot_tuple (SimE.k (E_var 0))) (E_one (E_chain c_le c_le (SimE.k (E_var 1)) (SimE.k (E_len FB.n_len (SimE.k (E_var 0)))) (SimE.k (E_var 2))))))
theorem sc__law_is_label : FnScope ["value", "sign"] ["value"] (defScope (top 22)) := ⟨rfl, rfl, rfl, by decide +kernel, rfl, by decide +kernel, by decide +kernel⟩
theorem ok__law_is_label (FB : Facts K mg ca) (h : HereF K mg "_law_is_label" (top 22) ["value"]) : Has P w K mg base "_law_is_label" 1 ["value"] (spD K ca [PK.d] u__law_is_label) := by
    have sc := sc__law_is_label
    refine h.has fun f fd F => fnD (ca := ca) (F := u__law_is_label) (k := 0) F sc rfl fun cdv A outer s H E S H0 hr tk hp ds hds => ?_
    match ds, hds with
    | [a0], _ =>
      show SimS _ _ _ _ (m__law_is_label a0) _
      delta m__law_is_label
      refine (S_ifT (SimW.t (W_or (T_not (T_val (E_isinst (T := "str") FB.n_isinstance FB.n_str (.inl rfl) boot_str (SimE.k (E_var 0))))) (W_or1 (T_not (T_chain c_le c_le (SimE.k E_int) (SimE.k (E_len FB.n_len (SimE.k (E_var 0)))) (SimE.k E_int)))))) (S_ret (r := fun d => d) E_bl) (S_ret (r := fun d => d) (E_cmp (c_eq hr) (SimL.k (L_compIf [("sign", 1)] rfl sc.nd (blkOk_by (show blkC ["value", "sign"] (defScope (top 22)) _ [("sign", 1)] = true by decide +kernel)) (I_all (E_var 0)) (fun d11 => .mk fun R s H1 C cl fp k => B_1 1 (k _ _ fun s H1 C cl fp => (C_1 (T_cmp (c_notIn hr) (SimE.k (E_var 1)) (SimE.k (E_str))) fun s H1 C cl fp => (E_var 1))) sc.nd (hw := .head _)))) (SimL.k (L_lst (n := 0) A_nil)))))
theorem sc_is_right_document : FnScope ["value", "waiting", "some", "node"] ["value"] (defScope (top 9)) := ⟨rfl, rfl, rfl, by decide +kernel, rfl, by decide +kernel, by decide +kernel⟩
theorem ok_is_right_document (FB : Facts K mg ca) (h : HereF K mg "is_right_document" (top 9) ["value"]) (g_is_wide : Has P w K mg base "is_wide" 1 ["value", "low", "high"] (spD K ca [PK.d, PK.d, PK.d] u_is_wide)) (g_is_label : Has P w K mg base "is_label" 1 ["value"] (spD K ca [PK.d] u_is_label)) : Has P w K mg base "is_right_document" 2 ["value"] (spD K ca [PK.d] u_is_right_document) := by
    have sc := sc_is_right_document
    refine h.has fun f fd F => fnD (ca := ca) (F := u_is_right_document) (k := 1) F sc rfl fun cdv A outer s H E S H0 hr tk hp ds hds => ?_
    match ds, hds with
    | [a0], _ =>
      show SimS _ _ _ _ (m_is_right_document a0) _
      delta m_is_right_document
      refine (S_setL 1 (L_lst (n := 1) (A_d (E_var 0) A_nil)) (fun z3 => (S_whileR (S := (List D)) (R := D) (fun s4 => [some (B.d a0), some (B.ml s4), none, none]) (fun r => r) (Sub.same (Sub.same (Sub.none (Sub.none Sub.nil)))) (fun s4 => (T_cmp (c_ne hr) (K_var 1) (SimL.k (L_lst (n := 0) A_nil)))) (fun s4 => (S_pop 1 (fun q7 => B_1 2 (SimS.x (S_ifT (T_not (T_val (E_isinst (T := "tuple") FB.n_isinstance FB.n_tuple (.inr (.inl rfl)) boot_tuple (SimE.k (E_var 2))))) (S_ret (r := fun d => (Sum.inr d)) E_bl) (S_forR (S := (List D)) (R := D) (fun s12 => [some (B.d a0), some (B.ml s12), some (B.d q7.1), none]) (fun r => (Sum.inr r)) (I_all (E_var 2)) (Sub.same (Sub.same (Sub.same (Sub.none Sub.nil)))) (fun s12 d13 => B_1 3 (SimS.x (S_ifT (SimW.t (W_or (T_not (T_val (E_call g_is_wide hr (by omega) tk (A_d (E_var 3) (A_d E_int (A_d E_int A_nil)))))) (W_or1 (T_not (T_val (E_call g_is_label hr (by omega) tk (A_d (E_ix (SimE.k (E_var 3)) E_int) A_nil))))))) (S_ret (r := fun d => (Sum.inr d)) E_bl) (S_append 1 (E_ix (SimE.k (E_var 3)) E_int) (fun z29 => (S_nil (.inr rfl) (Sub.same (Sub.same (Sub.same (Sub.none Sub.nil))))))))) sc.nd ) (fun r => Or.inl ⟨r, rfl⟩) (fun s12 => (S_nil (.inr rfl) (Sub.same (Sub.same (Sub.none (Sub.none Sub.nil)))))) hp rfl))) sc.nd ))) (fun r => Or.inl ⟨r, rfl⟩) (fun s4 => (S_ret (r := fun d => d) E_bl)) hp)) sc.nd)
theorem sc__law_chosen : FnScope ["source", "things"] ["source", "things"] (defScope (top 20)) := ⟨rfl, rfl, rfl, by decide +kernel, rfl, by decide +kernel, by decide +kernel⟩
theorem ok__law_chosen (FB : Facts K mg ca) (h : HereF K mg "_law_chosen" (top 20) ["source", "things"]) (g__law_pick : Has P w K mg base "_law_pick" 1 ["source", "many"] (spD K ca [PK.src 2, PK.d] u__law_pick)) : Has P w K mg base "_law_chosen" 2 ["source", "things"] (spD K ca [PK.src 2, PK.d] u__law_chosen) := by
    have sc := sc__law_chosen
    refine h.has fun f fd F => fnD (ca := ca) (F := u__law_chosen) (k := 1) F sc rfl fun cdv A outer s H E S H0 hr tk hp ds hds => ?_
    match ds, hds with
    | [a0], _ =>
      show SimS _ _ _ _ (m__law_chosen a0) _
      delta m__law_chosen
      refine (S_ret (r := fun d => d) (E_ix (SimE.k (E_var 1)) (E_call g__law_pick hr (by omega) tk (A_src 0 (A_d (E_len FB.n_len (SimE.k (E_var 1))) A_nil)))))
theorem sc_need_document : FnScope ["value"] ["value"] (defScope (top 10)) := ⟨rfl, rfl, rfl, by decide +kernel, rfl, by decide +kernel, by decide +kernel⟩
theorem ok_need_document (FB : Facts K mg ca) (h : HereF K mg "need_document" (top 10) ["value"]) (g_is_right_document : Has P w K mg base "is_right_document" 2 ["value"] (spD K ca [PK.d] u_is_right_document)) : Has P w K mg base "need_document" 3 ["value"] (spD K ca [PK.d] u_need_document) := by
    have sc := sc_need_document
    refine h.has fun f fd F => fnU (ca := ca) (F := u_need_document) (G := v_need_document) (k := 2) rfl F sc rfl fun cdv A outer s H E S H0 hr tk hp ds hds => ?_
    match ds, hds with
    | [a0], _ =>
      show SimS _ _ _ _ (m_need_document a0) _
      delta m_need_document
      refine (S_if (T_not (T_val (E_call g_is_right_document hr (by omega) tk (A_d (E_var 0) A_nil)))) (S_raise "InvalidDocument" rfl FB.x_InvalidDocument rfl tk) (S_nil (.inl rfl) Sub.nil))
theorem sc__law_labels : FnScope ["source"] ["source"] (defScope (top 24)) := ⟨rfl, rfl, rfl, by decide +kernel, rfl, by decide +kernel, by decide +kernel⟩
theorem ok__law_labels (FB : Facts K mg ca) (h : HereF K mg "_law_labels" (top 24) ["source"]) (g__law_chosen : Has P w K mg base "_law_chosen" 2 ["source", "things"] (spD K ca [PK.src 2, PK.d] u__law_chosen)) : Has P w K mg base "_law_labels" 3 ["source"] (spD K ca [PK.src 2] u__law_labels) := by
    have sc := sc__law_labels
    refine h.has fun f fd F => fnD (ca := ca) (F := u__law_labels) (k := 2) F sc rfl fun cdv A outer s H E S H0 hr tk hp ds hds => ?_
    match ds, hds with
    | [], _ =>
      show SimS _ _ _ _ (m__law_labels) _
      delta m__law_labels
      refine (S_ret (r := fun d => d) (E_call g__law_chosen hr (by omega) tk (A_src 0 (A_d (SimL.fz (L_lst (n := 5) (A_d (SimL.fz (L_lst (n := 1) (A_d (E_str) A_nil))) (A_d (SimL.fz (L_lst (n := 2) (A_d (E_str) (A_d (E_str) A_nil)))) (A_d (SimL.fz (L_lst (n := 2) (A_d (E_str) (A_d (E_str) A_nil)))) (A_d (SimL.fz (L_lst (n := 3) (A_d (E_str) (A_d (E_str) (A_d (E_str) A_nil))))) (A_d (SimL.fz (L_lst (n := 2) (A_d (E_str) (A_d (E_str) A_nil)))) A_nil))))))) A_nil))))
theorem sc__law_bent : FnScope ["source", "text", "at", "signs", "kind"] ["source", "text"] (defScope (top 29)) := ⟨rfl, rfl, rfl, by decide +kernel, rfl, by decide +kernel, by decide +kernel⟩
theorem ok__law_bent (FB : Facts K mg ca) (h : HereF K mg "_law_bent" (top 29) ["source", "text"]) (g__law_pick : Has P w K mg base "_law_pick" 1 ["source", "many"] (spD K ca [PK.src 2, PK.d] u__law_pick)) (g__law_chosen : Has P w K mg base "_law_chosen" 2 ["source", "things"] (spD K ca [PK.src 2, PK.d] u__law_chosen)) : Has P w K mg base "_law_bent" 3 ["source", "text"] (spD K ca [PK.src 2, PK.d] u__law_bent) := by
    have sc := sc__law_bent
    refine h.has fun f fd F => fnD (ca := ca) (F := u__law_bent) (k := 2) F sc rfl fun cdv A outer s H E S H0 hr tk hp ds hds => ?_
    match ds, hds with
    | [a0], _ =>
      show SimS _ _ _ _ (m__law_bent a0) _
      delta m__law_bent
      refine (S_par 2 3 (SimE.g (E_call g__law_pick hr (by omega) tk (A_src 0 (A_d (E_bin b_add (E_len FB.n_len (SimE.k (E_var 1))) E_int) A_nil)))) (SimE.g (E_str)) (fun z1 z6 => (S_asg (E_call g__law_pick hr (by omega) tk (A_src 0 (A_d E_int A_nil))) (fun z9 => B_1 4 (SimS.x (S_ifT (T_cmp c_lt (SimE.k (E_var 4)) (SimE.k E_int)) (S_ret (r := fun d => d) (E_bin b_add (E_bin b_add (E_sl (E_var 1) O_none (O_some (E_var 2))) (E_ix (SimE.k (E_var 3)) (E_call g__law_pick hr (by omega) tk (A_src 0 (A_d (E_len FB.n_len (SimE.k (E_var 3))) A_nil))))) (E_sl (E_var 1) (O_some (E_bin b_add (E_var 2) (E_var 4))) O_none))) (S_ifT (T_cmp (c_eq hr) (SimE.k (E_var 4)) (SimE.k E_int)) (S_ret (r := fun d => d) (E_bin b_add (E_sl (E_var 1) O_none (O_some (E_var 2))) (E_sl (E_var 1) (O_some (E_bin b_add (E_var 2) E_int)) O_none))) (S_ret (r := fun d => d) (E_bin b_add (E_bin b_add (E_sl (E_var 1) O_none (O_some (E_var 2))) (E_call g__law_chosen hr (by omega) tk (A_src 0 (A_d (SimL.fz (L_lst (n := 8) (A_d (E_str) (A_d (E_str) (A_d (E_str) (A_d (E_str) (A_d (E_str) (A_d (E_str) (A_d (E_str) (A_d (E_str) A_nil)))))))))) A_nil)))) (E_sl (E_var 1) (O_some (E_var 2)) O_none)))))) sc.nd ))) sc.nd rfl)
theorem sc_written : FnScope ["document", "mark", "content"] ["document"] (defScope (top 12)) := ⟨rfl, rfl, rfl, by decide +kernel, rfl, by decide +kernel, by decide +kernel⟩
theorem ok_written (FB : Facts K mg ca) (h : HereF K mg "written" (top 12) ["document"]) : ∀ n, Has P w K mg base "written" (0 + n) ["document"] (spD K ca [PK.d] (u_written n))
  | 0 => h.has fun f fd F => none_D fun ds QD QE hm => hm
  | n + 1 => by
    have ih := ok_written FB h n
    have sc := sc_written
    refine h.has fun f fd F => fnD (ca := ca) (F := u_written (n + 1)) (k := 0 + n) F sc rfl fun cdv A outer s H E S H0 hr tk hp ds hds => ?_
    match ds, hds with
    | [a0], _ =>
      show SimS _ _ _ _ (m_written (u_written n) a0) _
      delta m_written
      refine (S_ret (r := fun d => d) (E_join (SimL.k (L_comp [("mark", 1), ("content", 2)] rfl sc.nd (blkOk_by (show blkC ["document", "mark", "content"] (defScope (top 12)) _ [("mark", 1), ("content", 2)] = true by decide +kernel)) (I_all (E_var 0)) (fun d1 => .mk fun R s H1 C cl fp k => B_2 rfl fun p2 => Bs_cons fun R0 k0 => B_1 1 (k0 _ _ (Bs_cons fun R1 k1 => B_1 2 (k1 _ _ (Bs_nil (k _ _ fun s H1 C cl fp => (C_0 (E_bin b_add (E_var 1) (E_if (T_cmp (c_ne hr) (SimE.k (E_var 2)) (SimE.k (E_tup (n := 0) A_nil))) (E_bin b_add (E_bin b_add (E_str) (E_call ih hr (Nat.le_refl _) takes0 (A_d (E_var 2) A_nil))) (E_str)) (E_str))))))) sc.nd (hw := .tail _ (.head _)))) sc.nd (hw := .head _))))))
theorem sc__law_doc_text : FnScope ["document", "nodes", "mark", "content"] ["document"] (defScope (top 27)) := ⟨rfl, rfl, rfl, by decide +kernel, rfl, by decide +kernel, by decide +kernel⟩
theorem ok__law_doc_text (FB : Facts K mg ca) (h : HereF K mg "_law_doc_text" (top 27) ["document"]) : ∀ n, Has P w K mg base "_law_doc_text" (0 + n) ["document"] (spD K ca [PK.d] (u__law_doc_text n))
  | 0 => h.has fun f fd F => none_D fun ds QD QE hm => hm
  | n + 1 => by
    have ih := ok__law_doc_text FB h n
    have sc := sc__law_doc_text
    refine h.has fun f fd F => fnD (ca := ca) (F := u__law_doc_text (n + 1)) (k := 0 + n) F sc rfl fun cdv A outer s H E S H0 hr tk hp ds hds => ?_
    match ds, hds with
    | [a0], _ =>
      show SimS _ _ _ _ (m__law_doc_text (u__law_doc_text n) a0) _
      delta m__law_doc_text
      refine (S_setL 1 (L_lst (n := 0) A_nil) (fun z1 => (S_for (S := (List D)) (fun s2 => [some (B.d a0), some (B.ml s2), none, none]) (I_all (E_var 0)) (Sub.same (Sub.same (Sub.none (Sub.none Sub.nil)))) (fun s2 d3 => B_2 rfl fun p4 => Bs_cons fun R0 k0 => B_1 2 (k0 _ _ (Bs_cons fun R1 k1 => B_1 3 (k1 _ _ (Bs_nil (SimS.x (S_append 1 (E_bin b_add (E_var 2) (E_if (T_cmp (c_ne hr) (SimE.k (E_var 3)) (SimE.k (E_tup (n := 0) A_nil))) (E_bin b_add (E_bin b_add (E_str) (E_call ih hr (Nat.le_refl _) tk (A_d (E_var 3) A_nil))) (E_str)) (E_str))) (fun z5 => (S_nil (.inr rfl) (Sub.same (Sub.same (Sub.none (Sub.none Sub.nil)))))))))) sc.nd )) sc.nd ) (fun s2 => (S_ret (r := fun d => d) (E_join (K_var 1)))) hp rfl)) sc.nd)
theorem sc_content_in : FnScope ["text", "at", "found", "end", "mark", "content"] ["text", "at"] (defScope (top 14)) := ⟨rfl, rfl, rfl, by decide +kernel, rfl, by decide +kernel, by decide +kernel⟩
theorem ok_content_in (FB : Facts K mg ca) (h : HereF K mg "content_in" (top 14) ["text", "at"]) (g_label_end : Has P w K mg base "label_end" 1 ["text", "at"] (spD K ca [PK.d, PK.d] u_label_end)) (g_is_label : Has P w K mg base "is_label" 1 ["value"] (spD K ca [PK.d] u_is_label)) : ∀ n, Has P w K mg base "content_in" (1 + n) ["text", "at"] (spD K ca [PK.d, PK.d] (u_content_in n))
  | 0 => h.has fun f fd F => none_D fun ds QD QE hm => hm
  | n + 1 => by
    have ih := ok_content_in FB h g_label_end g_is_label n
    have sc := sc_content_in
    refine h.has fun f fd F => fnD (ca := ca) (F := u_content_in (n + 1)) (k := 1 + n) F sc rfl fun cdv A outer s H E S H0 hr tk hp ds hds => ?_
    match ds, hds with
    | [a0, a1], _ =>
      show SimS _ _ _ _ (m_content_in (u_content_in n) a0 a1) _
      delta m_content_in
      refine (S_asg (E_tup (n := 0) A_nil) (fun z2 => B_1 2 (SimS.x (S_whileR (S := (D × D)) (R := D) (fun s3 => [some (B.d a0), some (B.d s3.1), some (B.d s3.2), none, none, none]) (fun r => r) (Sub.same (Sub.same (Sub.same (Sub.none (Sub.none (Sub.none Sub.nil)))))) (fun s3 => (T_val E_bl)) (fun s3 => (S_asg (E_call g_label_end hr (by omega) tk (A_d (E_var 0) (A_d (E_var 1) A_nil))) (fun z8 => B_1 3 (SimS.x (S_par 4 5 (SimE.g (E_sl (E_var 0) (O_some (E_var 1)) (O_some (E_var 3)))) (SimE.g (E_tup (n := 0) A_nil)) (fun z9 z13 => (S_ifT (T_not (T_val (E_call g_is_label hr (by omega) tk (A_d (E_var 4) A_nil)))) (S_raise "WrongText" rfl FB.x_WrongText rfl tk) (S_ifJ (S := (D × D)) (fun s27 => [some (B.d a0), some (B.d s3.1), some (B.d s3.2), some (B.d s27.1), some (B.d z9), some (B.d s27.2)]) (T_cmp (c_eq hr) (SimE.k (E_sl (E_var 0) (O_some (E_var 3)) (O_some (E_bin b_add (E_var 3) E_int)))) (SimE.k (E_str))) (S_asg (E_call ih hr (Nat.le_refl _) tk (A_d (E_var 0) (A_d (E_bin b_add (E_var 3) E_int) A_nil))) (fun z34 => B_2 rfl fun p35 => Bs_cons fun R0 k0 => B_1 5 (k0 _ _ (Bs_cons fun R1 k1 => B_1 3 (k1 _ _ (Bs_nil (SimS.x (S_ifT (T_cmp (c_ne hr) (SimE.k (E_sl (E_var 0) (O_some (E_var 3)) (O_some (E_bin b_add (E_var 3) E_int)))) (SimE.k (E_str))) (S_raise "WrongText" rfl FB.x_WrongText rfl tk) (S_asg (E_bin b_add (E_var 3) E_int) (fun z46 => B_1 3 (SimS.x (S_nil (.inl rfl) (Sub.same (Sub.same (Sub.same (Sub.same (Sub.same (Sub.same Sub.nil)))))))) sc.nd )))))) sc.nd )) sc.nd )) (S_nil (.inl rfl) (Sub.same (Sub.same (Sub.same (Sub.same (Sub.same (Sub.same Sub.nil))))))) (fun s27 => (S_asg (E_bin b_add (E_var 2) (E_tup (n := 1) (A_d (E_tup (n := 2) (A_d (E_var 4) (A_d (E_var 5) A_nil))) A_nil))) (fun z57 => B_1 2 (SimS.x (S_ifT (T_cmp (c_ne hr) (SimE.k (E_sl (E_var 0) (O_some (E_var 3)) (O_some (E_bin b_add (E_var 3) E_int)))) (SimE.k (E_str))) (S_ret (r := fun d => (Sum.inr d)) (E_tup (n := 2) (A_d (E_var 2) (A_d (E_var 3) A_nil)))) (S_asg (E_bin b_add (E_var 3) E_int) (fun z74 => B_1 1 (SimS.x (S_nil (.inr rfl) (Sub.same (Sub.same (Sub.same (Sub.none (Sub.none (Sub.none Sub.nil)))))))) sc.nd )))) sc.nd )))))) sc.nd rfl)) sc.nd ))) (fun r => Or.inl ⟨r, rfl⟩) (fun s3 => S_dead) hp)) sc.nd ))
theorem sc_document_text : FnScope ["document"] ["document"] (defScope (top 15)) := ⟨rfl, rfl, rfl, by decide +kernel, rfl, by decide +kernel, by decide +kernel⟩
theorem ok_document_text (FB : Facts K mg ca) (h : HereF K mg "document_text" (top 15) ["document"]) (g_need_document : Has P w K mg base "need_document" 3 ["value"] (spD K ca [PK.d] u_need_document)) (g_written : ∀ n, Has P w K mg base "written" (0 + n) ["document"] (spD K ca [PK.d] (u_written n))) : Has P w K mg base "document_text" 41 ["document"] (spD K ca [PK.d] u_document_text) := by
    have sc := sc_document_text
    refine h.has fun f fd F => fnD (ca := ca) (F := u_document_text) (k := 40) F sc rfl fun cdv A outer s H E S H0 hr tk hp ds hds => ?_
    match ds, hds with
    | [a0], _ =>
      show SimS _ _ _ _ (m_document_text a0) _
      delta m_document_text
      refine (S_expr (E_call g_need_document hr (by omega) tk (A_d (E_var 0) A_nil)) (S_ret (r := fun d => d) (E_call (g_written _) hr (by omega) tk (A_d (E_var 0) A_nil))))
theorem sc__law_good_document : FnScope ["value", "bad", "one"] ["value"] (defScope (top 23)) := ⟨rfl, rfl, rfl, by decide +kernel, rfl, by decide +kernel, by decide +kernel⟩
theorem ok__law_good_document (FB : Facts K mg ca) (h : HereF K mg "_law_good_document" (top 23) ["value"]) (g__law_wide : Has P w K mg base "_law_wide" 1 ["value", "low", "high"] (spD K ca [PK.d, PK.d, PK.d] u__law_wide)) (g__law_is_label : Has P w K mg base "_law_is_label" 1 ["value"] (spD K ca [PK.d] u__law_is_label)) : ∀ n, Has P w K mg base "_law_good_document" (1 + n) ["value"] (spD K ca [PK.d] (u__law_good_document n))
  | 0 => h.has fun f fd F => none_D fun ds QD QE hm => hm
  | n + 1 => by
    have ih := ok__law_good_document FB h g__law_wide g__law_is_label n
    have sc := sc__law_good_document
    refine h.has fun f fd F => fnD (ca := ca) (F := u__law_good_document (n + 1)) (k := 1 + n) F sc rfl fun cdv A outer s H E S H0 hr tk hp ds hds => ?_
    match ds, hds with
    | [a0], _ =>
      show SimS _ _ _ _ (m__law_good_document (u__law_good_document n) a0) _
      delta m__law_good_document
      refine (S_ifT (T_not (T_val (E_isinst (T := "tuple") FB.n_isinstance FB.n_tuple (.inr (.inl rfl)) boot_tuple (SimE.k (E_var 0))))) (S_ret (r := fun d => d) E_bl) (S_compIf [("one", 2)] 1 rfl sc.nd (blkOk_by (show blkC ["value", "bad", "one"] (defScope (top 23)) _ [("one", 2)] = true by decide +kernel)) (I_all (E_var 0)) (fun d5 => .mk fun R s H1 C cl fp k => B_1 2 (k _ _ fun s H1 C cl fp => (C_1 (SimW.t (W_or (T_not (T_val (E_call g__law_wide hr (by omega) takes0 (A_d (E_var 2) (A_d E_int (A_d E_int A_nil)))))) (W_or1 (T_not (T_val (E_call g__law_is_label hr (by omega) takes0 (A_d (E_ix (SimE.k (E_var 2)) E_int) A_nil))))))) fun s H1 C cl fp => (E_var 2))) sc.nd (hw := .head _)) (fun z21 => (S_ret (r := fun d => d) (E_and (E_cmp (c_eq hr) (K_var 1) (SimL.k (L_lst (n := 0) A_nil))) (E_one (E_cmp (c_eq hr) (SimL.k (L_compIf [("one", 2)] rfl sc.nd (blkOk_by (show blkC ["value", "bad", "one"] (defScope (top 23)) _ [("one", 2)] = true by decide +kernel)) (I_all (E_var 0)) (fun d25 => .mk fun R s H1 C cl fp k => B_1 2 (k _ _ fun s H1 C cl fp => (C_1 (T_not (T_val (E_call ih hr (Nat.le_refl _) takes0 (A_d (E_ix (SimE.k (E_var 2)) E_int) A_nil)))) fun s H1 C cl fp => (E_var 2))) sc.nd (hw := .head _)))) (SimL.k (L_lst (n := 0) A_nil)))))))))
theorem sc_read_document : FnScope ["value", "found", "end"] ["value"] (defScope (top 16)) := ⟨rfl, rfl, rfl, by decide +kernel, rfl, by decide +kernel, by decide +kernel⟩
theorem ok_read_document (FB : Facts K mg ca) (h : HereF K mg "read_document" (top 16) ["value"]) (g_content_in : ∀ n, Has P w K mg base "content_in" (1 + n) ["text", "at"] (spD K ca [PK.d, PK.d] (u_content_in n))) : Has P w K mg base "read_document" 42 ["value"] (spD K ca [PK.d] u_read_document) := by
    have sc := sc_read_document
    refine h.has fun f fd F => fnD (ca := ca) (F := u_read_document) (k := 41) F sc rfl fun cdv A outer s H E S H0 hr tk hp ds hds => ?_
    match ds, hds with
    | [a0], _ =>
      show SimS _ _ _ _ (m_read_document a0) _
      delta m_read_document
      refine (S_ifT (T_not (T_val (E_isinst (T := "str") FB.n_isinstance FB.n_str (.inl rfl) boot_str (SimE.k (E_var 0))))) (S_raise "WrongText" rfl FB.x_WrongText rfl tk) (S_ifT (T_cmp (c_eq hr) (SimE.k (E_var 0)) (SimE.k (E_str))) (S_ret (r := fun d => d) (E_tup (n := 0) A_nil)) (S_asg (E_call (g_content_in _) hr (by omega) tk (A_d (E_var 0) (A_d E_int A_nil))) (fun z13 => B_2 rfl fun p14 => Bs_cons fun R0 k0 => B_1 1 (k0 _ _ (Bs_cons fun R1 k1 => B_1 2 (k1 _ _ (Bs_nil (SimS.x (S_ifT (T_cmp (c_ne hr) (SimE.k (E_var 2)) (SimE.k (E_len FB.n_len (SimE.k (E_var 0))))) (S_raise "WrongText" rfl FB.x_WrongText rfl tk) (S_ret (r := fun d => d) (E_var 1)))))) sc.nd )) sc.nd ))))
theorem sc__law_document : FnScope ["source", "labels", "left", "deep", "found", "turn", "inner", "mark"] ["source", "labels", "left", "deep"] (defScope (top 25)) := ⟨rfl, rfl, rfl, by decide +kernel, rfl, by decide +kernel, by decide +kernel⟩
theorem ok__law_document (FB : Facts K mg ca) (h : HereF K mg "_law_document" (top 25) ["source", "labels", "left", "deep"]) (g__law_pick : Has P w K mg base "_law_pick" 1 ["source", "many"] (spD K ca [PK.src 2, PK.d] u__law_pick)) (g__law_chosen : Has P w K mg base "_law_chosen" 2 ["source", "things"] (spD K ca [PK.src 2, PK.d] u__law_chosen)) : ∀ n, Has P w K mg base "_law_document" (2 + n) ["source", "labels", "left", "deep"] (spD K ca [PK.src 2, PK.d, PK.src 1, PK.d] (u__law_document n))
  | 0 => h.has fun f fd F => none_D fun ds QD QE hm => hm
  | n + 1 => by
    have ih := ok__law_document FB h g__law_pick g__law_chosen n
    have sc := sc__law_document
    refine h.has fun f fd F => fnD (ca := ca) (F := u__law_document (n + 1)) (k := 2 + n) F sc rfl fun cdv A outer s H E S H0 hr tk hp ds hds => ?_
    match ds, hds with
    | [a0, a1], _ =>
      show SimS _ _ _ _ (m__law_document (u__law_document n) a0 a1) _
      delta m__law_document
      refine (S_asg (E_tup (n := 0) A_nil) (fun z2 => B_1 4 (SimS.x (S_for (S := (D)) (fun s3 => [some (B.src 2), some (B.d a0), some (B.src 1), some (B.d a1), some (B.d s3), none, none, none]) (I_range FB.n_range (E_bin b_add E_int (E_call g__law_pick hr (by omega) tk (A_src 0 (A_d E_int A_nil))))) (Sub.same (Sub.same (Sub.same (Sub.same (Sub.same (Sub.none (Sub.none (Sub.none Sub.nil)))))))) (fun s3 d8 => B_1 5 (SimS.x (S_if (T_cmp c_gt (SimE.k (E_src0 2)) (SimE.k E_int)) (S_srcSet 2 0 (E_bin b_sub (E_src0 2) E_int) (S_par 6 7 (SimE.g (E_tup (n := 0) A_nil)) (SimE.g (E_call g__law_chosen hr (by omega) tk (A_src 0 (A_d (SimL.fz (L_add (SimE.k (E_var 1)) (SimL.k (L_lst (n := 1) (A_d (E_str) A_nil))))) A_nil)))) (fun z15 z17 => (S_ifJ (S := (D)) (fun s32 => [some (B.src 2), some (B.d a0), some (B.src 1), some (B.d a1), some (B.d s3), some (B.d d8), some (B.d s32), some (B.d z17)]) (SimW.t (W_and (T_cmp c_gt (SimE.k (E_var 3)) (SimE.k E_int)) (W_and1 (T_cmp c_gt (SimE.k (E_call g__law_pick hr (by omega) tk (A_src 0 (A_d E_int A_nil)))) (SimE.k E_int))))) (S_asg (E_call ih hr (Nat.le_refl _) tk (A_src 0 (A_d (E_var 1) (A_src 2 (A_d (E_bin b_sub (E_var 3) E_int) A_nil))))) (fun z39 => B_1 6 (SimS.x (S_nil (.inl rfl) (Sub.same (Sub.same (Sub.same (Sub.same (Sub.same (Sub.same (Sub.same (Sub.same Sub.nil)))))))))) sc.nd )) (S_nil (.inl rfl) (Sub.same (Sub.same (Sub.same (Sub.same (Sub.same (Sub.same (Sub.same (Sub.same Sub.nil))))))))) (fun s32 => (S_asg (E_bin b_add (E_var 4) (E_tup (n := 1) (A_d (E_tup (n := 2) (A_d (E_var 7) (A_d (E_var 6) A_nil))) A_nil))) (fun z50 => B_1 4 (SimS.x (S_nil (.inr rfl) (Sub.same (Sub.same (Sub.same (Sub.same (Sub.same (Sub.none (Sub.none (Sub.none Sub.nil)))))))))) sc.nd ))))) sc.nd rfl) (hx := Sub.nil)) (S_nil (.inr rfl) (Sub.same (Sub.same (Sub.same (Sub.same (Sub.same (Sub.none (Sub.none (Sub.none Sub.nil))))))))))) sc.nd ) (fun s3 => (S_ret (r := fun d => d) (E_var 4))) hp rfl)) sc.nd ))
theorem sc__law_doc : FnScope ["source", "labels", "most"] ["source", "labels", "most"] (defScope (top 26)) := ⟨rfl, rfl, rfl, by decide +kernel, rfl, by decide +kernel, by decide +kernel⟩
theorem ok__law_doc (FB : Facts K mg ca) (h : HereF K mg "_law_doc" (top 26) ["source", "labels", "most"]) (g__law_document : ∀ n, Has P w K mg base "_law_document" (2 + n) ["source", "labels", "left", "deep"] (spD K ca [PK.src 2, PK.d, PK.src 1, PK.d] (u__law_document n))) (g__law_pick : Has P w K mg base "_law_pick" 1 ["source", "many"] (spD K ca [PK.src 2, PK.d] u__law_pick)) : Has P w K mg base "_law_doc" 43 ["source", "labels", "most"] (spD K ca [PK.src 2, PK.d, PK.d] u__law_doc) := by
    have sc := sc__law_doc
    refine h.has fun f fd F => fnD (ca := ca) (F := u__law_doc) (k := 42) F sc rfl fun cdv A outer s H E S H0 hr tk hp ds hds => ?_
    match ds, hds with
    | [a0, a1], _ =>
      show SimS _ _ _ _ (m__law_doc a0 a1) _
      delta m__law_doc
      refine (S_ret (r := fun d => d) (E_call (g__law_document _) hr (by omega) tk (A_src 0 (A_d (E_var 1) (A_new (E_call g__law_pick hr (by omega) tk (A_src 0 (A_d (E_bin b_add (E_var 2) E_int) A_nil))) (A_d E_int A_nil))))))
theorem sc__law_told : FnScope ["value"] ["value"] (defScope (top 28)) := ⟨rfl, rfl, rfl, by decide +kernel, rfl, by decide +kernel, by decide +kernel⟩
theorem ok__law_told (FB : Facts K mg ca) (h : HereF K mg "_law_told" (top 28) ["value"]) (g_read_document : Has P w K mg base "read_document" 42 ["value"] (spD K ca [PK.d] u_read_document)) : Has P w K mg base "_law_told" 43 ["value"] (spD K ca [PK.d] u__law_told) := by
    have sc := sc__law_told
    refine h.has fun f fd F => fnD (ca := ca) (F := u__law_told) (k := 42) F sc rfl fun cdv A outer s H E S H0 hr tk hp ds hds => ?_
    match ds, hds with
    | [a0], _ =>
      show SimS _ _ _ _ (m__law_told a0) _
      delta m__law_told
      refine (S_try (γy := [some (B.d a0)]) (fun W pn xe tk2 hp => (S_ret (r := fun d => d) (E_call g_read_document hr (by omega) tk2 (A_d (E_var 0) A_nil)) (hx := (Sub.same Sub.nil)))) (SimHs.cons (by decide) rfl FB.x_WrongText.mg rfl (by decide) (fun a oe pn => (S_ret (r := fun d => d) (E_str))) SimHs.nil) FB.tab tk)
theorem sc_law : FnScope ["script", "k", "source", "document", "text", "odds", "turn", "bent", "odd", "found", "due"] ["script"] (defScope (top 30)) := ⟨rfl, rfl, rfl, by decide +kernel, rfl, by decide +kernel, by decide +kernel⟩
theorem ok_law {f : Addr} {fd : FuncData} (FB : Facts K mg ca) (F : Fun K "law" "law" (top 30) f fd) (g__law_source : Has P w K mg base "_law_source" 1 ["script", "k"] (spL K ca [PK.d, PK.d] u__law_source)) (g__law_doc : Has P w K mg base "_law_doc" 43 ["source", "labels", "most"] (spD K ca [PK.src 2, PK.d, PK.d] u__law_doc)) (g__law_labels : Has P w K mg base "_law_labels" 3 ["source"] (spD K ca [PK.src 2] u__law_labels)) (g__law_pick : Has P w K mg base "_law_pick" 1 ["source", "many"] (spD K ca [PK.src 2, PK.d] u__law_pick)) (g__law_doc_text : ∀ n, Has P w K mg base "_law_doc_text" (0 + n) ["document"] (spD K ca [PK.d] (u__law_doc_text n))) (g_document_text : Has P w K mg base "document_text" 41 ["document"] (spD K ca [PK.d] u_document_text)) (g__law_told : Has P w K mg base "_law_told" 43 ["value"] (spD K ca [PK.d] u__law_told)) (g__law_bent : Has P w K mg base "_law_bent" 3 ["source", "text"] (spD K ca [PK.src 2, PK.d] u__law_bent)) (g__law_good_document : ∀ n, Has P w K mg base "_law_good_document" (1 + n) ["value"] (spD K ca [PK.d] (u__law_good_document n))) (hl : ∀ ns : List Int, ns.length ≤ 63 → u_law [.list (ns.map .int)] (fun d => d = .bool true) (fun _ => False)) : FnOk P w K mg base (L2.CX P w) 44 f fd ["script"] (spLaw K) := by
    have sc := sc_law
    refine fnLaw (ca := ca) (F := u_law) (k := 43) hl F sc rfl fun cdv A outer s H E S H0 hr tk hp ds hds => ?_
    match ds, hds with
    | [a0], _ =>
      show SimS _ _ _ _ (m_law a0) _
      delta m_law
      refine (S_forR (S := Unit) (R := D) (fun _ => [some (B.d a0), none, none, none, none, none, none, none, none, none, none]) (fun r => r) (I_range FB.n_range (E_max rfl FB.n_max E_int (E_min rfl FB.n_min E_int (E_len FB.n_len (SimE.k (E_var 0)))))) (Sub.same (Sub.none (Sub.none (Sub.none (Sub.none (Sub.none (Sub.none (Sub.none (Sub.none (Sub.none (Sub.none Sub.nil))))))))))) (fun s1 d6 => B_1 1 (SimS.x (S_src 2 2 (L_call g__law_source hr (by omega) tk (A_d (E_var 0) (A_d (E_var 1) A_nil))) (fun _ => (S_asg (E_call g__law_doc hr (by omega) tk (A_src 2 (A_d (E_call g__law_labels hr (by omega) tk (A_src 2 A_nil)) (A_d (E_ix (SimL.k (L_lst (n := 2) (A_d E_int (A_d E_int A_nil)))) (E_call g__law_pick hr (by omega) tk (A_src 2 (A_d E_int A_nil)))) A_nil)))) (fun z24 => B_1 3 (SimS.x (S_asg (E_call (g__law_doc_text _) hr (by omega) tk (A_d (E_var 3) A_nil)) (fun z27 => B_1 4 (SimS.x (S_ifT (SimW.t (W_or (T_cmp (c_ne hr) (SimE.k (E_call g_document_text hr (by omega) tk (A_d (E_var 3) A_nil))) (SimE.k (E_var 4))) (W_or1 (T_cmp (c_ne hr) (SimE.k (E_call g__law_told hr (by omega) tk (A_d (E_var 4) A_nil))) (SimE.k (E_var 3)))))) (S_ret (r := fun d => (Sum.inr d)) E_bl) (S_setL 5 (L_lst (n := 11) (A_d (E_str) (A_d (E_str) (A_d (E_str) (A_d (E_str) (A_d (E_str) (A_d (E_str) (A_d (E_str) (A_d (E_str) (A_d (E_str) (A_d (E_str) (A_d (E_str) A_nil)))))))))))) (fun z61 => (S_for (S := (List D)) (fun s62 => [some (B.d a0), some (B.d d6), some (B.src 2), some (B.d z24), some (B.d z27), some (B.ml s62), none, none, none, none, none]) (I_range FB.n_range E_int) (Sub.same (Sub.same (Sub.same (Sub.same (Sub.same (Sub.same (Sub.none (Sub.none (Sub.none (Sub.none (Sub.none Sub.nil))))))))))) (fun s62 d63 => B_1 6 (SimS.x (S_asg (E_call g__law_bent hr (by omega) tk (A_src 2 (A_d (E_var 4) A_nil))) (fun z66 => B_1 7 (SimS.x (S_setL 5 (L_add (K_var 5) (SimL.k (L_lst (n := 2) (A_d (E_var 7) (A_d (E_call g__law_bent hr (by omega) tk (A_src 2 (A_d (E_var 7) A_nil))) A_nil))))) (fun z75 => (S_nil (.inr rfl) (Sub.same (Sub.same (Sub.same (Sub.same (Sub.same (Sub.same (Sub.none (Sub.none (Sub.none (Sub.none (Sub.none Sub.nil))))))))))))) sc.nd)) sc.nd ))) sc.nd ) (fun s62 => (S_freeze 5 (S_forR (S := (Option D)) (R := D) (fun s77 => [some (B.d a0), some (B.d d6), some (B.src 2), some (B.d z24), some (B.d z27), some (B.d (.list s62)), none, none, Option.map B.d s77, none, none]) (fun r => (Sum.inr r)) (I_all (E_var 5)) (Sub.same (Sub.same (Sub.same (Sub.same (Sub.same (Sub.same (Sub.none (Sub.none (Sub.none (Sub.none (Sub.none Sub.nil))))))))))) (fun s77 d78 => B_1 8 (SimS.x (S_asg (E_call g__law_told hr (by omega) tk (A_d (E_var 8) A_nil)) (fun z81 => B_1 9 (SimS.x (S_if (SimW.t (W_and (T_cmp (c_ne hr) (SimE.k (E_var 9)) (SimE.k (E_str))) (W_and1 (SimW.t (W_or (T_not (T_val (E_call (g__law_good_document _) hr (by omega) tk (A_d (E_var 9) A_nil)))) (W_or1 (T_cmp (c_ne hr) (SimE.k (E_call (g__law_doc_text _) hr (by omega) tk (A_d (E_var 9) A_nil))) (SimE.k (E_var 8))))))))) (S_ret (r := fun d => (Sum.inr d)) E_bl) (S_nil (.inr rfl) (Sub.same (Sub.same (Sub.same (Sub.same (Sub.same (Sub.same (Sub.none (Sub.none (Sub.same (Sub.none (Sub.none Sub.nil)))))))))))))) sc.nd ))) sc.nd ) (fun r => Or.inl ⟨r, rfl⟩) (fun s77 => (S_forR (S := Unit) (R := D) (fun _ => [some (B.d a0), some (B.d d6), some (B.src 2), some (B.d z24), some (B.d z27), some (B.d (.list s62)), none, none, none, none, none]) (fun r => (Sum.inr r)) (I_all (SimL.fz (L_add (SimL.k (L_lst (n := 4) (A_d E_non (A_d E_int (A_d (E_tup (n := 1) (A_d (E_str) A_nil)) (A_d (E_var 3) A_nil)))))) (SimL.k (L_sl (SimE.k (E_var 5)) O_none (O_some E_int)))))) (Sub.same (Sub.same (Sub.same (Sub.same (Sub.same (Sub.same (Sub.none (Sub.none (Sub.none (Sub.none (Sub.none Sub.nil))))))))))) (fun s95 d113 => B_1 8 (SimS.x (S_if (T_cmp (c_ne hr) (SimE.k (E_call g__law_told hr (by omega) tk (A_d (E_var 8) A_nil))) (SimE.k (E_str))) (S_ret (r := fun d => (Sum.inr d)) E_bl) (S_nil (.inr rfl) (Sub.same (Sub.same (Sub.same (Sub.same (Sub.same (Sub.same (Sub.none (Sub.none (Sub.none (Sub.none (Sub.none Sub.nil)))))))))))))) sc.nd ) (fun r => Or.inl ⟨r, rfl⟩) (fun s95 => (S_nil (.inr rfl) (Sub.same (Sub.none (Sub.none (Sub.none (Sub.none (Sub.none (Sub.none (Sub.none (Sub.none (Sub.none (Sub.none Sub.nil))))))))))))) hp rfl)) hp rfl))) hp rfl)) sc.nd))) sc.nd ))) sc.nd ))) (fun a => by first | exact True.intro | (cases a <;> exact True.intro) | (cases a with | inl s => (cases s <;> exact True.intro) | inr r => exact True.intro) | (cases a with | inl s => (obtain ⟨u, v⟩ := s; cases u <;> cases v <;> exact True.intro) | inr r => exact True.intro)) sc.nd)) sc.nd ) (fun r => Or.inl ⟨r, rfl⟩) (fun s1 => (S_asg (E_tup (n := 2) (A_d (E_tup (n := 2) (A_d (E_str) (A_d (E_tup (n := 2) (A_d (E_tup (n := 2) (A_d (E_str) (A_d (E_tup (n := 2) (A_d (E_tup (n := 2) (A_d (E_str) (A_d (E_tup (n := 0) A_nil) A_nil))) (A_d (E_tup (n := 2) (A_d (E_str) (A_d (E_tup (n := 0) A_nil) A_nil))) A_nil))) A_nil))) (A_d (E_tup (n := 2) (A_d (E_str) (A_d (E_tup (n := 0) A_nil) A_nil))) A_nil))) A_nil))) (A_d (E_tup (n := 2) (A_d (E_str) (A_d (E_tup (n := 0) A_nil) A_nil))) A_nil))) (fun z169 => B_1 10 (SimS.x (S_ret (r := fun d => d) (E_and (E_cmp (c_eq hr) (SimE.k (E_call g__law_told hr (by omega) tk (A_d (E_str) A_nil))) (SimE.k (E_tup (n := 0) A_nil))) (E_one (E_cmp (c_eq hr) (SimE.k (E_call g__law_told hr (by omega) tk (A_d (E_str) A_nil))) (SimE.k (E_var 10))))))) sc.nd ))) hp rfl)
end
end Sm

set_option Elab.async false
set_option linter.all false
set_option maxRecDepth 100000
set_option maxHeartbeats 4000000
/-! Ty1: documents, tests, steps as Lean data. -/
namespace Sm
open PySem PySem.Spec L2
open PyProof.Rows hiding St
inductive Nd where
  | mk (l : Str) (c : List Nd)
inductive Tst where
  | any
  | top
  | rel (w : Str) (l : Str)
deriving DecidableEq
inductive Stp where
  | rename (a b : Str) (t : Tst)
  | wrap (a b : Str) (t : Tst)
  | unwrap (a : Str) (t : Tst)
  | drop (a : Str) (t : Tst)
deriving DecidableEq
mutual
def ndD : Nd → D
  | .mk l c => .tuple [.str l, .tuple (ndsD c)]
def ndsD : List Nd → List D
  | [] => []
  | x :: r => ndD x :: ndsD r
end
def docD (c : List Nd) : D := .tuple (ndsD c)
def tstD : Tst → D
  | .any => .tuple [.str "any"]
  | .top => .tuple [.str "top"]
  | .rel w l => .tuple [.str w, .str l]
def stpD : Stp → D
  | .rename a b t => .tuple [.str "rename", .str a, .str b, tstD t]
  | .wrap a b t => .tuple [.str "wrap", .str a, .str b, tstD t]
  | .unwrap a t => .tuple [.str "unwrap", .str a, tstD t]
  | .drop a t => .tuple [.str "drop", .str a, tstD t]
end Sm
namespace Sm
open PySem PySem.Spec L2
open PyProof.Rows hiding St
/-- does a test meet a node: the labels around it, from the outermost -/
def met (t : Tst) (ar : List Str) : Bool := match t with
  | .any => true
  | .top => ar.isEmpty
  | .rel w l => if w = "in" then decide (ar.getLast? = some l) else if w = "notin" then !decide (ar.getLast? = some l) else if w = "under" then decide (l ∈ ar) else !decide (l ∈ ar)
def Stp.mark : Stp → Str
  | .rename a _ _ => a
  | .wrap a _ _ => a
  | .unwrap a _ => a
  | .drop a _ => a
def Stp.tst : Stp → Tst
  | .rename _ _ t => t
  | .wrap _ _ t => t
  | .unwrap _ t => t
  | .drop _ t => t
def hitB (s : Stp) (l : Str) (ar : List Str) : Bool := decide (l = s.mark) && met s.tst ar
/-- what comes of a node, from its content's result -/
def outN (s : Stp) (hit : Bool) (l : Str) (c : List Nd) : List Nd := match hit with
  | false => [.mk l c]
  | true => match s with
    | .rename _ b _ => [.mk b c]
    | .wrap _ b _ => [.mk b [.mk l c]]
    | .unwrap _ _ => c
    | .drop _ _ => []
mutual
def goN (s : Stp) : Nd → List Str → List Nd
  | .mk l c, ar => outN s (hitB s l ar) l (goL s c (ar ++ [l]))
def goL (s : Stp) : List Nd → List Str → List Nd
  | [], _ => []
  | x :: r, ar => goN s x ar ++ goL s r ar
end
def runD (ss : List Stp) (c : List Nd) : List Nd := ss.foldl (fun c s => goL s c []) c
end Sm
/-! ### sizes, depths, weights -/
namespace Sm
open PySem PySem.Spec L2
open PyProof.Rows hiding St
def scrD (ss : List Stp) : D := .tuple (ss.map stpD)
def tupS (ar : List Str) : D := .tuple (ar.map .str)
mutual
def szN : Nd → Nat
  | .mk _ c => 1 + szL c
def szL : List Nd → Nat
  | [] => 0
  | x :: r => szN x + szL r
end
mutual
def dpN : Nd → Nat
  | .mk _ c => 1 + dpL c
def dpL : List Nd → Nat
  | [] => 0
  | x :: r => max (dpN x) (dpL r)
end
mutual
def wgN (f : Str → Nat) : Nd → Nat
  | .mk l c => f l + wgL f c
def wgL (f : Str → Nat) : List Nd → Nat
  | [] => 0
  | x :: r => max (wgN f x) (wgL f r)
end
theorem szL_append : ∀ a b : List Nd, szL (a ++ b) = szL a + szL b
  | [], b => by simp [szL]
  | x :: r, b => by simp [szL, szL_append r b, Nat.add_assoc]
theorem dpL_append : ∀ a b : List Nd, dpL (a ++ b) = max (dpL a) (dpL b)
  | [], b => by simp [dpL]
  | x :: r, b => by simp only [List.cons_append, dpL, dpL_append r b]; omega
theorem wgL_append (f : Str → Nat) : ∀ a b : List Nd, wgL f (a ++ b) = max (wgL f a) (wgL f b)
  | [], b => by simp [wgL]
  | x :: r, b => by simp only [List.cons_append, wgL, wgL_append f r b]; omega
theorem szL_len : ∀ c : List Nd, c.length ≤ szL c
  | [] => Nat.le_refl _
  | .mk l c :: r => by have := szL_len r; simp [szL, szN]; omega
mutual
theorem dp_wgN : ∀ x : Nd, dpN x = wgN (fun _ => 1) x
  | .mk l c => by simp [dpN, wgN, dp_wgL c]
theorem dp_wgL : ∀ c : List Nd, dpL c = wgL (fun _ => 1) c
  | [] => rfl
  | x :: r => by simp [dpL, wgL, dp_wgN x, dp_wgL r]
end
mutual
theorem wg_leN {f g : Str → Nat} (h : ∀ l, f l ≤ g l) : ∀ x : Nd, wgN f x ≤ wgN g x
  | .mk l c => by have := wg_leL h c; have := h l; simp [wgN]; omega
theorem wg_leL {f g : Str → Nat} (h : ∀ l, f l ≤ g l) : ∀ c : List Nd, wgL f c ≤ wgL g c
  | [] => Nat.le_refl _
  | x :: r => by have := wg_leN h x; have := wg_leL h r; simp [wgL]; omega
end
mutual
theorem wg_mulN {f : Str → Nat} {k : Nat} (h : ∀ l, f l ≤ k) : ∀ x : Nd, wgN f x ≤ k * dpN x
  | .mk l c => by have h1 := wg_mulL h c; have := h l; simp [wgN, dpN, Nat.mul_add]; omega
theorem wg_mulL {f : Str → Nat} {k : Nat} (h : ∀ l, f l ≤ k) : ∀ c : List Nd, wgL f c ≤ k * dpL c
  | [] => Nat.zero_le _
  | x :: r => by
    have h1 := wg_mulN h x
    have h2 := wg_mulL h r
    have h3 : k * dpN x ≤ k * max (dpN x) (dpL r) := Nat.mul_le_mul_left _ (Nat.le_max_left _ _)
    have h4 : k * dpL r ≤ k * max (dpN x) (dpL r) := Nat.mul_le_mul_left _ (Nat.le_max_right _ _)
    simp only [wgL, dpL]
    omega
end
mutual
theorem dp_szN : ∀ x : Nd, dpN x ≤ szN x
  | .mk l c => by have := dp_szL c; simp [dpN, szN]; omega
theorem dp_szL : ∀ c : List Nd, dpL c ≤ szL c
  | [] => Nat.le_refl _
  | x :: r => by have := dp_szN x; have := dp_szL r; simp [dpL, szL]; omega
end
/-! ### one step -/
mutual
theorem sz_goN (s : Stp) : ∀ (x : Nd) (ar : List Str), szL (goN s x ar) ≤ 2 * szN x
  | .mk l c, ar => by
    have := sz_goL s c (ar ++ [l])
    unfold goN
    cases hitB s l ar with
    | false => simp [outN, szL, szN]; omega
    | true => cases s <;> simp [outN, szL, szN] <;> omega
theorem sz_goL (s : Stp) : ∀ (c : List Nd) (ar : List Str), szL (goL s c ar) ≤ 2 * szL c
  | [], ar => by simp [goL, szL]
  | x :: r, ar => by
    have h1 := sz_goN s x ar
    have h2 := sz_goL s r ar
    simp only [goL, szL, szL_append]
    omega
end
/-- the weights ahead of a step -/
def Stp.back (s : Stp) (f : Str → Nat) : Str → Nat := match s with
  | .rename a b _ => fun l => if l = a then max (f a) (f b) else f l
  | .wrap a b _ => fun l => if l = a then f a + f b else f l
  | _ => f
theorem hit_mark {s : Stp} {l : Str} {ar : List Str} (h : hitB s l ar = true) : l = s.mark := by
  unfold hitB at h
  simp only [Bool.and_eq_true, decide_eq_true_eq] at h
  exact h.1
theorem back_le (s : Stp) (f : Str → Nat) (l : Str) : f l ≤ s.back f l := by
  cases s <;> simp only [Stp.back] <;> (try split) <;> (try (subst_vars)) <;> omega
mutual
theorem wg_goN (f : Str → Nat) (s : Stp) : ∀ (x : Nd) (ar : List Str), wgL f (goN s x ar) ≤ wgN (s.back f) x
  | .mk l c, ar => by
    have ih := wg_goL f s c (ar ++ [l])
    have hb := back_le s f l
    unfold goN
    cases hh : hitB s l ar with
    | false => simp [outN, wgL, wgN]; omega
    | true =>
      have e := hit_mark hh
      cases s with
      | rename a b t =>
        simp only [Stp.mark] at e
        subst e
        simp [outN, wgL, wgN, Stp.back] at ih ⊢
        omega
      | wrap a b t =>
        simp only [Stp.mark] at e
        subst e
        simp [outN, wgL, wgN, Stp.back] at ih ⊢
        omega
      | unwrap a t => simp [outN, wgL, wgN] at ih ⊢; omega
      | drop a t => simp [outN, wgL, wgN]
theorem wg_goL (f : Str → Nat) (s : Stp) : ∀ (c : List Nd) (ar : List Str), wgL f (goL s c ar) ≤ wgL (s.back f) c
  | [], ar => by simp [goL, wgL]
  | x :: r, ar => by
    have h1 := wg_goN f s x ar
    have h2 := wg_goL f s r ar
    simp only [goL, wgL, wgL_append]
    omega
end
/-- a step that hits outermost nodes alone -/
theorem top_in {s : Stp} (ht : s.tst = .top) (f : Str → Nat) : (∀ (x : Nd) (ar : List Str), ar ≠ [] → wgL f (goN s x ar) ≤ wgN f x) ∧ ∀ (c : List Nd) (ar : List Str), ar ≠ [] → wgL f (goL s c ar) ≤ wgL f c := by
  have nh : ∀ l ar, ar ≠ [] → hitB s l ar = false := fun l ar h => by
    cases ar with
    | nil => exact absurd rfl h
    | cons a r => simp [hitB, ht, met]
  have key : ∀ n : Nat, (∀ (x : Nd) (ar : List Str), szN x ≤ n → ar ≠ [] → wgL f (goN s x ar) ≤ wgN f x) ∧ ∀ (c : List Nd) (ar : List Str), szL c ≤ n → ar ≠ [] → wgL f (goL s c ar) ≤ wgL f c := by
    intro n
    induction n with
    | zero =>
      refine ⟨fun x ar h => ?_, fun c ar h h2 => ?_⟩
      · cases x; simp [szN] at h
      · cases c with
        | nil => simp [goL, wgL]
        | cons x r => cases x; simp [szL, szN] at h
    | succ n ih =>
      have hN : ∀ (x : Nd) (ar : List Str), szN x ≤ n + 1 → ar ≠ [] → wgL f (goN s x ar) ≤ wgN f x := fun x ar h h2 => by
        cases x with
        | mk l c =>
          simp only [szN] at h
          have := ih.2 c (ar ++ [l]) (by omega) (by simp)
          unfold goN
          rw [nh l ar h2]
          simp only [outN, wgL, wgN]
          omega
      refine ⟨hN, fun c => ?_⟩
      induction c with
      | nil => intro ar _ _; simp [goL, wgL]
      | cons x r ihr =>
        intro ar h h2
        simp only [szL] at h
        have h1 := hN x ar (by omega) h2
        have h3 := ihr ar (by omega) h2
        simp only [goL, wgL, wgL_append]
        omega
  exact ⟨fun x ar h => (key (szN x)).1 x ar (Nat.le_refl _) h, fun c ar h => (key (szL c)).2 c ar (Nat.le_refl _) h⟩
theorem top_out {a b : Str} (f : Str → Nat) : ∀ (c : List Nd), wgL f (goL (.wrap a b .top) c []) ≤ wgL f c + f b
  | [] => by simp [goL, wgL]
  | .mk l c :: r => by
    have h1 := (top_in (s := .wrap a b .top) rfl f).2 c ([] ++ [l]) (by simp)
    have h2 := top_out f r (a := a) (b := b)
    simp only [goL, wgL, wgL_append]
    have h3 : wgL f (goN (.wrap a b .top) (.mk l c) []) ≤ wgN f (.mk l c) + f b := by
      unfold goN
      cases hitB (.wrap a b .top) l [] with
      | false => simp [outN, wgL, wgN] at h1 ⊢; omega
      | true => simp [outN, wgL, wgN] at h1 ⊢; omega
    omega
/-- a wrapping step puts nodes into others, or it hits outermost ones alone -/
def SGrow : Stp → Prop
  | .wrap a b t => a ≠ b ∨ t = .top
  | _ => True
/-- how heavy n steps can make a row of 8 nodes -/
def most : Nat → Nat → Nat → Nat → Nat
  | 0, x, _, z => 8 * x + z
  | n + 1, x, y, z => max (most n x y z) (max (most n x y (z + x)) (most n y (x + y) z))
theorem most_mono : ∀ (n x y z x' y' z' : Nat), x ≤ x' → y ≤ y' → z ≤ z' → most n x y z ≤ most n x' y' z'
  | 0, x, y, z, x', y', z', h1, h2, h3 => by simp [most]; omega
  | n + 1, x, y, z, x', y', z', h1, h2, h3 => by
    have a := most_mono n x y z x' y' z' h1 h2 h3
    have b := most_mono n x y (z + x) x' y' (z' + x') h1 h2 (by omega)
    have c := most_mono n y (x + y) z y' (x' + y') z' h2 (by omega) h3
    simp only [most]
    omega
theorem most_run : ∀ (ss : List Stp) (f : Str → Nat) (x y z : Nat) (c : List Nd), (∀ s ∈ ss, SGrow s) → x ≤ y → (∀ a, f a ≤ x) → (∀ a b, a ≠ b → f a + f b ≤ y) → dpL c ≤ 8 → wgL f (runD ss.reverse c) + z ≤ most ss.length x y z
  | [], f, x, y, z, c, _, hxy, hx, hy, hd => by
    have h1 := wg_mulL hx c
    have h2 : x * dpL c ≤ x * 8 := Nat.mul_le_mul_left _ hd
    simp only [List.reverse_nil, runD, List.foldl_nil, List.length_nil, most]
    omega
  | s :: r, f, x, y, z, c, hg, hxy, hx, hy, hd => by
    have hr : ∀ t ∈ r, SGrow t := fun t ht => hg t (by simp [ht])
    have e : runD (s :: r).reverse c = goL s (runD r.reverse c) [] := by
      simp [runD]
    have same : wgL f (goL s (runD r.reverse c) []) ≤ wgL f (runD r.reverse c) → wgL f (runD (s :: r).reverse c) + z ≤ most (s :: r).length x y z := fun h => by
      have := most_run r f x y z c hr hxy hx hy hd
      rw [e]
      simp only [List.length_cons, most]
      omega
    have h0 := wg_goL f s (runD r.reverse c) []
    cases s with
    | unwrap a t => exact same h0
    | drop a t => exact same h0
    | rename a b t =>
      have h1 := most_run r (Stp.back (.rename a b t) f) y (x + y) z c hr (by omega) (fun l => by
        have := hx a; have := hx b; have := hx l
        simp only [Stp.back]; split <;> omega) (fun l m _ => by
        have := hx a; have := hx b; have := hx l; have := hx m
        simp only [Stp.back]
        split <;> split <;> omega) hd
      rw [e]
      simp only [List.length_cons, most]
      omega
    | wrap a b t =>
      rcases hg _ (List.mem_cons_self) with hab | ht
      · have h1 := most_run r (Stp.back (.wrap a b t) f) y (x + y) z c hr (by omega) (fun l => by
          have := hy a b hab; have := hx l
          simp only [Stp.back]; split <;> omega) (fun l m hlm => by
          have := hy a b hab; have := hx l; have := hx m
          simp only [Stp.back]
          split
          · split
            · subst_vars; exact absurd rfl hlm
            · omega
          · split <;> omega) hd
        rw [e]
        simp only [List.length_cons, most]
        omega
      · subst ht
        have h1 := top_out f (runD r.reverse c) (a := a) (b := b)
        have h2 := most_run r f x y (z + x) c hr hxy hx hy hd
        have h3 := hx b
        rw [e]
        simp only [List.length_cons, most]
        omega
theorem most_le : ∀ (n k x y z : Nat), n ≤ k → most n x y z ≤ most k x y z
  | n, 0, x, y, z, h => by
    have : n = 0 := by omega
    subst this; exact Nat.le_refl _
  | n, k + 1, x, y, z, h => by
    by_cases e : n = k + 1
    · subst e; exact Nat.le_refl _
    · have := most_le n k x y z (by omega)
      simp only [most]
      omega
/-- six steps make at most 168 of 8 -/
theorem dp_run {ss : List Stp} {c : List Nd} (hs : ∀ s ∈ ss, SGrow s) (hl : ss.length ≤ 6) (hd : dpL c ≤ 8) : dpL (runD ss c) ≤ 168 := by
  have h1 := most_run ss.reverse (fun _ => 1) 1 2 0 c (fun s h => hs s (by simpa using h)) (by omega) (fun _ => Nat.le_refl _) (fun _ _ _ => Nat.le_refl _) hd
  rw [List.reverse_reverse, ← dp_wgL, List.length_reverse] at h1
  have h2 := most_le ss.length 6 1 2 0 hl
  have h3 : most 6 1 2 0 = 168 := by decide +kernel
  omega
theorem sz_run : ∀ (ss : List Stp) (c : List Nd), szL (runD ss c) ≤ 2 ^ ss.length * szL c
  | [], c => by simp [runD]
  | s :: r, c => by
    have h1 := sz_goL s c []
    have h2 := sz_run r (goL s c [])
    have e : runD (s :: r) c = runD r (goL s c []) := rfl
    have h3 : 2 ^ r.length * szL (goL s c []) ≤ 2 ^ r.length * (2 * szL c) := Nat.mul_le_mul_left _ h1
    rw [e, List.length_cons, Nat.pow_succ, Nat.mul_assoc]
    omega
end Sm

set_option Elab.async false
set_option linter.all false
set_option maxRecDepth 100000
set_option maxHeartbeats 4000000
/-! Ty2: chains of nodes, rows, standings. -/
namespace Sm
open PySem PySem.Spec L2
open PyProof.Rows hiding St
/-- a content in a chain of nodes -/
def chC : List Str → List Nd → List Nd
  | [], c => c
  | l :: r, c => [.mk l (chC r c)]
theorem chC_append : ∀ (a b : List Str) (c : List Nd), chC (a ++ b) c = chC a (chC b c)
  | [], b, c => rfl
  | l :: r, b, c => by simp [chC, chC_append r b c]
def outR (s : Stp) (l : Str) : List Str := match s with
  | .rename _ b _ => [b]
  | .wrap _ b _ => [b, l]
  | _ => []
def isDrop : Stp → Bool
  | .drop _ _ => true
  | _ => false
def outH (s : Stp) (l : Str) (ar : List Str) : List Str := if hitB s l ar then outR s l else [l]
def offH (s : Stp) (l : Str) (ar : List Str) : Bool := hitB s l ar && isDrop s
/-- what comes of a row of nodes, and whether nothing is dropped -/
def rowB (s : Stp) : List Str → List Str → List Str × Bool
  | [], _ => ([], true)
  | l :: r, ar => if offH s l ar then ([], false) else (outH s l ar ++ (rowB s r (ar ++ [l])).1, (rowB s r (ar ++ [l])).2)
theorem rowB_append (s : Stp) : ∀ (a b ar : List Str), rowB s (a ++ b) ar = if (rowB s a ar).2 then ((rowB s a ar).1 ++ (rowB s b (ar ++ a)).1, (rowB s b (ar ++ a)).2) else rowB s a ar
  | [], b, ar => by simp [rowB]
  | l :: r, b, ar => by
    simp only [List.cons_append, rowB]
    have ih := rowB_append s r b (ar ++ [l])
    rcases Bool.eq_false_or_eq_true (offH s l ar) with h | h
    · simp [h]
    · simp only [h, Bool.false_eq_true, if_false, ih]
      rcases Bool.eq_false_or_eq_true (rowB s r (ar ++ [l])).2 with h2 | h2 <;> simp [h2]
theorem goL_ch (s : Stp) : ∀ (row : List Str) (c : List Nd) (ar : List Str), goL s (chC row c) ar = chC (rowB s row ar).1 (if (rowB s row ar).2 then goL s c (ar ++ row) else [])
  | [], c, ar => by simp [chC, rowB]
  | l :: r, c, ar => by
    have ih := goL_ch s r c (ar ++ [l])
    simp only [chC, goL, goN, List.append_nil, ih, rowB, offH, outH]
    rcases Bool.eq_false_or_eq_true (hitB s l ar) with hh | hh
    · cases s <;> simp [hh, outN, outR, chC, isDrop]
    · simp [hh, outN, chC]
theorem rowB_len (s : Stp) : ∀ (row ar : List Str), (rowB s row ar).1.length ≤ 2 * row.length
  | [], ar => by simp [rowB]
  | l :: r, ar => by
    have ih := rowB_len s r (ar ++ [l])
    have h : (outH s l ar).length ≤ 2 := by
      unfold outH
      split
      · cases s <;> simp [outR]
      · simp
    simp only [rowB]
    split
    · simp
    · simp; omega
/-! ### a content from moment to moment -/
def cF (ss : List Stp) (A : Nat → List Str) (c : List Nd) : Nat → List Nd
  | 0 => c
  | i + 1 => match ss[i]? with
    | some s => goL s (cF ss A c i) (A i)
    | none => cF ss A c i
def rF (ss : List Stp) (A : Nat → List Str) (row : List Str) : Nat → List Str
  | 0 => row
  | i + 1 => match ss[i]? with
    | some s => (rowB s (rF ss A row i) (A i)).1
    | none => rF ss A row i
def kF (ss : List Stp) (A : Nat → List Str) (row : List Str) : Nat → Bool
  | 0 => true
  | i + 1 => match ss[i]? with
    | some s => kF ss A row i && (rowB s (rF ss A row i) (A i)).2
    | none => kF ss A row i
def inn (ss : List Stp) (A : Nat → List Str) (row : List Str) : Nat → List Str := fun j => A j ++ rF ss A row j
theorem cF_nil (ss : List Stp) (A : Nat → List Str) : ∀ i, cF ss A [] i = []
  | 0 => rfl
  | i + 1 => by
    have ih := cF_nil ss A i
    simp only [cF, ih]
    cases ss[i]? <;> rfl
theorem cF_ch (ss : List Stp) (A : Nat → List Str) (row : List Str) (c : List Nd) : ∀ i, cF ss A (chC row c) i = chC (rF ss A row i) (if kF ss A row i then cF ss (inn ss A row) c i else [])
  | 0 => by simp [cF, rF, kF]
  | i + 1 => by
    have ih := cF_ch ss A row c i
    simp only [cF, rF, kF]
    rcases Option.eq_none_or_eq_some ss[i]? with h | ⟨s, h⟩
    · simp only [h]; exact ih
    · simp only [h, ih, goL_ch]
      congr 1
      rcases Bool.eq_false_or_eq_true (kF ss A row i) with h1 | h1
      · rcases Bool.eq_false_or_eq_true (rowB s (rF ss A row i) (A i)).2 with h2 | h2 <;> simp [h1, h2, inn]
      · simp [h1, goL]
theorem rF_len (ss : List Stp) (A : Nat → List Str) (row : List Str) : ∀ i, (rF ss A row i).length ≤ 2 ^ i * row.length
  | 0 => by simp [rF]
  | i + 1 => by
    have ih := rF_len ss A row i
    simp only [rF]
    have e : 2 ^ (i + 1) * row.length = 2 * (2 ^ i * row.length) := by rw [Nat.pow_succ, Nat.mul_comm (2 ^ i) 2, Nat.mul_assoc]
    cases ss[i]? with
    | none => simp only [e]; omega
    | some s =>
      have := rowB_len s (rF ss A row i) (A i)
      simp only [e]; omega
theorem runD_cF (ss : List Stp) (c : List Nd) : ∀ i, i ≤ ss.length → runD (ss.take i) c = cF ss (fun _ => []) c i
  | 0, _ => by simp [runD, cF]
  | i + 1, h => by
    have ih := runD_cF ss c i (by omega)
    have h2 : ss[i]? = some (ss[i]'(by omega)) := List.getElem?_eq_getElem (by omega)
    have e : ss.take (i + 1) = ss.take i ++ [ss[i]'(by omega)] := by
      rw [List.take_add_one, h2]; rfl
    rw [e]
    simp only [runD, List.foldl_append, List.foldl_cons, List.foldl_nil] at ih ⊢
    simp only [cF, h2]
    rw [ih]
theorem runD_all (ss : List Stp) (c : List Nd) : runD ss c = cF ss (fun _ => []) c ss.length := by
  have := runD_cF ss c ss.length (Nat.le_refl _)
  rwa [List.take_length] at this
/-! ### ways -/
structure Way where
  row : List Str
  keep : Bool
  ar : Nat → List Str
def cwR (ss : List Stp) (A : Nat → List Str) : List Str → Way
  | [] => ⟨[], true, A⟩
  | m :: w => if kF ss A [m] ss.length then ⟨rF ss A [m] ss.length ++ (cwR ss (inn ss A [m]) w).row, (cwR ss (inn ss A [m]) w).keep, (cwR ss (inn ss A [m]) w).ar⟩ else ⟨rF ss A [m] ss.length, false, inn ss A [m]⟩
theorem cF_way (ss : List Stp) : ∀ (w : List Str) (A : Nat → List Str) (c : List Nd), cF ss A (chC w c) ss.length = chC (cwR ss A w).row (if (cwR ss A w).keep then cF ss (cwR ss A w).ar c ss.length else [])
  | [], A, c => by simp [chC, cwR]
  | m :: w, A, c => by
    have e : chC (m :: w) c = chC [m] (chC w c) := rfl
    rw [e, cF_ch]
    simp only [cwR]
    rcases Bool.eq_false_or_eq_true (kF ss A [m] ss.length) with h | h
    · simp only [h, if_true]
      rw [cF_way ss w (inn ss A [m]) c, chC_append]
    · simp [h]
theorem cwR_append (ss : List Stp) : ∀ (a b : List Str) (A : Nat → List Str), cwR ss A (a ++ b) = if (cwR ss A a).keep then ⟨(cwR ss A a).row ++ (cwR ss (cwR ss A a).ar b).row, (cwR ss (cwR ss A a).ar b).keep, (cwR ss (cwR ss A a).ar b).ar⟩ else cwR ss A a
  | [], b, A => by simp [cwR]
  | m :: w, b, A => by
    simp only [List.cons_append, cwR]
    rcases Bool.eq_false_or_eq_true (kF ss A [m] ss.length) with h | h
    · simp only [h, if_true]
      rw [cwR_append ss w b (inn ss A [m])]
      rcases Bool.eq_false_or_eq_true (cwR ss (inn ss A [m]) w).keep with h2 | h2 <;> simp [h2]
    · simp [h]
theorem cwR_one (ss : List Stp) (A : Nat → List Str) (m : Str) : cwR ss A [m] = ⟨rF ss A [m] ss.length, kF ss A [m] ss.length, inn ss A [m]⟩ := by
  simp only [cwR]
  rcases Bool.eq_false_or_eq_true (kF ss A [m] ss.length) with h | h <;> simp [h]
/-- the fate of the last node of a way -/
def fateT (ss : List Stp) (w : List Str) (m : Str) : List Str × Bool :=
  if (cwR ss (fun _ => []) w).keep then (rF ss (cwR ss (fun _ => []) w).ar [m] ss.length, kF ss (cwR ss (fun _ => []) w).ar [m] ss.length) else ([], false)
/-- the marks of the document that comes of a way -/
def mkW (ss : List Stp) (w : List Str) : List Str := (cwR ss (fun _ => []) w).row
theorem run_ch (ss : List Stp) (w : List Str) : runD ss (chC w []) = chC (mkW ss w) [] := by
  rw [runD_all, cF_way]
  simp [cF_nil, mkW]
/-! ### a mark that no step names -/
def strN (s : Stp) (z : Str) : Prop := s.mark ≠ z ∧ match s with
  | .rename _ b _ => b ≠ z
  | .wrap _ b _ => b ≠ z
  | _ => True
theorem rowB_one {s : Stp} {z : Str} (h : s.mark ≠ z) (ar : List Str) : rowB s [z] ar = ([z], true) := by
  have : hitB s z ar = false := by simp [hitB, Ne.symm h]
  simp [rowB, offH, outH, this]
theorem rF_one {ss : List Stp} {z : Str} (h : ∀ s ∈ ss, s.mark ≠ z) (A : Nat → List Str) : ∀ i, rF ss A [z] i = [z] ∧ kF ss A [z] i = true
  | 0 => ⟨rfl, rfl⟩
  | i + 1 => by
    obtain ⟨h1, h2⟩ := rF_one h A i
    simp only [rF, kF]
    cases e : ss[i]? with
    | none => exact ⟨h1, h2⟩
    | some s => simp [h1, h2, rowB_one (h s (List.mem_of_getElem? e))]
theorem rowB_no {s : Stp} {z : Str} (h : strN s z) : ∀ (row ar : List Str), z ∉ row → z ∉ (rowB s row ar).1
  | [], ar, _ => by simp [rowB]
  | l :: r, ar, hz => by
    simp only [List.mem_cons, not_or] at hz
    have ih := rowB_no h r (ar ++ [l]) hz.2
    have ho : z ∉ outH s l ar := by
      unfold outH
      split
      · cases s <;> simp [outR] <;> simp [strN] at h
        · exact fun e => h.2 e.symm
        · exact ⟨fun e => h.2 e.symm, hz.1⟩
      · simpa using hz.1
    simp only [rowB]
    split
    · simp
    · simp [ih, ho]
theorem rF_no {ss : List Stp} {z : Str} (h : ∀ s ∈ ss, strN s z) (A : Nat → List Str) {row : List Str} (hz : z ∉ row) : ∀ i, z ∉ rF ss A row i
  | 0 => hz
  | i + 1 => by
    have ih := rF_no h A hz i
    simp only [rF]
    cases e : ss[i]? with
    | none => exact ih
    | some s => exact rowB_no (h s (List.mem_of_getElem? e)) _ _ ih
theorem cwR_no {ss : List Stp} {z : Str} (h : ∀ s ∈ ss, strN s z) : ∀ (w : List Str) (A : Nat → List Str), z ∉ w → z ∉ (cwR ss A w).row
  | [], A, _ => by simp [cwR]
  | m :: w, A, hz => by
    simp only [List.mem_cons, not_or] at hz
    have h1 := rF_no h A (row := [m]) (by simpa using hz.1) ss.length
    simp only [cwR]
    split
    · simp [h1, cwR_no h w _ hz.2]
    · exact h1
/-! ### the fate as the law tells it -/
theorem mkW_str {ss : List Stp} {z : Str} (h : ∀ s ∈ ss, strN s z) (w : List Str) : mkW ss (w ++ [z]) = mkW ss w ++ (if (cwR ss (fun _ => []) w).keep then [z] else []) := by
  simp only [mkW, cwR_append, cwR_one]
  rcases Bool.eq_false_or_eq_true (cwR ss (fun _ => []) w).keep with hk | hk
  · simp [hk, (rF_one (fun s hs => (h s hs).1) _ _).1]
  · simp [hk]
theorem mkW_snoc {ss : List Stp} {w : List Str} (m : Str) (hk : (cwR ss (fun _ => []) w).keep = true) : mkW ss (w ++ [m]) = mkW ss w ++ (fateT ss w m).1 ∧ (cwR ss (fun _ => []) (w ++ [m])).keep = (fateT ss w m).2 := by
  simp only [mkW, cwR_append, cwR_one, fateT, hk]
  simp
theorem fateT_off {ss : List Stp} {w : List Str} (m : Str) (hk : (cwR ss (fun _ => []) w).keep = false) : fateT ss w m = ([], false) := by simp [fateT, hk]
/-! ### labels -/
theorem rowB_all {s : Stp} {p : Str → Prop} (h : match s with | .rename _ b _ => p b | .wrap _ b _ => p b | _ => True) : ∀ (row ar : List Str), (∀ l ∈ row, p l) → ∀ l ∈ (rowB s row ar).1, p l
  | [], ar, _ => by simp [rowB]
  | m :: r, ar, hz => by
    have ih := rowB_all h r (ar ++ [m]) (fun l hl => hz l (by simp [hl]))
    have hm := hz m (by simp)
    have ho : ∀ l ∈ outH s m ar, p l := by
      unfold outH
      split
      · cases s <;> simp [outR] at h ⊢
        · exact h
        · exact ⟨h, hm⟩
      · simpa using hm
    simp only [rowB]
    split
    · simp
    · intro l hl
      rcases List.mem_append.mp hl with hl | hl
      · exact ho l hl
      · exact ih l hl
theorem rF_all {ss : List Stp} {p : Str → Prop} (h : ∀ s ∈ ss, match s with | .rename _ b _ => p b | .wrap _ b _ => p b | _ => True) (A : Nat → List Str) {row : List Str} (hz : ∀ l ∈ row, p l) : ∀ i, ∀ l ∈ rF ss A row i, p l
  | 0 => hz
  | i + 1 => by
    have ih := rF_all h A hz i
    simp only [rF]
    cases e : ss[i]? with
    | none => exact ih
    | some s => exact rowB_all (h s (List.mem_of_getElem? e)) _ _ ih
end Sm

set_option Elab.async false
set_option linter.all false
set_option maxRecDepth 100000
set_option maxHeartbeats 4000000
/-! Ty3: how deep chains grow. -/
namespace Sm
open PySem PySem.Spec L2
open PyProof.Rows hiding St
/-- how heavy n steps can make a row of 8 nodes -/
def mostM (m : Nat) : Nat → Nat → Nat → Nat → Nat
  | 0, x, _, z => m * x + z
  | n + 1, x, y, z => max (mostM m n x y z) (max (mostM m n x y (z + x)) (mostM m n y (x + y) z))
theorem mostM_mono (m : Nat) : ∀ (n x y z x' y' z' : Nat), x ≤ x' → y ≤ y' → z ≤ z' → mostM m n x y z ≤ mostM m n x' y' z'
  | 0, x, y, z, x', y', z', h1, h2, h3 => by
    have : m * x ≤ m * x' := Nat.mul_le_mul_left _ h1
    simp [mostM]; omega
  | n + 1, x, y, z, x', y', z', h1, h2, h3 => by
    have a := mostM_mono m n x y z x' y' z' h1 h2 h3
    have b := mostM_mono m n x y (z + x) x' y' (z' + x') h1 h2 (by omega)
    have c := mostM_mono m n y (x + y) z y' (x' + y') z' h2 (by omega) h3
    simp only [mostM]
    omega
theorem mostM_run (m : Nat) : ∀ (ss : List Stp) (f : Str → Nat) (x y z : Nat) (c : List Nd), (∀ s ∈ ss, SGrow s) → x ≤ y → (∀ a, f a ≤ x) → (∀ a b, a ≠ b → f a + f b ≤ y) → dpL c ≤ m → wgL f (runD ss.reverse c) + z ≤ mostM m ss.length x y z
  | [], f, x, y, z, c, _, hxy, hx, hy, hd => by
    have h1 := wg_mulL hx c
    have h2 : x * dpL c ≤ x * m := Nat.mul_le_mul_left _ hd
    have h3 : x * m = m * x := Nat.mul_comm _ _
    simp only [List.reverse_nil, runD, List.foldl_nil, List.length_nil, mostM]
    omega
  | s :: r, f, x, y, z, c, hg, hxy, hx, hy, hd => by
    have hr : ∀ t ∈ r, SGrow t := fun t ht => hg t (by simp [ht])
    have e : runD (s :: r).reverse c = goL s (runD r.reverse c) [] := by
      simp [runD]
    have same : wgL f (goL s (runD r.reverse c) []) ≤ wgL f (runD r.reverse c) → wgL f (runD (s :: r).reverse c) + z ≤ mostM m (s :: r).length x y z := fun h => by
      have := mostM_run m r f x y z c hr hxy hx hy hd
      rw [e]
      simp only [List.length_cons, mostM]
      omega
    have h0 := wg_goL f s (runD r.reverse c) []
    cases s with
    | unwrap a t => exact same h0
    | drop a t => exact same h0
    | rename a b t =>
      have h1 := mostM_run m r (Stp.back (.rename a b t) f) y (x + y) z c hr (by omega) (fun l => by
        have := hx a; have := hx b; have := hx l
        simp only [Stp.back]; split <;> omega) (fun l o _ => by
        have := hx a; have := hx b; have := hx l; have := hx o
        simp only [Stp.back]
        split <;> split <;> omega) hd
      rw [e]
      simp only [List.length_cons, mostM]
      omega
    | wrap a b t =>
      rcases hg _ (List.mem_cons_self) with hab | ht
      · have h1 := mostM_run m r (Stp.back (.wrap a b t) f) y (x + y) z c hr (by omega) (fun l => by
          have := hy a b hab; have := hx l
          simp only [Stp.back]; split <;> omega) (fun l o hlm => by
          have := hy a b hab; have := hx l; have := hx o
          simp only [Stp.back]
          split
          · split
            · subst_vars; exact absurd rfl hlm
            · omega
          · split <;> omega) hd
        rw [e]
        simp only [List.length_cons, mostM]
        omega
      · subst ht
        have h1 := top_out f (runD r.reverse c) (a := a) (b := b)
        have h2 := mostM_run m r f x y (z + x) c hr hxy hx hy hd
        have h3 := hx b
        rw [e]
        simp only [List.length_cons, mostM]
        omega
theorem mostM_le (m : Nat) : ∀ (n k x y z : Nat), n ≤ k → mostM m n x y z ≤ mostM m k x y z
  | n, 0, x, y, z, h => by
    have : n = 0 := by omega
    subst this; exact Nat.le_refl _
  | n, k + 1, x, y, z, h => by
    by_cases e : n = k + 1
    · subst e; exact Nat.le_refl _
    · have := mostM_le m n k x y z (by omega)
      simp only [mostM]
      omega
/-- five steps make at most 169 of 13 -/
theorem dp_run5 {ss : List Stp} {c : List Nd} (hs : ∀ s ∈ ss, SGrow s) (hl : ss.length ≤ 5) (hd : dpL c ≤ 13) : dpL (runD ss c) ≤ 169 := by
  have h1 := mostM_run 13 ss.reverse (fun _ => 1) 1 2 0 c (fun s h => hs s (by simpa using h)) (by omega) (fun _ => Nat.le_refl _) (fun _ _ _ => Nat.le_refl _) hd
  rw [List.reverse_reverse, ← dp_wgL, List.length_reverse] at h1
  have h2 := mostM_le 13 ss.length 5 1 2 0 hl
  have h3 : mostM 13 5 1 2 0 = 169 := by decide +kernel
  omega
theorem sz_ch : ∀ (w : List Str) (c : List Nd), szL (chC w c) = w.length + szL c
  | [], c => by simp [chC]
  | l :: r, c => by simp [chC, szL, szN, sz_ch r c]; omega
theorem dp_ch : ∀ (w : List Str) (c : List Nd), dpL (chC w c) = w.length + dpL c
  | [], c => by simp [chC]
  | l :: r, c => by simp [chC, dpL, dpN, dp_ch r c]; omega
end Sm

set_option Elab.async false
set_option linter.all false
set_option maxRecDepth 100000
set_option maxHeartbeats 4000000
/-! Ty16: documents as texts: a parser, its laws. -/
namespace Sm
open PySem PySem.Spec L2
open PyProof.Rows hiding St
abbrev SS (l : List Nat) : Str := ⟨l.toArray⟩
def sepc (c : Nat) : Bool := c == 32 || c == 40 || c == 41
def lbl (s : List Nat) : List Nat := s.takeWhile fun c => !sepc c
def rst (s : List Nat) : List Nat := s.dropWhile fun c => !sepc c
abbrev PR := List Nat → Option (List Nd × List Nat)
def innP (p : PR) (r : List Nat) : Option (List Nd × List Nat) := if r.head? = some 40 then (p r.tail).bind fun q => if q.2.head? = some 41 then some (q.1, q.2.tail) else none else some ([], r)
def nxtP (p : PR) (x : Nd) (r : List Nat) : Option (List Nd × List Nat) := if r.head? = some 32 then (p r.tail).map fun q => (x :: q.1, q.2) else some ([x], r)
def P0 (g : List Nat → Bool) (p : PR) (s : List Nat) : Option (List Nd × List Nat) := if g (lbl s) = true then (innP p (rst s)).bind fun q => nxtP p (.mk (SS (lbl s)) q.1) q.2 else none
def PF (g : List Nat → Bool) : Nat → PR
  | 0 => fun _ => none
  | f + 1 => P0 g (PF g f)
def PP (g : List Nat → Bool) (s : List Nat) : Option (List Nd × List Nat) := PF g (s.length + 1) s
/-- labels are not empty, no sign of theirs parts -/
def GoodG (g : List Nat → Bool) : Prop := ∀ l, g l = true → l ≠ [] ∧ ∀ c ∈ l, sepc c = false
section
variable {g : List Nat → Bool}
theorem lbl_rst (s : List Nat) : lbl s ++ rst s = s := List.takeWhile_append_dropWhile
theorem rst_len (s : List Nat) : (lbl s).length + (rst s).length = s.length := by
  have := congrArg List.length (lbl_rst s)
  simpa using this
theorem tail_len (r : List Nat) (c : Nat) (h : r.head? = some c) : r = c :: r.tail := by
  cases r with
  | nil => cases h
  | cons x t => simp at h; subst h; rfl
/-- what is left is shorter -/
theorem pf_len (hg : GoodG g) : ∀ (f : Nat) (s : List Nat) {c : List Nd} {r : List Nat}, PF g f s = some (c, r) → r.length < s.length
  | 0, s, c, r, h => by cases h
  | f + 1, s, c, r, h => by
    unfold PF P0 at h
    split at h
    · rename_i hgl
      have h1 := rst_len s
      have h2 : 1 ≤ (lbl s).length := by
        have := (hg _ hgl).1
        cases e : lbl s with
        | nil => exact absurd e this
        | cons x t => simp
      cases e : innP (PF g f) (rst s) with
      | none => rw [e] at h; cases h
      | some q =>
        rw [e] at h
        simp only [Option.bind_some] at h
        have hq : q.2.length ≤ (rst s).length := by
          unfold innP at e
          split at e
          · cases e2 : PF g f (rst s).tail with
            | none => rw [e2] at e; cases e
            | some q2 =>
              rw [e2] at e
              simp only [Option.bind_some] at e
              split at e
              · have := pf_len hg f _ e2
                simp at e
                subst e
                simp only [List.length_tail] at *
                omega
              · cases e
          · simp at e
            subst e
            exact Nat.le_refl _
        unfold nxtP at h
        split at h
        · cases e2 : PF g f q.2.tail with
          | none => rw [e2] at h; cases h
          | some q2 =>
            rw [e2] at h
            have := pf_len hg f _ e2
            simp at h
            obtain ⟨_, rfl⟩ := h
            simp only [List.length_tail] at this
            omega
        · simp at h
          obtain ⟨_, rfl⟩ := h
          omega
    · cases h
/-- fuel beyond the length does not matter -/
theorem pf_fuel (hg : GoodG g) : ∀ (n : Nat) (s : List Nat) (f f' : Nat), s.length ≤ n → s.length < f → s.length < f' → PF g f s = PF g f' s := by
  intro n
  induction n with
  | zero =>
    intro s f f' hs hf hf'
    have : s = [] := List.length_eq_zero_iff.mp (by omega)
    subst this
    have e : g (lbl []) = false := by
      cases h : g (lbl []) with
      | false => rfl
      | true => exact absurd rfl (hg _ h).1
    cases f with
    | zero => omega
    | succ f => cases f' with
      | zero => omega
      | succ f' => simp [PF, P0, e]
  | succ n ih =>
    intro s f f' hs hf hf'
    cases f with
    | zero => omega
    | succ f => cases f' with
      | zero => omega
      | succ f' =>
        simp only [PF, P0]
        split
        · rename_i hgl
          have h1 := rst_len s
          have h2 : 1 ≤ (lbl s).length := by
            have := (hg _ hgl).1
            cases e : lbl s with
            | nil => exact absurd e this
            | cons x t => simp
          have ei : innP (PF g f) (rst s) = innP (PF g f') (rst s) := by
            unfold innP
            split
            · have : (rst s).tail.length ≤ (rst s).length - 1 := by simp
              rename_i hh
              have h3 := congrArg List.length (tail_len _ _ hh)
              simp only [List.length_cons] at h3
              rw [ih (rst s).tail f f' (by omega) (by omega) (by omega)]
            · rfl
          rw [ei]
          cases e : innP (PF g f') (rst s) with
          | none => rfl
          | some q =>
            simp only [Option.bind_some]
            have hq : q.2.length ≤ (rst s).length := by
              unfold innP at e
              split at e
              · cases e2 : PF g f' (rst s).tail with
                | none => rw [e2] at e; cases e
                | some q2 =>
                  rw [e2] at e
                  simp only [Option.bind_some] at e
                  split at e
                  · have := pf_len hg f' _ e2
                    simp at e
                    subst e
                    simp only [List.length_tail] at *
                    omega
                  · cases e
              · simp at e
                subst e
                exact Nat.le_refl _
            unfold nxtP
            split
            · rename_i hh
              have h3 := congrArg List.length (tail_len _ _ hh)
              simp only [List.length_cons] at h3
              rw [ih q.2.tail f f' (by omega) (by omega) (by omega)]
            · rfl
        · rfl
theorem pp_len (hg : GoodG g) {s : List Nat} {c : List Nd} {r : List Nat} (h : PP g s = some (c, r)) : r.length < s.length := pf_len hg _ _ h
theorem innP_congr {p p' : PR} {r : List Nat} (h : ∀ t, r = 40 :: t → p t = p' t) : innP p r = innP p' r := by
  unfold innP
  split
  · rename_i hh
    rw [h _ (tail_len _ _ hh)]
  · rfl
theorem nxtP_congr {p p' : PR} {x : Nd} {r : List Nat} (h : ∀ t, r = 32 :: t → p t = p' t) : nxtP p x r = nxtP p' x r := by
  unfold nxtP
  split
  · rename_i hh
    rw [h _ (tail_len _ _ hh)]
  · rfl
theorem innP_len (hg : GoodG g) {r : List Nat} {q : List Nd × List Nat} (e : innP (PP g) r = some q) : q.2.length ≤ r.length := by
  unfold innP at e
  split at e
  · cases e2 : PP g r.tail with
    | none => rw [e2] at e; cases e
    | some q2 =>
      rw [e2] at e
      simp only [Option.bind_some] at e
      split at e
      · have := pp_len hg (c := q2.1) (r := q2.2) e2
        simp at e
        subst e
        simp only [List.length_tail] at *
        omega
      · cases e
  · simp at e
    subst e
    exact Nat.le_refl _
/-- one turn -/
theorem pp_eq (hg : GoodG g) (s : List Nat) : PP g s = P0 g (PP g) s := by
  show P0 g (PF g s.length) s = P0 g (PP g) s
  unfold P0
  split
  · rename_i hgl
    have h1 := rst_len s
    have h2 : 1 ≤ (lbl s).length := by
      have := (hg _ hgl).1
      cases e : lbl s with
      | nil => exact absurd e this
      | cons x t => simp
    have ei : innP (PF g s.length) (rst s) = innP (PP g) (rst s) := innP_congr fun t ht => by
      have h3 := congrArg List.length ht
      simp only [List.length_cons] at h3
      exact pf_fuel hg _ t _ _ (Nat.le_refl _) (by omega) (by omega)
    rw [ei]
    cases e : innP (PP g) (rst s) with
    | none => rfl
    | some q =>
      simp only [Option.bind_some]
      have hq := innP_len hg e
      exact nxtP_congr fun t ht => by
        have h3 := congrArg List.length ht
        simp only [List.length_cons] at h3
        exact pf_fuel hg _ t _ _ (Nat.le_refl _) (by omega) (by omega)
  · rfl
end
/-! ### the text of a document -/
mutual
def wrN : Nd → List Nat
  | .mk l c => l.cps.toList ++ (if c.isEmpty then [] else 40 :: (wrL c ++ [41]))
def wrL : List Nd → List Nat
  | [] => []
  | x :: r => wrN x ++ (if r.isEmpty then [] else 32 :: wrL r)
end
mutual
def okN (g : List Nat → Bool) : Nd → Prop
  | .mk l c => g l.cps.toList = true ∧ okL g c
def okL (g : List Nat → Bool) : List Nd → Prop
  | [] => True
  | x :: r => okN g x ∧ okL g r
end
section
variable {g : List Nat → Bool}
theorem pp_sound (hg : GoodG g) : ∀ (n : Nat) (s : List Nat) {c : List Nd} {r : List Nat}, s.length ≤ n → PP g s = some (c, r) → s = wrL c ++ r ∧ okL g c ∧ c ≠ [] := by
  intro n
  induction n with
  | zero =>
    intro s c r hs h
    have := pp_len hg h
    omega
  | succ n ih =>
    intro s c r hs h
    rw [pp_eq hg] at h
    unfold P0 at h
    split at h
    · rename_i hgl
      have h1 := rst_len s
      have h2 : 1 ≤ (lbl s).length := by
        have := (hg _ hgl).1
        cases e : lbl s with
        | nil => exact absurd e this
        | cons x t => simp
      cases e : innP (PP g) (rst s) with
      | none => rw [e] at h; cases h
      | some q =>
        rw [e] at h
        simp only [Option.bind_some] at h
        have hq := innP_len hg e
        have hx : rst s = (if q.1.isEmpty then [] else 40 :: (wrL q.1 ++ [41])) ++ q.2 ∧ okL g q.1 := by
          unfold innP at e
          split at e
          · rename_i hh
            have ht := tail_len _ _ hh
            have h3 := congrArg List.length ht
            simp only [List.length_cons] at h3
            cases e2 : PP g (rst s).tail with
            | none => rw [e2] at e; cases e
            | some q2 =>
              rw [e2] at e
              simp only [Option.bind_some] at e
              split at e
              · rename_i h41
                obtain ⟨a, b, d⟩ := ih (rst s).tail (c := q2.1) (r := q2.2) (by omega) e2
                simp at e
                subst e
                have ne : q2.1.isEmpty = false := by
                  cases q3 : q2.1 with
                  | nil => exact absurd q3 d
                  | cons x t => rfl
                refine ⟨?_, b⟩
                rw [ht, a]
                simp only [ne, Bool.false_eq_true, if_false]
                have h5 := tail_len _ _ h41
                simp only [List.cons_append, List.append_assoc, List.nil_append]
                rw [← h5]
              · cases e
          · simp at e
            subst e
            exact ⟨rfl, trivial⟩
        have hs2 : s = lbl s ++ rst s := (lbl_rst s).symm
        have e5 : (SS (lbl s)).cps.toList = lbl s := by simp
        unfold nxtP at h
        split at h
        · rename_i hh
          have ht := tail_len _ _ hh
          have h3 := congrArg List.length ht
          simp only [List.length_cons] at h3
          cases e2 : PP g q.2.tail with
          | none => rw [e2] at h; cases h
          | some q2 =>
            rw [e2] at h
            obtain ⟨a, b, d⟩ := ih q.2.tail (c := q2.1) (r := q2.2) (by omega) e2
            simp at h
            obtain ⟨rfl, rfl⟩ := h
            have ne : q2.1.isEmpty = false := by
              cases q3 : q2.1 with
              | nil => exact absurd q3 d
              | cons x t => rfl
            refine ⟨?_, ⟨⟨by rw [e5]; exact hgl, hx.2⟩, b⟩, by simp⟩
            unfold wrL wrN
            rw [e5]
            simp only [ne, Bool.false_eq_true, if_false, List.append_assoc, List.cons_append]
            rw [← a, ← ht]
            rw [← List.append_assoc] 
            exact hs2.trans (by rw [hx.1, List.append_assoc])
        · simp at h
          obtain ⟨rfl, rfl⟩ := h
          refine ⟨?_, ⟨⟨by rw [e5]; exact hgl, hx.2⟩, trivial⟩, by simp⟩
          unfold wrL wrN
          rw [e5]
          simp only [List.isEmpty_nil, if_true, List.append_nil, List.append_assoc]
          rw [← hx.1]
          exact hs2
    · cases h
end
end Sm
namespace Sm
open PySem PySem.Spec L2
open PyProof.Rows hiding St
section
variable {g : List Nat → Bool}
theorem span_at {l t : List Nat} (hl : ∀ c ∈ l, sepc c = false) (ht : t = [] ∨ ∃ c u, t = c :: u ∧ sepc c = true) : lbl (l ++ t) = l ∧ rst (l ++ t) = t := by
  have h1 : lbl (l ++ t) = l := by
    unfold lbl
    rw [List.takeWhile_append_of_pos (fun c hc => by simp [hl c hc])]
    rcases ht with rfl | ⟨c, u, rfl, hc⟩
    · simp
    · simp [hc]
  refine ⟨h1, ?_⟩
  have h2 := lbl_rst (l ++ t)
  rw [h1] at h2
  exact List.append_cancel_left h2
theorem wrL_cons (x : Nd) (r : List Nd) : wrL (x :: r) = wrN x ++ (if r.isEmpty then [] else 32 :: wrL r) := by rw [wrL]
theorem wrN_mk (l : Str) (c : List Nd) : wrN (.mk l c) = l.cps.toList ++ (if c.isEmpty then [] else 40 :: (wrL c ++ [41])) := by rw [wrN]
theorem pp_complete (hg : GoodG g) : ∀ (n : Nat) (c : List Nd) (r : List Nat), szL c ≤ n → c ≠ [] → okL g c → (r = [] ∨ r.head? = some 41) → PP g (wrL c ++ r) = some (c, r) := by
  intro n
  induction n with
  | zero =>
    intro c r hs hne hok hr
    cases c with
    | nil => exact absurd rfl hne
    | cons x rest => cases x; simp [szL, szN] at hs
  | succ n ih =>
    intro c r hs hne hok hr
    cases c with
    | nil => exact absurd rfl hne
    | cons x rest =>
      obtain ⟨l, cc⟩ := x
      have hz : szL cc ≤ n ∧ szL rest ≤ n := by
        simp only [szL, szN] at hs
        omega
      obtain ⟨⟨hgl, hcc⟩, hrest⟩ := hok
      obtain ⟨hl0, hl⟩ := hg _ hgl
      -- what is behind the node
      obtain ⟨u, hu⟩ : ∃ u, u = (if rest.isEmpty then [] else 32 :: wrL rest) ++ r := ⟨_, rfl⟩
      have hu2 : u = [] ∨ ∃ c v, u = c :: v ∧ sepc c = true := by
        cases rest with
        | nil =>
          simp at hu
          rcases hr with q | q
          · exact .inl (hu.trans q)
          · exact .inr ⟨41, r.tail, hu.trans (tail_len _ _ q), rfl⟩
        | cons y t => exact .inr ⟨32, wrL (y :: t) ++ r, by simpa using hu, rfl⟩
      have hu3 : u.head? ≠ some 40 := by
        cases rest with
        | nil =>
          simp at hu
          rcases hr with q | q
          · rw [hu, q]; simp
          · rw [hu, q]; simp
        | cons y t => rw [hu]; simp
      have e1 : wrL (.mk l cc :: rest) ++ r = l.cps.toList ++ ((if cc.isEmpty then [] else 40 :: (wrL cc ++ [41])) ++ u) := by
        rw [wrL_cons, wrN_mk, hu]
        simp only [List.append_assoc]
      have e2 : innP (PP g) ((if cc.isEmpty then [] else 40 :: (wrL cc ++ [41])) ++ u) = some (cc, u) := by
        unfold innP
        cases cc with
        | nil =>
          simp only [List.isEmpty_nil, if_true, List.nil_append]
          rw [if_neg hu3]
        | cons y t =>
          have h1 := ih (y :: t) (41 :: u) hz.1 (by simp) hcc (.inr rfl)
          simp only [List.isEmpty_cons, Bool.false_eq_true, if_false, List.cons_append, List.append_assoc, List.nil_append, List.head?_cons, List.tail_cons, if_true]
          rw [h1]
          simp
      have e3 : (if cc.isEmpty then [] else 40 :: (wrL cc ++ [41])) ++ u = [] ∨ ∃ c v, (if cc.isEmpty then [] else 40 :: (wrL cc ++ [41])) ++ u = c :: v ∧ sepc c = true := by
        cases cc with
        | nil => simpa using hu2
        | cons y t => exact .inr ⟨40, _, by simp; rfl, rfl⟩
      obtain ⟨s1, s2⟩ := span_at hl e3
      rw [e1, pp_eq hg]
      unfold P0
      rw [s1, s2, if_pos hgl, e2]
      simp only [Option.bind_some]
      have e4 : SS l.cps.toList = l := by
        cases l
        simp
      rw [e4]
      unfold nxtP
      cases rest with
      | nil =>
        simp at hu
        have : u.head? ≠ some 32 := by
          rcases hr with q | q
          · rw [hu, q]; simp
          · rw [hu, q]; simp
        rw [if_neg this, hu]
      | cons y t =>
        have h1 := ih (y :: t) r hz.2 (by simp) hrest hr
        simp at hu
        rw [hu]
        simp only [List.head?_cons, if_true, List.tail_cons]
        rw [h1]
        rfl
theorem dp_count : ∀ (n : Nat) (c : List Nd), szL c ≤ n → dpL c ≤ (wrL c).count 40 + 1 := by
  intro n
  induction n with
  | zero =>
    intro c hs
    cases c with
    | nil => simp [dpL]
    | cons x r => cases x; simp [szL, szN] at hs
  | succ n ih =>
    intro c hs
    cases c with
    | nil => simp [dpL]
    | cons x r =>
      obtain ⟨l, cc⟩ := x
      simp only [szL, szN] at hs
      have h1 := ih cc (by omega)
      have h2 := ih r (by omega)
      rw [wrL_cons, wrN_mk]
      simp only [dpL, dpN, List.count_append]
      have h3 : 1 + dpL cc ≤ (if cc.isEmpty then ([] : List Nat) else 40 :: (wrL cc ++ [41])).count 40 + 1 := by
        cases cc with
        | nil => simp [dpL]
        | cons y t =>
          simp only [List.isEmpty_cons, Bool.false_eq_true, if_false, List.count_cons, List.count_append]
          simp
          omega
      have h4 : dpL r ≤ (if r.isEmpty then ([] : List Nat) else 32 :: wrL r).count 40 + 1 := by
        cases r with
        | nil => simp [dpL]
        | cons y t =>
          simp only [List.isEmpty_cons, Bool.false_eq_true, if_false, List.count_cons]
          simp
          omega
      omega
theorem wr_len (g : List Nat → Bool) (h8 : ∀ l, g l = true → l.length ≤ 8) : ∀ (n : Nat) (c : List Nd), szL c ≤ n → okL g c → (wrL c).length ≤ 11 * szL c ∧ (wrL c).count 40 ≤ szL c + (11 * szL c) := by
  intro n
  induction n with
  | zero =>
    intro c hs _
    cases c with
    | nil => simp [wrL, szL]
    | cons x r => cases x; simp [szL, szN] at hs
  | succ n ih =>
    intro c hs hok
    have h0 : (wrL c).length ≤ 11 * szL c := by
      cases c with
      | nil => simp [wrL]
      | cons x r =>
        obtain ⟨l, cc⟩ := x
        obtain ⟨⟨a, b⟩, d⟩ := hok
        simp only [szL, szN] at hs ⊢
        have h1 := (ih cc (by omega) b).1
        have h2 := (ih r (by omega) d).1
        have h3 := h8 _ a
        rw [wrL_cons, wrN_mk]
        simp only [List.length_append]
        have h4 : (if cc.isEmpty then ([] : List Nat) else 40 :: (wrL cc ++ [41])).length ≤ (wrL cc).length + 2 := by
          split <;> simp
        have h5 : (if r.isEmpty then ([] : List Nat) else 32 :: wrL r).length ≤ (wrL r).length + 1 := by
          split <;> simp
        omega
    have h6 := List.count_le_length (a := 40) (l := wrL c)
    exact ⟨h0, by omega⟩
/-- brackets: fewer than nodes -/
theorem count_sz (hg : GoodG g) : ∀ (n : Nat) (c : List Nd), szL c ≤ n → okL g c → (wrL c).count 40 ≤ szL c := by
  intro n
  induction n with
  | zero =>
    intro c hs _
    cases c with
    | nil => simp [wrL]
    | cons x r => cases x; simp [szL, szN] at hs
  | succ n ih =>
    intro c hs hok
    cases c with
    | nil => simp [wrL]
    | cons x r =>
      obtain ⟨l, cc⟩ := x
      obtain ⟨⟨a, b⟩, d⟩ := hok
      simp only [szL, szN] at hs ⊢
      have h1 := ih cc (by omega) b
      have h2 := ih r (by omega) d
      have h3 : (l.cps.toList).count 40 = 0 := List.count_eq_zero.mpr fun hm => by
        have := (hg _ a).2 40 hm
        cases this
      rw [wrL_cons, wrN_mk]
      simp only [List.count_append, h3]
      have h4 : (if cc.isEmpty then ([] : List Nat) else 40 :: (wrL cc ++ [41])).count 40 ≤ (wrL cc).count 40 + 1 := by
        split
        · simp
        · simp
      have h5 : (if r.isEmpty then ([] : List Nat) else 32 :: wrL r).count 40 ≤ (wrL r).count 40 := by
        split
        · simp
        · simp
      omega
end
end Sm
namespace Sm
open PySem PySem.Spec L2
open PyProof.Rows hiding St
/-- how deep brackets open -/
def mx : List Nat → Nat
  | [] => 0
  | c :: s => if c = 40 then mx s + 1 else if c = 41 then mx s - 1 else mx s
theorem mx_cons_le (c : Nat) (s : List Nat) : mx (c :: s) ≤ mx s + 1 ∧ mx s ≤ mx (c :: s) + 1 := by
  show (if c = 40 then mx s + 1 else if c = 41 then mx s - 1 else mx s) ≤ mx s + 1 ∧ mx s ≤ (if c = 40 then mx s + 1 else if c = 41 then mx s - 1 else mx s) + 1
  split
  · omega
  · split <;> omega
theorem mx_app {b b' : List Nat} {d : Nat} (h : mx b ≤ mx b' + d) : ∀ a : List Nat, mx (a ++ b) ≤ mx (a ++ b') + d
  | [] => h
  | c :: a => by
    have := mx_app h a
    show (if c = 40 then mx (a ++ b) + 1 else if c = 41 then mx (a ++ b) - 1 else mx (a ++ b)) ≤ (if c = 40 then mx (a ++ b') + 1 else if c = 41 then mx (a ++ b') - 1 else mx (a ++ b')) + d
    split
    · omega
    · split <;> omega
theorem mx_lab : ∀ {l : List Nat} (_ : ∀ c ∈ l, sepc c = false) (r : List Nat), mx (l ++ r) = mx r
  | [], _, r => rfl
  | c :: l, h, r => by
    have h1 := h c (by simp)
    have h2 := mx_lab (l := l) (fun x hx => h x (by simp [hx])) r
    show (if c = 40 then mx (l ++ r) + 1 else if c = 41 then mx (l ++ r) - 1 else mx (l ++ r)) = mx r
    have n1 : ¬ c = 40 := fun e => by subst e; cases h1
    have n2 : ¬ c = 41 := fun e => by subst e; cases h1
    rw [if_neg n1, if_neg n2, h2]
section
variable {g : List Nat → Bool}
theorem mx_wr (hg : GoodG g) : ∀ (n : Nat) (c : List Nd) (r : List Nat), szL c ≤ n → okL g c → mx r ≤ mx (wrL c ++ r) ∧ mx (wrL c ++ r) ≤ max (dpL c) (mx r) ∧ dpL c ≤ mx (wrL c ++ r) + 1 := by
  intro n
  induction n with
  | zero =>
    intro c r hs _
    cases c with
    | nil => simp [wrL, dpL]
    | cons x t => cases x; simp [szL, szN] at hs
  | succ n ih =>
    intro c r hs hok
    cases c with
    | nil => simp [wrL, dpL]
    | cons x rest =>
      obtain ⟨l, cc⟩ := x
      obtain ⟨⟨a, b⟩, d⟩ := hok
      simp only [szL, szN] at hs
      obtain ⟨u, hu⟩ : ∃ u, u = (if rest.isEmpty then [] else 32 :: wrL rest) ++ r := ⟨_, rfl⟩
      have e1 : wrL (.mk l cc :: rest) ++ r = l.cps.toList ++ ((if cc.isEmpty then [] else 40 :: (wrL cc ++ [41])) ++ u) := by
        rw [wrL_cons, wrN_mk, hu]
        simp only [List.append_assoc]
      rw [e1, mx_lab (hg _ a).2]
      have hU : mx r ≤ mx u ∧ mx u ≤ max (dpL rest) (mx r) ∧ dpL rest ≤ mx u + 1 := by
        cases rest with
        | nil => simp at hu; subst hu; simp [dpL]
        | cons y t =>
          have h1 := ih (y :: t) r (by omega) d
          have h2 : mx u = mx (wrL (y :: t) ++ r) := by
            rw [hu]
            simp [mx]
          rw [h2]
          exact h1
      simp only [dpL, dpN]
      cases cc with
      | nil =>
        simp only [List.isEmpty_nil, if_true, List.nil_append, dpL]
        omega
      | cons y t =>
        have h1 := ih (y :: t) (41 :: u) (by omega) b
        have h2 : mx (41 :: u) = mx u - 1 := by simp [mx]
        have h3 : mx ((if (y :: t).isEmpty then [] else 40 :: (wrL (y :: t) ++ [41])) ++ u) = mx (wrL (y :: t) ++ 41 :: u) + 1 := by
          simp [mx]
        rw [h3]
        rw [h2] at h1
        omega
end
end Sm

set_option Elab.async false
set_option linter.all false
set_option maxRecDepth 100000
set_option maxHeartbeats 4000000
namespace Sm
open PySem PySem.Spec L2
open PyProof.Rows hiding St
def lets : Str := "abcdefghijklmnopqrstuvwxyz"
def sgn : D → Bool
  | .str i => inStr i lets
  | _ => false
def lab : D → Bool
  | .str z => decide (1 ≤ (z.length : Int)) && decide ((z.length : Int) ≤ 8) && (signs z).all sgn
  | _ => false
def Tx (d : D) : Prop := ∀ z, d = .str z → z.length ≤ 16777216
section
variable {Q : D → Prop} {E : Ex → Prop} {d : D}
theorem sgn_of {z : Str} : ∀ x ∈ signs z, ∃ i, x = .str i := fun x h => by
  unfold signs at h
  obtain ⟨c, _, rfl⟩ := List.mem_map.mp h
  exact ⟨_, rfl⟩
theorem filterMap_some {α β : Type} (f : α → β) : ∀ xs : List α, xs.filterMap (fun x => some (f x)) = xs.map f
  | [] => rfl
  | x :: r => by simp [filterMap_some f r]
theorem is_label_ok (h : Tx d) (hq : Q (.bool (lab d))) : u_is_label [d] Q E := by
  show m_is_label d Q E
  unfold m_is_label
  cases d with
  | str z =>
    have hz := sizeLine_ge _ (h z rfl)
    simp [isInst, tyName, w_ite, hz, c_MOST_SIGNS, c_LETTERS]
    by_cases h1 : 1 ≤ (z.length : Int)
    · by_cases h2 : (z.length : Int) ≤ 8
      · rw [if_pos h1, if_pos h2]
        refine mapC_fn (fun x => some (.bool (sgn x))) (fun x hx Q' hq' => ?_) ?_
        · obtain ⟨i, rfl⟩ := sgn_of x hx
          simpa [sgn, lets] using hq'
        · rw [filterMap_some]
          have e : (signs z).map (fun x => PyData.bool (sgn x)) = ((signs z).map sgn).map .bool := by rw [List.map_map]; rfl
          rw [e]
          unfold allM
          show boolsM (((signs z).map sgn).map .bool) _ E
          refine boolsM_of ?_
          simpa [lab, h1, h2, Function.comp_def] using hq
      · simpa [h1, h2, lab] using hq
    · simpa [h1, lab] using hq
  | _ => simpa [isInst, tyName, w_ite, lab] using hq
theorem law_is_label_ok (h : Tx d) (hq : Q (.bool (lab d))) : u__law_is_label [d] Q E := by
  show m__law_is_label d Q E
  unfold m__law_is_label
  cases d with
  | str z =>
    have hz := sizeLine_ge _ (h z rfl)
    simp [isInst, tyName, w_ite, hz]
    by_cases h1 : 1 ≤ (z.length : Int)
    · by_cases h2 : (z.length : Int) ≤ 8
      · rw [if_pos h1, if_pos h2]
        refine mapC_fn (fun x => if sgn x then none else some x) (fun x hx Q' hq' => ?_) ?_
        · obtain ⟨i, rfl⟩ := sgn_of x hx
          cases e : inStr i lets with
          | true =>
            have e' : inStr i "abcdefghijklmnopqrstuvwxyz" = true := e
            simp [e', w_ite]
            simpa [sgn, e] using hq'
          | false =>
            have e' : inStr i "abcdefghijklmnopqrstuvwxyz" = false := e
            simp [e', w_ite]
            simpa [sgn, e] using hq'
        · refine ⟨by rw [depth_nil]; exact min_one _, ?_⟩
          rw [eqv_list_nil]
          have e : ((signs z).filterMap fun x => if sgn x = true then none else some x).isEmpty = (signs z).all sgn := by
            induction signs z with
            | nil => rfl
            | cons x r ih => cases e : sgn x <;> simp [e, List.filterMap_cons] at ih ⊢ <;> simpa using ih
          rw [e]
          simpa [lab, h1, h2] using hq
      · simpa [h1, h2, lab] using hq
    · simpa [h1, lab] using hq
  | _ => simpa [isInst, tyName, w_ite, lab] using hq
theorem pick_ok {n : Int} (h : 1 ≤ n) (h2 : n < 1073741824) (hq : ∀ i : Int, 0 ≤ i → i < n → Q (.int i)) : u__law_pick [.int n] Q E := by
  show m__law_pick (.int n) Q E
  unfold m__law_pick
  have hn : n ≠ 0 := by omega
  simp [w_ite, hn]
  have b1 : ∀ i : Int, 0 ≤ i.fmod n ∧ i.fmod n < n := fun i => ⟨Int.fmod_nonneg_of_pos i (by omega), Int.fmod_lt_of_pos i (by omega)⟩
  intro i
  split
  · exact fun i j => ⟨⟨hn, by omega⟩, hq _ (b1 i).1 (b1 i).2⟩
  · refine fun i h1 h2 => ⟨.inr (by decide), ?_, fun i h1 h2 j h3 h4 => ⟨.inl ⟨by omega, by omega⟩, ⟨by decide, by decide⟩, hq _ (b1 _).1 (b1 _).2⟩⟩
    have := Int.fmod_nonneg_of_pos (i * 44497 + 9973) (b := 2147483647) (by decide)
    have := Int.fmod_lt_of_pos (i * 44497 + 9973) (b := 2147483647) (by decide)
    omega
theorem atI_nat' {xs : List D} {i : Int} (h0 : 0 ≤ i) (h : i < (xs.length : Int)) : ∃ d, atI xs i = some d ∧ d ∈ xs := by
  have hk : i.toNat < xs.length := by omega
  refine ⟨xs[i.toNat], ?_, List.getElem_mem hk⟩
  unfold atI ixN
  rw [if_pos h0, if_pos h]
  simp [hk]
theorem chosen_ok {xs : List D} (h : 1 ≤ xs.length) (h2 : xs.length < 1073741824) (hq : ∀ d ∈ xs, Q d) : u__law_chosen [.list xs] Q E := by
  show m__law_chosen (.list xs) Q E
  unfold m__law_chosen
  simp
  refine pick_ok (by omega) (by omega) fun i h0 h1 => ?_
  obtain ⟨d, e, hd⟩ := atI_nat' h0 h1
  simpa [e] using hq d hd
theorem is_wide_ok {lo hi : Int} (hq : Q (.bool (match d with | .tuple xs => decide (lo ≤ (xs.length : Int)) && decide ((xs.length : Int) ≤ hi) | _ => false))) : u_is_wide [d, .int lo, .int hi] Q E := by
  show m_is_wide d (.int lo) (.int hi) Q E
  unfold m_is_wide
  cases d with
  | tuple xs =>
    simp [isInst, tyName, w_ite]
    by_cases h1 : lo ≤ (xs.length : Int)
    · simpa [h1] using hq
    · simpa [h1] using hq
  | _ => simpa [isInst, tyName, w_ite] using hq
theorem law_wide_ok {lo hi : Int} (hq : Q (.bool (match d with | .tuple xs => decide (lo ≤ (xs.length : Int)) && decide ((xs.length : Int) ≤ hi) | _ => false))) : u__law_wide [d, .int lo, .int hi] Q E := by
  show m__law_wide d (.int lo) (.int hi) Q E
  unfold m__law_wide
  cases d with
  | tuple xs =>
    simp [isInst, tyName, w_ite]
    by_cases h1 : lo ≤ (xs.length : Int)
    · simpa [h1] using hq
    · simpa [h1] using hq
  | _ => simpa [isInst, tyName, w_ite] using hq
end
/-! ### documents -/
mutual
def gd : D → Bool
  | .tuple xs => gdL xs
  | _ => false
def gdL : List D → Bool
  | [] => true
  | x :: r => gdN x && gdL r
def gdN : D → Bool
  | .tuple [a, b] => lab a && gd b
  | _ => false
end
mutual
def wt : D → Nat
  | .str z => z.length + 1
  | .tuple xs => 1 + wtL xs
  | .list xs => 1 + wtL xs
  | _ => 1
def wtL : List D → Nat
  | [] => 0
  | x :: r => wt x + wtL r
end
mutual
def cnt : D → Nat
  | .tuple xs => cntL xs
  | _ => 0
def cntL : List D → Nat
  | [] => 0
  | x :: r => cntN x + cntL r
def cntN : D → Nat
  | .tuple [_, b] => 1 + cnt b
  | _ => 1
end
theorem wt_pos : ∀ d : D, 1 ≤ wt d := fun d => by cases d <;> simp [wt] <;> omega
theorem wtL_len : ∀ xs : List D, xs.length ≤ wtL xs
  | [] => Nat.le_refl _
  | x :: r => by have := wtL_len r; have := wt_pos x; simp [wtL]; omega
theorem wtL_append : ∀ xs ys : List D, wtL (xs ++ ys) = wtL xs + wtL ys
  | [], ys => by simp [wtL]
  | x :: r, ys => by have := wtL_append r ys; simp [wtL]; omega
theorem wtL_mem : ∀ {xs : List D} {d : D}, d ∈ xs → wt d ≤ wtL xs
  | x :: r, d, h => by
    rcases List.mem_cons.mp h with rfl | h
    · simp [wtL]
    · have := wtL_mem h; simp [wtL]; omega
theorem Tx.of {d : D} {n : Nat} (h : wt d ≤ n) (hn : n ≤ 16777216) : Tx d := fun z e => by subst e; simp [wt] at h; omega
theorem popM_snoc {t : List D} {d : D} {Q : D × List D → Prop} {E : Ex → Prop} : popM (t ++ [d]) Q E = Q (d, t) := by
  unfold popM
  simp
theorem snoc_of {s : List D} (h : s ≠ []) : ∃ t d, s = t ++ [d] := ⟨s.dropLast, s.getLast h, (List.dropLast_concat_getLast h).symm⟩
theorem ne_nil_test {s : List D} {C : Bool → Prop} {E : Ex → Prop} (h : C (!s.isEmpty)) : opNe (.list s) (.list []) C E := by
  rw [opNe_w, eqv_list_nil]
  exact ⟨by rw [depth_nil]; exact min_one _, h⟩
theorem gdL_all : ∀ xs : List D, gdL xs = xs.all gdN
  | [] => rfl
  | x :: r => by simp [gdL, gdL_all r]
section
variable {Q : D → Prop} {E : Ex → Prop} {d : D}
/-- a node: its label, its content -/
theorem node_cases (x : D) : (∃ a b, x = .tuple [a, b]) ∨ ((∀ a b, x ≠ .tuple [a, b]) ∧ gdN x = false) := by
  cases x with
  | tuple xs =>
    match xs with
    | [a, b] => exact .inl ⟨a, b, rfl⟩
    | [] => exact .inr ⟨by simp, by simp [gdN]⟩
    | [a] => exact .inr ⟨by simp, by simp [gdN]⟩
    | a :: b :: c :: r => exact .inr ⟨by simp, by simp [gdN]⟩
  | _ => exact .inr ⟨by simp, by simp [gdN]⟩
def is2 : D → Bool
  | .tuple [_, _] => true
  | _ => false
theorem wide2 {x : D} : (match x with | .tuple xs => decide ((2 : Int) ≤ (xs.length : Int)) && decide ((xs.length : Int) ≤ 2) | _ => false) = is2 x := by
  cases x with
  | tuple xs =>
    match xs with
    | [a, b] => simp [is2]
    | [] => simp [is2]
    | [a] => simp [is2]
    | a :: b :: c :: r =>
      simp [is2]
      omega
  | _ => rfl
theorem right_ok (hw : wt d ≤ 16000000) (hq : Q (.bool (gd d))) : u_is_right_document [d] Q E := by
  show m_is_right_document d Q E
  unfold m_is_right_document
  simp
  refine while_fn (fun s => wtL s ≤ 16000000 ∧ s.all gd = gd d) wtL (fun s => !s.isEmpty) (fun s hs C hC => ne_nil_test hC) (fun s hs hne Q' hl hr => ?_) (fun s hs he => ?_) ⟨by simpa [wtL] using hw, by simp⟩
  · obtain ⟨t, x, rfl⟩ := snoc_of (s := s) (by intro e; subst e; simp at hne)
    obtain ⟨h1, h2⟩ := hs
    simp only [w_bind, popM_snoc, w_pure]
    cases x with
    | tuple xs =>
      have hx : wtL t + wtL xs + 1 = wtL (t ++ [.tuple xs]) := by rw [wtL_append]; simp [wtL, wt]; omega
      simp [isInst, tyName]
      refine forR_inv (fun r w => wtL w + wtL r ≤ wtL t + wtL xs ∧ (w.all gd && gdL r) = gd d) (fun x r w hI Q2 k1 k2 => ?_) (fun w hI => ?_) xs t ⟨Nat.le_refl _, by rw [← h2]; simp [gd, Bool.and_comm]⟩
      · obtain ⟨i1, i2⟩ := hI
        simp [wtL] at i1
        simp
        refine is_wide_ok ?_
        rw [wide2]
        rcases node_cases x with ⟨a, b, rfl⟩ | ⟨hx2, hg⟩
        · simp [is2, wt, wtL] at i1 ⊢
          have ha : atI [a, b] 0 = some a := rfl
          have hb : atI [a, b] 1 = some b := rfl
          rw [ha]
          simp
          refine is_label_ok (Tx.of (n := 16000000) (by omega) (by decide)) ?_
          simp
          cases hlab : lab a with
          | true =>
            simp [hb]
            refine ⟨sizeLine_ge _ (by have := wtL_len w; omega), k1 _ ⟨by rw [wtL_append]; simp [wtL]; omega, ?_⟩⟩
            rw [← i2]
            simp [gdL, gdN, hlab, Bool.and_assoc]
          | false =>
            simp
            refine k2 _ (hr _ ?_)
            have : gd d = false := by rw [← i2]; simp [gdL, gdN, hlab]
            rw [this] at hq
            exact hq
        · have e : is2 x = false := by
            cases x with
            | tuple ys =>
              match ys with
              | [a, b] => exact absurd rfl (hx2 a b)
              | [] => rfl
              | [a] => rfl
              | a :: b :: c :: r => rfl
            | _ => rfl
          simp [e]
          refine k2 _ (hr _ ?_)
          have : gd d = false := by rw [← i2]; simp [gdL, hg]
          rw [this] at hq
          exact hq
      · refine hl _ ⟨by omega, ?_⟩ (by omega)
        simpa [gdL] using hI.2
    | _ =>
      simp [isInst, tyName]
      refine hr _ ?_
      have : gd d = false := by rw [← h2]; simp [gd]
      rw [this] at hq
      exact hq
  · have e : s = [] := by simpa using he
    subst e
    have : gd d = true := by rw [← hs.2]; rfl
    rw [this] at hq
    exact hq
end
/-! ### sizes -/
def con : D → D
  | .tuple [_, b] => b
  | _ => .none
def cs (ws : List D) : Nat := (ws.map cnt).sum
theorem cntL_con : ∀ {xs : List D}, gdL xs = true → cntL xs = xs.length + cs (xs.map con)
  | [], _ => rfl
  | x :: r, h => by
    simp [gdL] at h
    have ih := cntL_con h.2
    rcases node_cases x with ⟨a, b, rfl⟩ | ⟨_, hg⟩
    · simp [cntL, cntN, cs, con] at ih ⊢
      omega
    · rw [hg] at h; simp at h
theorem wt_con : ∀ {xs : List D}, gdL xs = true → wtL (xs.map con) + xs.length ≤ wtL xs
  | [], _ => Nat.le_refl _
  | x :: r, h => by
    simp [gdL] at h
    have ih := wt_con h.2
    rcases node_cases x with ⟨a, b, rfl⟩ | ⟨_, hg⟩
    · have := wt_pos a
      simp [wtL, con, wt] at ih ⊢
      omega
    · rw [hg] at h; simp at h
theorem gd_con : ∀ {xs : List D}, gdL xs = true → (xs.map con).all gd = true
  | [], _ => rfl
  | x :: r, h => by
    simp [gdL] at h
    have ih := gd_con h.2
    rcases node_cases x with ⟨a, b, rfl⟩ | ⟨_, hg⟩
    · simp [gdN] at h
      simp [con, h.1.2] at ih ⊢
      exact ih
    · rw [hg] at h; simp at h
theorem gd_tup (h : gd d = true) : ∃ xs, d = .tuple xs ∧ gdL xs = true := by
  cases d with
  | tuple xs => exact ⟨xs, rfl, by simpa [gd] using h⟩
  | _ => simp [gd] at h
theorem gdL_mem : ∀ {xs : List D} {x : D}, gdL xs = true → x ∈ xs → ∃ a b, x = .tuple [a, b] ∧ lab a = true ∧ gd b = true := fun {xs x} h hx => by
  rw [gdL_all] at h
  have h2 := List.all_eq_true.mp h x hx
  rcases node_cases x with ⟨a, b, rfl⟩ | ⟨_, hg⟩
  · simp [gdN] at h2; exact ⟨a, b, rfl, h2.1, h2.2⟩
  · rw [hg] at h2; cases h2
section
variable {Q : D → Prop} {E : Ex → Prop} {d : D}
theorem depth_mem {xs : List D} {x : D} (h : x ∈ xs) : x.depth ≤ PyData.depthAll xs := by
  induction xs with
  | nil => cases h
  | cons y r ih =>
    rcases List.mem_cons.mp h with rfl | h
    · simp [PyData.depthAll]; omega
    · have := ih h; simp [PyData.depthAll]; omega
theorem dp_tup {xs : List D} : (PyData.tuple xs).depth = PyData.depthAll xs + 1 := by simp [PyData.depth]
theorem dp_lst {xs : List D} : (PyData.list xs).depth = PyData.depthAll xs + 1 := by simp [PyData.depth]
end
theorem cntL_sum : ∀ {xs : List D}, (xs.map fun x => (1 : Int) + (cnt (con x) : Nat)).sum = ((xs.length + cs (xs.map con) : Nat) : Int)
  | [] => rfl
  | x :: r => by
    have := cntL_sum (xs := r)
    simp [cs] at this ⊢
    omega
section
variable {Q : D → Prop} {E : Ex → Prop} {d : D}
theorem need_ok (hw : wt d ≤ 16000000) (hq : gd d = true → Q .none) (he : gd d = false → E ⟨"InvalidDocument", none⟩) : u_need_document [d] Q E := by
  show m_need_document d (fun _ => Q .none) E
  unfold m_need_document
  simp
  refine right_ok hw ?_
  simp
  cases h : gd d with
  | true => simpa using hq h
  | false => simpa using he h
end
def outIf (b : Bool) (x : D) : Option D := match b with
  | true => none
  | false => some x
theorem filt_empty (p : D → Bool) : ∀ xs : List D, (xs.filterMap fun x => outIf (p x) x).isEmpty = xs.all p
  | [] => rfl
  | x :: r => by
    have ih := filt_empty p r
    rw [List.filterMap_cons, List.all_cons]
    cases e : p x with
    | true => simpa [outIf] using ih
    | false => simp [outIf]
def ndOk : D → Bool
  | .tuple [a, _] => lab a
  | _ => false
theorem ndOk_no {x : D} (h : ∀ a b, x ≠ .tuple [a, b]) : ndOk x = false ∧ is2 x = false := by
  cases x with
  | tuple ys =>
    match ys with
    | [a, b] => exact absurd rfl (h a b)
    | [] => exact ⟨rfl, rfl⟩
    | [a] => exact ⟨rfl, rfl⟩
    | a :: b :: c :: r => exact ⟨rfl, rfl⟩
  | _ => exact ⟨rfl, rfl⟩
theorem good_ok : ∀ (n : Nat) {d : D} {Q : D → Prop} {E : Ex → Prop}, wt d ≤ 16000000 → d.depth < n → Q (.bool (gd d)) → u__law_good_document n [d] Q E
  | 0, _, _, _, _, h, _ => absurd h (Nat.not_lt_zero _)
  | n + 1, d, Q, E, hw, hd, hq => by
    show m__law_good_document (u__law_good_document n) d Q E
    unfold m__law_good_document
    cases d with
    | tuple xs =>
      simp [wt] at hw
      rw [dp_tup] at hd
      simp [isInst, tyName]
      refine mapC_fn (fun x => outIf (ndOk x) x) (fun x hx Q2 hq2 => ?_) ?_
      · refine law_wide_ok ?_
        rw [wide2]
        have hwx := wtL_mem hx
        rcases node_cases x with ⟨a, b, rfl⟩ | ⟨hx2, hg⟩
        · have ha : atI [a, b] 0 = some a := rfl
          simp [is2, ha, wt, wtL, ndOk] at hwx hq2 ⊢
          refine law_is_label_ok (Tx.of (n := 16000000) (by omega) (by decide)) ?_
          simp
          cases hlab : lab a <;> rw [hlab] at hq2 <;> exact hq2
        · obtain ⟨e1, e2⟩ := ndOk_no hx2
          simp [e1, e2] at hq2 ⊢
          exact hq2
      · refine ⟨by rw [depth_nil]; exact min_one _, ?_⟩
        rw [eqv_list_nil, filt_empty]
        cases hall : xs.all (fun x => ndOk x) with
        | false =>
          simp
          have : gdL xs = false := by
            rw [gdL_all]
            obtain ⟨x, hx, hn⟩ := List.all_eq_false.mp hall
            refine List.all_eq_false.mpr ⟨x, hx, fun h => hn ?_⟩
            rcases node_cases x with ⟨a, b, rfl⟩ | ⟨_, hg⟩
            · simp [gdN] at h; simp [ndOk, h.1]
            · rw [hg] at h; cases h
          simp only [gd, this] at hq
          exact hq
        | true =>
          have hm : ∀ x ∈ xs, ∃ a b, x = .tuple [a, b] ∧ lab a = true := fun x hx => by
            have h := List.all_eq_true.mp hall x hx
            rcases node_cases x with ⟨a, b, rfl⟩ | ⟨hx2, hg⟩
            · exact ⟨a, b, rfl, by simpa [ndOk] using h⟩
            · rw [(ndOk_no hx2).1] at h; cases h
          simp
          refine mapC_fn (fun x => outIf (gd (con x)) x) (fun x hx Q2 hq2 => ?_) ?_
          · obtain ⟨a, b, rfl, ha⟩ := hm x hx
            have hb : atI [a, b] 1 = some b := rfl
            have h1 := depth_mem hx
            have h2 : b.depth ≤ PyData.depthAll [a, b] := depth_mem (by simp)
            have h3 := wtL_mem hx
            rw [dp_tup] at h1
            simp [hb, wt, wtL, con] at h3 hq2 ⊢
            refine good_ok n (by omega) (by omega) ?_
            cases hgb : gd b <;> rw [hgb] at hq2 <;> exact hq2
          · refine ⟨by rw [depth_nil]; exact min_one _, ?_⟩
            rw [eqv_list_nil]
            have e : xs.all (fun x => gd (con x)) = gdL xs := by
              rw [gdL_all, Bool.eq_iff_iff, List.all_eq_true, List.all_eq_true]
              refine ⟨fun h x hx => ?_, fun h x hx => ?_⟩
              · obtain ⟨a, b, rfl, ha⟩ := hm x hx
                have := h _ hx
                simp [con] at this
                simp [gdN, ha, this]
              · obtain ⟨a, b, rfl, ha⟩ := hm x hx
                have := h _ hx
                simp [gdN, ha] at this
                simpa [con] using this
            rw [filt_empty (fun x => gd (con x)), e]
            simpa [gd] using hq
    | _ => simpa [isInst, tyName, gd] using hq

theorem source_ok {ns : List Int} {k : Nat} (hl : ns.length ≤ 63) (hk : k ≤ 63) {Q : List D → Prop} {E : Ex → Prop} (hq : ∀ a b : Int, -(2 ^ 62) < b → b < 2 ^ 62 → Q [.int a, .int b]) : u__law_source [.list (ns.map .int), .int k] Q E := by
  show m__law_source (.list (ns.map .int)) (.int k) Q E
  unfold m__law_source
  have c1 : CMul 60919 (k : Int) := .inl ⟨by decide, by decide⟩
  have c2 : CMul 2 (k : Int) := .inl ⟨by decide, by decide⟩
  have c3 : CPow 10 18 := ⟨by decide, by decide, by decide⟩
  have c4 : ∀ a : Int, CMul a 16807 := fun a => .inr ⟨by decide, by decide⟩
  have b1 : ∀ a : Int, 0 ≤ a.fmod 2147481173 ∧ a.fmod 2147481173 < 2147481173 := fun a => ⟨Int.fmod_nonneg_of_pos a (by decide), Int.fmod_lt_of_pos a (by decide)⟩
  have b2 : ∀ a : Int, 0 ≤ a.fmod 2147481151 ∧ a.fmod 2147481151 < 2147481151 := fun a => ⟨Int.fmod_nonneg_of_pos a (by decide), Int.fmod_lt_of_pos a (by decide)⟩
  have c5 : ∀ a : Int, CMul (a.fmod 2147481173) (a.fmod 2147481173) := fun a => .inl ⟨by have := b1 a; omega, by have := b1 a; omega⟩
  have fin : ∀ a x : Int, Q [.int a, .int (x.fmod 2147481151 + 2 * (k : Int) + 5)] := fun a x => hq _ _ (by have := b2 x; omega) (by have := b2 x; omega)
  simp only [w_bind, w_pure, opLen_l, opGt_i, List.length_map]
  rw [w_ite]
  split
  · rename_i hlt
    have hk' : k < ns.length := by simpa using hlt
    have ha : atI (ns.map PyData.int) (k : Int) = some (.int ns[k]) := by
      unfold atI ixN
      rw [if_pos (by omega), if_pos (by rw [List.length_map]; omega)]
      simp [hk']
    simp [ha, c1, c2, c3, c4, c5]
    rw [w_ite]
    split
    · exact fin _ _
    · exact fin _ _
  · simp [c1, c2, c3, c4, c5]
    exact fin _ _
def Labs (ls : List D) : Prop := 1 ≤ ls.length ∧ ls.length ≤ 3 ∧ ∀ l ∈ ls, lab l = true ∧ wt l ≤ 3
theorem lab_a : lab (.str "a") = true := by decide +kernel
theorem labels_ok {Q : D → Prop} {E : Ex → Prop} (hq : ∀ ls, Labs ls → Q (.list ls)) : u__law_labels [] Q E := by
  show m__law_labels Q E
  unfold m__law_labels
  simp
  refine chosen_ok (by simp) (by simp) fun d hd => ?_
  simp at hd
  rcases hd with rfl | rfl | rfl | rfl | rfl
  all_goals
    refine hq _ ⟨by decide, by decide, ?_⟩
    intro l hl
    simp at hl
    first
      | (rcases hl with rfl | rfl | rfl) <;> exact ⟨by decide +kernel, by decide +kernel⟩
      | (rcases hl with rfl | rfl) <;> exact ⟨by decide +kernel, by decide +kernel⟩
      | (subst hl; exact ⟨by decide +kernel, by decide +kernel⟩)
def docW : Nat → Nat
  | 0 => 1
  | n + 1 => 13 + 3 * docW n
theorem docW_pos : ∀ n, 1 ≤ docW n
  | 0 => Nat.le_refl _
  | n + 1 => by simp [docW]; omega
theorem doc_ok : ∀ (m n : Nat) {ls : List D} (hl : Labs ls) {Q : D → Prop} {E : Ex → Prop} (hm : n < m) (hn : n ≤ 20) (h1 : 1 ≤ n) (hq : ∀ d, gd d = true → wt d ≤ docW n → d.depth ≤ 2 * n + 1 → Q d), u__law_document m [.list ls, .int n] Q E
  | 0, _, _, _, _, _, h, _, _, _ => absurd h (Nat.not_lt_zero _)
  | m + 1, n, ls, hl, Q, E, hm, hn, h1, hq => by
    show m__law_document (u__law_document m) (.list ls) (.int n) Q E
    unfold m__law_document
    simp
    refine pick_ok (by decide) (by decide) fun i h0 hi => ?_
    simp
    refine ⟨⟨by omega, by rw [sizeLine_eq]; show (1 : Int) + i ≤ 16777216; omega⟩, ?_⟩
    obtain ⟨n', rfl⟩ : ∃ n', n = n' + 1 := ⟨n - 1, by omega⟩
    refine forS_inv (fun r f => ∃ xs, f = .tuple xs ∧ gdL xs = true ∧ xs.length + r.length ≤ 3 ∧ wtL xs ≤ xs.length * (4 + docW n') ∧ PyData.depthAll xs ≤ 2 * (n' + 1)) (fun x r f hI Q' hQ' => ?_) (fun f hI => ?_) _ _ ⟨[], rfl, rfl, by simp; omega, by simp [wtL], by simp [PyData.depthAll]⟩
    · obtain ⟨xs, rfl, g1, g2, g3, g4⟩ := hI
      simp at g2
      simp
      intro z
      rw [w_ite]
      split
      · simp
        refine ⟨sizeLine_ge _ (by have := hl.2.1; omega), ?_⟩
        refine chosen_ok (by simp) (by have := hl.2.1; simp; omega) fun mk hmk => ?_
        have hmk2 : lab mk = true ∧ wt mk ≤ 3 := by
          simp at hmk
          rcases hmk with h | h
          · exact hl.2.2 _ h
          · subst h; exact ⟨by decide +kernel, by decide +kernel⟩
        have hdm : mk.depth = 0 := by
          cases mk with
          | str z => rfl
          | _ => simp [lab] at hmk2
        have fin : ∀ inner, gd inner = true → wt inner ≤ docW n' → inner.depth ≤ 2 * n' + 1 → xs.length + 1 ≤ sizeLine ∧ Q' (.tuple (xs ++ [.tuple [mk, inner]])) := fun inner e1 e2 e3 => by
          refine ⟨sizeLine_ge _ (by omega), hQ' _ ⟨_, rfl, ?_, by simp; omega, ?_, ?_⟩⟩
          · rw [gdL_all] at g1 ⊢
            simp [gdN, g1, hmk2.1, e1]
          · have := hmk2.2
            simp [wtL_append, wtL, wt, Nat.add_mul]
            omega
          · have : ∀ ys : List D, PyData.depthAll (xs ++ ys) = max (PyData.depthAll xs) (PyData.depthAll ys) := fun ys => by
              clear g1 g2 g3 g4 hQ'
              induction xs with
              | nil => simp [PyData.depthAll]
              | cons x xs ih => first | (simp [PyData.depthAll, ih]; done) | (simp [PyData.depthAll, ih]; omega)
            rw [this]
            simp [PyData.depthAll, PyData.depth, hdm]
            omega
        have e0 : gd (.tuple []) = true ∧ wt (.tuple []) ≤ docW n' ∧ (PyData.tuple []).depth ≤ 2 * n' + 1 := ⟨rfl, by simp [wt, wtL]; exact docW_pos n', by simp [PyData.depth, PyData.depthAll]⟩
        rw [w_ite]
        split
        · rename_i hgt
          have hn' : 1 ≤ n' := by simp at hgt; omega
          refine pick_ok (by decide) (by decide) fun i2 _ _ => ?_
          simp
          rw [w_ite]
          split
          · have en : ((n' + 1 : Nat) : Int) - 1 = ((n' : Nat) : Int) := by omega
            simp
            refine doc_ok m n' hl (by omega) (by omega) hn' fun dd e1 e2 e3 => ?_
            exact fin dd e1 e2 e3
          · exact fin _ e0.1 e0.2.1 e0.2.2
        · simp
          exact fin _ e0.1 e0.2.1 e0.2.2
      · exact hQ' _ ⟨xs, rfl, g1, by omega, g3, g4⟩
    · obtain ⟨xs, rfl, g1, g2, g3, g4⟩ := hI
      refine hq _ (by simpa [gd] using g1) ?_ ?_
      · simp at g2
        have : xs.length * (4 + docW n') ≤ 3 * (4 + docW n') := Nat.mul_le_mul_right _ g2
        simp [wt, docW]
        omega
      · rw [dp_tup]; omega
/-! ### parts of lists -/
theorem wtL_sub : ∀ {xs ys : List D}, xs.Sublist ys → wtL xs ≤ wtL ys
  | _, _, .slnil => Nat.le_refl _
  | _, _, .cons a h => by have := wtL_sub h; simp [wtL]; omega
  | _, _, .cons₂ a h => by have := wtL_sub h; simp [wtL]; omega
theorem dp_sub : ∀ {xs ys : List D}, xs.Sublist ys → PyData.depthAll xs ≤ PyData.depthAll ys
  | _, _, .slnil => Nat.le_refl _
  | _, _, .cons a h => by have := dp_sub h; simp [PyData.depthAll]; omega
  | _, _, .cons₂ a h => by have := dp_sub h; simp [PyData.depthAll]; omega
theorem cut_sub (xs : List D) (l h : Option Int) : (cut xs l h).Sublist xs := (List.take_sublist _ _).trans (List.drop_sublist _ _)
theorem dp_append : ∀ xs ys : List D, PyData.depthAll (xs ++ ys) = max (PyData.depthAll xs) (PyData.depthAll ys)
  | [], ys => by simp [PyData.depthAll]
  | x :: r, ys => by have := dp_append r ys; simp [PyData.depthAll, this]; try omega
theorem wtL_reverse : ∀ xs : List D, wtL xs.reverse = wtL xs
  | [] => rfl
  | x :: r => by have := wtL_reverse r; simp [wtL_append, wtL, this]; omega
theorem dp_reverse : ∀ xs : List D, PyData.depthAll xs.reverse = PyData.depthAll xs
  | [] => rfl
  | x :: r => by have := dp_reverse r; simp [dp_append, PyData.depthAll, this]; omega
theorem wtL_set : ∀ (xs : List D) (i : Nat) (d : D), wtL (xs.set i d) ≤ wtL xs + wt d
  | [], i, d => by simp [wtL]
  | x :: r, 0, d => by simp [wtL]; omega
  | x :: r, i + 1, d => by have := wtL_set r i d; simp [wtL]; omega
theorem dp_set : ∀ (xs : List D) (i : Nat) (d : D), PyData.depthAll (xs.set i d) ≤ max (PyData.depthAll xs) d.depth
  | [], i, d => by simp [PyData.depthAll]
  | x :: r, 0, d => by simp [PyData.depthAll]; omega
  | x :: r, i + 1, d => by have := dp_set r i d; simp [PyData.depthAll]; omega
theorem dp_all {xs : List D} {n : Nat} (h : ∀ x ∈ xs, x.depth ≤ n) : PyData.depthAll xs ≤ n := by
  induction xs with
  | nil => exact Nat.zero_le _
  | cons x r ih =>
    have := ih fun y hy => h y (by simp [hy])
    have := h x (by simp)
    simp [PyData.depthAll]
    omega
theorem wt_all {xs : List D} {n : Nat} (h : ∀ x ∈ xs, wt x ≤ n) : wtL xs ≤ xs.length * n := by
  induction xs with
  | nil => exact Nat.zero_le _
  | cons x r ih =>
    have := ih fun y hy => h y (by simp [hy])
    have := h x (by simp)
    simp [wtL, Nat.add_mul]
    omega
/-! ### any values -/
def anyW : Nat → Nat
  | 0 => 6
  | n + 1 => 6 + 4 * anyW n
theorem anyW_ge : ∀ n, 6 ≤ anyW n
  | 0 => Nat.le_refl _
  | n + 1 => by simp [anyW]
/-- a tuple or a list -/
def Seq (v : D) (xs : List D) : Prop := v = .tuple xs ∨ v = .list xs
theorem Seq.wt {v : D} {xs : List D} (h : Seq v xs) : wt v = 1 + wtL xs := by rcases h with rfl | rfl <;> simp [Sm.wt]
theorem Seq.dp {v : D} {xs : List D} (h : Seq v xs) : v.depth = PyData.depthAll xs + 1 := by rcases h with rfl | rfl <;> simp [PyData.depth]
theorem Seq.items {v : D} {xs : List D} (h : Seq v xs) {Q : List D → Prop} {E : Ex → Prop} : items v Q E = Q xs := by rcases h with rfl | rfl <;> rfl
theorem isTup (d : D) : isInst "tuple" d = (match d with | .tuple _ => true | _ => false) := by cases d <;> rfl
/-! ### places in written lists -/
@[simp] theorem at_0 {α : Type} {a : α} {r : List α} : atI (a :: r) 0 = some a := by simp [atI, ixN]
@[simp] theorem at_1 {α : Type} {a b : α} {r : List α} : atI (a :: b :: r) 1 = some b := by
  unfold atI ixN
  rw [if_pos (by decide), if_pos (by simp only [List.length_cons]; omega)]
  rfl
@[simp] theorem at_2 {α : Type} {a b c : α} {r : List α} : atI (a :: b :: c :: r) 2 = some c := by
  unfold atI ixN
  rw [if_pos (by decide), if_pos (by simp only [List.length_cons]; omega)]
  rfl
@[simp] theorem at_3 {α : Type} {a b c d : α} {r : List α} : atI (a :: b :: c :: d :: r) 3 = some d := by
  unfold atI ixN
  rw [if_pos (by decide), if_pos (by simp only [List.length_cons]; omega)]
  rfl
theorem at_last {α : Type} {r : List α} {a : α} : atI (r ++ [a]) (-1) = some a := by
  unfold atI ixN
  rw [if_neg (by decide), if_pos (by simp; omega)]
  have e : ((-1 : Int) + ((r ++ [a]).length : Int)).toNat = r.length := by simp; omega
  show (r ++ [a])[((-1 : Int) + ((r ++ [a]).length : Int)).toNat]? = some a
  rw [e]
  simp
@[simp] theorem at_l3 {α : Type} {a b c : α} : atI [a, b, c] (-1) = some c := at_last (r := [a, b])
@[simp] theorem at_l4 {α : Type} {a b c d : α} : atI [a, b, c, d] (-1) = some d := at_last (r := [a, b, c])
@[simp] theorem dep_str {x : Str} : (PyData.str x).depth = 0 := rfl
@[simp] theorem dep_int {x : Int} : (PyData.int x).depth = 0 := rfl
@[simp] theorem dep_bool {x : Bool} : (PyData.bool x).depth = 0 := rfl
@[simp] theorem dep_non : PyData.none.depth = 0 := rfl
@[simp] theorem eqv_ss {a b : Str} : PyData.eqv (.str a) (.str b) = (a == b) := rfl
@[simp] theorem eqv_ii {a b : Int} : PyData.eqv (.int a) (.int b) = (a == b) := by simp [PyData.eqv]
@[simp] theorem eqv_bb {a b : Bool} : PyData.eqv (.bool a) (.bool b) = (a == b) := by cases a <;> cases b <;> rfl
@[simp] theorem inst_ss {x : Str} : isInst "str" (.str x) = true := by simp [isInst, tyName]
@[simp] theorem inst_tt {x : List D} : isInst "tuple" (.tuple x) = true := by simp [isInst, tyName]
theorem anyEq_strs (ar : List Str) (l : Str) : anyEq (ar.map .str) (.str l) = decide (l ∈ ar) := by
  unfold anyEq
  induction ar with
  | nil => rfl
  | cons x r ih =>
    simp only [List.map_cons, List.any_cons, ih, eqv_ss]
    by_cases h : x = l
    · subst h; simp
    · have h' : l ≠ x := fun e => h e.symm
      simp [h, h']
/-! ### what is a test, a step, a script -/
def wAlone (w : Str) : Bool := decide (w ∈ (["any", "top"] : List Str))
def wAbout (w : Str) : Bool := decide (w ∈ (["in", "under", "notin", "notunder"] : List Str))
def wRW (w : Str) : Bool := decide (w ∈ (["rename", "wrap"] : List Str))
def wUD (w : Str) : Bool := decide (w ∈ (["unwrap", "drop"] : List Str))
def isTest : D → Bool
  | .tuple [.str w] => wAlone w
  | .tuple [.str w, l] => wAbout w && lab l
  | _ => false
def isStep : D → Bool
  | .tuple [.str w, a, b] => lab a && wUD w && isTest b
  | .tuple [.str w, a, b, t] => lab a && wRW w && lab b && isTest t
  | _ => false
def isScript : D → Bool
  | .tuple xs => decide (xs.length ≤ 6) && xs.all isStep
  | _ => false
section
variable {Q : D → Prop} {E : Ex → Prop} {d : D}
theorem in_alone {w : Str} : anyEq [.str "any", .str "top"] (.str w) = wAlone w := anyEq_strs ["any", "top"] w
theorem in_about {w : Str} : anyEq [.str "in", .str "under", .str "notin", .str "notunder"] (.str w) = wAbout w := anyEq_strs ["in", "under", "notin", "notunder"] w
theorem in_rw {w : Str} : anyEq [.str "rename", .str "wrap"] (.str w) = wRW w := anyEq_strs ["rename", "wrap"] w
theorem in_ud {w : Str} : anyEq [.str "unwrap", .str "drop"] (.str w) = wUD w := anyEq_strs ["unwrap", "drop"] w
theorem step_len {xs : List D} (h : xs.length ≠ 3) (h2 : xs.length ≠ 4) : isStep (.tuple xs) = false := by
  match xs with
  | [] => rfl
  | [a] => cases a <;> rfl
  | [a, b] => cases a <;> rfl
  | [a, b, c] => exact absurd rfl h
  | [a, b, c, d] => exact absurd rfl h2
  | a :: b :: c :: d :: e :: r => cases a <;> rfl
end

/-! ### words -/
@[simp] theorem st_any_any : (("any" : Str) == ("any" : Str)) = true := by decide +kernel
@[simp] theorem st_any_top : (("any" : Str) == ("top" : Str)) = false := by decide +kernel
@[simp] theorem st_any_in : (("any" : Str) == ("in" : Str)) = false := by decide +kernel
@[simp] theorem st_any_notin : (("any" : Str) == ("notin" : Str)) = false := by decide +kernel
@[simp] theorem st_any_under : (("any" : Str) == ("under" : Str)) = false := by decide +kernel
@[simp] theorem st_any_notunder : (("any" : Str) == ("notunder" : Str)) = false := by decide +kernel
@[simp] theorem st_any_rename : (("any" : Str) == ("rename" : Str)) = false := by decide +kernel
@[simp] theorem st_any_wrap : (("any" : Str) == ("wrap" : Str)) = false := by decide +kernel
@[simp] theorem st_any_unwrap : (("any" : Str) == ("unwrap" : Str)) = false := by decide +kernel
@[simp] theorem st_any_drop : (("any" : Str) == ("drop" : Str)) = false := by decide +kernel
@[simp] theorem st_top_any : (("top" : Str) == ("any" : Str)) = false := by decide +kernel
@[simp] theorem st_top_top : (("top" : Str) == ("top" : Str)) = true := by decide +kernel
@[simp] theorem st_top_in : (("top" : Str) == ("in" : Str)) = false := by decide +kernel
@[simp] theorem st_top_notin : (("top" : Str) == ("notin" : Str)) = false := by decide +kernel
@[simp] theorem st_top_under : (("top" : Str) == ("under" : Str)) = false := by decide +kernel
@[simp] theorem st_top_notunder : (("top" : Str) == ("notunder" : Str)) = false := by decide +kernel
@[simp] theorem st_top_rename : (("top" : Str) == ("rename" : Str)) = false := by decide +kernel
@[simp] theorem st_top_wrap : (("top" : Str) == ("wrap" : Str)) = false := by decide +kernel
@[simp] theorem st_top_unwrap : (("top" : Str) == ("unwrap" : Str)) = false := by decide +kernel
@[simp] theorem st_top_drop : (("top" : Str) == ("drop" : Str)) = false := by decide +kernel
@[simp] theorem st_in_any : (("in" : Str) == ("any" : Str)) = false := by decide +kernel
@[simp] theorem st_in_top : (("in" : Str) == ("top" : Str)) = false := by decide +kernel
@[simp] theorem st_in_in : (("in" : Str) == ("in" : Str)) = true := by decide +kernel
@[simp] theorem st_in_notin : (("in" : Str) == ("notin" : Str)) = false := by decide +kernel
@[simp] theorem st_in_under : (("in" : Str) == ("under" : Str)) = false := by decide +kernel
@[simp] theorem st_in_notunder : (("in" : Str) == ("notunder" : Str)) = false := by decide +kernel
@[simp] theorem st_in_rename : (("in" : Str) == ("rename" : Str)) = false := by decide +kernel
@[simp] theorem st_in_wrap : (("in" : Str) == ("wrap" : Str)) = false := by decide +kernel
@[simp] theorem st_in_unwrap : (("in" : Str) == ("unwrap" : Str)) = false := by decide +kernel
@[simp] theorem st_in_drop : (("in" : Str) == ("drop" : Str)) = false := by decide +kernel
@[simp] theorem st_notin_any : (("notin" : Str) == ("any" : Str)) = false := by decide +kernel
@[simp] theorem st_notin_top : (("notin" : Str) == ("top" : Str)) = false := by decide +kernel
@[simp] theorem st_notin_in : (("notin" : Str) == ("in" : Str)) = false := by decide +kernel
@[simp] theorem st_notin_notin : (("notin" : Str) == ("notin" : Str)) = true := by decide +kernel
@[simp] theorem st_notin_under : (("notin" : Str) == ("under" : Str)) = false := by decide +kernel
@[simp] theorem st_notin_notunder : (("notin" : Str) == ("notunder" : Str)) = false := by decide +kernel
@[simp] theorem st_notin_rename : (("notin" : Str) == ("rename" : Str)) = false := by decide +kernel
@[simp] theorem st_notin_wrap : (("notin" : Str) == ("wrap" : Str)) = false := by decide +kernel
@[simp] theorem st_notin_unwrap : (("notin" : Str) == ("unwrap" : Str)) = false := by decide +kernel
@[simp] theorem st_notin_drop : (("notin" : Str) == ("drop" : Str)) = false := by decide +kernel
@[simp] theorem st_under_any : (("under" : Str) == ("any" : Str)) = false := by decide +kernel
@[simp] theorem st_under_top : (("under" : Str) == ("top" : Str)) = false := by decide +kernel
@[simp] theorem st_under_in : (("under" : Str) == ("in" : Str)) = false := by decide +kernel
@[simp] theorem st_under_notin : (("under" : Str) == ("notin" : Str)) = false := by decide +kernel
@[simp] theorem st_under_under : (("under" : Str) == ("under" : Str)) = true := by decide +kernel
@[simp] theorem st_under_notunder : (("under" : Str) == ("notunder" : Str)) = false := by decide +kernel
@[simp] theorem st_under_rename : (("under" : Str) == ("rename" : Str)) = false := by decide +kernel
@[simp] theorem st_under_wrap : (("under" : Str) == ("wrap" : Str)) = false := by decide +kernel
@[simp] theorem st_under_unwrap : (("under" : Str) == ("unwrap" : Str)) = false := by decide +kernel
@[simp] theorem st_under_drop : (("under" : Str) == ("drop" : Str)) = false := by decide +kernel
@[simp] theorem st_notunder_any : (("notunder" : Str) == ("any" : Str)) = false := by decide +kernel
@[simp] theorem st_notunder_top : (("notunder" : Str) == ("top" : Str)) = false := by decide +kernel
@[simp] theorem st_notunder_in : (("notunder" : Str) == ("in" : Str)) = false := by decide +kernel
@[simp] theorem st_notunder_notin : (("notunder" : Str) == ("notin" : Str)) = false := by decide +kernel
@[simp] theorem st_notunder_under : (("notunder" : Str) == ("under" : Str)) = false := by decide +kernel
@[simp] theorem st_notunder_notunder : (("notunder" : Str) == ("notunder" : Str)) = true := by decide +kernel
@[simp] theorem st_notunder_rename : (("notunder" : Str) == ("rename" : Str)) = false := by decide +kernel
@[simp] theorem st_notunder_wrap : (("notunder" : Str) == ("wrap" : Str)) = false := by decide +kernel
@[simp] theorem st_notunder_unwrap : (("notunder" : Str) == ("unwrap" : Str)) = false := by decide +kernel
@[simp] theorem st_notunder_drop : (("notunder" : Str) == ("drop" : Str)) = false := by decide +kernel
@[simp] theorem st_rename_any : (("rename" : Str) == ("any" : Str)) = false := by decide +kernel
@[simp] theorem st_rename_top : (("rename" : Str) == ("top" : Str)) = false := by decide +kernel
@[simp] theorem st_rename_in : (("rename" : Str) == ("in" : Str)) = false := by decide +kernel
@[simp] theorem st_rename_notin : (("rename" : Str) == ("notin" : Str)) = false := by decide +kernel
@[simp] theorem st_rename_under : (("rename" : Str) == ("under" : Str)) = false := by decide +kernel
@[simp] theorem st_rename_notunder : (("rename" : Str) == ("notunder" : Str)) = false := by decide +kernel
@[simp] theorem st_rename_rename : (("rename" : Str) == ("rename" : Str)) = true := by decide +kernel
@[simp] theorem st_rename_wrap : (("rename" : Str) == ("wrap" : Str)) = false := by decide +kernel
@[simp] theorem st_rename_unwrap : (("rename" : Str) == ("unwrap" : Str)) = false := by decide +kernel
@[simp] theorem st_rename_drop : (("rename" : Str) == ("drop" : Str)) = false := by decide +kernel
@[simp] theorem st_wrap_any : (("wrap" : Str) == ("any" : Str)) = false := by decide +kernel
@[simp] theorem st_wrap_top : (("wrap" : Str) == ("top" : Str)) = false := by decide +kernel
@[simp] theorem st_wrap_in : (("wrap" : Str) == ("in" : Str)) = false := by decide +kernel
@[simp] theorem st_wrap_notin : (("wrap" : Str) == ("notin" : Str)) = false := by decide +kernel
@[simp] theorem st_wrap_under : (("wrap" : Str) == ("under" : Str)) = false := by decide +kernel
@[simp] theorem st_wrap_notunder : (("wrap" : Str) == ("notunder" : Str)) = false := by decide +kernel
@[simp] theorem st_wrap_rename : (("wrap" : Str) == ("rename" : Str)) = false := by decide +kernel
@[simp] theorem st_wrap_wrap : (("wrap" : Str) == ("wrap" : Str)) = true := by decide +kernel
@[simp] theorem st_wrap_unwrap : (("wrap" : Str) == ("unwrap" : Str)) = false := by decide +kernel
@[simp] theorem st_wrap_drop : (("wrap" : Str) == ("drop" : Str)) = false := by decide +kernel
@[simp] theorem st_unwrap_any : (("unwrap" : Str) == ("any" : Str)) = false := by decide +kernel
@[simp] theorem st_unwrap_top : (("unwrap" : Str) == ("top" : Str)) = false := by decide +kernel
@[simp] theorem st_unwrap_in : (("unwrap" : Str) == ("in" : Str)) = false := by decide +kernel
@[simp] theorem st_unwrap_notin : (("unwrap" : Str) == ("notin" : Str)) = false := by decide +kernel
@[simp] theorem st_unwrap_under : (("unwrap" : Str) == ("under" : Str)) = false := by decide +kernel
@[simp] theorem st_unwrap_notunder : (("unwrap" : Str) == ("notunder" : Str)) = false := by decide +kernel
@[simp] theorem st_unwrap_rename : (("unwrap" : Str) == ("rename" : Str)) = false := by decide +kernel
@[simp] theorem st_unwrap_wrap : (("unwrap" : Str) == ("wrap" : Str)) = false := by decide +kernel
@[simp] theorem st_unwrap_unwrap : (("unwrap" : Str) == ("unwrap" : Str)) = true := by decide +kernel
@[simp] theorem st_unwrap_drop : (("unwrap" : Str) == ("drop" : Str)) = false := by decide +kernel
@[simp] theorem st_drop_any : (("drop" : Str) == ("any" : Str)) = false := by decide +kernel
@[simp] theorem st_drop_top : (("drop" : Str) == ("top" : Str)) = false := by decide +kernel
@[simp] theorem st_drop_in : (("drop" : Str) == ("in" : Str)) = false := by decide +kernel
@[simp] theorem st_drop_notin : (("drop" : Str) == ("notin" : Str)) = false := by decide +kernel
@[simp] theorem st_drop_under : (("drop" : Str) == ("under" : Str)) = false := by decide +kernel
@[simp] theorem st_drop_notunder : (("drop" : Str) == ("notunder" : Str)) = false := by decide +kernel
@[simp] theorem st_drop_rename : (("drop" : Str) == ("rename" : Str)) = false := by decide +kernel
@[simp] theorem st_drop_wrap : (("drop" : Str) == ("wrap" : Str)) = false := by decide +kernel
@[simp] theorem st_drop_unwrap : (("drop" : Str) == ("unwrap" : Str)) = false := by decide +kernel
@[simp] theorem st_drop_drop : (("drop" : Str) == ("drop" : Str)) = true := by decide +kernel
/-! ### tests, steps, documents that are in order -/
def LabS (l : Str) : Prop := lab (.str l) = true
theorem LabS.ne {l : Str} (h : LabS l) : l ≠ "" := fun e => by
  subst e
  exact absurd (show lab (.str "") = true from h) (by decide +kernel)
theorem LabS.len {l : Str} (h : LabS l) : l.length ≤ 8 := by
  unfold LabS lab at h
  simp at h
  omega
def TOk : Tst → Prop
  | .rel w l => (w = "in" ∨ w = "notin" ∨ w = "under" ∨ w = "notunder") ∧ LabS l
  | _ => True
def SOk : Stp → Prop
  | .rename a b t => LabS a ∧ LabS b ∧ TOk t
  | .wrap a b t => LabS a ∧ LabS b ∧ TOk t
  | .unwrap a t => LabS a ∧ TOk t
  | .drop a t => LabS a ∧ TOk t
mutual
def lbN : Nd → Prop
  | .mk l c => LabS l ∧ lbL c
def lbL : List Nd → Prop
  | [] => True
  | x :: r => lbN x ∧ lbL r
end
theorem lbL_append : ∀ {a b : List Nd}, lbL a → lbL b → lbL (a ++ b)
  | [], b, _, h => h
  | x :: r, b, h1, h2 => ⟨h1.1, lbL_append h1.2 h2⟩
mutual
theorem lb_goN {s : Stp} (hs : SOk s) : ∀ (x : Nd) (ar : List Str), lbN x → lbL (goN s x ar)
  | .mk l c, ar, h => by
    have ih := lb_goL hs c (ar ++ [l]) h.2
    unfold goN
    cases hitB s l ar with
    | false => exact ⟨⟨h.1, ih⟩, trivial⟩
    | true =>
      cases s with
      | rename a b t => exact ⟨⟨hs.2.1, ih⟩, trivial⟩
      | wrap a b t => exact ⟨⟨hs.2.1, ⟨h.1, ih⟩, trivial⟩, trivial⟩
      | unwrap a t => exact ih
      | drop a t => exact trivial
theorem lb_goL {s : Stp} (hs : SOk s) : ∀ (c : List Nd) (ar : List Str), lbL c → lbL (goL s c ar)
  | [], ar, _ => trivial
  | x :: r, ar, h => lbL_append (lb_goN hs x ar h.1) (lb_goL hs r ar h.2)
end
theorem lb_run : ∀ {ss : List Stp} {c : List Nd}, (∀ s ∈ ss, SOk s) → lbL c → lbL (runD ss c)
  | [], c, _, h => h
  | s :: r, c, hs, h => lb_run (ss := r) (fun t ht => hs t (by simp [ht])) (lb_goL (hs s (by simp)) c [] h)
theorem ndsD_append : ∀ a b : List Nd, ndsD (a ++ b) = ndsD a ++ ndsD b
  | [], b => rfl
  | x :: r, b => by simp [ndsD, ndsD_append r b]
theorem ndsD_len : ∀ a : List Nd, (ndsD a).length = a.length
  | [] => rfl
  | x :: r => by simp [ndsD, ndsD_len r]
theorem ndsD_map : ∀ a : List Nd, ndsD a = a.map ndD
  | [] => rfl
  | x :: r => by simp [ndsD, ndsD_map r]
/-- the mark of the nearest node around -/
def near (ar : List Str) : Str := ar.getLast?.getD ""
theorem near_snoc (ar : List Str) (l : Str) : near (ar ++ [l]) = l := by simp [near]
theorem near_nil {ar : List Str} (h : ∀ l ∈ ar, LabS l) : (near ar == "") = ar.isEmpty := by
  rcases List.eq_nil_or_concat ar with rfl | ⟨t, l, rfl⟩
  · decide +kernel
  · rw [List.concat_eq_append] at h ⊢
    rw [near_snoc]
    have h2 := (h l (by simp)).ne
    have h3 : (l == "") = false := by simpa using h2
    rw [h3]
    simp
theorem near_is {ar : List Str} {l : Str} (hl : LabS l) : (near ar == l) = decide (ar.getLast? = some l) := by
  unfold near
  cases ar.getLast? with
  | none =>
    have : ("" : Str) ≠ l := fun e => hl.ne e.symm
    simp [this]
  | some x => by_cases h : x = l <;> simp [h]
theorem tupS_snoc (ar : List Str) (l : Str) : (PyData.tuple (ar.map .str ++ [.str l])) = tupS (ar ++ [l]) := by simp [tupS]
theorem dp_strs : ∀ ar : List Str, PyData.depthAll (ar.map .str) = 0
  | [] => rfl
  | x :: r => by simp [PyData.depthAll, PyData.depth, dp_strs r]
theorem eqv_nil (xs : List D) : PyData.eqv (.tuple xs) (.tuple []) = xs.isEmpty := by cases xs <;> simp [PyData.eqv, PyData.eqvAll]
section
variable {Q : D → Prop} {E : Ex → Prop} {t : Tst} {ar : List Str} {s : Stp} {l : Str}
theorem SOk.tst (h : SOk s) : TOk s.tst := by cases s <;> first | exact h.2.2 | exact h.2
theorem stp_1 : atI (match s with | .rename a b t => [.str "rename", .str a, .str b, tstD t] | .wrap a b t => [.str "wrap", .str a, .str b, tstD t] | .unwrap a t => [.str "unwrap", .str a, tstD t] | .drop a t => [.str "drop", .str a, tstD t]) 1 = some (PyData.str s.mark) := by cases s <;> simp [Stp.mark]
end

/-! ### what a step makes of a document -/
@[simp] theorem unp2_w {a b : D} {Q : D × D → Prop} {E : Ex → Prop} : unp2 (.tuple [a, b]) Q E = Q (a, b) := propext ⟨fun h => h, fun h => h⟩
@[simp] theorem unp3_w {a b c : D} {Q : D × D × D → Prop} {E : Ex → Prop} : unp3 (.tuple [a, b, c]) Q E = Q (a, b, c) := propext ⟨fun h => h, fun h => h⟩
theorem goL_append (s : Stp) (ar : List Str) : ∀ a b : List Nd, goL s (a ++ b) ar = goL s a ar ++ goL s b ar
  | [], b => rfl
  | x :: r, b => by simp [goL, goL_append s ar r b]
theorem dpL_mem : ∀ {c : List Nd} {x : Nd}, x ∈ c → dpN x ≤ dpL c
  | y :: r, x, h => by
    rcases List.mem_cons.mp h with rfl | h
    · simp only [dpL]; omega
    · have := dpL_mem h; simp only [dpL]; omega
theorem szL_mem : ∀ {c : List Nd} {x : Nd}, x ∈ c → szN x ≤ szL c
  | y :: r, x, h => by
    rcases List.mem_cons.mp h with rfl | h
    · simp only [szL]; omega
    · have := szL_mem h; simp only [szL]; omega
theorem lbL_mem : ∀ {c : List Nd} {x : Nd}, lbL c → x ∈ c → lbN x
  | y :: r, x, h, hx => by
    rcases List.mem_cons.mp hx with rfl | hx
    · exact h.1
    · exact lbL_mem h.2 hx
/-! ### the law's step -/
/-- every part of a script done: not too deep, not too large -/
def FitR (ss : List Stp) (c : List Nd) : Prop := ∀ s1 s2, ss = s1 ++ s2 → dpL (runD s1 c) < 200 ∧ szL (runD s1 c) ≤ 8000000
theorem runD_snoc (s1 : List Stp) (s : Stp) (c : List Nd) : runD (s1 ++ [s]) c = goL s (runD s1 c) [] := by simp [runD]
section
variable {Q : D → Prop} {E : Ex → Prop} {ss : List Stp} {c : List Nd}
end

@[simp] theorem opEqB_w {d e : D} {Q : Bool → Prop} {E : Ex → Prop} : opEqB d e Q E = (min d.depth e.depth ≤ 1000 ∧ Q (PyData.eqv d e)) := propext ⟨fun h => h, fun h => h⟩
@[simp] theorem opNeB_w {d e : D} {Q : Bool → Prop} {E : Ex → Prop} : opNeB d e Q E = (min d.depth e.depth ≤ 1000 ∧ Q (!PyData.eqv d e)) := propext ⟨fun h => h, fun h => h⟩
/-! ### documents as data -/
mutual
theorem eqv_nd : ∀ (x y : Nd), PyData.eqv (ndD x) (ndD y) = true ↔ x = y
  | .mk l c, .mk m e => by
    have ih := eqv_nds c e
    simp only [ndD, PyData.eqv, PyData.eqvAll, Bool.and_true, Bool.and_eq_true, beq_iff_eq, ih, Nd.mk.injEq]
theorem eqv_nds : ∀ (a b : List Nd), PyData.eqvAll (ndsD a) (ndsD b) = true ↔ a = b
  | [], [] => by simp [ndsD, PyData.eqvAll]
  | [], y :: b => by simp [ndsD, PyData.eqvAll]
  | x :: a, [] => by simp [ndsD, PyData.eqvAll]
  | x :: a, y :: b => by
    have h1 := eqv_nd x y
    have h2 := eqv_nds a b
    simp only [ndsD, PyData.eqvAll, Bool.and_eq_true, h1, h2, List.cons.injEq]
end
theorem eqv_doc (a b : List Nd) : PyData.eqv (docD a) (docD b) = true ↔ a = b := by
  have := eqv_nds a b
  simpa [docD, PyData.eqv] using this
theorem eqv_docS (a : List Nd) : PyData.eqv (docD a) (docD a) = true := (eqv_doc a a).mpr rfl
mutual
theorem dp_ndD : ∀ x : Nd, (ndD x).depth = 2 * dpN x
  | .mk l c => by
    have := dp_ndsD c
    simp [ndD, PyData.depth, PyData.depthAll, dpN]
    omega
theorem dp_ndsD : ∀ c : List Nd, PyData.depthAll (ndsD c) = 2 * dpL c
  | [] => rfl
  | x :: r => by
    have h1 := dp_ndD x
    have h2 := dp_ndsD r
    simp only [ndsD, PyData.depthAll, dpL, h1, h2]
    omega
end
theorem dp_docD (c : List Nd) : (docD c).depth = 2 * dpL c + 1 := by
  unfold docD
  rw [dp_tup, dp_ndsD]
theorem lab_str {d : D} (h : lab d = true) : ∃ z, d = .str z ∧ LabS z := by
  cases d with
  | str z => exact ⟨z, rfl, h⟩
  | _ => simp [lab] at h
theorem gd_typed : ∀ (n : Nat) (d : D), wt d ≤ n → gd d = true → ∃ c, d = docD c ∧ lbL c ∧ szL c ≤ wt d
  | 0, d, h, _ => by have := wt_pos d; omega
  | n + 1, d, h, hg => by
    obtain ⟨xs, rfl, hx⟩ := gd_tup hg
    simp only [wt] at h ⊢
    have go : ∀ xs : List D, wtL xs ≤ n → gdL xs = true → ∃ c, ndsD c = xs ∧ lbL c ∧ szL c ≤ wtL xs := by
      intro xs
      induction xs with
      | nil => exact fun _ _ => ⟨[], rfl, trivial, Nat.zero_le _⟩
      | cons x r ih =>
        intro h hg
        simp only [wtL] at h
        simp only [gdL, Bool.and_eq_true] at hg
        obtain ⟨c, e1, e2, e3⟩ := ih (by omega) hg.2
        rcases node_cases x with ⟨a, b, rfl⟩ | ⟨_, hn⟩
        · simp only [gdN, Bool.and_eq_true] at hg
          simp only [wt, wtL] at h
          obtain ⟨z, rfl, hz⟩ := lab_str hg.1.1
          obtain ⟨c2, rfl, f2, f3⟩ := gd_typed n b (by omega) hg.1.2
          refine ⟨.mk z c2 :: c, ?_, ⟨⟨hz, f2⟩, e2⟩, ?_⟩
          · simp only [ndsD, ndD, e1]
            rfl
          · simp only [szL, szN, wtL, wt]
            omega
        · rw [hn] at hg; simp at hg
    obtain ⟨c, e1, e2, e3⟩ := go xs (by omega) hx
    exact ⟨c, by rw [docD, e1], e2, by omega⟩
mutual
theorem gd_ndD : ∀ x : Nd, lbN x → gdN (ndD x) = true
  | .mk l c, h => by
    have h1 : lab (.str l) = true := h.1
    have h2 := gd_ndsD c h.2
    simp [ndD, gdN, gd, h1, h2]
theorem gd_ndsD : ∀ c : List Nd, lbL c → gdL (ndsD c) = true
  | [], _ => rfl
  | x :: r, h => by simp [ndsD, gdL, gd_ndD x h.1, gd_ndsD r h.2]
end
theorem gd_docD {c : List Nd} (h : lbL c) : gd (docD c) = true := by
  have := gd_ndsD c h
  simpa [docD, gd] using this
mutual
theorem wt_ndD : ∀ x : Nd, lbN x → wt (ndD x) ≤ 12 * szN x
  | .mk l c, h => by
    have h1 := h.1.len
    have h2 := wt_ndsD c h.2
    simp [ndD, wt, wtL, szN]
    omega
theorem wt_ndsD : ∀ c : List Nd, lbL c → wtL (ndsD c) ≤ 12 * szL c
  | [], _ => Nat.le_refl _
  | x :: r, h => by
    have h1 := wt_ndD x h.1
    have h2 := wt_ndsD r h.2
    simp [ndsD, wtL, szL]
    omega
end
theorem wt_docD {c : List Nd} (h : lbL c) : wt (docD c) ≤ 12 * szL c + 1 := by
  have := wt_ndsD c h
  simp only [docD, wt]
  omega
/-! ### scripts as data -/
theorem isTest_tst {t : Tst} (h : TOk t) : isTest (tstD t) = true := by
  cases t with
  | any => decide +kernel
  | top => decide +kernel
  | rel w l =>
    obtain ⟨hw, hl⟩ := h
    have h1 : wAbout w = true := by rcases hw with rfl | rfl | rfl | rfl <;> decide +kernel
    have h2 : lab (.str l) = true := hl
    simp [tstD, isTest, h1, h2]
theorem isStep_stp {s : Stp} (h : SOk s) : isStep (stpD s) = true := by
  have h1 : wRW "rename" = true := by decide +kernel
  have h2 : wRW "wrap" = true := by decide +kernel
  have h3 : wUD "unwrap" = true := by decide +kernel
  have h4 : wUD "drop" = true := by decide +kernel
  cases s with
  | rename a b t =>
    have e1 : lab (.str a) = true := h.1
    have e2 : lab (.str b) = true := h.2.1
    simp [stpD, isStep, h1, e1, e2, isTest_tst h.2.2]
  | wrap a b t =>
    have e1 : lab (.str a) = true := h.1
    have e2 : lab (.str b) = true := h.2.1
    simp [stpD, isStep, h2, e1, e2, isTest_tst h.2.2]
  | unwrap a t =>
    have e1 : lab (.str a) = true := h.1
    simp [stpD, isStep, h3, e1, isTest_tst h.2]
  | drop a t =>
    have e1 : lab (.str a) = true := h.1
    simp [stpD, isStep, h4, e1, isTest_tst h.2]
theorem isScript_scr {ss : List Stp} (h : ∀ s ∈ ss, SOk s) (hl : ss.length ≤ 6) : isScript (scrD ss) = true := by
  simp only [scrD, isScript, List.length_map, Bool.and_eq_true, decide_eq_true_eq, List.all_map]
  exact ⟨hl, List.all_eq_true.mpr fun s hs => isStep_stp (h s hs)⟩
theorem wt_tst {t : Tst} (h : TOk t) : wt (tstD t) ≤ 20 := by
  cases t with
  | any => decide +kernel
  | top => decide +kernel
  | rel w l =>
    obtain ⟨hw, hl⟩ := h
    have h1 := hl.len
    have h2 : w.length ≤ 8 := by rcases hw with rfl | rfl | rfl | rfl <;> decide +kernel
    simp [tstD, wt, wtL]
    omega
theorem wt_stp {s : Stp} (h : SOk s) : wt (stpD s) ≤ 50 := by
  have w1 : ("rename" : Str).length = 6 := by decide +kernel
  have w2 : ("wrap" : Str).length = 4 := by decide +kernel
  have w3 : ("unwrap" : Str).length = 6 := by decide +kernel
  have w4 : ("drop" : Str).length = 4 := by decide +kernel
  cases s with
  | rename a b t =>
    have e1 := h.1.len
    have e2 := h.2.1.len
    have e3 := wt_tst h.2.2
    simp [stpD, wt, wtL, w1]
    omega
  | wrap a b t =>
    have e1 := h.1.len
    have e2 := h.2.1.len
    have e3 := wt_tst h.2.2
    simp [stpD, wt, wtL, w2]
    omega
  | unwrap a t =>
    have e1 := h.1.len
    have e3 := wt_tst h.2
    simp [stpD, wt, wtL, w3]
    omega
  | drop a t =>
    have e1 := h.1.len
    have e3 := wt_tst h.2
    simp [stpD, wt, wtL, w4]
    omega
theorem wt_scr {ss : List Stp} (h : ∀ s ∈ ss, SOk s) : wt (scrD ss) ≤ 50 * ss.length + 1 := by
  have : wtL (ss.map stpD) ≤ (ss.map stpD).length * 50 := wt_all fun x hx => by
    obtain ⟨s, hs, rfl⟩ := List.mem_map.mp hx
    exact wt_stp (h s hs)
  simp only [scrD, wt]
  rw [List.length_map] at this
  omega
/-- a script that a law draws -/
def GScr (k : Nat) (ss : List Stp) : Prop := ss.length ≤ k ∧ ∀ s ∈ ss, SOk s ∧ SGrow s
/-- a document that a law draws -/
def GDoc (c : List Nd) : Prop := lbL c ∧ dpL c ≤ 8 ∧ szL c ≤ 60000
theorem fit_of {ss : List Stp} {c : List Nd} (hs : GScr 6 ss) (hc : GDoc c) : FitR ss c := fun s1 s2 e => by
  have h0 : s1.length ≤ 6 := by have := hs.1; rw [e, List.length_append] at this; omega
  have h1 := dp_run (ss := s1) (c := c) (fun s h => (hs.2 s (by rw [e]; simp [h])).2) h0 hc.2.1
  have h2 := sz_run s1 c
  have h3 : 2 ^ s1.length * szL c ≤ 2 ^ 6 * 60000 := Nat.mul_le_mul (Nat.pow_le_pow_right (by decide) h0) hc.2.2
  exact ⟨by omega, by omega⟩
theorem GScr.mono {k l : Nat} {ss : List Stp} (h : GScr k ss) (hk : k ≤ l) : GScr l ss := ⟨Nat.le_trans h.1 hk, h.2⟩
section
variable {Q : D → Prop} {E : Ex → Prop} {ss : List Stp} {c : List Nd} {d e : D}
end

/-! ### what is drawn -/
def GLab (zs : List Str) : Prop := zs = (["a"] : List Str) ∨ zs = (["a", "b"] : List Str) ∨ zs = (["a", "b", "c"] : List Str) ∨ zs = (["li", "ul"] : List Str)
theorem lab_abc : LabS "a" ∧ LabS "b" ∧ LabS "c" ∧ LabS "d" ∧ LabS "q" ∧ LabS "li" ∧ LabS "ul" := by
  unfold LabS
  decide +kernel
theorem GLab.labs {zs : List Str} (h : GLab zs) : ∀ l ∈ zs, LabS l := by
  obtain ⟨a, b, c, d, q, li, ul⟩ := lab_abc
  rcases h with rfl | rfl | rfl | rfl <;> intro l hl <;> simp at hl
  · subst hl; exact a
  · rcases hl with rfl | rfl <;> assumption
  · rcases hl with rfl | rfl | rfl <;> assumption
  · rcases hl with rfl | rfl <;> assumption
theorem GLab.len {zs : List Str} (h : GLab zs) : 1 ≤ zs.length ∧ zs.length ≤ 3 := by rcases h with rfl | rfl | rfl | rfl <;> simp
theorem GLab.nod {zs : List Str} (h : GLab zs) : ("d" : Str) ∉ zs := by rcases h with rfl | rfl | rfl | rfl <;> decide +kernel
theorem GLab.noq {zs : List Str} (h : GLab zs) : ("q" : Str) ∉ zs := by rcases h with rfl | rfl | rfl | rfl <;> decide +kernel
section
variable {Q : D → Prop} {E : Ex → Prop} {zs : List Str}
theorem glabs_ok (hq : ∀ zs, GLab zs → Q (.list (zs.map .str))) : u__law_labels [] Q E := by
  show m__law_labels Q E
  unfold m__law_labels
  simp only [w_bind, w_pure]
  refine chosen_ok (by decide) (by decide) fun d hd => ?_
  simp only [List.mem_cons, List.not_mem_nil, or_false] at hd
  rcases hd with rfl | rfl | rfl | rfl | rfl
  · exact hq ["a"] (.inl rfl)
  · exact hq ["a", "b"] (.inr (.inl rfl))
  · exact hq ["a", "b"] (.inr (.inl rfl))
  · exact hq ["a", "b", "c"] (.inr (.inr (.inl rfl)))
  · exact hq ["li", "ul"] (.inr (.inr (.inr rfl)))
theorem chosenS_ok (h1 : 1 ≤ zs.length) (h2 : zs.length < 1000) (hq : ∀ z ∈ zs, Q (.str z)) : u__law_chosen [.list (zs.map .str)] Q E := by
  refine chosen_ok (by simpa using h1) (by simp; omega) fun d hd => ?_
  obtain ⟨z, hz, rfl⟩ := List.mem_map.mp hd
  exact hq z hz
end

/-! ### scripts and documents that are drawn -/
def knownL : List (List Stp) := [[.unwrap "b" (.rel "in" "a")], [.wrap "li" "ul" (.rel "notin" "ul")], [.rename "b" "c" .any, .rename "c" "b" (.rel "in" "a")], [.wrap "a" "b" .any], [.wrap "a" "b" .any, .rename "b" "a" (.rel "in" "b")],
  [.rename "a" "d" .any, .rename "b" "a" .any, .drop "c" .top], [.wrap "a" "a" .top, .wrap "b" "a" (.rel "notunder" "b")]]
theorem known_ok : ∀ ss ∈ knownL, GScr 3 ss := by
  obtain ⟨a, b, c, d, q, li, ul⟩ := lab_abc
  have ab : ("a" : Str) ≠ "b" := by decide +kernel
  have ba : ("b" : Str) ≠ "a" := by decide +kernel
  have lu : ("li" : Str) ≠ "ul" := by decide +kernel
  intro ss h
  simp only [knownL, List.mem_cons, List.not_mem_nil, or_false] at h
  rcases h with rfl | rfl | rfl | rfl | rfl | rfl | rfl
  · exact ⟨by decide, fun s hs => by simp only [List.mem_cons, List.not_mem_nil, or_false] at hs; subst hs; exact ⟨⟨b, .inl rfl, a⟩, trivial⟩⟩
  · exact ⟨by decide, fun s hs => by simp only [List.mem_cons, List.not_mem_nil, or_false] at hs; subst hs; exact ⟨⟨li, ul, .inr (.inl rfl), ul⟩, .inl lu⟩⟩
  · refine ⟨by decide, fun s hs => ?_⟩
    simp only [List.mem_cons, List.not_mem_nil, or_false] at hs
    rcases hs with rfl | rfl
    · exact ⟨⟨b, c, trivial⟩, trivial⟩
    · exact ⟨⟨c, b, .inl rfl, a⟩, trivial⟩
  · exact ⟨by decide, fun s hs => by simp only [List.mem_cons, List.not_mem_nil, or_false] at hs; subst hs; exact ⟨⟨a, b, trivial⟩, .inl ab⟩⟩
  · refine ⟨by decide, fun s hs => ?_⟩
    simp only [List.mem_cons, List.not_mem_nil, or_false] at hs
    rcases hs with rfl | rfl
    · exact ⟨⟨a, b, trivial⟩, .inl ab⟩
    · exact ⟨⟨b, a, .inl rfl, b⟩, trivial⟩
  · refine ⟨by decide, fun s hs => ?_⟩
    simp only [List.mem_cons, List.not_mem_nil, or_false] at hs
    rcases hs with rfl | rfl | rfl
    · exact ⟨⟨a, d, trivial⟩, trivial⟩
    · exact ⟨⟨b, a, trivial⟩, trivial⟩
    · exact ⟨⟨c, trivial⟩, trivial⟩
  · refine ⟨by decide, fun s hs => ?_⟩
    simp only [List.mem_cons, List.not_mem_nil, or_false] at hs
    rcases hs with rfl | rfl
    · exact ⟨⟨a, a, trivial⟩, .inr rfl⟩
    · exact ⟨⟨b, a, .inr (.inr (.inr rfl)), b⟩, .inl ba⟩
theorem sizeLine_lt (n : Nat) (h : n < 16777216) : n < sizeLine := by rw [sizeLine_eq]; exact h
section
variable {Q : D → Prop} {E : Ex → Prop} {zs : List Str}
end

section
variable {Q : D → Prop} {E : Ex → Prop} {zs : List Str} {ss : List Stp} {c : List Nd} {d e : D}
theorem dp_typed {c : List Nd} {n : Nat} (h : (docD c).depth ≤ 2 * n + 1) : dpL c ≤ n := by rw [dp_docD] at h; omega
theorem GLab.old {zs : List Str} (h : GLab zs) : Labs (zs.map .str) := by
  have h1 := h.len
  refine ⟨by simpa using h1.1, by simpa using h1.2, fun l hl => ?_⟩
  obtain ⟨z, hz, rfl⟩ := List.mem_map.mp hl
  refine ⟨h.labs z hz, ?_⟩
  have : ∀ z ∈ zs, wt (.str z) ≤ 3 := by
    rcases h with rfl | rfl | rfl | rfl <;> intro z hz <;> simp at hz
    · subst hz; decide +kernel
    · rcases hz with rfl | rfl <;> decide +kernel
    · rcases hz with rfl | rfl | rfl <;> decide +kernel
    · rcases hz with rfl | rfl <;> decide +kernel
  exact this z hz
theorem gdoc_ok (hl : GLab zs) {k : Int} (hk : 0 ≤ k) (hk2 : k ≤ 1000) (hq : ∀ c, GDoc c → Q (docD c)) : u__law_doc [.list (zs.map .str), .int k] Q E := by
  show m__law_doc (.list (zs.map .str)) (.int k) Q E
  unfold m__law_doc
  simp only [w_bind, w_pure, opAdd_i]
  refine pick_ok (by omega) (by omega) fun i h0 h1 => ?_
  simp only [isInt_w, w_bind, w_pure]
  refine doc_ok 40 8 hl.old (by decide) (by decide) (by decide) fun d e1 e2 e3 => ?_
  obtain ⟨c, rfl, g1, g2⟩ := gd_typed _ d (Nat.le_refl _) e1
  have e4 : wt (docD c) ≤ 60000 := Nat.le_trans e2 (by decide)
  exact hq c ⟨g1, dp_typed (n := 8) (by omega), by omega⟩
end
theorem w_inl {α β γ : Type} {f : β → M α} {g : γ → M α} {a : β} {Q : α → Prop} {E : Ex → Prop} : Sum.elim f g (.inl a) Q E = f a Q E := propext ⟨fun h => h, fun h => h⟩
theorem w_inr {α β γ : Type} {f : β → M α} {g : γ → M α} {a : γ} {Q : α → Prop} {E : Ex → Prop} : Sum.elim f g (.inr a) Q E = g a Q E := propext ⟨fun h => h, fun h => h⟩
theorem p_inl {β γ : Type} {f : β → Prop} {g : γ → Prop} {a : β} : Sum.elim f g (.inl a) = f a := propext ⟨fun h => h, fun h => h⟩
theorem p_inr {β γ : Type} {f : β → Prop} {g : γ → Prop} {a : γ} : Sum.elim f g (.inr a) = g a := propext ⟨fun h => h, fun h => h⟩
theorem one_inl {d : D} : oneD (.inl d) = d := rfl
theorem one_inr {ds : List D} : oneD (.inr ds) = .list ds := rfl
theorem min_le3 {a b n : Nat} (h : b ≤ n) : min a b ≤ n := by omega

end Sm

set_option Elab.async false
set_option linter.all false
set_option maxRecDepth 100000
set_option maxHeartbeats 4000000
namespace Sm
open PySem PySem.Spec L2
open PyProof.Rows hiding St
/-! ### texts by their signs -/
theorem in_one (c : Nat) (y : Str) : inStr ⟨#[c]⟩ y = decide (c ∈ y.cps.toList) := PySem.StrLaws.found_one y c
def gL (l : List Nat) : Bool := lab (.str (SS l))
theorem ss_len (l : List Nat) : (SS l).length = l.length := by simp [Str.length]
theorem ss_cat (a b : List Nat) : SS a ++ SS b = SS (a ++ b) := SX.S_cat a b
theorem ss_cps (l : Str) : SS l.cps.toList = l := by cases l; simp
theorem gL_good : GoodG gL := by
  intro l h
  unfold gL lab at h
  simp only [Bool.and_eq_true, decide_eq_true_eq, List.all_eq_true, ss_len] at h
  refine ⟨fun e => by subst e; simp at h, fun c hc => ?_⟩
  have h1 := h.2 (.str ⟨#[c]⟩) (by
    unfold signs
    refine List.mem_map.mpr ⟨c, by simpa using hc, rfl⟩)
  have h2 : inStr ⟨#[c]⟩ lets = true := h1
  rw [in_one] at h2
  have h3 : c ∈ lets.cps.toList := of_decide_eq_true h2
  cases e : sepc c with
  | false => rfl
  | true =>
    have h4 : ∀ c ∈ lets.cps.toList, sepc c = false := by decide +kernel
    exact absurd (e.symm.trans (h4 c h3)) (by decide)
theorem gL_len {l : List Nat} (h : gL l = true) : l.length ≤ 8 := by
  unfold gL lab at h
  simp only [Bool.and_eq_true, decide_eq_true_eq, ss_len] at h
  omega
theorem sep_in (c : Nat) : inStr ⟨#[c]⟩ " ()" = sepc c := by
  rw [in_one]
  have : (" ()" : Str).cps.toList = [32, 40, 41] := by decide +kernel
  rw [this]
  unfold sepc
  simp [Bool.or_assoc]
  rfl
theorem cut_at {L : List Nat} {i j : Nat} (hi : i ≤ L.length) (hj : i ≤ j) : cutS (SS L) (some (i : Int)) (some (j : Int)) = SS ((L.drop i).take (j - i)) := by
  unfold cutS
  rw [HT.sIx_nat, HT.sIx_nat, ss_len]
  have e1 : min i L.length = i := Nat.min_eq_left hi
  rw [e1]
  have e2 : (SS L).cps.toList = L := by simp
  rw [e2]
  congr 2
  by_cases h : j ≤ L.length
  · rw [Nat.min_eq_left h]
  · rw [Nat.min_eq_right (by omega)]
    rw [List.take_of_length_le (by simp), List.take_of_length_le (by simp; omega)]
theorem cut_lo {L : List Nat} {j : Nat} : cutS (SS L) none (some (j : Int)) = SS (L.take j) := by
  unfold cutS
  rw [HT.sIx_nat, ss_len]
  have e2 : (SS L).cps.toList = L := by simp
  rw [e2]
  show SS ((L.drop 0).take (min j L.length - 0)) = _
  rw [List.drop_zero, Nat.sub_zero]
  congr 1
  by_cases h : j ≤ L.length
  · rw [Nat.min_eq_left h]
  · rw [Nat.min_eq_right (by omega), List.take_of_length_le (Nat.le_refl _), List.take_of_length_le (by omega)]
theorem cut_hi {L : List Nat} {i : Nat} : cutS (SS L) (some (i : Int)) none = SS (L.drop i) := by
  unfold cutS
  rw [HT.sIx_nat, ss_len]
  have e2 : (SS L).cps.toList = L := by simp
  rw [e2]
  show SS ((L.drop (min i L.length)).take (L.length - min i L.length)) = _
  rw [List.take_of_length_le (by simp)]
  congr 1
  by_cases h : i ≤ L.length
  · rw [Nat.min_eq_left h]
  · rw [Nat.min_eq_right (by omega), List.drop_length, List.drop_of_length_le (by omega)]
theorem opCut_s {z : Str} {l h : Option Int} {Q : D → Prop} {E : Ex → Prop} : opCut (.str z) l h Q E = (z.length ≤ sizeLine ∧ Q (.str (cutS z l h))) := propext ⟨fun h => h, fun h => h⟩
theorem eqv_txt {a b : List Nat} : PyData.eqv (.str (SS a)) (.str (SS b)) = decide (a = b) := by
  show (SS a == SS b) = _
  exact SX.S_beq_eq
section
variable {Q : D → Prop} {E : Ex → Prop} {L : List Nat}
theorem rst_t {c : Nat} {t : List Nat} (e : sepc c = true) : rst (c :: t) = c :: t := by
  unfold rst
  simp [e]
theorem rst_f {c : Nat} {t : List Nat} (e : sepc c = false) : rst (c :: t) = rst t := by
  unfold rst
  simp [e]
theorem label_end_go (hz : L.length ≤ 16777216) : ∀ (n i : Nat), i ≤ L.length → L.length - i < n → ∀ (Q : D → Prop) (E : Ex → Prop), Q (.int ((L.length - (rst (L.drop i)).length : Nat) : Int)) → M.whileNS (fun s1 => (M.bind (M.bind (M.pure s1) fun z2 => M.bind (M.bind (M.pure (PyData.str (SS L))) opLen) fun z3 => opLt z2 z3) fun z8 => M.ite z8 (M.bind (M.bind (M.pure (PyData.str (SS L))) fun z4 => M.bind (M.pure s1) fun z5 => opIx z4 z5) fun z6 => M.bind (M.pure (PyData.str " ()")) fun z7 => opNotInA z6 z7) (M.pure false))) (fun s1 => ((M.bind (M.bind (M.pure s1) fun z9 => M.bind (M.pure (.int 1)) fun z10 => opAdd z9 z10) fun z11 => (M.pure z11)) : M (D))) n (.int (i : Nat)) Q E
  | 0, i, _, h, _, _, _ => absurd h (Nat.not_lt_zero _)
  | n + 1, i, hi, hn, Q, E, hq => by
    unfold M.whileNS
    have h0 : ∀ C : D → Prop, opLen (.str (SS L)) C E = (L.length ≤ sizeLine ∧ C (.int (L.length : Int))) := fun C => by
      have : opLen (.str (SS L)) C E = ((SS L).length ≤ sizeLine ∧ C (.int ((SS L).length : Int))) := propext ⟨fun h => h, fun h => h⟩
      rw [this, ss_len]
    simp only [w_bind, w_pure, h0, opLt_i]
    refine ⟨by rw [sizeLine_eq]; exact hz, ?_⟩
    by_cases h : i < L.length
    · have hd : decide ((i : Int) < (L.length : Int)) = true := by simpa using h
      rw [hd, w_iteT]
      have hx : ∀ C : D → Prop, opIx (.str (SS L)) (.int (i : Int)) C E = (L.length ≤ sizeLine ∧ C (.str ⟨#[L[i]]⟩)) := fun C => by
        have e : opIx (.str (SS L)) (.int (i : Int)) C E = ((SS L).length ≤ sizeLine ∧ ofOpt ((atI (SS L).cps.toList (i : Int)).map fun c => (PyData.str ⟨#[c]⟩)) C E) := propext ⟨fun h => h, fun h => h⟩
        rw [e, ss_len]
        have : atI (SS L).cps.toList (i : Int) = some L[i] := by
          unfold atI ixN
          rw [if_pos (by omega), if_pos (by simp; omega)]
          simp [h]
        rw [this]
        simp only [Option.map_some, ofOpt_s]
      simp only [w_bind, w_pure, hx, opNotIn_s, sep_in]
      refine ⟨by rw [sizeLine_eq]; exact hz, ?_⟩
      have ed : L.drop i = L[i] :: L.drop (i + 1) := List.drop_eq_getElem_cons h
      cases e : sepc L[i] with
      | true =>
        rw [Bool.not_true, w_iteF, w_pure]
        have : rst (L.drop i) = L.drop i := by
          rw [ed, rst_t e]
        rw [this, List.length_drop] at hq
        have e2 : L.length - (L.length - i) = i := by omega
        rw [e2] at hq
        exact hq
      | false =>
        rw [Bool.not_false, w_iteT]
        have e1 : rst (L.drop i) = rst (L.drop (i + 1)) := by
          rw [ed, rst_f e]
        rw [e1] at hq
        have e2 : ((i : Int) + 1) = ((i + 1 : Nat) : Int) := by omega
        simp only [w_bind, w_pure, opAdd_i, e2]
        exact label_end_go hz n (i + 1) (by omega) (by omega) Q E hq
    · have hd : decide ((i : Int) < (L.length : Int)) = false := by simpa using h
      rw [hd, w_iteF]
      simp only [w_pure]
      rw [w_iteF, w_pure]
      have : L.drop i = [] := List.drop_of_length_le (by omega)
      rw [this] at hq
      have e2 : L.length - (rst []).length = i := by simp [rst]; omega
      rw [e2] at hq
      exact hq
theorem label_end_ok {i : Nat} (hz : L.length ≤ 16777216) (hi : i ≤ L.length) (hq : Q (.int ((L.length - (rst (L.drop i)).length : Nat) : Int))) : u_label_end [.str (SS L), .int (i : Nat)] Q E := by
  show m_label_end (.str (SS L)) (.int (i : Nat)) Q E
  unfold m_label_end
  rw [w_bind]
  exact ⟨L.length - i + 1, label_end_go hz _ i hi (by omega) _ E hq⟩
end
end Sm

set_option Elab.async false
set_option linter.all false
set_option maxRecDepth 100000
set_option maxHeartbeats 4000000
namespace Sm
open PySem PySem.Spec L2
open PyProof.Rows hiding St
/-! ### content_in: the loop's body by itself (copied by a program from Wk72) -/
def condC : D × D → M Bool := (fun s3 => (M.bind (M.pure (.bool true)) tru))
def bodyC (r : List D → M D) (a0 : D) : D × D → M ((D × D) ⊕ D) := (fun s3 => ((M.bind (M.bind (M.bind (M.pure a0) fun z6 => M.bind (M.bind (M.pure s3.1) fun z4 => M.bind (M.pure []) fun z5 => M.pure (z4 :: z5)) fun z7 => M.pure (z6 :: z7)) u_label_end) fun z8 => (M.bind (M.bind (M.pure a0) fun z10 => M.bind (M.bind (M.pure s3.1) intM) fun z11 => M.bind (M.bind (M.pure z8) intM) fun z12 => opCut z10 z11 z12) fun z9 => M.bind (M.bind (M.pure []) fun z14 => M.pure (.tuple z14)) fun z13 => (M.bind (M.bind (M.bind (M.bind (M.bind (M.pure z9) fun z15 => M.bind (M.pure []) fun z16 => M.pure (z15 :: z16)) u_is_label) tru) fun z17 => M.pure (!z17)) fun b18 => M.ite b18 (M.raise ⟨"WrongText", none⟩) (M.bind (M.bind (M.bind (M.bind (M.pure a0) fun z21 => M.bind (M.bind (M.pure z8) intM) fun z22 => M.bind (M.bind (M.bind (M.pure z8) fun z19 => M.bind (M.pure (.int 1)) fun z20 => opAdd z19 z20) intM) fun z23 => opCut z21 z22 z23) fun z24 => M.bind (M.pure (PyData.str "(")) fun z25 => opEq z24 z25) fun b26 => M.ite b26 ((M.bind (M.bind (M.bind (M.pure a0) fun z32 => M.bind (M.bind (M.bind (M.pure z8) fun z28 => M.bind (M.pure (.int 1)) fun z29 => opAdd z28 z29) fun z30 => M.bind (M.pure []) fun z31 => M.pure (z30 :: z31)) fun z33 => M.pure (z32 :: z33)) r) fun z34 => (M.bind (unp2 z34) fun p35 => (M.bind (M.bind (M.bind (M.pure a0) fun z38 => M.bind (M.bind (M.pure p35.2) intM) fun z39 => M.bind (M.bind (M.bind (M.pure p35.2) fun z36 => M.bind (M.pure (.int 1)) fun z37 => opAdd z36 z37) intM) fun z40 => opCut z38 z39 z40) fun z41 => M.bind (M.pure (PyData.str ")")) fun z42 => opNe z41 z42) fun b43 => M.ite b43 (M.raise ⟨"WrongText", none⟩) (M.bind (M.bind (M.pure p35.2) fun z44 => M.bind (M.pure (.int 1)) fun z45 => opAdd z44 z45) fun z46 => (M.pure (z46, p35.1)))))) : M (D × D)) ((M.pure (z8, z13)) : M (D × D))) fun s27 => (M.bind (M.bind (M.pure s3.2) fun z55 => M.bind (M.bind (M.bind (M.bind (M.bind (M.pure z9) fun z49 => M.bind (M.bind (M.pure s27.2) fun z47 => M.bind (M.pure []) fun z48 => M.pure (z47 :: z48)) fun z50 => M.pure (z49 :: z50)) fun z51 => M.pure (.tuple z51)) fun z52 => M.bind (M.pure []) fun z53 => M.pure (z52 :: z53)) fun z54 => M.pure (.tuple z54)) fun z56 => opAdd z55 z56) fun z57 => (M.bind (M.bind (M.bind (M.pure a0) fun z60 => M.bind (M.bind (M.pure s27.1) intM) fun z61 => M.bind (M.bind (M.bind (M.pure s27.1) fun z58 => M.bind (M.pure (.int 1)) fun z59 => opAdd z58 z59) intM) fun z62 => opCut z60 z61 z62) fun z63 => M.bind (M.pure (PyData.str " ")) fun z64 => opNe z63 z64) fun b65 => M.ite b65 (M.bind (M.bind (M.bind (M.pure z57) fun z68 => M.bind (M.bind (M.pure s27.1) fun z66 => M.bind (M.pure []) fun z67 => M.pure (z66 :: z67)) fun z69 => M.pure (z68 :: z69)) fun z70 => M.pure (.tuple z70)) fun z71 => M.pure (Sum.inr z71)) (M.bind (M.bind (M.pure s27.1) fun z72 => M.bind (M.pure (.int 1)) fun z73 => opAdd z72 z73) fun z74 => (M.pure (Sum.inl (z74, z57)))))))))) : M ((D × D) ⊕ D)))
theorem m_content_eq (r : List D → M D) (a0 a1 : D) : m_content_in r a0 a1 = M.bind (M.bind (M.pure []) fun z1 => M.pure (.tuple z1)) fun z2 => M.seqR (M.while_ condC (bodyC r a0) (a1, z2)) (fun _ => M.fail) (fun r => r) := rfl
def wrongX : Ex := ⟨"WrongText", none⟩
def ix (L t : List Nat) : Nat := L.length - t.length
theorem viaQ {α : Type} {m : M α} {C : α → Prop} {E : Ex → Prop} (P : α → Prop) (h : ∀ C : α → Prop, (∀ a, P a → C a) → m C E) (k : ∀ a, P a → C a) : m C E := h C k
section
variable {Q : D → Prop} {E : Ex → Prop} {L s t : List Nat}
theorem suf_drop (h : t <:+ L) : L.drop (ix L t) = t := (List.suffix_iff_eq_drop.mp h).symm
theorem ix_le : ix L t ≤ L.length := Nat.sub_le _ _
theorem rst_suf (s : List Nat) : rst s <:+ s := List.dropWhile_suffix _
theorem one_eq (t : List Nat) (c : Nat) : decide (t.take 1 = [c]) = decide (t.head? = some c) := by
  cases t <;> simp
theorem cut1 (hz : L.length ≤ 16777216) (h : t <:+ L) {C : D → Prop} : opCut (.str (SS L)) (some ((ix L t : Nat) : Int)) (some (((ix L t : Nat) : Int) + 1)) C E = C (.str (SS (t.take 1))) := by
  have e : (((ix L t : Nat) : Int) + 1) = ((ix L t + 1 : Nat) : Int) := by omega
  rw [opCut_s, e, cut_at ix_le (Nat.le_succ _), suf_drop h, ss_len, sizeLine_eq]
  have : ix L t + 1 - ix L t = 1 := by omega
  rw [this]
  exact propext ⟨fun q => q.2, fun q => ⟨hz, q⟩⟩
theorem sgn_eq : ("(" : Str) = SS [40] ∧ (")" : Str) = SS [41] ∧ (" " : Str) = SS [32] := by decide +kernel
end
/-- content_in tells what the parser tells -/
def ContOk (k : Nat) : Prop := ∀ (L t : List Nat) (Q : D → Prop) (E : Ex → Prop), L.length ≤ 16777216 → t <:+ L → mx t < k → (∀ q, PP gL t = some q → Q (.tuple [docD q.1, .int (ix L q.2 : Nat)])) → (PP gL t = none → E wrongX) → u_content_in k [.str (SS L), .int (ix L t : Nat)] Q E
theorem pp_suf {t : List Nat} {q : List Nd × List Nat} (h : PP gL t = some q) : q.2 <:+ t := ⟨wrL q.1, ((pp_sound gL_good _ t (c := q.1) (r := q.2) (Nat.le_refl _) h).1).symm⟩
theorem mx_tail {t : List Nat} {c : Nat} (h : t.head? = some c) (h2 : c ≠ 41) : mx t.tail ≤ mx t ∧ (c = 40 → mx t.tail + 1 = mx t) := by
  rw [tail_len t c h]
  simp only [List.tail_cons]
  show mx t.tail ≤ (if c = 40 then mx t.tail + 1 else if c = 41 then mx t.tail - 1 else mx t.tail) ∧ _
  split
  · rename_i e
    exact ⟨by omega, fun _ => by simp [mx, e]⟩
  · rename_i e
    exact ⟨Nat.le_refl _, fun e2 => absurd e2 e⟩
theorem docD_snoc : ∀ (acc : List Nd) (x : Nd), ndsD acc ++ [ndD x] = ndsD (acc ++ [x])
  | [], x => rfl
  | y :: acc, x => by
    show ndD y :: (ndsD acc ++ [ndD x]) = _
    rw [docD_snoc acc x]
    rfl
/-- what innP leaves -/
theorem innP_mx {r : List Nat} {q : List Nd × List Nat} (e : innP (PP gL) r = some q) : q.2 <:+ r ∧ mx q.2 ≤ mx r := by
  unfold innP at e
  split at e
  · rename_i hh
    have ht := tail_len _ _ hh
    cases e2 : PP gL r.tail with
    | none => rw [e2] at e; cases e
    | some q2 =>
      rw [e2] at e
      simp only [Option.bind_some] at e
      split at e
      · rename_i h41
        simp at e
        subst e
        have h1 := pp_suf e2
        obtain ⟨a, b, _⟩ := pp_sound gL_good _ r.tail (c := q2.1) (r := q2.2) (Nat.le_refl _) e2
        have h2 := (mx_wr gL_good _ q2.1 q2.2 (Nat.le_refl _) b).1
        rw [← a] at h2
        have h3 := (mx_tail hh (by decide)).2 rfl
        have h4 := tail_len _ _ h41
        have h5 := (mx_cons_le 41 q2.2.tail).2
        rw [← h4] at h5
        refine ⟨(List.tail_suffix _).trans (h1.trans (List.tail_suffix _)), ?_⟩
        simp only
        omega
      · cases e
  · simp at e
    subst e
    exact ⟨List.suffix_refl _, Nat.le_refl _⟩
section
variable {E : Ex → Prop} {L s : List Nat} {acc : List Nd} {k : Nat} {Q' : (D × D) ⊕ D → Prop}
theorem body_ok (IH : ContOk k) (hz : L.length ≤ 16777216) (hs : s <:+ L) (hk : mx s < k + 1) (ha : acc.length + s.length ≤ L.length) (h1 : gL (lbl s) = false → E wrongX) (h2 : gL (lbl s) = true → innP (PP gL) (rst s) = none → E wrongX)
    (h3 : ∀ q, gL (lbl s) = true → innP (PP gL) (rst s) = some q → q.2.head? = some 32 → Q' (.inl (.int (ix L q.2.tail : Nat), docD (acc ++ [.mk (SS (lbl s)) q.1]))))
    (h4 : ∀ q, gL (lbl s) = true → innP (PP gL) (rst s) = some q → q.2.head? ≠ some 32 → Q' (.inr (.tuple [docD (acc ++ [.mk (SS (lbl s)) q.1]), .int (ix L q.2 : Nat)]))) :
    bodyC (u_content_in k) (.str (SS L)) (.int (ix L s : Nat), docD acc) Q' E := by
  have hr := (rst_suf s).trans hs
  have hsz : s.length ≤ L.length := hs.length_le
  have hlr := rst_len s
  have hmx : mx (rst s) = mx s := by
    have : ∀ c ∈ lbl s, sepc c = false := fun c hc => by
      have := List.all_takeWhile (p := fun c => !sepc c) (l := s)
      have := List.all_eq_true.mp this c hc
      simpa using this
    have h := mx_lab this (rst s)
    rw [lbl_rst] at h
    exact h.symm
  unfold bodyC
  simp only [w_bind, w_pure]
  refine label_end_ok (L := L) (i := ix L s) hz ix_le ?_
  rw [suf_drop hs]
  simp only [intM_w]
  have e0 : opCut (.str (SS L)) (some ((ix L s : Nat) : Int)) (some ((L.length - (rst s).length : Nat) : Int)) = opCut (.str (SS L)) (some ((ix L s : Nat) : Int)) (some ((ix L (rst s) : Nat) : Int)) := rfl
  have ecut : ∀ C : D → Prop, C (.str (SS (lbl s))) → opCut (.str (SS L)) (some ((ix L s : Nat) : Int)) (some ((ix L (rst s) : Nat) : Int)) C E := fun C hC => by
    rw [opCut_s, cut_at ix_le (by unfold ix; omega), suf_drop hs, ss_len, sizeLine_eq]
    refine ⟨hz, ?_⟩
    have e1 : ix L (rst s) - ix L s = (lbl s).length := by unfold ix; omega
    rw [e1]
    have e2 : s.take (lbl s).length = lbl s := by
      have h : (lbl s ++ rst s).take (lbl s).length = lbl s := List.take_left
      rw [lbl_rst] at h
      exact h
    rw [e2]
    exact hC
  refine ecut _ ?_
  refine is_label_ok (fun z hz2 => by
    injection hz2 with e
    subst e
    rw [ss_len]
    omega) ?_
  rw [tru_b]
  cases hg : gL (lbl s) with
  | false =>
    have : lab (.str (SS (lbl s))) = false := hg
    rw [this, Bool.not_false, w_iteT, w_raise]
    exact h1 hg
  | true =>
    have : lab (.str (SS (lbl s))) = true := hg
    rw [this, Bool.not_true, w_iteF]
    obtain ⟨l0, l1⟩ := gL_good _ hg
    have hl1 : 1 ≤ (lbl s).length := by
      cases e : lbl s with
      | nil => exact absurd e l0
      | cons x t => simp
    simp only [w_bind, w_pure, opAdd_i, intM_w]
    show opCut (.str (SS L)) (some ((ix L (rst s) : Nat) : Int)) (some (((ix L (rst s) : Nat) : Int) + 1)) _ E
    rw [cut1 hz hr, opEq_w, sgn_eq.1, eqv_txt, one_eq]
    refine ⟨by simp only [dep_str]; decide, ?_⟩
    -- the rest, from the node's content and place
    have go : ∀ q, innP (PP gL) (rst s) = some q → ∀ C : D × D → Prop, (C (.int (ix L q.2 : Nat), docD q.1) ↔ C (.int (ix L q.2 : Nat), docD q.1)) := fun q hq C => Iff.rfl
    refine viaQ (fun d : D × D => ∃ q, innP (PP gL) (rst s) = some q ∧ d = (.int (ix L q.2 : Nat), docD q.1)) (fun C hC => ?_) ?_
    · by_cases hh : (rst s).head? = some 40
      · rw [decide_eq_true hh, w_iteT]
        have hm := (mx_tail hh (by decide)).2 rfl
        have htl := tail_len _ _ hh
        have hsuf : (rst s).tail <:+ L := (List.tail_suffix _).trans hr
        have eix : ((ix L (rst s) : Nat) : Int) + 1 = ((ix L (rst s).tail : Nat) : Int) := by
          have h5 := congrArg List.length htl
          simp only [List.length_cons] at h5
          have h6 := hr.length_le
          unfold ix
          omega
        simp only [w_bind, w_pure, opAdd_i]
        show u_content_in k [.str (SS L), .int (((ix L (rst s) : Nat) : Int) + 1)] _ E
        rw [eix]
        refine IH L (rst s).tail _ E hz hsuf (by omega) (fun q hq => ?_) fun hq => ?_
        · simp only [unp2_w, intM_w, opAdd_i]
          have hs2 := (pp_suf hq).trans hsuf
          rw [cut1 hz hs2, opNe_w, sgn_eq.2.1, eqv_txt, one_eq]
          refine ⟨by simp only [dep_str]; decide, ?_⟩
          by_cases h41 : q.2.head? = some 41
          · rw [decide_eq_true h41, Bool.not_true, w_iteF]
            simp only [w_bind, w_pure, opAdd_i]
            have eix2 : ((ix L q.2 : Nat) : Int) + 1 = ((ix L q.2.tail : Nat) : Int) := by
              have h5 := congrArg List.length (tail_len _ _ h41)
              simp only [List.length_cons] at h5
              have h6 := hs2.length_le
              unfold ix
              omega
            rw [eix2]
            refine hC _ ⟨(q.1, q.2.tail), ?_, rfl⟩
            unfold innP
            rw [if_pos hh, hq]
            simp [h41]
          · rw [decide_eq_false h41, Bool.not_false, w_iteT, w_raise]
            refine h2 hg ?_
            unfold innP
            rw [if_pos hh, hq]
            simp [h41]
        · refine h2 hg ?_
          unfold innP
          rw [if_pos hh, hq]
          rfl
      · rw [decide_eq_false hh, w_iteF, w_pure]
        refine hC _ ⟨([], rst s), ?_, rfl⟩
        unfold innP
        rw [if_neg hh]
    · rintro _ ⟨q, hq, rfl⟩
      have hq2 := innP_mx hq
      have hs2 := hq2.1.trans hr
      have hadd : ∀ C : D → Prop, C (docD (acc ++ [.mk (SS (lbl s)) q.1])) → opAdd (docD acc) (.tuple [.tuple [.str (SS (lbl s)), docD q.1]]) C E := fun C hC => by
        unfold docD
        rw [opAdd_t]
        refine ⟨?_, ?_⟩
        · rw [ndsD_len, sizeLine_eq]
          simp
          omega
        · have := docD_snoc acc (.mk (SS (lbl s)) q.1)
          simp only [ndD] at this
          rw [this]
          exact hC
      simp only [w_bind, w_pure]
      refine hadd _ ?_
      simp only [intM_w, opAdd_i]
      rw [cut1 hz hs2, opNe_w, sgn_eq.2.2, eqv_txt, one_eq]
      refine ⟨by simp only [dep_str]; decide, ?_⟩
      by_cases h32 : q.2.head? = some 32
      · rw [decide_eq_true h32, Bool.not_true, w_iteF]
        simp only [w_bind, w_pure, opAdd_i]
        have eix2 : ((ix L q.2 : Nat) : Int) + 1 = ((ix L q.2.tail : Nat) : Int) := by
          have h5 := congrArg List.length (tail_len _ _ h32)
          simp only [List.length_cons] at h5
          have h6 := hs2.length_le
          unfold ix
          omega
        rw [eix2]
        exact h3 q hg hq h32
      · rw [decide_eq_false h32, Bool.not_false, w_iteT]
        simp only [w_bind, w_pure]
        exact h4 q hg hq h32
end
end Sm

set_option Elab.async false
set_option linter.all false
set_option maxRecDepth 100000
set_option maxHeartbeats 4000000
namespace Sm
open PySem PySem.Spec L2
open PyProof.Rows hiding St
theorem mx_rst (s : List Nat) : mx (rst s) = mx s := by
  have : ∀ c ∈ lbl s, sepc c = false := fun c hc => by
    have := List.all_takeWhile (p := fun c => !sepc c) (l := s)
    have := List.all_eq_true.mp this c hc
    simpa using this
  have h := mx_lab this (rst s)
  rw [lbl_rst] at h
  exact h.symm
theorem p0_none1 {s : List Nat} (h : gL (lbl s) = false) : PP gL s = none := by
  rw [pp_eq gL_good]
  unfold P0
  rw [h]
  rfl
theorem p0_none2 {s : List Nat} (h : gL (lbl s) = true) (e : innP (PP gL) (rst s) = none) : PP gL s = none := by
  rw [pp_eq gL_good]
  unfold P0
  rw [if_pos h, e]
  rfl
theorem p0_some {s : List Nat} {q : List Nd × List Nat} (h : gL (lbl s) = true) (e : innP (PP gL) (rst s) = some q) : PP gL s = nxtP (PP gL) (.mk (SS (lbl s)) q.1) q.2 := by
  rw [pp_eq gL_good]
  unfold P0
  rw [if_pos h, e]
  rfl
theorem cond_w {s : D × D} {C : Bool → Prop} {E : Ex → Prop} : condC s C E = C true := by
  unfold condC
  rw [w_bind, w_pure, tru_b]
section
variable {E : Ex → Prop} {L : List Nat} {k : Nat} {Q' : (D × D) ⊕ D → Prop}
theorem loop_ok (IH : ContOk k) (hz : L.length ≤ 16777216) : ∀ (n : Nat) (s : List Nat) (acc : List Nd), s <:+ L → s.length < n → mx s < k + 1 → acc.length + s.length ≤ L.length → (∀ q, PP gL s = some q → Q' (.inr (.tuple [docD (acc ++ q.1), .int (ix L q.2 : Nat)]))) → (PP gL s = none → E wrongX) → M.whileN condC (bodyC (u_content_in k) (.str (SS L))) n (.int (ix L s : Nat), docD acc) Q' E
  | 0, s, acc, _, h, _, _, _, _ => absurd h (Nat.not_lt_zero _)
  | n + 1, s, acc, hs, hn, hk, ha, h1, h2 => by
    unfold M.whileN
    rw [w_bind]
    rw [cond_w, w_iteT, w_bind]
    have hlr := rst_len s
    refine body_ok IH hz hs hk ha (fun hg => h2 (p0_none1 hg)) (fun hg e => h2 (p0_none2 hg e)) (fun q hg e hh => ?_) fun q hg e hh => ?_
    · show M.whileN condC (bodyC (u_content_in k) (.str (SS L))) n (.int (ix L q.2.tail : Nat), docD (acc ++ [.mk (SS (lbl s)) q.1])) Q' E
      obtain ⟨i1, i2⟩ := innP_mx e
      have hm := (mx_tail hh (by decide)).1
      have h6 := congrArg List.length (tail_len _ _ hh)
      simp only [List.length_cons] at h6
      have h7 := i1.length_le
      have h8 := mx_rst s
      have hl1 : 1 ≤ (lbl s).length := by
        have := (gL_good _ hg).1
        cases e : lbl s with
        | nil => exact absurd e this
        | cons x t => simp
      have ep := p0_some hg e
      unfold nxtP at ep
      rw [if_pos hh] at ep
      refine loop_ok IH hz n q.2.tail (acc ++ [.mk (SS (lbl s)) q.1]) ((List.tail_suffix _).trans (i1.trans ((rst_suf s).trans hs))) (by omega) (by omega) (by simp; omega) (fun q2 hq2 => ?_) fun hq2 => ?_
      · rw [hq2] at ep
        have := h1 _ ep
        simpa using this
      · rw [hq2] at ep
        exact h2 ep
    · show Q' (.inr (.tuple [docD (acc ++ [.mk (SS (lbl s)) q.1]), .int (ix L q.2 : Nat)]))
      have ep := p0_some hg e
      unfold nxtP at ep
      rw [if_neg hh] at ep
      exact h1 _ ep
theorem cont_ok : ∀ k, ContOk k
  | 0 => fun L t Q E _ _ h => absurd h (Nat.not_lt_zero _)
  | k + 1 => fun L t Q E hz hs hk h1 h2 => by
    show m_content_in (u_content_in k) (.str (SS L)) (.int (ix L t : Nat)) Q E
    rw [m_content_eq]
    simp only [w_bind, w_pure]
    rw [w_seqR]
    refine ⟨t.length + 1, ?_⟩
    exact loop_ok (cont_ok k) hz (t.length + 1) t [] hs (Nat.lt_succ_self _) hk (by simpa using hs.length_le) (fun q hq => h1 q hq) h2
end
section
variable {Q : D → Prop} {E : Ex → Prop} {L : List Nat}
/-- what read_document tells of a text -/
def readL (L : List Nat) : Option (List Nd) := if L = [] then some [] else match PP gL L with
  | some (c, []) => some c
  | _ => none
theorem read_ok (hz : L.length ≤ 16777216) (hm : mx L < 40) (h1 : ∀ c, readL L = some c → Q (docD c)) (h2 : readL L = none → E wrongX) : u_read_document [.str (SS L)] Q E := by
  show m_read_document (.str (SS L)) Q E
  unfold m_read_document
  have e0 : isInst "str" (.str (SS L)) = true := rfl
  simp only [w_bind, w_pure]
  rw [e0, tru_b, Bool.not_true, w_iteF]
  simp only [w_bind, w_pure]
  have e1 : ("" : Str) = SS [] := by decide +kernel
  rw [opEq_w, e1, eqv_txt]
  refine ⟨by simp only [dep_str]; decide, ?_⟩
  by_cases hL : L = []
  · rw [decide_eq_true hL, w_iteT]
    simp only [w_bind, w_pure]
    exact h1 [] (by unfold readL; rw [if_pos hL])
  · rw [decide_eq_false hL, w_iteF]
    simp only [w_bind, w_pure]
    have e2 : (0 : Int) = ((ix L L : Nat) : Int) := by unfold ix; omega
    rw [e2]
    refine cont_ok 40 L L _ E hz (List.suffix_refl _) hm (fun q hq => ?_) fun hq => ?_
    · simp only [unp2_w, w_bind, w_pure, opLen_s, ss_len]
      refine ⟨by rw [sizeLine_eq]; exact hz, ?_⟩
      rw [opNe_w]
      refine ⟨by simp only [dep_int]; decide, ?_⟩
      have hs := (pp_suf hq).length_le
      have e3 : PyData.eqv (.int ((ix L q.2 : Nat) : Int)) (.int (L.length : Int)) = decide (q.2 = []) := by
        show (((ix L q.2 : Nat) : Int) == (L.length : Int)) = _
        unfold ix
        cases e : q.2 with
        | nil => simp
        | cons y t =>
          rw [e] at hs
          simp only [List.length_cons] at hs
          have : ((((L.length - (y :: t).length : Nat)) : Int) == (L.length : Int)) = false := by
            rw [beq_eq_false_iff_ne]
            simp only [List.length_cons]
            omega
          rw [this]
          simp
      rw [e3]
      by_cases hq2 : q.2 = []
      · rw [decide_eq_true hq2, Bool.not_true, w_iteF]
        simp only [w_bind, w_pure]
        refine h1 q.1 ?_
        unfold readL
        rw [if_neg hL, hq]
        obtain ⟨c, r⟩ := q
        simp only at hq2
        subst hq2
        rfl
      · rw [decide_eq_false hq2, Bool.not_false, w_iteT, w_raise]
        refine h2 ?_
        unfold readL
        rw [if_neg hL, hq]
        obtain ⟨c, r⟩ := q
        cases r with
        | nil => exact absurd rfl hq2
        | cons y t => rfl
    · refine h2 ?_
      unfold readL
      rw [if_neg hL, hq]
theorem read_sound {c : List Nd} (h : readL L = some c) : wrL c = L ∧ okL gL c := by
  unfold readL at h
  split at h
  · rename_i e
    simp at h
    subst h
    subst e
    exact ⟨rfl, trivial⟩
  · split at h
    · rename_i c' e
      simp at h
      subst h
      obtain ⟨a, b, _⟩ := pp_sound gL_good _ L (Nat.le_refl _) e
      rw [List.append_nil] at a
      exact ⟨a.symm, b⟩
    · cases h
theorem read_wr {c : List Nd} (h : okL gL c) : readL (wrL c) = some c := by
  unfold readL
  cases c with
  | nil => rfl
  | cons x r =>
    have e := pp_complete gL_good _ (x :: r) [] (Nat.le_refl _) (by simp) h (.inl rfl)
    rw [List.append_nil] at e
    have hne : wrL (x :: r) ≠ [] := fun z => by
      rw [z] at e
      have := pp_len gL_good e
      cases this
    rw [if_neg hne, e]
def toldD (L : List Nat) : D := match readL L with
  | some c => docD c
  | none => .str "wrong!"
theorem told_ok (hz : L.length ≤ 16777216) (hm : mx L < 40) (hq : Q (toldD L)) : u__law_told [.str (SS L)] Q E := by
  show m__law_told (.str (SS L)) Q E
  unfold m__law_told
  rw [w_tryC]
  simp only [w_bind, w_pure]
  unfold toldD at hq
  refine read_ok hz hm (fun c h => ?_) fun h => ?_
  · rw [h] at hq
    exact hq
  · rw [h] at hq
    have hx : wrongX.cls ∈ exTab := by decide
    have hy : exSub wrongX.cls "WrongText" = true := by decide +kernel
    rw [w_catch, if_pos hy]
    simp only [w_bind, w_pure]
    exact ⟨hx, hq⟩
theorem told_bad {d : D} (h : isInst "str" d = false) (hq : Q (.str "wrong!")) : u__law_told [d] Q E := by
  show m__law_told d Q E
  unfold m__law_told
  rw [w_tryC]
  simp only [w_bind, w_pure]
  show m_read_document d _ _
  unfold m_read_document
  simp only [w_bind, w_pure]
  rw [h, tru_b, Bool.not_false, w_iteT, w_raise]
  have hx : (⟨"WrongText", none⟩ : Ex).cls ∈ exTab := by decide
  have hy : exSub "WrongText" "WrongText" = true := by decide +kernel
  rw [w_catch, if_pos hy]
  simp only [w_bind, w_pure]
  exact ⟨hx, hq⟩
end
end Sm

set_option Elab.async false
set_option linter.all false
set_option maxRecDepth 100000
set_option maxHeartbeats 4000000
namespace Sm
open PySem PySem.Spec L2
open PyProof.Rows hiding St
/-! ### documents written -/
theorem wr_mem : ∀ {c : List Nd} {x : Nd}, x ∈ c → (wrN x).length ≤ (wrL c).length
  | [], x, h => by cases h
  | y :: r, x, h => by
    rw [wrL_cons, List.length_append]
    rcases List.mem_cons.mp h with rfl | h
    · omega
    · have := wr_mem h
      cases r with
      | nil => cases h
      | cons z t =>
        simp only [List.isEmpty_cons, Bool.false_eq_true, if_false, List.length_cons]
        omega
theorem wr_sum : ∀ c : List Nd, (c.map fun x => (wrN x).length).sum + c.length ≤ (wrL c).length + 1
  | [] => by simp [wrL]
  | x :: r => by
    have := wr_sum r
    rw [wrL_cons]
    cases r with
    | nil => simp
    | cons y t =>
      simp only [List.isEmpty_cons, Bool.false_eq_true, if_false, List.length_append, List.length_cons, List.map_cons, List.sum_cons] at *
      omega
theorem wr_join : ∀ c : List Nd, Str.join " " (c.map fun x => SS (wrN x)) = SS (wrL c)
  | [] => by
    show Str.empty = SS (wrL [])
    decide +kernel
  | [x] => by
    show SS (wrN x) = _
    rw [wrL_cons]
    simp
  | x :: y :: r => by
    show SS (wrN x) ++ " " ++ Str.join " " ((y :: r).map fun x => SS (wrN x)) = _
    rw [wr_join (y :: r), sgn_eq.2.2, ss_cat, ss_cat, wrL_cons x (y :: r)]
    simp
theorem ok_mem : ∀ {c : List Nd} {x : Nd}, x ∈ c → okL gL c → okN gL x
  | [], x, h, _ => by cases h
  | y :: r, x, h, k => by
    rcases List.mem_cons.mp h with rfl | h
    · exact k.1
    · exact ok_mem h k.2
theorem dp_mem : ∀ {c : List Nd} {x : Nd}, x ∈ c → dpN x ≤ dpL c
  | [], x, h => by cases h
  | y :: r, x, h => by
    simp only [dpL]
    rcases List.mem_cons.mp h with rfl | h
    · omega
    · have := dp_mem h
      omega
theorem mapC_mp {β γ : Type} {E : Ex → Prop} {f : D → M (Option γ)} {e : β → D} {g : β → γ} : ∀ {l : List β} {Q : List γ → Prop}, (∀ x ∈ l, ∀ Q' : Option γ → Prop, Q' (some (g x)) → f (e x) Q' E) → Q (l.map g) → M.mapC f (l.map e) Q E
  | [], Q, _, h => h
  | x :: r, Q, hf, h => by
    show f (e x) _ E
    refine hf x (by simp) _ ?_
    exact mapC_mp (l := r) (Q := fun l => Q (g x :: l)) (fun y hy => hf y (by simp [hy])) h
section
variable {Q : D → Prop} {E : Ex → Prop} {L : List Nat}
theorem opAdd_ss {a b : List Nat} {Q : D → Prop} {E : Ex → Prop} : opAdd (.str (SS a)) (.str (SS b)) Q E = (a.length + b.length ≤ sizeLine ∧ Q (.str (SS (a ++ b)))) := by
  have : opAdd (.str (SS a)) (.str (SS b)) Q E = ((SS a).length + (SS b).length ≤ sizeLine ∧ Q (.str (SS a ++ SS b))) := propext ⟨fun h => h, fun h => h⟩
  rw [this, ss_len, ss_len, ss_cat]
/-- one node's text, with the content's text by r -/
theorem node_ok {r : List D → M D} {l : Str} {cc : List Nd} (hr : ∀ C : D → Prop, cc ≠ [] → C (.str (SS (wrL cc))) → r [docD cc] C E) (hz : (wrN (.mk l cc)).length ≤ 16000000) {C : D → Prop} (hC : C (.str (SS (wrN (.mk l cc))))) :
    opNe (docD cc) (.tuple []) (fun z12 => M.ite z12 (M.bind (M.bind (M.pure (PyData.str "(")) fun z8 => M.bind (M.bind (M.bind (M.pure (docD cc)) fun z6 => M.bind (M.pure []) fun z7 => M.pure (z6 :: z7)) r) fun z9 => opAdd z8 z9) fun z10 => M.bind (M.pure (PyData.str ")")) fun z11 => opAdd z10 z11) (M.pure (PyData.str "")) (fun a => opAdd (.str l) a C E) E) E := by
  rw [opNe_w]
  refine ⟨Nat.le_trans (Nat.min_le_right _ _) (by decide), ?_⟩
  have e0 : PyData.eqv (docD cc) (.tuple []) = cc.isEmpty := by
    unfold docD
    rw [eqv_nil]
    cases cc <;> rfl
  rw [e0]
  rw [wrN_mk] at hz hC
  rw [← ss_cps l]
  cases cc with
  | nil =>
    rw [List.isEmpty_nil, Bool.not_true, w_iteF, w_pure]
    have e1 : ("" : Str) = SS [] := by decide +kernel
    rw [e1, opAdd_ss]
    simp only [List.isEmpty_nil, if_true, List.append_nil] at hC hz ⊢
    exact ⟨by rw [sizeLine_eq]; simp only [List.length_append, List.length_cons, List.length_nil]; omega, hC⟩
  | cons y t =>
    rw [List.isEmpty_cons, Bool.not_false, w_iteT]
    simp only [w_bind, w_pure]
    simp only [List.isEmpty_cons, Bool.false_eq_true, if_false, List.length_append, List.length_cons, List.length_nil] at hz hC
    refine hr _ (by simp) ?_
    rw [sgn_eq.1, opAdd_ss]
    refine ⟨by rw [sizeLine_eq]; simp only [List.length_append, List.length_cons, List.length_nil]; omega, ?_⟩
    rw [sgn_eq.2.1, opAdd_ss]
    refine ⟨by rw [sizeLine_eq]; simp only [List.length_append, List.length_cons, List.length_nil]; omega, ?_⟩
    rw [opAdd_ss]
    refine ⟨by rw [sizeLine_eq]; simp only [List.length_append, List.length_cons, List.length_nil]; omega, ?_⟩
    simpa using hC
theorem join_fin {c : List Nd} (hz : (wrL c).length ≤ 16000000) (hq : Q (.str (SS (wrL c)))) : joinM (.str " ") (.list (c.map fun x => PyData.str (SS (wrN x)))) Q E := by
  have e : (c.map fun x => PyData.str (SS (wrN x))) = (c.map fun x => SS (wrN x)).map .str := by simp
  rw [e, joinM_w, wr_join]
  refine ⟨?_, hq⟩
  have h1 := wr_sum c
  have e1 : ((c.map fun x => SS (wrN x)).map (·.length)).sum = (c.map fun x => (wrN x).length).sum := by
    rw [List.map_map]
    congr 1
  have e2 : (" " : Str).length = 1 := by decide +kernel
  rw [e1, e2, List.length_map]
  omega
theorem written_ok : ∀ (n : Nat) {c : List Nd} {Q : D → Prop} {E : Ex → Prop}, dpL c < n → (wrL c).length ≤ 16000000 → Q (.str (SS (wrL c))) → u_written n [docD c] Q E
  | 0, _, _, _, h, _, _ => absurd h (Nat.not_lt_zero _)
  | n + 1, c, Q, E, hd, hz, hq => by
    show m_written (u_written n) (docD c) Q E
    unfold m_written
    simp only [w_bind, w_pure]
    unfold docD
    simp only [itemsA_t, w_nox, ndsD_map]
    refine mapC_mp (e := ndD) (g := fun x => PyData.str (SS (wrN x))) (fun x hx Q' hQ' => ?_) ?_
    · obtain ⟨l, cc⟩ := x
      have h1 := wr_mem hx
      have h2 := dp_mem hx
      simp only [dpN] at h2
      simp only [ndD, w_bind, w_pure]
      rw [unp2_w]
      refine node_ok (l := l) (cc := cc) (fun C hne hC => ?_) (by omega) hQ'
      refine written_ok n (by omega) ?_ hC
      rw [wrN_mk] at h1
      cases cc with
      | nil => exact absurd rfl hne
      | cons y t =>
        simp only [List.isEmpty_cons, Bool.false_eq_true, if_false, List.length_append, List.length_cons] at h1
        omega
    · exact join_fin hz hq
theorem doc_text_ok : ∀ (n : Nat) {c : List Nd} {Q : D → Prop} {E : Ex → Prop}, dpL c < n → (wrL c).length ≤ 16000000 → Q (.str (SS (wrL c))) → u__law_doc_text n [docD c] Q E
  | 0, _, _, _, h, _, _ => absurd h (Nat.not_lt_zero _)
  | n + 1, c, Q, E, hd, hz, hq => by
    show m__law_doc_text (u__law_doc_text n) (docD c) Q E
    unfold m__law_doc_text
    simp only [w_bind, w_pure]
    unfold docD
    simp only [itemsA_t, ndsD_map]
    have hsum := wr_sum c
    refine forS_inv (fun r s => ∃ a b, c = a ++ b ∧ r = b.map ndD ∧ s = a.map fun x => PyData.str (SS (wrN x))) (fun x r s hI Q' hQ' => ?_) (fun s hI => ?_) _ _ ⟨[], c, rfl, rfl, rfl⟩
    · obtain ⟨a, b, e1, e2, rfl⟩ := hI
      cases b with
      | nil => cases e2
      | cons y b =>
        simp only [List.map_cons, List.cons.injEq] at e2
        obtain ⟨rfl, rfl⟩ := e2
        obtain ⟨l, cc⟩ := y
        have hx : Nd.mk l cc ∈ c := by rw [e1]; simp
        have h1 := wr_mem hx
        have h2 := dp_mem hx
        simp only [dpN] at h2
        simp only [ndD, w_bind, w_pure]
        rw [unp2_w]
        refine node_ok (l := l) (cc := cc) (fun C hne hC => ?_) (by omega) ?_
        · refine doc_text_ok n (by omega) ?_ hC
          rw [wrN_mk] at h1
          cases cc with
          | nil => exact absurd rfl hne
          | cons y t =>
            simp only [List.isEmpty_cons, Bool.false_eq_true, if_false, List.length_append, List.length_cons] at h1
            omega
        · rw [w_guard, w_pure]
          refine ⟨?_, hQ' _ ⟨a ++ [.mk l cc], b, by rw [e1]; simp, rfl, by simp⟩⟩
          have : a.length ≤ c.length := by rw [e1]; simp
          rw [sizeLine_eq, List.length_map]
          omega
    · obtain ⟨a, b, e1, e2, rfl⟩ := hI
      have : b = [] := by cases b with
        | nil => rfl
        | cons y r => cases e2
      subst this
      rw [List.append_nil] at e1
      subst e1
      exact join_fin hz hq
end
end Sm

set_option Elab.async false
set_option linter.all false
set_option maxRecDepth 100000
set_option maxHeartbeats 4000000
namespace Sm
open PySem PySem.Spec L2
open PyProof.Rows hiding St
/-! ### bent texts -/
def Bent (L M' : List Nat) : Prop := M'.length ≤ L.length + 3 ∧ mx M' ≤ mx L + 2
theorem mx_take {L b : List Nat} {a d : Nat} (h : mx b ≤ mx (L.drop a) + d) : mx (L.take a ++ b) ≤ mx L + d := by
  have := mx_app h (L.take a)
  rw [List.take_append_drop] at this
  exact this
theorem mx_drop1 (L : List Nat) (a : Nat) : mx (L.drop (a + 1)) ≤ mx (L.drop a) + 1 := by
  cases h : L.drop a with
  | nil =>
    have : L.drop (a + 1) = [] := by
      have h2 := congrArg List.length h
      simp at h2
      exact List.drop_of_length_le (by omega)
    rw [this]
    simp [mx]
  | cons x t =>
    have : L.drop (a + 1) = t := by
      have h2 := congrArg List.tail h
      simpa using h2
    rw [this]
    exact (mx_cons_le x t).2
section
variable {Q : D → Prop} {E : Ex → Prop} {L : List Nat}
theorem bent_ok (hz : L.length ≤ 16000000) (hq : ∀ M', Bent L M' → Q (.str (SS M'))) : u__law_bent [.str (SS L)] Q E := by
  show m__law_bent (.str (SS L)) Q E
  unfold m__law_bent
  have h0 : ∀ (x : Str) (C : D → Prop), opLen (.str x) C E = (x.length ≤ sizeLine ∧ C (.int (x.length : Int))) := fun x C => propext ⟨fun h => h, fun h => h⟩
  simp only [w_bind, w_pure, h0, ss_len, opAdd_i]
  refine ⟨by rw [sizeLine_eq]; omega, ?_⟩
  refine pick_ok (by omega) (by omega) fun i hi0 hi1 => ?_
  obtain ⟨a, rfl⟩ := Int.eq_ofNat_of_zero_le hi0
  have ha : a ≤ L.length := by omega
  try simp only [w_bind, w_pure]
  refine pick_ok (by decide) (by decide) fun j hj0 hj1 => ?_
  obtain ⟨k, rfl⟩ := Int.eq_ofNat_of_zero_le hj0
  have hk : k < 4 := by omega
  try simp only [w_bind, w_pure]
  rw [opLt_i]
  have cutL : ∀ C : D → Prop, C (.str (SS (L.take a))) → opCut (.str (SS L)) none (some (a : Int)) C E := fun C hC => by
    rw [opCut_s, cut_lo, ss_len, sizeLine_eq]
    exact ⟨by omega, hC⟩
  have cutR : ∀ (b : Nat) (C : D → Prop), C (.str (SS (L.drop b))) → opCut (.str (SS L)) (some (b : Int)) none C E := fun b C hC => by
    rw [opCut_s, cut_hi, ss_len, sizeLine_eq]
    exact ⟨by omega, hC⟩
  have add : ∀ (x y : List Nat) (C : D → Prop), x.length + y.length ≤ 16777216 → C (.str (SS (x ++ y))) → opAdd (.str (SS x)) (.str (SS y)) C E := fun x y C h hC => by
    rw [opAdd_ss, sizeLine_eq]
    exact ⟨h, hC⟩
  have lt : (L.take a).length = a := by simp; omega
  have ld : ∀ b, (L.drop b).length = L.length - b := fun b => by simp
  by_cases h2 : k < 2
  · have hd : decide ((k : Int) < 2) = true := by simp; omega
    rw [hd, w_iteT]
    simp only [w_bind, w_pure, intM_w]
    refine cutL _ ?_
    have e6 : (" ()abA" : Str).length = 6 := by decide +kernel
    rw [h0, e6]
    refine ⟨by rw [sizeLine_eq]; decide, ?_⟩
    refine pick_ok (by decide) (by decide) fun m hm0 hm1 => ?_
    obtain ⟨m, rfl⟩ := Int.eq_ofNat_of_zero_le hm0
    have hm : m < 6 := by omega
    obtain ⟨c, hc⟩ : ∃ c, ∀ C : D → Prop, C (.str (SS [c])) → opIx (.str " ()abA") (.int (m : Int)) C E := by
      have e7 : (" ()abA" : Str).cps.toList = [32, 40, 41, 97, 98, 65] := by decide +kernel
      refine ⟨([32, 40, 41, 97, 98, 65] : List Nat).getD m 0, fun C hC => ?_⟩
      have e : opIx (.str " ()abA") (.int (m : Int)) C E = ((" ()abA" : Str).length ≤ sizeLine ∧ ofOpt ((atI (" ()abA" : Str).cps.toList (m : Int)).map fun c => (PyData.str ⟨#[c]⟩)) C E) := propext ⟨fun h => h, fun h => h⟩
      rw [e, e6, e7]
      refine ⟨by rw [sizeLine_eq]; decide, ?_⟩
      have : atI ([32, 40, 41, 97, 98, 65] : List Nat) (m : Int) = some (([32, 40, 41, 97, 98, 65] : List Nat).getD m 0) := by
        unfold atI ixN
        rw [if_pos (by omega), if_pos (by simp; omega)]
        simp
        have : m = 0 ∨ m = 1 ∨ m = 2 ∨ m = 3 ∨ m = 4 ∨ m = 5 := by omega
        rcases this with rfl | rfl | rfl | rfl | rfl | rfl <;> rfl
      rw [this]
      exact hC
    refine hc _ ?_
    refine add _ _ _ (by rw [lt]; simp; omega) ?_
    have e8 : ((a : Int) + (k : Int)) = ((a + k : Nat) : Int) := by omega
    rw [opAdd_i, intM_w, e8]
    refine cutR _ _ ?_
    refine add _ _ _ (by simp only [List.length_append, lt, ld, List.length_cons, List.length_nil]; omega) ?_
    refine hq _ ⟨by simp only [List.length_append, lt, ld, List.length_cons, List.length_nil]; omega, ?_⟩
    rw [List.append_assoc]
    refine mx_take ?_
    have h5 := (mx_cons_le c (L.drop (a + k))).1
    have h6 : mx (L.drop (a + k)) ≤ mx (L.drop a) + 1 := by
      have : k = 0 ∨ k = 1 := by omega
      rcases this with rfl | rfl
      · simp
      · exact mx_drop1 L a
    show mx (c :: L.drop (a + k)) ≤ _
    omega
  · have hd : decide ((k : Int) < 2) = false := by simp; omega
    rw [hd, w_iteF]
    simp only [w_bind, w_pure]
    rw [opEq_w, eqv_ii]
    refine ⟨by simp only [dep_int]; decide, ?_⟩
    by_cases h3 : k = 2
    · subst h3
      have e9 : (((2 : Nat) : Int) == 2) = true := rfl
      rw [e9, w_iteT]
      simp only [w_bind, w_pure, intM_w]
      refine cutL _ ?_
      have e8 : ((a : Int) + 1) = ((a + 1 : Nat) : Int) := by omega
      rw [opAdd_i, intM_w, e8]
      refine cutR _ _ ?_
      refine add _ _ _ (by simp only [lt, ld]; omega) ?_
      refine hq _ ⟨by simp only [List.length_append, lt, ld]; omega, ?_⟩
      have := mx_take (L := L) (a := a) (d := 1) (mx_drop1 L a)
      omega
    · have e9 : ((k : Int) == 2) = false := by
        rw [beq_eq_false_iff_ne]
        omega
      rw [e9, w_iteF]
      simp only [w_bind, w_pure, intM_w]
      refine cutL _ ?_
      refine chosen_ok (by decide) (by decide) fun d hd2 => ?_
      obtain ⟨ins, e10, hl, hm⟩ : ∃ ins : List Nat, d = .str (SS ins) ∧ ins.length ≤ 3 ∧ ∀ b, mx (ins ++ b) ≤ mx b + 2 := by
        have t1 : ("()" : Str) = SS [40, 41] ∧ (") (" : Str) = SS [41, 32, 40] ∧ ("(a)" : Str) = SS [40, 97, 41] ∧ (" a" : Str) = SS [32, 97] ∧ ("a " : Str) = SS [97, 32] ∧ (")" : Str) = SS [41] ∧ ("(" : Str) = SS [40] ∧ ("  " : Str) = SS [32, 32] := by decide +kernel
        simp only [List.mem_cons, List.not_mem_nil, or_false] at hd2
        rcases hd2 with rfl | rfl | rfl | rfl | rfl | rfl | rfl | rfl
        · exact ⟨_, congrArg PyData.str t1.1, by decide, fun b => by simp [mx] <;> omega⟩
        · exact ⟨_, congrArg PyData.str t1.2.1, by decide, fun b => by simp [mx] <;> omega⟩
        · exact ⟨_, congrArg PyData.str t1.2.2.1, by decide, fun b => by simp [mx] <;> omega⟩
        · exact ⟨_, congrArg PyData.str t1.2.2.2.1, by decide, fun b => by simp [mx] <;> omega⟩
        · exact ⟨_, congrArg PyData.str t1.2.2.2.2.1, by decide, fun b => by simp [mx] <;> omega⟩
        · exact ⟨_, congrArg PyData.str t1.2.2.2.2.2.1, by decide, fun b => by simp [mx] <;> omega⟩
        · exact ⟨_, congrArg PyData.str t1.2.2.2.2.2.2.1, by decide, fun b => by simp [mx] <;> omega⟩
        · exact ⟨_, congrArg PyData.str t1.2.2.2.2.2.2.2, by decide, fun b => by simp [mx] <;> omega⟩
      subst e10
      refine add _ _ _ (by rw [lt]; omega) ?_
      try simp only [intM_w]
      refine cutR _ _ ?_
      refine add _ _ _ (by simp only [List.length_append, lt, ld]; omega) ?_
      refine hq _ ⟨by simp only [List.length_append, lt, ld]; omega, ?_⟩
      rw [List.append_assoc]
      exact mx_take (hm _)
end
end Sm

set_option Elab.async false
set_option linter.all false
set_option maxRecDepth 100000
set_option maxHeartbeats 4000000
namespace Sm
open PySem PySem.Spec L2
open PyProof.Rows hiding St
theorem g_lab (l : Str) : gL l.cps.toList = lab (.str l) := by
  unfold gL
  rw [ss_cps]
theorem lb_ok : ∀ (n : Nat) (c : List Nd), szL c ≤ n → (lbL c ↔ okL gL c) := by
  intro n
  induction n with
  | zero =>
    intro c hs
    cases c with
    | nil => simp [lbL, okL]
    | cons x r => cases x; simp [szL, szN] at hs
  | succ n ih =>
    intro c hs
    cases c with
    | nil => simp [lbL, okL]
    | cons x r =>
      obtain ⟨l, cc⟩ := x
      simp only [szL, szN] at hs
      have h1 := ih cc (by omega)
      have h2 := ih r (by omega)
      simp only [lbL, lbN, okL, okN, g_lab, h1, h2, LabS]
theorem sz_wr : ∀ (n : Nat) (c : List Nd), szL c ≤ n → okL gL c → szL c ≤ (wrL c).length := by
  intro n
  induction n with
  | zero => intro c hs _; omega
  | succ n ih =>
    intro c hs hok
    cases c with
    | nil => simp [szL]
    | cons x r =>
      obtain ⟨l, cc⟩ := x
      obtain ⟨⟨a, b⟩, d⟩ := hok
      simp only [szL, szN] at hs ⊢
      have h1 := ih cc (by omega) b
      have h2 := ih r (by omega) d
      have h3 : 1 ≤ l.cps.toList.length := by
        have := (gL_good _ a).1
        cases e : l.cps.toList with
        | nil => exact absurd e this
        | cons y t => simp
      rw [wrL_cons, wrN_mk]
      simp only [List.length_append]
      have h4 : (wrL cc).length ≤ (if cc.isEmpty then ([] : List Nat) else 40 :: (wrL cc ++ [41])).length := by
        cases cc with
        | nil => simp [wrL]
        | cons y t => simp; omega
      have h5 : (wrL r).length ≤ (if r.isEmpty then ([] : List Nat) else 32 :: wrL r).length := by
        cases r with
        | nil => simp [wrL]
        | cons y t => simp
      omega
def OKT (l : List Nat) : Prop := l.length ≤ 700000 ∧ mx l ≤ 12
section
variable {Q : D → Prop} {E : Ex → Prop}
theorem document_text_ok {c : List Nd} (hl : lbL c) (hd : dpL c < 40) (hs : szL c ≤ 60000) (hz : (wrL c).length ≤ 16000000) (hq : Q (.str (SS (wrL c)))) : u_document_text [docD c] Q E := by
  show m_document_text (docD c) Q E
  unfold m_document_text
  simp only [w_bind, w_pure]
  refine need_ok (by have := wt_docD hl; omega) (fun _ => ?_) (fun h => by rw [gd_docD hl] at h; cases h)
  exact written_ok 40 hd hz hq
theorem told_is {l : List Nat} (h : OKT l) (hq : Q (toldD l)) : u__law_told [.str (SS l)] Q E := told_ok (by have := h.1; omega) (by have := h.2; omega) hq
theorem told_wrong {l : List Nat} (h : OKT l) (hn : readL l = none) (hq : Q (.str "wrong!")) : u__law_told [.str (SS l)] Q E := told_is h (by unfold toldD; rw [hn]; exact hq)
end
/-- the law's odd texts -/
def oddC : List (List Nat) := [[32], [97, 40], [97, 40, 41], [97, 40, 98], [97, 32, 98, 41], [40, 97, 41], [97, 40, 98, 41, 32, 40, 99, 41], [97, 32, 32, 98], [65], [97, 10, 98], [97, 40, 98, 41, 99]]
def oddS : List D := [.str " ", .str "a(", .str "a()", .str "a(b", .str "a b)", .str "(a)", .str "a(b) (c)", .str "a  b", .str "A", .str "a\nb", .str "a(b)c"]
theorem odd_eq : oddS = oddC.map fun l => PyData.str (SS l) := by
  have h : (" " : Str) = SS [32] ∧ ("a(" : Str) = SS [97, 40] ∧ ("a()" : Str) = SS [97, 40, 41] ∧ ("a(b" : Str) = SS [97, 40, 98] ∧ ("a b)" : Str) = SS [97, 32, 98, 41] ∧ ("(a)" : Str) = SS [40, 97, 41] ∧ ("a(b) (c)" : Str) = SS [97, 40, 98, 41, 32, 40, 99, 41] ∧ ("a  b" : Str) = SS [97, 32, 32, 98] ∧ ("A" : Str) = SS [65] ∧ ("a\nb" : Str) = SS [97, 10, 98] ∧ ("a(b)c" : Str) = SS [97, 40, 98, 41, 99] := by decide +kernel
  obtain ⟨h1, h2, h3, h4, h5, h6, h7, h8, h9, h10, h11⟩ := h
  unfold oddS oddC
  rw [h1, h2, h3, h4, h5, h6, h7, h8, h9, h10, h11] <;> rfl
theorem odd_ok : ∀ l ∈ oddC, OKT l ∧ readL l = none := by
  have h : oddC.all (fun l => decide (l.length ≤ 700000) && decide (mx l ≤ 12) && (readL l).isNone) = true := by decide +kernel
  intro l hl
  have h1 := List.all_eq_true.mp h l hl
  simp only [Bool.and_eq_true, decide_eq_true_eq, Option.isNone_iff_eq_none] at h1
  exact ⟨h1.1, h1.2⟩
theorem law_true : ∀ ns : List Int, ns.length ≤ 63 → u_law [.list (ns.map .int)] (fun d => d = .bool true) (fun _ => False) := by
  intro ns hlen
  show m_law (.list (ns.map .int)) _ _
  unfold m_law
  simp only [w_bind, w_pure, opLen_l, opMin_i, opMax_i, rangeM_i, w_seqR]
  refine ⟨?_, ?_⟩
  · rw [sizeLine_eq]
    show _ ∧ _ ≤ (16777216 : Int)
    simp only [List.length_map]
    split <;> split <;> omega
  refine forR_inv (fun r _ => ∀ d ∈ r, ∃ k : Nat, k ≤ 63 ∧ d = .int k) (fun x r s hI Q' k1 k2 => ?_) (fun s hI => ?_) _ _ ?_
  · obtain ⟨k, hk, rfl⟩ := hI x (by simp)
    have hr : ∀ d ∈ r, ∃ k : Nat, k ≤ 63 ∧ d = .int k := fun d hd => hI d (by simp [hd])
    have fin := k1 s hr
    clear k1 k2 hI hr
    simp only [w_bind, w_pure]
    refine source_ok hlen hk fun a b hb1 hb2 => ?_
    rw [srcM_w]
    refine ⟨⟨[a, b], rfl, rfl, fun z hz => by simp at hz; subst hz; exact ⟨hb1, hb2⟩⟩, ?_⟩
    refine glabs_ok fun zs hzs => ?_
    refine pick_ok (by decide) (by decide) fun i hi0 hi1 => ?_
    obtain ⟨m, hm, em⟩ : ∃ m : Int, (m = 4 ∨ m = 20) ∧ ∀ C : D → Prop, C (.int m) → opIx (.list [.int 4, .int 20]) (.int i) C (fun _ => False) := by
      have : i = 0 ∨ i = 1 := by omega
      rcases this with rfl | rfl
      · exact ⟨4, .inl rfl, fun C hC => hC⟩
      · exact ⟨20, .inr rfl, fun C hC => hC⟩
    refine em _ ?_
    refine gdoc_ok hzs (by omega) (by omega) fun c hc => ?_
    obtain ⟨hl, hd, hs⟩ := hc
    have hok := (lb_ok _ c (Nat.le_refl _)).mp hl
    have hwl := (wr_len gL (fun l h => gL_len h) _ c (Nat.le_refl _) hok).1
    have hmx := (mx_wr gL_good _ c [] (Nat.le_refl _) hok).2.1
    rw [List.append_nil] at hmx
    have hm0 : mx ([] : List Nat) = 0 := rfl
    have hT : OKT (wrL c) := ⟨by omega, by omega⟩
    refine doc_text_ok 40 (by omega) (by omega) ?_
    refine document_text_ok hl (by omega) hs (by omega) ?_
    rw [opNe_w, eqv_txt, decide_eq_true rfl, Bool.not_true, w_iteF]
    refine ⟨by simp only [dep_str]; decide, ?_⟩
    simp only [w_bind, w_pure]
    refine told_is hT ?_
    have e1 : toldD (wrL c) = docD c := by
      unfold toldD
      rw [read_wr hok]
    rw [e1, opNe_w, eqv_docS, Bool.not_true, w_iteF]
    refine ⟨by rw [dp_docD]; omega, ?_⟩
    simp only [w_bind, w_pure]
    rw [rangeM_i]
    refine ⟨⟨by decide, by rw [sizeLine_eq]; decide⟩, ?_⟩
    have hodd : ([PyData.str " ", .str "a(", .str "a()", .str "a(b", .str "a b)", .str "(a)", .str "a(b) (c)", .str "a  b", .str "A", .str "a\nb", .str "a(b)c"] : List D) = oddC.map fun l => PyData.str (SS l) := odd_eq
    rw [hodd]
    refine forS_inv (fun r st => ∃ ls : List (List Nat), st = (oddC ++ ls).map (fun l => PyData.str (SS l)) ∧ (∀ l ∈ ls, OKT l) ∧ ls.length + 2 * r.length ≤ 28) (fun x r st hI Q2 hQ2 => ?_) (fun st hI => ?_) _ _ ⟨[], by simp, (fun l h => nomatch h), by simp⟩
    · obtain ⟨ls, rfl, h1, h2⟩ := hI
      simp only [w_bind, w_pure]
      refine bent_ok (by omega) fun M1 hM1 => ?_
      have b1 := hM1.1
      have b2 := hM1.2
      refine bent_ok (by omega) fun M2 hM2 => ?_
      have b3 := hM2.1
      have b4 := hM2.2
      rw [addL_l]
      simp only [List.length_cons] at h2
      refine ⟨by rw [sizeLine_eq]; simp [oddC]; omega, ?_⟩
      refine hQ2 _ ⟨ls ++ [M1, M2], by simp, fun l hl => ?_, by simp; omega⟩
      rcases List.mem_append.mp hl with q | q
      · exact h1 l q
      · simp at q
        rcases q with rfl | rfl
        · exact ⟨by omega, by omega⟩
        · exact ⟨by omega, by omega⟩
    · obtain ⟨ls, rfl, h1, h2⟩ := hI
      have hall : ∀ l ∈ oddC ++ ls, OKT l := fun l hl => (List.mem_append.mp hl).elim (fun h => (odd_ok l h).1) (h1 l)
      simp only [itemsA_l]
      rw [w_seqR]
      refine forR_inv (fun r _ => ∀ d ∈ r, ∃ l, OKT l ∧ d = .str (SS l)) (fun x2 r2 st hI2 Q2 q1 q2 => ?_) (fun st hI2 => ?_) _ _ ?_
      · obtain ⟨l, hlo, rfl⟩ := hI2 x2 (by simp)
        have hr2 : ∀ d ∈ r2, ∃ l, OKT l ∧ d = .str (SS l) := fun d hd => hI2 d (by simp [hd])
        simp only [w_bind, w_pure]
        refine told_is hlo ?_
        have hlo1 := hlo.1
        have hlo2 := hlo.2
        unfold toldD
        cases e : readL l with
        | none =>
          have e2 : PyData.eqv (.str "wrong!") (.str "wrong!") = true := by decide +kernel
          simp only []
          rw [opNe_w, e2, Bool.not_true, w_iteF]
          refine ⟨by simp only [dep_str]; decide, ?_⟩
          rw [w_pure, w_iteF, w_pure]
          exact q1 _ hr2
        | some c2 =>
          obtain ⟨s1, s2⟩ := read_sound e
          have e2 : PyData.eqv (docD c2) (.str "wrong!") = false := rfl
          have hl2 := (lb_ok _ c2 (Nat.le_refl _)).mpr s2
          have hz2 := sz_wr _ c2 (Nat.le_refl _) s2
          rw [s1] at hz2
          have hd2 := (mx_wr gL_good _ c2 [] (Nat.le_refl _) s2).2.2
          rw [List.append_nil, s1] at hd2
          simp only []
          rw [opNe_w, e2, Bool.not_false, w_iteT]
          refine ⟨Nat.le_trans (Nat.min_le_right _ _) (by simp only [dep_str]; decide), ?_⟩
          simp only [w_bind, w_pure]
          refine good_ok 40 (by have := wt_docD hl2; omega) (by rw [dp_docD]; omega) ?_
          rw [gd_docD hl2, tru_b, Bool.not_true, w_iteF]
          simp only [w_bind, w_pure]
          refine doc_text_ok 40 (by omega) (by rw [s1]; omega) ?_
          rw [s1, opNe_w, eqv_txt, decide_eq_true rfl, Bool.not_true, w_iteF, w_pure]
          exact ⟨by simp only [dep_str]; decide, q1 _ hr2⟩
      · rw [p_inl]
        have ecut : cut ((oddC ++ ls).map fun l => PyData.str (SS l)) none (some 11) = oddC.map fun l => PyData.str (SS l) := by
          have : (some (11 : Int)) = some ((11 : Nat) : Int) := rfl
          unfold cut
          rw [this, HT.sIx_nat]
          show (((oddC ++ ls).map fun l => PyData.str (SS l)).drop 0).take (min 11 _ - 0) = _
          rw [List.drop_zero, Nat.sub_zero, List.map_append]
          have hl11 : (oddC.map fun l => PyData.str (SS l)).length = 11 := rfl
          rw [Nat.min_eq_left (by simp [oddC]), ← hl11, List.take_left]
        simp only [w_bind, w_pure, intM_w, asList_l, ecut, addL_l, itemsA_l, w_seqR]
        refine ⟨by rw [sizeLine_eq]; simp [oddC], ?_⟩
        refine forR_inv (fun r _ => ∀ d ∈ r, ∀ (C : D → Prop), C (.str "wrong!") → u__law_told [d] C (fun _ => False)) (fun x3 r3 st hI3 Q3 p1 p2 => ?_) (fun st hI3 => ?_) _ _ ?_
        · simp only [w_bind, w_pure]
          refine hI3 x3 (by simp) _ ?_
          have e2 : PyData.eqv (.str "wrong!") (.str "wrong!") = true := by decide +kernel
          rw [opNe_w, e2, Bool.not_true, w_iteF, w_pure]
          exact ⟨by simp only [dep_str]; decide, p1 _ fun d hd => hI3 d (by simp [hd])⟩
        · rw [p_inl]
          exact fin
        · intro d hd C hC
          rcases List.mem_append.mp hd with q | q
          · simp only [List.mem_cons, List.not_mem_nil, or_false] at q
            rcases q with rfl | rfl | rfl | rfl
            · exact told_bad rfl hC
            · exact told_bad rfl hC
            · exact told_bad rfl hC
            · exact told_bad rfl hC
          · obtain ⟨l, hl, rfl⟩ := List.mem_map.mp q
            exact told_wrong (odd_ok l hl).1 (odd_ok l hl).2 hC
      · intro d hd
        obtain ⟨l, hl, rfl⟩ := List.mem_map.mp hd
        exact ⟨l, hall l hl, rfl⟩
  · rw [p_inl]
    try simp only [w_bind, w_pure]
    have e1 : ("" : Str) = SS [] := by decide +kernel
    rw [e1]
    refine told_is ⟨by decide, by decide⟩ ?_
    have e2 : PyData.eqv (toldD []) (.tuple []) = true := by decide +kernel
    rw [opEq_w, e2, tru_b, w_iteT]
    refine ⟨by decide +kernel, ?_⟩
    simp only [w_bind, w_pure]
    have e3 : ("a(b(c d) e) f" : Str) = SS [97, 40, 98, 40, 99, 32, 100, 41, 32, 101, 41, 32, 102] := by decide +kernel
    rw [e3]
    refine told_is ⟨by decide, by decide +kernel⟩ ?_
    rw [opEq_w]
    exact ⟨by decide +kernel, congrArg PyData.bool (by decide +kernel)⟩
  · intro d hd
    simp at hd
    obtain ⟨k, hk, rfl⟩ := hd
    exact ⟨k, by omega, rfl⟩
end Sm

set_option Elab.async false
set_option linter.all false
set_option maxRecDepth 100000
set_option maxHeartbeats 4000000
namespace Sm
open PySem PySem.Spec L2
open PyProof.Rows hiding St
theorem all_mk {P : Program} {w : World} {K : PySem.W.Frag} {h : Heap} {mg : Str → Option Value} {fa : Addr} (X : K.In h) (G : h.Ns mainGlobals mg) (hfa : mg "law" = some (.ref fa))
    {f0 : Addr} {od0 an0 : Option Addr} {sl0 : Array (Option Value)} {oc0 kV0 dc0 pm0 cd0 ct0 : Value} {f1 : Addr} {od1 an1 : Option Addr} {sl1 : Array (Option Value)} {oc1 kV1 dc1 pm1 cd1 ct1 : Value} {f2 : Addr} {od2 an2 : Option Addr} {sl2 : Array (Option Value)} {oc2 kV2 dc2 pm2 cd2 ct2 : Value} {f3 : Addr} {od3 an3 : Option Addr} {sl3 : Array (Option Value)} {oc3 kV3 dc3 pm3 cd3 ct3 : Value} {f4 : Addr} {od4 an4 : Option Addr} {sl4 : Array (Option Value)} {oc4 kV4 dc4 pm4 cd4 ct4 : Value} {f5 : Addr} {od5 an5 : Option Addr} {sl5 : Array (Option Value)} {oc5 kV5 dc5 pm5 cd5 ct5 : Value} {f6 : Addr} {od6 an6 : Option Addr} {sl6 : Array (Option Value)} {oc6 kV6 dc6 pm6 cd6 ct6 : Value} {f7 : Addr} {od7 an7 : Option Addr} {sl7 : Array (Option Value)} {oc7 kV7 dc7 pm7 cd7 ct7 : Value} {f8 : Addr} {od8 an8 : Option Addr} {sl8 : Array (Option Value)} {oc8 kV8 dc8 pm8 cd8 ct8 : Value} {f9 : Addr} {od9 an9 : Option Addr} {sl9 : Array (Option Value)} {oc9 kV9 dc9 pm9 cd9 ct9 : Value} {f10 : Addr} {od10 an10 : Option Addr} {sl10 : Array (Option Value)} {oc10 kV10 dc10 pm10 cd10 ct10 : Value} {f11 : Addr} {od11 an11 : Option Addr} {sl11 : Array (Option Value)} {oc11 kV11 dc11 pm11 cd11 ct11 : Value} {f12 : Addr} {od12 an12 : Option Addr} {sl12 : Array (Option Value)} {oc12 kV12 dc12 pm12 cd12 ct12 : Value} {f13 : Addr} {od13 an13 : Option Addr} {sl13 : Array (Option Value)} {oc13 kV13 dc13 pm13 cd13 ct13 : Value} {f14 : Addr} {od14 an14 : Option Addr} {sl14 : Array (Option Value)} {oc14 kV14 dc14 pm14 cd14 ct14 : Value} {f15 : Addr} {od15 an15 : Option Addr} {sl15 : Array (Option Value)} {oc15 kV15 dc15 pm15 cd15 ct15 : Value} {f16 : Addr} {od16 an16 : Option Addr} {sl16 : Array (Option Value)} {oc16 kV16 dc16 pm16 cd16 ct16 : Value} {f17 : Addr} {od17 an17 : Option Addr} {sl17 : Array (Option Value)} {oc17 kV17 dc17 pm17 cd17 ct17 : Value} {f18 : Addr} {od18 an18 : Option Addr} {sl18 : Array (Option Value)} {oc18 kV18 dc18 pm18 cd18 ct18 : Value} {f19 : Addr} {od19 an19 : Option Addr} {sl19 : Array (Option Value)} {oc19 kV19 dc19 pm19 cd19 ct19 : Value} {f20 : Addr} {od20 an20 : Option Addr} {sl20 : Array (Option Value)} {oc20 kV20 dc20 pm20 cd20 ct20 : Value} {f21 : Addr} {od21 an21 : Option Addr} {sl21 : Array (Option Value)} {oc21 kV21 dc21 pm21 cd21 ct21 : Value} {t_LETTERS : _} {t_MOST_SIGNS : _} {C_ScriptError : Addr} {C_InvalidDocument : Addr} {C_WrongText : Addr}
    (a0 : PySem.W.nsIn K mainGlobals "is_label" = some (some (.ref f0))) (l0 : K.lookup f0 = some ⟨oc0, od0, .func (PySem.W.fnOf "is_label" "is_label" (defArgs (top 7)) (defBody (top 7)) (defScope (top 7)) .none kV0 dc0 pm0 an0 cd0 ct0), sl0⟩) (c0 : PySem.W.codeIn K cd0 "is_label" = true) (k0 : PySem.W.keepIn K (.ref f0) = true)
    (a1 : PySem.W.nsIn K mainGlobals "is_wide" = some (some (.ref f1))) (l1 : K.lookup f1 = some ⟨oc1, od1, .func (PySem.W.fnOf "is_wide" "is_wide" (defArgs (top 8)) (defBody (top 8)) (defScope (top 8)) .none kV1 dc1 pm1 an1 cd1 ct1), sl1⟩) (c1 : PySem.W.codeIn K cd1 "is_wide" = true) (k1 : PySem.W.keepIn K (.ref f1) = true)
    (a2 : PySem.W.nsIn K mainGlobals "label_end" = some (some (.ref f2))) (l2 : K.lookup f2 = some ⟨oc2, od2, .func (PySem.W.fnOf "label_end" "label_end" (defArgs (top 13)) (defBody (top 13)) (defScope (top 13)) .none kV2 dc2 pm2 an2 cd2 ct2), sl2⟩) (c2 : PySem.W.codeIn K cd2 "label_end" = true) (k2 : PySem.W.keepIn K (.ref f2) = true)
    (a3 : PySem.W.nsIn K mainGlobals "_law_source" = some (some (.ref f3))) (l3 : K.lookup f3 = some ⟨oc3, od3, .func (PySem.W.fnOf "_law_source" "_law_source" (defArgs (top 18)) (defBody (top 18)) (defScope (top 18)) .none kV3 dc3 pm3 an3 cd3 ct3), sl3⟩) (c3 : PySem.W.codeIn K cd3 "_law_source" = true) (k3 : PySem.W.keepIn K (.ref f3) = true)
    (a4 : PySem.W.nsIn K mainGlobals "_law_pick" = some (some (.ref f4))) (l4 : K.lookup f4 = some ⟨oc4, od4, .func (PySem.W.fnOf "_law_pick" "_law_pick" (defArgs (top 19)) (defBody (top 19)) (defScope (top 19)) .none kV4 dc4 pm4 an4 cd4 ct4), sl4⟩) (c4 : PySem.W.codeIn K cd4 "_law_pick" = true) (k4 : PySem.W.keepIn K (.ref f4) = true)
    (a5 : PySem.W.nsIn K mainGlobals "_law_wide" = some (some (.ref f5))) (l5 : K.lookup f5 = some ⟨oc5, od5, .func (PySem.W.fnOf "_law_wide" "_law_wide" (defArgs (top 21)) (defBody (top 21)) (defScope (top 21)) .none kV5 dc5 pm5 an5 cd5 ct5), sl5⟩) (c5 : PySem.W.codeIn K cd5 "_law_wide" = true) (k5 : PySem.W.keepIn K (.ref f5) = true)
    (a6 : PySem.W.nsIn K mainGlobals "_law_is_label" = some (some (.ref f6))) (l6 : K.lookup f6 = some ⟨oc6, od6, .func (PySem.W.fnOf "_law_is_label" "_law_is_label" (defArgs (top 22)) (defBody (top 22)) (defScope (top 22)) .none kV6 dc6 pm6 an6 cd6 ct6), sl6⟩) (c6 : PySem.W.codeIn K cd6 "_law_is_label" = true) (k6 : PySem.W.keepIn K (.ref f6) = true)
    (a7 : PySem.W.nsIn K mainGlobals "is_right_document" = some (some (.ref f7))) (l7 : K.lookup f7 = some ⟨oc7, od7, .func (PySem.W.fnOf "is_right_document" "is_right_document" (defArgs (top 9)) (defBody (top 9)) (defScope (top 9)) .none kV7 dc7 pm7 an7 cd7 ct7), sl7⟩) (c7 : PySem.W.codeIn K cd7 "is_right_document" = true) (k7 : PySem.W.keepIn K (.ref f7) = true)
    (a8 : PySem.W.nsIn K mainGlobals "_law_chosen" = some (some (.ref f8))) (l8 : K.lookup f8 = some ⟨oc8, od8, .func (PySem.W.fnOf "_law_chosen" "_law_chosen" (defArgs (top 20)) (defBody (top 20)) (defScope (top 20)) .none kV8 dc8 pm8 an8 cd8 ct8), sl8⟩) (c8 : PySem.W.codeIn K cd8 "_law_chosen" = true) (k8 : PySem.W.keepIn K (.ref f8) = true)
    (a9 : PySem.W.nsIn K mainGlobals "need_document" = some (some (.ref f9))) (l9 : K.lookup f9 = some ⟨oc9, od9, .func (PySem.W.fnOf "need_document" "need_document" (defArgs (top 10)) (defBody (top 10)) (defScope (top 10)) .none kV9 dc9 pm9 an9 cd9 ct9), sl9⟩) (c9 : PySem.W.codeIn K cd9 "need_document" = true) (k9 : PySem.W.keepIn K (.ref f9) = true)
    (a10 : PySem.W.nsIn K mainGlobals "_law_labels" = some (some (.ref f10))) (l10 : K.lookup f10 = some ⟨oc10, od10, .func (PySem.W.fnOf "_law_labels" "_law_labels" (defArgs (top 24)) (defBody (top 24)) (defScope (top 24)) .none kV10 dc10 pm10 an10 cd10 ct10), sl10⟩) (c10 : PySem.W.codeIn K cd10 "_law_labels" = true) (k10 : PySem.W.keepIn K (.ref f10) = true)
    (a11 : PySem.W.nsIn K mainGlobals "_law_bent" = some (some (.ref f11))) (l11 : K.lookup f11 = some ⟨oc11, od11, .func (PySem.W.fnOf "_law_bent" "_law_bent" (defArgs (top 29)) (defBody (top 29)) (defScope (top 29)) .none kV11 dc11 pm11 an11 cd11 ct11), sl11⟩) (c11 : PySem.W.codeIn K cd11 "_law_bent" = true) (k11 : PySem.W.keepIn K (.ref f11) = true)
    (a12 : PySem.W.nsIn K mainGlobals "written" = some (some (.ref f12))) (l12 : K.lookup f12 = some ⟨oc12, od12, .func (PySem.W.fnOf "written" "written" (defArgs (top 12)) (defBody (top 12)) (defScope (top 12)) .none kV12 dc12 pm12 an12 cd12 ct12), sl12⟩) (c12 : PySem.W.codeIn K cd12 "written" = true) (k12 : PySem.W.keepIn K (.ref f12) = true)
    (a13 : PySem.W.nsIn K mainGlobals "_law_doc_text" = some (some (.ref f13))) (l13 : K.lookup f13 = some ⟨oc13, od13, .func (PySem.W.fnOf "_law_doc_text" "_law_doc_text" (defArgs (top 27)) (defBody (top 27)) (defScope (top 27)) .none kV13 dc13 pm13 an13 cd13 ct13), sl13⟩) (c13 : PySem.W.codeIn K cd13 "_law_doc_text" = true) (k13 : PySem.W.keepIn K (.ref f13) = true)
    (a14 : PySem.W.nsIn K mainGlobals "content_in" = some (some (.ref f14))) (l14 : K.lookup f14 = some ⟨oc14, od14, .func (PySem.W.fnOf "content_in" "content_in" (defArgs (top 14)) (defBody (top 14)) (defScope (top 14)) .none kV14 dc14 pm14 an14 cd14 ct14), sl14⟩) (c14 : PySem.W.codeIn K cd14 "content_in" = true) (k14 : PySem.W.keepIn K (.ref f14) = true)
    (a15 : PySem.W.nsIn K mainGlobals "document_text" = some (some (.ref f15))) (l15 : K.lookup f15 = some ⟨oc15, od15, .func (PySem.W.fnOf "document_text" "document_text" (defArgs (top 15)) (defBody (top 15)) (defScope (top 15)) .none kV15 dc15 pm15 an15 cd15 ct15), sl15⟩) (c15 : PySem.W.codeIn K cd15 "document_text" = true) (k15 : PySem.W.keepIn K (.ref f15) = true)
    (a16 : PySem.W.nsIn K mainGlobals "_law_good_document" = some (some (.ref f16))) (l16 : K.lookup f16 = some ⟨oc16, od16, .func (PySem.W.fnOf "_law_good_document" "_law_good_document" (defArgs (top 23)) (defBody (top 23)) (defScope (top 23)) .none kV16 dc16 pm16 an16 cd16 ct16), sl16⟩) (c16 : PySem.W.codeIn K cd16 "_law_good_document" = true) (k16 : PySem.W.keepIn K (.ref f16) = true)
    (a17 : PySem.W.nsIn K mainGlobals "read_document" = some (some (.ref f17))) (l17 : K.lookup f17 = some ⟨oc17, od17, .func (PySem.W.fnOf "read_document" "read_document" (defArgs (top 16)) (defBody (top 16)) (defScope (top 16)) .none kV17 dc17 pm17 an17 cd17 ct17), sl17⟩) (c17 : PySem.W.codeIn K cd17 "read_document" = true) (k17 : PySem.W.keepIn K (.ref f17) = true)
    (a18 : PySem.W.nsIn K mainGlobals "_law_document" = some (some (.ref f18))) (l18 : K.lookup f18 = some ⟨oc18, od18, .func (PySem.W.fnOf "_law_document" "_law_document" (defArgs (top 25)) (defBody (top 25)) (defScope (top 25)) .none kV18 dc18 pm18 an18 cd18 ct18), sl18⟩) (c18 : PySem.W.codeIn K cd18 "_law_document" = true) (k18 : PySem.W.keepIn K (.ref f18) = true)
    (a19 : PySem.W.nsIn K mainGlobals "_law_doc" = some (some (.ref f19))) (l19 : K.lookup f19 = some ⟨oc19, od19, .func (PySem.W.fnOf "_law_doc" "_law_doc" (defArgs (top 26)) (defBody (top 26)) (defScope (top 26)) .none kV19 dc19 pm19 an19 cd19 ct19), sl19⟩) (c19 : PySem.W.codeIn K cd19 "_law_doc" = true) (k19 : PySem.W.keepIn K (.ref f19) = true)
    (a20 : PySem.W.nsIn K mainGlobals "_law_told" = some (some (.ref f20))) (l20 : K.lookup f20 = some ⟨oc20, od20, .func (PySem.W.fnOf "_law_told" "_law_told" (defArgs (top 28)) (defBody (top 28)) (defScope (top 28)) .none kV20 dc20 pm20 an20 cd20 ct20), sl20⟩) (c20 : PySem.W.codeIn K cd20 "_law_told" = true) (k20 : PySem.W.keepIn K (.ref f20) = true)
    (a21 : PySem.W.nsIn K mainGlobals "law" = some (some (.ref f21))) (l21 : K.lookup f21 = some ⟨oc21, od21, .func (PySem.W.fnOf "law" "law" (defArgs (top 30)) (defBody (top 30)) (defScope (top 30)) .none kV21 dc21 pm21 an21 cd21 ct21), sl21⟩) (c21 : PySem.W.codeIn K cd21 "law" = true) (k21 : PySem.W.keepIn K (.ref f21) = true)
    (z_all : PySem.W.nsIn K mainGlobals "all" = some none)
    (z_int : PySem.W.nsIn K mainGlobals "int" = some none)
    (z_isinstance : PySem.W.nsIn K mainGlobals "isinstance" = some none)
    (z_len : PySem.W.nsIn K mainGlobals "len" = some none)
    (z_max : PySem.W.nsIn K mainGlobals "max" = some none)
    (z_min : PySem.W.nsIn K mainGlobals "min" = some none)
    (z_range : PySem.W.nsIn K mainGlobals "range" = some none)
    (z_str : PySem.W.nsIn K mainGlobals "str" = some none)
    (z_tuple : PySem.W.nsIn K mainGlobals "tuple" = some none)
    (g_LETTERS : PySem.W.nsIn K mainGlobals "LETTERS" = some (some (.str "abcdefghijklmnopqrstuvwxyz" t_LETTERS)))
    (g_MOST_SIGNS : PySem.W.nsIn K mainGlobals "MOST_SIGNS" = some (some (.int 8 t_MOST_SIGNS)))
    (x1_ScriptError : PySem.W.nsIn K mainGlobals "ScriptError" = some (some (.ref C_ScriptError))) (x2_ScriptError : PySem.W.excIn K C_ScriptError [.type "ValueError", .type "Exception", .type "BaseException", .type "object"] "ValueError.__new__" = true) (x3_ScriptError : PySem.W.keepIn K (.ref C_ScriptError) = true) (x4_ScriptError : PySem.W.subIn K (.ref C_ScriptError) (.type "BaseException") = some true) (x5_ScriptError : PySem.W.typeIn K (.ref C_ScriptError) = some (.type "type")) (x6_ScriptError : PySem.W.hasDictIn K C_ScriptError = true)
    (x1_InvalidDocument : PySem.W.nsIn K mainGlobals "InvalidDocument" = some (some (.ref C_InvalidDocument))) (x2_InvalidDocument : PySem.W.excIn K C_InvalidDocument [.type "ValueError", .type "Exception", .type "BaseException", .type "object"] "ValueError.__new__" = true) (x3_InvalidDocument : PySem.W.keepIn K (.ref C_InvalidDocument) = true) (x4_InvalidDocument : PySem.W.subIn K (.ref C_InvalidDocument) (.type "BaseException") = some true) (x5_InvalidDocument : PySem.W.typeIn K (.ref C_InvalidDocument) = some (.type "type")) (x6_InvalidDocument : PySem.W.hasDictIn K C_InvalidDocument = true)
    (x1_WrongText : PySem.W.nsIn K mainGlobals "WrongText" = some (some (.ref C_WrongText))) (x2_WrongText : PySem.W.excIn K C_WrongText [.type "ValueError", .type "Exception", .type "BaseException", .type "object"] "ValueError.__new__" = true) (x3_WrongText : PySem.W.keepIn K (.ref C_WrongText) = true) (x4_WrongText : PySem.W.subIn K (.ref C_WrongText) (.type "BaseException") = some true) (x5_WrongText : PySem.W.typeIn K (.ref C_WrongText) = some (.type "type")) (x6_WrongText : PySem.W.hasDictIn K C_WrongText = true)
    (y_ScriptError_ScriptError : PySem.W.subIn K (.ref C_ScriptError) (.ref C_ScriptError) = some true)
    (y_ScriptError_InvalidDocument : PySem.W.subIn K (.ref C_ScriptError) (.ref C_InvalidDocument) = some false)
    (y_ScriptError_WrongText : PySem.W.subIn K (.ref C_ScriptError) (.ref C_WrongText) = some false)
    (y_InvalidDocument_ScriptError : PySem.W.subIn K (.ref C_InvalidDocument) (.ref C_ScriptError) = some true)
    (y_InvalidDocument_InvalidDocument : PySem.W.subIn K (.ref C_InvalidDocument) (.ref C_InvalidDocument) = some true)
    (y_InvalidDocument_WrongText : PySem.W.subIn K (.ref C_InvalidDocument) (.ref C_WrongText) = some false)
    (y_WrongText_ScriptError : PySem.W.subIn K (.ref C_WrongText) (.ref C_ScriptError) = some true)
    (y_WrongText_InvalidDocument : PySem.W.subIn K (.ref C_WrongText) (.ref C_InvalidDocument) = some false)
    (y_WrongText_WrongText : PySem.W.subIn K (.ref C_WrongText) (.ref C_WrongText) = some true)
    (hl : ∀ ns : List Int, ns.length ≤ 63 → u_law [.list (ns.map .int)] (fun d => d = .bool true) (fun _ => False)) :
    ∃ fd : FuncData, (∀ (s : Shared) (v : Value), BindsTo s fd ⟨[v], []⟩ [("script", v)]) ∧ ∀ base : Heap, K.In base → base.Ns mainGlobals mg → FnOk P w K mg base (L2.CX P w) 44 fa fd ["script"] (spLaw K) := by
  have e := hfa.symm.trans (PySem.W.mg_of X G a21)
  cases e
  have F0 := fun_mk (st := top 7) l0 c0 k0
  have H0 : HereF K mg "is_label" (top 7) ["value"] := ⟨_, _, PySem.W.mg_of X G a0, k0, F0.binds (ps := ["value"]) fun _ _ _ _ _ _ us hl => match us, hl with | [_], _ => rfl, F0⟩
  have F1 := fun_mk (st := top 8) l1 c1 k1
  have H1 : HereF K mg "is_wide" (top 8) ["value", "low", "high"] := ⟨_, _, PySem.W.mg_of X G a1, k1, F1.binds (ps := ["value", "low", "high"]) fun _ _ _ _ _ _ us hl => match us, hl with | [_, _, _], _ => rfl, F1⟩
  have F2 := fun_mk (st := top 13) l2 c2 k2
  have H2 : HereF K mg "label_end" (top 13) ["text", "at"] := ⟨_, _, PySem.W.mg_of X G a2, k2, F2.binds (ps := ["text", "at"]) fun _ _ _ _ _ _ us hl => match us, hl with | [_, _], _ => rfl, F2⟩
  have F3 := fun_mk (st := top 18) l3 c3 k3
  have H3 : HereF K mg "_law_source" (top 18) ["script", "k"] := ⟨_, _, PySem.W.mg_of X G a3, k3, F3.binds (ps := ["script", "k"]) fun _ _ _ _ _ _ us hl => match us, hl with | [_, _], _ => rfl, F3⟩
  have F4 := fun_mk (st := top 19) l4 c4 k4
  have H4 : HereF K mg "_law_pick" (top 19) ["source", "many"] := ⟨_, _, PySem.W.mg_of X G a4, k4, F4.binds (ps := ["source", "many"]) fun _ _ _ _ _ _ us hl => match us, hl with | [_, _], _ => rfl, F4⟩
  have F5 := fun_mk (st := top 21) l5 c5 k5
  have H5 : HereF K mg "_law_wide" (top 21) ["value", "low", "high"] := ⟨_, _, PySem.W.mg_of X G a5, k5, F5.binds (ps := ["value", "low", "high"]) fun _ _ _ _ _ _ us hl => match us, hl with | [_, _, _], _ => rfl, F5⟩
  have F6 := fun_mk (st := top 22) l6 c6 k6
  have H6 : HereF K mg "_law_is_label" (top 22) ["value"] := ⟨_, _, PySem.W.mg_of X G a6, k6, F6.binds (ps := ["value"]) fun _ _ _ _ _ _ us hl => match us, hl with | [_], _ => rfl, F6⟩
  have F7 := fun_mk (st := top 9) l7 c7 k7
  have H7 : HereF K mg "is_right_document" (top 9) ["value"] := ⟨_, _, PySem.W.mg_of X G a7, k7, F7.binds (ps := ["value"]) fun _ _ _ _ _ _ us hl => match us, hl with | [_], _ => rfl, F7⟩
  have F8 := fun_mk (st := top 20) l8 c8 k8
  have H8 : HereF K mg "_law_chosen" (top 20) ["source", "things"] := ⟨_, _, PySem.W.mg_of X G a8, k8, F8.binds (ps := ["source", "things"]) fun _ _ _ _ _ _ us hl => match us, hl with | [_, _], _ => rfl, F8⟩
  have F9 := fun_mk (st := top 10) l9 c9 k9
  have H9 : HereF K mg "need_document" (top 10) ["value"] := ⟨_, _, PySem.W.mg_of X G a9, k9, F9.binds (ps := ["value"]) fun _ _ _ _ _ _ us hl => match us, hl with | [_], _ => rfl, F9⟩
  have F10 := fun_mk (st := top 24) l10 c10 k10
  have H10 : HereF K mg "_law_labels" (top 24) ["source"] := ⟨_, _, PySem.W.mg_of X G a10, k10, F10.binds (ps := ["source"]) fun _ _ _ _ _ _ us hl => match us, hl with | [_], _ => rfl, F10⟩
  have F11 := fun_mk (st := top 29) l11 c11 k11
  have H11 : HereF K mg "_law_bent" (top 29) ["source", "text"] := ⟨_, _, PySem.W.mg_of X G a11, k11, F11.binds (ps := ["source", "text"]) fun _ _ _ _ _ _ us hl => match us, hl with | [_, _], _ => rfl, F11⟩
  have F12 := fun_mk (st := top 12) l12 c12 k12
  have H12 : HereF K mg "written" (top 12) ["document"] := ⟨_, _, PySem.W.mg_of X G a12, k12, F12.binds (ps := ["document"]) fun _ _ _ _ _ _ us hl => match us, hl with | [_], _ => rfl, F12⟩
  have F13 := fun_mk (st := top 27) l13 c13 k13
  have H13 : HereF K mg "_law_doc_text" (top 27) ["document"] := ⟨_, _, PySem.W.mg_of X G a13, k13, F13.binds (ps := ["document"]) fun _ _ _ _ _ _ us hl => match us, hl with | [_], _ => rfl, F13⟩
  have F14 := fun_mk (st := top 14) l14 c14 k14
  have H14 : HereF K mg "content_in" (top 14) ["text", "at"] := ⟨_, _, PySem.W.mg_of X G a14, k14, F14.binds (ps := ["text", "at"]) fun _ _ _ _ _ _ us hl => match us, hl with | [_, _], _ => rfl, F14⟩
  have F15 := fun_mk (st := top 15) l15 c15 k15
  have H15 : HereF K mg "document_text" (top 15) ["document"] := ⟨_, _, PySem.W.mg_of X G a15, k15, F15.binds (ps := ["document"]) fun _ _ _ _ _ _ us hl => match us, hl with | [_], _ => rfl, F15⟩
  have F16 := fun_mk (st := top 23) l16 c16 k16
  have H16 : HereF K mg "_law_good_document" (top 23) ["value"] := ⟨_, _, PySem.W.mg_of X G a16, k16, F16.binds (ps := ["value"]) fun _ _ _ _ _ _ us hl => match us, hl with | [_], _ => rfl, F16⟩
  have F17 := fun_mk (st := top 16) l17 c17 k17
  have H17 : HereF K mg "read_document" (top 16) ["value"] := ⟨_, _, PySem.W.mg_of X G a17, k17, F17.binds (ps := ["value"]) fun _ _ _ _ _ _ us hl => match us, hl with | [_], _ => rfl, F17⟩
  have F18 := fun_mk (st := top 25) l18 c18 k18
  have H18 : HereF K mg "_law_document" (top 25) ["source", "labels", "left", "deep"] := ⟨_, _, PySem.W.mg_of X G a18, k18, F18.binds (ps := ["source", "labels", "left", "deep"]) fun _ _ _ _ _ _ us hl => match us, hl with | [_, _, _, _], _ => rfl, F18⟩
  have F19 := fun_mk (st := top 26) l19 c19 k19
  have H19 : HereF K mg "_law_doc" (top 26) ["source", "labels", "most"] := ⟨_, _, PySem.W.mg_of X G a19, k19, F19.binds (ps := ["source", "labels", "most"]) fun _ _ _ _ _ _ us hl => match us, hl with | [_, _, _], _ => rfl, F19⟩
  have F20 := fun_mk (st := top 28) l20 c20 k20
  have H20 : HereF K mg "_law_told" (top 28) ["value"] := ⟨_, _, PySem.W.mg_of X G a20, k20, F20.binds (ps := ["value"]) fun _ _ _ _ _ _ us hl => match us, hl with | [_], _ => rfl, F20⟩
  have F21 := fun_mk (st := top 30) l21 c21 k21
  have FB : Facts K mg (fun n => if n = "ScriptError" then C_ScriptError else if n = "InvalidDocument" then C_InvalidDocument else C_WrongText) := { n_all := PySem.W.mg_none_of X G z_all, n_int := PySem.W.mg_none_of X G z_int, n_isinstance := PySem.W.mg_none_of X G z_isinstance, n_len := PySem.W.mg_none_of X G z_len, n_max := PySem.W.mg_none_of X G z_max, n_min := PySem.W.mg_none_of X G z_min, n_range := PySem.W.mg_none_of X G z_range, n_str := PySem.W.mg_none_of X G z_str, n_tuple := PySem.W.mg_none_of X G z_tuple, c_LETTERS := ⟨_, V.str "abcdefghijklmnopqrstuvwxyz", PySem.W.mg_of X G g_LETTERS, ⟨_, rfl⟩, fun H => .str _ (by decide +kernel)⟩, c_MOST_SIGNS := ⟨_, V.int 8, PySem.W.mg_of X G g_MOST_SIGNS, ⟨_, rfl⟩, fun H => .int _⟩, x_ScriptError := ⟨PySem.W.mg_of X G x1_ScriptError, x2_ScriptError, x3_ScriptError, x4_ScriptError, x5_ScriptError⟩, x_InvalidDocument := ⟨PySem.W.mg_of X G x1_InvalidDocument, x2_InvalidDocument, x3_InvalidDocument, x4_InvalidDocument, x5_InvalidDocument⟩, x_WrongText := ⟨PySem.W.mg_of X G x1_WrongText, x2_WrongText, x3_WrongText, x4_WrongText, x5_WrongText⟩, tab := ⟨fun n hn m hm => by simp only [exTab, List.mem_cons, List.not_mem_nil, or_false] at hn hm; rcases hn with rfl | rfl | rfl <;> rcases hm with rfl | rfl | rfl <;> first | exact PySem.W.exm_ref x4_ScriptError x6_ScriptError x5_ScriptError y_ScriptError_ScriptError | exact PySem.W.exm_ref x4_InvalidDocument x6_InvalidDocument x5_InvalidDocument y_ScriptError_InvalidDocument | exact PySem.W.exm_ref x4_WrongText x6_WrongText x5_WrongText y_ScriptError_WrongText | exact PySem.W.exm_ref x4_ScriptError x6_ScriptError x5_ScriptError y_InvalidDocument_ScriptError | exact PySem.W.exm_ref x4_InvalidDocument x6_InvalidDocument x5_InvalidDocument y_InvalidDocument_InvalidDocument | exact PySem.W.exm_ref x4_WrongText x6_WrongText x5_WrongText y_InvalidDocument_WrongText | exact PySem.W.exm_ref x4_ScriptError x6_ScriptError x5_ScriptError y_WrongText_ScriptError | exact PySem.W.exm_ref x4_InvalidDocument x6_InvalidDocument x5_InvalidDocument y_WrongText_InvalidDocument | exact PySem.W.exm_ref x4_WrongText x6_WrongText x5_WrongText y_WrongText_WrongText⟩ }
  refine ⟨PySem.W.fnOf "law" "law" (defArgs (top 30)) (defBody (top 30)) (defScope (top 30)) .none kV21 dc21 pm21 an21 cd21 ct21, fun s v => .of_eq rfl, fun base _ _ => ?_⟩
  have g_is_label := ok_is_label (P := P) (w := w) (base := base) FB H0
  have g_is_wide := ok_is_wide (P := P) (w := w) (base := base) FB H1
  have g_label_end := ok_label_end (P := P) (w := w) (base := base) FB H2
  have g__law_source := ok__law_source (P := P) (w := w) (base := base) FB H3
  have g__law_pick := ok__law_pick (P := P) (w := w) (base := base) FB H4
  have g__law_wide := ok__law_wide (P := P) (w := w) (base := base) FB H5
  have g__law_is_label := ok__law_is_label (P := P) (w := w) (base := base) FB H6
  have g_is_right_document := ok_is_right_document (P := P) (w := w) (base := base) FB H7 g_is_wide g_is_label
  have g__law_chosen := ok__law_chosen (P := P) (w := w) (base := base) FB H8 g__law_pick
  have g_need_document := ok_need_document (P := P) (w := w) (base := base) FB H9 g_is_right_document
  have g__law_labels := ok__law_labels (P := P) (w := w) (base := base) FB H10 g__law_chosen
  have g__law_bent := ok__law_bent (P := P) (w := w) (base := base) FB H11 g__law_pick g__law_chosen
  have g_written := ok_written (P := P) (w := w) (base := base) FB H12
  have g__law_doc_text := ok__law_doc_text (P := P) (w := w) (base := base) FB H13
  have g_content_in := ok_content_in (P := P) (w := w) (base := base) FB H14 g_label_end g_is_label
  have g_document_text := ok_document_text (P := P) (w := w) (base := base) FB H15 g_need_document g_written
  have g__law_good_document := ok__law_good_document (P := P) (w := w) (base := base) FB H16 g__law_wide g__law_is_label
  have g_read_document := ok_read_document (P := P) (w := w) (base := base) FB H17 g_content_in
  have g__law_document := ok__law_document (P := P) (w := w) (base := base) FB H18 g__law_pick g__law_chosen
  have g__law_doc := ok__law_doc (P := P) (w := w) (base := base) FB H19 g__law_document g__law_pick
  have g__law_told := ok__law_told (P := P) (w := w) (base := base) FB H20 g_read_document
  exact ok_law (P := P) (w := w) (base := base) FB F21 g__law_source g__law_doc g__law_labels g__law_pick g__law_doc_text g_document_text g__law_told g__law_bent g__law_good_document hl
theorem walk {l : PySem.W.OpenLaw} {q : Program} {loose : List Str} {XP : (Str → Option Value) → Heap → Prop} {YP : World → Heap → Prop} {d : DefRec} {K : Params → PySem.W.Frag} (hn : l.most = some 63) (hdf : d.params.defaults = [])
    (hY : ∀ (w : World) (h : Heap), YP w h → (K w.params).In h)
    (F : ∀ (w : World) (mg : Str → Option Value) (fa : Addr) (h : Heap), (K w.params).In h → h.Ns mainGlobals mg → mg d.name = some (.ref fa) →
      ∃ fd : FuncData, (∀ (s : Shared) (u : Value), BindsTo s fd ⟨[u], []⟩ [("script", u)]) ∧ ∀ base : Heap, (K w.params).In base → base.Ns mainGlobals mg → FnOk l.prog w (K w.params) mg base (L2.CX l.prog w) 44 fa fd ["script"] (spLaw (K w.params))) :
    PySem.W.WalkO q loose XP YP l.row.toRowW d [] (fun f vs => PySem.call f vs) :=
  L2.walk_of (n := 63) (k := 44) (x := "script") (CX := fun w => L2.CX l.prog w) (sp := fun w => spLaw (K w.params)) hn (by decide) hdf ⟨rfl, by decide, by decide⟩ hY F (fun _ _ a ns hl _ hS => ⟨a, ns, rfl, hS, hl, fun _ => rfl⟩) fun _ _ _ _ _ z => by
    obtain ⟨_, _, _, _, _, _, _, _, _, _, _, _, z⟩ := z
    exact z
end Sm
open PySem PySem.W PyProof.Rows
set_option maxRecDepth 100000 in
set_option maxHeartbeats 0 in
theorem PySem.Challenge.cw_wrapunwrap_k72_documents_written_and_rea_holds : PySem.Challenge.rw_wrapunwrap_k72_documents_written_and_rea.Holds := by
  w_on; o_law; k_head; (case hw => w_witness2)
  k_fill
  refine Sm.walk (l := PySem.Challenge.rw_wrapunwrap_k72_documents_written_and_rea) rfl rfl (fun w h Y => PySem.W.kIn_of Y) ?F
  case F =>
    intro w mg fa h KX G hmg
    refine' Sm.all_mk KX G hmg ?a0 ?l0 ?c0 ?k0 ?a1 ?l1 ?c1 ?k1 ?a2 ?l2 ?c2 ?k2 ?a3 ?l3 ?c3 ?k3 ?a4 ?l4 ?c4 ?k4 ?a5 ?l5 ?c5 ?k5 ?a6 ?l6 ?c6 ?k6 ?a7 ?l7 ?c7 ?k7 ?a8 ?l8 ?c8 ?k8 ?a9 ?l9 ?c9 ?k9 ?a10 ?l10 ?c10 ?k10 ?a11 ?l11 ?c11 ?k11 ?a12 ?l12 ?c12 ?k12 ?a13 ?l13 ?c13 ?k13 ?a14 ?l14 ?c14 ?k14 ?a15 ?l15 ?c15 ?k15 ?a16 ?l16 ?c16 ?k16 ?a17 ?l17 ?c17 ?k17 ?a18 ?l18 ?c18 ?k18 ?a19 ?l19 ?c19 ?k19 ?a20 ?l20 ?c20 ?k20 ?a21 ?l21 ?c21 ?k21 ?z_all ?z_int ?z_isinstance ?z_len ?z_max ?z_min ?z_range ?z_str ?z_tuple ?g_LETTERS ?g_MOST_SIGNS ?x1_ScriptError ?x2_ScriptError ?x3_ScriptError ?x4_ScriptError ?x5_ScriptError ?x6_ScriptError ?x1_InvalidDocument ?x2_InvalidDocument ?x3_InvalidDocument ?x4_InvalidDocument ?x5_InvalidDocument ?x6_InvalidDocument ?x1_WrongText ?x2_WrongText ?x3_WrongText ?x4_WrongText ?x5_WrongText ?x6_WrongText ?y_ScriptError_ScriptError ?y_ScriptError_InvalidDocument ?y_ScriptError_WrongText ?y_InvalidDocument_ScriptError ?y_InvalidDocument_InvalidDocument ?y_InvalidDocument_WrongText ?y_WrongText_ScriptError ?y_WrongText_InvalidDocument ?y_WrongText_WrongText Sm.law_true
    (case a0 => k_is)
    (case l0 => k_is)
    (case c0 => k_is)
    (case k0 => k_is)
    (case a1 => k_is)
    (case l1 => k_is)
    (case c1 => k_is)
    (case k1 => k_is)
    (case a2 => k_is)
    (case l2 => k_is)
    (case c2 => k_is)
    (case k2 => k_is)
    (case a3 => k_is)
    (case l3 => k_is)
    (case c3 => k_is)
    (case k3 => k_is)
    (case a4 => k_is)
    (case l4 => k_is)
    (case c4 => k_is)
    (case k4 => k_is)
    (case a5 => k_is)
    (case l5 => k_is)
    (case c5 => k_is)
    (case k5 => k_is)
    (case a6 => k_is)
    (case l6 => k_is)
    (case c6 => k_is)
    (case k6 => k_is)
    (case a7 => k_is)
    (case l7 => k_is)
    (case c7 => k_is)
    (case k7 => k_is)
    (case a8 => k_is)
    (case l8 => k_is)
    (case c8 => k_is)
    (case k8 => k_is)
    (case a9 => k_is)
    (case l9 => k_is)
    (case c9 => k_is)
    (case k9 => k_is)
    (case a10 => k_is)
    (case l10 => k_is)
    (case c10 => k_is)
    (case k10 => k_is)
    (case a11 => k_is)
    (case l11 => k_is)
    (case c11 => k_is)
    (case k11 => k_is)
    (case a12 => k_is)
    (case l12 => k_is)
    (case c12 => k_is)
    (case k12 => k_is)
    (case a13 => k_is)
    (case l13 => k_is)
    (case c13 => k_is)
    (case k13 => k_is)
    (case a14 => k_is)
    (case l14 => k_is)
    (case c14 => k_is)
    (case k14 => k_is)
    (case a15 => k_is)
    (case l15 => k_is)
    (case c15 => k_is)
    (case k15 => k_is)
    (case a16 => k_is)
    (case l16 => k_is)
    (case c16 => k_is)
    (case k16 => k_is)
    (case a17 => k_is)
    (case l17 => k_is)
    (case c17 => k_is)
    (case k17 => k_is)
    (case a18 => k_is)
    (case l18 => k_is)
    (case c18 => k_is)
    (case k18 => k_is)
    (case a19 => k_is)
    (case l19 => k_is)
    (case c19 => k_is)
    (case k19 => k_is)
    (case a20 => k_is)
    (case l20 => k_is)
    (case c20 => k_is)
    (case k20 => k_is)
    (case a21 => k_is)
    (case l21 => k_is)
    (case c21 => k_is)
    (case k21 => k_is)
    (case z_all => k_is)
    (case z_int => k_is)
    (case z_isinstance => k_is)
    (case z_len => k_is)
    (case z_max => k_is)
    (case z_min => k_is)
    (case z_range => k_is)
    (case z_str => k_is)
    (case z_tuple => k_is)
    (case g_LETTERS => k_is)
    (case g_MOST_SIGNS => k_is)
    (case x1_ScriptError => k_is)
    (case x2_ScriptError => k_exc)
    (case x3_ScriptError => k_is)
    (case x4_ScriptError => k_is)
    (case x5_ScriptError => k_is)
    (case x6_ScriptError => k_is)
    (case x1_InvalidDocument => k_is)
    (case x2_InvalidDocument => k_exc)
    (case x3_InvalidDocument => k_is)
    (case x4_InvalidDocument => k_is)
    (case x5_InvalidDocument => k_is)
    (case x6_InvalidDocument => k_is)
    (case x1_WrongText => k_is)
    (case x2_WrongText => k_exc)
    (case x3_WrongText => k_is)
    (case x4_WrongText => k_is)
    (case x5_WrongText => k_is)
    (case x6_WrongText => k_is)
    (case y_ScriptError_ScriptError => first | rfl | k_is)
    (case y_ScriptError_InvalidDocument => first | rfl | k_is)
    (case y_ScriptError_WrongText => first | rfl | k_is)
    (case y_InvalidDocument_ScriptError => first | rfl | k_is)
    (case y_InvalidDocument_InvalidDocument => first | rfl | k_is)
    (case y_InvalidDocument_WrongText => first | rfl | k_is)
    (case y_WrongText_ScriptError => first | rfl | k_is)
    (case y_WrongText_InvalidDocument => first | rfl | k_is)
    (case y_WrongText_WrongText => first | rfl | k_is)
