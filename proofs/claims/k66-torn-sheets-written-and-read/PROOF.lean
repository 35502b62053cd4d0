import PyProof.Rows.All
import Wide.All
import OpenK.AllK
import Wide.FinOn
import PyProof.EqAt
import PyProof.EqKinds
import PyProof.TupleCall
import KE.DataEq
import KE.DataCmp
import KE.DataFind
import KE.SortData
import HandS.ForMost
import HandS.Walk
import HandS.Exc
import HandS.ExcOwn
import HandS.TryOnly
import HandS.WordsExc
import HandS.Defaults
import KE.GoesNew
import KE.GoesMore
import KE.DataIsa
import HandS.Wide
import HandS.TupAny
import HandS.Flow
import HandS.StrMore
import HandS.Text
import HandS.Deep
import PyProof.StrOps2
import PyProof.AutoIntOps
import PyProof.PureInt
import HandS.WideBits
import HandS.Style
import KE.DataAny
import HandS.WordsDict
import HandS.Conv
import HandS.RaiseMore
import HandS.BoundList
import HandS.Ends
import HandS.Head0
import HandS.Head1
import HandS.Head2
import HandS.HeadEnd
import HandS.HeadHook1
import HandS.HeadHook2
import HandS.HeadHook3
import HandS.HeadHook4
import HandS.HeadWalk
import HandS.Codes
import KE.KxText
import PySem.Challenge.RW_touchboats_k66_torn_sheets_written_and_r
set_option Elab.async false
set_option linter.all false
set_option maxRecDepth 100000
set_option maxHeartbeats 4000000
namespace DL
open PySem PySem.Spec PyProof.Rows L2

/-! ### values, objects, environments, outcomes -/
inductive W where
  | d (x : PyData) | r (n : Nat) | g (x : Str) | o (c : Str) (fs : List (Str × PyData))
inductive Ob where
  | lst (xs : List PyData) | dK (kvs : List (Key × PyData)) | dT (kvs : List (List Key × PyData)) | ins (c : Str) (fs : List (Str × W))
inductive En where
  | w (x : W) | own (o : Ob)
abbrev Ev := List (Option En)
abbrev Sto := List Ob
inductive Out (α : Type) where
  | ok (a : α) (S : Sto) | exc (c : Str) (S : Sto) | bad
abbrev M (α : Type) := Sto → Out α
def ret {α : Type} (a : α) : M α := fun S => .ok a S
def bnd {α β : Type} (m : M α) (f : α → M β) : M β := fun S => match m S with
  | .ok a S' => f a S'
  | .exc c S' => .exc c S'
  | .bad => .bad
def lft {α : Type} (o : Option α) : M α := fun S => match o with
  | some a => .ok a S
  | none => .bad
def bad {α : Type} : M α := fun _ => .bad
def raise {α : Type} (c : Str) : M α := fun S => .exc c S
def kD : Key → PyData
  | .inl i => .int i
  | .inr x => .str x
def tkD (k : List Key) : PyData := .tuple (k.map kD)

/-! ### how values stand for data; B: the addresses that may still be written -/
def TupAt (K : PySem.W.Frag) (B : Addr → Prop) (H : Hp) (a : Addr) (xs : List V) : Prop := H a = some (.tup xs) ∧ ¬ B a
theorem TupAt.sq {K : PySem.W.Frag} {B : Addr → Prop} {H : Hp} {a : Addr} {xs : List V} (h : TupAt K B H a xs) : SqT K H a xs := .inl (.inl h.1)
def LstAt (K : PySem.W.Frag) (B : Addr → Prop) (H : Hp) (a : Addr) (xs : List V) : Prop := (Rd H a (.lst xs) ∧ ¬ B a) ∨
  ∃ (o : Obj) (its : Array Value) (n : Nat), K.lookup a = some o ∧ o.cls = .type "list" ∧ o.dict = none ∧ o.data = .seq its n ∧ its.size ≤ sizeLine ∧ Vals xs its.toList
theorem LstAt.sq {K : PySem.W.Frag} {B : Addr → Prop} {H : Hp} {a : Addr} {xs : List V} (h : LstAt K B H a xs) : SqL K H a xs := h.imp (·.1) id
theorem LstAt.of {K : PySem.W.Frag} {B : Addr → Prop} {H : Hp} {a : Addr} {xs : List V} (h : SqL K H a xs) (n : ¬ B a) : LstAt K B H a xs := h.imp (⟨·, n⟩) id
mutual
inductive RD (K : PySem.W.Frag) (B : Addr → Prop) (H : Hp) : V → PyData → Prop
  | non : RD K B H .non .none
  | bl (b : Bool) : RD K B H (.bl b) (.bool b)
  | int (i : Int) : RD K B H (.int i) (.int i)
  | str (x : Str) : RD K B H (.str x) (.str x)
  | lst {a : Addr} {xs : List V} {ds : List PyData} : LstAt K B H a xs → RDs K B H xs ds → RD K B H (V.ref a) (.list ds)
  | tup {a : Addr} {xs : List V} {ds : List PyData} : TupAt K B H a xs → RDs K B H xs ds → RD K B H (V.ref a) (.tuple ds)
  | dK {a : Addr} {kvs : List (Key × V)} {ds : List (PyData × PyData)} : Rd H a (.dK kvs) → ¬ B a → kvs.map (fun p => kD p.1) = ds.map (·.1) → RDs K B H (kvs.map (·.2)) (ds.map (·.2)) → RD K B H (V.ref a) (.dict ds)
  | dT {a : Addr} {kvs : List (List Key × V)} {ds : List (PyData × PyData)} : Rd H a (.dT kvs) → ¬ B a → kvs.map (fun p => tkD p.1) = ds.map (·.1) → RDs K B H (kvs.map (·.2)) (ds.map (·.2)) → RD K B H (V.ref a) (.dict ds)
inductive RDs (K : PySem.W.Frag) (B : Addr → Prop) (H : Hp) : List V → List PyData → Prop
  | nil : RDs K B H [] []
  | cons {v : V} {vs : List V} {d : PyData} {ds : List PyData} : RD K B H v d → RDs K B H vs ds → RDs K B H (v :: vs) (d :: ds)
end
section
variable {K : PySem.W.Frag} {B B' : Addr → Prop} {H H' : Hp}
theorem rd_keep (k : ∀ a o, ¬ B a → H a = some o → H' a = some o) {a : Addr} {o : HO} (n : ¬ B a) (h : Rd H a o) : Rd H' a o := by
  rcases h with h | ⟨u, h⟩
  · exact .inl (k _ _ n h)
  · exact .inr ⟨u, k _ _ n h⟩
theorem rd_there {a : Addr} {o : HO} (h : Rd H a o) : H a ≠ none := by
  rcases h with h | ⟨u, h⟩ <;> rw [h] <;> simp
/-- there, and not a tuple -/
def Th (H : Hp) (a : Addr) : Prop := H a ≠ none ∧ ∀ xs, H a ≠ some (.tup xs)
theorem notB (new : ∀ a, B' a → B a ∨ H a = none) {a : Addr} (n : ¬ B a) (t : H a ≠ none) : ¬ B' a := fun h => (new a h).elim n t
theorem RD.step (k : ∀ a o, ¬ B a → H a = some o → H' a = some o) (new : ∀ a, B' a → B a ∨ H a = none) {v : V} {d : PyData} (h : RD K B H v d) : RD K B' H' v d := by
  refine RD.rec (motive_1 := fun v d _ => RD K B' H' v d) (motive_2 := fun vs ds _ => RDs K B' H' vs ds) .non .bl .int .str ?_ ?_ ?_ ?_ .nil (fun _ _ a b => .cons a b) h
  · exact fun r _ i => .lst (r.imp (fun r => ⟨rd_keep k r.2 r.1, notB new r.2 (rd_there r.1)⟩) id) i
  · intro a xs ds r _ i
    exact .tup ⟨k _ _ r.2 r.1, notB new r.2 (by rw [r.1]; simp)⟩ i
  · exact fun r n e _ i => .dK (rd_keep k n r) (notB new n (rd_there r)) e i
  · exact fun r n e _ i => .dT (rd_keep k n r) (notB new n (rd_there r)) e i
theorem RDs.step (k : ∀ a o, ¬ B a → H a = some o → H' a = some o) (new : ∀ a, B' a → B a ∨ H a = none) : ∀ {vs : List V} {ds : List PyData}, RDs K B H vs ds → RDs K B' H' vs ds
  | _, _, .nil => .nil
  | _, _, .cons a b => .cons (a.step k new) (RDs.step k new b)
theorem RDs.length : ∀ {vs : List V} {ds : List PyData}, RDs K B H vs ds → vs.length = ds.length
  | _, _, .nil => rfl
  | _, _, .cons _ b => congrArg (· + 1) b.length
theorem RDs.append : ∀ {vs : List V} {ds : List PyData} {ws : List V} {es : List PyData}, RDs K B H vs ds → RDs K B H ws es → RDs K B H (vs ++ ws) (ds ++ es)
  | _, _, _, _, .nil, h => h
  | _, _, _, _, .cons a b, h => .cons a (b.append h)
theorem RDs.get : ∀ {vs : List V} {ds : List PyData} {i : Nat} {d : PyData}, RDs K B H vs ds → ds[i]? = some d → ∃ v, vs[i]? = some v ∧ RD K B H v d
  | _, _, _, _, .nil, e => by simp at e
  | _, _, 0, _, .cons a b, e => by simp at e; subst e; exact ⟨_, rfl, a⟩
  | _, _, i + 1, _, .cons a b, e => by
    obtain ⟨v, h1, h2⟩ := RDs.get (i := i) b (by simpa using e)
    exact ⟨v, by simpa using h1, h2⟩
theorem RDs.get' : ∀ {vs : List V} {ds : List PyData} {i : Nat} {v : V}, RDs K B H vs ds → vs[i]? = some v → ∃ d, ds[i]? = some d ∧ RD K B H v d
  | _, _, _, _, .nil, e => by simp at e
  | _, _, 0, _, .cons a b, e => by simp at e; subst e; exact ⟨_, rfl, a⟩
  | _, _, i + 1, _, .cons a b, e => by
    obtain ⟨v, h1, h2⟩ := RDs.get' (i := i) b (by simpa using e)
    exact ⟨v, by simpa using h1, h2⟩
theorem RDs.take : ∀ {vs : List V} {ds : List PyData} (n : Nat), RDs K B H vs ds → RDs K B H (vs.take n) (ds.take n)
  | _, _, 0, _ => .nil
  | _, _, n + 1, .nil => .nil
  | _, _, n + 1, .cons a b => .cons a (b.take n)
theorem RDs.drop : ∀ {vs : List V} {ds : List PyData} (n : Nat), RDs K B H vs ds → RDs K B H (vs.drop n) (ds.drop n)
  | _, _, 0, h => h
  | _, _, n + 1, .nil => .nil
  | _, _, n + 1, .cons a b => b.drop n
theorem RDs.set : ∀ {vs : List V} {ds : List PyData} {v : V} {d : PyData} (i : Nat), RDs K B H vs ds → RD K B H v d → RDs K B H (vs.set i v) (ds.set i d)
  | _, _, _, _, _, .nil, _ => .nil
  | _, _, _, _, 0, .cons _ b, h => .cons h b
  | _, _, _, _, i + 1, .cons a b, h => .cons a (b.set i h)
theorem RDs.reverse : ∀ {vs : List V} {ds : List PyData}, RDs K B H vs ds → RDs K B H vs.reverse ds.reverse
  | _, _, .nil => .nil
  | _, _, .cons a b => by
    rw [List.reverse_cons, List.reverse_cons]
    exact b.reverse.append (.cons a .nil)
theorem RDs.eraseIdx : ∀ {vs : List V} {ds : List PyData} (i : Nat), RDs K B H vs ds → RDs K B H (vs.eraseIdx i) (ds.eraseIdx i)
  | _, _, _, .nil => .nil
  | _, _, 0, .cons _ b => b
  | _, _, i + 1, .cons a b => .cons a (b.eraseIdx i)
theorem RDs.dropLast {vs : List V} {ds : List PyData} (h : RDs K B H vs ds) : RDs K B H vs.dropLast ds.dropLast := by
  rw [List.dropLast_eq_take, List.dropLast_eq_take, h.length]
  exact h.take _
theorem RDs.ints : ∀ {vs : List V} {ns : List Int}, RDs K B H vs (ns.map .int) → vs = ns.map V.int
  | _, [], .nil => rfl
  | _, _ :: _, .cons a b => by
    cases a
    rw [RDs.ints b] <;> rfl
theorem RDs.strs : ∀ {vs : List V} {ns : List Str}, RDs K B H vs (ns.map .str) → vs = ns.map V.str
  | _, [], .nil => rfl
  | _, _ :: _, .cons a b => by
    cases a
    rw [RDs.strs b] <;> rfl
theorem RDs.bls : ∀ {vs : List V} {ns : List Bool}, RDs K B H vs (ns.map .bool) → vs = ns.map V.bl
  | _, [], .nil => rfl
  | _, _ :: _, .cons a b => by
    cases a
    rw [RDs.bls b] <;> rfl
theorem RDs.keys : ∀ {vs : List V} {ks : List Key}, RDs K B H vs (ks.map kD) → vs = ks.map kV
  | _, [], .nil => rfl
  | _, .inl _ :: _, .cons a b => by
    cases a
    rw [RDs.keys b] <;> rfl
  | _, .inr _ :: _, .cons a b => by
    cases a
    rw [RDs.keys b] <;> rfl
theorem RDs.of_keys : ∀ (ks : List Key), RDs K B H (ks.map kV) (ks.map kD)
  | [] => .nil
  | .inl _ :: r => .cons (.int _) (RDs.of_keys r)
  | .inr _ :: r => .cons (.str _) (RDs.of_keys r)
/-- to the library's relation -/
theorem RD.dp {v : V} {d : PyData} (h : RD K B H v d) : d.plain = true → Dp K H v d := by
  refine RD.rec (motive_1 := fun v d _ => d.plain = true → Dp K H v d) (motive_2 := fun vs ds _ => PyData.plainAll ds = true → DpAll K H vs ds) (fun _ => .non) (fun b _ => .bl b) (fun i _ => .int i) (fun x _ => .str x) ?_ ?_ ?_ ?_ (fun _ => .nil) ?_ h
  · exact fun r _ i p => .lst r.sq (i (by simpa [PyData.plain] using p))
  · exact fun r _ i p => .tup r.sq (i (by simpa [PyData.plain] using p))
  · exact fun _ _ _ _ _ p => by simp [PyData.plain] at p
  · exact fun _ _ _ _ _ p => by simp [PyData.plain] at p
  · exact fun _ _ a b p => by
      simp only [PyData.plainAll, Bool.and_eq_true] at p
      exact .cons (a p.1) (b p.2)
theorem RDs.dp : ∀ {vs : List V} {ds : List PyData}, RDs K B H vs ds → PyData.plainAll ds = true → DpAll K H vs ds
  | _, _, .nil, _ => .nil
  | _, _, .cons a b, p => by
    simp only [PyData.plainAll, Bool.and_eq_true] at p
    exact .cons (a.dp p.1) (b.dp p.2)
end

/-! ### ghosts: L the addresses of the store's objects, C what the callers may write, O the slots' own objects -/
structure Gh where
  L : List Addr
  C : Addr → Prop
  O : List (Option Addr)
def Gh.bar (G : Gh) (a : Addr) : Prop := a ∈ G.L ∨ G.C a ∨ some a ∈ G.O
abbrev Gh.to (G : Gh) (L : List Addr) : Gh := ⟨L, G.C, G.O⟩
section
variable (K : PySem.W.Frag) (mg : Str → Option Value)
def RW (G : Gh) (H : Hp) (v : V) : W → Prop
  | .d x => RD K G.bar H v x
  | .r n => ∃ a, G.L[n]? = some a ∧ v = V.ref a
  | .g x => ∃ a, mg x = some (Value.ref a) ∧ v = V.ref a
  | .o c fs => ∃ a C dx vs, v = V.ref a ∧ ¬ G.bar a ∧ mg c = some (Value.ref C) ∧ H a = some (.ins C dx vs) ∧ vs.map (·.1) = fs.map (·.1) ∧ RDs K G.bar H (vs.map (·.2)) (fs.map (·.2))
inductive RWs (G : Gh) (H : Hp) : List V → List W → Prop
  | nil : RWs G H [] []
  | cons {v : V} {vs : List V} {d : W} {ds : List W} : RW K mg G H v d → RWs G H vs ds → RWs G H (v :: vs) (d :: ds)
/-- the content of an object -/
def RC (G : Gh) (H : Hp) (u : HO) : Ob → Prop
  | .lst ds => ∃ vs, u = .lst vs ∧ RDs K G.bar H vs ds
  | .dK kds => ∃ kvs, u = .dK kvs ∧ kvs.map (·.1) = kds.map (·.1) ∧ RDs K G.bar H (kvs.map (·.2)) (kds.map (·.2))
  | .dT kds => ∃ kvs, u = .dT kvs ∧ kvs.map (·.1) = kds.map (·.1) ∧ RDs K G.bar H (kvs.map (·.2)) (kds.map (·.2))
  | .ins c fs => ∃ C dx vs, mg c = some (Value.ref C) ∧ u = .ins C dx vs ∧ vs.map (·.1) = fs.map (·.1) ∧ RWs K mg G H (vs.map (·.2)) (fs.map (·.2))
def RO (G : Gh) (H : Hp) (a : Addr) (o : Ob) : Prop := ∃ u, H a = some u ∧ RC K mg G H u o
/-- the store -/
structure SS (G : Gh) (S : Sto) (H : Hp) : Prop where
  len : G.L.length = S.length
  nd : G.L.Nodup
  obj : ∀ (n : Nat) (o : Ob), S[n]? = some o → ∃ a, G.L[n]? = some a ∧ RO K mg G H a o
/-- the slots -/
structure SE (G : Gh) (env : Ev) (σ : L2.St) (H : Hp) : Prop where
  len : σ.length = env.length
  olen : G.O.length = env.length
  val : ∀ (i : Nat) (w : W), env[i]? = some (some (.w w)) → ∃ v, σ[i]? = some (some v) ∧ RW K mg G H v w
  own : ∀ (i : Nat) (o : Ob), env[i]? = some (some (.own o)) → ∃ a, σ[i]? = some (some (V.ref a)) ∧ G.O[i]? = some (some a) ∧ RO K mg G H a o
  dist : ∀ (i j : Nat) (a : Addr), G.O[i]? = some (some a) → G.O[j]? = some (some a) → i = j
  out : ∀ (i : Nat) (a : Addr), G.O[i]? = some (some a) → a ∉ G.L ∧ ¬ G.C a
  there : ∀ a, G.bar a → Th H a
end
/-- what an expression may do: the store's objects are written, new objects come -/
structure Ext (G : Gh) (H : Hp) (L : List Addr) (H' : Hp) : Prop where
  pre : G.L <+: L
  keep : ∀ a o, a ∉ G.L → H a = some o → H' a = some o
  new : ∀ a ∈ L, a ∈ G.L ∨ (H a = none ∧ Th H' a)
  mono : ∀ a, H a ≠ none → H' a ≠ none
  th : ∀ a, Th H a → Th H' a
section
variable {K : PySem.W.Frag} {mg : Str → Option Value} {G : Gh} {H H1 H2 H' : Hp} {L La Lb : List Addr} {S S' : Sto} {env : Ev} {σ : L2.St}
theorem Ext.refl : Ext G H G.L H := ⟨List.prefix_refl _, fun _ _ _ h => h, fun _ h => .inl h, fun _ h => h, fun _ h => h⟩
theorem Ext.trans (a : Ext G H La H1) (b : Ext (G.to La) H1 Lb H2) : Ext G H Lb H2 := by
  refine ⟨a.pre.trans b.pre, fun x o n h => b.keep x o ?_ (a.keep x o n h), fun x hx => ?_, fun x h => b.mono x (a.mono x h), fun x h => b.th x (a.th x h)⟩
  · intro hx
    rcases a.new x hx with z | z
    · exact n z
    · rw [z.1] at h; cases h
  · rcases b.new x hx with z | z
    · exact (a.new x z).imp id fun q => ⟨q.1, b.th x q.2⟩
    · refine .inr ⟨?_, z.2⟩
      cases e : H x with
      | none => rfl
      | some o => exact absurd z.1 (a.mono x (by rw [e]; simp))
theorem Ext.bar_new (e : Ext G H L H') : ∀ a, (G.to L).bar a → G.bar a ∨ H a = none := fun a h => by
  rcases h with h | h | h
  · rcases e.new a h with z | z
    · exact .inl (.inl z)
    · exact .inr z.1
  · exact .inl (.inr (.inl h))
  · exact .inl (.inr (.inr h))
theorem Ext.bar_keep (e : Ext G H L H') : ∀ a o, ¬ G.bar a → H a = some o → H' a = some o := fun a o n h => e.keep a o (fun z => n (.inl z)) h
theorem RD.ext {v : V} {d : PyData} (h : RD K G.bar H v d) (e : Ext G H L H') : RD K (G.to L).bar H' v d := h.step e.bar_keep e.bar_new
theorem RDs.ext {v : List V} {d : List PyData} (h : RDs K G.bar H v d) (e : Ext G H L H') : RDs K (G.to L).bar H' v d := h.step e.bar_keep e.bar_new
theorem pre_get {l1 l2 : List Addr} (h : l1 <+: l2) {n : Nat} {a : Addr} (e : l1[n]? = some a) : l2[n]? = some a := by
  obtain ⟨t, rfl⟩ := h
  rw [List.getElem?_append_left (List.getElem?_eq_some_iff.mp e).1, e]
theorem RW.ext {v : V} {w : W} (h : RW K mg G H v w) (e : Ext G H L H') : RW K mg (G.to L) H' v w := by
  cases w with
  | d x => exact RD.ext (show RD K G.bar H v x from h) e
  | r n =>
    obtain ⟨a, h1, h2⟩ := h
    exact ⟨a, pre_get e.pre h1, h2⟩
  | g x => exact h
  | o c fs =>
    obtain ⟨a, C, dx, vs, rfl, n, hc, ha, hk, hr⟩ := h
    exact ⟨a, C, dx, vs, rfl, notB e.bar_new n (by rw [ha]; simp), hc, e.bar_keep _ _ n ha, hk, hr.ext e⟩
theorem RWs.ext : ∀ {vs : List V} {ws : List W}, RWs K mg G H vs ws → Ext G H L H' → RWs K mg (G.to L) H' vs ws
  | _, _, .nil, _ => .nil
  | _, _, .cons a b, e => .cons (a.ext e) (b.ext e)
theorem RWs.length : ∀ {vs : List V} {ds : List W}, RWs K mg G H vs ds → vs.length = ds.length
  | _, _, .nil => rfl
  | _, _, .cons _ b => congrArg (· + 1) b.length
theorem RC.ext {u : HO} {o : Ob} (h : RC K mg G H u o) (e : Ext G H L H') : RC K mg (G.to L) H' u o := by
  cases o with
  | lst ds =>
    obtain ⟨vs, h1, h2⟩ := h
    exact ⟨vs, h1, h2.ext e⟩
  | dK ds =>
    obtain ⟨vs, h1, h2, h3⟩ := h
    exact ⟨vs, h1, h2, h3.ext e⟩
  | dT ds =>
    obtain ⟨vs, h1, h2, h3⟩ := h
    exact ⟨vs, h1, h2, h3.ext e⟩
  | ins c fs =>
    obtain ⟨C, dx, vs, h0, h1, h2, h3⟩ := h
    exact ⟨C, dx, vs, h0, h1, h2, h3.ext e⟩
/-- an object that isn't written -/
theorem RO.ext {a : Addr} {o : Ob} (h : RO K mg G H a o) (e : Ext G H L H') (k : ∀ o, H a = some o → H' a = some o) : RO K mg (G.to L) H' a o := by
  obtain ⟨u, h1, h2⟩ := h
  exact ⟨u, k _ h1, h2.ext e⟩
theorem SE.ext (h : SE K mg G env σ H) (e : Ext G H L H') : SE K mg (G.to L) env σ H' := by
  refine ⟨h.len, h.olen, fun i w hi => ?_, fun i o hi => ?_, h.dist, fun i a hi => ⟨fun z => ?_, (h.out i a hi).2⟩, fun a ha => ?_⟩
  · obtain ⟨v, h1, h2⟩ := h.val i w hi
    exact ⟨v, h1, h2.ext e⟩
  · obtain ⟨a, h1, h2, h3⟩ := h.own i o hi
    exact ⟨a, h1, h2, h3.ext e fun o q => e.keep a o (h.out i a h2).1 q⟩
  · rcases e.new a z with z | z
    · exact (h.out i a hi).1 z
    · exact (h.there a (.inr (.inr (List.mem_of_getElem? hi)))).1 z.1
  · rcases ha with ha | ha | ha
    · rcases e.new a ha with z | z
      · exact e.th a (h.there a (.inl z))
      · exact z.2
    · exact e.th a (h.there a (.inr (.inl ha)))
    · exact e.th a (h.there a (.inr (.inr ha)))
end
end DL

namespace DL
open PySem PySem.Spec PyProof.Rows L2

/-! ### readings -/
section
variable (K : PySem.W.Frag) (mg : Str → Option Value) (Wx : WX)
def Res {α : Type} (G : Gh) (H : Hp) (σ : L2.St) (o : Out α) (R : α → Gh → Hp → Prop) : Prop := match o with
  | .ok x S' => ∀ L' H', Ext G H L' H' → SS K mg (G.to L') S' H' → R x (G.to L') H'
  | .exc c S' => ∀ L' H' Ca, Ext G H L' H' → SS K mg (G.to L') S' H' → mg c = some (Value.ref Ca) → Wx (Value.ref Ca) none σ H'
  | .bad => False
def GO {α : Type} (env : Ev) (m : M α) (R : α → Gh → Hp → Prop) (σ : L2.St) (H : Hp) : Prop := ∃ (G : Gh) (S : Sto), SS K mg G S H ∧ SE K mg G env σ H ∧ Res K mg Wx G H σ (m S) R
/-- a value that is read at once: the object itself may be one that is written later -/
inductive RT (G : Gh) (H : Hp) : V → PyData → Prop
  | of {v : V} {d : PyData} : RD K G.bar H v d → RT G H v d
  | lst {a : Addr} {xs : List V} {ds : List PyData} : Rd H a (.lst xs) → a ∉ G.L → RDs K G.bar H xs ds → RT G H (V.ref a) (.list ds)
  | dK {a : Addr} {kvs : List (Key × V)} {ds : List (PyData × PyData)} : Rd H a (.dK kvs) → a ∉ G.L → kvs.map (fun p => kD p.1) = ds.map (·.1) → RDs K G.bar H (kvs.map (·.2)) (ds.map (·.2)) → RT G H (V.ref a) (.dict ds)
  | dT {a : Addr} {kvs : List (List Key × V)} {ds : List (PyData × PyData)} : Rd H a (.dT kvs) → a ∉ G.L → kvs.map (fun p => tkD p.1) = ds.map (·.1) → RDs K G.bar H (kvs.map (·.2)) (ds.map (·.2)) → RT G H (V.ref a) (.dict ds)
def tD (env : Ev) (m : M PyData) : TE := fun σ H Q => GO K mg Wx env m (fun x G' H' => ∀ v, RD K G'.bar H' v x → Q v H') σ H
def tT (env : Ev) (m : M PyData) : TE := fun σ H Q => GO K mg Wx env m (fun x G' H' => ∀ v, RT K G' H' v x → Q v H') σ H
def tW (env : Ev) (m : M W) : TE := fun σ H Q => GO K mg Wx env m (fun x G' H' => ∀ v, RW K mg G' H' v x → Q v H') σ H
def tR (env : Ev) (m : M Nat) : TE := fun σ H Q => GO K mg Wx env m (fun n G' H' => ∀ a, G'.L[n]? = some a → Q (V.ref a) H') σ H
def tQ (env : Ev) (m : M Bool) : TT := fun σ H Q => GO K mg Wx env m (fun b _ H' => Q b H') σ H
def tDs (env : Ev) (m : M (List PyData)) : TA := fun σ H Q => GO K mg Wx env m (fun ds G' H' => ∀ vs, RDs K G'.bar H' vs ds → Q vs H') σ H
def tWs (env : Ev) (m : M (List W)) : TA := fun σ H Q => GO K mg Wx env m (fun ds G' H' => ∀ vs, RWs K mg G' H' vs ds → Q vs H') σ H
def tTs (env : Ev) (m : M (List PyData)) : TA := fun σ H Q => GO K mg Wx env m (fun ds G' H' => ∀ vs, Paired (RT K G' H') vs ds → Q vs H') σ H
end
section
variable {K : PySem.W.Frag} {mg : Str → Option Value} {Wx : WX} {G : Gh} {H H1 H2 H' : Hp} {L La Lb : List Addr} {S S' : Sto} {env : Ev} {σ : L2.St} {α β : Type}
theorem Res.ext {o : Out α} {R : α → Gh → Hp → Prop} (h : Res K mg Wx G H σ o R) (e : Ext G H L H') : Res K mg Wx (G.to L) H' σ o R := by
  cases o with
  | ok x S' => exact fun L1 H1 e1 ss => h L1 H1 (e.trans e1) ss
  | exc c S' => exact fun L1 H1 Ca e1 ss hc => h L1 H1 Ca (e.trans e1) ss hc
  | bad => exact h
theorem Res.mono {o : Out α} {R R' : α → Gh → Hp → Prop} (h : Res K mg Wx G H σ o R) (i : ∀ x G' H', R x G' H' → R' x G' H') : Res K mg Wx G H σ o R' := by
  cases o with
  | ok x S' => exact fun L1 H1 e1 ss => i _ _ _ (h L1 H1 e1 ss)
  | exc c S' => exact h
  | bad => exact h
theorem Res.bind {m : M α} {f : α → M β} {R : β → Gh → Hp → Prop} {R1 : α → Gh → Hp → Prop} (h : Res K mg Wx G H σ (bnd m f S) R)
    (k : ∀ x S1 L1 H1, m S = .ok x S1 → Ext G H L1 H1 → SS K mg (G.to L1) S1 H1 → Res K mg Wx (G.to L1) H1 σ (f x S1) R → R1 x (G.to L1) H1) : Res K mg Wx G H σ (m S) R1 := by
  unfold bnd at h
  cases e : m S with
  | ok x S1 =>
    rw [e] at h
    exact fun L1 H1 e1 ss => k x S1 L1 H1 e e1 ss (Res.ext (show Res K mg Wx G H σ (f x S1) R from h) e1)
  | exc c S1 =>
    rw [e] at h
    exact h
  | bad =>
    rw [e] at h
    exact h
theorem PE.imp {X : Cx} {e : Expr} {t t' : TE} (h : PE X e t) (i : ∀ σ H Q, t' σ H Q → t σ H Q) : PE X e t' := ⟨fun pins s σ H Q I q => h.run pins s σ H Q I (i σ H Q q)⟩
theorem PT.imp {X : Cx} {e : Expr} {t t' : TT} (h : PT X e t) (i : ∀ σ H Q, t' σ H Q → t σ H Q) : PT X e t' := ⟨fun pins s σ H Q I q => h.run pins s σ H Q I (i σ H Q q)⟩
theorem PW.imp {X : Cx} {e : Expr} {t t' : TT} (h : PW X e t) (i : ∀ σ H Q, t' σ H Q → t σ H Q) : PW X e t' := ⟨fun wh pins s σ H Q I q => h.run wh pins s σ H Q I (i σ H Q q)⟩
theorem PA.imp {X : Cx} {e : List Expr} {t t' : TA} (h : PA X e t) (i : ∀ σ H Q, t' σ H Q → t σ H Q) : PA X e t' := ⟨fun pos pins s σ H Q I q => h.run pos pins s σ H Q I (i σ H Q q)⟩
theorem PS.imp {X : Cx} {e : Stmt} {t t' : TS} (h : PS X e t) (i : ∀ D σ H, t' D σ H → t D σ H) : PS X e t' := ⟨fun pins s σ H Q I q => h.run pins s σ H Q I (i Q σ H q)⟩
theorem PSs.imp {X : Cx} {e : List Stmt} {t t' : TS} (h : PSs X e t) (i : ∀ D σ H, t' D σ H → t D σ H) : PSs X e t' := ⟨fun pins s σ H Q I q => h.run pins s σ H Q I (i Q σ H q)⟩

/-- new objects alone -/
def Mono (H H' : Hp) : Prop := ∀ a o, H a = some o → H' a = some o
theorem Mono.refl : Mono H H := fun _ _ h => h
theorem Mono.trans (a : Mono H H1) (b : Mono H1 H2) : Mono H H2 := fun x o h => b x o (a x o h)
theorem Mono.upd {p : Addr} {o : HO} (h : H p = none) : Mono H (upd H p o) := fun b x e => by
  rw [upd_ne (ne_of_none e h)]
  exact e
theorem Mono.th {a : Addr} (m : Mono H H') (h : Th H a) : Th H' a := by
  cases e : H a with
  | none => exact absurd e h.1
  | some o =>
    have q := m a o e
    exact ⟨by rw [q]; simp, fun xs z => h.2 xs (by rw [e, ← z, q])⟩
theorem Mono.ext (m : Mono H H') : Ext G H G.L H' := ⟨List.prefix_refl _, fun a o _ h => m a o h, fun _ h => .inl h, fun a h => by
  cases e : H a with
  | none => exact absurd e h
  | some o => rw [m a o e]; simp, fun a h => m.th h⟩
theorem SS.mono (h : SS K mg G S H) (m : Mono H H') : SS K mg G S H' := ⟨h.len, h.nd, fun n o e => by
  obtain ⟨a, h1, h2⟩ := h.obj n o e
  exact ⟨a, h1, RO.ext h2 m.ext fun o q => m a o q⟩⟩
theorem RD.mono {v : V} {d : PyData} (h : RD K G.bar H v d) (m : Mono H H') : RD K G.bar H' v d := h.ext (m.ext (G := G))
theorem RDs.mono {v : List V} {d : List PyData} (h : RDs K G.bar H v d) (m : Mono H H') : RDs K G.bar H' v d := h.ext (m.ext (G := G))
theorem RT.ext {v : V} {d : PyData} (h : RT K G H v d) (e : Ext G H L H') : RT K (G.to L) H' v d := by
  have nL : ∀ {a : Addr}, H a ≠ none → a ∉ G.L → a ∉ L := fun {a} t n z => (e.new a z).elim n fun q => t q.1
  have kp : ∀ {a : Addr} {o : HO}, a ∉ G.L → Rd H a o → Rd H' a o := fun {a o} n r => r.elim (fun r => .inl (e.keep a _ n r)) fun ⟨u, r⟩ => .inr ⟨u, e.keep a _ n r⟩
  cases h with
  | of h => exact .of (h.ext e)
  | lst r n i => exact .lst (kp n r) (nL (rd_there r) n) (i.ext e)
  | dK r n q i => exact .dK (kp n r) (nL (rd_there r) n) q (i.ext e)
  | dT r n q i => exact .dT (kp n r) (nL (rd_there r) n) q (i.ext e)
/-- the end of a rule: a value in a heap with new objects -/
theorem Res.done {o : Out PyData} {z : PyData} {Q : VK} (h : Res K mg Wx G H σ (.ok z S) (fun x G' H' => ∀ v, RD K G'.bar H' v x → Q v H')) (ss : SS K mg G S H) : ∀ v H', Mono H H' → RD K G.bar H' v z → Q v H' :=
  fun v H' m r => h G.L H' m.ext (ss.mono m) v r
end

section
variable {X : Cx} {Wx : WX} {env : Ev} {α β : Type}
theorem tt {e : Expr} {m : M PyData} (h : PE X e (tD X.K X.mg Wx env m)) : PE X e (tT X.K X.mg Wx env m) :=
  PE.imp h fun σ H Q ⟨G, S, ss, se, h⟩ => ⟨G, S, ss, se, h.mono fun x G' H' q v r => q v (.of r)⟩
theorem tw {e : Expr} {m : M PyData} (h : PE X e (tD X.K X.mg Wx env m)) : PE X e (tW X.K X.mg Wx env (bnd m fun x => ret (.d x))) :=
  PE.imp h fun σ H Q ⟨G, S, ss, se, h⟩ => ⟨G, S, ss, se, h.bind fun x S1 L1 H1 _ e1 ss1 h1 v r => h1 L1 H1 Ext.refl ss1 v r⟩
theorem rw_ {e : Expr} {m : M Nat} (h : PE X e (tR X.K X.mg Wx env m)) : PE X e (tW X.K X.mg Wx env (bnd m fun x => ret (.r x))) :=
  PE.imp h fun σ H Q ⟨G, S, ss, se, h⟩ => ⟨G, S, ss, se, h.bind fun x S1 L1 H1 _ e1 ss1 h1 a r => h1 L1 H1 Ext.refl ss1 _ ⟨a, r, rfl⟩⟩
theorem wd {e : Expr} {m : M PyData} (h : PE X e (tW X.K X.mg Wx env (bnd m fun x => ret (.d x)))) : PE X e (tD X.K X.mg Wx env m) :=
  PE.imp h fun σ H Q ⟨G, S, ss, se, h⟩ => ⟨G, S, ss, se, by
    show Res X.K X.mg Wx G H σ (bnd m (fun x => ret (W.d x)) S) _
    unfold bnd
    cases e : m S with
    | ok x S1 =>
      rw [e] at h
      exact fun L' H' e1 ss1 v r => h L' H' e1 ss1 v r
    | exc c S1 =>
      rw [e] at h
      exact h
    | bad =>
      rw [e] at h
      exact h⟩

/-! ### names, constants -/
theorem de_c {e : Expr} {v : V} {d : PyData} (h : PE X e (tC v)) (r : ∀ B H, RD X.K B H v d) : PE X e (tD X.K X.mg Wx env (ret d)) :=
  PE.imp h fun σ H Q ⟨G, S, ss, se, h⟩ => h G.L H Ext.refl ss v (r _ _)
theorem de_int {i j pos} : PE X (.Constant (.int i) j pos) (tD X.K X.mg Wx env (ret (.int i))) := de_c pe_int fun _ _ => .int i
theorem de_bl {i j pos} : PE X (.Constant (.bool i) j pos) (tD X.K X.mg Wx env (ret (.bool i))) := de_c pe_bl fun _ _ => .bl i
theorem de_non {j pos} : PE X (.Constant .none j pos) (tD X.K X.mg Wx env (ret .none)) := de_c pe_non fun _ _ => .non
theorem de_str {i j pos} : PE X (.Constant (.str i) j pos) (tD X.K X.mg Wx env (ret (.str i))) := de_c pe_str fun _ _ => .str i
theorem de_gint {x : Str} {i : Int} {pos : Pos} (hg : Gl X x) (hm : ∃ t, X.mg x = some (Value.int i t)) (hd : (x == ("__debug__" : Str)) = false := by decide) : PE X (.Name x pos) (tD X.K X.mg Wx env (ret (.int i))) := by
  obtain ⟨t, hm⟩ := hm
  exact de_c (pe_glob hg hm (v := .int i) ⟨t, rfl⟩ hd) fun _ _ => .int i
theorem de_gstr {x : Str} {i : Str} {pos : Pos} (hg : Gl X x) (hm : ∃ t, X.mg x = some (Value.str i t)) (hd : (x == ("__debug__" : Str)) = false := by decide) : PE X (.Name x pos) (tD X.K X.mg Wx env (ret (.str i))) := by
  obtain ⟨t, hm⟩ := hm
  exact de_c (pe_glob hg hm (v := .str i) ⟨t, rfl⟩ hd) fun _ _ => .str i
/-- a slot's value -/
theorem dw_var {i : Nat} {w : W} {x : Str} {pos : Pos} (he : env[i]? = some (some (.w w))) (h : PE X (.Name x pos) (tVar i)) : PE X (.Name x pos) (tW X.K X.mg Wx env (ret w)) :=
  PE.imp h fun σ H Q ⟨G, S, ss, se, h⟩ => by
    obtain ⟨v, h1, h2⟩ := se.val i w he
    exact ⟨v, h1, h G.L H Ext.refl ss v h2⟩
theorem de_var {i : Nat} {d : PyData} {x : Str} {pos : Pos} (he : env[i]? = some (some (.w (.d d)))) (h : PE X (.Name x pos) (tVar i)) : PE X (.Name x pos) (tD X.K X.mg Wx env (ret d)) :=
  PE.imp h fun σ H Q ⟨G, S, ss, se, h⟩ => by
    obtain ⟨v, h1, h2⟩ := se.val i (.d d) he
    exact ⟨v, h1, h G.L H Ext.refl ss v h2⟩
theorem dr_var {i : Nat} {d : Nat} {x : Str} {pos : Pos} (he : env[i]? = some (some (.w (.r d)))) (h : PE X (.Name x pos) (tVar i)) : PE X (.Name x pos) (tR X.K X.mg Wx env (ret d)) :=
  PE.imp h fun σ H Q ⟨G, S, ss, se, h⟩ => by
    obtain ⟨v, h1, a, h2, h3⟩ := se.val i (.r d) he
    subst h3
    exact ⟨_, h1, h G.L H Ext.refl ss a h2⟩
def obD : Ob → PyData
  | .lst xs => .list xs
  | .dK kvs => .dict (kvs.map fun p => (kD p.1, p.2))
  | .dT kvs => .dict (kvs.map fun p => (tkD p.1, p.2))
  | .ins _ _ => .none
def obOwn : Ob → Bool
  | .ins _ _ => false
  | _ => true
theorem ro_rt {K : PySem.W.Frag} {mg : Str → Option Value} {G : Gh} {H : Hp} {a : Addr} {o : Ob} (h : RO K mg G H a o) (n : a ∉ G.L) (p : obOwn o = true) : RT K G H (.ref a) (obD o) := by
  obtain ⟨u, h1, h⟩ := h
  cases o with
  | lst xs =>
    obtain ⟨vs, rfl, h2⟩ := h
    exact .lst (.inl h1) n h2
  | dK kvs =>
    obtain ⟨vs, rfl, h2, h3⟩ := h
    refine .dK (.inl h1) n ?_ ?_
    · rw [List.map_map]
      show List.map (kD ∘ Prod.fst) vs = List.map (kD ∘ Prod.fst) kvs
      rw [← List.map_map, ← List.map_map, h2]
    · rw [List.map_map]
      exact h3
  | dT kvs =>
    obtain ⟨vs, rfl, h2, h3⟩ := h
    refine .dT (.inl h1) n ?_ ?_
    · rw [List.map_map]
      show List.map (tkD ∘ Prod.fst) vs = List.map (tkD ∘ Prod.fst) kvs
      rw [← List.map_map, ← List.map_map, h2]
    · rw [List.map_map]
      exact h3
  | ins c fs => cases p
/-- a fresh object, frozen -/
theorem rc_rd {K : PySem.W.Frag} {mg : Str → Option Value} {G : Gh} {H : Hp} {a : Addr} {u : HO} {o : Ob} (h : RC K mg G H u o) (ha : H a = some u) (n : ¬ G.bar a) (p : obOwn o = true) : RD K G.bar H (.ref a) (obD o) := by
  cases o with
  | lst xs =>
    obtain ⟨vs, rfl, h2⟩ := h
    exact .lst (.inl ⟨.inl ha, n⟩) h2
  | dK kvs =>
    obtain ⟨vs, rfl, h2, h3⟩ := h
    refine .dK (.inl ha) n ?_ ?_
    · rw [List.map_map]
      show List.map (kD ∘ Prod.fst) vs = List.map (kD ∘ Prod.fst) kvs
      rw [← List.map_map, ← List.map_map, h2]
    · rw [List.map_map]
      exact h3
  | dT kvs =>
    obtain ⟨vs, rfl, h2, h3⟩ := h
    refine .dT (.inl ha) n ?_ ?_
    · rw [List.map_map]
      show List.map (tkD ∘ Prod.fst) vs = List.map (tkD ∘ Prod.fst) kvs
      rw [← List.map_map, ← List.map_map, h2]
    · rw [List.map_map]
      exact h3
  | ins c fs => cases p
/-- a slot's own object, read -/
theorem dt_own {i : Nat} {o : Ob} {x : Str} {pos : Pos} (he : env[i]? = some (some (.own o))) (h : PE X (.Name x pos) (tVar i)) (p : obOwn o = true := by rfl) : PE X (.Name x pos) (tT X.K X.mg Wx env (ret (obD o))) :=
  PE.imp h fun σ H Q ⟨G, S, ss, se, h⟩ => by
    obtain ⟨a, h1, h2, h3⟩ := se.own i o he
    exact ⟨_, h1, h G.L H Ext.refl ss _ (ro_rt h3 (se.out i a h2).1 p)⟩

/-! ### new objects -/
def tF (K : PySem.W.Frag) (mg : Str → Option Value) (Wx : WX) (env : Ev) (c : α → Ob) (m : M α) : TE := fun σ H Q =>
  GO K mg Wx env m (fun o G1 H1 => ∀ p u H2, H1 p = none → RC K mg G1 H1 u (c o) → Mono H1 H2 → H2 p = some u → Q (V.ref p) H2) σ H
/-- a new object that nobody writes is a value -/
theorem tf {e : Expr} {c : α → Ob} {m : M α} (h : PE X e (tF X.K X.mg Wx env c m)) (p : ∀ x, obOwn (c x) = true := by intro _; rfl) : PE X e (tD X.K X.mg Wx env (bnd m fun x => ret (obD (c x)))) :=
  PE.imp h fun σ H Q ⟨G, S, ss, se, h⟩ => ⟨G, S, ss, se, h.bind fun x S1 L1 H1 _ e1 ss1 h1 a u H2 ha hr hm h2 =>
    h1 L1 H2 hm.ext (ss1.mono hm) _ (rc_rd (RC.ext hr (hm.ext (G := G.to L1))) h2 (fun z => ((se.ext e1).there a z).1 ha) (p x))⟩

/-! ### operators -/
def OpD (X : Cx) (r : R2) (f : PyData → PyData → Option PyData) : Prop :=
  ∀ (G : Gh) (H : Hp) (x y : V) (d e z : PyData) (Q : VK), (∀ a, G.bar a → Th H a) → RT X.K G H x d → RT X.K G H y e → f d e = some z → (∀ v H', Mono H H' → RD X.K G.bar H' v z → Q v H') → r x y H Q
theorem op2_imp {r : R2} {f : PyData → PyData → Option PyData} {ma mb : M PyData} (hd : OpD X r f) : ∀ σ H Q, tD X.K X.mg Wx env (bnd ma fun x => bnd mb fun y => lft (f x y)) σ H Q → tOp r (tT X.K X.mg Wx env ma) (tT X.K X.mg Wx env mb) σ H Q := by
  intro σ H Q ⟨G, S, ss, se, h⟩
  refine ⟨G, S, ss, se, h.bind fun x S1 L1 H1 _ e1 ss1 h1 v rv => ?_⟩
  refine ⟨_, S1, ss1, se.ext e1, h1.bind fun y S2 L2 H2 _ e2 ss2 h2 u ru => ?_⟩
  unfold lft at h2
  cases q : f x y with
  | none =>
    rw [q] at h2
    exact h2.elim
  | some z =>
    rw [q] at h2
    exact hd _ _ _ _ _ _ _ Q ((se.ext e1).ext e2).there (rv.ext e2) ru q (Res.done (o := .bad) h2 ss2)
theorem de_op {a b : Expr} {op : Operator} {r : R2} {f : PyData → PyData → Option PyData} {ma mb : M PyData} {pos : Pos} (ho : OpR X (binaryOp op) r) (hd : OpD X r f) (ha : PE X a (tT X.K X.mg Wx env ma)) (hb : PE X b (tT X.K X.mg Wx env mb)) :
    PE X (.BinOp a op b pos) (tD X.K X.mg Wx env (bnd ma fun x => bnd mb fun y => lft (f x y))) := PE.imp (pe_op ho ha hb) (op2_imp hd)
theorem de_cmp {a b : Expr} {op : CmpOp} {r : R2} {f : PyData → PyData → Option PyData} {ma mb : M PyData} {pos : Pos} (ho : OpR X (compareOp op) r) (hd : OpD X r f) (ha : PE X a (tT X.K X.mg Wx env ma)) (hb : PE X b (tT X.K X.mg Wx env mb)) (hm : behindInMarks op b = false) :
    PE X (.Compare a [op] [b] pos) (tD X.K X.mg Wx env (bnd ma fun x => bnd mb fun y => lft (f x y))) := PE.imp (pe_cmpR ho ha hb hm) (op2_imp hd)
end
end DL

namespace DL
open PySem PySem.Spec PyProof.Rows L2

/-- from a point of a def on -/
structure From (G0 : Gh) (H0 : Hp) (G : Gh) (H : Hp) : Prop where
  pre : G0.L <+: G.L
  c : G.C = G0.C
  keep : ∀ a o, a ∉ G0.L → some a ∉ G0.O → H0 a = some o → H a = some o
  new : ∀ a ∈ G.L, a ∈ G0.L ∨ (H0 a = none ∧ Th H a)
  newO : ∀ a, some a ∈ G.O → some a ∈ G0.O ∨ H0 a = none
  mono : ∀ a, H0 a ≠ none → H a ≠ none
  th : ∀ a, Th H0 a → Th H a
inductive Fl (τ l : Type) where
  | nx (t : τ) | bk (x : l) | ct (x : l) | rt (w : W)
section
variable (K : PySem.W.Frag) (mg : Str → Option Value) (Wx : WX)
/-- a block's reading: post the slots behind it, lp the slots where a loop's turn ends -/
def ResB {τ l : Type} (G0 : Gh) (H0 : Hp) (o : Out (Fl τ l)) (post : τ → Ev) (lp : l → Ev) (D : Ends) : Prop := match o with
  | .ok (.nx t) S' => ∀ G' σ' H', From G0 H0 G' H' → SS K mg G' S' H' → SE K mg G' (post t) σ' H' → D.nx σ' H'
  | .ok (.bk t) S' => ∀ G' σ' H', From G0 H0 G' H' → SS K mg G' S' H' → SE K mg G' (lp t) σ' H' → D.bk σ' H'
  | .ok (.ct t) S' => ∀ G' σ' H', From G0 H0 G' H' → SS K mg G' S' H' → SE K mg G' (lp t) σ' H' → D.ct σ' H'
  | .ok (.rt w) S' => ∀ G' v H', From G0 H0 G' H' → SS K mg ⟨G'.L, G0.C, []⟩ S' H' → RW K mg ⟨G'.L, G0.C, []⟩ H' v w → D.rt v H'
  | .exc c S' => ∀ G' σ' H' Ca, From G0 H0 G' H' → SS K mg ⟨G'.L, G0.C, []⟩ S' H' → mg c = some (Value.ref Ca) → Wx (Value.ref Ca) none σ' H'
  | .bad => False
def tB {τ l : Type} (env : Ev) (post : τ → Ev) (lp : l → Ev) (m : M (Fl τ l)) : TS := fun D σ H =>
  ∃ (G0 : Gh) (H0 : Hp) (G : Gh) (S : Sto), From G0 H0 G H ∧ SS K mg G S H ∧ SE K mg G env σ H ∧ ResB K mg Wx G0 H0 (m S) post lp D
end
section
variable {K : PySem.W.Frag} {mg : Str → Option Value} {Wx : WX} {G G0 : Gh} {H H0 H1 H2 H' : Hp} {L La Lb : List Addr} {S S' : Sto} {env env' : Ev} {σ : L2.St} {α β τ l : Type}
theorem From.refl : From G H G H := ⟨List.prefix_refl _, rfl, fun _ _ _ _ h => h, fun _ h => .inl h, fun _ h => .inl h, fun _ h => h, fun _ h => h⟩
theorem none_of {f : ∀ a, H a ≠ none → H' a ≠ none} {a : Addr} (h : H' a = none) : H a = none := by
  cases q : H a with
  | none => rfl
  | some o => exact absurd h (f a (by rw [q]; simp))
theorem From.trans {G1 : Gh} (f : From G0 H0 G1 H1) (g : From G1 H1 G H) : From G0 H0 G H := by
  refine ⟨f.pre.trans g.pre, g.c.trans f.c, fun a o n m h => g.keep a o (fun z => ?_) (fun z => ?_) (f.keep a o n m h), fun a ha => ?_, fun a ha => ?_, fun a h => g.mono a (f.mono a h), fun a h => g.th a (f.th a h)⟩
  · rcases f.new a z with q | q
    · exact n q
    · rw [q.1] at h; cases h
  · rcases f.newO a z with q | q
    · exact m q
    · rw [q] at h; cases h
  · rcases g.new a ha with z | z
    · exact (f.new a z).imp id fun q => ⟨q.1, g.th a q.2⟩
    · exact .inr ⟨none_of (f := f.mono) z.1, z.2⟩
  · rcases g.newO a ha with z | z
    · exact f.newO a z
    · exact .inr (none_of (f := f.mono) z)
theorem Ext.from_ (e : Ext G H L H') : From G H (G.to L) H' := ⟨e.pre, rfl, fun a o n _ h => e.keep a o n h, e.new, fun _ h => .inl h, e.mono, e.th⟩
theorem From.ext (f : From G0 H0 G H) (e : Ext G H L H') : From G0 H0 (G.to L) H' := f.trans e.from_
theorem bar_less {G : Gh} {L : List Addr} {C : Addr → Prop} (hL : L = G.L) (hC : C = G.C) : ∀ a, (Gh.mk L C []).bar a → G.bar a := fun a h => by
  subst hL hC
  rcases h with h | h | h
  · exact .inl h
  · exact .inr (.inl h)
  · exact absurd h (by simp)
theorem RD.less {B B' : Addr → Prop} {v : V} {d : PyData} (h : RD K B H v d) (i : ∀ a, B' a → B a) : RD K B' H v d := h.step (fun _ _ _ h => h) fun a h => .inl (i a h)
theorem RDs.less {B B' : Addr → Prop} {v : List V} {d : List PyData} (h : RDs K B H v d) (i : ∀ a, B' a → B a) : RDs K B' H v d := h.step (fun _ _ _ h => h) fun a h => .inl (i a h)
theorem RW.less {G G' : Gh} {v : V} {w : W} (h : RW K mg G H v w) (e : G'.L = G.L) (i : ∀ a, G'.bar a → G.bar a) : RW K mg G' H v w := by
  cases w with
  | d x => exact RD.less (show RD K G.bar H v x from h) i
  | r n =>
    obtain ⟨a, h1, h2⟩ := h
    exact ⟨a, e ▸ h1, h2⟩
  | g x => exact h
  | o c fs =>
    obtain ⟨a, C, dx, vs, rfl, n, hc, ha, hk, hr⟩ := h
    exact ⟨a, C, dx, vs, rfl, fun z => n (i a z), hc, ha, hk, hr.less i⟩
theorem RWs.less {G G' : Gh} (e : G'.L = G.L) (i : ∀ a, G'.bar a → G.bar a) : ∀ {vs : List V} {ws : List W}, RWs K mg G H vs ws → RWs K mg G' H vs ws
  | _, _, .nil => .nil
  | _, _, .cons a b => .cons (a.less e i) (b.less e i)
theorem RC.less {G G' : Gh} {u : HO} {o : Ob} (h : RC K mg G H u o) (e : G'.L = G.L) (i : ∀ a, G'.bar a → G.bar a) : RC K mg G' H u o := by
  cases o with
  | lst ds =>
    obtain ⟨vs, h1, h2⟩ := h
    exact ⟨vs, h1, h2.less i⟩
  | dK ds =>
    obtain ⟨vs, h1, h2, h3⟩ := h
    exact ⟨vs, h1, h2, h3.less i⟩
  | dT ds =>
    obtain ⟨vs, h1, h2, h3⟩ := h
    exact ⟨vs, h1, h2, h3.less i⟩
  | ins c fs =>
    obtain ⟨C, dx, vs, h0, h1, h2, h3⟩ := h
    exact ⟨C, dx, vs, h0, h1, h2, RWs.less e i h3⟩
theorem RO.less {G G' : Gh} {a : Addr} {o : Ob} (h : RO K mg G H a o) (e : G'.L = G.L) (i : ∀ a, G'.bar a → G.bar a) : RO K mg G' H a o := by
  obtain ⟨u, h1, h2⟩ := h
  exact ⟨u, h1, h2.less e i⟩
theorem SS.less {G G' : Gh} (h : SS K mg G S H) (e : G'.L = G.L) (i : ∀ a, G'.bar a → G.bar a) : SS K mg G' S H :=
  ⟨e ▸ h.len, e ▸ h.nd, fun n o q => by
    obtain ⟨a, h1, h2⟩ := h.obj n o q
    exact ⟨a, e ▸ h1, h2.less e i⟩⟩
/-- fewer slots are known -/
def EvLe (e' e : Ev) : Prop := e'.length = e.length ∧ ∀ (i : Nat) (x : En), e'[i]? = some (some x) → e[i]? = some (some x)
theorem EvLe.refl : EvLe env env := ⟨rfl, fun _ _ h => h⟩
def evLeB : List (Option Unit) → Bool := fun _ => true
theorem EvLe.nil : EvLe [] [] := EvLe.refl
theorem EvLe.same {x : Option En} {e e' : Ev} (h : EvLe e' e) : EvLe (x :: e') (x :: e) := ⟨by simp [h.1], fun i y q => by
  cases i with
  | zero => simpa using q
  | succ i => simpa using h.2 i y (by simpa using q)⟩
theorem EvLe.drop {x : Option En} {e e' : Ev} (h : EvLe e' e) : EvLe (none :: e') (x :: e) := ⟨by simp [h.1], fun i y q => by
  cases i with
  | zero => simp at q
  | succ i => simpa using h.2 i y (by simpa using q)⟩
theorem SE.weak (h : SE K mg G env σ H) (le : EvLe env' env) : SE K mg G env' σ H :=
  ⟨h.len.trans le.1.symm, h.olen.trans le.1.symm, fun i w e => h.val i w (le.2 i _ e), fun i o e => h.own i o (le.2 i _ e), h.dist, h.out, h.there⟩
theorem ResB.ret {w : W} {post : τ → Ev} {lp : l → Ev} {D : Ends} (h : ResB K mg Wx G0 H0 (.ok (.rt w) S) post lp D) (f : From G0 H0 G H) (ss : SS K mg G S H) {v : V} (r : RW K mg G H v w) : D.rt v H :=
  h G v H f (ss.less rfl (bar_less rfl f.c.symm)) (r.less rfl (bar_less rfl f.c.symm))
/-- another point to start from -/
theorem ResB.base {o : Out (Fl τ l)} {post : τ → Ev} {lp : l → Ev} {D : Ends} {G1 : Gh} (h : ResB K mg Wx G0 H0 o post lp D) (f : From G0 H0 G1 H1) : ResB K mg Wx G1 H1 o post lp D := by
  cases o with
  | bad => exact h
  | exc c S => exact fun G' σ' H' Ca g ss hc => h G' σ' H' Ca (f.trans g) (by rw [← f.c]; exact ss) hc
  | ok x S =>
    cases x with
    | nx t => exact fun G' σ' H' g => h G' σ' H' (f.trans g)
    | bk t => exact fun G' σ' H' g => h G' σ' H' (f.trans g)
    | ct t => exact fun G' σ' H' g => h G' σ' H' (f.trans g)
    | rt w => exact fun G' v H' g ss r => h G' v H' (f.trans g) (by rw [← f.c]; exact ss) (by rw [← f.c]; exact r)
/-- a slot takes a value -/
theorem SE.set {i : Nat} {v : V} {w : W} (h : SE K mg G env σ H) (hi : i < env.length) (r : RW K mg G H v w) : SE K mg G (env.set i (some (.w w))) (σ.set i (some v)) H := by
  refine ⟨by simp [h.len], by simp [h.olen], fun j x e => ?_, fun j o e => ?_, h.dist, h.out, h.there⟩
  · by_cases q : i = j
    · subst q
      rw [List.getElem?_set_self hi] at e
      cases e
      exact ⟨v, List.getElem?_set_self (by rw [h.len]; exact hi), r⟩
    · rw [List.getElem?_set_ne q] at e ⊢
      exact h.val j x e
  · by_cases q : i = j
    · subst q
      rw [List.getElem?_set_self hi] at e
      cases e
    · rw [List.getElem?_set_ne q] at e
      rw [List.getElem?_set_ne q]
      exact h.own j o e
/-- a step in which the store's objects stay, some others are written or new -/
structure Stp (G : Gh) (H : Hp) (G' : Gh) (H' : Hp) : Prop where
  l : G'.L = G.L
  keep : ∀ a o, ¬ G.bar a → H a = some o → H' a = some o
  keepL : ∀ a o, a ∈ G.L → H a = some o → H' a = some o
  new : ∀ a, G'.bar a → G.bar a ∨ H a = none
theorem RW.stp {v : V} {w : W} (h : RW K mg G H v w) {G' : Gh} (e : Stp G H G' H') : RW K mg G' H' v w := by
  cases w with
  | d x => exact RD.step e.keep e.new (show RD K G.bar H v x from h)
  | r n =>
    obtain ⟨a, h1, h2⟩ := h
    exact ⟨a, by rw [e.l]; exact h1, h2⟩
  | g x => exact h
  | o c fs =>
    obtain ⟨a, C, dx, vs, rfl, n, hc, ha, hk, hr⟩ := h
    exact ⟨a, C, dx, vs, rfl, notB e.new n (by rw [ha]; simp), hc, e.keep _ _ n ha, hk, hr.step e.keep e.new⟩
theorem RWs.stp {G' : Gh} (e : Stp G H G' H') : ∀ {vs : List V} {ws : List W}, RWs K mg G H vs ws → RWs K mg G' H' vs ws
  | _, _, .nil => .nil
  | _, _, .cons a b => .cons (a.stp e) (b.stp e)
theorem RC.stp {u : HO} {o : Ob} (h : RC K mg G H u o) {G' : Gh} (e : Stp G H G' H') : RC K mg G' H' u o := by
  cases o with
  | lst ds =>
    obtain ⟨vs, h1, h2⟩ := h
    exact ⟨vs, h1, h2.step e.keep e.new⟩
  | dK ds =>
    obtain ⟨vs, h1, h2, h3⟩ := h
    exact ⟨vs, h1, h2, h3.step e.keep e.new⟩
  | dT ds =>
    obtain ⟨vs, h1, h2, h3⟩ := h
    exact ⟨vs, h1, h2, h3.step e.keep e.new⟩
  | ins c fs =>
    obtain ⟨C, dx, vs, h0, h1, h2, h3⟩ := h
    exact ⟨C, dx, vs, h0, h1, h2, RWs.stp e h3⟩
theorem SS.stp (h : SS K mg G S H) {G' : Gh} (e : Stp G H G' H') : SS K mg G' S H' :=
  ⟨by rw [e.l]; exact h.len, by rw [e.l]; exact h.nd, fun n o q => by
    obtain ⟨a, h1, u, h2, h3⟩ := h.obj n o q
    exact ⟨a, by rw [e.l]; exact h1, u, e.keepL _ _ (List.mem_of_getElem? h1) h2, h3.stp e⟩⟩
theorem RC.nt {u : HO} {o : Ob} (h : RC K mg G H u o) : ∀ xs, u ≠ .tup xs := fun xs e => by
  subst e
  cases o with
  | lst ds => obtain ⟨vs, h1, _⟩ := h; cases h1
  | dK ds => obtain ⟨vs, h1, _⟩ := h; cases h1
  | dT ds => obtain ⟨vs, h1, _⟩ := h; cases h1
  | ins c fs => obtain ⟨C, dx, vs, h0, h1, _⟩ := h; cases h1
theorem Th.new {p : Addr} {u : HO} (n : ∀ xs, u ≠ .tup xs) (h : H p = some u) : Th H p := ⟨by rw [h]; simp, fun xs z => n xs (Option.some.inj (h.symm.trans z))⟩
theorem Th.upd {a b : Addr} {u : HO} (n : ∀ xs, u ≠ .tup xs) (h : Th H b) : Th (L2.upd H a u) b := by
  unfold L2.upd
  by_cases e : b = a
  · subst e
    exact Th.new n (if_pos rfl)
  · exact ⟨by show (if b = a then some u else H b) ≠ none; rw [if_neg e]; exact h.1, fun xs => by show (if b = a then some u else H b) ≠ _; rw [if_neg e]; exact h.2 xs⟩
/-- a slot takes an object of its own -/
theorem SE.setO {i : Nat} {p : Addr} {u : HO} {o : Ob} (h : SE K mg G env σ H) (hi : i < env.length) (np : H p = none) (r : RC K mg G H u o) (m : Mono H H') (hp : H' p = some u) :
    SE K mg ⟨G.L, G.C, G.O.set i (some p)⟩ (env.set i (some (.own o))) (σ.set i (some (.ref p))) H' ∧ Stp G H ⟨G.L, G.C, G.O.set i (some p)⟩ H' := by
  have hiO : i < G.O.length := by rw [h.olen]; exact hi
  have memO : ∀ a, some a ∈ G.O.set i (some p) → some a ∈ G.O ∨ a = p := fun a ha => by
    rcases List.mem_or_eq_of_mem_set ha with z | z
    · exact .inl z
    · exact .inr (Option.some.inj z)
  have nb : ¬ G.bar p := fun z => (h.there p z).1 np
  have st : Stp G H ⟨G.L, G.C, G.O.set i (some p)⟩ H' := by
    refine ⟨rfl, fun a o _ q => m a o q, fun a o _ q => m a o q, fun a ha => ?_⟩
    rcases ha with ha | ha | ha
    · exact .inl (.inl ha)
    · exact .inl (.inr (.inl ha))
    · rcases memO a ha with z | z
      · exact .inl (.inr (.inr z))
      · subst z
        exact .inr np
  have atO : ∀ j a, (G.O.set i (some p))[j]? = some (some a) → (j = i ∧ a = p) ∨ (j ≠ i ∧ G.O[j]? = some (some a)) := fun j a e => by
    by_cases q : i = j
    · subst q
      rw [List.getElem?_set_self hiO] at e
      exact .inl ⟨rfl, (Option.some.inj (Option.some.inj e)).symm⟩
    · rw [List.getElem?_set_ne q] at e
      exact .inr ⟨fun z => q z.symm, e⟩
  refine ⟨⟨by simp [h.len], by simp [h.olen], fun j x e => ?_, fun j x e => ?_, fun j k a e1 e2 => ?_, fun j a e => ?_, fun a ha => ?_⟩, st⟩
  · by_cases q : i = j
    · subst q
      rw [List.getElem?_set_self hi] at e
      cases e
    · rw [List.getElem?_set_ne q] at e
      rw [List.getElem?_set_ne q]
      obtain ⟨v, h1, h2⟩ := h.val j x e
      exact ⟨v, h1, h2.stp st⟩
  · by_cases q : i = j
    · subst q
      rw [List.getElem?_set_self hi] at e
      cases e
      exact ⟨p, List.getElem?_set_self (by rw [h.len]; exact hi), List.getElem?_set_self hiO, u, hp, r.stp st⟩
    · rw [List.getElem?_set_ne q] at e
      rw [List.getElem?_set_ne q]
      obtain ⟨a, h1, h2, v, h3, h4⟩ := h.own j x e
      exact ⟨a, h1, by show (G.O.set i (some p))[j]? = _; rw [List.getElem?_set_ne q]; exact h2, v, m _ _ h3, h4.stp st⟩
  · rcases atO j a e1 with ⟨rfl, rfl⟩ | ⟨n1, q1⟩
    · rcases atO k _ e2 with ⟨rfl, _⟩ | ⟨n2, q2⟩
      · rfl
      · exact absurd (.inr (.inr (List.mem_of_getElem? q2))) nb
    · rcases atO k _ e2 with ⟨rfl, rfl⟩ | ⟨n2, q2⟩
      · exact absurd (.inr (.inr (List.mem_of_getElem? q1))) nb
      · exact h.dist j k a q1 q2
  · rcases atO j a e with ⟨rfl, rfl⟩ | ⟨n1, e1⟩
    · exact ⟨fun z => nb (.inl z), fun z => nb (.inr (.inl z))⟩
    · exact h.out j a e1
  · have ht : G.bar a ∨ a = p := by
      rcases ha with ha | ha | ha
      · exact .inl (.inl ha)
      · exact .inl (.inr (.inl ha))
      · exact (memO a ha).imp (fun z => .inr (.inr z)) id
    rcases ht with z | z
    · exact m.th (h.there a z)
    · subst z
      exact Th.new r.nt hp
theorem Stp.from_ {G' : Gh} (e : Stp G H G' H') (hc : G'.C = G.C) (hk : ∀ a o, a ∉ G.L → some a ∉ G.O → H a = some o → H' a = some o) (hO : ∀ a, some a ∈ G'.O → some a ∈ G.O ∨ H a = none) (hm : ∀ a, H a ≠ none → H' a ≠ none) (ht : ∀ a, Th H a → Th H' a) : From G H G' H' :=
  ⟨by rw [e.l]; exact List.prefix_refl _, hc, hk, fun a ha => by rw [e.l] at ha; exact .inl ha, hO, hm, ht⟩
theorem Stp.setO {i : Nat} {p : Addr} (st : Stp G H ⟨G.L, G.C, G.O.set i (some p)⟩ H') (np : H p = none) (m : Mono H H') : From G H ⟨G.L, G.C, G.O.set i (some p)⟩ H' :=
  st.from_ rfl (fun a o _ _ h => m a o h) (fun a ha => (List.mem_or_eq_of_mem_set ha).imp id fun z => by cases z; exact np) (fun a h => by
    cases e : H a with
    | none => exact absurd e h
    | some o => rw [m a o e]; simp) fun a h => m.th h
/-- a slot's own object is written -/
theorem SE.write {i : Nat} {a : Addr} {u' : HO} {o o' : Ob} (h : SE K mg G env σ H) (ss : SS K mg G S H) (he : env[i]? = some (some (.own o))) (hs : σ[i]? = some (some (.ref a))) (hO : G.O[i]? = some (some a)) (r : RC K mg G H u' o') :
    SE K mg G (env.set i (some (.own o'))) σ (upd H a u') ∧ SS K mg G S (upd H a u') ∧ From G H G (upd H a u') := by
  have mO : some a ∈ G.O := List.mem_of_getElem? hO
  have ba : G.bar a := .inr (.inr mO)
  have hi : i < env.length := (List.getElem?_eq_some_iff.mp he).1
  have st : Stp G H G (upd H a u') := ⟨rfl, fun b o n q => by rw [upd_ne (fun z => n (by rw [z]; exact ba))]; exact q, fun b o n q => by rw [upd_ne (fun z => (h.out i a hO).1 (by rw [← z]; exact n))]; exact q, fun b hb => .inl hb⟩
  have there : ∀ b, H b ≠ none → upd H a u' b ≠ none := fun b hb => by
    unfold upd
    split
    · simp
    · exact hb
  refine ⟨⟨by simp [h.len], by simp [h.olen], fun j x e => ?_, fun j x e => ?_, h.dist, h.out, fun b hb => (h.there b hb).upd r.nt⟩, ss.stp st, st.from_ rfl (fun b o n h0 q => ?_) (fun b hb => .inl hb) there fun b hb => hb.upd r.nt⟩
  · by_cases q : i = j
    · subst q
      rw [List.getElem?_set_self hi] at e
      cases e
    · rw [List.getElem?_set_ne q] at e
      obtain ⟨v, h1, h2⟩ := h.val j x e
      exact ⟨v, h1, h2.stp st⟩
  · by_cases q : i = j
    · subst q
      rw [List.getElem?_set_self hi] at e
      cases e
      exact ⟨a, hs, hO, u', upd_same, r.stp st⟩
    · rw [List.getElem?_set_ne q] at e
      obtain ⟨b, h1, h2, v, h3, h4⟩ := h.own j x e
      refine ⟨b, h1, h2, v, ?_, h4.stp st⟩
      rw [upd_ne (fun z => q (h.dist i j a hO (by rw [← z]; exact h2)))]
      exact h3
  · rw [upd_ne (fun z => h0 (by rw [z]; exact mO))]
    exact q
end
end DL

namespace DL
open PySem PySem.Spec PyProof.Rows L2

def tX {α : Type} (K : PySem.W.Frag) (mg : Str → Option Value) (Wx : WX) (env : Ev) (k : α → W) (m : M α) : TE := fun σ H Q => GO K mg Wx env m (fun x G' H' => ∀ v, RW K mg G' H' v (k x) → Q v H') σ H
def NoNx {τ l : Type} (m : M (Fl τ l)) : Prop := ∀ S t S', m S ≠ .ok (.nx t) S'
def seqF {τ υ l : Type} (m : M (Fl τ l)) (f : τ → M (Fl υ l)) : M (Fl υ l) := bnd m fun x => match x with
  | .nx t => f t
  | .bk x => ret (.bk x)
  | .ct x => ret (.ct x)
  | .rt w => ret (.rt w)
def chk (p : Prop) [Decidable p] : M Unit := if p then ret () else bad
section
variable {X : Cx} {Wx : WX} {env env' : Ev} {α β γ τ υ l : Type} {rest : List Stmt} {post : τ → Ev} {lp : l → Ev} {e : Expr} {pos : Pos}
theorem dx {m : M PyData} (h : PE X e (tD X.K X.mg Wx env m)) : PE X e (tX X.K X.mg Wx env W.d m) := h
theorem dxw {m : M W} (h : PE X e (tW X.K X.mg Wx env m)) : PE X e (tX X.K X.mg Wx env id m) := h
theorem dxr {m : M Nat} (h : PE X e (tR X.K X.mg Wx env m)) : PE X e (tX X.K X.mg Wx env W.r m) :=
  PE.imp h fun σ H Q ⟨G, S, ss, se, h⟩ => ⟨G, S, ss, se, h.mono fun x G' H' q a r => q _ ⟨a, r, rfl⟩⟩
/-- many blocks as one -/
theorem pss_any {ι : Type} {sts : List Stmt} {t : ι → TS} (h : ∀ i, PSs X sts (t i)) : PSs X sts (fun D σ H => ∃ i, t i D σ H) := ⟨fun pins s σ H D I ⟨i, q⟩ => (h i).run pins s σ H D I q⟩
/-- an expression's value goes on -/
theorem go_on {m : M α} {f : α → M (Fl τ l)} {G0 G : Gh} {H0 H : Hp} {S : Sto} {σ : L2.St} {D : Ends} {K : PySem.W.Frag} {mg : Str → Option Value} {R : α → Gh → Hp → Prop} (hf : From G0 H0 G H) (ss : SS K mg G S H) (se : SE K mg G env σ H)
    (h : ResB K mg Wx G0 H0 (bnd m f S) post lp D)
    (k : ∀ x S1 L1 H1, m S = .ok x S1 → Ext G H L1 H1 → From G0 H0 (G.to L1) H1 → SS K mg (G.to L1) S1 H1 → SE K mg (G.to L1) env σ H1 → ResB K mg Wx G0 H0 (f x S1) post lp D → R x (G.to L1) H1) : GO K mg Wx env m R σ H := by
  refine ⟨G, S, ss, se, ?_⟩
  unfold bnd at h
  cases e : m S with
  | ok x S1 =>
    rw [e] at h
    exact fun L1 H1 e1 ss1 => k x S1 L1 H1 e e1 (hf.ext e1) ss1 (se.ext e1) h
  | exc c S1 =>
    rw [e] at h
    intro L1 H1 Ca e1 ss1 hc
    have f1 := hf.ext e1
    exact h (G.to L1) σ H1 Ca f1 (ss1.less rfl (bar_less rfl f1.c.symm)) hc
  | bad =>
    rw [e] at h
    exact h

/-! ### blocks -/
theorem ds_nil {t : τ} (le : EvLe (post t) env) : PSs X [] (tB X.K X.mg Wx env post lp (ret (.nx t))) := PSs.imp pss_nil fun D σ H ⟨G0, H0, G, S, hf, ss, se, h⟩ => h G σ H hf ss (se.weak le)
/-- x = e, a value -/
theorem ds_asg {st : Stmt} {i : Nat} {k : α → W} {m : M α} {f : α → M (Fl τ l)} (hp : PS X st (tAsg (tX X.K X.mg Wx env k m) (gName i))) (hi : i < env.length) (hr : ∀ a, PSs X rest (tB X.K X.mg Wx (env.set i (some (.w (k a)))) post lp (f a))) :
    PSs X (st :: rest) (tB X.K X.mg Wx env post lp (bnd m f)) :=
  PSs.imp (pss_cons hp (pss_any hr)) fun D σ H ⟨G0, H0, G, S, hf, ss, se, h⟩ =>
    go_on hf ss se h fun x S1 L1 H1 _ e1 f1 ss1 se1 h1 v r => ⟨x, G0, H0, _, S1, f1, ss1, se1.set hi r, h1⟩
/-- x = e, an object of its own -/
theorem ds_own {st : Stmt} {i : Nat} {c : α → Ob} {m : M α} {f : α → M (Fl τ l)} (hp : PS X st (tAsg (tF X.K X.mg Wx env c m) (gName i))) (hi : i < env.length) (hr : ∀ a, PSs X rest (tB X.K X.mg Wx (env.set i (some (.own (c a)))) post lp (f a))) :
    PSs X (st :: rest) (tB X.K X.mg Wx env post lp (bnd m f)) :=
  PSs.imp (pss_cons hp (pss_any hr)) fun D σ H ⟨G0, H0, G, S, hf, ss, se, h⟩ =>
    go_on hf ss se h fun x S1 L1 H1 _ e1 f1 ss1 se1 h1 p u H2 np hr hm h2 => by
      obtain ⟨a1, a2⟩ := se1.setO hi np hr hm h2
      exact ⟨x, G0, H0, _, S1, f1.trans (a2.setO np hm), ss1.stp a2, a1, h1⟩
/-- an expression as a statement -/
theorem ds_expr {st : Stmt} {k : α → W} {m : M α} {r : M (Fl τ l)} (hp : PS X st (tDrop (tX X.K X.mg Wx env k m))) (hr : PSs X rest (tB X.K X.mg Wx env post lp r)) :
    PSs X (st :: rest) (tB X.K X.mg Wx env post lp (bnd m fun _ => r)) :=
  PSs.imp (pss_cons hp hr) fun D σ H ⟨G0, H0, G, S, hf, ss, se, h⟩ =>
    go_on hf ss se h fun x S1 L1 H1 _ e1 f1 ss1 se1 h1 v r => ⟨G0, H0, _, S1, f1, ss1, se1, h1⟩
/-- return e -/
theorem ds_ret {k : α → W} {m : M α} (he : PE X e (tX X.K X.mg Wx env k m)) : PSs X [.Return (some e) pos] (tB X.K X.mg Wx env post lp (bnd m fun a => ret (.rt (k a)))) :=
  PSs.imp (pss_one (ps_ret he)) fun D σ H ⟨G0, H0, G, S, hf, ss, se, h⟩ =>
    go_on hf ss se h fun x S1 L1 H1 _ e1 f1 ss1 se1 h1 v r => ResB.ret h1 f1 ss1 r
theorem ds_retN : PSs X [.Return none pos] (tB X.K X.mg Wx env post lp (ret (.rt (.d .none)))) :=
  PSs.imp (pss_one ps_retN) fun D σ H ⟨G0, H0, G, S, hf, ss, se, h⟩ => ResB.ret h hf ss (show RW X.K X.mg G H .non (.d .none) from RD.non)
/-- return x, x an own object: nobody writes it any more -/
theorem ds_retO {i : Nat} {o : Ob} {x : Str} {p : Pos} (he : env[i]? = some (some (.own o))) (hv : PE X (.Name x p) (tVar i)) (po : obOwn o = true := by rfl) : PSs X [.Return (some (.Name x p)) pos] (tB X.K X.mg Wx env post lp (ret (.rt (.d (obD o))))) :=
  PSs.imp (pss_one (ps_ret hv)) fun D σ H ⟨G0, H0, G, S, hf, ss, se, h⟩ => by
    obtain ⟨a, h1, h2, u, h3, h4⟩ := se.own i o he
    obtain ⟨n1, n2⟩ := se.out i a h2
    have i' : ∀ b, (Gh.mk G.L G0.C []).bar b → G.bar b := bar_less rfl hf.c.symm
    refine ⟨_, h1, h G _ H hf (ss.less rfl i') ?_⟩
    refine rc_rd (mg := X.mg) (h4.less rfl i') h3 (fun z => ?_) po
    rcases z with z | z | z
    · exact n1 z
    · exact n2 (by rw [hf.c]; exact z)
    · simp at z
theorem ds_brk {t : l} (le : EvLe (lp t) env) : PSs X [.Break pos] (tB X.K X.mg Wx env post lp (ret (.bk t))) := PSs.imp (pss_one ps_break) fun D σ H ⟨G0, H0, G, S, hf, ss, se, h⟩ => h G σ H hf ss (se.weak le)
theorem ds_cont {t : l} (le : EvLe (lp t) env) : PSs X [.Continue pos] (tB X.K X.mg Wx env post lp (ret (.ct t))) := PSs.imp (pss_one ps_continue) fun D σ H ⟨G0, H0, G, S, hf, ss, se, h⟩ => h G σ H hf ss (se.weak le)
theorem ds_pass {r : M (Fl τ l)} (hr : PSs X rest (tB X.K X.mg Wx env post lp r)) : PSs X (.Pass pos :: rest) (tB X.K X.mg Wx env post lp r) := PSs.imp (pss_cons ps_pass hr) fun D σ H h => h
theorem ds_doc {x j p r} (hr : PSs X rest (tB X.K X.mg Wx env post lp r)) : PSs X (.Expr (.Constant (.str x) j p) pos :: rest) (tB X.K X.mg Wx env post lp r) := PSs.imp (pss_cons ps_doc hr) fun D σ H h => h
/-- a block that never comes to this point -/
theorem ds_bad {sts : List Stmt} : PSs X sts (tB X.K X.mg Wx env post lp bad) := PSs.imp pss_never fun D σ H ⟨G0, H0, G, S, hf, ss, se, h⟩ => h
/-- forgotten slots -/
theorem ds_weak {sts : List Stmt} {m : M (Fl τ l)} (le : EvLe env' env) (h : PSs X sts (tB X.K X.mg Wx env' post lp m)) : PSs X sts (tB X.K X.mg Wx env post lp m) :=
  PSs.imp h fun D σ H ⟨G0, H0, G, S, hf, ss, se, h⟩ => ⟨G0, H0, G, S, hf, ss, se.weak le, h⟩

/-! ### if -/
theorem NoNx.bnd {m : M α} {f : α → M (Fl τ l)} (h : ∀ a, NoNx (f a)) : NoNx (bnd m f) := fun S t S' e => by
  unfold DL.bnd at e
  cases q : m S with
  | ok x S1 => rw [q] at e; exact h x S1 t S' e
  | exc c S1 => rw [q] at e; cases e
  | bad => rw [q] at e; cases e
theorem NoNx.rt {w : W} : NoNx (τ := τ) (l := l) (ret (.rt w)) := fun S t S' e => by cases e
theorem NoNx.bk {w : l} : NoNx (τ := τ) (l := l) (ret (.bk w)) := fun S t S' e => by cases e
theorem NoNx.ct {w : l} : NoNx (τ := τ) (l := l) (ret (.ct w)) := fun S t S' e => by cases e
theorem NoNx.bad : NoNx (τ := τ) (l := l) DL.bad := fun S t S' e => by cases e
theorem NoNx.raise {c : Str} : NoNx (τ := τ) (l := l) (DL.raise c) := fun S t S' e => by cases e
theorem NoNx.ite {c : Bool} {a b : M (Fl τ l)} (ha : NoNx a) (hb : NoNx b) : NoNx (if c = true then a else b) := by
  cases c
  · exact hb
  · exact ha
/-- if c: .. and no way behind it -/
theorem ds_ifx {c : Expr} {a : List Stmt} {mc : M Bool} {ma mr : M (Fl τ l)} (hc : PT X c (tQ X.K X.mg Wx env mc)) (ha : PSs X a (tB X.K X.mg Wx env post lp ma)) (nn : NoNx ma) (hr : PSs X rest (tB X.K X.mg Wx env post lp mr)) :
    PSs X (.If c a [] pos :: rest) (tB X.K X.mg Wx env post lp (bnd mc fun b => if b = true then ma else mr)) :=
  PSs.imp (pss_cons (ps_if hc ha pss_nil) hr) fun D σ H ⟨G0, H0, G, S, hf, ss, se, h⟩ =>
    go_on hf ss se h fun b S1 L1 H1 _ e1 f1 ss1 se1 h1 => by
      cases b with
      | true =>
        refine ⟨G0, H0, _, S1, f1, ss1, se1, ?_⟩
        have h2 : ResB X.K X.mg Wx G0 H0 (ma S1) post lp D := h1
        cases q : ma S1 with
        | bad => rw [q] at h2; exact h2
        | exc x S2 => rw [q] at h2; exact h2
        | ok x S2 =>
          rw [q] at h2
          cases x with
          | nx t => exact absurd q (nn S1 t S2)
          | bk t => exact h2
          | ct t => exact h2
          | rt w => exact h2
      | false => exact ⟨G0, H0, _, S1, f1, ss1, se1, h1⟩
/-- if c: .. else: .. -/
theorem dst_if {c : Expr} {a b : List Stmt} {mc : M Bool} {ma mb : M (Fl τ l)} (hc : PT X c (tQ X.K X.mg Wx env mc)) (ha : PSs X a (tB X.K X.mg Wx env post lp ma)) (hb : PSs X b (tB X.K X.mg Wx env post lp mb)) :
    PS X (.If c a b pos) (tB X.K X.mg Wx env post lp (bnd mc fun b => if b = true then ma else mb)) :=
  PS.imp (ps_if hc ha hb) fun D σ H ⟨G0, H0, G, S, hf, ss, se, h⟩ =>
    go_on hf ss se h fun b S1 L1 H1 _ e1 f1 ss1 se1 h1 => by
      cases b with
      | true => exact ⟨G0, H0, _, S1, f1, ss1, se1, h1⟩
      | false => exact ⟨G0, H0, _, S1, f1, ss1, se1, h1⟩
theorem ds_one {st : Stmt} {m : M (Fl τ l)} (h : PS X st (tB X.K X.mg Wx env post lp m)) : PSs X [st] (tB X.K X.mg Wx env post lp m) := pss_one h
/-- a statement, then the rest -/
theorem ds_seq {st : Stmt} {pj : υ → Ev} {m : M (Fl υ l)} {f : υ → M (Fl τ l)} (h1' : PS X st (tB X.K X.mg Wx env pj lp m)) (hr : ∀ t, PSs X rest (tB X.K X.mg Wx (pj t) post lp (f t))) : PSs X (st :: rest) (tB X.K X.mg Wx env post lp (seqF m f)) := by
  refine PSs.imp (pss_cons h1' (pss_any hr)) fun D σ H ⟨G0, H0, G, S, hf, ss, se, h⟩ => ⟨G0, H0, G, S, hf, ss, se, ?_⟩
  unfold seqF DL.bnd at h
  cases q : m S with
  | bad => rw [q] at h; exact h
  | exc x S2 => rw [q] at h; exact h
  | ok x S2 =>
    rw [q] at h
    cases x with
    | nx t => exact fun G' σ' H' g ss' se' => ⟨t, G0, H0, G', S2, g, ss', se', h⟩
    | bk t => exact h
    | ct t => exact h
    | rt w => exact h

/-! ### while -/
def whileL (c : τ → M Bool) (f : τ → M (Fl τ τ)) : Nat → τ → M (Fl τ l)
  | 0, _ => bad
  | n + 1, t => bnd (c t) fun b => if b = true then bnd (f t) fun x => match x with
    | .nx t' => whileL c f n t'
    | .ct t' => whileL c f n t'
    | .bk t' => ret (.nx t')
    | .rt w => ret (.rt w)
    else ret (.nx t)
theorem dst_while {c : Expr} {body : List Stmt} {mc : τ → M Bool} {mb : τ → M (Fl τ τ)} {inv : τ → Ev} {n : Nat} {t0 : τ} (hp : PassesOwn (model X.prog X.w) X.A X.env X.xe) (hc : ∀ t, PT X c (tQ X.K X.mg Wx (inv t) (mc t))) (hb : ∀ t, PSs X body (tB X.K X.mg Wx (inv t) inv inv (mb t))) (le : EvLe (inv t0) env) :
    PS X (.While c body [] pos) (tB X.K X.mg Wx env inv lp (whileL mc mb n t0)) := by
  have hc' : PT X c (fun σ H Q => ∃ t, tQ X.K X.mg Wx (inv t) (mc t) σ H Q) := ⟨fun pins s σ H Q I ⟨t, q⟩ => (hc t).run pins s σ H Q I q⟩
  refine PS.imp (ps_while hp hc' (pss_any hb)) fun D σ H ⟨G0, H0, G, S, hf, ss, se, h⟩ => ?_
  refine ⟨fun k σ H => ∃ G S t, From G0 H0 G H ∧ SS X.K X.mg G S H ∧ SE X.K X.mg G (inv t) σ H ∧ ResB X.K X.mg Wx G0 H0 (whileL mc mb k t S) inv lp D, ⟨n, G, S, t0, hf, ss, se.weak le, h⟩, ?_⟩
  rintro k σ H ⟨G, S, t, hf, ss, se, h⟩
  cases k with
  | zero => exact h.elim
  | succ k =>
    refine ⟨t, go_on hf ss se h fun b S1 L1 H1 _ e1 f1 ss1 se1 h1 => ?_⟩
    cases b with
    | false => exact h1 _ σ H1 f1 ss1 se1
    | true =>
      refine ⟨fun σ' H' => ∃ G S t, From G0 H0 G H' ∧ SS X.K X.mg G S H' ∧ SE X.K X.mg G (inv t) σ' H' ∧ ResB X.K X.mg Wx G0 H0 (whileL mc mb k t S) inv lp D, fun σ' H' q => ⟨k, Nat.lt_succ_self k, q⟩, ?_⟩
      refine ⟨t, G0, H0, _, S1, f1, ss1, se1, ?_⟩
      have h2 : ResB X.K X.mg Wx G0 H0 (bnd (mb t) (fun x => match x with
        | .nx t' => whileL mc mb k t'
        | .ct t' => whileL mc mb k t'
        | .bk t' => ret (.nx t')
        | .rt w => ret (.rt w)) S1) inv lp D := h1
      unfold DL.bnd at h2
      cases q : mb t S1 with
      | bad => rw [q] at h2; exact h2
      | exc x S2 => rw [q] at h2; exact h2
      | ok x S2 =>
        rw [q] at h2
        cases x with
        | nx t' => exact fun G' σ' H' g ss' se' => ⟨G', S2, t', g, ss', se', h2⟩
        | ct t' => exact fun G' σ' H' g ss' se' => ⟨G', S2, t', g, ss', se', h2⟩
        | bk t' => exact h2
        | rt w => exact h2

/-! ### for -/
def forL (f : PyData → τ → M (Fl τ τ)) : List PyData → τ → M (Fl τ l)
  | [], t => ret (.nx t)
  | x :: xs, t => bnd (f x t) fun y => match y with
    | .nx t' => forL f xs t'
    | .ct t' => forL f xs t'
    | .bk t' => ret (.nx t')
    | .rt w => ret (.rt w)
/-- an iterator over data, while what is not written stands as in H' -/
def WalkD (K : PySem.W.Frag) (G' : Gh) (H' : Hp) (J : It) (xs : List PyData) : Prop :=
  Walk J xs.length (fun H2 => ∀ a o, ¬ G'.bar a → H' a = some o → H2 a = some o) (fun i H2 v H3 => Mono H2 H3 ∧ ∃ x, xs[i]? = some x ∧ ∀ B : Addr → Prop, (∀ a, B a → G'.bar a ∨ H' a = none) → (∀ a, B a → H2 a ≠ none) → RD K B H3 v x)
def tI (K : PySem.W.Frag) (mg : Str → Option Value) (Wx : WX) (env : Ev) (m : M (List PyData)) : TI := fun σ H R => GO K mg Wx env m (fun xs G' H' => ∀ J, WalkD K G' H' J xs → R J H') σ H
/-- a target -/
def DG (X : Cx) (tg : Expr) (fe : Ev → PyData → Option Ev) : Prop :=
  ∃ g, PG X tg g ∧ ∀ (G : Gh) (env env' : Ev) (σ : L2.St) (H : Hp) (v : V) (x : PyData) (Q : L2.St → Hp → Prop), SE X.K X.mg G env σ H → RD X.K G.bar H v x → fe env x = some env' → (∀ σ', SE X.K X.mg G env' σ' H → Q σ' H) → g v σ H Q
theorem From.notbar {G0 G : Gh} {H0 H : Hp} (f : From G0 H0 G H) : ∀ a, G.bar a → G0.bar a ∨ H0 a = none := fun a h => by
  rcases h with h | h | h
  · rcases f.new a h with z | z
    · exact .inl (.inl z)
    · exact .inr z.1
  · exact .inl (.inr (.inl (f.c ▸ h)))
  · rcases f.newO a h with z | z
    · exact .inl (.inr (.inr z))
    · exact .inr z
theorem From.keepN {G0 G : Gh} {H0 H : Hp} (f : From G0 H0 G H) : ∀ a o, ¬ G0.bar a → H0 a = some o → H a = some o := fun a o n h => f.keep a o (fun z => n (.inl z)) (fun z => n (.inr (.inr z))) h
theorem dst_for {tg iter : Expr} {body : List Stmt} {mi : M (List PyData)} {fe : Ev → PyData → Option Ev} {mb : PyData → τ → M (Fl τ τ)} {inv : τ → Ev} {t0 : τ} (hp : PassesOwn (model X.prog X.w) X.A X.env X.xe) (hc : X.calm = true)
    (hi : PI X tg iter (tI X.K X.mg Wx env mi)) (hg : DG X tg fe) (hb : ∀ x t env', fe (inv t) x = some env' → PSs X body (tB X.K X.mg Wx env' inv inv (mb x t))) (hno : ∀ x t, fe (inv t) x = none → mb x t = bad) (le : EvLe (inv t0) env)
    (hs : ∀ x, foldedSetIterable iter X.env x = pure x := by intro _; rfl) :
    PS X (.For tg iter body [] pos) (tB X.K X.mg Wx env inv lp (bnd mi fun xs => forL mb xs t0)) := by
  obtain ⟨g, hg, hgv⟩ := hg
  have hb' : PSs X body (fun D σ H => ∃ x t env', fe (inv t) x = some env' ∧ tB X.K X.mg Wx env' inv inv (mb x t) D σ H) := ⟨fun pins s σ H D I ⟨x, t, env', e, q⟩ => (hb x t env' e).run pins s σ H D I q⟩
  refine PS.imp (ps_for hp hc hi hg hb' hs) fun D σ H ⟨G0, H0, G, S, hf, ss, se, h⟩ => ?_
  refine go_on hf ss se h fun xs S1 L1 H1 _ e1 f1 ss1 se1 h1 J w => ?_
  refine for_it (g := g) (tb := fun D σ H => ∃ x t env', fe (inv t) x = some env' ∧ tB X.K X.mg Wx env' inv inv (mb x t) D σ H) (D := D) w (fun i σ2 H2 => ∃ G2 S2 t, From (G.to L1) H1 G2 H2 ∧ SS X.K X.mg G2 S2 H2 ∧ SE X.K X.mg G2 (inv t) σ2 H2 ∧ ResB X.K X.mg Wx G0 H0 (forL mb (xs.drop i) t S2) inv lp D) ⟨_, S1, t0, From.refl, ss1, se1.weak le, h1⟩ ?_ ?_ ?_
  · rintro i σ2 H2 hi ⟨G2, S2, t, fr, _⟩
    exact fr.keepN
  · rintro i v σ2 H2 H3 hi ⟨G2, S2, t, fr, ss2, se2, h2⟩ ⟨m, x, ex, rx⟩
    have rd : RD X.K G2.bar H3 v x := rx G2.bar fr.notbar fun a h => (se2.there a h).1
    have se3 : SE X.K X.mg G2 (inv t) σ2 H3 := se2.ext (m.ext (G := G2))
    have ss3 := ss2.mono m
    have fr3 : From (G.to L1) H1 G2 H3 := fr.ext (m.ext (G := G2))
    have ed : xs.drop i = x :: xs.drop (i + 1) := by
      rw [List.drop_eq_getElem_cons hi]
      rw [List.getElem?_eq_getElem hi] at ex
      rw [Option.some.inj ex]
    rw [ed] at h2
    cases ee : fe (inv t) x with
    | none =>
      unfold forL at h2
      rw [hno x t ee] at h2
      exact h2.elim
    | some env' =>
      refine hgv G2 (inv t) env' σ2 H3 v x _ se3 rd ee fun σ4 se4 => ?_
      refine ⟨x, t, env', ee, G2, H3, G2, S2, From.refl, ss3, se4, ?_⟩
      have f4 := f1.trans fr3
      unfold forL DL.bnd at h2
      cases q : mb x t S2 with
      | bad => rw [q] at h2; exact h2
      | exc x S2 =>
        rw [q] at h2
        exact ResB.base (τ := τ) (l := l) (lp := lp) (post := inv) (D := D) (o := .exc x S2) h2 f4
      | ok x S3 =>
        rw [q] at h2
        cases x with
        | nx t' => exact fun G' σ' H' g ss' se' => ⟨G', S3, t', fr3.trans g, ss', se', h2⟩
        | ct t' => exact fun G' σ' H' g ss' se' => ⟨G', S3, t', fr3.trans g, ss', se', h2⟩
        | bk t' => exact fun G' σ' H' g ss' se' => h2 G' σ' H' (f4.trans g) ss' se'
        | rt w => exact ResB.base (lp := lp) (post := inv) (D := D) (o := .ok (.rt w) S3) h2 f4
  · rintro σ2 H2 ⟨G2, S2, t, fr, ss2, se2, h2⟩
    rw [List.drop_length] at h2
    exact h2 G2 σ2 H2 (f1.trans fr) ss2 se2
end
end DL

/-! iterators over lists, tuples, texts alike: for x in v, enumerate(v), zip(v, w), zip(v, w, u) -/
namespace PySem
open Sem (wp)
theorem dl_meets_enum1 {v : Value} {o : Obj} {H : Heap → Prop} (B : Begins v o H) :
    Meets (Builtin.«enumerate.__new__» ⟨[.type "enumerate", v], []⟩) (fun _ R s => H s.heap ∧
      R (.ok (.ret (.ref (s.heap.push o).objs.size))) { s with heap := (s.heap.push o).push { cls := .type "enumerate", data := .fields #[.none, .bool false, .ref s.heap.objs.size, rawInt 0, .none, .none] } }) :=
  .of_wp fun prog w A R s h => by
    obtain ⟨hp, g, d, tk, os⟩ := s; obtain ⟨h1, h⟩ := h
    have hsub := sub_enumerate
    have q1 : ∀ {A' : Around} {E : Value → Shared → Prop} {Q : Value → Shared → Prop}, Q (.ref hp.objs.size) ⟨hp.push o, g, d, tk, os⟩ → wpAny (model prog w) A' (pyIter v) Q E ⟨hp, g, d, tk, os⟩ :=
      fun q => B.iter prog w _ _ ⟨hp, g, d, tk, os⟩ _ h1 q
    wp_walk using q1
    refine wpAny_stack_any fun st => wpAny_pure ?_
    split
    · rename_i c _ _ _ _ _
      cases (c == Value.type "enumerate")
      · wp_walk using q1
        exact ⟨_, rfl, h⟩
      · wp_walk using q1
        exact ⟨_, rfl, h⟩
    · wp_walk using q1
      exact ⟨_, rfl, h⟩
section
variable {prog : Program} {w : World} {A : Around} {E : Value → Shared → Prop} {s : Shared}
theorem dl_enum1 {v : Value} {o : Obj} {H : Heap → Prop} {Q : Value → Shared → Prop} (B : Begins v o H) (h1 : H s.heap)
    (h : ∀ h', IsEnum h' (s.heap.objs.size + 1) s.heap.objs.size 0 .none → h'.get? s.heap.objs.size = some o → h'.objs.size = s.heap.objs.size + 2 →
      (∀ b o, s.heap.get? b = some o → h'.get? b = some o) → Q (.ref (s.heap.objs.size + 1)) { s with heap := h' }) :
    wpAny (model prog w) A (call (.type "enumerate") [v]) Q E s := by
  refine callType_new F.called_enumerate (by decide) (F.typeCall_enumerate_1 _) (F.newCall_enumerate_1 _) (fun obj => F.args_object_init_2 obj _) F.entry_enumerate_new
    (dl_meets_enum1 B) ⟨h1, ?_⟩
  have hz : (s.heap.push o).objs.size = s.heap.objs.size + 1 := Heap.size_push ..
  show _ ∧ _
  rw [hz]
  have he : IsEnum ((s.heap.push o).push { cls := .type "enumerate", data := .fields #[.none, .bool false, .ref s.heap.objs.size, rawInt 0, .none, .none] }) (s.heap.objs.size + 1) s.heap.objs.size 0 .none := by
    have := Heap.get?_push_size (s.heap.push o) (o := { cls := .type "enumerate", data := .fields #[.none, .bool false, .ref s.heap.objs.size, rawInt 0, .none, .none] }) rfl
    rw [hz] at this; exact this
  refine ⟨⟨_, he, rfl⟩, h _ he (Heap.get?_push_of_some _ (Heap.get?_push_size _ B.free)) (by rw [Heap.size_push, hz]) fun b o x => Heap.get?_push_of_some _ (Heap.get?_push_of_some _ x)⟩
end
end PySem
namespace DL
open PySem PySem.Spec PyProof.Rows L2

inductive Sq where
  | l (a : Addr) | t (a : Addr) | s (x : Str) (t : Tok)
namespace Sq
def v : Sq → Value
  | l a => .ref a
  | t a => .ref a
  | s x k => .str x k
/-- the iterator's object, at its begin -/
def o : Sq → Obj
  | l a => { cls := .type "list_iterator", data := .fields #[.ref a, .int 0 0] }
  | t a => { cls := .type "tuple_iterator", data := .fields #[.ref a, .int 0 0] }
  | s x k => { cls := .type (strIterType x), data := .fields #[.str x k, .int 0 0] }
/-- .. at turn i -/
def st (q : Sq) (it : Addr) (i : Nat) (h : Heap) : Prop := match q with
  | l a => h.IsListIter it a i
  | t a => h.IsTupleIter it a i
  | s x k => h.IsStrIter it (strIterType x) x k i
def chars (x : Str) : List V := x.cps.toList.map fun c => V.str ⟨#[c]⟩
def is (q : Sq) (K : PySem.W.Frag) (H : Hp) (xs : List V) : Prop := match q with
  | l a => SqL K H a xs
  | t a => SqT K H a xs
  | s x _ => xs = chars x
/-- what stands below -/
def below (q : Sq) (n : Nat) : Prop := match q with
  | l a => a < n
  | t a => a < n
  | s _ _ => True
def fp : Sq → List Addr
  | l a => [a]
  | t a => [a]
  | s _ _ => []
variable {X : Cx} {pins : List (Addr × Obj)} {σ : L2.St} {H : Hp} {s : Shared} {xs : List V}
theorem st_obj {q : Sq} {it : Addr} {i : Nat} {h : Heap} (x : q.st it i h) : ∃ o, h.get? it = some o ∧ ∀ v, o.data ≠ .cell v := by
  cases q with
  | l a => obtain ⟨o, e, _, d⟩ := x; exact ⟨o, e, fun v z => by rw [d] at z; cases z⟩
  | t a => obtain ⟨o, e, _, d⟩ := x; exact ⟨o, e, fun v z => by rw [d] at z; cases z⟩
  | s y k => obtain ⟨o, e, _, d⟩ := x; exact ⟨o, e, fun v z => by rw [d] at z; cases z⟩
theorem st_at {q : Sq} {it : Addr} {i : Nat} {h h' : Heap} (x : q.st it i h) (k : ∀ o, h.get? it = some o → h'.get? it = some o) : q.st it i h' := by
  cases q with
  | l a => exact Heap.IsListIter.at x k
  | t a => exact Heap.IsTupleIter.at x k
  | s y k' => obtain ⟨o, e, r⟩ := x; exact ⟨o, k o e, r⟩
theorem st_0 {q : Sq} {it : Addr} {h : Heap} (e : h.get? it = some q.o) : q.st it 0 h := by
  cases q with
  | l a => exact ⟨_, e, rfl, rfl⟩
  | t a => exact ⟨_, e, rfl, rfl⟩
  | s y k => exact ⟨_, e, rfl, rfl⟩
theorem is_inj {q : Sq} {ys : List V} (I : Inv X pins σ H s) (a : q.is X.K H xs) (b : q.is X.K H ys) : xs = ys := by
  cases q with
  | l c => exact I.list_inj a b
  | t c => exact I.tuple_inj a b
  | s x k =>
    have a' : xs = chars x := a
    have b' : ys = chars x := b
    rw [a', b']
theorem is_below {q : Sq} (I : Inv X pins σ H s) (a : q.is X.K H xs) : q.below s.heap.objs.size := by
  cases q with
  | l c => obtain ⟨its, r, p, z⟩ := I.list a; exact p.lt
  | t c => obtain ⟨its, r, p, z⟩ := I.tuple a; exact p.lt
  | s x k => trivial
theorem fp_below {q : Sq} {n : Nat} (h : q.below n) : ∀ b ∈ q.fp, b < n := by
  cases q with
  | l c => intro b hb; have e : b = c := by simpa [fp] using hb
           rw [e]; exact h
  | t c => intro b hb; have e : b = c := by simpa [fp] using hb
           rw [e]; exact h
  | s x k => intro b hb; simp [fp] at hb
/-- iter(v) -/
theorem begins {q : Sq} (I : Inv X pins σ H s) (a : q.is X.K H xs) : ∃ HH : Heap → Prop, Begins q.v q.o HH ∧ HH s.heap := by
  cases q with
  | l c => obtain ⟨its, r, p, z⟩ := I.list a; exact ⟨_, begins_list c its.toArray, p.isList⟩
  | t c => obtain ⟨its, r, p, z⟩ := I.tuple a; exact ⟨_, begins_tuple c its.toArray, p⟩
  | s x k => exact ⟨_, begins_text x k, trivial⟩
/-- next of it -/
theorem draws {q : Sq} {A : Around} (hh : A.handled = none) (I : Inv X pins σ H s) (a : q.is X.K H xs) (it : Addr) (hne : it ∉ q.fp) :
    ∃ (P : Nat → Value → Prop) (Q : Nat → Heap → Prop), Draws X.prog X.w A it (it :: q.fp) xs.length P Q ∧ (∀ i u, P i u → ∃ x, xs[i]? = some x ∧ RelV x u) ∧ (∀ i, q.st it i s.heap → Q i s.heap) ∧ ∀ i h, Q i h → q.st it i h := by
  cases q with
  | l c =>
    obtain ⟨its, r, p, z⟩ := I.list a
    have e : its.toArray.size = xs.length := by simp [r.length]
    refine ⟨fun i v => its.toArray[i]? = some v, fun i h => h.IsListIter it c i ∧ h.IsList c its.toArray, by rw [← e]; exact Draws.list hh it c (fun z => hne (by simp [fp, z])) its.toArray, fun i u hu => ?_, fun i h => ⟨h, p.isList⟩, fun i h x => x.1⟩
    have hu' : its[i]? = some u := by simpa using hu
    have hi : i < xs.length := by
      rw [r.length]
      exact (List.getElem?_eq_some_iff.mp hu').1
    obtain ⟨u', h1, h2⟩ := r.get (List.getElem?_eq_getElem hi)
    rw [hu'] at h1
    cases h1
    exact ⟨_, List.getElem?_eq_getElem hi, h2⟩
  | t c =>
    obtain ⟨its, r, p, z⟩ := I.tuple a
    have e : its.toArray.size = xs.length := by simp [r.length]
    refine ⟨fun i v => its.toArray[i]? = some v, fun i h => h.IsTupleIter it c i ∧ h.IsTuple c its.toArray, by rw [← e]; exact Draws.tuple hh it c (fun z => hne (by simp [fp, z])) its.toArray, fun i u hu => ?_, fun i h => ⟨h, p⟩, fun i h x => x.1⟩
    have hu' : its[i]? = some u := by simpa using hu
    have hi : i < xs.length := by
      rw [r.length]
      exact (List.getElem?_eq_some_iff.mp hu').1
    obtain ⟨u', h1, h2⟩ := r.get (List.getElem?_eq_getElem hi)
    rw [hu'] at h1
    cases h1
    exact ⟨_, List.getElem?_eq_getElem hi, h2⟩
  | s x k =>
    have a' : xs = chars x := a
    subst a'
    have e : x.cps.size = (chars x).length := by simp [chars]
    refine ⟨_, _, by rw [← e]; exact Draws.text hh it x k, fun i u hu => ?_, fun i h => h, fun i h x => x⟩
    obtain ⟨c, t, hc, rfl⟩ := hu
    refine ⟨V.str ⟨#[c]⟩, ?_, ⟨t, rfl⟩⟩
    have hc' : x.cps.toList[i]? = some c := by simpa using hc
    unfold chars
    rw [List.getElem?_map, hc']
    rfl
end Sq

/-! ### enumerate -/
def Itqe (K : PySem.W.Frag) (q : Sq) : It :=
  ⟨fun i H => ∃ (xs : List V) (x : V), q.is K H xs ∧ xs[i]? = some x, fun i H v H' => ∃ T x, v = .ref T ∧ H T = none ∧ H' = upd H T (.tup [.int (i : Nat), x]) ∧ ∀ xs, q.is K H xs → xs[i]? = some x, fun i H => ∃ xs : List V, q.is K H xs ∧ xs.length = i⟩
theorem ne_cls {h : Heap} {a b : Addr} {o o' : Obj} (h1 : h.get? a = some o) (h2 : h.get? b = some o') (d : o.cls ≠ o'.cls) : a ≠ b := fun e => by
  subst e
  rw [h1] at h2
  cases h2
  exact d rfl
theorem fpOk_notin {X : Cx} {pins : List (Addr × Obj)} {σ : L2.St} {H : Hp} {s : Shared} {xs : List V} {q : Sq} (I : Inv X pins σ H s) (a : q.is X.K H xs) {b : Addr} {o : Obj} (hb : s.heap.get? b = some o) (hl : o.cls ≠ .type "list") (ht : o.cls ≠ .type "tuple") : b ∉ q.fp := by
  cases q with
  | l c =>
    intro z
    have e : b = c := by simpa [Sq.fp] using z
    subst e
    obtain ⟨its, r, ⟨o', n, h1, h2, _⟩, _⟩ := I.list a
    rw [hb] at h1
    cases h1
    exact hl h2
  | t c =>
    intro z
    have e : b = c := by simpa [Sq.fp] using z
    subst e
    obtain ⟨its, r, ⟨o', h1, h2, _⟩, _⟩ := I.tuple a
    rw [hb] at h1
    cases h1
    exact ht h2
  | s x k => intro z; simp [Sq.fp] at z
theorem st_cls {q : Sq} {it : Addr} {i : Nat} {h : Heap} (x : q.st it i h) : ∃ o, h.get? it = some o ∧ o.cls ≠ .type "list" ∧ o.cls ≠ .type "tuple" := by
  cases q with
  | l a => obtain ⟨o, e, c, d⟩ := x; exact ⟨o, e, by rw [c]; decide, by rw [c]; decide⟩
  | t a => obtain ⟨o, e, c, d⟩ := x; exact ⟨o, e, by rw [c]; decide, by rw [c]; decide⟩
  | s y k =>
    obtain ⟨o, e, c, d⟩ := x
    refine ⟨o, e, ?_, ?_⟩
    · rw [c]
      unfold strIterType
      split <;> decide
    · rw [c]
      unfold strIterType
      split <;> decide
theorem turn_qe {P : Program} {w : World} {K : PySem.W.Frag} {elts : List Expr} {kk : Nat} {tpos : Pos} (q : Sq) (e it : Addr) :
    Turn P w K (.Tuple elts kk tpos) (Itqe K q) [e, it] e (fun i h => (∃ old, IsEnum h e it ((0 : Int) + (i : Nat)) old) ∧ q.st it i h ∧ e ≠ it) where
  mem := by simp
  obj := fun i h st b hb => by
    obtain ⟨⟨old, he⟩, hs, _⟩ := st
    have e' : b = e ∨ b = it := by simpa using hb
    rcases e' with z | z
    · rw [z]; exact ⟨_, he, fun v q => nomatch q⟩
    · rw [z]; exact Sq.st_obj hs
  keep := fun i h h' st k => let ⟨⟨old, he⟩, hi, hne⟩ := st; ⟨⟨old, k e (by simp) _ he⟩, Sq.st_at hi fun o q => k it (by simp) o q, hne⟩
  item := by
    intro X hP hw hK hc i pins s σ H E I hf st hg
    subst hP hw hK
    obtain ⟨⟨old, he⟩, hit, hne⟩ := st
    obtain ⟨xs, x, hq, hx⟩ := hg
    obtain ⟨oi, hoi, hi1, hi2⟩ := st_cls hit
    have hif : it ∉ q.fp := fpOk_notin I hq hoi hi1 hi2
    have hef : e ∉ q.fp := fpOk_notin I hq he (show (Value.type "enumerate") ≠ Value.type "list" by decide) (show (Value.type "enumerate") ≠ Value.type "tuple" by decide)
    obtain ⟨PP, QQ, D, hP1, hQ1, hQ2⟩ := Sq.draws (A := X.A.in1) (show X.A.in1.handled = none from I.ok.hd hc) I hq it hif
    have W := GoesN.enumFrom (elts := elts) (x1 := kk) (pos := tpos) 0 D e hne (by simp [hne, hef]) (by simp)
    have hel : e < s.heap.objs.size := Heap.lt_size he
    have hil : it < s.heap.objs.size := Heap.lt_size hoi
    refine W.goes i s _ E (List.getElem?_eq_some_iff.mp hx).1 ⟨⟨old, he⟩, hQ1 i hit⟩ fun v h' tk hY st' hk htk => ?_
    obtain ⟨T, t, y, rfl, hT, hy, hTt⟩ := hY
    obtain ⟨x', hx', rx⟩ := hP1 i y hy
    rw [hx] at hx'
    cases hx'
    have new : ObjOk X.prog X.w (upd H T (.tup [.int (i : Nat), x])) h' T (.tup [.int (i : Nat), x]) :=
      ⟨by show 2 ≤ sizeLine; decide, [.int ((0 : Int) + (i : Int)) t, y], .cons ⟨t, by rw [Int.zero_add]⟩ (.cons rx .nil), hTt⟩
    have I1 : Inv X pins σ (upd H T (.tup [.int (i : Nat), x])) { s with heap := h', toks := tk } := I.turnedNew (t' := tk) (ch := [e, it]) hk hf hT new
    refine ⟨.ref T, _, I1, rfl, ⟨_, x, rfl, I.hok.fresh hT, rfl, fun ys hy => by rw [Sq.is_inj I hy hq]; exact hx⟩, ⟨st'.1, hQ2 _ _ st'.2, hne⟩, fun b hb => ?_⟩
    have hb' : b < s.heap.objs.size := by
      have e' : b = e ∨ b = it := by simpa using hb
      rcases e' with z | z
      · rw [z]; exact hel
      · rw [z]; exact hil
    rw [upd_ne (Nat.ne_of_lt (Nat.lt_of_lt_of_le hb' hT))]
    exact (hf b hb).1
  done := by
    intro X hP hw hK hc i pins s σ H E I hf st hg
    subst hP hw hK
    obtain ⟨⟨old, he⟩, hit, hne⟩ := st
    obtain ⟨xs, hq, rfl⟩ := hg
    obtain ⟨oi, hoi, hi1, hi2⟩ := st_cls hit
    have hif : it ∉ q.fp := fpOk_notin I hq hoi hi1 hi2
    have hef : e ∉ q.fp := fpOk_notin I hq he (show (Value.type "enumerate") ≠ Value.type "list" by decide) (show (Value.type "enumerate") ≠ Value.type "tuple" by decide)
    obtain ⟨PP, QQ, D, hP1, hQ1, hQ2⟩ := Sq.draws (A := X.A.in1) (show X.A.in1.handled = none from I.ok.hd hc) I hq it hif
    have W := GoesN.enumFrom (elts := elts) (x1 := kk) (pos := tpos) 0 D e hne (by simp [hne, hef]) (by simp)
    exact W.stops s _ E ⟨⟨old, he⟩, hQ1 _ hit⟩ fun h' tk hk htk => I.turnedL (t' := tk) (ch := [e, it]) hk hf
  self := fun A i s Q E st h => let ⟨⟨_, he⟩, _⟩ := st; wpAny_pyIter_enum he h
/-! ### zip -/
def Itqz (K : PySem.W.Frag) (q r : Sq) : It :=
  ⟨fun i H => ∃ (xs ys : List V) (x y : V), q.is K H xs ∧ r.is K H ys ∧ xs[i]? = some x ∧ ys[i]? = some y, fun i H v H' => ∃ T x y, v = .ref T ∧ H T = none ∧ H' = upd H T (.tup [x, y]) ∧ (∀ xs, q.is K H xs → xs[i]? = some x) ∧ ∀ xs, r.is K H xs → xs[i]? = some y,
    fun i H => ∃ xs ys : List V, q.is K H xs ∧ r.is K H ys ∧ min xs.length ys.length = i⟩
theorem turn_qz {P : Program} {w : World} {K : PySem.W.Frag} {elts : List Expr} {kk : Nat} {tpos : Pos} (q r : Sq) (N : Nat) (hq : q.below N) (hr : r.below N) :
    Turn P w K (.Tuple elts kk tpos) (Itqz K q r) [N + 4, N + 2, N + 3, N, N + 1] (N + 4) (fun i h => IsZip h (N + 4) (N + 2) (N + 3) .none ∧ IsTupOf2 h (N + 2) (.ref N) (.ref (N + 1)) ∧ (∃ a1 a2, IsTupOf2 h (N + 3) a1 a2) ∧ q.st N i h ∧ r.st (N + 1) i h) where
  mem := by simp
  obj := fun i h st b hb => by
    obtain ⟨h1, h2, ⟨a1, a2, h3⟩, h4, h5⟩ := st
    have e' : b = N + 4 ∨ b = N + 2 ∨ b = N + 3 ∨ b = N ∨ b = N + 1 := by simpa using hb
    rcases e' with z | z | z | z | z
    · rw [z]; exact ⟨_, h1, fun v q => nomatch q⟩
    · rw [z]; exact ⟨_, h2, fun v q => nomatch q⟩
    · rw [z]; exact ⟨_, h3, fun v q => nomatch q⟩
    · rw [z]; exact Sq.st_obj h4
    · rw [z]; exact Sq.st_obj h5
  keep := fun i h h' st k => by
    obtain ⟨h1, h2, ⟨a1, a2, h3⟩, h4, h5⟩ := st
    exact ⟨k (N + 4) (by simp) _ h1, k (N + 2) (by simp) _ h2, ⟨a1, a2, k (N + 3) (by simp) _ h3⟩, Sq.st_at h4 fun o q => k N (by simp) o q, Sq.st_at h5 fun o q => k (N + 1) (by simp) o q⟩
  item := by
    intro X hP hw hK hc i pins s σ H E I hf st hg
    subst hP hw hK
    obtain ⟨h1, h2, h3, h4, h5⟩ := st
    obtain ⟨xs, ys, x, y, hxs, hys, hx, hy⟩ := hg
    obtain ⟨o1, ho1, i1, i2⟩ := st_cls h4
    obtain ⟨o2, ho2, i3, i4⟩ := st_cls h5
    obtain ⟨P1, Q1, D1, d1, d2, d3⟩ := Sq.draws (A := X.A.in1) (show X.A.in1.handled = none from I.ok.hd hc) I hxs N (fpOk_notin I hxs ho1 i1 i2)
    obtain ⟨P2, Q2, D2, d4, d5, d6⟩ := Sq.draws (A := X.A.in1) (show X.A.in1.handled = none from I.ok.hd hc) I hys (N + 1) (fpOk_notin I hys ho2 i3 i4)
    have W := GoesN.zip2 (elts := elts) (x1 := kk) (pos := tpos) (zip_sep2 (Sq.fp_below hq) (Sq.fp_below hr)) D1 D2
    have lim : i < min xs.length ys.length := by
      have a1 := (List.getElem?_eq_some_iff.mp hx).1
      have a2 := (List.getElem?_eq_some_iff.mp hy).1
      omega
    refine W.goes i s _ E lim ⟨h1, h2, h3, d2 i h4, d5 i h5⟩ fun v h' tk hY st' hk htk => ?_
    obtain ⟨T, u1, u2, rfl, hT, hu1, hu2, hTt⟩ := hY
    obtain ⟨x', hx', rx⟩ := d1 i u1 hu1
    rw [hx] at hx'
    cases hx'
    obtain ⟨y', hy', ry⟩ := d4 i u2 hu2
    rw [hy] at hy'
    cases hy'
    have new : ObjOk X.prog X.w (upd H T (.tup [x, y])) h' T (.tup [x, y]) := ⟨by show 2 ≤ sizeLine; decide, [u1, u2], .cons rx (.cons ry .nil), hTt⟩
    have I1 : Inv X pins σ (upd H T (.tup [x, y])) { s with heap := h', toks := tk } := I.turnedNew (t' := tk) (ch := [N + 4, N + 2, N + 3, N, N + 1]) (fun b o hb e => hk b o (fun z => hb (by
      have z' : b = N + 4 ∨ b = N + 3 ∨ b = N ∨ b = N + 1 := by simpa using z
      rcases z' with z | z | z | z <;> simp [z])) e) hf hT new
    refine ⟨.ref T, _, I1, rfl, ⟨_, x, y, rfl, I.hok.fresh hT, rfl, fun zs hz => by rw [Sq.is_inj I hz hxs]; exact hx, fun zs hz => by rw [Sq.is_inj I hz hys]; exact hy⟩, ⟨st'.1, st'.2.1, st'.2.2.1, d3 _ _ st'.2.2.2.1, d6 _ _ st'.2.2.2.2⟩, fun b hb => ?_⟩
    have hb' : b < s.heap.objs.size := by
      have hN4 := Heap.lt_size h1
      have e' : b = N + 4 ∨ b = N + 2 ∨ b = N + 3 ∨ b = N ∨ b = N + 1 := by simpa using hb
      rcases e' with z | z | z | z | z
      · rw [z]; exact hN4
      · rw [z]; exact Heap.lt_size h2
      · obtain ⟨_, _, h3⟩ := h3; rw [z]; exact Heap.lt_size h3
      · rw [z]; exact Heap.lt_size ho1
      · rw [z]; exact Heap.lt_size ho2
    rw [upd_ne (Nat.ne_of_lt (Nat.lt_of_lt_of_le hb' hT))]
    exact (hf b hb).1
  done := by
    intro X hP hw hK hc i pins s σ H E I hf st hg
    subst hP hw hK
    obtain ⟨h1, h2, h3, h4, h5⟩ := st
    obtain ⟨xs, ys, hxs, hys, rfl⟩ := hg
    obtain ⟨o1, ho1, i1, i2⟩ := st_cls h4
    obtain ⟨o2, ho2, i3, i4⟩ := st_cls h5
    obtain ⟨P1, Q1, D1, d1, d2, d3⟩ := Sq.draws (A := X.A.in1) (show X.A.in1.handled = none from I.ok.hd hc) I hxs N (fpOk_notin I hxs ho1 i1 i2)
    obtain ⟨P2, Q2, D2, d4, d5, d6⟩ := Sq.draws (A := X.A.in1) (show X.A.in1.handled = none from I.ok.hd hc) I hys (N + 1) (fpOk_notin I hys ho2 i3 i4)
    have W := GoesN.zip2 (elts := elts) (x1 := kk) (pos := tpos) (zip_sep2 (Sq.fp_below hq) (Sq.fp_below hr)) D1 D2
    exact W.stops s _ E ⟨h1, h2, h3, d2 _ h4, d5 _ h5⟩ fun h' tk hk htk => I.turnedL (t' := tk) (ch := [N + 4, N + 2, N + 3, N, N + 1]) (fun b o hb e => hk b o (fun z => hb (by
      have z' : b = N + 4 ∨ b = N + 3 ∨ b = N ∨ b = N + 1 := by simpa using z
      rcases z' with z | z | z | z <;> simp [z])) e) hf
  self := fun A i s Q E st h => wpAny_pyIter_zip st.1 h
end DL

namespace DL
open PySem PySem.Spec PyProof.Rows L2

namespace Sq
def of (q : Sq) (x : V) : Prop := match q with
  | l a => x = V.ref a
  | t a => x = V.ref a
  | s z _ => x = V.str z
def like (q q' : Sq) : Prop := match q, q' with
  | l a, l b => a = b
  | t a, t b => a = b
  | s x _, s y _ => x = y
  | _, _ => False
theorem like.is {q q' : Sq} (h : q.like q') {K : PySem.W.Frag} {H : Hp} {xs : List V} (a : q.is K H xs) : q'.is K H xs := by
  cases q <;> cases q' <;> first
    | exact h.elim
    | (have h' := h
       unfold like at h'
       subst h'
       exact a)
theorem of_v {q : Sq} {x : V} {u : Value} (h : q.of x) (r : RelV x u) : ∃ q' : Sq, q'.v = u ∧ q.like q' := by
  cases q with
  | l a =>
    have h' : x = V.ref a := h
    subst h'
    exact ⟨.l a, (show u = Value.ref a from r).symm, rfl⟩
  | t a =>
    have h' : x = V.ref a := h
    subst h'
    exact ⟨.t a, (show u = Value.ref a from r).symm, rfl⟩
  | s y k =>
    have h' : x = V.str y := h
    subst h'
    obtain ⟨t, rfl⟩ := r
    exact ⟨.s y t, rfl, rfl⟩
end Sq
section
variable {X : Cx} {tg : Expr}
/-- for x in v -/
def iSq (K : PySem.W.Frag) (tl : TE) : TI := fun σ H R => tl σ H fun x H1 => (∃ a xs, x = V.ref a ∧ SqL K H1 a xs ∧ R (Itl K a) H1) ∨ (∃ a xs, x = V.ref a ∧ SqT K H1 a xs ∧ R (Itt K a) H1) ∨ (∃ z, x = V.str z ∧ R (Its z) H1)
theorem pi_sq {l : Expr} {tl : TE} (hl : PE X l tl) : PI X tg l (iSq X.K tl) := by
  refine ⟨fun pins s σ H R I h => ?_⟩
  refine thn (hl.run pins s σ H _ I h) fun v s1 ⟨x, H1, I1, r1, q1⟩ => ?_
  rcases q1 with ⟨a, xs, e, hq, q⟩ | ⟨a, xs, e, hq, q⟩ | ⟨z, e, q⟩
  · subst e
    cases r1
    obtain ⟨its, rv, p, hz⟩ := I1.list hq
    refine wpAny_pyIter_list p.isList ?_
    exact pi_one (tk := s1.toks) I1 _ (turn_list a _) ⟨_, Heap.get?_push_size _ rfl, rfl, rfl⟩ q
  · subst e
    cases r1
    obtain ⟨its, rv, p, hz⟩ := I1.tuple hq
    refine wpAny_pyIter_tuple (show s1.heap.IsTuple a its.toArray from p) ?_
    exact pi_one (tk := s1.toks) I1 _ (turn_tuple a _) ⟨_, Heap.get?_push_size _ rfl, rfl, rfl⟩ q
  · subst e
    obtain ⟨t, rfl⟩ := r1
    cases ha : z.cps.all (· < 128)
    · exact wpAny_pyIter_wide ha (pi_one (tk := s1.toks) I1 _ (turn_str _ z t "str_iterator" (.inr rfl)) ⟨_, Heap.get?_push_size _ rfl, rfl, rfl⟩ q)
    · exact wpAny_pyIter_ascii ha (pi_one (tk := s1.toks) I1 _ (turn_str _ z t "str_ascii_iterator" (.inl rfl)) ⟨_, Heap.get?_push_size _ rfl, rfl, rfl⟩ q)
/-- enumerate(v) -/
def iQe (K : PySem.W.Frag) (ta : TA) : TI := fun σ H R => ta σ H fun vs H1 => ∃ x xs, vs = [x] ∧ ∃ q : Sq, q.of x ∧ q.is K H1 xs ∧ ∀ q' : Sq, q.like q' → R (Itqe K q') H1
theorem pi_qe {e : Expr} {ta : TA} {p pos tpos : Pos} {elts : List Expr} {kk : Nat} (hg : Gl X "enumerate") (hm : X.mg "enumerate" = none) (ha : PA X [e] ta) (hs : starEach [e] X.env = [(false, eval e X.env)] := by rfl) :
    PI X (.Tuple elts kk tpos) (.Call (.Name "enumerate" p) [e] [] pos) (iQe X.K ta) := by
  refine ⟨fun pins s σ H R I h => ?_⟩
  refine Call_ (ld_blt I hg hm boot_enumerate (PyProof.Rows.callWith_type1 (thn (ha.run pos pins s σ H _ I h) fun us s1 ⟨vs, H1, I1, r1, q1⟩ => ?_) hs rfl))
  obtain ⟨x, xs, ex, q, hq1, hq2, hR⟩ := q1
  subst ex
  cases r1 with
  | cons r rr =>
    cases rr
    obtain ⟨q', rfl, hq'⟩ := Sq.of_v hq1 r
    have hq'' := hq'.is hq2
    obtain ⟨HH, B, hH⟩ := Sq.begins I1 hq''
    refine dl_enum1 B hH fun h' he hit hsz hk => wpAny_pyIter_enum he ?_
    have I2 : Inv X pins σ H1 { s1 with heap := h' } := I1.kept (t' := s1.toks) hk
    refine ⟨s1.heap.objs.size + 1, [s1.heap.objs.size + 1, s1.heap.objs.size], _, _, H1, rfl, I2, turn_qe q' (s1.heap.objs.size + 1) s1.heap.objs.size, ⟨⟨.none, he⟩, Sq.st_0 hit, Nat.succ_ne_self _⟩, fun b hb => ?_, hR q' hq'⟩
    have e' : b = s1.heap.objs.size + 1 ∨ b = s1.heap.objs.size := by simpa using hb
    have hle : s1.heap.objs.size ≤ b := by
      rcases e' with z | z
      · rw [z]; exact Nat.le_add_right _ _
      · rw [z]; exact Nat.le_refl _
    exact I1.fpOk hle (I1.hok.fresh hle)
/-- zip(v, w) -/
def iQz (K : PySem.W.Frag) (ta : TA) : TI := fun σ H R => ta σ H fun vs H1 => ∃ x y xs ys, vs = [x, y] ∧ ∃ q r : Sq, q.of x ∧ q.is K H1 xs ∧ r.of y ∧ r.is K H1 ys ∧ ∀ q' r' : Sq, q.like q' → r.like r' → R (Itqz K q' r') H1
theorem pi_qz {e e2 : Expr} {ta : TA} {p pos tpos : Pos} {elts : List Expr} {kk : Nat} (hg : Gl X "zip") (hm : X.mg "zip" = none) (ha : PA X [e, e2] ta)
    (hs : starEach [e, e2] X.env = (false, eval e X.env) :: starEach [e2] X.env := by rfl) (hpl : (backTo pos (starEach [e2] X.env)).any (·.1) = false := by rfl) :
    PI X (.Tuple elts kk tpos) (.Call (.Name "zip" p) [e, e2] [] pos) (iQz X.K ta) := by
  refine ⟨fun pins s σ H R I h => ?_⟩
  refine Call_ (ld_blt I hg hm PyProof.Rows.boot_zip (PyProof.Rows.callWith_type1 (thn (ha.run pos pins s σ H _ I h) fun us s1 ⟨vs, H1, I1, r1, q1⟩ => ?_) hs hpl))
  obtain ⟨x, y, xs, ys, ex, q, r, hq1, hq2, hr1, hr2, hR⟩ := q1
  subst ex
  cases r1 with
  | cons ra rr =>
    cases rr with
    | cons rb rr =>
      cases rr
      obtain ⟨q', rfl, hq'⟩ := Sq.of_v hq1 ra
      obtain ⟨r', rfl, hr'⟩ := Sq.of_v hr1 rb
      have hq'' := hq'.is hq2
      have hr'' := hr'.is hr2
      obtain ⟨HH, B, hH⟩ := Sq.begins I1 hq''
      obtain ⟨HH2, B2, hH2⟩ := Sq.begins I1 hr''
      refine zip_begins2 B B2 hH hH2 fun h' hz hTI hTO h1 h2 hsz hk => wpAny_pyIter_zip hz ?_
      have I2 : Inv X pins σ H1 { s1 with heap := h' } := I1.kept (t' := s1.toks) hk
      refine ⟨s1.heap.objs.size + 4, [s1.heap.objs.size + 4, s1.heap.objs.size + 2, s1.heap.objs.size + 3, s1.heap.objs.size, s1.heap.objs.size + 1], _, _, H1, rfl, I2, turn_qz q' r' s1.heap.objs.size (Sq.is_below I1 hq'') (Sq.is_below I1 hr''), ⟨hz, hTI, ⟨_, _, hTO⟩, Sq.st_0 h1, Sq.st_0 h2⟩, fun c hcm => ?_, hR q' r' hq' hr'⟩
      have e' : c = s1.heap.objs.size + 4 ∨ c = s1.heap.objs.size + 2 ∨ c = s1.heap.objs.size + 3 ∨ c = s1.heap.objs.size ∨ c = s1.heap.objs.size + 1 := by simpa using hcm
      have hle : s1.heap.objs.size ≤ c := by
        rcases e' with z | z | z | z | z
        · rw [z]; exact Nat.le_add_right _ _
        · rw [z]; exact Nat.le_add_right _ _
        · rw [z]; exact Nat.le_add_right _ _
        · rw [z]; exact Nat.le_refl _
        · rw [z]; exact Nat.le_add_right _ _
      exact I1.fpOk hle (I1.hok.fresh hle)
theorem walk_qe {K : PySem.W.Frag} {q : Sq} {xs : List V} : Walk (Itqe K q) xs.length (fun H => q.is K H xs) (YPair (fun i => some (.int (i : Nat))) (fun i => xs[i]?)) := by
  refine ⟨fun i _ hi h => ⟨xs, xs[i], h, by simp [hi]⟩, fun _ h => ⟨xs, h, rfl⟩, fun i H v H' _ h y => ?_⟩
  obtain ⟨T, x, h1, h2, h3, h4⟩ := y
  exact ⟨T, .int (i : Nat), x, h1, h2, h3, rfl, h4 xs h⟩
theorem walk_qz {K : PySem.W.Frag} {q r : Sq} {xs ys : List V} : Walk (Itqz K q r) (min xs.length ys.length) (fun H => q.is K H xs ∧ r.is K H ys) (YPair (fun i => xs[i]?) (fun i => ys[i]?)) := by
  refine ⟨fun i _ hi h => ?_, fun _ h => ⟨xs, ys, h.1, h.2, rfl⟩, fun i H v H' _ h y => ?_⟩
  · have h1 : i < xs.length := by omega
    have h2 : i < ys.length := by omega
    exact ⟨xs, ys, xs[i], ys[i], h.1, h.2, by simp [h1], by simp [h2]⟩
  · obtain ⟨T, x, z, h1, h2, h3, h4, h5⟩ := y
    exact ⟨T, x, z, h1, h2, h3, h4 xs h.1, h5 ys h.2⟩
end

/-! ### over data -/
def strD (x : Str) : List PyData := x.cps.toList.map fun c => .str ⟨#[c]⟩
def itemsD : PyData → Option (List PyData)
  | .list xs => some xs
  | .tuple xs => some xs
  | .str x => some (strD x)
  | _ => none
def enumD : Nat → List PyData → List PyData
  | _, [] => []
  | i, x :: xs => .tuple [.int (i : Nat), x] :: enumD (i + 1) xs
def zipD : List PyData → List PyData → List PyData
  | x :: xs, y :: ys => .tuple [x, y] :: zipD xs ys
  | _, _ => []
theorem enumD_len : ∀ (k : Nat) (xs : List PyData), (enumD k xs).length = xs.length
  | _, [] => rfl
  | k, x :: xs => congrArg (· + 1) (enumD_len (k + 1) xs)
theorem enumD_get : ∀ (k : Nat) (xs : List PyData) (i : Nat), (enumD k xs)[i]? = xs[i]?.map fun x => .tuple [.int ((k + i : Nat) : Int), x]
  | _, [], _ => rfl
  | k, x :: xs, 0 => rfl
  | k, x :: xs, i + 1 => by
    show (enumD (k + 1) xs)[i]? = _
    rw [enumD_get (k + 1) xs i, show k + 1 + i = k + (i + 1) by omega]
    rfl
theorem zipD_len : ∀ (xs ys : List PyData), (zipD xs ys).length = min xs.length ys.length
  | [], ys => by simp [zipD]
  | x :: xs, [] => by simp [zipD]
  | x :: xs, y :: ys => by
    show (zipD xs ys).length + 1 = _
    rw [zipD_len xs ys]
    simp only [List.length_cons]
    omega
theorem zipD_get : ∀ (xs ys : List PyData) (i : Nat) (x y : PyData), xs[i]? = some x → ys[i]? = some y → (zipD xs ys)[i]? = some (.tuple [x, y])
  | [], _, i, _, _, h, _ => by simp at h
  | _ :: _, [], i, _, _, _, h => by simp at h
  | a :: xs, b :: ys, 0, x, y, h, h' => by
    simp at h h'
    subst h h'
    rfl
  | a :: xs, b :: ys, i + 1, x, y, h, h' => zipD_get xs ys i x y (by simpa using h) (by simpa using h')
section
variable {X : Cx} {Wx : WX} {env : Ev} {tg e e2 : Expr} {K : PySem.W.Frag} {G : Gh} {H H2 H3 : Hp}
theorem rds_str : ∀ (cs : List Nat), RDs K G.bar H (cs.map fun c => V.str ⟨#[c]⟩) (cs.map fun c => .str ⟨#[c]⟩)
  | [] => .nil
  | c :: cs => .cons (.str _) (rds_str cs)
/-- what stands for data that has items; it stays while what B doesn't name stays -/
structure SrcD (K : PySem.W.Frag) (B : Addr → Prop) (G : Gh) (H : Hp) (v : V) (ds : List PyData) : Prop where
  ex : ∃ (q : Sq) (xs : List V), q.of v ∧ RDs K G.bar H xs ds ∧ q.is K H xs ∧ ∀ (q' : Sq) (H2 : Hp), q.like q' → (∀ a o, ¬ B a → H a = some o → H2 a = some o) → q'.is K H2 xs
theorem src_of {v : V} {d : PyData} {ds : List PyData} (r : RD K G.bar H v d) (h : itemsD d = some ds) : SrcD K G.bar G H v ds := by
  cases r with
  | lst r i => cases h; exact ⟨.l _, _, rfl, i, r.sq, fun q' H2 l k => l.is (r.imp (fun r => rd_keep k r.2 r.1) id)⟩
  | tup r i =>
    cases h
    exact ⟨.t _, _, rfl, i, r.sq, fun q' H2 l k => l.is (.inl (.inl (k _ _ r.2 r.1)))⟩
  | str x => cases h; exact ⟨.s x 0, _, rfl, rds_str _, rfl, fun q' H2 l k => l.is rfl⟩
  | non => cases h
  | bl b => cases h
  | int i => cases h
  | dK => cases h
  | dT => cases h
/-- .. of a value that is read at once: it stays while the store's objects alone are written -/
theorem src_t {v : V} {d : PyData} {ds : List PyData} (r : RT K G H v d) (h : itemsD d = some ds) : SrcD K (· ∈ G.L) G H v ds := by
  cases r with
  | of r =>
    obtain ⟨q, xs, h1, h2, h3, h4⟩ := src_of r h
    exact ⟨q, xs, h1, h2, h3, fun q' H2 l k => h4 q' H2 l fun a o n => k a o fun z => n (.inl z)⟩
  | lst r n i => cases h; exact ⟨.l _, _, rfl, i, .inl r, fun q' H2 l k => l.is (.inl (rd_keep k n r))⟩
  | dK => cases h
  | dT => cases h
/-- an iterator over data, while what B doesn't name stands as in H' -/
def WalkB (K : PySem.W.Frag) (B : Addr → Prop) (G' : Gh) (H' : Hp) (J : It) (xs : List PyData) : Prop :=
  Walk J xs.length (fun H2 => ∀ a o, ¬ B a → H' a = some o → H2 a = some o) (fun i H2 v H3 => Mono H2 H3 ∧ ∃ x, xs[i]? = some x ∧ ∀ B' : Addr → Prop, (∀ a, B' a → G'.bar a ∨ H' a = none) → (∀ a, B' a → H2 a ≠ none) → RD K B' H3 v x)
theorem walkD_of {J : It} {xs : List PyData} (w : WalkB K G.bar G H J xs) : WalkD K G H J xs := w
theorem sub_bar {B : Addr → Prop} (hB : ∀ a, B a → G.bar a) (k : ∀ a o, ¬ B a → H a = some o → H2 a = some o) : ∀ a o, ¬ G.bar a → H a = some o → H2 a = some o := fun a o n h => k a o (fun z => n (hB a z)) h
theorem walk_one {B : Addr → Prop} {v : V} {ds : List PyData} (hB : ∀ a, B a → G.bar a) (h : SrcD K B G H v ds) : (∃ a xs, v = V.ref a ∧ SqL K H a xs ∧ WalkB K B G H (Itl K a) ds) ∨ (∃ a xs, v = V.ref a ∧ SqT K H a xs ∧ WalkB K B G H (Itt K a) ds) ∨ (∃ z, v = V.str z ∧ WalkB K B G H (Its z) ds) := by
  obtain ⟨q, xs, ho, hr, hi, hst⟩ := h
  have hl := hr.length
  have yl : ∀ {i : Nat} {H2 : Hp} {v : V}, (∀ a o, ¬ B a → H a = some o → H2 a = some o) → xs[i]? = some v → ∃ x, ds[i]? = some x ∧ ∀ B' : Addr → Prop, (∀ a, B' a → G.bar a ∨ H a = none) → (∀ a, B' a → H2 a ≠ none) → RD K B' H2 v x := fun k e => by
    obtain ⟨d, h1, h2⟩ := hr.get' e
    exact ⟨d, h1, fun B' nb _ => h2.step (sub_bar hB k) nb⟩
  cases q with
  | l a =>
    refine .inl ⟨a, xs, ho, hi, ?_⟩
    unfold WalkB
    rw [← hl]
    exact walk_list.mono (fun H2 k => hst (.l a) H2 rfl k) fun i H2 x H3 _ k ⟨e, hx⟩ => by
      subst e
      exact ⟨Mono.refl, yl k hx⟩
  | t a =>
    refine .inr (.inl ⟨a, xs, ho, hi, ?_⟩)
    unfold WalkB
    rw [← hl]
    exact walk_tup.mono (fun H2 k => hst (.t a) H2 rfl k) fun i H2 x H3 _ k ⟨e, hx⟩ => by
      subst e
      exact ⟨Mono.refl, yl k hx⟩
  | s z t =>
    refine .inr (.inr ⟨z, ho, ?_⟩)
    have hx : xs = Sq.chars z := hi
    unfold WalkB
    rw [← hl, hx, show (Sq.chars z).length = z.cps.size by simp [Sq.chars]]
    exact walk_str.mono (fun H2 k => trivial) fun i H2 x H3 _ k ⟨e, c, hc, hx'⟩ => by
      subst e
      refine ⟨Mono.refl, yl k ?_⟩
      rw [hx, hx']
      unfold Sq.chars
      rw [List.getElem?_map, show z.cps.toList[i]? = some c by simpa using hc]
      rfl
theorem walk_enumB {B : Addr → Prop} {q : Sq} {xs : List V} {ds : List PyData} (hB : ∀ a, B a → G.bar a) (hr : RDs K G.bar H xs ds) (hst : ∀ (H2 : Hp), (∀ a o, ¬ B a → H a = some o → H2 a = some o) → q.is K H2 xs) : WalkB K B G H (Itqe K q) (enumD 0 ds) := by
  have hl := hr.length
  unfold WalkB
  rw [enumD_len, ← hl]
  refine walk_qe.mono (fun H2 k => hst H2 k) fun i H2 v H3 hi k ⟨T, x, y, e1, nT, e2, ex, ey⟩ => ?_
  subst e1 e2
  obtain ⟨d, h1, h2⟩ := hr.get' ey
  refine ⟨Mono.upd nT, _, by rw [enumD_get, h1]; rfl, fun B' nb al => .tup ⟨upd_same, fun z => al T z nT⟩ ?_⟩
  cases ex
  rw [Nat.zero_add]
  exact .cons (.int _) (.cons (h2.step (fun a o n h => Mono.upd nT a o (sub_bar hB k a o n h)) nb) .nil)
theorem walk_zipB {B : Addr → Prop} {q r : Sq} {xs ys : List V} {ds es : List PyData} (hB : ∀ a, B a → G.bar a) (hr : RDs K G.bar H xs ds) (hr' : RDs K G.bar H ys es) (hst : ∀ (H2 : Hp), (∀ a o, ¬ B a → H a = some o → H2 a = some o) → q.is K H2 xs)
    (hst' : ∀ (H2 : Hp), (∀ a o, ¬ B a → H a = some o → H2 a = some o) → r.is K H2 ys) : WalkB K B G H (Itqz K q r) (zipD ds es) := by
  have hl := hr.length
  have hl' := hr'.length
  unfold WalkB
  rw [zipD_len, ← hl, ← hl']
  refine walk_qz.mono (fun H2 k => ⟨hst H2 k, hst' H2 k⟩) fun i H2 v H3 hi k ⟨T, x, y, e1, nT, e2, ex, ey⟩ => ?_
  subst e1 e2
  obtain ⟨d, h1, h2⟩ := hr.get' ex
  obtain ⟨d', h1', h2'⟩ := hr'.get' ey
  have kk : ∀ a o, ¬ G.bar a → H a = some o → upd H2 T (.tup [x, y]) a = some o := fun a o n h => Mono.upd nT a o (sub_bar hB k a o n h)
  exact ⟨Mono.upd nT, _, zipD_get _ _ _ _ _ h1 h1', fun B' nb al => .tup ⟨upd_same, fun z => al T z nT⟩ (.cons (h2.step kk nb) (.cons (h2'.step kk nb) .nil))⟩
theorem walk_rangeB {B : Addr → Prop} {lo : Int} {n : Nat} : WalkB K B G H (Itr lo n) ((List.range n).map fun i => .int (lo + (i : Nat))) := by
  unfold WalkB
  rw [List.length_map, List.length_range]
  exact walk_range.mono (fun H2 k => trivial) fun i H2 v H3 hi k ⟨e1, e2⟩ => by
    subst e1 e2
    exact ⟨Mono.refl, _, by rw [List.getElem?_map, List.getElem?_range hi]; rfl, fun _ _ _ => .int _⟩
theorem walk_rangeCB {B : Addr → Prop} {lo c : Int} {n : Nat} : WalkB K B G H (Itc lo c n) ((List.range n).map fun i => .int (lo + (i : Nat) * c)) := by
  unfold WalkB
  rw [List.length_map, List.length_range]
  exact walk_rangeC.mono (fun H2 k => trivial) fun i H2 v H3 hi k ⟨e1, e2⟩ => by
    subst e1 e2
    exact ⟨Mono.refl, _, by rw [List.getElem?_map, List.getElem?_range hi]; rfl, fun _ _ _ => .int _⟩
end
end DL

namespace DL
open PySem PySem.Spec PyProof.Rows L2

def tIL (K : PySem.W.Frag) (mg : Str → Option Value) (Wx : WX) (env : Ev) (m : M (List PyData)) : TI := fun σ H R => GO K mg Wx env m (fun xs G' H' => ∀ J, WalkB K (· ∈ G'.L) G' H' J xs → R J H') σ H
/-- 0, 1, .. -/
def upto (lo : Int) (n : Nat) : List PyData := (List.range n).map fun i => .int (lo + (i : Nat))
def downto (hi : Int) (n : Nat) : List PyData := (List.range n).map fun i => .int (hi + (i : Nat) * (-1))
def inR (i : Int) : Bool := decide (-(2 ^ 62) ≤ i) && decide (i < 2 ^ 62)
theorem inR_ok {i : Int} (h : inR i = true) : -(2 ^ 62) ≤ i ∧ i < 2 ^ 62 := by
  unfold inR at h
  simp only [Bool.and_eq_true, decide_eq_true_eq] at h
  exact h
def range1 : PyData → Option (List PyData)
  | .int n => if inR n = true then some (upto 0 n.toNat) else none
  | _ => none
def range2 : PyData → PyData → Option (List PyData)
  | .int a, .int b => if inR a = true ∧ inR b = true then some (upto a (b - a).toNat) else none
  | _, _ => none
def range3 : PyData → PyData → PyData → Option (List PyData)
  | .int a, .int b, .int c => if inR a = true ∧ inR b = true ∧ c = -1 then some (downto a (a - b).toNat) else none
  | _, _, _ => none
section
variable {X : Cx} {Wx : WX} {env : Ev} {tg e e2 e3 : Expr} {K : PySem.W.Frag} {G : Gh} {H H2 H3 : Hp}
theorem PI.imp {w w' : TI} (h : PI X tg e w) (i : ∀ σ H R, w' σ H R → w σ H R) : PI X tg e w' := ⟨fun pins s σ H R I q => h.run pins s σ H R I (i σ H R q)⟩
theorem walkB_L {J : It} {xs : List PyData} (w : WalkB K G.bar G H J xs) : WalkB K (· ∈ G.L) G H J xs := Walk.mono w (fun H2 k a o n h => k a o (fun z => n (.inl z)) h) fun i H2 x H3 _ k y => y
theorem bar_L : ∀ a, a ∈ G.L → G.bar a := fun a h => .inl h
theorem bar_I : ∀ a, G.bar a → G.bar a := fun a h => h
theorem til {m : M (List PyData)} (h : PI X tg e (tI X.K X.mg Wx env m)) : PI X tg e (tIL X.K X.mg Wx env m) :=
  PI.imp h fun σ H R ⟨G, S, ss, se, h⟩ => ⟨G, S, ss, se, h.mono fun xs G' H' q J w => q J (walkB_L w)⟩
theorem lft_go {α : Type} {o : Option α} {K : PySem.W.Frag} {mg : Str → Option Value} {Wx : WX} {G : Gh} {H : Hp} {σ : L2.St} {S : Sto} {R : α → Gh → Hp → Prop} (h : Res K mg Wx G H σ (lft o S) R) (ss : SS K mg G S H) : ∃ a, o = some a ∧ R a G H := by
  unfold lft at h
  cases o with
  | none => exact h.elim
  | some a => exact ⟨a, rfl, h G.L H Ext.refl ss⟩
/-- for x in v -/
theorem ti_seq {m : M PyData} (he : PE X e (tD X.K X.mg Wx env m)) : PI X tg e (tI X.K X.mg Wx env (bnd m fun x => lft (itemsD x))) :=
  PI.imp (pi_sq he) fun σ H R ⟨G, S, ss, se, h⟩ => ⟨G, S, ss, se, h.bind fun x S1 L1 H1 _ e1 ss1 h1 v r => by
    obtain ⟨ds, q, hR⟩ := lft_go h1 ss1
    rcases walk_one bar_I (src_of r q) with ⟨a, xs, z1, z2, z3⟩ | ⟨a, xs, z1, z2, z3⟩ | ⟨a, z1, z3⟩
    · exact .inl ⟨a, xs, z1, z2, hR _ z3⟩
    · exact .inr (.inl ⟨a, xs, z1, z2, hR _ z3⟩)
    · exact .inr (.inr ⟨a, z1, hR _ z3⟩)⟩
theorem til_seq {m : M PyData} (he : PE X e (tT X.K X.mg Wx env m)) : PI X tg e (tIL X.K X.mg Wx env (bnd m fun x => lft (itemsD x))) :=
  PI.imp (pi_sq he) fun σ H R ⟨G, S, ss, se, h⟩ => ⟨G, S, ss, se, h.bind fun x S1 L1 H1 _ e1 ss1 h1 v r => by
    obtain ⟨ds, q, hR⟩ := lft_go h1 ss1
    rcases walk_one bar_L (src_t r q) with ⟨a, xs, z1, z2, z3⟩ | ⟨a, xs, z1, z2, z3⟩ | ⟨a, z1, z3⟩
    · exact .inl ⟨a, xs, z1, z2, hR _ z3⟩
    · exact .inr (.inl ⟨a, xs, z1, z2, hR _ z3⟩)
    · exact .inr (.inr ⟨a, z1, hR _ z3⟩)⟩
theorem ti_enum {m : M PyData} {p pos tpos : Pos} {elts : List Expr} {kk : Nat} (hg : Gl X "enumerate") (hm : X.mg "enumerate" = none) (he : PE X e (tD X.K X.mg Wx env m)) (na : starEach [e] X.env = (false, eval e X.env) :: starEach [] X.env := by rfl) (hs : starEach [e] X.env = [(false, eval e X.env)] := by rfl) :
    PI X (.Tuple elts kk tpos) (.Call (.Name "enumerate" p) [e] [] pos) (tI X.K X.mg Wx env (bnd m fun x => lft ((itemsD x).map (enumD 0)))) :=
  PI.imp (pi_qe hg hm (pa_cons he pa_nil na) hs) fun σ H R ⟨G, S, ss, se, h⟩ => ⟨G, S, ss, se, h.bind fun x S1 L1 H1 _ e1 ss1 h1 v r => by
    obtain ⟨ds, q, hR⟩ := lft_go h1 ss1
    obtain ⟨es, q1, rfl⟩ := Option.map_eq_some_iff.mp q
    obtain ⟨q, xs, z1, z2, z3, z4⟩ := src_of r q1
    exact ⟨v, xs, rfl, q, z1, z3, fun q' l => hR _ (walk_enumB bar_I z2 fun H2 k => z4 q' H2 l k)⟩⟩
theorem til_enum {m : M PyData} {p pos tpos : Pos} {elts : List Expr} {kk : Nat} (hg : Gl X "enumerate") (hm : X.mg "enumerate" = none) (he : PE X e (tT X.K X.mg Wx env m)) (na : starEach [e] X.env = (false, eval e X.env) :: starEach [] X.env := by rfl) (hs : starEach [e] X.env = [(false, eval e X.env)] := by rfl) :
    PI X (.Tuple elts kk tpos) (.Call (.Name "enumerate" p) [e] [] pos) (tIL X.K X.mg Wx env (bnd m fun x => lft ((itemsD x).map (enumD 0)))) :=
  PI.imp (pi_qe hg hm (pa_cons he pa_nil na) hs) fun σ H R ⟨G, S, ss, se, h⟩ => ⟨G, S, ss, se, h.bind fun x S1 L1 H1 _ e1 ss1 h1 v r => by
    obtain ⟨ds, q, hR⟩ := lft_go h1 ss1
    obtain ⟨es, q1, rfl⟩ := Option.map_eq_some_iff.mp q
    obtain ⟨q, xs, z1, z2, z3, z4⟩ := src_t r q1
    exact ⟨v, xs, rfl, q, z1, z3, fun q' l => hR _ (walk_enumB bar_L z2 fun H2 k => z4 q' H2 l k)⟩⟩
def zipO (x y : Option (List PyData)) : Option (List PyData) := match x, y with
  | some a, some b => some (zipD a b)
  | _, _ => none
theorem zipO_some {x y : Option (List PyData)} {z : List PyData} (h : zipO x y = some z) : ∃ a b, x = some a ∧ y = some b ∧ z = zipD a b := by
  cases x with
  | none => cases h
  | some a => cases y with
    | none => cases h
    | some b => exact ⟨a, b, rfl, rfl, (Option.some.inj h).symm⟩
theorem ti_zip {m m2 : M PyData} {p pos tpos : Pos} {elts : List Expr} {kk : Nat} (hg : Gl X "zip") (hm : X.mg "zip" = none) (he : PE X e (tD X.K X.mg Wx env m)) (he2 : PE X e2 (tD X.K X.mg Wx env m2))
    (na : starEach [e, e2] X.env = (false, eval e X.env) :: starEach [e2] X.env := by rfl) (nb : starEach [e2] X.env = (false, eval e2 X.env) :: starEach [] X.env := by rfl) (hpl : (backTo pos (starEach [e2] X.env)).any (·.1) = false := by rfl) :
    PI X (.Tuple elts kk tpos) (.Call (.Name "zip" p) [e, e2] [] pos) (tI X.K X.mg Wx env (bnd m fun x => bnd m2 fun y => lft (zipO (itemsD x) (itemsD y)))) :=
  PI.imp (pi_qz hg hm (pa_cons he (pa_cons he2 pa_nil nb) na) na hpl) fun σ H R ⟨G, S, ss, se, h⟩ => ⟨G, S, ss, se, h.bind fun x S1 L1 H1 _ e1 ss1 h1 v r =>
    ⟨_, S1, ss1, se.ext e1, h1.bind fun y S2 L2 H2 _ e2 ss2 h2 u ru => by
      obtain ⟨ds, q, hR⟩ := lft_go h2 ss2
      obtain ⟨a, b, q1, q2, rfl⟩ := zipO_some q
      obtain ⟨q, xs, z1, z2, z3, z4⟩ := src_of (r.ext e2) q1
      obtain ⟨q', xs', y1, y2, y3, y4⟩ := src_of ru q2
      exact ⟨v, u, xs, xs', rfl, q, q', z1, z3, y1, y3, fun q1 q2 l1 l2 => hR _ (walk_zipB bar_I z2 y2 (fun H2 k => z4 q1 H2 l1 k) fun H2 k => y4 q2 H2 l2 k)⟩⟩⟩
theorem til_zip {m m2 : M PyData} {p pos tpos : Pos} {elts : List Expr} {kk : Nat} (hg : Gl X "zip") (hm : X.mg "zip" = none) (he : PE X e (tT X.K X.mg Wx env m)) (he2 : PE X e2 (tT X.K X.mg Wx env m2))
    (na : starEach [e, e2] X.env = (false, eval e X.env) :: starEach [e2] X.env := by rfl) (nb : starEach [e2] X.env = (false, eval e2 X.env) :: starEach [] X.env := by rfl) (hpl : (backTo pos (starEach [e2] X.env)).any (·.1) = false := by rfl) :
    PI X (.Tuple elts kk tpos) (.Call (.Name "zip" p) [e, e2] [] pos) (tIL X.K X.mg Wx env (bnd m fun x => bnd m2 fun y => lft (zipO (itemsD x) (itemsD y)))) :=
  PI.imp (pi_qz hg hm (pa_cons he (pa_cons he2 pa_nil nb) na) na hpl) fun σ H R ⟨G, S, ss, se, h⟩ => ⟨G, S, ss, se, h.bind fun x S1 L1 H1 _ e1 ss1 h1 v r =>
    ⟨_, S1, ss1, se.ext e1, h1.bind fun y S2 L2 H2 _ e2 ss2 h2 u ru => by
      obtain ⟨ds, q, hR⟩ := lft_go h2 ss2
      obtain ⟨a, b, q1, q2, rfl⟩ := zipO_some q
      obtain ⟨q, xs, z1, z2, z3, z4⟩ := src_t (r.ext e2) q1
      obtain ⟨q', xs', y1, y2, y3, y4⟩ := src_t ru q2
      exact ⟨v, u, xs, xs', rfl, q, q', z1, z3, y1, y3, fun q1 q2 l1 l2 => hR _ (walk_zipB bar_L z2 y2 (fun H2 k => z4 q1 H2 l1 k) fun H2 k => y4 q2 H2 l2 k)⟩⟩⟩
theorem ti_range1 {m : M PyData} {p pos : Pos} (hg : Gl X "range") (hm : X.mg "range" = none) (he : PE X e (tD X.K X.mg Wx env m)) (na : starEach [e] X.env = (false, eval e X.env) :: starEach [] X.env := by rfl) (hs : starEach [e] X.env = [(false, eval e X.env)] := by rfl) :
    PI X tg (.Call (.Name "range" p) [e] [] pos) (tI X.K X.mg Wx env (bnd m fun x => lft (range1 x))) :=
  PI.imp (pi_range1 hg hm (pa_cons he pa_nil na) hs) fun σ H R ⟨G, S, ss, se, h⟩ => ⟨G, S, ss, se, h.bind fun x S1 L1 H1 _ e1 ss1 h1 v r => by
    obtain ⟨ds, q, hR⟩ := lft_go h1 ss1
    cases r with
    | int n =>
      simp only [range1] at q
      split at q
      · cases q
        rename_i hb
        obtain ⟨b1, b2⟩ := inR_ok hb
        exact ⟨n, rfl, b1, b2, hR _ walk_rangeB⟩
      · cases q
    | _ => cases q⟩
theorem ti_range2 {m m2 : M PyData} {p pos : Pos} (hg : Gl X "range") (hm : X.mg "range" = none) (he : PE X e (tD X.K X.mg Wx env m)) (he2 : PE X e2 (tD X.K X.mg Wx env m2)) (na : starEach [e, e2] X.env = (false, eval e X.env) :: starEach [e2] X.env := by rfl) (nb : starEach [e2] X.env = (false, eval e2 X.env) :: starEach [] X.env := by rfl)
    (hs : starEach [e, e2] X.env = [(false, eval e X.env), (false, eval e2 X.env)] := by rfl) (hs2 : starEach [e2] X.env = [(false, eval e2 X.env)] := by rfl) :
    PI X tg (.Call (.Name "range" p) [e, e2] [] pos) (tI X.K X.mg Wx env (bnd m fun x => bnd m2 fun y => lft (range2 x y))) :=
  PI.imp (pi_range2 hg hm (pa_cons he (pa_cons he2 pa_nil nb) na) hs hs2) fun σ H R ⟨G, S, ss, se, h⟩ => ⟨G, S, ss, se, h.bind fun x S1 L1 H1 _ e1 ss1 h1 v r =>
    ⟨_, S1, ss1, se.ext e1, h1.bind fun y S2 L2 H2 _ e2 ss2 h2 u ru => by
      obtain ⟨ds, q, hR⟩ := lft_go h2 ss2
      cases r with
      | int i =>
        cases ru with
        | int j =>
          simp only [range2] at q
          split at q
          · cases q
            rename_i hb
            obtain ⟨b1, b2⟩ := inR_ok hb.1
            obtain ⟨b3, b4⟩ := inR_ok hb.2
            exact ⟨i, j, rfl, ⟨b1, b2, b3, b4⟩, hR _ walk_rangeB⟩
          · cases q
        | _ => cases q
      | _ => cases q⟩⟩
theorem ti_range3 {m m2 m3 : M PyData} {p pos : Pos} (hg : Gl X "range") (hm : X.mg "range" = none) (he : PE X e (tD X.K X.mg Wx env m)) (he2 : PE X e2 (tD X.K X.mg Wx env m2)) (he3 : PE X e3 (tD X.K X.mg Wx env m3))
    (hp : ∀ {ta : TA}, PA X [e, e2, e3] ta → PI X tg (.Call (.Name "range" p) [e, e2, e3] [] pos) (iRng3 ta))
    (na : starEach [e, e2, e3] X.env = (false, eval e X.env) :: starEach [e2, e3] X.env := by rfl) (nb : starEach [e2, e3] X.env = (false, eval e2 X.env) :: starEach [e3] X.env := by rfl) (nc : starEach [e3] X.env = (false, eval e3 X.env) :: starEach [] X.env := by rfl) :
    PI X tg (.Call (.Name "range" p) [e, e2, e3] [] pos) (tI X.K X.mg Wx env (bnd m fun x => bnd m2 fun y => bnd m3 fun z => lft (range3 x y z))) :=
  PI.imp (hp (pa_cons he (pa_cons he2 (pa_cons he3 pa_nil nc) nb) na)) fun σ H R ⟨G, S, ss, se, h⟩ => ⟨G, S, ss, se, h.bind fun x S1 L1 H1 _ e1 ss1 h1 v r =>
    ⟨_, S1, ss1, se.ext e1, h1.bind fun y S2 L2 H2 _ e2 ss2 h2 u ru => ⟨_, S2, ss2, (se.ext e1).ext e2, h2.bind fun z S3 L3 H3 _ e3 ss3 h3 t rt => by
      obtain ⟨ds, q, hR⟩ := lft_go h3 ss3
      cases r with
      | int i =>
        cases ru with
        | int j =>
          cases rt with
          | int c =>
            simp only [range3] at q
            split at q
            · cases q
              rename_i hb
              obtain ⟨b0, b1, rfl⟩ := hb
              obtain ⟨b1, b2⟩ := inR_ok b0
              obtain ⟨b3, b4⟩ := inR_ok ‹inR j = true›
              exact ⟨i, j, -1, (i - j).toNat, rfl, RgC.neg b1 b2 b3 b4, hR _ walk_rangeCB⟩
            · cases q
          | _ => cases q
        | _ => cases q
      | _ => cases q⟩⟩⟩
end
end DL

namespace DL
open PySem PySem.Spec PyProof.Rows L2

/-! ### comprehensions -/
def compL (f : PyData → M (Option PyData)) : List PyData → M (List PyData)
  | [] => ret []
  | x :: xs => bnd (f x) fun o => bnd (compL f xs) fun ys => ret (o.toList ++ ys)
def noExc {α : Type} (m : M α) : M α := fun S => match m S with
  | .ok a S' => .ok a S'
  | _ => .bad
theorem bnd_ok {α β : Type} {m : M α} {f : α → M β} {S S' : Sto} {a : α} (h : m S = .ok a S') : bnd m f S = f a S' := by unfold bnd; rw [h]
theorem bnd_bad {α β : Type} {m : M α} {f : α → M β} {S : Sto} (h : m S = .bad) : bnd m f S = .bad := by unfold bnd; rw [h]
theorem bnd_exc {α β : Type} {m : M α} {f : α → M β} {S S' : Sto} {c : Str} (h : m S = .exc c S') : bnd m f S = .exc c S' := by unfold bnd; rw [h]
theorem bnd_assoc {α β γ : Type} (m : M α) (f : α → M β) (g : β → M γ) : bnd (bnd m f) g = bnd m fun x => bnd (f x) g := by
  funext S
  unfold bnd
  cases m S <;> rfl
theorem noExc_ok {α : Type} {m : M α} {S S' : Sto} {a : α} (h : m S = .ok a S') : noExc m S = .ok a S' := by unfold noExc; rw [h]
theorem noExc_bad {α : Type} {m : M α} {S : Sto} (h : m S = .bad) : noExc m S = .bad := by unfold noExc; rw [h]
theorem noExc_exc {α : Type} {m : M α} {S S' : Sto} {c : Str} (h : m S = .exc c S') : noExc m S = .bad := by unfold noExc; rw [h]
/-- the whole, of at most so many items -/
def comp (f : PyData → M (Option PyData)) (xs : List PyData) : M (List PyData) := if xs.length ≤ sizeLine then compL (fun x => noExc (f x)) xs else bad
def mapC (f : PyData → M PyData) (xs : List PyData) : M (List PyData) := comp (fun x => bnd (f x) fun y => ret (some y)) xs
def filC (c : PyData → M Bool) (f : PyData → M PyData) (xs : List PyData) : M (List PyData) := comp (fun x => bnd (c x) fun b => if b = true then bnd (f x) fun y => ret (some y) else ret none) xs
abbrev WF : WX := fun _ _ _ _ => False
def wipeE (env : Ev) : List Nat → Ev
  | [] => env
  | v :: vs => (wipeE env vs).set v none
theorem wipeE_le (env : Ev) : ∀ vs, EvLe (wipeE env vs) env
  | [] => EvLe.refl
  | v :: vs => by
    have h := wipeE_le env vs
    refine ⟨by show ((wipeE env vs).set v none).length = _; rw [List.length_set]; exact h.1, fun i x e => ?_⟩
    have e' : ((wipeE env vs).set v none)[i]? = some (some x) := e
    by_cases q : v = i
    · subst q
      by_cases hv : v < (wipeE env vs).length
      · rw [List.getElem?_set_self hv] at e'; cases e'
      · rw [List.getElem?_eq_none (by simpa using hv)] at e'; cases e'
    · rw [List.getElem?_set_ne q] at e'
      exact h.2 i x e'
theorem wipeE_no (env : Ev) : ∀ (vs : List Nat) (i : Nat) (x : En), (wipeE env vs)[i]? = some (some x) → i ∉ vs
  | [], _, _, _ => by simp
  | v :: vs, i, x, e => by
    have e' : ((wipeE env vs).set v none)[i]? = some (some x) := e
    by_cases q : v = i
    · subst q
      by_cases hv : v < (wipeE env vs).length
      · rw [List.getElem?_set_self hv] at e'; cases e'
      · rw [List.getElem?_eq_none (by simpa using hv)] at e'; cases e'
    · rw [List.getElem?_set_ne q] at e'
      have h := wipeE_no env vs i x e'
      simp only [List.mem_cons, not_or]
      exact ⟨fun z => q z.symm, h⟩
theorem wipe_get {σ : L2.St} : ∀ {vs : List Nat} {i : Nat}, i ∉ vs → (wipe σ vs)[i]? = σ[i]?
  | [], _, _ => rfl
  | v :: vs, i, h => by
    simp only [List.mem_cons, not_or] at h
    show ((wipe σ vs).set v none)[i]? = _
    rw [List.getElem?_set_ne (fun z => h.1 z.symm)]
    exact wipe_get h.2
theorem wipe_none {σ : L2.St} : ∀ {vs : List Nat} {i : Nat}, i ∈ vs → i < σ.length → (wipe σ vs)[i]? = some none
  | v :: vs, i, h, hi => by
    show ((wipe σ vs).set v none)[i]? = _
    by_cases q : v = i
    · subst q
      rw [List.getElem?_set_self (by rw [wipe_length]; exact hi)]
    · rw [List.getElem?_set_ne q]
      rcases List.mem_cons.mp h with z | z
      · exact absurd z.symm q
      · exact wipe_none z hi
theorem wipe_ext {σ σ' : L2.St} {vs : List Nat} (hl : σ'.length = σ.length) (h : ∀ i, i ∉ vs → σ'[i]? = σ[i]?) : wipe σ' vs = wipe σ vs := by
  apply List.ext_getElem?
  intro i
  by_cases hi : i ∈ vs
  · by_cases q : i < σ.length
    · rw [wipe_none hi q, wipe_none hi (by rw [hl]; exact q)]
    · rw [List.getElem?_eq_none (by rw [wipe_length, hl]; omega), List.getElem?_eq_none (by rw [wipe_length]; omega)]
  · rw [wipe_get hi, wipe_get hi, h i hi]
theorem wipe_wipe {σ : L2.St} {vs : List Nat} : wipe (wipe σ vs) vs = wipe σ vs := wipe_ext (wipe_length σ vs) fun i h => wipe_get h
/-- a comprehension's target: vs its names' places -/
def CG (X : Cx) (tg : Expr) (scope : Scope) (vs : List Nat) (fe : Ev → PyData → Option Ev) : Prop :=
  ∃ g, (∀ (s : Shared) (H : Hp) (C : Addr) (cl : List (Str × Addr)) (fp : List Addr), PG (X.blk s H scope (compEnvC scope cl C X.env) fp) tg g) ∧
    ∀ (G : Gh) (env env' : Ev) (σ : L2.St) (H : Hp) (v : V) (x : PyData) (Q : L2.St → Hp → Prop), SE X.K X.mg G env σ H → RD X.K G.bar H v x → fe env x = some env' → (∀ σ', wipe σ' vs = wipe σ vs → SE X.K X.mg G env' σ' H → Q σ' H) → g v σ H Q
section
variable {X : Cx} {Wx : WX} {env : Ev} {tg iter elt : Expr} {pos : Pos} {scope : Scope} {own : List (Str × Nat)}
theorem SE.wipe {K : PySem.W.Frag} {mg : Str → Option Value} {G : Gh} {σ : L2.St} {H : Hp} (h : SE K mg G env σ H) (vs : List Nat) : SE K mg G (wipeE env vs) (L2.wipe σ vs) H := by
  have le := wipeE_le env vs
  refine ⟨by rw [wipe_length, h.len, le.1], h.olen.trans le.1.symm, fun i w e => ?_, fun i o e => ?_, h.dist, h.out, h.there⟩
  · obtain ⟨v, h1, h2⟩ := h.val i w (le.2 i _ e)
    exact ⟨v, by rw [wipe_get (wipeE_no env vs i _ e)]; exact h1, h2⟩
  · obtain ⟨a, h1, h2⟩ := h.own i o (le.2 i _ e)
    exact ⟨a, by rw [wipe_get (wipeE_no env vs i _ e)]; exact h1, h2⟩
/-- a longer store, other bars -/
structure Mv (G : Gh) (H : Hp) (G' : Gh) (H' : Hp) : Prop where
  pre : G.L <+: G'.L
  keep : ∀ a o, ¬ G.bar a → H a = some o → H' a = some o
  new : ∀ a, G'.bar a → G.bar a ∨ H a = none
section
variable {K : PySem.W.Frag} {mg : Str → Option Value} {G G' : Gh} {σ : L2.St} {H H' : Hp}
theorem RW.mv {v : V} {w : W} (h : RW K mg G H v w) (e : Mv G H G' H') : RW K mg G' H' v w := by
  cases w with
  | d x => exact RD.step e.keep e.new (show RD K G.bar H v x from h)
  | r n =>
    obtain ⟨a, h1, h2⟩ := h
    exact ⟨a, pre_get e.pre h1, h2⟩
  | g x => exact h
  | o c fs =>
    obtain ⟨a, C, dx, vs, rfl, n, hc, ha, hk, hr⟩ := h
    exact ⟨a, C, dx, vs, rfl, notB e.new n (by rw [ha]; simp), hc, e.keep _ _ n ha, hk, hr.step e.keep e.new⟩
theorem RWs.mv (e : Mv G H G' H') : ∀ {vs : List V} {ws : List W}, RWs K mg G H vs ws → RWs K mg G' H' vs ws
  | _, _, .nil => .nil
  | _, _, .cons a b => .cons (a.mv e) (b.mv e)
theorem RC.mv {u : HO} {o : Ob} (h : RC K mg G H u o) (e : Mv G H G' H') : RC K mg G' H' u o := by
  cases o with
  | lst ds =>
    obtain ⟨vs, h1, h2⟩ := h
    exact ⟨vs, h1, h2.step e.keep e.new⟩
  | dK ds =>
    obtain ⟨vs, h1, h2, h3⟩ := h
    exact ⟨vs, h1, h2, h3.step e.keep e.new⟩
  | dT ds =>
    obtain ⟨vs, h1, h2, h3⟩ := h
    exact ⟨vs, h1, h2, h3.step e.keep e.new⟩
  | ins c fs =>
    obtain ⟨C, dx, vs, h0, h1, h2, h3⟩ := h
    exact ⟨C, dx, vs, h0, h1, h2, RWs.mv e h3⟩
theorem SE.mv {env : Ev} (h : SE K mg G env σ H) (e : Mv G H G' H') (hO : G'.O = G.O) (hk : ∀ a o, some a ∈ G.O → H a = some o → H' a = some o) (hout : ∀ a, some a ∈ G.O → a ∉ G'.L ∧ ¬ G'.C a) (ht : ∀ a, G'.bar a → Th H' a) : SE K mg G' env σ H' := by
  refine ⟨h.len, by rw [hO]; exact h.olen, fun i w q => ?_, fun i o q => ?_, by rw [hO]; exact h.dist, fun i a q => ?_, ht⟩
  · obtain ⟨v, h1, h2⟩ := h.val i w q
    exact ⟨v, h1, h2.mv e⟩
  · obtain ⟨a, h1, h2, u, h3, h4⟩ := h.own i o q
    exact ⟨a, h1, by rw [hO]; exact h2, u, hk a u (List.mem_of_getElem? h2) h3, h4.mv e⟩
  · rw [hO] at q
    exact hout a (List.mem_of_getElem? q)
end
def erase (H : Hp) (D : Addr) : Hp := fun a => if a = D then none else H a
theorem erase_ne {H : Hp} {D a : Addr} (h : a ≠ D) : erase H D a = H a := if_neg h
theorem thE {H : Hp} {D a : Addr} (n : a ≠ D) (h : Th H a) : Th (erase H D) a := ⟨by rw [erase_ne n]; exact h.1, fun xs => by rw [erase_ne n]; exact h.2 xs⟩
theorem erase_same {H : Hp} {D : Addr} : erase H D D = none := if_pos rfl
abbrev Gh.with (G : Gh) (L : List Addr) (D : Addr) : Gh := ⟨L, fun a => G.C a ∨ a = D, G.O⟩
theorem pts_any {X : Cx} {ι : Type} {ifs : List Expr} {t : ι → TT} (h : ∀ i, PTs X ifs (t i)) : PTs X ifs (fun σ H Q => ∃ i, t i σ H Q) := ⟨fun pins s σ H Q I ⟨i, q⟩ => (h i).run pins s σ H Q I q⟩
theorem pe_any {X : Cx} {ι : Type} {e : Expr} {t : ι → TE} (h : ∀ i, PE X e (t i)) : PE X e (fun σ H Q => ∃ i, t i σ H Q) := ⟨fun pins s σ H Q I ⟨i, q⟩ => (h i).run pins s σ H Q I q⟩
/-- a comprehension's turns -/
theorem lc_key {mi : M (List PyData)} {mc : PyData → M Bool} {me : PyData → M PyData} {fe : Ev → PyData → Option Ev} {g : TG} (vs : List Nat)
    (hgv : ∀ (G : Gh) (env env' : Ev) (σ : L2.St) (H : Hp) (v : V) (x : PyData) (Q : L2.St → Hp → Prop), SE X.K X.mg G env σ H → RD X.K G.bar H v x → fe env x = some env' → (∀ σ', wipe σ' vs = wipe σ vs → SE X.K X.mg G env' σ' H → Q σ' H) → g v σ H Q)
    (hno : ∀ x, fe (wipeE env vs) x = none → ∀ S, mc x S = .bad) : ∀ σ H Q, tF X.K X.mg Wx env Ob.lst (bnd mi fun xs => filC mc me xs) σ H Q →
      tLc (tIL X.K X.mg Wx env mi) g (fun σ H Q => ∃ i : { p : PyData × Ev // fe (wipeE env vs) p.1 = some p.2 }, tQ X.K X.mg WF i.1.2 (mc i.1.1) σ H Q) (fun σ H Q => ∃ i : { p : PyData × Ev // fe (wipeE env vs) p.1 = some p.2 }, tD X.K X.mg WF i.1.2 (me i.1.1) σ H Q) vs σ H Q := by
  intro σ H Q ⟨G, S, ss, se, h⟩
  refine ⟨G, S, ss, se, h.bind fun xs S1 L1 H1 _ e1 ss1 h1 J w D hD => ?_⟩
  have se1 := se.ext e1
  have h1 : Res X.K X.mg Wx (G.to L1) H1 σ (filC mc me xs S1) (fun ys G' H' => ∀ p u H2, H' p = none → RC X.K X.mg G' H' u (Ob.lst ys) → Mono H' H2 → H2 p = some u → Q (V.ref p) H2) := h1
  unfold filC comp at h1
  by_cases hsz : xs.length ≤ sizeLine
  · rw [if_pos hsz] at h1
    generalize hff : (fun x => noExc (bnd (mc x) fun b => if b = true then bnd (me x) fun y => ret (some y) else ret none)) = ff at h1
    have hDL : D ∉ L1 := fun z => (se1.there D (.inl z)).1 hD
    have dn : ∀ {a : Addr} {o : HO}, H1 a = some o → a ≠ D := fun e z => by rw [z, hD] at e; cases e
    -- the slots at each turn
    have seM : ∀ {L2 : List Addr} {H2 : Hp} {S2 : Sto}, Ext (G.to L1) H1 L2 H2 → D ∉ L2 → SS X.K X.mg (G.with L2 D) S2 H2 → Th H2 D → SE X.K X.mg (G.with L2 D) env σ H2 := fun {L2 H2 S2} ex nD ss2 hd => by
      refine se1.mv ⟨ex.pre, ex.bar_keep, fun a ha => ?_⟩ rfl (fun a o ho q => ?_) (fun a ho => ?_) (fun a ha => ?_)
      · rcases ha with ha | (ha | ha) | ha
        · rcases ex.new a ha with z | z
          · exact .inl (.inl z)
          · exact .inr z.1
        · exact .inl (.inr (.inl ha))
        · rw [ha]; exact .inr hD
        · exact .inl (.inr (.inr ha))
      · obtain ⟨i, hi, e⟩ := List.mem_iff_getElem.mp ho
        exact ex.keep a o (se1.out i a (by rw [List.getElem?_eq_getElem hi, e])).1 q
      · obtain ⟨i, hi, e⟩ := List.mem_iff_getElem.mp ho
        have oo := se1.out i a (by rw [List.getElem?_eq_getElem hi, e])
        refine ⟨fun z => ?_, fun z => ?_⟩
        · rcases ex.new a z with z | z
          · exact oo.1 z
          · exact (se1.there a (.inr (.inr ho))).1 z.1
        · rcases z with z | z
          · exact oo.2 z
          · exact (se1.there a (.inr (.inr ho))).1 (by rw [z]; exact hD)
      · rcases ha with ha | (ha | ha) | ha
        · rcases ex.new a ha with z | z
          · exact ex.th a (se1.there a (.inl z))
          · exact z.2
        · exact ex.th a (se1.there a (.inr (.inl ha)))
        · rw [ha]; exact hd
        · exact ex.th a (se1.there a (.inr (.inr ha)))
    refine lc_it (g := g) (tt := fun σ H Q => ∃ i : { p : PyData × Ev // fe (wipeE env vs) p.1 = some p.2 }, tQ X.K X.mg WF i.1.2 (mc i.1.1) σ H Q) (te := fun σ H Q => ∃ i : { p : PyData × Ev // fe (wipeE env vs) p.1 = some p.2 }, tD X.K X.mg WF i.1.2 (me i.1.1) σ H Q) (vs := vs) (σ := σ) (H1 := H1) (D := D) (Qd := fun H => Q (V.ref D) H) w (fun i H2 => ∃ L2 S2 acc accV, Ext (G.to L1) H1 L2 H2 ∧ D ∉ L2 ∧ SS X.K X.mg (G.with L2 D) S2 H2 ∧ H2 D = some (.lst accV) ∧ RDs X.K (G.with L2 D).bar H2 accV acc ∧ acc.length ≤ i ∧
      Res X.K X.mg Wx (G.to L1) H1 σ (bnd (compL ff (xs.drop i)) (fun ys => ret (acc ++ ys)) S2) (fun ys G' H' => ∀ p u H2, H' p = none → RC X.K X.mg G' H' u (Ob.lst ys) → Mono H' H2 → H2 p = some u → Q (V.ref p) H2)) ?_ ?_ ?_ ?_
    · refine ⟨L1, S1, [], [], (Mono.upd hD).ext (G := G.to L1), hDL, ss1.stp ⟨rfl, fun a o _ q => Mono.upd hD a o q, fun a o _ q => Mono.upd hD a o q, fun a ha => ?_⟩, upd_same, .nil, Nat.zero_le _, ?_⟩
      · rcases ha with ha | (ha | ha) | ha
        · exact .inl (.inl ha)
        · exact .inl (.inr (.inl ha))
        · rw [ha]; exact .inr hD
        · exact .inl (.inr (.inr ha))
      · have e : bnd (compL ff (xs.drop 0)) (fun ys => ret ([] ++ ys)) S1 = compL ff xs S1 := by
          rw [List.drop_zero]
          unfold DL.bnd ret
          cases compL ff xs S1 <;> rfl
        rw [e]
        exact h1
    · rintro i H2 hi ⟨L2, S2, acc, accV, ex, _⟩
      exact fun a o n q => ex.keep a o n q
    · rintro i v H2 H3 hi ⟨L2, S2, acc, accV, ex, nD, ss2, hd, ra, al, hr⟩ ⟨m, x, ex', rx⟩
      have ss3 : SS X.K X.mg (G.with L2 D) S2 H3 := ss2.mono m
      have ex3 : Ext (G.to L1) H1 L2 H3 := ex.trans (m.ext (G := G.to L2))
      have hd3 : H3 D = some (.lst accV) := m _ _ hd
      have ra3 : RDs X.K (G.with L2 D).bar H3 accV acc := ra.mono (G := G.with L2 D) m
      have se3 := seM ex3 nD ss3 (Th.new (fun _ z => by cases z) hd3)
      have rd : RD X.K (G.with L2 D).bar H3 v x := rx _ (fun a ha => by
        rcases ha with ha | (ha | ha) | ha
        · rcases ex.new a ha with z | z
          · exact .inl (.inl z)
          · exact .inr z.1
        · exact .inl (.inr (.inl ha))
        · rw [ha]; exact .inr hD
        · exact .inl (.inr (.inr ha))) fun a ha => ((seM ex nD ss2 (Th.new (fun _ z => by cases z) hd)).there a ha).1
      have ed : xs.drop i = x :: xs.drop (i + 1) := by
        rw [List.drop_eq_getElem_cons hi]
        rw [List.getElem?_eq_getElem hi] at ex'
        rw [Option.some.inj ex']
      rw [ed] at hr
      have hfx : ff x = noExc (bnd (mc x) fun b => if b = true then bnd (me x) fun y => ret (some y) else ret none) := by rw [← hff]
      have hr : Res X.K X.mg Wx (G.to L1) H1 σ (bnd (bnd (noExc (bnd (mc x) fun b => if b = true then bnd (me x) fun y => ret (some y) else ret none)) fun o => bnd (compL ff (xs.drop (i + 1))) fun ys => ret (o.toList ++ ys)) (fun ys => ret (acc ++ ys)) S2) (fun ys G' H' => ∀ p u H2, H' p = none → RC X.K X.mg G' H' u (Ob.lst ys) → Mono H' H2 → H2 p = some u → Q (V.ref p) H2) := by
        rw [← hfx]
        exact hr
      have hr : Res X.K X.mg Wx (G.to L1) H1 σ (bnd (noExc (bnd (mc x) fun b => if b = true then bnd (me x) fun y => ret (some y) else ret none)) (fun o => bnd (compL ff (xs.drop (i + 1))) fun ys => ret (acc ++ (o.toList ++ ys))) S2) (fun ys G' H' => ∀ p u H2, H' p = none → RC X.K X.mg G' H' u (Ob.lst ys) → Mono H' H2 → H2 p = some u → Q (V.ref p) H2) := by
        rw [bnd_assoc, show (fun o : Option PyData => bnd (bnd (compL ff (xs.drop (i + 1))) fun ys => ret (o.toList ++ ys)) fun ys => ret (acc ++ ys)) = fun o => bnd (compL ff (xs.drop (i + 1))) fun ys => ret (acc ++ (o.toList ++ ys)) from funext fun o => bnd_assoc _ _ _] at hr
        exact hr
      -- the rest of the whole, behind this turn
      have back : ∀ {L4 : List Addr} {H4 : Hp} {S4 : Sto}, Ext (G.with L2 D) H3 L4 H4 → SS X.K X.mg (G.with L4 D) S4 H4 → Ext (G.to L1) H1 L4 H4 ∧ D ∉ L4 ∧ H4 D = some (.lst accV) ∧ RDs X.K (G.with L4 D).bar H4 accV acc := fun {L4 H4 S4} e4 ss4 => by
        refine ⟨ex3.trans ⟨e4.pre, e4.keep, e4.new, e4.mono, e4.th⟩, fun z => ?_, e4.keep _ _ nD hd3, ra3.ext e4⟩
        rcases e4.new D z with q | q
        · exact nD q
        · rw [hd3] at q; cases q.1
      cases ee : fe (wipeE env vs) x with
      | none =>
        rw [bnd_bad (noExc_bad (bnd_bad (hno x ee S2)))] at hr
        exact hr.elim
      | some env' =>
        refine hgv _ _ env' _ H3 v x _ (se3.wipe vs) rd ee fun σ4 hw se4 => ⟨by rw [hw, wipe_wipe], ⟨⟨(x, env'), ee⟩, _, S2, ss3, se4, ?_⟩⟩
        show Res X.K X.mg WF (G.with L2 D) H3 σ4 (mc x S2) _
        cases q : mc x S2 with
        | bad =>
          rw [bnd_bad (noExc_bad (bnd_bad q))] at hr
          exact hr.elim
        | exc c S3 =>
          rw [bnd_bad (noExc_exc (bnd_exc q))] at hr
          exact hr.elim
        | ok b S3 =>
          intro L4 H4 e4 ss4
          obtain ⟨b1, b2, b3, b4⟩ := back e4 ss4
          cases b with
          | false =>
            have q1 : (bnd (mc x) fun b => if b = true then bnd (me x) fun y => ret (some y) else ret none) S2 = .ok none S3 := bnd_ok q
            rw [bnd_ok (noExc_ok q1)] at hr
            show if false = true then _ else _
            rw [if_neg Bool.false_ne_true]
            refine ⟨L4, S3, acc, accV, b1, b2, ss4, b3, b4, by omega, ?_⟩
            cases q2 : compL ff (xs.drop (i + 1)) S3 with
            | bad =>
              rw [bnd_bad q2] at hr
              exact hr.elim
            | exc c S4 =>
              rw [bnd_exc q2] at hr
              rw [bnd_exc q2]
              exact hr
            | ok zs S4 =>
              rw [bnd_ok q2] at hr
              rw [bnd_ok q2]
              exact hr
          | true =>
            show if true = true then _ else _
            rw [if_pos rfl]
            refine ⟨⟨(x, env'), ee⟩, _, S3, ss4, se4.ext e4, ?_⟩
            show Res X.K X.mg WF (G.with L4 D) H4 σ4 (me x S3) _
            cases q2 : me x S3 with
            | bad =>
              have q1 : (bnd (mc x) fun b => if b = true then bnd (me x) fun y => ret (some y) else ret none) S2 = .bad := (bnd_ok q).trans (bnd_bad q2)
              rw [bnd_bad (noExc_bad q1)] at hr
              exact hr.elim
            | exc c S5 =>
              have q1 : (bnd (mc x) fun b => if b = true then bnd (me x) fun y => ret (some y) else ret none) S2 = .exc c S5 := (bnd_ok q).trans (bnd_exc q2)
              rw [bnd_bad (noExc_exc q1)] at hr
              exact hr.elim
            | ok y S5 =>
              intro L5 H5 e5 ss5 u ru
              have e45 : Ext (G.with L2 D) H3 L5 H5 := e4.trans e5
              obtain ⟨c1, c2, c3, c4⟩ := back e45 ss5
              have q1 : (bnd (mc x) fun b => if b = true then bnd (me x) fun y => ret (some y) else ret none) S2 = .ok (some y) S5 := (bnd_ok q).trans (bnd_ok q2)
              rw [bnd_ok (noExc_ok q1)] at hr
              refine ⟨accV, c3, by have := c4.length; omega, L5, S5, acc ++ [y], accV ++ [u], ?_, c2, ?_, upd_same, ?_, by simp; omega, ?_⟩
              · refine ⟨c1.pre, fun a o n q => ?_, fun a ha => ?_, fun a ha => ?_, fun a ha => (c1.th a ha).upd fun _ z => by cases z⟩
                · rw [upd_ne (dn q)]; exact c1.keep a o n q
                · exact (c1.new a ha).imp id fun q => ⟨q.1, q.2.upd fun _ z => by cases z⟩
                · unfold upd
                  split
                  · simp
                  · exact c1.mono a ha
              · refine ss5.stp ⟨rfl, fun a o n q => ?_, fun a o n q => ?_, fun a ha => .inl ha⟩
                · rw [upd_ne (fun z => n (.inr (.inl (.inr z))))]; exact q
                · rw [upd_ne (fun z => c2 (by rw [← z]; exact n))]; exact q
              · exact (c4.append (.cons ru .nil)).step (fun a o n q => by rw [upd_ne (fun z => n (.inr (.inl (.inr z))))]; exact q) fun a ha => .inl ha
              · cases q3 : compL ff (xs.drop (i + 1)) S5 with
                | bad =>
                  rw [bnd_bad q3] at hr
                  exact hr.elim
                | exc c S6 =>
                  rw [bnd_exc q3] at hr
                  rw [bnd_exc q3]
                  exact hr
                | ok zs S6 =>
                  rw [bnd_ok q3] at hr
                  rw [bnd_ok q3, List.append_assoc]
                  exact hr
    · rintro H2 ⟨L2, S2, acc, accV, ex, nD, ss2, hd, ra, al, hr⟩
      rw [List.drop_length] at hr
      have hr : Res X.K X.mg Wx (G.to L1) H1 σ (.ok (acc ++ []) S2) (fun ys G' H' => ∀ p u H2, H' p = none → RC X.K X.mg G' H' u (Ob.lst ys) → Mono H' H2 → H2 p = some u → Q (V.ref p) H2) := hr
      rw [List.append_nil] at hr
      have me : Mono (erase H2 D) H2 := fun a o q => by
        unfold erase at q
        split at q
        · cases q
        · exact q
      refine hr L2 (erase H2 D) ⟨ex.pre, fun a o n q => ?_, fun a ha => ?_, fun a ha => ?_, fun a ha => thE (fun z => ha.1 (by rw [z]; exact hD)) (ex.th a ha)⟩ (ss2.stp ⟨rfl, fun a o n q => ?_, fun a o n q => ?_, fun a ha => ?_⟩) D (.lst accV) H2 erase_same ⟨accV, rfl, ra.step (fun a o n q => ?_) fun a ha => ?_⟩ me hd
      · rw [erase_ne (dn q)]; exact ex.keep a o n q
      · exact (ex.new a ha).imp id fun q => ⟨q.1, thE (fun z => nD (by rw [← z]; exact ha)) q.2⟩
      · have hne : a ≠ D := fun z => ha (by rw [z]; exact hD)
        rw [erase_ne hne]
        exact ex.mono a ha
      · rw [erase_ne (fun z => n (.inr (.inl (.inr z))))]; exact q
      · rw [erase_ne (fun z => nD (by rw [← z]; exact n))]; exact q
      · refine .inl ?_
        rcases ha with ha | ha | ha
        · exact .inl ha
        · exact .inr (.inl (.inl ha))
        · exact .inr (.inr ha)
      · rw [erase_ne (fun z => n (.inr (.inl (.inr z))))]; exact q
      · refine .inl ?_
        rcases ha with ha | ha | ha
        · exact .inl ha
        · exact .inr (.inl (.inl ha))
        · exact .inr (.inr ha)
  · rw [if_neg hsz] at h1
    exact h1.elim
theorem ft_lc {mi : M (List PyData)} {mc : PyData → M Bool} {me : PyData → M PyData} {fe : Ev → PyData → Option Ev} {ifs : List Expr} (hc : X.calm = true) (hN : X.N.Nodup) (hi : PI X tg iter (tIL X.K X.mg Wx env mi)) (ok : BlkOk X.N X.env.scope scope own)
    (hg : CG X tg scope (own.map (·.2)) fe) (hno : ∀ x, fe (wipeE env (own.map (·.2))) x = none → ∀ S, mc x S = .bad)
    (ht : ∀ (s : Shared) (H : Hp) (C : Addr) (cl : List (Str × Addr)) (fp : List Addr) (x : PyData) (env' : Ev), fe (wipeE env (own.map (·.2))) x = some env' → PTs (X.blk s H scope (compEnvC scope cl C X.env) fp) ifs (tQ X.K X.mg WF env' (mc x)))
    (he : ∀ (s : Shared) (H : Hp) (C : Addr) (cl : List (Str × Addr)) (fp : List Addr) (x : PyData) (env' : Ev), fe (wipeE env (own.map (·.2))) x = some env' → PE (X.blk s H scope (compEnvC scope cl C X.env) fp) elt (tD X.K X.mg WF env' (me x)))
    (hs : ∀ x, foldedSetIterable iter X.env x = pure x := by intro _; rfl) :
    PE X (.ListComp elt [⟨tg, iter, ifs, 0⟩] scope pos) (tF X.K X.mg Wx env Ob.lst (bnd mi fun xs => filC mc me xs)) := by
  obtain ⟨g, hg, hgv⟩ := hg
  exact PE.imp (pe_lc (elt := elt) (pos := pos) (te := fun σ H Q => ∃ i : { p : PyData × Ev // fe (wipeE env (own.map (·.2))) p.1 = some p.2 }, tD X.K X.mg WF i.1.2 (me i.1.1) σ H Q) (tt := fun σ H Q => ∃ i : { p : PyData × Ev // fe (wipeE env (own.map (·.2))) p.1 = some p.2 }, tQ X.K X.mg WF i.1.2 (mc i.1.1) σ H Q)
    hc hN hi ok hg (fun s H C cl fp => pts_any fun i => ht s H C cl fp i.1.1 i.1.2 i.2) (fun s H C cl fp => pe_any fun i => he s H C cl fp i.1.1 i.1.2 i.2) hs) (lc_key (own.map (·.2)) hgv hno)
/-- name = [..], the name a plain local -/
theorem st_lc {i : Nat} {y : Str} {py spos : Pos} {mi : M (List PyData)} {mc : PyData → M Bool} {me : PyData → M PyData} {fe : Ev → PyData → Option Ev} {ifs : List Expr} (hc : X.calm = true) (hN : X.N.Nodup) (hi : PI X tg iter (tIL X.K X.mg Wx env mi)) (ok : BlkOk X.N X.env.scope scope own)
    (hg : CG X tg scope (own.map (·.2)) fe) (hno : ∀ x, fe (wipeE env (own.map (·.2))) x = none → ∀ S, mc x S = .bad)
    (ht : ∀ (s : Shared) (H : Hp) (C : Addr) (cl : List (Str × Addr)) (fp : List Addr) (x : PyData) (env' : Ev), fe (wipeE env (own.map (·.2))) x = some env' → PTs (X.blk s H scope (compEnvC scope cl C X.env) fp) ifs (tQ X.K X.mg WF env' (mc x)))
    (he : ∀ (s : Shared) (H : Hp) (C : Addr) (cl : List (Str × Addr)) (fp : List Addr) (x : PyData) (env' : Ev), fe (wipeE env (own.map (·.2))) x = some env' → PE (X.blk s H scope (compEnvC scope cl C X.env) fp) elt (tD X.K X.mg WF env' (me x)))
    (hy : X.N[i]? = some y) (hyl : X.env.scope.names.lookup y = some .local) (hsw : swapsWith (.ListComp elt [⟨tg, iter, ifs, 0⟩] scope pos) (some (.Name y py)) spos.line X.env = pure true)
    (hs : ∀ x, foldedSetIterable iter X.env x = pure x := by intro _; rfl) :
    PS X (.Assign [.Name y py] (.ListComp elt [⟨tg, iter, ifs, 0⟩] scope pos) spos) (tAsg (tF X.K X.mg Wx env Ob.lst (bnd mi fun xs => filC mc me xs)) (gName i)) := by
  obtain ⟨g, hg, hgv⟩ := hg
  exact PS.imp (ps_setLc (elt := elt) (pos := pos) (te := fun σ H Q => ∃ i : { p : PyData × Ev // fe (wipeE env (own.map (·.2))) p.1 = some p.2 }, tD X.K X.mg WF i.1.2 (me i.1.1) σ H Q) (tt := fun σ H Q => ∃ i : { p : PyData × Ev // fe (wipeE env (own.map (·.2))) p.1 = some p.2 }, tQ X.K X.mg WF i.1.2 (mc i.1.1) σ H Q)
    hc hN hy hyl hsw hi ok hg (fun s H C cl fp => pts_any fun i => ht s H C cl fp i.1.1 i.1.2 i.2) (fun s H C cl fp => pe_any fun i => he s H C cl fp i.1.1 i.1.2 i.2) hs) fun D σ H h => by
      have k := lc_key (Wx := Wx) (mi := mi) (mc := mc) (me := me) (own.map (·.2)) hgv hno σ H (fun x H1 => gName i x σ H1 D.nx) h
      exact k
end
end DL

namespace DL
open PySem PySem.Spec PyProof.Rows L2

/-! ### defs -/
def SpM (K : PySem.W.Frag) (mg : Str → Option Value) (n : Nat) (m : List W → M W) : Sp := fun vs H Q E => ∃ (L : List Addr) (C : Addr → Prop) (S : Sto) (ws : List W),
  ws.length = n ∧ (∀ a, C a → Th H a) ∧ SS K mg ⟨L, C, []⟩ S H ∧ RWs K mg ⟨L, C, []⟩ H vs ws ∧ Res K mg (fun c d _ H => E c d H) ⟨L, C, []⟩ H [] (m ws S) (fun w G' H' => ∀ v, RW K mg G' H' v w → Q v H')
def fnM (m : M (Fl Unit Unit)) : M W := bnd m fun x => match x with
  | .rt w => ret w
  | .nx _ => ret (.d .none)
  | .bk _ => bad
  | .ct _ => bad
def env0 (ws : List W) (n : Nat) : Ev := ws.map (fun w => some (.w w)) ++ List.replicate (n - ws.length) none
section
variable {P : Program} {w : World} {K : PySem.W.Frag} {mg : Str → Option Value} {base : Heap}
/-- a def by its name: what it does -/
structure Cal (P : Program) (w : World) (K : PySem.W.Frag) (mg : Str → Option Value) (base : Heap) (k : Nat) (x : Str) (n : Nat) (m : List W → M W) : Prop where
  ex : ∃ f fd ps, ps.length = n ∧ FnOk P w K mg base (L2.CX P w) k f fd ps (SpM K mg n m) ∧ mg x = some (Value.ref f) ∧ PySem.W.keepIn K (.ref f) = true ∧ Binds K fd ps []
theorem Cal.mono {k j : Nat} {x : Str} {n : Nat} {m : List W → M W} (c : Cal P w K mg base k x n m) (h : k ≤ j) : Cal P w K mg base j x n m := by
  obtain ⟨f, fd, ps, h1, h2, h3⟩ := c.ex
  exact ⟨f, fd, ps, h1, h2.mono h, h3⟩
theorem rws_get {G : Gh} {H : Hp} : ∀ {vs : List V} {ws : List W}, RWs K mg G H vs ws → ∀ {i : Nat} {w : W}, ws[i]? = some w → ∃ v, vs[i]? = some v ∧ RW K mg G H v w
  | _, _, .nil, _, _, e => by simp at e
  | _, _, .cons a b, 0, _, e => by simp at e; subst e; exact ⟨_, rfl, a⟩
  | _, _, .cons a b, i + 1, _, e => by
    obtain ⟨v, h1, h2⟩ := rws_get b (i := i) (by simpa using e)
    exact ⟨v, by simpa using h1, h2⟩
theorem no_some {n : Nat} {a : Addr} : some a ∉ List.replicate n (none : Option Addr) := fun h => by
  have := List.eq_of_mem_replicate h
  cases this
theorem bar_none {L : List Addr} {C : Addr → Prop} {n : Nat} {a : Addr} (h : (Gh.mk L C (List.replicate n none)).bar a) : (Gh.mk L C []).bar a := by
  rcases h with h | h | h
  · exact .inl h
  · exact .inr (.inl h)
  · exact absurd h no_some
/-- a def keeps its promise: its body's walk -/
theorem ok_fn {x qual : Str} {params : Arguments} {body : List Stmt} {scope : Scope} {f : Addr} {fd : FuncData} {N ps : List Str} {k : Nat} {mb : List W → M (Fl Unit Unit)} (F : FunD K x qual params body scope [] [] f fd) (sc : FnScope N ps scope) (hN : ps.length ≤ N.length)
    (hw : ∀ (cdv : Value) (A : Around) (outer : List Env) (s : Shared) (H : Hp) (E : XK), Room k (A.deeper (envOfC qual scope s.heap.objs.size f cdv)) → ∀ ws : List W, ws.length = ps.length → ∃ post lp, PSs (cxOf (L2.CX P w) P w K mg base N qual scope f cdv A outer s H E) body (tB K mg (fun c d _ H => E c d H) (env0 ws N.length) post lp (mb ws))) :
    FnOk P w K mg base (L2.CX P w) (k + 1) f fd ps (SpM K mg ps.length fun ws => fnM (mb ws)) := by
  refine F.ok sc (fun vs H Q E h => ?_) (fun cdv A outer s H vs Q E hr h => ?_)
  · obtain ⟨L, C, S, ws, h1, _, _, h2, _⟩ := h
    rw [h2.length, h1]
  · obtain ⟨L, C, S, ws, h1, hC, ss, hr2, h⟩ := h
    obtain ⟨post, lp, hp⟩ := hw cdv A outer s H E hr ws h1
    refine ⟨_, hp, ⟨L, C, []⟩, H, ⟨L, C, List.replicate N.length none⟩, S, ?_, ss.less rfl (fun a => bar_none), ?_, ?_⟩
    · exact ⟨List.prefix_refl _, rfl, fun _ _ _ _ h => h, fun _ h => .inl h, fun a h => absurd h no_some, fun _ h => h, fun _ h => h⟩
    · have hl := hr2.length
      refine ⟨?_, ?_, fun i w e => ?_, fun i o e => ?_, fun i j a e => ?_, fun i a e => ?_, fun a ha => ?_⟩
      · unfold L2.start env0
        simp [hl]
      · unfold env0
        simp
        omega
      · unfold env0 at e
        by_cases hi : i < ws.length
        · rw [List.getElem?_append_left (by simpa using hi), List.getElem?_map] at e
          cases q : ws[i]? with
          | none => rw [q] at e; cases e
          | some w' =>
            rw [q] at e
            cases e
            obtain ⟨v, h3, h4⟩ := rws_get hr2 q
            refine ⟨v, ?_, h4.less rfl fun a => bar_none⟩
            unfold L2.start
            rw [List.getElem?_append_left (by simpa [hl] using hi), List.getElem?_map, h3]
            rfl
        · rw [List.getElem?_append_right (by simpa using hi)] at e
          rw [List.getElem?_replicate] at e
          split at e <;> cases e
      · unfold env0 at e
        by_cases hi : i < ws.length
        · rw [List.getElem?_append_left (by simpa using hi), List.getElem?_map] at e
          cases q : ws[i]? with
          | none => rw [q] at e; cases e
          | some w' => rw [q] at e; cases e
        · rw [List.getElem?_append_right (by simpa using hi)] at e
          rw [List.getElem?_replicate] at e
          split at e <;> cases e
      · exact absurd (List.mem_of_getElem? e) no_some
      · exact absurd (List.mem_of_getElem? e) no_some
      · rcases bar_none ha with z | z | z
        · obtain ⟨i, hi, e⟩ := List.mem_iff_getElem.mp z
          have hi' : i < S.length := by rw [← ss.len]; exact hi
          obtain ⟨b, h3, u, h4, h5⟩ := ss.obj i S[i] (List.getElem?_eq_getElem hi')
          rw [List.getElem?_eq_getElem hi, e] at h3
          cases h3
          exact Th.new h5.nt h4
        · exact hC a z
        · simp at z
    · have lv : ∀ {G' : Gh} {H' : Hp}, From ⟨L, C, []⟩ H G' H' → Ext ⟨L, C, []⟩ H G'.L H' := fun f => ⟨f.pre, fun a o n h => f.keep a o n (by simp) h, f.new, f.mono, f.th⟩
      have h : Res K mg (fun c d _ H => E c d H) ⟨L, C, []⟩ H [] (fnM (mb ws) S) (fun w G' H' => ∀ v, RW K mg G' H' v w → Q v H') := h
      unfold fnM at h
      cases q : mb ws S with
      | bad => rw [bnd_bad q] at h; exact h.elim
      | exc c S' =>
        rw [bnd_exc q] at h
        exact fun G' σ' H' Ca f ss' hc => h G'.L H' Ca (lv f) ss' hc
      | ok y S' =>
        rw [bnd_ok q] at h
        cases y with
        | nx t => exact fun G' σ' H' f ss' se' => h G'.L H' (lv f) (ss'.less rfl (bar_less rfl f.c.symm)) .non RD.non
        | bk t => exact h.elim
        | ct t => exact h.elim
        | rt y => exact fun G' v H' f ss' r => h G'.L H' (lv f) ss' v r
/-- .. by its name -/
theorem cal_fn {x qual : Str} {params : Arguments} {body : List Stmt} {scope : Scope} {f : Addr} {fd : FuncData} {N ps : List Str} {k n : Nat} {mb : List W → M (Fl Unit Unit)} (F : FunD K x qual params body scope [] [] f fd) (sc : FnScope N ps scope) (hn : ps.length = n) (hN : ps.length ≤ N.length) (hm : mg x = some (Value.ref f))
    (hb : ∀ (kV doc pm : Value) (an : Option Addr) (cdv ct : Value) (us : List Value), us.length = ps.length → bindArgs (PySem.W.fnOf x qual params body scope .none kV doc pm an cdv ct) ⟨us, []⟩ = pure (ps.zip us))
    (hw : ∀ (cdv : Value) (A : Around) (outer : List Env) (s : Shared) (H : Hp) (E : XK), Room k (A.deeper (envOfC qual scope s.heap.objs.size f cdv)) → ∀ ws : List W, ws.length = ps.length → ∃ post lp, PSs (cxOf (L2.CX P w) P w K mg base N qual scope f cdv A outer s H E) body (tB K mg (fun c d _ H => E c d H) (env0 ws N.length) post lp (mb ws))) :
    Cal P w K mg base (k + 1) x n fun ws => fnM (mb ws) := by
  subst hn
  exact ⟨f, fd, ps, rfl, ok_fn F sc hN hw, hm, F.kp, F.bindsN hb⟩
end

/-! ### calls -/
/-- exceptions of callees -/
def TK (X : Cx) (Wx : WX) : Prop := ∀ σ, PassesAt (L2.CX X.prog X.w) X σ (WE Wx σ)
theorem tk_wf {X : Cx} : TK X WF := fun σ pins H s e s' I c => by
  obtain ⟨_, _, _, _, _, _, _, _, _, _, _, _, z⟩ := c
  exact z.elim
section
variable {X : Cx} {Wx : WX} {env : Ev} {e : Expr} {es : List Expr} {pos p : Pos}
theorem da_nil : PA X [] (tWs X.K X.mg Wx env (ret [])) := PA.imp pa_nil fun σ H Q ⟨G, S, ss, se, h⟩ => h G.L H Ext.refl ss [] .nil
theorem da_cons {m : M W} {ms : M (List W)} (he : PE X e (tW X.K X.mg Wx env m)) (hs : PA X es (tWs X.K X.mg Wx env ms)) (na : starEach (e :: es) X.env = (false, eval e X.env) :: starEach es X.env := by rfl) :
    PA X (e :: es) (tWs X.K X.mg Wx env (bnd m fun x => bnd ms fun xs => ret (x :: xs))) :=
  PA.imp (pa_cons he hs na) fun σ H Q ⟨G, S, ss, se, h⟩ => ⟨G, S, ss, se, h.bind fun x S1 L1 H1 _ e1 ss1 h1 v r => ⟨_, S1, ss1, se.ext e1, h1.bind fun xs S2 L2 H2 _ e2 ss2 h2 vs rs => h2 L2 H2 Ext.refl ss2 (v :: vs) (.cons (r.ext e2) rs)⟩⟩
theorem dd_nil : PA X [] (tDs X.K X.mg Wx env (ret [])) := PA.imp pa_nil fun σ H Q ⟨G, S, ss, se, h⟩ => h G.L H Ext.refl ss [] .nil
theorem dd_cons {m : M PyData} {ms : M (List PyData)} (he : PE X e (tD X.K X.mg Wx env m)) (hs : PA X es (tDs X.K X.mg Wx env ms)) (na : starEach (e :: es) X.env = (false, eval e X.env) :: starEach es X.env := by rfl) :
    PA X (e :: es) (tDs X.K X.mg Wx env (bnd m fun x => bnd ms fun xs => ret (x :: xs))) :=
  PA.imp (pa_cons he hs na) fun σ H Q ⟨G, S, ss, se, h⟩ => ⟨G, S, ss, se, h.bind fun x S1 L1 H1 _ e1 ss1 h1 v r => ⟨_, S1, ss1, se.ext e1, h1.bind fun xs S2 L2 H2 _ e2 ss2 h2 vs rs => h2 L2 H2 Ext.refl ss2 (v :: vs) (.cons (r.ext e2) rs)⟩⟩
/-- the callee's view of what is barred -/
theorem call_res {K : PySem.W.Frag} {mg : Str → Option Value} {G : Gh} {H : Hp} {σ σ' : L2.St} {o : Out W} {Q : VK} (h : Res K mg Wx G H σ o (fun w G' H' => ∀ v, RW K mg G' H' v w → Q v H')) :
    Res K mg (fun c d _ H => Wx c d σ H) ⟨G.L, G.bar, []⟩ H σ' o (fun w G' H' => ∀ v, RW K mg G' H' v w → Q v H') := by
  have ba : ∀ {L : List Addr} (a : Addr), (G.to L).bar a → (Gh.mk L G.bar []).bar a := fun {L} a h => by
    rcases h with h | h | h
    · exact .inl h
    · exact .inr (.inl (.inr (.inl h)))
    · exact .inr (.inl (.inr (.inr h)))
  cases o with
  | bad => exact h
  | ok x S => exact fun L' H' e ss v r => h L' H' ⟨e.pre, e.keep, e.new, e.mono, e.th⟩ (ss.less rfl ba) v (r.less rfl ba)
  | exc c S => exact fun L' H' Ca e ss hc => h L' H' Ca ⟨e.pre, e.keep, e.new, e.mono, e.th⟩ (ss.less rfl ba) hc
theorem callee_bar {G : Gh} : ∀ a, (Gh.mk G.L G.bar []).bar a → G.bar a := fun a h => by
  rcases h with h | h | h
  · exact .inl h
  · exact h
  · simp at h
/-- f(..), f a def of the module -/
theorem dw_call {x : Str} {k j n : Nat} {m : List W → M W} {ms : M (List W)} (c : Cal X.prog X.w X.K X.mg X.base k x n m) (hr : Room j X.A) (hk : k ≤ j) (hg : Gl X x) (tk : TK X Wx) (ha : PA X (e :: es) (tWs X.K X.mg Wx env ms)) (hn : ∀ S xs S', ms S = .ok xs S' → xs.length = n)
    (hdb : (x == ("__debug__" : Str)) = false := by decide) (he : starEach (e :: es) X.env = (false, eval e X.env) :: starEach es X.env := by rfl) (hpl : (backTo pos (starEach es X.env)).any (·.1) = false := by rfl) :
    PE X (.Call (.Name x p) (e :: es) [] pos) (tW X.K X.mg Wx env (bnd ms m)) := by
  obtain ⟨f, fd, ps, h1, h2, h3, h4, h5⟩ := c.ex
  exact PE.imp (pe_callS h2 (hr.mono hk) hg h3 h4 h5 tk ha hdb he hpl) fun σ H Q ⟨G, S, ss, se, h⟩ => ⟨G, S, ss, se, h.bind fun ws S1 L1 H1 e0 e1 ss1 h1 vs rs =>
    ⟨L1, (G.to L1).bar, S1, ws, hn S ws S1 e0, (se.ext e1).there, ss1.less (G' := ⟨L1, (G.to L1).bar, []⟩) rfl (callee_bar (G := G.to L1)), RWs.less (G := G.to L1) (G' := ⟨L1, (G.to L1).bar, []⟩) rfl (callee_bar (G := G.to L1)) rs, call_res (G := G.to L1) h1⟩⟩
theorem len_nil : ∀ (S : Sto) (xs : List W) (S' : Sto), (ret [] : M (List W)) S = .ok xs S' → xs.length = 0 := fun S xs S' e => by cases e; rfl
theorem len_cons {m : M W} {ms : M (List W)} {n : Nat} (h : ∀ S xs S', ms S = .ok xs S' → xs.length = n) : ∀ (S : Sto) (xs : List W) (S' : Sto), (bnd m fun x => bnd ms fun xs => ret (x :: xs)) S = .ok xs S' → xs.length = n + 1 := fun S xs S' e => by
  unfold DL.bnd at e
  cases q : m S with
  | bad => rw [q] at e; cases e
  | exc c S1 => rw [q] at e; cases e
  | ok x S1 =>
    rw [q] at e
    cases q2 : ms S1 with
    | bad => simp only [q2] at e; cases e
    | exc c S2 => simp only [q2] at e; cases e
    | ok ys S2 =>
      simp only [q2] at e
      cases e
      simp [h S1 ys S' q2]
/-- a result that is data -/
def wD : W → M PyData
  | .d x => ret x
  | _ => bad
def wR : W → M Nat
  | .r x => ret x
  | _ => bad
theorem de_w {e : Expr} {m : M W} (h : PE X e (tW X.K X.mg Wx env m)) : PE X e (tD X.K X.mg Wx env (bnd m wD)) :=
  PE.imp h fun σ H Q ⟨G, S, ss, se, h⟩ => ⟨G, S, ss, se, h.bind fun w S1 L1 H1 _ e1 ss1 h1 v r => by
    cases w with
    | d x => exact h1 L1 H1 Ext.refl ss1 v r
    | _ => exact h1.elim⟩
theorem dr_w {e : Expr} {m : M W} (h : PE X e (tW X.K X.mg Wx env m)) : PE X e (tR X.K X.mg Wx env (bnd m wR)) :=
  PE.imp h fun σ H Q ⟨G, S, ss, se, h⟩ => ⟨G, S, ss, se, h.bind fun w S1 L1 H1 _ e1 ss1 h1 v r => by
    cases w with
    | r x =>
      obtain ⟨a, h2, rfl⟩ := r
      exact h1 L1 H1 Ext.refl ss1 a h2
    | _ => exact h1.elim⟩
end
end DL

namespace DL
open PySem PySem.Spec PyProof.Rows L2

section
variable {X : Cx} {pins : List (Addr × Obj)} {σ : L2.St} {H : Hp} {s : Shared} {B : Addr → Prop}
theorem sqT_reads {xs : List V} {ds : List PyData} {a : Addr} (I : Inv X pins σ H s) (r : SqT X.K H a xs) (ih : ∀ us, Vals xs us → ∃ as, ReadsAll s.heap us ds as) : ∃ as, Reads s.heap (.ref a) (.tuple ds) as := by
  obtain ⟨its, rv, ⟨o, e, c, n, dd⟩, _⟩ := I.tuple r
  obtain ⟨as, ra⟩ := ih its rv
  exact ⟨_, .tuple e c dd (by simpa using ra)⟩
theorem rdL_reads {xs : List V} {ds : List PyData} {a : Addr} (I : Inv X pins σ H s) (r : SqL X.K H a xs) (ih : ∀ us, Vals xs us → ∃ as, ReadsAll s.heap us ds as) : ∃ as, Reads s.heap (.ref a) (.list ds) as := by
  obtain ⟨its, rv, ⟨o, n, e, c, _, dd⟩, _⟩ := I.list r
  obtain ⟨as, ra⟩ := ih its rv
  exact ⟨_, .list e c dd (by simpa using ra)⟩
theorem RD.reads (I : Inv X pins σ H s) {v : V} {d : PyData} (h : RD X.K B H v d) : d.plain = true → ∀ u, RelV v u → ∃ as, Reads s.heap u d as := by
  refine RD.rec (motive_1 := fun v d _ => d.plain = true → ∀ u, RelV v u → ∃ as, Reads s.heap u d as) (motive_2 := fun vs ds _ => PyData.plainAll ds = true → ∀ us, Vals vs us → ∃ as, ReadsAll s.heap us ds as) ?_ ?_ ?_ ?_ ?_ ?_ ?_ ?_ ?_ ?_ h
  · intro _ u r; cases r; exact ⟨_, .none⟩
  · intro b _ u r; cases r; exact ⟨_, .bool b⟩
  · intro i _ u r; obtain ⟨t, rfl⟩ := r; exact ⟨_, .int i t⟩
  · intro x _ u r; obtain ⟨t, rfl⟩ := r; exact ⟨_, .str x t⟩
  · intro a xs ds r _ ih p u ru
    cases ru
    exact rdL_reads I r.sq (ih (by simpa [PyData.plain] using p))
  · intro a xs ds r _ ih p u ru
    cases ru
    exact sqT_reads I r.sq (ih (by simpa [PyData.plain] using p))
  · intro _ _ _ _ _ _ _ _ p; simp [PyData.plain] at p
  · intro _ _ _ _ _ _ _ _ p; simp [PyData.plain] at p
  · intro _ us r; cases r; exact ⟨_, .nil⟩
  · intro v vs d ds _ _ i1 i2 p us r
    simp only [PyData.plainAll, Bool.and_eq_true] at p
    cases r with
    | cons r1 r2 =>
      obtain ⟨as, ra⟩ := i1 p.1 _ r1
      obtain ⟨bs, rb⟩ := i2 p.2 _ r2
      exact ⟨_, .cons ra rb⟩
theorem RDs.reads (I : Inv X pins σ H s) : ∀ {vs : List V} {ds : List PyData}, RDs X.K B H vs ds → PyData.plainAll ds = true → ∀ us, Vals vs us → ∃ as, ReadsAll s.heap us ds as
  | _, _, .nil, _, us, r => by cases r; exact ⟨_, .nil⟩
  | _, _, .cons a b, p, us, r => by
    simp only [PyData.plainAll, Bool.and_eq_true] at p
    cases r with
    | cons r1 r2 =>
      obtain ⟨as, ra⟩ := a.reads I p.1 _ r1
      obtain ⟨bs, rb⟩ := b.reads I p.2 _ r2
      exact ⟨_, .cons ra rb⟩
theorem RT.reads {G : Gh} (I : Inv X pins σ H s) {v : V} {d : PyData} (h : RT X.K G H v d) (p : d.plain = true) {u : Value} (r : RelV v u) : ∃ as, Reads s.heap u d as := by
  cases h with
  | of h => exact h.reads I p u r
  | lst h n i =>
    cases r
    exact rdL_reads I (.inl h) (i.reads I (by simpa [PyData.plain] using p))
  | dK h n q i => simp [PyData.plain] at p
  | dT h n q i => simp [PyData.plain] at p
end

/-! ### equality and order of data -/
def smallD (a b : PyData) : Bool := a.plain && b.plain && decide (min a.depth b.depth ≤ 64)
theorem smallD_ok {a b : PyData} (h : smallD a b = true) : a.plain = true ∧ b.plain = true ∧ min a.depth b.depth ≤ 64 := by
  unfold smallD at h
  simp only [Bool.and_eq_true, decide_eq_true_eq] at h
  exact ⟨h.1.1, h.1.2, h.2⟩
def eqO (a b : PyData) : Option PyData := if smallD a b = true then some (.bool (PyData.eqv a b)) else none
def neO (a b : PyData) : Option PyData := if smallD a b = true then some (.bool (!PyData.eqv a b)) else none
def isNo : PyData → Bool
  | .none => true
  | _ => false
theorem isNo_ne {a : PyData} (h : (!isNo a) = true) : a ≠ .none := fun e => by subst e; cases h
def ltO (a b : PyData) : Option PyData := match a, b with
  | .int i, .int j => some (.bool (decide (i < j)))
  | a, b => if (smallD a b && PySem.W.alike a b && !isNo a) = true then some (.bool (PySem.W.dataLt a b)) else none
def leO (a b : PyData) : Option PyData := match a, b with
  | .int i, .int j => some (.bool (decide (i ≤ j)))
  | a, b => if (smallD a b && PySem.W.alike a b && !isNo a) = true then some (.bool (!PySem.W.dataLt b a)) else none
def gtO (a b : PyData) : Option PyData := match a, b with
  | .int i, .int j => some (.bool (decide (j < i)))
  | .str i, .str j => some (.bool (decide (j.cps.toList < i.cps.toList)))
  | _, _ => none
def geO (a b : PyData) : Option PyData := match a, b with
  | .int i, .int j => some (.bool (decide (j ≤ i)))
  | _, _ => none
def plainL (xs : List PyData) (d : PyData) : Bool := PyData.plainAll xs && d.plain && decide (min (PyData.depthAll xs) d.depth ≤ 64)
def occurs (i j : Str) : Bool := !(Builtin.Str.occurrences j i 0 j.length 1).isEmpty
def inO (d c : PyData) : Option PyData := match c, d with
  | .list xs, d => if plainL xs d = true then some (.bool (xs.any fun y => PyData.eqv y d)) else none
  | .tuple xs, d => if plainL xs d = true then some (.bool (xs.any fun y => PyData.eqv y d)) else none
  | .str j, .str i => some (.bool (occurs i j))
  | _, _ => none
def ninO (d c : PyData) : Option PyData := match c, d with
  | .list xs, d => if plainL xs d = true then some (.bool (!(xs.any fun y => PyData.eqv y d))) else none
  | .tuple xs, d => if plainL xs d = true then some (.bool (!(xs.any fun y => PyData.eqv y d))) else none
  | .str j, .str i => some (.bool (!occurs i j))
  | _, _ => none
def addO (a b : PyData) : Option PyData := match a, b with
  | .int i, .int j => some (.int (i + j))
  | .str a, .str b => if a.length + b.length ≤ sizeLine then some (.str (a ++ b)) else none
  | .tuple xs, .tuple ys => if xs.length + ys.length ≤ sizeLine then some (.tuple (xs ++ ys)) else none
  | _, _ => none
def subO (a b : PyData) : Option PyData := match a, b with
  | .int i, .int j => some (.int (i - j))
  | _, _ => none
def repS (x : Str) (k : Nat) : Str := ⟨(List.replicate k x.cps).foldl (· ++ ·) #[]⟩
def repO (x : Str) (k : Int) : Option PyData := if -(2 ^ 63) ≤ k ∧ k < 2 ^ 31 ∧ x.length * k.toNat ≤ 1000000 ∧ x.length ≤ 1000000 then some (.str (repS x k.toNat)) else none
def mulO (a b : PyData) : Option PyData := match a, b with
  | .int i, .int j => if Builtin.Int.intBits i + Builtin.Int.intBits j ≤ 134217728 then some (.int (i * j)) else none
  | .str x, .int k => repO x k
  | _, _ => none
def modO (a b : PyData) : Option PyData := match a, b with
  | .int i, .int j => if j ≠ 0 then some (.int (i.fmod j)) else none
  | _, _ => none
def fdivO (a b : PyData) : Option PyData := match a, b with
  | .int i, .int j => if j ≠ 0 ∧ j.natAbs < 1073741824 then some (.int (i.fdiv j)) else none
  | _, _ => none
def powO (a b : PyData) : Option PyData := match a, b with
  | .int i, .int j => if 2 ≤ i ∧ 1 ≤ j ∧ Builtin.Int.intBits i * j.toNat < 1000000 then some (.int (i ^ j.toNat)) else none
  | _, _ => none

/-! the ops as the code has them -/
def OpF (X : Cx) (op : Value → Value → Sem Value) (f : PyData → PyData → Option PyData) : Prop := ∃ r, OpR X op r ∧ OpD X r f
theorem OpR.or {X : Cx} {f : Value → Value → Sem Value} {r r' : R2} (h : OpR X f r) (h' : OpR X f r') : OpR X f (fun x y H Q => r x y H Q ∨ r' x y H Q) :=
  fun pins s σ H x y v u Q I rx ry q => q.elim (h pins s σ H x y v u Q I rx ry) (h' pins s σ H x y v u Q I rx ry)
section
variable {K : PySem.W.Frag} {G : Gh} {H H' : Hp} {v : V}
theorem RT.int_ {i : Int} (h : RT K G H v (.int i)) : v = .int i := by
  cases h with
  | of h => cases h; rfl
theorem RT.bl_ {i : Bool} (h : RT K G H v (.bool i)) : v = .bl i := by
  cases h with
  | of h => cases h; rfl
theorem RT.non_ (h : RT K G H v .none) : v = .non := by
  cases h with
  | of h => cases h; rfl
theorem RT.str_ {i : Str} (h : RT K G H v (.str i)) : v = .str i := by
  cases h with
  | of h => cases h; rfl
theorem RT.tup_ {ds : List PyData} (h : RT K G H v (.tuple ds)) : ∃ a xs, v = V.ref a ∧ SqT K H a xs ∧ RDs K G.bar H xs ds := by
  cases h with
  | of h =>
    cases h with
    | tup h i => exact ⟨_, _, rfl, h.sq, i⟩
theorem RT.lst_ {ds : List PyData} (h : RT K G H v (.list ds)) : ∃ a xs, v = V.ref a ∧ SqL K H a xs ∧ RDs K G.bar H xs ds := by
  cases h with
  | of h =>
    cases h with
    | lst h i => exact ⟨_, _, rfl, h.sq, i⟩
  | lst h _ i => exact ⟨_, _, rfl, .inl h, i⟩
theorem new_tup {p : Addr} {xs : List V} {ds : List PyData} (n : H p = none) (th : ∀ a, G.bar a → Th H a) (r : RDs K G.bar H xs ds) : RD K G.bar (upd H p (.tup xs)) (.ref p) (.tuple ds) :=
  .tup ⟨by unfold upd; rw [if_pos rfl], fun z => (th p z).1 n⟩ (r.mono (Mono.upd n))
theorem new_lst {p : Addr} {xs : List V} {ds : List PyData} (n : H p = none) (th : ∀ a, G.bar a → Th H a) (r : RDs K G.bar H xs ds) : RD K G.bar (upd H p (.lst xs)) (.ref p) (.list ds) :=
  .lst (.inl ⟨.inl (by unfold upd; rw [if_pos rfl]), fun z => (th p z).1 n⟩) (r.mono (Mono.upd n))
end
section
variable {X : Cx}
theorem of_eq : ∀ {α : Type} {c : Prop} [Decidable c] {a b : α}, (if c then some a else none) = some b → c ∧ a = b := by
  intro α c _ a b h
  by_cases hc : c
  · rw [if_pos hc] at h; exact ⟨hc, Option.some.inj h⟩
  · rw [if_neg hc] at h; cases h
/-- a rule over what is read -/
def rData (K : PySem.W.Frag) (C : PyData → PyData → Prop) (g : PyData → PyData → Bool) : R2 := fun x y H Q => ∃ (G : Gh) (d e : PyData), RT K G H x d ∧ RT K G H y e ∧ C d e ∧ Q (.bl (g d e)) H
theorem f_eq (hu : X.A.units + 65 < cLine) : OpF X (compareOp .Eq) eqO := by
  refine ⟨rData X.K (fun d e => smallD d e = true) PyData.eqv, ?_, ?_⟩
  · rintro pins s σ H x y v u Q I rx ry ⟨G, d, e, h1, h2, hc, q⟩
    obtain ⟨p1, p2, p3⟩ := smallD_ok hc
    obtain ⟨as, r1⟩ := h1.reads I p1 rx
    obtain ⟨bs, r2⟩ := h2.reads I p2 ry
    exact PySem.SeqAt.eq_plain r1 r2 p1 p2 (by omega) ⟨.bl _, H, I, rfl, q⟩
  · intro G H x y d e z Q th h1 h2 hf k
    obtain ⟨c, rfl⟩ := of_eq hf
    exact ⟨G, d, e, h1, h2, c, k _ _ Mono.refl (.bl _)⟩
theorem f_ne (hu : X.A.units + 65 < cLine) : OpF X (compareOp .NotEq) neO := by
  refine ⟨rData X.K (fun d e => smallD d e = true) (fun a b => !PyData.eqv a b), ?_, ?_⟩
  · rintro pins s σ H x y v u Q I rx ry ⟨G, d, e, h1, h2, hc, q⟩
    obtain ⟨p1, p2, p3⟩ := smallD_ok hc
    obtain ⟨as, r1⟩ := h1.reads I p1 rx
    obtain ⟨bs, r2⟩ := h2.reads I p2 ry
    exact PySem.SeqAt.ne_plain r1 r2 p1 p2 (by omega) ⟨.bl _, H, I, rfl, q⟩
  · intro G H x y d e z Q th h1 h2 hf k
    obtain ⟨c, rfl⟩ := of_eq hf
    exact ⟨G, d, e, h1, h2, c, k _ _ Mono.refl (.bl _)⟩
theorem f_lt (hu : X.A.units + 65 < cLine) : OpF X (compareOp .Lt) ltO := by
  refine ⟨_, op_lt.or (?_ : OpR X (compareOp .Lt) (rData X.K (fun a b => (smallD a b && PySem.W.alike a b && !isNo a) = true) PySem.W.dataLt)), ?_⟩
  · rintro pins s σ H x y v u Q I rx ry ⟨G, d, e, h1, h2, hc, q⟩
    rw [Bool.and_eq_true, Bool.and_eq_true] at hc
    have hn := isNo_ne hc.2
    replace hc := hc.1
    obtain ⟨p1, p2, p3⟩ := smallD_ok hc.1
    obtain ⟨as, r1⟩ := h1.reads I p1 rx
    obtain ⟨bs, r2⟩ := h2.reads I p2 ry
    exact PySem.W.lt_data r1 r2 hc.2 hn (by omega) ⟨.bl _, H, I, rfl, q⟩
  · intro G H x y d e z Q th h1 h2 hf k
    unfold ltO at hf
    split at hf
    · cases hf
      exact .inl ⟨_, _, h1.int_, h2.int_, k _ _ Mono.refl (.bl _)⟩
    · obtain ⟨c, rfl⟩ := of_eq hf
      exact .inr ⟨G, d, e, h1, h2, c, k _ _ Mono.refl (.bl _)⟩
theorem f_le (hu : X.A.units + 65 < cLine) : OpF X (compareOp .LtE) leO := by
  refine ⟨_, op_le.or (?_ : OpR X (compareOp .LtE) (rData X.K (fun a b => (smallD a b && PySem.W.alike a b && !isNo a) = true) fun a b => !PySem.W.dataLt b a)), ?_⟩
  · rintro pins s σ H x y v u Q I rx ry ⟨G, d, e, h1, h2, hc, q⟩
    rw [Bool.and_eq_true, Bool.and_eq_true] at hc
    have hn := isNo_ne hc.2
    replace hc := hc.1
    obtain ⟨p1, p2, p3⟩ := smallD_ok hc.1
    obtain ⟨as, r1⟩ := h1.reads I p1 rx
    obtain ⟨bs, r2⟩ := h2.reads I p2 ry
    exact PySem.W.le_data r1 r2 hc.2 hn (by omega) ⟨.bl _, H, I, rfl, q⟩
  · intro G H x y d e z Q th h1 h2 hf k
    unfold leO at hf
    split at hf
    · cases hf
      exact .inl ⟨_, _, h1.int_, h2.int_, k _ _ Mono.refl (.bl _)⟩
    · obtain ⟨c, rfl⟩ := of_eq hf
      exact .inr ⟨G, d, e, h1, h2, c, k _ _ Mono.refl (.bl _)⟩
theorem f_gt : OpF X (compareOp .Gt) gtO := by
  refine ⟨_, op_gt.or op_gt_str, ?_⟩
  intro G H x y d e z Q th h1 h2 hf k
  unfold gtO at hf
  split at hf
  · cases hf
    exact .inl ⟨_, _, h1.int_, h2.int_, k _ _ Mono.refl (.bl _)⟩
  · cases hf
    exact .inr ⟨_, _, h1.str_, h2.str_, k _ _ Mono.refl (.bl _)⟩
  · cases hf
theorem f_ge : OpF X (compareOp .GtE) geO := by
  refine ⟨_, op_ge, ?_⟩
  intro G H x y d e z Q th h1 h2 hf k
  unfold geO at hf
  split at hf
  · cases hf
    exact ⟨_, _, h1.int_, h2.int_, k _ _ Mono.refl (.bl _)⟩
  · cases hf
theorem f_sub : OpF X (binaryOp .Sub) subO := by
  refine ⟨_, op_sub, ?_⟩
  intro G H x y d e z Q th h1 h2 hf k
  unfold subO at hf
  split at hf
  · cases hf
    exact ⟨_, _, h1.int_, h2.int_, k _ _ Mono.refl (.int _)⟩
  · cases hf
theorem f_mod : OpF X (binaryOp .Mod) modO := by
  refine ⟨_, op_modN, ?_⟩
  intro G H x y d e z Q th h1 h2 hf k
  unfold modO at hf
  split at hf
  · obtain ⟨c, rfl⟩ := of_eq hf
    exact ⟨_, _, h1.int_, h2.int_, c, k _ _ Mono.refl (.int _)⟩
  · cases hf
theorem f_fdiv : OpF X (binaryOp .FloorDiv) fdivO := by
  refine ⟨_, op_fdivN, ?_⟩
  intro G H x y d e z Q th h1 h2 hf k
  unfold fdivO at hf
  split at hf
  · obtain ⟨c, rfl⟩ := of_eq hf
    exact ⟨_, _, h1.int_, h2.int_, c, k _ _ Mono.refl (.int _)⟩
  · cases hf
theorem f_add : OpF X (binaryOp .Add) addO := by
  refine ⟨_, (op_add.or op_add_str).or op_catA, ?_⟩
  intro G H x y d e z Q th h1 h2 hf k
  unfold addO at hf
  split at hf
  · cases hf
    exact .inl (.inl ⟨_, _, h1.int_, h2.int_, k _ _ Mono.refl (.int _)⟩)
  · obtain ⟨c, rfl⟩ := of_eq hf
    exact .inl (.inr ⟨_, _, h1.str_, h2.str_, c, k _ _ Mono.refl (.str _)⟩)
  · obtain ⟨c, rfl⟩ := of_eq hf
    cases h1 with
    | of h1 =>
      cases h2 with
      | of h2 =>
        have h1' := h1
        have h2' := h2
        cases h1 with
        | tup t1 i1 =>
          cases h2 with
          | tup t2 i2 =>
            refine .inr ⟨_, _, _, _, rfl, rfl, t1.sq, t2.sq, by rw [i1.length, i2.length]; exact c, fun e => ?_, fun n e => ?_, fun n m p hp => ?_⟩
            · subst e
              cases i1
              exact k _ _ Mono.refl h2'
            · subst e
              cases i2
              rw [List.append_nil] at k
              exact k _ _ Mono.refl h1'
            · exact k _ _ (Mono.upd hp) (new_tup hp th (i1.append i2))
  · cases hf
end
end DL

namespace DL
open PySem PySem.Spec PyProof.Rows L2
section
variable {X : Cx}
theorem fold_none : ∀ (xs : List (Array Nat)) (_ : ∀ a ∈ xs, a = #[]) (b : Array Nat), xs.foldl (· ++ ·) b = b
  | [], _, b => rfl
  | x :: r, h, b => by
    rw [List.foldl_cons, fold_none r (fun a ha => h a (List.mem_cons_of_mem _ ha)), h x List.mem_cons_self]
    simp
theorem fold_size (c : Array Nat) : ∀ (k : Nat) (b : Array Nat), ((List.replicate k c).foldl (· ++ ·) b).size = b.size + k * c.size
  | 0, b => by simp
  | k + 1, b => by
    rw [List.replicate_succ, List.foldl_cons, fold_size c k, Array.size_append, Nat.succ_mul]
    omega
theorem op_repS : OpR X (binaryOp .Mult) (fun x y H Q => ∃ z k, x = .str z ∧ y = .int k ∧ (-(2 ^ 63) ≤ k ∧ k < 2 ^ 31 ∧ z.length * k.toNat ≤ 1000000 ∧ z.length ≤ 1000000) ∧ Q (.str (repS z k.toNat)) H) := by
  intro pins s σ H x y v u Q I rx ry h
  obtain ⟨z, k, rfl, rfl, ⟨h1, h2, h3, h4⟩, q⟩ := h
  obtain ⟨t, rfl⟩ := rx
  obtain ⟨t', rfl⟩ := ry
  have sl := sizeLine_eq
  refine P.mul_str ?_ ?_ ?_ ?_
  · rw [Bool.or_eq_false_iff, decide_eq_false_iff_not, decide_eq_false_iff_not]
    omega
  · intro a b c
    have hk : 1 ≤ k := by omega
    have h5 : (2 ^ 63 - 1 : Int) / k ≥ 1000000 := by
      refine (Int.le_ediv_iff_mul_le (by omega)).mpr ?_
      omega
    omega
  · intro a b
    show decide (_ > sizeLine) = false
    rw [decide_eq_false_iff_not]; omega
  · by_cases hn : k < 1
    · rw [if_pos hn]
      have e : k.toNat = 0 := by omega
      rw [e] at q
      exact ⟨by decide, ⟨.str _, H, I.tok _, ⟨_, rfl⟩, q⟩⟩
    · rw [if_neg hn]
      by_cases hb : (k == 1 || z.length == 0) = true
      · rw [if_pos hb]
        refine ⟨.str z, H, I, ⟨_, rfl⟩, ?_⟩
        have : repS z k.toNat = z := by
          unfold repS
          rw [Bool.or_eq_true, beq_iff_eq, beq_iff_eq] at hb
          rcases hb with hb | hb
          · subst hb
            show (⟨[z.cps].foldl (· ++ ·) #[]⟩ : Str) = z
            simp
          · have hz : z.cps = #[] := Array.eq_empty_of_size_eq_zero hb
            rw [fold_none _ (fun a ha => by rw [(List.mem_replicate.mp ha).2, hz])]
            cases z
            simp only [Str.mk.injEq]
            exact hz.symm
        rw [this] at q
        exact q
      · rw [if_neg hb]
        refine ⟨?_, ⟨.str _, H, I.tok _, ⟨_, rfl⟩, q⟩⟩
        show ((List.replicate k.toNat z.cps).foldl (· ++ ·) #[]).size ≤ sizeLine
        rw [fold_size]
        have : k.toNat * z.cps.size = z.length * k.toNat := Nat.mul_comm _ _
        simp only [List.size_toArray, List.length_nil]
        omega
theorem f_mul : OpF X (binaryOp .Mult) mulO := by
  refine ⟨_, op_mulX.or op_repS, ?_⟩
  intro G H x y d e z Q th h1 h2 hf k
  unfold mulO at hf
  split at hf
  · obtain ⟨c, rfl⟩ := of_eq hf
    exact .inl ⟨_, _, h1.int_, h2.int_, by unfold CMulX; omega, k _ _ Mono.refl (.int _)⟩
  · unfold repO at hf
    obtain ⟨c, rfl⟩ := of_eq hf
    exact .inr ⟨_, _, h1.str_, h2.int_, c, k _ _ Mono.refl (.str _)⟩
  · cases hf
theorem op_powX : OpR X (binaryOp .Pow) (rI (fun i j => 2 ≤ i ∧ 1 ≤ j ∧ Builtin.Int.intBits i * j.toNat < 1000000) fun i j => .int (i ^ j.toNat)) := opI fun i j t u s Q E hc q => by
  obtain ⟨h1, h2, h3⟩ := hc
  refine pow_int (by omega) ?_ q
  have e : ((Builtin.Int.intBits i : Nat) : Int) * j = ((Builtin.Int.intBits i * j.toNat : Nat) : Int) := by
    rw [Int.natCast_mul, Int.toNat_of_nonneg (by omega)]
  rw [e]
  omega
theorem f_pow : OpF X (binaryOp .Pow) powO := by
  refine ⟨_, op_powX, ?_⟩
  intro G H x y d e z Q th h1 h2 hf k
  unfold powO at hf
  split at hf
  · obtain ⟨c, rfl⟩ := of_eq hf
    exact ⟨_, _, h1.int_, h2.int_, c, k _ _ Mono.refl (.int _)⟩
  · cases hf
end
end DL

namespace DL
open PySem PySem.Spec PyProof.Rows L2
section
variable {X : Cx}
def isSeqD : PyData → Option (List PyData)
  | .list xs => some xs
  | .tuple xs => some xs
  | _ => none
theorem plainL_ok {xs : List PyData} {d : PyData} (h : plainL xs d = true) : PyData.plainAll xs = true ∧ d.plain = true ∧ min (PyData.depthAll xs) d.depth ≤ 64 := by
  unfold plainL at h
  simp only [Bool.and_eq_true, decide_eq_true_eq] at h
  exact ⟨h.1.1, h.1.2, h.2⟩
def rInS (K : PySem.W.Frag) (neg : Bool) : R2 := fun x y H Q => ∃ (G : Gh) (d : PyData) (c : PyData) (xs : List PyData), RT K G H x d ∧ RT K G H y c ∧ (c = .list xs ∨ c = .tuple xs) ∧ plainL xs d = true ∧ Q (.bl (if neg = true then !(xs.any fun y => PyData.eqv y d) else xs.any fun y => PyData.eqv y d)) H
theorem op_inS (hu : X.A.units + 65 < cLine) : OpR X (compareOp .In) (rInS X.K false) := by
  rintro pins s σ H x y v u Q I rx ry ⟨G, d, c, xs, h1, h2, hc, hp, q⟩
  obtain ⟨p1, p2, p3⟩ := plainL_ok hp
  obtain ⟨as, r1⟩ := h1.reads I p2 rx
  rcases hc with rfl | rfl
  · obtain ⟨bs, r2⟩ := h2.reads I (by simpa [PyData.plain] using p1) ry
    exact PySem.SeqAt.in_list_data r2 r1 p1 p2 (by omega) ⟨.bl _, H, I, rfl, q⟩
  · obtain ⟨bs, r2⟩ := h2.reads I (by simpa [PyData.plain] using p1) ry
    exact PySem.SeqAt.in_tuple_data r2 r1 p1 p2 (by omega) ⟨.bl _, H, I, rfl, q⟩
theorem op_ninS (hu : X.A.units + 65 < cLine) : OpR X (compareOp .NotIn) (rInS X.K true) := by
  rintro pins s σ H x y v u Q I rx ry ⟨G, d, c, xs, h1, h2, hc, hp, q⟩
  obtain ⟨p1, p2, p3⟩ := plainL_ok hp
  obtain ⟨as, r1⟩ := h1.reads I p2 rx
  rcases hc with rfl | rfl
  · obtain ⟨bs, r2⟩ := h2.reads I (by simpa [PyData.plain] using p1) ry
    exact PySem.SeqAt.notIn_list_data r2 r1 p1 p2 (by omega) ⟨.bl _, H, I, rfl, q⟩
  · obtain ⟨bs, r2⟩ := h2.reads I (by simpa [PyData.plain] using p1) ry
    exact PySem.SeqAt.notIn_tuple_data r2 r1 p1 p2 (by omega) ⟨.bl _, H, I, rfl, q⟩
theorem f_in (hu : X.A.units + 65 < cLine) : OpF X (compareOp .In) inO := by
  refine ⟨_, (op_inS hu).or op_in_str, ?_⟩
  intro G H x y d e z Q th h1 h2 hf k
  unfold inO at hf
  split at hf
  · obtain ⟨c, rfl⟩ := of_eq hf
    exact .inl ⟨G, _, _, _, h1, h2, .inl rfl, c, k _ _ Mono.refl (.bl _)⟩
  · obtain ⟨c, rfl⟩ := of_eq hf
    exact .inl ⟨G, _, _, _, h1, h2, .inr rfl, c, k _ _ Mono.refl (.bl _)⟩
  · cases hf
    exact .inr ⟨_, _, h1.str_, h2.str_, k _ _ Mono.refl (.bl _)⟩
  · cases hf
theorem f_nin (hu : X.A.units + 65 < cLine) : OpF X (compareOp .NotIn) ninO := by
  refine ⟨_, (op_ninS hu).or op_notin_str, ?_⟩
  intro G H x y d e z Q th h1 h2 hf k
  unfold ninO at hf
  split at hf
  · obtain ⟨c, rfl⟩ := of_eq hf
    exact .inl ⟨G, _, _, _, h1, h2, .inl rfl, c, k _ _ Mono.refl (.bl _)⟩
  · obtain ⟨c, rfl⟩ := of_eq hf
    exact .inl ⟨G, _, _, _, h1, h2, .inr rfl, c, k _ _ Mono.refl (.bl _)⟩
  · cases hf
    exact .inr ⟨_, _, h1.str_, h2.str_, k _ _ Mono.refl (.bl _)⟩
  · cases hf
def isO (a b : PyData) : Option PyData := match b with
  | .none => some (.bool (isNo a))
  | _ => none
def isnO (a b : PyData) : Option PyData := match b with
  | .none => some (.bool (!isNo a))
  | _ => none
theorem RT.non_iff {K : PySem.W.Frag} {G : Gh} {H : Hp} {v : V} {d : PyData} (h : RT K G H v d) : decide (v = .non) = isNo d := by
  cases h with
  | of h => cases h <;> rfl
  | lst => rfl
  | dK => rfl
  | dT => rfl
theorem f_is : OpF X (compareOp .Is) isO := by
  refine ⟨_, op_isN, ?_⟩
  intro G H x y d e z Q th h1 h2 hf k
  unfold isO at hf
  split at hf
  · cases hf
    exact ⟨h2.non_, by rw [h1.non_iff]; exact k _ _ Mono.refl (.bl _)⟩
  · cases hf
theorem f_isn : OpF X (compareOp .IsNot) isnO := by
  refine ⟨_, op_notN, ?_⟩
  intro G H x y d e z Q th h1 h2 hf k
  unfold isnO at hf
  split at hf
  · cases hf
    exact ⟨h2.non_, by rw [h1.non_iff]; exact k _ _ Mono.refl (.bl _)⟩
  · cases hf
end
/-! expressions with operators -/
def asB : PyData → M Bool
  | .bool b => ret b
  | _ => bad
def op2 (f : PyData → PyData → Option PyData) (ma mb : M PyData) : M PyData := bnd ma fun x => bnd mb fun y => lft (f x y)
def op1 (f : PyData → Option PyData) (ma : M PyData) : M PyData := bnd ma fun x => lft (f x)
section
variable {X : Cx} {Wx : WX} {env : Ev} {a b c : Expr} {pos : Pos} {ma mb mc : M PyData}
theorem de_bin {op : Operator} {f : PyData → PyData → Option PyData} (hf : OpF X (binaryOp op) f) (ha : PE X a (tT X.K X.mg Wx env ma)) (hb : PE X b (tT X.K X.mg Wx env mb)) : PE X (.BinOp a op b pos) (tD X.K X.mg Wx env (op2 f ma mb)) := by
  obtain ⟨r, h1, h2⟩ := hf
  exact de_op h1 h2 ha hb
theorem de_cp {op : CmpOp} {f : PyData → PyData → Option PyData} (hf : OpF X (compareOp op) f) (ha : PE X a (tT X.K X.mg Wx env ma)) (hb : PE X b (tT X.K X.mg Wx env mb)) (hm : behindInMarks op b = false := by first | exact nobehind _ (by decide) (by decide) | rfl) : PE X (.Compare a [op] [b] pos) (tD X.K X.mg Wx env (op2 f ma mb)) := by
  obtain ⟨r, h1, h2⟩ := hf
  exact de_cmp h1 h2 ha hb hm
theorem asB_res {K : PySem.W.Frag} {mg : Str → Option Value} {G : Gh} {H : Hp} {σ : L2.St} {S : Sto} {m : M PyData} {Q : Bool → Hp → Prop} (h : Res K mg Wx G H σ (bnd m asB S) (fun b G' H' => Q b H')) : Res K mg Wx G H σ (m S) (fun x G' H' => ∀ v, RD K G'.bar H' v x → ∃ k, v = .bl k ∧ Q k H') :=
  h.bind fun x S1 L1 H1 _ e1 ss1 h1 v r => by
    cases r with
    | bl k => exact ⟨k, rfl, h1 L1 H1 Ext.refl ss1⟩
    | _ => exact h1.elim
theorem dt_cp {op : CmpOp} {f : PyData → PyData → Option PyData} (hf : OpF X (compareOp op) f) (ha : PE X a (tT X.K X.mg Wx env ma)) (hb : PE X b (tT X.K X.mg Wx env mb)) (hm : behindInMarks op b = false := by first | exact nobehind _ (by decide) (by decide) | rfl) : PT X (.Compare a [op] [b] pos) (tQ X.K X.mg Wx env (bnd (op2 f ma mb) asB)) := by
  obtain ⟨r, h1, h2⟩ := hf
  refine PT.imp (pt_cmpR h1 ha hb hm) fun σ H Q ⟨G, S, ss, se, h⟩ => ?_
  exact op2_imp h2 σ H _ ⟨G, S, ss, se, asB_res h⟩
theorem chain_imp {f f' : PyData → PyData → Option PyData} {r r' : R2} (o2 : OpD X r f) (p2 : OpD X r' f') : ∀ σ H Q, tD X.K X.mg Wx env (bnd ma fun x => bnd mb fun y => bnd (bnd (lft (f x y)) asB) fun k => if k = true then bnd mc fun z => lft (f' y z) else ret (.bool false)) σ H Q → tChain r r' (tT X.K X.mg Wx env ma) (tT X.K X.mg Wx env mb) (tT X.K X.mg Wx env mc) σ H Q := by
  intro σ H Q ⟨G, S, ss, se, h⟩
  refine ⟨G, S, ss, se, h.bind fun x S1 L1 H1 _ e1 ss1 h1 v rv => ?_⟩
  refine ⟨_, S1, ss1, se.ext e1, h1.bind fun y S2 L2 H2 _ e2 ss2 h2 u ru => ?_⟩
  have se2 := (se.ext e1).ext e2
  have h3 : Res X.K X.mg Wx ((G.to L1).to L2) H2 σ (bnd (bnd (lft (f x y)) asB) (fun k => if k = true then bnd mc fun z => lft (f' y z) else ret (.bool false)) S2) (fun x G' H' => ∀ v, RD X.K G'.bar H' v x → Q v H') := h2
  unfold lft at h3
  cases q : f x y with
  | none =>
    rw [q] at h3
    exact h3.elim
  | some z =>
    rw [q] at h3
    refine o2 _ _ _ _ _ _ _ _ se2.there (rv.ext e2) ru q fun w' H3 m3 r3 => ?_
    cases r3 with
    | bl k =>
      refine ⟨k, rfl, ?_⟩
      cases k with
      | true =>
        have h4 : Res X.K X.mg Wx ((G.to L1).to L2) H2 σ (bnd mc (fun z => lft (f' y z)) S2) (fun x G' H' => ∀ v, RD X.K G'.bar H' v x → Q v H') := h3
        refine ⟨_, S2, ss2.mono m3, se2.ext (m3.ext (G := (G.to L1).to L2)), (h4.ext (m3.ext (G := (G.to L1).to L2))).bind fun z S3 L3 H4 _ e4 ss4 h5 w rw => ?_⟩
        unfold lft at h5
        cases q' : f' y z with
        | none =>
          rw [q'] at h5
          exact h5.elim
        | some t =>
          rw [q'] at h5
          exact p2 _ _ _ _ _ _ _ Q ((se2.ext (m3.ext (G := (G.to L1).to L2))).ext e4).there ((ru.ext (m3.ext (G := (G.to L1).to L2))).ext e4) rw q' (Res.done (o := .bad) h5 ss4)
      | false => exact h3 _ H3 m3.ext (ss2.mono m3) _ (.bl false)
    | _ => exact h3.elim
/-- a op b op c -/
theorem de_chain {op op' : CmpOp} {f f' : PyData → PyData → Option PyData} (hf : OpF X (compareOp op) f) (hf' : OpF X (compareOp op') f') (ha : PE X a (tT X.K X.mg Wx env ma)) (hb : PE X b (tT X.K X.mg Wx env mb)) (hc : PE X c (tT X.K X.mg Wx env mc)) (hm : lastMarks [op, op'] [b, c] = false := by with_unfolding_all rfl) :
    PE X (.Compare a [op, op'] [b, c] pos) (tD X.K X.mg Wx env (bnd ma fun x => bnd mb fun y => bnd (bnd (lft (f x y)) asB) fun k => if k = true then bnd mc fun z => lft (f' y z) else ret (.bool false))) := by
  obtain ⟨r, o1, o2⟩ := hf
  obtain ⟨r', p1, p2⟩ := hf'
  exact PE.imp (pe_chain o1 p1 ha hb hc hm) (chain_imp o2 p2)
theorem dt_chain {op op' : CmpOp} {f f' : PyData → PyData → Option PyData} (hf : OpF X (compareOp op) f) (hf' : OpF X (compareOp op') f') (ha : PE X a (tT X.K X.mg Wx env ma)) (hb : PE X b (tT X.K X.mg Wx env mb)) (hc : PE X c (tT X.K X.mg Wx env mc)) (hm : lastMarks [op, op'] [b, c] = false := by with_unfolding_all rfl) :
    PT X (.Compare a [op, op'] [b, c] pos) (tQ X.K X.mg Wx env (bnd (bnd ma fun x => bnd mb fun y => bnd (bnd (lft (f x y)) asB) fun k => if k = true then bnd mc fun z => lft (f' y z) else ret (.bool false)) asB)) := by
  obtain ⟨r, o1, o2⟩ := hf
  obtain ⟨r', p1, p2⟩ := hf'
  exact PT.imp (pt_chain o1 p1 ha hb hc hm) fun σ H Q ⟨G, S, ss, se, h⟩ => chain_imp o2 p2 σ H _ ⟨G, S, ss, se, asB_res h⟩
end
end DL

namespace DL
open PySem PySem.Spec PyProof.Rows L2
def truO : PyData → Option Bool
  | .none => some false
  | .bool b => some b
  | .int i => some (i != 0)
  | .str x => if x.length ≤ sizeLine then some ((x.length : Int) != 0) else none
  | .list xs => some (!xs.isEmpty)
  | .tuple xs => some (!xs.isEmpty)
  | _ => none
theorem isEmpty_len {α β : Type} {xs : List α} {ys : List β} (h : xs.length = ys.length) : xs.isEmpty = ys.isEmpty := by
  cases xs <;> cases ys <;> simp_all
section
variable {X : Cx} {Wx : WX} {env : Ev} {a b c : Expr} {rest : List Expr} {pos : Pos} {ma mb mc : M PyData} {m1 m2 : M Bool}
theorem tru_rt {K : PySem.W.Frag} {G : Gh} {H : Hp} {v : V} {d : PyData} {k : Bool} (h : RT K G H v d) (e : truO d = some k) : TruV K v H k := by
  unfold truO at e
  split at e
  · cases e; rw [h.non_]; rfl
  · cases e; rw [h.bl_]; rfl
  · cases e; rw [h.int_]; rfl
  · obtain ⟨e1, rfl⟩ := of_eq e; rw [h.str_]; exact ⟨e1, rfl⟩
  · cases e
    obtain ⟨a, xs, rfl, h1, h2⟩ := h.lst_
    exact .inl ⟨xs, h1, by rw [isEmpty_len h2.length]⟩
  · cases e
    obtain ⟨a, xs, rfl, h1, h2⟩ := h.tup_
    exact .inr (.inl ⟨xs, h1, by rw [isEmpty_len h2.length]⟩)
  · cases e
/-! tests -/
theorem dt_tru (ha : PE X a (tT X.K X.mg Wx env ma)) (he : ∀ whole, isTrue a X.env whole = (do let v ← whole; standAt a.pos; holding [v] (truthy v)) := by intro _; rfl) : PT X a (tQ X.K X.mg Wx env (bnd ma fun x => lft (truO x))) :=
  PT.imp (pt_truth ha he) fun σ H Q ⟨G, S, ss, se, h⟩ => ⟨G, S, ss, se, h.bind fun x S1 L1 H1 _ e1 ss1 h1 v r => by
    obtain ⟨k, e, q⟩ := lft_go h1 ss1
    exact ⟨k, tru_rt r e, q⟩⟩
theorem dt_not (ha : PT X a (tQ X.K X.mg Wx env m1)) : PT X (.UnaryOp .Not a pos) (tQ X.K X.mg Wx env (bnd m1 fun b => ret (!b))) :=
  PT.imp (pt_not ha) fun σ H Q ⟨G, S, ss, se, h⟩ => ⟨G, S, ss, se, h.bind fun x S1 L1 H1 _ e1 ss1 h1 => h1 L1 H1 Ext.refl ss1⟩
theorem dq_and1 (ha : PT X a (tQ X.K X.mg Wx env m1)) : PW X (.BoolOp .And [a] pos) (tQ X.K X.mg Wx env m1) := pw_and1 ha
theorem dq_or1 (ha : PT X a (tQ X.K X.mg Wx env m1)) : PW X (.BoolOp .Or [a] pos) (tQ X.K X.mg Wx env m1) := pw_or1 ha
theorem dq_and (ha : PT X a (tQ X.K X.mg Wx env m1)) (hb : PW X (.BoolOp .And (b :: rest) pos) (tQ X.K X.mg Wx env m2)) : PW X (.BoolOp .And (a :: b :: rest) pos) (tQ X.K X.mg Wx env (bnd m1 fun k => if k = true then m2 else ret false)) :=
  PW.imp (pw_and ha hb) fun σ H Q ⟨G, S, ss, se, h⟩ => ⟨G, S, ss, se, h.bind fun x S1 L1 H1 _ e1 ss1 h1 => by
    cases x with
    | true => exact ⟨_, S1, ss1, se.ext e1, h1⟩
    | false => exact h1 L1 H1 Ext.refl ss1⟩
theorem dq_or (ha : PT X a (tQ X.K X.mg Wx env m1)) (hb : PW X (.BoolOp .Or (b :: rest) pos) (tQ X.K X.mg Wx env m2)) : PW X (.BoolOp .Or (a :: b :: rest) pos) (tQ X.K X.mg Wx env (bnd m1 fun k => if k = true then ret true else m2)) :=
  PW.imp (pw_or ha hb) fun σ H Q ⟨G, S, ss, se, h⟩ => ⟨G, S, ss, se, h.bind fun x S1 L1 H1 _ e1 ss1 h1 => by
    cases x with
    | false => exact ⟨_, S1, ss1, se.ext e1, h1⟩
    | true => exact h1 L1 H1 Ext.refl ss1⟩
theorem dt_w {e : Expr} {t : TT} (h : PW X e t) : PT X e t := ⟨fun pins s σ H Q I q => h.run _ pins s σ H Q I q⟩
/-! as values -/
theorem lft_bnd {α β : Type} {o : Option α} {f : α → M β} {K : PySem.W.Frag} {mg : Str → Option Value} {G : Gh} {H : Hp} {σ : L2.St} {S : Sto} {R : β → Gh → Hp → Prop} (h : Res K mg Wx G H σ (bnd (lft o) f S) R) : ∃ a, o = some a ∧ Res K mg Wx G H σ (f a S) R := by
  unfold bnd lft at h
  cases o with
  | none => exact h.elim
  | some a => exact ⟨a, rfl, h⟩
theorem de_and (ha : PE X a (tD X.K X.mg Wx env ma)) (hb : PE X (.BoolOp .And (b :: rest) pos) (tD X.K X.mg Wx env mb)) : PE X (.BoolOp .And (a :: b :: rest) pos) (tD X.K X.mg Wx env (bnd ma fun x => bnd (lft (truO x)) fun k => if k = true then mb else ret x)) :=
  PE.imp (pe_andT ha hb) fun σ H Q ⟨G, S, ss, se, h⟩ => ⟨G, S, ss, se, h.bind fun x S1 L1 H1 _ e1 ss1 h1 v r => by
    obtain ⟨k, e, q⟩ := lft_bnd h1
    refine ⟨k, tru_rt (.of r) e, ?_⟩
    cases k with
    | true => exact ⟨_, S1, ss1, se.ext e1, q⟩
    | false => exact q L1 H1 Ext.refl ss1 v r⟩
theorem de_or (ha : PE X a (tD X.K X.mg Wx env ma)) (hb : PE X (.BoolOp .Or (b :: rest) pos) (tD X.K X.mg Wx env mb)) : PE X (.BoolOp .Or (a :: b :: rest) pos) (tD X.K X.mg Wx env (bnd ma fun x => bnd (lft (truO x)) fun k => if k = true then ret x else mb)) :=
  PE.imp (pe_orT ha hb) fun σ H Q ⟨G, S, ss, se, h⟩ => ⟨G, S, ss, se, h.bind fun x S1 L1 H1 _ e1 ss1 h1 v r => by
    obtain ⟨k, e, q⟩ := lft_bnd h1
    refine ⟨k, tru_rt (.of r) e, ?_⟩
    cases k with
    | false => exact ⟨_, S1, ss1, se.ext e1, q⟩
    | true => exact q L1 H1 Ext.refl ss1 v r⟩
theorem de_one {op} (h : PE X a (tD X.K X.mg Wx env ma)) : PE X (.BoolOp op [a] pos) (tD X.K X.mg Wx env ma) := pe_one h
theorem de_not (ha : PE X a (tT X.K X.mg Wx env ma)) : PE X (.UnaryOp .Not a pos) (tD X.K X.mg Wx env (bnd ma fun x => bnd (lft (truO x)) fun k => ret (.bool (!k)))) :=
  PE.imp (pe_notT ha) fun σ H Q ⟨G, S, ss, se, h⟩ => ⟨G, S, ss, se, h.bind fun x S1 L1 H1 _ e1 ss1 h1 v r => by
    obtain ⟨k, e, q⟩ := lft_bnd h1
    exact ⟨k, tru_rt r e, q L1 H1 Ext.refl ss1 _ (.bl _)⟩⟩
theorem de_ifx (hc : PT X c (tQ X.K X.mg Wx env m1)) (ha : PE X a (tD X.K X.mg Wx env ma)) (hb : PE X b (tD X.K X.mg Wx env mb)) : PE X (.IfExp c a b pos) (tD X.K X.mg Wx env (bnd m1 fun k => if k = true then ma else mb)) :=
  PE.imp (pe_ifExp hc ha hb) fun σ H Q ⟨G, S, ss, se, h⟩ => ⟨G, S, ss, se, h.bind fun x S1 L1 H1 _ e1 ss1 h1 => by
    cases x with
    | true => exact ⟨_, S1, ss1, se.ext e1, h1⟩
    | false => exact ⟨_, S1, ss1, se.ext e1, h1⟩⟩
theorem dw_ifx {ma mb : M W} (hc : PT X c (tQ X.K X.mg Wx env m1)) (ha : PE X a (tW X.K X.mg Wx env ma)) (hb : PE X b (tW X.K X.mg Wx env mb)) : PE X (.IfExp c a b pos) (tW X.K X.mg Wx env (bnd m1 fun k => if k = true then ma else mb)) :=
  PE.imp (pe_ifExp hc ha hb) fun σ H Q ⟨G, S, ss, se, h⟩ => ⟨G, S, ss, se, h.bind fun x S1 L1 H1 _ e1 ss1 h1 => by
    cases x with
    | true => exact ⟨_, S1, ss1, se.ext e1, h1⟩
    | false => exact ⟨_, S1, ss1, se.ext e1, h1⟩⟩
theorem dt_ifx (hc : PT X c (tQ X.K X.mg Wx env m1)) (ha : PE X a (tT X.K X.mg Wx env ma)) (hb : PE X b (tT X.K X.mg Wx env mb)) : PE X (.IfExp c a b pos) (tT X.K X.mg Wx env (bnd m1 fun k => if k = true then ma else mb)) :=
  PE.imp (pe_ifExp hc ha hb) fun σ H Q ⟨G, S, ss, se, h⟩ => ⟨G, S, ss, se, h.bind fun x S1 L1 H1 _ e1 ss1 h1 => by
    cases x with
    | true => exact ⟨_, S1, ss1, se.ext e1, h1⟩
    | false => exact ⟨_, S1, ss1, se.ext e1, h1⟩⟩
/-- -e -/
def negO : PyData → Option PyData
  | .int i => some (.int (-i))
  | _ => none
theorem de_neg (ha : PE X a (tT X.K X.mg Wx env ma)) : PE X (.UnaryOp .USub a pos) (tD X.K X.mg Wx env (op1 negO ma)) :=
  PE.imp (pe_un un_neg ha) fun σ H Q ⟨G, S, ss, se, h⟩ => ⟨G, S, ss, se, h.bind fun x S1 L1 H1 _ e1 ss1 h1 v r => by
    obtain ⟨k, e, q⟩ := lft_go h1 ss1
    unfold negO at e
    split at e
    · cases e; exact ⟨_, r.int_, q _ (.int _)⟩
    · cases e⟩

/-! subscripts -/
def ixO (c i : PyData) : Option PyData := match c, i with
  | .list xs, .int i => atI xs i
  | .tuple xs, .int i => atI xs i
  | .str z, .int i => if z.length ≤ sizeLine then (atI z.cps.toList i).map fun c => .str ⟨#[c]⟩ else none
  | _, _ => none
theorem rds_atI {K : PySem.W.Frag} {B : Addr → Prop} {H : Hp} {vs : List V} {ds : List PyData} {i : Int} {d : PyData} (h : RDs K B H vs ds) (e : atI ds i = some d) : ∃ v, atI vs i = some v ∧ RD K B H v d := by
  unfold atI at e ⊢
  rw [h.length]
  cases q : ixN ds.length i with
  | none => rw [q] at e; cases e
  | some j =>
    rw [q] at e
    exact h.get e
theorem ix_d : OpD X (rIx X.K) ixO := by
  intro G H x y d e z Q th h1 h2 hf k
  unfold ixO at hf
  split at hf
  · obtain ⟨a, xs, rfl, r1, r2⟩ := h1.lst_
    obtain ⟨v, e1, e2⟩ := rds_atI r2 hf
    exact .inl ⟨_, _, _, v, rfl, h2.int_, r1, e1, k _ _ Mono.refl e2⟩
  · obtain ⟨a, xs, rfl, r1, r2⟩ := h1.tup_
    obtain ⟨v, e1, e2⟩ := rds_atI r2 hf
    exact .inr (.inl ⟨_, _, _, v, rfl, h2.int_, r1, e1, k _ _ Mono.refl e2⟩)
  · rename_i zz i
    split at hf
    · rename_i hz
      cases e : atI zz.cps.toList i with
      | none => rw [e] at hf; cases hf
      | some c =>
        rw [e] at hf
        cases hf
        exact .inr (.inr ⟨zz, i, c, h1.str_, h2.int_, hz, e, k _ _ Mono.refl (.str _)⟩)
    · cases hf
  · cases hf
theorem de_ix (ha : PE X a (tT X.K X.mg Wx env ma)) (hb : PE X b (tT X.K X.mg Wx env mb)) (hs : PlainIx b := by intro _ _; rfl) : PE X (.Subscript a b pos) (tD X.K X.mg Wx env (op2 ixO ma mb)) := PE.imp (pe_ix ix_seq ha hb hs) (op2_imp ix_d)

/-! slices -/
def tP (K : PySem.W.Frag) (mg : Str → Option Value) (Wx : WX) (env : Ev) (m : M (Option Int)) : TO := fun σ H Q => GO K mg Wx env m (fun o _ H' => Q o H') σ H
theorem PO.imp {e : Option Expr} {t t' : TO} (h : PO X e t) (i : ∀ σ H Q, t' σ H Q → t σ H Q) : PO X e t' := ⟨fun pins s σ H Q I q => h.run pins s σ H Q I (i σ H Q q)⟩
def asI : PyData → M (Option Int)
  | .int i => ret (some i)
  | _ => bad
theorem dp_no : PO X none (tP X.K X.mg Wx env (ret none)) := PO.imp po_none fun σ H Q ⟨G, S, ss, se, h⟩ => h G.L H Ext.refl ss
theorem dp_so (ha : PE X a (tT X.K X.mg Wx env ma)) : PO X (some a) (tP X.K X.mg Wx env (bnd ma asI)) :=
  PO.imp (po_some ha) fun σ H Q ⟨G, S, ss, se, h⟩ => ⟨G, S, ss, se, h.bind fun x S1 L1 H1 _ e1 ss1 h1 v r => by
    unfold asI at h1
    split at h1
    · exact ⟨_, r.int_, h1 L1 H1 Ext.refl ss1⟩
    · exact h1.elim⟩
def cutD (xs : List PyData) (lo hi : Option Int) : List PyData := (xs.drop (HT.sIx xs.length 0 lo)).take (HT.sIx xs.length xs.length hi - HT.sIx xs.length 0 lo)
theorem rds_cut {K : PySem.W.Frag} {B : Addr → Prop} {H : Hp} {vs : List V} {ds : List PyData} (lo hi : Option Int) (h : RDs K B H vs ds) : RDs K B H (cutV vs lo hi) (cutD ds lo hi) := by
  unfold cutV cutD
  rw [h.length]
  exact (h.drop _).take _
def slO (c : PyData) (lo hi : Option Int) : Option PyData := match c with
  | .list xs => some (.list (cutD xs lo hi))
  | .tuple xs => some (.tuple (cutD xs lo hi))
  | .str z => if z.length ≤ sizeLine then some (.str (cutS z lo hi)) else none
  | _ => none
theorem SlR.or {r r' : V → Option Int → Option Int → Hp → VK → Prop} (h : L2.SlR X r) (h' : L2.SlR X r') : L2.SlR X (fun x lo hi H Q => r x lo hi H Q ∨ r' x lo hi H Q) :=
  fun pins s σ H x v vl vu lo hi sl Q I rx is p1 p2 q => q.elim (h pins s σ H x v vl vu lo hi sl Q I rx is p1 p2) (h' pins s σ H x v vl vu lo hi sl Q I rx is p1 p2)
theorem sIx_full {n : Nat} {lo hi : Option Int} {xs : List PyData} (hn : xs.length = n) (h : HT.sIx n 0 lo = 0 ∧ HT.sIx n n hi = n) : cutD xs lo hi = xs := by
  unfold cutD
  rw [hn, h.1, h.2, Nat.sub_zero, List.drop_zero, ← hn, List.take_length]
theorem de_sl {lo hi : Option Expr} {ml mh : M (Option Int)} {p2 : Pos} (ha : PE X a (tT X.K X.mg Wx env ma)) (hl : PO X lo (tP X.K X.mg Wx env ml)) (hh : PO X hi (tP X.K X.mg Wx env mh)) :
    PE X (.Subscript a (.Slice lo hi none p2) pos) (tD X.K X.mg Wx env (bnd ma fun x => bnd ml fun l => bnd mh fun h => lft (slO x l h))) :=
  PE.imp (pe_slice ((SlR.or sl_tupA sl_list).or sl_str) ha hl hh) fun σ H Q ⟨G, S, ss, se, h⟩ => ⟨G, S, ss, se, h.bind fun x S1 L1 H1 _ e1 ss1 h1 v r =>
    ⟨_, S1, ss1, se.ext e1, h1.bind fun l S2 L2 H2 _ e2 ss2 h2 => ⟨_, S2, ss2, (se.ext e1).ext e2, h2.bind fun u S3 L3 H3 _ e3 ss3 h3 => by
      obtain ⟨z, e, q⟩ := lft_go h3 ss3
      have r3 := (r.ext e2).ext e3
      have th := (((se.ext e1).ext e2).ext e3).there
      have qq := Res.done (o := .bad) (show Res X.K X.mg Wx (((G.to L1).to L2).to L3) H3 σ (.ok z S3) (fun x G' H' => ∀ v, RD X.K G'.bar H' v x → Q v H') from by
        unfold lft at h3
        rw [e] at h3
        exact h3) ss3
      unfold slO at e
      split at e
      · cases e
        obtain ⟨a, xs, rfl, r4, r5⟩ := r3.lst_
        exact .inl (.inr ⟨a, xs, rfl, r4, fun p hp => qq _ _ (Mono.upd hp) (new_lst hp th (rds_cut l u r5))⟩)
      · cases e
        obtain ⟨a, xs, rfl, r4, r5⟩ := r3.tup_
        refine .inl (.inl ⟨a, xs, rfl, r4, fun hf => ?_, fun hf p hp => qq _ _ (Mono.upd hp) (new_tup hp th (rds_cut l u r5))⟩)
        rw [sIx_full r5.length.symm hf] at qq
        cases r3 with
        | of r3 => exact qq _ _ Mono.refl r3
      · obtain ⟨c, rfl⟩ := of_eq e
        exact .inr ⟨_, r3.str_, c, qq _ _ Mono.refl (.str _)⟩
      · cases e⟩⟩⟩
/-- a new list of a list's part -/
def slL (c : PyData) (lo hi : Option Int) : Option (List PyData) := match c with
  | .list xs => some (cutD xs lo hi)
  | _ => none
theorem ft_sl {lo hi : Option Expr} {ml mh : M (Option Int)} {p2 : Pos} (ha : PE X a (tT X.K X.mg Wx env ma)) (hl : PO X lo (tP X.K X.mg Wx env ml)) (hh : PO X hi (tP X.K X.mg Wx env mh)) :
    PE X (.Subscript a (.Slice lo hi none p2) pos) (tF X.K X.mg Wx env Ob.lst (bnd ma fun x => bnd ml fun l => bnd mh fun h => lft (slL x l h))) :=
  PE.imp (pe_slice sl_list ha hl hh) fun σ H Q ⟨G, S, ss, se, h⟩ => ⟨G, S, ss, se, h.bind fun x S1 L1 H1 _ e1 ss1 h1 v r =>
    ⟨_, S1, ss1, se.ext e1, h1.bind fun l S2 L2 H2 _ e2 ss2 h2 => ⟨_, S2, ss2, (se.ext e1).ext e2, h2.bind fun u S3 L3 H3 _ e3 ss3 h3 => by
      obtain ⟨z, e, q⟩ := lft_go h3 ss3
      have r3 := (r.ext e2).ext e3
      unfold slL at e
      split at e
      · cases e
        obtain ⟨a, xs, rfl, r4, r5⟩ := r3.lst_
        exact ⟨a, xs, rfl, r4, fun p hp => q p _ _ hp ⟨_, rfl, rds_cut l u r5⟩ (Mono.upd hp) (by unfold upd; rw [if_pos rfl])⟩
      · cases e⟩⟩⟩

/-! displays -/
variable {es : List Expr} {ms : M (List PyData)}
theorem ln_nil : ∀ (S : Sto) (xs : List PyData) (S' : Sto), (ret [] : M (List PyData)) S = .ok xs S' → xs.length ≤ 0 := fun S xs S' e => by cases e; exact Nat.le_refl _
theorem ln_cons {m : M PyData} {ms : M (List PyData)} {n : Nat} (h : ∀ S xs S', ms S = .ok xs S' → xs.length ≤ n) : ∀ (S : Sto) (xs : List PyData) (S' : Sto), (bnd m fun x => bnd ms fun xs => ret (x :: xs)) S = .ok xs S' → xs.length ≤ n + 1 := fun S xs S' e => by
  unfold DL.bnd at e
  cases q : m S with
  | bad => rw [q] at e; cases e
  | exc c S1 => rw [q] at e; cases e
  | ok x S1 =>
    rw [q] at e
    cases q2 : ms S1 with
    | bad => simp only [q2] at e; cases e
    | exc c S2 => simp only [q2] at e; cases e
    | ok ys S2 =>
      simp only [q2] at e
      cases e
      simp [h S1 ys S' q2]
theorem de_tup {x1} {n : Nat} (h : PA X es (tDs X.K X.mg Wx env ms)) (hn : ∀ S xs S', ms S = .ok xs S' → xs.length ≤ n) (hl : n ≤ 1000 := by decide) : PE X (.Tuple es x1 pos) (tD X.K X.mg Wx env (bnd ms fun xs => ret (.tuple xs))) :=
  PE.imp (pe_tup h) fun σ H Q ⟨G, S, ss, se, h⟩ => ⟨G, S, ss, se, h.bind fun xs S1 L1 H1 e0 e1 ss1 h1 vs r => by
    have := hn S xs S1 e0
    have sl := sizeLine_eq
    exact ⟨by rw [r.length]; omega, fun p hp => Res.done (o := .bad) h1 ss1 _ _ (Mono.upd hp) (new_tup hp (se.ext e1).there r)⟩⟩
theorem ft_lst {n : Nat} (h : PA X es (tDs X.K X.mg Wx env ms)) (hn : ∀ S xs S', ms S = .ok xs S' → xs.length ≤ n) (hl : n ≤ 1000 := by decide) : PE X (.List es pos) (tF X.K X.mg Wx env Ob.lst ms) :=
  PE.imp (pe_lst h) fun σ H Q ⟨G, S, ss, se, h⟩ => ⟨G, S, ss, se, by
    have h' := h
    cases q : ms S with
    | bad => rw [q] at h'; exact h'
    | exc c S1 => rw [q] at h'; exact h'
    | ok xs S1 =>
      rw [q] at h'
      intro L1 H1 e1 ss1 vs r
      have := hn S xs S1 q
      have sl := sizeLine_eq
      exact ⟨by rw [r.length]; omega, fun p hp => h' L1 H1 e1 ss1 p _ _ hp ⟨vs, rfl, r⟩ (Mono.upd hp) (by unfold upd; rw [if_pos rfl])⟩⟩
theorem ft_dT : PE X (.Dict [] [] pos) (tF X.K X.mg Wx env Ob.dT (ret [])) :=
  PE.imp pe_dnewT fun σ H Q ⟨G, S, ss, se, h⟩ => fun p hp => h G.L H Ext.refl ss p _ _ hp ⟨[], rfl, rfl, .nil⟩ (Mono.upd hp) (by unfold upd; rw [if_pos rfl])
theorem ft_dK : PE X (.Dict [] [] pos) (tF X.K X.mg Wx env Ob.dK (ret [])) :=
  PE.imp pe_dnewK fun σ H Q ⟨G, S, ss, se, h⟩ => fun p hp => h G.L H Ext.refl ss p _ _ hp ⟨[], rfl, rfl, .nil⟩ (Mono.upd hp) (by unfold upd; rw [if_pos rfl])
end
end DL

namespace DL
open PySem PySem.Spec PyProof.Rows L2
/-! calls of built-ins over what is read -/
def RTs (K : PySem.W.Frag) (G : Gh) (H : Hp) (vs : List V) (ds : List PyData) : Prop := Paired (RT K G H) vs ds
def CF (X : Cx) (f : Value) (g : List PyData → Option PyData) : Prop := ∃ r, CallR X f r ∧
  ∀ (G : Gh) (H : Hp) (vs : List V) (ds : List PyData) (z : PyData) (Q : VK), (∀ a, G.bar a → Th H a) → RTs X.K G H vs ds → g ds = some z → (∀ v H', Mono H H' → RD X.K G.bar H' v z → Q v H') → r vs H Q
/-- a new list -/
def CL (X : Cx) (f : Value) (g : List PyData → Option (List PyData)) : Prop := ∃ r, CallR X f r ∧
  ∀ (G : Gh) (H : Hp) (vs : List V) (ds : List PyData) (z : List PyData) (Q : VK), (∀ a, G.bar a → Th H a) → RTs X.K G H vs ds → g ds = some z → (∀ p us H1 H', Mono H H1 → H1 p = none → RDs X.K G.bar H1 us z → Mono H1 H' → H' p = some (.lst us) → Q (.ref p) H') → r vs H Q
section
variable {X : Cx} {Wx : WX} {env : Ev} {e o : Expr} {es : List Expr} {x : Str} {p pos apos : Pos} {m ma mb : M PyData} {ms : M (List PyData)}
theorem RTs.ext {K : PySem.W.Frag} {G : Gh} {H H' : Hp} {L : List Addr} (e : Ext G H L H') : ∀ {vs : List V} {ds : List PyData}, RTs K G H vs ds → RTs K (G.to L) H' vs ds
  | _, _, .nil => .nil
  | _, _, .cons a b => .cons (a.ext e) (RTs.ext e b)
theorem dta_nil : PA X [] (tTs X.K X.mg Wx env (ret [])) := PA.imp pa_nil fun σ H Q ⟨G, S, ss, se, h⟩ => h G.L H Ext.refl ss [] .nil
theorem dta_cons (he : PE X e (tT X.K X.mg Wx env m)) (hs : PA X es (tTs X.K X.mg Wx env ms)) (na : starEach (e :: es) X.env = (false, eval e X.env) :: starEach es X.env := by rfl) :
    PA X (e :: es) (tTs X.K X.mg Wx env (bnd m fun x => bnd ms fun xs => ret (x :: xs))) :=
  PA.imp (pa_cons he hs na) fun σ H Q ⟨G, S, ss, se, h⟩ => ⟨G, S, ss, se, h.bind fun x S1 L1 H1 _ e1 ss1 h1 v r => ⟨_, S1, ss1, se.ext e1, h1.bind fun xs S2 L2 H2 _ e2 ss2 h2 vs rs => h2 L2 H2 Ext.refl ss2 (v :: vs) (.cons (r.ext e2) rs)⟩⟩
theorem cf_imp {f : Value} {g : List PyData → Option PyData} {r : List V → Hp → VK → Prop} (hd : ∀ (G : Gh) (H : Hp) (vs : List V) (ds : List PyData) (z : PyData) (Q : VK), (∀ a, G.bar a → Th H a) → RTs X.K G H vs ds → g ds = some z → (∀ v H', Mono H H' → RD X.K G.bar H' v z → Q v H') → r vs H Q) :
    ∀ σ H Q, tD X.K X.mg Wx env (bnd ms fun xs => lft (g xs)) σ H Q → tCB r (tTs X.K X.mg Wx env ms) σ H Q := fun σ H Q ⟨G, S, ss, se, h⟩ =>
  ⟨G, S, ss, se, h.bind fun xs S1 L1 H1 _ e1 ss1 h1 vs rs => by
    unfold lft at h1
    cases q : g xs with
    | none => rw [q] at h1; exact h1.elim
    | some z =>
      rw [q] at h1
      exact hd _ _ _ _ _ Q (se.ext e1).there rs q (Res.done (o := .bad) h1 ss1)⟩
theorem cl_imp {f : Value} {g : List PyData → Option (List PyData)} {r : List V → Hp → VK → Prop} (hd : ∀ (G : Gh) (H : Hp) (vs : List V) (ds : List PyData) (z : List PyData) (Q : VK), (∀ a, G.bar a → Th H a) → RTs X.K G H vs ds → g ds = some z → (∀ p us H1 H', Mono H H1 → H1 p = none → RDs X.K G.bar H1 us z → Mono H1 H' → H' p = some (.lst us) → Q (.ref p) H') → r vs H Q) :
    ∀ σ H Q, tF X.K X.mg Wx env Ob.lst (bnd ms fun xs => lft (g xs)) σ H Q → tCB r (tTs X.K X.mg Wx env ms) σ H Q := fun σ H Q ⟨G, S, ss, se, h⟩ =>
  ⟨G, S, ss, se, h.bind fun xs S1 L1 H1 _ e1 ss1 h1 vs rs => by
    obtain ⟨z, q, k⟩ := lft_go h1 ss1
    refine hd _ _ _ _ _ Q (se.ext e1).there rs q fun p us H2 H3 m1 hp r m2 h2 => ?_
    have h1' : Res X.K X.mg Wx (G.to L1) H1 σ (.ok z S1) (fun o G1 H1 => ∀ p u H2, H1 p = none → RC X.K X.mg G1 H1 u (Ob.lst o) → Mono H1 H2 → H2 p = some u → Q (V.ref p) H2) := by
      unfold lft at h1
      rw [q] at h1
      exact h1
    exact h1' L1 H2 (m1.ext (G := G.to L1)) (ss1.mono m1) p _ H3 hp ⟨us, rfl, r⟩ m2 h2⟩
theorem de_bi {id : String} {g : List PyData → Option PyData} (hc : CF X (.builtin id) g) (hg : Gl X x) (hm : X.mg x = none) (hv : bootBuiltins x = some (.builtin id)) (ha : PA X (e :: es) (tTs X.K X.mg Wx env ms)) (hn : x ≠ "__name__" := by decide) (hdb : (x == ("__debug__" : Str)) = false := by decide)
    (he : starEach (e :: es) X.env = (false, eval e X.env) :: starEach es X.env := by rfl) (hpl : (backTo pos (starEach es X.env)).any (·.1) = false := by rfl) : PE X (.Call (.Name x p) (e :: es) [] pos) (tD X.K X.mg Wx env (bnd ms fun xs => lft (g xs))) := by
  obtain ⟨r, h1, h2⟩ := hc
  exact PE.imp (pe_callB h1 hg hm hv ha hn hdb he hpl) (cf_imp (f := .builtin id) h2)
theorem de_ty {T : String} {g : List PyData → Option PyData} (hc : CF X (.type T) g) (hg : Gl X x) (hm : X.mg x = none) (hv : bootBuiltins x = some (.type T)) (ha : PA X (e :: es) (tTs X.K X.mg Wx env ms)) (hn : x ≠ "__name__" := by decide) (hdb : (x == ("__debug__" : Str)) = false := by decide)
    (he : starEach (e :: es) X.env = (false, eval e X.env) :: starEach es X.env := by rfl) (hpl : (backTo pos (starEach es X.env)).any (·.1) = false := by rfl) : PE X (.Call (.Name x p) (e :: es) [] pos) (tD X.K X.mg Wx env (bnd ms fun xs => lft (g xs))) := by
  obtain ⟨r, h1, h2⟩ := hc
  exact PE.imp (pe_callTy h1 hg hm hv ha hn hdb he hpl) (cf_imp (f := .type T) h2)
theorem ft_bi {id : String} {g : List PyData → Option (List PyData)} (hc : CL X (.builtin id) g) (hg : Gl X x) (hm : X.mg x = none) (hv : bootBuiltins x = some (.builtin id)) (ha : PA X (e :: es) (tTs X.K X.mg Wx env ms)) (hn : x ≠ "__name__" := by decide) (hdb : (x == ("__debug__" : Str)) = false := by decide)
    (he : starEach (e :: es) X.env = (false, eval e X.env) :: starEach es X.env := by rfl) (hpl : (backTo pos (starEach es X.env)).any (·.1) = false := by rfl) : PE X (.Call (.Name x p) (e :: es) [] pos) (tF X.K X.mg Wx env Ob.lst (bnd ms fun xs => lft (g xs))) := by
  obtain ⟨r, h1, h2⟩ := hc
  exact PE.imp (pe_callB h1 hg hm hv ha hn hdb he hpl) (cl_imp (f := .builtin id) h2)
theorem ft_ty {T : String} {g : List PyData → Option (List PyData)} (hc : CL X (.type T) g) (hg : Gl X x) (hm : X.mg x = none) (hv : bootBuiltins x = some (.type T)) (ha : PA X (e :: es) (tTs X.K X.mg Wx env ms)) (hn : x ≠ "__name__" := by decide) (hdb : (x == ("__debug__" : Str)) = false := by decide)
    (he : starEach (e :: es) X.env = (false, eval e X.env) :: starEach es X.env := by rfl) (hpl : (backTo pos (starEach es X.env)).any (·.1) = false := by rfl) : PE X (.Call (.Name x p) (e :: es) [] pos) (tF X.K X.mg Wx env Ob.lst (bnd ms fun xs => lft (g xs))) := by
  obtain ⟨r, h1, h2⟩ := hc
  exact PE.imp (pe_callTy h1 hg hm hv ha hn hdb he hpl) (cl_imp (f := .type T) h2)
/-! one by one -/
def lenO : List PyData → Option PyData
  | [.str x] => if x.length ≤ sizeLine then some (.int x.length) else none
  | [.list xs] => some (.int xs.length)
  | [.tuple xs] => some (.int xs.length)
  | _ => none
theorem RTs.one {K : PySem.W.Frag} {G : Gh} {H : Hp} {vs : List V} {d : PyData} (h : RTs K G H vs [d]) : ∃ v, vs = [v] ∧ RT K G H v d := by
  cases h with
  | cons a b => cases b; exact ⟨_, rfl, a⟩
theorem RTs.two {K : PySem.W.Frag} {G : Gh} {H : Hp} {vs : List V} {d d' : PyData} (h : RTs K G H vs [d, d']) : ∃ v v', vs = [v, v'] ∧ RT K G H v d ∧ RT K G H v' d' := by
  cases h with
  | cons a b =>
    obtain ⟨v', rfl, r⟩ := RTs.one b
    exact ⟨_, _, rfl, a, r⟩
theorem c_len : CF X (.builtin "len") lenO := by
  refine ⟨_, call_len, ?_⟩
  intro G H vs ds z Q th rs hf k
  unfold lenO at hf
  split at hf
  · obtain ⟨v, rfl, r⟩ := rs.one
    obtain ⟨c, rfl⟩ := of_eq hf
    exact ⟨v, _, rfl, by rw [r.str_]; exact ⟨c, rfl⟩, k _ _ Mono.refl (.int _)⟩
  · obtain ⟨v, rfl, r⟩ := rs.one
    cases hf
    obtain ⟨a, ys, rfl, r1, r2⟩ := r.lst_
    exact ⟨_, _, rfl, .inl ⟨ys, r1, rfl⟩, by rw [r2.length]; exact k _ _ Mono.refl (.int _)⟩
  · obtain ⟨v, rfl, r⟩ := rs.one
    cases hf
    obtain ⟨a, ys, rfl, r1, r2⟩ := r.tup_
    exact ⟨_, _, rfl, .inr ⟨ys, r1, rfl⟩, by rw [r2.length]; exact k _ _ Mono.refl (.int _)⟩
  · cases hf
def absO : List PyData → Option PyData
  | [.int i] => some (.int (if i < 0 then -i else i))
  | _ => none
theorem c_abs : CF X (.builtin "abs") absO := by
  refine ⟨_, call_abs, ?_⟩
  intro G H vs ds z Q th rs hf k
  unfold absO at hf
  split at hf
  · obtain ⟨v, rfl, r⟩ := rs.one
    cases hf
    exact ⟨_, by rw [r.int_], k _ _ Mono.refl (.int _)⟩
  · cases hf
def intO : List PyData → Option PyData
  | [.int i] => some (.int i)
  | [.bool b] => some (.int (if b then 1 else 0))
  | _ => none
theorem c_int : CF X (.type "int") intO := by
  refine ⟨_, call_int1, ?_⟩
  intro G H vs ds z Q th rs hf k
  unfold intO at hf
  split at hf
  · obtain ⟨v, rfl, r⟩ := rs.one
    cases hf
    exact .inl ⟨_, by rw [r.int_], k _ _ Mono.refl (.int _)⟩
  · obtain ⟨v, rfl, r⟩ := rs.one
    cases hf
    exact .inr ⟨_, by rw [r.bl_], k _ _ Mono.refl (.int _)⟩
  · cases hf
def tupO : List PyData → Option PyData
  | [.list xs] => some (.tuple xs)
  | [.tuple xs] => some (.tuple xs)
  | _ => none
theorem c_tup : CF X (.type "tuple") tupO := by
  refine ⟨_, call_tuple_of, ?_⟩
  intro G H vs ds z Q th rs hf k
  unfold tupO at hf
  split at hf
  · obtain ⟨v, rfl, r⟩ := rs.one
    cases hf
    obtain ⟨a, ys, rfl, r1, r2⟩ := r.lst_
    exact ⟨_, ys, rfl, .inl ⟨r1, fun l hl => k _ _ (Mono.upd hl) (new_tup hl th r2)⟩⟩
  · obtain ⟨v, rfl, r⟩ := rs.one
    cases hf
    cases r with
    | of r =>
      have r' := r
      cases r with
      | tup r1 r2 => exact ⟨_, _, rfl, .inr ⟨r1.sq, k _ _ Mono.refl r'⟩⟩
  · cases hf
def lstO : List PyData → Option (List PyData)
  | [.list xs] => some xs
  | [.tuple xs] => some xs
  | _ => none
theorem c_lst : CL X (.type "list") lstO := by
  refine ⟨_, call_list_of, ?_⟩
  intro G H vs ds z Q th rs hf k
  unfold lstO at hf
  split at hf
  · obtain ⟨v, rfl, r⟩ := rs.one
    cases hf
    obtain ⟨a, ys, rfl, r1, r2⟩ := r.lst_
    exact ⟨_, ys, rfl, .inl r1, fun l hl => k _ _ H _ Mono.refl hl r2 (Mono.upd hl) (by unfold upd; rw [if_pos rfl])⟩
  · obtain ⟨v, rfl, r⟩ := rs.one
    cases hf
    obtain ⟨a, ys, rfl, r1, r2⟩ := r.tup_
    exact ⟨_, ys, rfl, .inr r1, fun l hl => k _ _ H _ Mono.refl hl r2 (Mono.upd hl) (by unfold upd; rw [if_pos rfl])⟩
  · cases hf
/-! all, any of a list or tuple of truth values -/
def bools : List PyData → Option (List Bool)
  | [] => some []
  | .bool b :: r => (bools r).map (b :: ·)
  | _ => none
theorem bools_map : ∀ {xs : List PyData} {bs : List Bool}, bools xs = some bs → xs = bs.map PyData.bool
  | [], _, h => by cases h; rfl
  | .bool b :: r, bs, h => by
    unfold bools at h
    cases q : bools r with
    | none => rw [q] at h; cases h
    | some cs =>
      rw [q] at h
      cases h
      rw [bools_map q]
      rfl
  | .none :: _, _, h => by simp [bools] at h
  | .int _ :: _, _, h => by simp [bools] at h
  | .str _ :: _, _, h => by simp [bools] at h
  | .list _ :: _, _, h => by simp [bools] at h
  | .tuple _ :: _, _, h => by simp [bools] at h
  | .dict _ :: _, _, h => by simp [bools] at h
theorem plain_bools : ∀ bs : List Bool, PyData.plainAll (bs.map PyData.bool) = true
  | [] => rfl
  | b :: r => by
    show (PyData.plain (.bool b) && PyData.plainAll (r.map PyData.bool)) = true
    rw [plain_bools r]
    rfl
def allO : List PyData → Option PyData
  | [.list xs] => (bools xs).map fun bs => .bool (bs.all id)
  | [.tuple xs] => (bools xs).map fun bs => .bool (bs.all id)
  | _ => none
def anyO : List PyData → Option PyData
  | [.list xs] => (bools xs).map fun bs => .bool (bs.any id)
  | [.tuple xs] => (bools xs).map fun bs => .bool (bs.any id)
  | _ => none
def rBools (K : PySem.W.Frag) (g : List Bool → Bool) : List V → Hp → VK → Prop := fun xs H Q => ∃ (p : Addr) (bs : List Bool), xs = [.ref p] ∧ (SqL K H p (bs.map V.bl) ∨ SqT K H p (bs.map V.bl)) ∧ Q (.bl (g bs)) H
theorem vals_bls : ∀ {bs : List Bool} {us : List Value}, Vals (bs.map V.bl) us → us = bs.map Value.bool
  | [], _, .nil => rfl
  | b :: r, _, .cons h t => by
    cases h
    rw [vals_bls t]
    rfl
theorem readsAll_bls {h : Heap} : ∀ (bs : List Bool), ∃ as, ReadsAll h (bs.map Value.bool) (bs.map PyData.bool) as
  | [] => ⟨_, .nil⟩
  | b :: r => by
    obtain ⟨as, h⟩ := readsAll_bls (h := h) r
    exact ⟨_, .cons (.bool b) h⟩
theorem fits_bls (bs : List Bool) : ∀ x ∈ bs.map PyData.bool, PySem.PyData.fits63 x := by
  intro x hx
  obtain ⟨b, _, rfl⟩ := List.mem_map.mp hx
  trivial
theorem all_bls (bs : List Bool) : (bs.map PyData.bool).all PyData.truthy = bs.all id := by
  rw [List.all_map]
  rfl
theorem any_bls (bs : List Bool) : (bs.map PyData.bool).any PyData.truthy = bs.any id := by
  rw [List.any_map]
  rfl
theorem call_allB (hc : X.calm = true) : CallR X (.builtin "all") (rBools X.K fun bs => bs.all id) := by
  rintro pins s σ H xs us Q I r ⟨p, bs, rfl, hs, q⟩
  obtain ⟨u, rfl, rx⟩ := vals1 r
  cases rx
  have hh : X.A.handled = none := I.ok.hd hc
  obtain ⟨as, ra⟩ := readsAll_bls (h := s.heap) bs
  rcases hs with hs | hs
  · obtain ⟨its, rv, pl, _⟩ := I.list hs
    rw [vals_bls rv] at pl
    exact PySem.W.all_list_data hh pl.isList (by simpa using ra) (plain_bools bs) (fits_bls bs) fun h' tk k => ⟨.bl _, H, I.kept k, by rw [all_bls]; exact rfl, q⟩
  · obtain ⟨its, rv, pl, _⟩ := I.tuple hs
    rw [vals_bls rv] at pl
    exact PySem.W.all_tuple_data hh pl (by simpa using ra) (plain_bools bs) (fits_bls bs) fun h' tk k => ⟨.bl _, H, I.kept k, by rw [all_bls]; exact rfl, q⟩
theorem call_anyB (hc : X.calm = true) : CallR X (.builtin "any") (rBools X.K fun bs => bs.any id) := by
  rintro pins s σ H xs us Q I r ⟨p, bs, rfl, hs, q⟩
  obtain ⟨u, rfl, rx⟩ := vals1 r
  cases rx
  have hh : X.A.handled = none := I.ok.hd hc
  obtain ⟨as, ra⟩ := readsAll_bls (h := s.heap) bs
  rcases hs with hs | hs
  · obtain ⟨its, rv, pl, _⟩ := I.list hs
    rw [vals_bls rv] at pl
    exact PySem.W.any_list_data hh pl.isList (by simpa using ra) (plain_bools bs) (fits_bls bs) fun h' tk k => ⟨.bl _, H, I.kept k, by rw [any_bls]; exact rfl, q⟩
  · obtain ⟨its, rv, pl, _⟩ := I.tuple hs
    rw [vals_bls rv] at pl
    exact PySem.W.any_tuple_data hh pl (by simpa using ra) (plain_bools bs) (fits_bls bs) fun h' tk k => ⟨.bl _, H, I.kept k, by rw [any_bls]; exact rfl, q⟩
theorem c_all (hh : X.calm = true) : CF X (.builtin "all") allO := by
  refine ⟨_, call_allB hh, ?_⟩
  intro G H vs ds z Q th rs hf k
  unfold allO at hf
  split at hf
  · obtain ⟨v, rfl, r⟩ := rs.one
    obtain ⟨bs, hb, rfl⟩ := Option.map_eq_some_iff.mp hf
    obtain ⟨a, ys, rfl, r1, r2⟩ := r.lst_
    rw [bools_map hb] at r2
    rw [RDs.bls r2] at r1
    exact ⟨_, bs, rfl, .inl r1, k _ _ Mono.refl (.bl _)⟩
  · obtain ⟨v, rfl, r⟩ := rs.one
    obtain ⟨bs, hb, rfl⟩ := Option.map_eq_some_iff.mp hf
    obtain ⟨a, ys, rfl, r1, r2⟩ := r.tup_
    rw [bools_map hb] at r2
    rw [RDs.bls r2] at r1
    exact ⟨_, bs, rfl, .inr r1, k _ _ Mono.refl (.bl _)⟩
  · cases hf
theorem c_any (hh : X.calm = true) : CF X (.builtin "any") anyO := by
  refine ⟨_, call_anyB hh, ?_⟩
  intro G H vs ds z Q th rs hf k
  unfold anyO at hf
  split at hf
  · obtain ⟨v, rfl, r⟩ := rs.one
    obtain ⟨bs, hb, rfl⟩ := Option.map_eq_some_iff.mp hf
    obtain ⟨a, ys, rfl, r1, r2⟩ := r.lst_
    rw [bools_map hb] at r2
    rw [RDs.bls r2] at r1
    exact ⟨_, bs, rfl, .inl r1, k _ _ Mono.refl (.bl _)⟩
  · obtain ⟨v, rfl, r⟩ := rs.one
    obtain ⟨bs, hb, rfl⟩ := Option.map_eq_some_iff.mp hf
    obtain ⟨a, ys, rfl, r1, r2⟩ := r.tup_
    rw [bools_map hb] at r2
    rw [RDs.bls r2] at r1
    exact ⟨_, bs, rfl, .inr r1, k _ _ Mono.refl (.bl _)⟩
  · cases hf
end
end DL

namespace DL
open PySem PySem.Spec PyProof.Rows L2
section
variable {X : Cx} {Wx : WX} {env : Ev} {e o : Expr} {es : List Expr} {x : Str} {p pos apos : Pos} {m ma mb : M PyData} {ms : M (List PyData)}
/-! isinstance(e, T) -/
def IsiR (X : Cx) (T : String) (g : PyData → Bool) : Prop := CallR X (.builtin "isinstance") (fun xs H Q => ∃ (G : Gh) (v : V) (d : PyData), xs = [v, .ty T] ∧ RT X.K G H v d ∧ d.plain = true ∧ Q (.bl (g d)) H)
theorem isi_of {T : String} {g : PyData → Bool} (h : ∀ (v : Value) (d : PyData) (as : List Addr) (s : Shared) (Q E : Value → Shared → Prop), Reads s.heap v d as → (∀ tk, s.toks ≤ tk → Q (.bool (g d)) { s with toks := tk }) → wpAny (model X.prog X.w) X.A (call (.builtin "isinstance") [v, .type T]) Q E s) : IsiR X T g := by
  rintro pins s σ H xs us Q I r ⟨G, v, d, rfl, rd, hp, q⟩
  obtain ⟨u, w, rfl, r1, r2⟩ := vals2 r
  have e : w = .type T := r2
  subst e
  obtain ⟨as, ra⟩ := rd.reads I hp r1
  exact h _ _ as s _ _ ra fun tk _ => ⟨.bl _, H, I.tok _, rfl, q⟩
theorem isi_str : IsiR X "str" PyData.isStr := isi_of fun _ _ _ _ _ _ r h => PySem.W.isinstance_str_data r h
theorem isi_int : IsiR X "int" PyData.isInt := isi_of fun _ _ _ _ _ _ r h => PySem.W.isinstance_int_data r h
theorem isi_bool : IsiR X "bool" PyData.isBool := isi_of fun _ _ _ _ _ _ r h => PySem.W.isinstance_bool_data r h
theorem isi_tuple : IsiR X "tuple" PyData.isTuple := isi_of fun _ _ _ _ _ _ r h => PySem.W.isinstance_tuple_data r h
theorem isi_list : IsiR X "list" PyData.isList := isi_of fun _ _ _ _ _ _ r h => PySem.W.isinstance_list_data r h
theorem isi_dict : IsiR X "dict" PyData.isDict := isi_of fun _ _ _ _ _ _ r h => PySem.W.isinstance_dict_data r h
def isiO (g : PyData → Bool) (d : PyData) : Option PyData := if d.plain = true then some (.bool (g d)) else none
theorem pa_isi {T : String} {ty : Str} {p2 : Pos} (he : PE X e (tT X.K X.mg Wx env m)) (hg2 : Gl X ty) (hm2 : X.mg ty = none) (hv2 : bootBuiltins ty = some (.type T)) (hn2 : ty ≠ "__name__" := by decide) (hd2 : (ty == ("__debug__" : Str)) = false := by decide)
    (na : starEach [e, .Name ty p2] X.env = (false, eval e X.env) :: starEach [.Name ty p2] X.env := by rfl) (nb : starEach [.Name ty p2] X.env = (false, eval (.Name ty p2) X.env) :: starEach [] X.env := by rfl) :
    PA X [e, .Name ty p2] (tCons (tT X.K X.mg Wx env m) (tCons (tC (.ty T)) tNil)) := pa_cons he (pa_cons (pe_bltn (v := .ty T) hg2 hm2 hv2 rfl hn2 hd2) pa_nil nb) na
theorem de_isi {T : String} {g : PyData → Bool} {ty : Str} {p2 : Pos} (hr : IsiR X T g) (hg : Gl X "isinstance") (hm : X.mg "isinstance" = none) (he : PE X e (tT X.K X.mg Wx env m)) (hg2 : Gl X ty) (hm2 : X.mg ty = none) (hv2 : bootBuiltins ty = some (.type T)) (hn2 : ty ≠ "__name__" := by decide) (hd2 : (ty == ("__debug__" : Str)) = false := by decide)
    (na : starEach [e, .Name ty p2] X.env = (false, eval e X.env) :: starEach [.Name ty p2] X.env := by rfl) (nb : starEach [.Name ty p2] X.env = (false, eval (.Name ty p2) X.env) :: starEach [] X.env := by rfl) (hpl : (backTo pos (starEach [.Name ty p2] X.env)).any (·.1) = false := by rfl) :
    PE X (.Call (.Name "isinstance" p) [e, .Name ty p2] [] pos) (tD X.K X.mg Wx env (op1 (isiO g) m)) :=
  PE.imp (pe_callB hr hg hm rfl (pa_isi he hg2 hm2 hv2 hn2 hd2 na nb) (by decide) (by decide) na hpl) fun σ H Q ⟨G, S, ss, se, h⟩ => ⟨G, S, ss, se, h.bind fun x S1 L1 H1 _ e1 ss1 h1 v r => by
    obtain ⟨z, q, k⟩ := lft_go h1 ss1
    unfold isiO at q
    obtain ⟨c, rfl⟩ := of_eq q
    exact ⟨G.to L1, v, x, rfl, r, c, k _ (.bl _)⟩⟩
/-! methods of texts -/
def M1F (X : Cx) (id : String) (g : Str → PyData → Option PyData) : Prop := ∃ r, MtR X id r ∧
  ∀ (G : Gh) (H : Hp) (a : Str) (v : V) (d z : PyData) (Q : VK), RT X.K G H v d → g a d = some z → (∀ v H', Mono H H' → RD X.K G.bar H' v z → Q v H') → r (.str a) [v] H Q
def strO : PyData → Option Str
  | .str s => some s
  | _ => none
theorem strO_ {d : PyData} {s : Str} (h : strO d = some s) : d = .str s := by
  unfold strO at h
  split at h
  · cases h; rfl
  · cases h
def mth1 (g : Str → PyData → Option PyData) (ma mb : M PyData) : M PyData := bnd ma fun x => bnd (lft (strO x)) fun a => bnd mb fun y => lft (g a y)
def mth1L (g : Str → PyData → Option (List PyData)) (ma mb : M PyData) : M (List PyData) := bnd ma fun x => bnd (lft (strO x)) fun a => bnd mb fun y => lft (g a y)
def mth0 (g : Str → Option PyData) (ma : M PyData) : M PyData := bnd ma fun x => bnd (lft (strO x)) fun a => lft (g a)
theorem de_m1 {id : String} {name : Str} {g : Str → PyData → Option PyData} (slot : Slot "str" name id) (ty : typeOf (.builtin id) = pure (.type "method_descriptor")) (rule : M1F X id g) (ho : PE X o (tT X.K X.mg Wx env ma)) (he : PE X e (tT X.K X.mg Wx env mb))
    (hs : starEach [e] X.env = [(false, eval e X.env)] := by rfl) (hbase : attributeBase o name X.env (eval o X.env) = eval o X.env := by rfl) (hline : (apos.endLine == pos.line) = true := by rfl) :
    PE X (.Call (.Attribute o name apos) [e] [] pos) (tD X.K X.mg Wx env (mth1 g ma mb)) := by
  obtain ⟨r, o1, o2⟩ := rule
  refine PE.imp (pe_m1 slot ty o1 ho he hs hbase hline) fun σ H Q ⟨G, S, ss, se, h⟩ => ⟨G, S, ss, se, h.bind fun x S1 L1 H1 _ e1 ss1 hh v r => ?_⟩
  obtain ⟨a, q, h2⟩ := lft_bnd hh
  have q' := strO_ q
  subst q'
  refine ⟨⟨a, r.str_⟩, _, S1, ss1, se.ext e1, h2.bind fun y S2 L2 H2 _ e2 ss2 h3 u ru => ?_⟩
  rw [r.str_]
  unfold lft at h3
  cases q : g a y with
  | none => rw [q] at h3; exact h3.elim
  | some z =>
    rw [q] at h3
    exact o2 _ _ _ _ _ _ _ ru q (Res.done (o := .bad) h3 ss2)
def M0F (X : Cx) (id : String) (g : Str → Option PyData) : Prop := ∃ r, MtR X id r ∧
  ∀ (G : Gh) (H : Hp) (a : Str) (z : PyData) (Q : VK), g a = some z → (∀ v H', Mono H H' → RD X.K G.bar H' v z → Q v H') → r (.str a) [] H Q
theorem de_m0 {id : String} {name : Str} {g : Str → Option PyData} (slot : Slot "str" name id) (ty : typeOf (.builtin id) = pure (.type "method_descriptor")) (rule : M0F X id g) (ho : PE X o (tT X.K X.mg Wx env ma))
    (hbase : attributeBase o name X.env (eval o X.env) = eval o X.env := by rfl) (hline : (apos.endLine == pos.line) = true := by rfl) :
    PE X (.Call (.Attribute o name apos) [] [] pos) (tD X.K X.mg Wx env (mth0 g ma)) := by
  obtain ⟨r, o1, o2⟩ := rule
  refine PE.imp (pe_m0 slot ty o1 ho hbase hline) fun σ H Q ⟨G, S, ss, se, h⟩ => ⟨G, S, ss, se, h.bind fun x S1 L1 H1 _ e1 ss1 hh v r => ?_⟩
  obtain ⟨a, q, h2⟩ := lft_bnd hh
  have q' := strO_ q
  subst q'
  refine ⟨⟨a, r.str_⟩, ?_⟩
  rw [r.str_]
  unfold lft at h2
  cases q : g a with
  | none => rw [q] at h2; exact h2.elim
  | some z =>
    rw [q] at h2
    exact o2 (G.to L1) _ _ _ _ q (Res.done (o := .bad) h2 ss1)
/-! one by one -/
def stripO (a : Str) (b : PyData) : Option PyData := match b with
  | .str b => if a.length ≤ sizeLine then some (.str (Txt.stripChars a b)) else none
  | _ => none
theorem m_strip : M1F X "str.strip" stripO := ⟨_, mt_stripChars, fun G H a v d z Q r hf k => by
  unfold stripO at hf
  split at hf
  · obtain ⟨c, rfl⟩ := of_eq hf
    exact ⟨_, _, rfl, by rw [r.str_], c, k _ _ Mono.refl (.str _)⟩
  · cases hf⟩
def endsO (a : Str) (b : PyData) : Option PyData := match b with
  | .str b => some (.bool (Txt.endswith a b))
  | _ => none
theorem m_ends : M1F X "str.endswith" endsO := ⟨_, mt_endswith, fun G H a v d z Q r hf k => by
  unfold endsO at hf
  split at hf
  · cases hf
    exact ⟨_, _, rfl, by rw [r.str_], k _ _ Mono.refl (.bl _)⟩
  · cases hf⟩
def startsO (a : Str) (b : PyData) : Option PyData := match b with
  | .str b => some (.bool (Txt.startswith a b))
  | _ => none
theorem m_starts : M1F X "str.startswith" startsO := ⟨_, mt_startswith, fun G H a v d z Q r hf k => by
  unfold startsO at hf
  split at hf
  · cases hf
    exact ⟨_, _, rfl, by rw [r.str_], k _ _ Mono.refl (.bl _)⟩
  · cases hf⟩
def scountO (a : Str) (b : PyData) : Option PyData := match b with
  | .str b => some (.int (Txt.count a b))
  | _ => none
theorem m_count : M1F X "str.count" scountO := ⟨_, mt_count, fun G H a v d z Q r hf k => by
  unfold scountO at hf
  split at hf
  · cases hf
    exact ⟨_, _, rfl, by rw [r.str_], k _ _ Mono.refl (.int _)⟩
  · cases hf⟩
def sfindO (a : Str) (b : PyData) : Option PyData := match b with
  | .str b => some (.int (Txt.find a b))
  | _ => none
theorem m_find : M1F X "str.find" sfindO := ⟨_, mt_find, fun G H a v d z Q r hf k => by
  unfold sfindO at hf
  split at hf
  · cases hf
    exact ⟨_, _, rfl, by rw [r.str_], k _ _ Mono.refl (.int _)⟩
  · cases hf⟩
def upperO (a : Str) : Option PyData := if a.length ≤ 5592405 then some (.str (Txt.upper a)) else none
theorem m_upper : M0F X "str.upper" upperO := ⟨_, mt_upper, fun G H a z Q hf k => by
  obtain ⟨c, rfl⟩ := of_eq hf
  exact ⟨_, rfl, rfl, c, k _ _ Mono.refl (.str _)⟩⟩
def lowerO (a : Str) : Option PyData := if a.length ≤ 5592405 then some (.str (Txt.lower a)) else none
theorem m_lower : M0F X "str.lower" lowerO := ⟨_, mt_lower, fun G H a z Q hf k => by
  obtain ⟨c, rfl⟩ := of_eq hf
  exact ⟨_, rfl, rfl, c, k _ _ Mono.refl (.str _)⟩⟩
def strsD : List PyData → Option (List Str)
  | [] => some []
  | .str b :: r => (strsD r).map (b :: ·)
  | _ => none
theorem strsD_map : ∀ {xs : List PyData} {bs : List Str}, strsD xs = some bs → xs = bs.map PyData.str
  | [], _, h => by cases h; rfl
  | .str b :: r, bs, h => by
    unfold strsD at h
    cases q : strsD r with
    | none => rw [q] at h; cases h
    | some cs =>
      rw [q] at h
      cases h
      rw [strsD_map q]
      rfl
  | .none :: _, _, h => by simp [strsD] at h
  | .int _ :: _, _, h => by simp [strsD] at h
  | .bool _ :: _, _, h => by simp [strsD] at h
  | .list _ :: _, _, h => by simp [strsD] at h
  | .tuple _ :: _, _, h => by simp [strsD] at h
  | .dict _ :: _, _, h => by simp [strsD] at h
def joinS (a : Str) (ys : List Str) : Option PyData := if (ys.map (·.length)).sum + ys.length * a.length ≤ 16777216 then some (.str (Txt.join a ys)) else none
def joinO (a : Str) (b : PyData) : Option PyData := match b with
  | .list xs => (strsD xs).bind (joinS a)
  | .tuple xs => (strsD xs).bind (joinS a)
  | _ => none
theorem m_join : M1F X "str.join" joinO := ⟨_, mt_join, fun G H a v d z Q r hf k => by
  unfold joinO at hf
  split at hf
  · cases q : strsD _ with
    | none => rw [q] at hf; cases hf
    | some ys =>
      rw [q] at hf
      obtain ⟨c, rfl⟩ := of_eq (show (if _ then _ else _) = _ from hf)
      obtain ⟨p, vs, rfl, r1, r2⟩ := r.lst_
      rw [strsD_map q] at r2
      rw [RDs.strs r2] at r1
      exact ⟨_, p, ys, rfl, rfl, .inl r1, c, k _ _ Mono.refl (.str _)⟩
  · cases q : strsD _ with
    | none => rw [q] at hf; cases hf
    | some ys =>
      rw [q] at hf
      obtain ⟨c, rfl⟩ := of_eq (show (if _ then _ else _) = _ from hf)
      obtain ⟨p, vs, rfl, r1, r2⟩ := r.tup_
      rw [strsD_map q] at r2
      rw [RDs.strs r2] at r1
      exact ⟨_, p, ys, rfl, rfl, .inr r1, c, k _ _ Mono.refl (.str _)⟩
  · cases hf⟩
/-! e.split(s) -/
def splitO (a : Str) (b : PyData) : Option (List PyData) := match b with
  | .str b => if (b.length == 0) = false ∧ a.length + 2 ≤ sizeLine then some ((Txt.split a b).map .str) else none
  | _ => none
theorem rds_strs {K : PySem.W.Frag} {B : Addr → Prop} {H : Hp} : ∀ (cs : List Str), RDs K B H (cs.map V.str) (cs.map PyData.str)
  | [] => .nil
  | c :: r => .cons (.str c) (rds_strs r)
theorem ft_split (ho : PE X o (tT X.K X.mg Wx env ma)) (he : PE X e (tT X.K X.mg Wx env mb)) (hs : starEach [e] X.env = [(false, eval e X.env)] := by rfl) (hbase : attributeBase o "split" X.env (eval o X.env) = eval o X.env := by rfl) (hline : (apos.endLine == pos.line) = true := by rfl) :
    PE X (.Call (.Attribute o "split" apos) [e] [] pos) (tF X.K X.mg Wx env Ob.lst (mth1L splitO ma mb)) := by
  refine PE.imp (pe_split ho he hs hbase hline) fun σ H Q ⟨G, S, ss, se, h⟩ => ⟨G, S, ss, se, h.bind fun x S1 L1 H1 _ e1 ss1 hh v r => ?_⟩
  obtain ⟨a, q, h2⟩ := lft_bnd hh
  have q' := strO_ q
  subst q'
  refine ⟨⟨a, r.str_⟩, _, S1, ss1, se.ext e1, h2.bind fun y S2 L2 H2 _ e2 ss2 h3 u ru => ?_⟩
  obtain ⟨z, q, k⟩ := lft_go h3 ss2
  unfold splitO at q
  split at q
  · obtain ⟨⟨c1, c2⟩, rfl⟩ := of_eq q
    exact ⟨a, _, r.str_, by rw [ru.str_], c1, c2, fun p hp => k p _ _ hp ⟨_, rfl, rds_strs _⟩ (Mono.upd hp) (by unfold upd; rw [if_pos rfl])⟩
  · cases q
end
end DL

namespace DL
open PySem PySem.Spec PyProof.Rows L2
/-! ### targets -/
section
variable {K : PySem.W.Frag} {mg : Str → Option Value} {G : Gh} {H : Hp} {env : Ev} {σ : L2.St}
theorem SE.setA {i : Nat} {v : V} {w : W} (h : SE K mg G env σ H) (r : RW K mg G H v w) : SE K mg G (env.set i (some (.w w))) (σ.set i (some v)) H := by
  by_cases hi : i < env.length
  · exact h.set hi r
  · rw [List.set_eq_of_length_le (by omega), List.set_eq_of_length_le (by rw [h.len]; omega)]
    exact h
end
def fe1 (i : Nat) : Ev → PyData → Option Ev := fun env x => some (env.set i (some (.w (.d x))))
def feN : Ev → List PyData → Option Ev := fun env xs => match xs with
  | [] => some env
  | _ => none
def feC (f : Ev → PyData → Option Ev) (g : Ev → List PyData → Option Ev) : Ev → List PyData → Option Ev := fun env xs => match xs with
  | [] => none
  | x :: r => (f env x).bind fun e => g e r
def feT (g : Ev → List PyData → Option Ev) : Ev → PyData → Option Ev := fun env x => match x with
  | .tuple xs => g env xs
  | _ => none
section
variable {X : Cx} {pos : Pos}
def DGs (X : Cx) (tgs : List Expr) (n : Nat) (fe : Ev → List PyData → Option Ev) : Prop :=
  (∀ env xs env', fe env xs = some env' → xs.length = n) ∧ ∃ g, PGs X tgs g ∧ ∀ (G : Gh) (env env' : Ev) (σ : L2.St) (H : Hp) (vs : List V) (xs : List PyData) (Q : L2.St → Hp → Prop), SE X.K X.mg G env σ H → RDs X.K G.bar H vs xs → fe env xs = some env' → (∀ σ', SE X.K X.mg G env' σ' H → Q σ' H) → g vs σ H Q
theorem feN_len : ∀ env xs env', feN env xs = some env' → xs.length = 0 := fun env xs env' e => by
  unfold feN at e
  split at e
  · rfl
  · cases e
theorem feC_len {f : Ev → PyData → Option Ev} {g : Ev → List PyData → Option Ev} {n : Nat} (h : ∀ env xs env', g env xs = some env' → xs.length = n) : ∀ env xs env', feC f g env xs = some env' → xs.length = n + 1 := fun env xs env' e => by
  unfold feC at e
  split at e
  · cases e
  · rename_i x xr
    cases ee : f env x with
    | none => rw [ee] at e; cases e
    | some env1 =>
      rw [ee] at e
      rw [List.length_cons, h env1 xr env' e]
theorem dg_name {i : Nat} {x : Str} (hN : X.N.Nodup) (hi : X.N[i]? = some x) (hx : Loc X.env.scope x) (hf : X.fn x = true ∨ X.env.scope.names.lookup x = some .local := by first | exact .inl rfl | exact .inr rfl | assumption) : DG X (.Name x pos) (fe1 i) :=
  ⟨_, pg_name hN hi hx hf, fun G env env' σ H v x Q se r e k => by
    cases e
    exact k _ (se.setA r)⟩
theorem dgs_nil : DGs X [] 0 feN := ⟨feN_len, _, pgs_nil, fun G env env' σ H vs xs Q se r e k => by
  unfold feN at e
  split at e
  · cases e
    cases r
    exact ⟨rfl, k _ se⟩
  · cases e⟩
theorem dgs_cons {e : Expr} {es : List Expr} {n : Nat} {f : Ev → PyData → Option Ev} {g : Ev → List PyData → Option Ev} (h1 : DG X e f) (h2 : DGs X es n g) (hs : (assignEach (e :: es) X.env).map (·.2) = assign e X.env :: (assignEach es X.env).map (·.2) := by rfl) : DGs X (e :: es) (n + 1) (feC f g) := by
  obtain ⟨g1, p1, q1⟩ := h1
  obtain ⟨hl, g2, p2, q2⟩ := h2
  refine ⟨feC_len hl, _, pgs_cons p1 p2 hs, fun G env env' σ H vs xs Q se r e k => ?_⟩
  unfold feC at e
  split at e
  · cases e
  · cases r with
    | cons r rs =>
      rename_i x xr v vr
      cases ee : f env x with
      | none => rw [ee] at e; cases e
      | some env1 =>
        rw [ee] at e
        exact ⟨v, vr, rfl, q1 G env env1 σ H v x _ se r ee fun σ' se' => q2 G env1 env' σ' H vr xr Q se' rs e k⟩
theorem dg_tup {es : List Expr} {kk n : Nat} {g : Ev → List PyData → Option Ev} (hc : X.calm = true) (h : DGs X es n g) (hn : (assignEach es X.env).length = n := by rfl) (hst : (assignEach es X.env).findIdx? (·.1) = none := by rfl) : DG X (.Tuple es kk pos) (feT g) := by
  obtain ⟨hl, g2, p2, q2⟩ := h
  refine ⟨_, pg_tup (n := n) hc p2 hn hst, fun G env env' σ H v x Q se r e k => ?_⟩
  unfold feT at e
  split at e
  · cases r with
    | tup r rs => exact ⟨_, _, rfl, r.sq, by rw [rs.length, hl _ _ _ e], q2 G env env' σ H _ _ Q se rs e k⟩
  · cases e
/-! .. of comprehensions -/
def CGs (X : Cx) (tgs : List Expr) (scope : Scope) (vs : List Nat) (n : Nat) (fe : Ev → List PyData → Option Ev) : Prop :=
  (∀ env xs env', fe env xs = some env' → xs.length = n) ∧ ∃ g, (∀ (s : Shared) (H : Hp) (C : Addr) (cl : List (Str × Addr)) (fp : List Addr), PGs (X.blk s H scope (compEnvC scope cl C X.env) fp) tgs g) ∧
    ∀ (G : Gh) (env env' : Ev) (σ : L2.St) (H : Hp) (us : List V) (xs : List PyData) (Q : L2.St → Hp → Prop), SE X.K X.mg G env σ H → RDs X.K G.bar H us xs → fe env xs = some env' → (∀ σ', wipe σ' vs = wipe σ vs → SE X.K X.mg G env' σ' H → Q σ' H) → g us σ H Q
theorem wipe_set {σ : L2.St} {vs : List Nat} {i : Nat} {v : Option V} (h : i ∈ vs) : wipe (σ.set i v) vs = wipe σ vs := wipe_ext (by simp) fun j hj => List.getElem?_set_ne fun e => hj (by rw [← e]; exact h)
theorem cg_name {i : Nat} {x : Str} {scope : Scope} {vs : List Nat} (hN : X.N.Nodup) (hi : X.N[i]? = some x) (hv : i ∈ vs) (hl : (relabel scope X.env).names.lookup x = some .local) : CG X (.Name x pos) scope vs (fe1 i) :=
  ⟨_, fun s H C cl fp => pg_name (X := X.blk s H scope (compEnvC scope cl C X.env) fp) hN hi (.inl hl) (.inr hl), fun G env env' σ H v x Q se r e k => by
    cases e
    exact k _ (wipe_set hv) (se.setA r)⟩
theorem cgs_nil {scope : Scope} {vs : List Nat} : CGs X [] scope vs 0 feN := ⟨feN_len, _, fun _ _ _ _ _ => pgs_nil, fun G env env' σ H us xs Q se r e k => by
  unfold feN at e
  split at e
  · cases e
    cases r
    exact ⟨rfl, k _ rfl se⟩
  · cases e⟩
theorem cgs_cons {scope : Scope} {vs : List Nat} {e : Expr} {es : List Expr} {n : Nat} {f : Ev → PyData → Option Ev} {g : Ev → List PyData → Option Ev} (h1 : CG X e scope vs f) (h2 : CGs X es scope vs n g) (hs : ∀ Y : Env, (assignEach (e :: es) Y).map (·.2) = assign e Y :: (assignEach es Y).map (·.2) := by intro _; rfl) : CGs X (e :: es) scope vs (n + 1) (feC f g) := by
  obtain ⟨g1, p1, q1⟩ := h1
  obtain ⟨hl, g2, p2, q2⟩ := h2
  refine ⟨feC_len hl, _, fun s H C cl fp => pgs_cons (p1 s H C cl fp) (p2 s H C cl fp) (hs _), fun G env env' σ H us xs Q se r e k => ?_⟩
  unfold feC at e
  split at e
  · cases e
  · cases r with
    | cons r rs =>
      rename_i x xr v vr
      cases ee : f env x with
      | none => rw [ee] at e; cases e
      | some env1 =>
        rw [ee] at e
        exact ⟨v, vr, rfl, q1 G env env1 σ H v x _ se r ee fun σ' w' se' => q2 G env1 env' σ' H vr xr Q se' rs e fun σ2 w2 se2 => k σ2 (w2.trans w') se2⟩
theorem cg_tup {scope : Scope} {vs : List Nat} {es : List Expr} {kk n : Nat} {g : Ev → List PyData → Option Ev} (hc : ∀ (s : Shared) (H : Hp) (C : Addr) (cl : List (Str × Addr)) (fp : List Addr), (X.blk s H scope (compEnvC scope cl C X.env) fp).calm = true) (h : CGs X es scope vs n g) (hn : ∀ Y : Env, (assignEach es Y).length = n := by intro _; rfl) (hst : ∀ Y : Env, (assignEach es Y).findIdx? (·.1) = none := by intro _; rfl) : CG X (.Tuple es kk pos) scope vs (feT g) := by
  obtain ⟨hl, g2, p2, q2⟩ := h
  refine ⟨gTup X.K n g2, fun s H C cl fp => pg_tup (X := X.blk s H scope (compEnvC scope cl C X.env) fp) (n := n) (hc s H C cl fp) (p2 s H C cl fp) (hn _) (hst _), fun G env env' σ H v x Q se r e k => ?_⟩
  unfold feT at e
  split at e
  · cases r with
    | tup r rs => exact ⟨_, _, rfl, r.sq, by rw [rs.length, hl _ _ _ e], q2 G env env' σ H _ _ Q se rs e k⟩
  · cases e
end
/-! bodies over several names -/
def un2 {α : Type} (x : PyData) (f : PyData → PyData → M α) : M α := match x with
  | .tuple [a, b] => f a b
  | _ => bad
def un3 {α : Type} (x : PyData) (f : PyData → PyData → PyData → M α) : M α := match x with
  | .tuple [a, b, c] => f a b c
  | _ => bad
theorem fe2_inv {i j : Nat} {env env' : Ev} {x : PyData} (e : feT (feC (fe1 i) (feC (fe1 j) feN)) env x = some env') : ∃ a b, x = .tuple [a, b] ∧ env' = (env.set i (some (.w (.d a)))).set j (some (.w (.d b))) := by
  unfold feT at e
  split at e
  · rename_i xs
    match xs, e with
    | [a, b], e => exact ⟨a, b, rfl, (Option.some.inj e).symm⟩
    | [], e => cases e
    | [a], e => cases e
    | a :: b :: c :: r, e => cases e
  · cases e
theorem fe3_inv {i j k : Nat} {env env' : Ev} {x : PyData} (e : feT (feC (fe1 i) (feC (fe1 j) (feC (fe1 k) feN))) env x = some env') : ∃ a b c, x = .tuple [a, b, c] ∧ env' = ((env.set i (some (.w (.d a)))).set j (some (.w (.d b)))).set k (some (.w (.d c))) := by
  unfold feT at e
  split at e
  · rename_i xs
    match xs, e with
    | [a, b, c], e => exact ⟨a, b, c, rfl, (Option.some.inj e).symm⟩
    | [], e => cases e
    | [a], e => cases e
    | [a, b], e => cases e
    | a :: b :: c :: d :: r, e => cases e
  · cases e
theorem fe2_none {i j : Nat} {env : Ev} {x : PyData} {α : Type} {f : PyData → PyData → M α} (e : feT (feC (fe1 i) (feC (fe1 j) feN)) env x = none) : un2 x f = bad := by
  unfold un2
  split
  · cases e
  · rfl
theorem fe3_none {i j k : Nat} {env : Ev} {x : PyData} {α : Type} {f : PyData → PyData → PyData → M α} (e : feT (feC (fe1 i) (feC (fe1 j) (feC (fe1 k) feN))) env x = none) : un3 x f = bad := by
  unfold un3
  split
  · cases e
  · rfl
section
variable {X : Cx} {Wx : WX} {τ l : Type} {post : τ → Ev} {lp : l → Ev} {env : Ev} {body : List Stmt}
theorem b1 {i : Nat} {f : PyData → M (Fl τ l)} (h : ∀ a, PSs X body (tB X.K X.mg Wx (env.set i (some (.w (.d a)))) post lp (f a))) : ∀ x env', fe1 i env x = some env' → PSs X body (tB X.K X.mg Wx env' post lp (f x)) := fun x env' e => by
  cases e; exact h x
theorem b2 {i j : Nat} {f : PyData → PyData → M (Fl τ l)} (h : ∀ a b, PSs X body (tB X.K X.mg Wx ((env.set i (some (.w (.d a)))).set j (some (.w (.d b)))) post lp (f a b))) : ∀ x env', feT (feC (fe1 i) (feC (fe1 j) feN)) env x = some env' → PSs X body (tB X.K X.mg Wx env' post lp (un2 x f)) := fun x env' e => by
  obtain ⟨a, b, rfl, rfl⟩ := fe2_inv e
  exact h a b
theorem b3 {i j k : Nat} {f : PyData → PyData → PyData → M (Fl τ l)} (h : ∀ a b c, PSs X body (tB X.K X.mg Wx (((env.set i (some (.w (.d a)))).set j (some (.w (.d b)))).set k (some (.w (.d c)))) post lp (f a b c))) : ∀ x env', feT (feC (fe1 i) (feC (fe1 j) (feC (fe1 k) feN))) env x = some env' → PSs X body (tB X.K X.mg Wx env' post lp (un3 x f)) := fun x env' e => by
  obtain ⟨a, b, c, rfl, rfl⟩ := fe3_inv e
  exact h a b c
end
end DL

namespace DL
open PySem PySem.Spec PyProof.Rows L2
/-! ### own objects, written -/
def short {α β : Type} (xs : List β) (m : M α) : M α := if xs.length < sizeLine then m else bad
def setO (xs : List PyData) (i v : PyData) : Option (List PyData) := match i with
  | .int k => (ixN xs.length k).map fun j => xs.set j v
  | _ => none
section
variable {κ : Type} [DecidableEq κ]
def putD (kvs : List (κ × PyData)) (k : κ) (v : PyData) : List (κ × PyData) :=
  if (kvs.any fun kv => decide (kv.1 = k)) = true then kvs.map (fun kv => if kv.1 = k then (kv.1, v) else kv) else kvs ++ [(k, v)]
variable {K : PySem.W.Frag} {B : Addr → Prop} {H : Hp}
theorem any_keys {α β : Type} (k : κ) : ∀ {xs : List (κ × α)} {ys : List (κ × β)}, xs.map (·.1) = ys.map (·.1) → (xs.any fun kv => decide (kv.1 = k)) = (ys.any fun kv => decide (kv.1 = k))
  | [], [], _ => rfl
  | [], _ :: _, h => by simp at h
  | _ :: _, [], h => by simp at h
  | x :: xs, y :: ys, h => by
    simp only [List.map_cons, List.cons.injEq] at h
    rw [List.any_cons, List.any_cons, h.1, any_keys k h.2]
theorem put_map {k : κ} {v : V} {d : PyData} (r : RD K B H v d) : ∀ {xs : List (κ × V)} {ys : List (κ × PyData)}, xs.map (·.1) = ys.map (·.1) → RDs K B H (xs.map (·.2)) (ys.map (·.2)) →
    (xs.map (fun kv => if kv.1 = k then (kv.1, v) else kv)).map (·.1) = (ys.map (fun kv => if kv.1 = k then (kv.1, d) else kv)).map (·.1) ∧ RDs K B H ((xs.map (fun kv => if kv.1 = k then (kv.1, v) else kv)).map (·.2)) ((ys.map (fun kv => if kv.1 = k then (kv.1, d) else kv)).map (·.2))
  | [], [], _, _ => ⟨rfl, .nil⟩
  | [], _ :: _, h, _ => by simp at h
  | _ :: _, [], h, _ => by simp at h
  | x :: xs, y :: ys, h, rs => by
    simp only [List.map_cons, List.cons.injEq] at h
    cases rs with
    | cons a b =>
      obtain ⟨i1, i2⟩ := put_map r h.2 b
      simp only [List.map_cons]
      by_cases e : x.1 = k
      · rw [if_pos e, if_pos (h.1 ▸ e)]
        exact ⟨by rw [i1, h.1], .cons r i2⟩
      · rw [if_neg e, if_neg (h.1 ▸ e)]
        exact ⟨by rw [i1, h.1], .cons a i2⟩
theorem put_rel {k : κ} {v : V} {d : PyData} (r : RD K B H v d) {xs : List (κ × V)} {ys : List (κ × PyData)} (h : xs.map (·.1) = ys.map (·.1)) (rs : RDs K B H (xs.map (·.2)) (ys.map (·.2))) : (putK xs k v).map (·.1) = (putD ys k d).map (·.1) ∧ RDs K B H ((putK xs k v).map (·.2)) ((putD ys k d).map (·.2)) := by
  unfold putK putD
  rw [any_keys k h]
  by_cases e : (ys.any fun kv => decide (kv.1 = k)) = true
  · rw [if_pos e, if_pos e]
    exact put_map r h rs
  · rw [if_neg e, if_neg e, List.map_append, List.map_append, List.map_append, List.map_append, h]
    exact ⟨rfl, rs.append (.cons r .nil)⟩
end
def keyD : PyData → Option Key
  | .int i => some (.inl i)
  | .str x => some (.inr x)
  | _ => none
def keysD : List PyData → Option (List Key)
  | [] => some []
  | d :: r => match keyD d, keysD r with
    | some k, some ks => some (k :: ks)
    | _, _ => none
def keyT : PyData → Option (List Key)
  | .tuple xs => keysD xs
  | _ => none
theorem keyD_ {d : PyData} {k : Key} (h : keyD d = some k) : d = kD k := by
  unfold keyD at h
  split at h
  · cases h; rfl
  · cases h; rfl
  · cases h
theorem keysD_ : ∀ {ds : List PyData} {ks : List Key}, keysD ds = some ks → ds = ks.map kD
  | [], _, h => by cases h; rfl
  | d :: r, ks, h => by
    unfold keysD at h
    split at h
    · rename_i k ks' h1 h2
      cases h
      rw [keyD_ h1, keysD_ h2]
      rfl
    · cases h
section
variable {X : Cx} {Wx : WX} {env : Ev} {τ l : Type} {post : τ → Ev} {lp : l → Ev} {rest : List Stmt} {e o i : Expr} {x : Str} {p pos apos cpos : Pos} {m mv mi : M PyData}
theorem lft_resB {α : Type} {K : PySem.W.Frag} {mg : Str → Option Value} {G0 : Gh} {H0 : Hp} {o : Option α} {f : α → M (Fl τ l)} {S : Sto} {D : Ends} (h : ResB K mg Wx G0 H0 (bnd (lft o) f S) post lp D) : ∃ a, o = some a ∧ ResB K mg Wx G0 H0 (f a S) post lp D := by
  unfold bnd lft at h
  cases o with
  | none => exact h.elim
  | some a => exact ⟨a, rfl, h⟩
theorem short_resB {β : Type} {K : PySem.W.Frag} {mg : Str → Option Value} {G0 : Gh} {H0 : Hp} {xs : List β} {m : M (Fl τ l)} {S : Sto} {D : Ends} (h : ResB K mg Wx G0 H0 (short xs m S) post lp D) : xs.length < sizeLine ∧ ResB K mg Wx G0 H0 (m S) post lp D := by
  unfold short at h
  split at h
  · exact ⟨‹_›, h⟩
  · exact h.elim
/-- x.append(e) -/
theorem ds_app {j : Nat} {xs : List PyData} {r : PyData → M (Fl τ l)} (he : env[j]? = some (some (.own (.lst xs)))) (hv : PE X (.Name x p) (tVar j)) (ha : PE X e (tD X.K X.mg Wx env m)) (hr : ∀ d, PSs X rest (tB X.K X.mg Wx (env.set j (some (.own (.lst (xs ++ [d]))))) post lp (r d)))
    (hn : starEach [e] X.env = (false, eval e X.env) :: starEach [] X.env := by rfl)
    (hbase : attributeBase (.Name x p) "append" X.env (eval (.Name x p) X.env) = eval (.Name x p) X.env := by rfl)
    (hfew : ((backTo cpos (starEach [e] X.env)).all (fun x => !x.1) && (backToKw cpos (keywordEach [] X.env)).all (fun x => x.1.isSome)
      && decide ([e].length + ([] : List Keyword).length + (if ([] : List Keyword).isEmpty then 0 else 1) < 30)) = true := by rfl)
    (hline : (apos.endLine == cpos.line) = true := by rfl) (hplain : (backTo cpos (starEach [] X.env)).any (·.1) = false := by rfl) (hs : swapsWith (.Call (.Attribute (.Name x p) "append" apos) [e] [] cpos) none pos.line X.env = pure false := by rfl) :
    PSs X (.Expr (.Call (.Attribute (.Name x p) "append" apos) [e] [] cpos) pos :: rest) (tB X.K X.mg Wx env post lp (bnd m fun d => short xs (r d))) := by
  refine PSs.imp (pss_cons (ps_expr (pe_bm (T := "list") F.plainAttrs_list F.slot_list_append F.type_list_append mt_append hv (pa_cons ha pa_nil hn) hbase hfew hline hn hplain) hs) (pss_any hr)) fun D σ H ⟨G0, H0, G, S, hf, ss, se, h⟩ => ?_
  obtain ⟨a, s1, _, u, s3, vs, rfl, s4⟩ := se.own j _ he
  refine ⟨_, s1, .inl ⟨rfl, vs, .inl (.inl s3)⟩, ?_⟩
  refine go_on hf ss se h fun d S1 L1 H1 _ e1 f1 ss1 se1 h1 v rv => ?_
  obtain ⟨a', t1, t2, u', t3, vs', rfl, t4⟩ := se1.own j _ he
  rw [s1] at t1
  cases t1
  unfold short at h1
  split at h1
  · rename_i hl
    obtain ⟨q1, q2, q3⟩ := se1.write (o' := .lst (xs ++ [d])) ss1 he s1 t2 ⟨vs' ++ [v], rfl, t4.append (.cons rv .nil)⟩
    exact ⟨a, vs', v, rfl, rfl, t3, by rw [t4.length]; exact hl, d, G0, H0, _, S1, f1.trans q3, q2, q1, h1⟩
  · exact h1.elim
/-- x[i] = e -/
theorem ds_setL {j : Nat} {xs : List PyData} {p2 : Pos} {r : List PyData → M (Fl τ l)} (he : env[j]? = some (some (.own (.lst xs)))) (hv : PE X (.Name x p) (tVar j)) (ha : PE X e (tD X.K X.mg Wx env mv)) (hi : PE X i (tD X.K X.mg Wx env mi)) (hr : ∀ ys, PSs X rest (tB X.K X.mg Wx (env.set j (some (.own (.lst ys)))) post lp (r ys)))
    (hs : swapsWithSole [.Subscript (.Name x p) i p2] e pos.line X.env = pure false := by rfl) (hw : swappedStores [.Subscript (.Name x p) i p2] e X.env = pure none := by rfl) (h1 : (assignEach [.Subscript (.Name x p) i p2] X.env).map (·.2) = [assign (.Subscript (.Name x p) i p2) X.env] := by rfl)
    (has : ∀ v, assign (.Subscript (.Name x p) i p2) X.env v = (do
      let ov ← holding [v] (eval (.Name x p) X.env)
      let iv ← holding [v, ov] (eval i X.env)
      standAt p2
      holding [v, ov, iv] (setItem ov iv v)
      release [v, ov, iv] []) := by intro _; rfl) :
    PSs X (.Assign [.Subscript (.Name x p) i p2] e pos :: rest) (tB X.K X.mg Wx env post lp (bnd mv fun d => bnd mi fun k => bnd (lft (setO xs k d)) r)) := by
  refine PSs.imp (pss_cons (ps_asg ha (pg_sub hv hi set_list has) hs hw h1) (pss_any hr)) fun D σ H ⟨G0, H0, G, S, hf, ss, se, h⟩ => ?_
  refine go_on hf ss se h fun d S1 L1 H1 _ e1 f1 ss1 se1 h1 v rv => ?_
  obtain ⟨a, s1, _, u, s3, vs, rfl, s4⟩ := se1.own j _ he
  refine ⟨_, s1, ?_⟩
  refine go_on f1 ss1 se1 h1 fun k S2 L2 H2 _ e2 f2 ss2 se2 h2 w rw' => ?_
  obtain ⟨a', t1, t2, u', t3, vs', rfl, t4⟩ := se2.own j _ he
  rw [s1] at t1
  cases t1
  obtain ⟨ys, q, h2⟩ := lft_resB (show ResB X.K X.mg Wx G0 H0 (bnd (lft (setO xs k d)) r S2) post lp D from h2)
  · unfold setO at q
    split at q
    · rename_i kk _
      obtain ⟨jj, q1, rfl⟩ := Option.map_eq_some_iff.mp q
      cases rw'
      have rv2 := rv.ext e2
      obtain ⟨w1, w2, w3⟩ := se2.write (o' := .lst (xs.set jj d)) ss2 he s1 t2 ⟨vs'.set jj v, rfl, t4.set jj rv2⟩
      exact ⟨a, vs', kk, jj, rfl, rfl, t3, by rw [t4.length]; exact q1, _, G0, H0, _, S2, f2.trans w3, w2, w1, h2⟩
    · cases q
/-- x[k] = e, x a dict of tuples of texts and numbers -/
theorem ds_putT {j : Nat} {kvs : List (List Key × PyData)} {p2 : Pos} {r : List Key → PyData → M (Fl τ l)} (hu : X.A.units + 65 < cLine) (he : env[j]? = some (some (.own (.dT kvs)))) (hv : PE X (.Name x p) (tVar j)) (ha : PE X e (tD X.K X.mg Wx env mv)) (hi : PE X i (tD X.K X.mg Wx env mi))
    (hr : ∀ kk d, PSs X rest (tB X.K X.mg Wx (env.set j (some (.own (.dT (putD kvs kk d))))) post lp (r kk d)))
    (hs : swapsWith e (some (.Subscript (.Name x p) i p2)) pos.line X.env = pure false := by rfl) :
    PSs X (.Assign [.Subscript (.Name x p) i p2] e pos :: rest) (tB X.K X.mg Wx env post lp (bnd mv fun d => bnd mi fun k => bnd (lft (keyT k)) fun kk => short kvs (r kk d))) := by
  have hr' : ∀ y : List Key × PyData, PSs X rest (tB X.K X.mg Wx (env.set j (some (.own (.dT (putD kvs y.1 y.2))))) post lp (r y.1 y.2)) := fun y => hr y.1 y.2
  refine PSs.imp (pss_cons (ps_dput (by omega) hv hi ha hs) (pss_any hr')) fun D σ H ⟨G0, H0, G, S, hf, ss, se, h⟩ => ?_
  refine go_on hf ss se h fun d S1 L1 H1 _ e1 f1 ss1 se1 h1 v rv => ?_
  obtain ⟨a, s1, _, u, s3, vs, rfl, s4, s5⟩ := se1.own j _ he
  refine ⟨_, s1, ?_⟩
  refine go_on f1 ss1 se1 h1 fun k S2 L2 H2 _ e2 f2 ss2 se2 h2 w rw' => ?_
  obtain ⟨a', t1, t2, u', t3, vs', rfl, t4, t5⟩ := se2.own j _ he
  rw [s1] at t1
  cases t1
  obtain ⟨kk, q, h5⟩ := lft_resB (show ResB X.K X.mg Wx G0 H0 (bnd (lft (keyT k)) (fun kk => short kvs (r kk d)) S2) post lp D from h2)
  obtain ⟨hl, h6⟩ := short_resB h5
  · skip
    unfold keyT at q
    split at q
    · rename_i ds
      have q' := keysD_ q
      subst q'
      cases rw' with
      | tup r1 r2 =>
        rw [RDs.keys r2] at r1
        · have rv2 := rv.ext e2
          obtain ⟨y1, y2⟩ := put_rel (k := kk) rv2 t4 t5
          have hlen : vs'.length = kvs.length := by simpa using congrArg List.length t4
          obtain ⟨w1, w2, w3⟩ := se2.write (o' := .dT (putD kvs kk d)) ss2 he s1 t2 ⟨putK vs' kk v, rfl, y1, y2⟩
          exact ⟨a, _, rfl, .inr ⟨vs', kk, _, t3, rfl, r1.1, by rw [hlen]; exact hl, rfl⟩, (kk, d), G0, H0, _, S2, f2.trans w3, w2, w1, h6⟩
    · cases q
/-- x[k] = e, x a dict of texts and numbers -/
theorem ds_putK {j : Nat} {kvs : List (Key × PyData)} {p2 : Pos} {r : Key → PyData → M (Fl τ l)} (hu : X.A.units + 65 < cLine) (he : env[j]? = some (some (.own (.dK kvs)))) (hv : PE X (.Name x p) (tVar j)) (ha : PE X e (tD X.K X.mg Wx env mv)) (hi : PE X i (tD X.K X.mg Wx env mi))
    (hr : ∀ kk d, PSs X rest (tB X.K X.mg Wx (env.set j (some (.own (.dK (putD kvs kk d))))) post lp (r kk d)))
    (hs : swapsWith e (some (.Subscript (.Name x p) i p2)) pos.line X.env = pure false := by rfl) :
    PSs X (.Assign [.Subscript (.Name x p) i p2] e pos :: rest) (tB X.K X.mg Wx env post lp (bnd mv fun d => bnd mi fun k => bnd (lft (keyD k)) fun kk => short kvs (r kk d))) := by
  have hr' : ∀ y : Key × PyData, PSs X rest (tB X.K X.mg Wx (env.set j (some (.own (.dK (putD kvs y.1 y.2))))) post lp (r y.1 y.2)) := fun y => hr y.1 y.2
  refine PSs.imp (pss_cons (ps_dput (by omega) hv hi ha hs) (pss_any hr')) fun D σ H ⟨G0, H0, G, S, hf, ss, se, h⟩ => ?_
  refine go_on hf ss se h fun d S1 L1 H1 _ e1 f1 ss1 se1 h1 v rv => ?_
  obtain ⟨a, s1, _, u, s3, vs, rfl, s4, s5⟩ := se1.own j _ he
  refine ⟨_, s1, ?_⟩
  refine go_on f1 ss1 se1 h1 fun k S2 L2 H2 _ e2 f2 ss2 se2 h2 w rw' => ?_
  obtain ⟨a', t1, t2, u', t3, vs', rfl, t4, t5⟩ := se2.own j _ he
  rw [s1] at t1
  cases t1
  obtain ⟨kk, q, h5⟩ := lft_resB (show ResB X.K X.mg Wx G0 H0 (bnd (lft (keyD k)) (fun kk => short kvs (r kk d)) S2) post lp D from h2)
  obtain ⟨hl, h6⟩ := short_resB h5
  · skip
    have q' := keyD_ q
    subst q'
    have hw : w = kV kk := by
      cases kk with
      | inl n => cases rw'; rfl
      | inr n => cases rw'; rfl
    · have rv2 := rv.ext e2
      obtain ⟨y1, y2⟩ := put_rel (k := kk) rv2 t4 t5
      have hlen : vs'.length = kvs.length := by simpa using congrArg List.length t4
      obtain ⟨w1, w2, w3⟩ := se2.write (o' := .dK (putD kvs kk d)) ss2 he s1 t2 ⟨putK vs' kk v, rfl, y1, y2⟩
      exact ⟨a, _, rfl, .inl ⟨vs', kk, t3, hw, by rw [hlen]; exact hl, rfl⟩, (kk, d), G0, H0, _, S2, f2.trans w3, w2, w1, h6⟩
end
end DL

namespace DL
open PySem PySem.Spec PyProof.Rows L2
/-! ### the store -/
def newS {α : Type} (c : α → Ob) (x : α) : M Nat := fun S => .ok S.length (S ++ [c x])
def getL (n : Nat) : M (List PyData) := fun S => match S[n]? with
  | some (.lst xs) => .ok xs S
  | _ => .bad
def setS (n : Nat) (o : Ob) : M Unit := fun S => if n < S.length then .ok () (S.set n o) else .bad
section
variable {K : PySem.W.Frag} {mg : Str → Option Value} {G G0 : Gh} {H H0 : Hp} {S : Sto} {σ : L2.St} {env : Ev}
theorem SS.write {n : Nat} {a : Addr} {u : HO} {o : Ob} (ss : SS K mg G S H) (se : SE K mg G env σ H) (e : G.L[n]? = some a) (r : RC K mg G H u o) :
    SS K mg G (S.set n o) (upd H a u) ∧ SE K mg G env σ (upd H a u) ∧ From G H G (upd H a u) := by
  have mL : a ∈ G.L := List.mem_of_getElem? e
  have ba : G.bar a := .inl mL
  have mv : Mv G H G (upd H a u) := ⟨List.prefix_refl _, fun b o n q => by rw [upd_ne (fun z => n (by rw [z]; exact ba))]; exact q, fun b h => .inl h⟩
  have there : ∀ b, H b ≠ none → upd H a u b ≠ none := fun b hb => by
    unfold upd
    split
    · simp
    · exact hb
  have thh : ∀ b, Th H b → Th (upd H a u) b := fun b hb => hb.upd r.nt
  have hn : n < S.length := by
    rw [← ss.len]
    exact (List.getElem?_eq_some_iff.mp e).1
  refine ⟨⟨by rw [List.length_set]; exact ss.len, ss.nd, fun m o' q => ?_⟩, ?_, ⟨List.prefix_refl _, rfl, fun b o' n1 n2 q => by rw [upd_ne (fun z => n1 (by rw [z]; exact mL))]; exact q, fun b h => .inl h, fun b h => .inl h, there, thh⟩⟩
  · by_cases h : n = m
    · subst h
      rw [List.getElem?_set_self hn] at q
      cases q
      exact ⟨a, e, u, by unfold upd; rw [if_pos rfl], r.mv mv⟩
    · rw [List.getElem?_set_ne h] at q
      obtain ⟨b, h1, v, h2, h3⟩ := ss.obj m o' q
      refine ⟨b, h1, v, ?_, h3.mv mv⟩
      rw [upd_ne (fun z => ?_)]
      · exact h2
      · subst z
        obtain ⟨hm, em⟩ := List.getElem?_eq_some_iff.mp h1
        obtain ⟨hn', en⟩ := List.getElem?_eq_some_iff.mp e
        exact h ((List.getElem_inj (h₀ := hn') (h₁ := hm) ss.nd).mp (en.trans em.symm))
  · refine se.mv mv rfl (fun b o' hb q => ?_) (fun b hb => ?_) fun b hb => thh b (se.there b hb)
    · rw [upd_ne (fun z => ?_)]
      · exact q
      · subst z
        obtain ⟨j, hj, ej⟩ := List.mem_iff_getElem.mp hb
        exact (se.out j _ (by rw [List.getElem?_eq_getElem hj, ej])).1 mL
    · obtain ⟨j, hj, ej⟩ := List.mem_iff_getElem.mp hb
      exact se.out j _ (by rw [List.getElem?_eq_getElem hj, ej])
theorem SS.push {p : Addr} {u : HO} {o : Ob} {H' : Hp} (ss : SS K mg G S H) (th : ∀ a, G.bar a → Th H a) (hp : H p = none) (r : RC K mg G H u o) (m : Mono H H') (h' : H' p = some u) :
    Ext G H (G.L ++ [p]) H' ∧ SS K mg (G.to (G.L ++ [p])) (S ++ [o]) H' := by
  have mono : ∀ a, H a ≠ none → H' a ≠ none := fun a h => by
    cases e : H a with
    | none => exact absurd e h
    | some o => rw [m a o e]; simp
  have ex : Ext G H (G.L ++ [p]) H' := ⟨List.prefix_append _ _, fun a o _ h => m a o h, fun a h => by
    rcases List.mem_append.mp h with h | h
    · exact .inl h
    · rw [List.mem_singleton.mp h]
      exact .inr ⟨hp, Th.new r.nt h'⟩, mono, fun a h => m.th h⟩
  refine ⟨ex, ⟨by simp [ss.len], ?_, fun n o' q => ?_⟩⟩
  · show (G.L ++ [p]).Nodup
    rw [List.nodup_append]
    refine ⟨ss.nd, by simp, fun a ha b hb => ?_⟩
    rw [List.mem_singleton.mp hb]
    intro z
    subst z
    exact (th _ (.inl ha)).1 hp
  · by_cases h : n < S.length
    · rw [List.getElem?_append_left h] at q
      obtain ⟨b, h1, h2⟩ := ss.obj n o' q
      refine ⟨b, ?_, h2.ext ex fun o q => m _ _ q⟩
      show (G.L ++ [p])[n]? = _
      rw [List.getElem?_append_left (by rw [ss.len]; exact h)]
      exact h1
    · rw [List.getElem?_append_right (by omega)] at q
      have hn : n = S.length := by
        have := (List.getElem?_eq_some_iff.mp q).1
        simp at this
        omega
      subst hn
      rw [Nat.sub_self] at q
      cases q
      refine ⟨p, ?_, u, h', r.ext ex⟩
      show (G.L ++ [p])[S.length]? = _
      rw [← ss.len]
      simp
end
section
variable {X : Cx} {Wx : WX} {env : Ev} {τ l : Type} {post : τ → Ev} {lp : l → Ev} {rest : List Stmt} {e o i a b : Expr} {x : Str} {p pos apos cpos : Pos} {m mv mi mb : M PyData} {mo : M Nat}
theorem dr_new {α : Type} {c : α → Ob} {m : M α} (h : PE X e (tF X.K X.mg Wx env c m)) : PE X e (tR X.K X.mg Wx env (bnd m (newS c))) :=
  PE.imp h fun σ H Q ⟨G, S, ss, se, h⟩ => ⟨G, S, ss, se, h.bind fun x S1 L1 H1 _ e1 ss1 h1 p u H2 hp hr hm h2 => by
    obtain ⟨q1, q2⟩ := ss1.push (se.ext e1).there hp hr hm h2
    refine h1 _ H2 q1 q2 p ?_
    show (L1 ++ [p])[S1.length]? = _
    rw [← ss1.len]
    simp⟩
theorem getL_res {β : Type} {n : Nat} {f : List PyData → M β} {K : PySem.W.Frag} {mg : Str → Option Value} {G : Gh} {H : Hp} {σ : L2.St} {S : Sto} {R : β → Gh → Hp → Prop} (h : Res K mg Wx G H σ (bnd (getL n) f S) R) : ∃ xs, S[n]? = some (.lst xs) ∧ Res K mg Wx G H σ (f xs S) R := by
  unfold bnd getL at h
  cases q : S[n]? with
  | none => simp only [q] at h; exact h.elim
  | some o =>
    cases o with
    | lst xs => simp only [q] at h; exact ⟨xs, rfl, h⟩
    | _ => simp only [q] at h; exact h.elim
theorem getL_resB {n : Nat} {f : List PyData → M (Fl τ l)} {K : PySem.W.Frag} {mg : Str → Option Value} {G0 : Gh} {H0 : Hp} {S : Sto} {D : Ends} (h : ResB K mg Wx G0 H0 (bnd (getL n) f S) post lp D) : ∃ xs, S[n]? = some (.lst xs) ∧ ResB K mg Wx G0 H0 (f xs S) post lp D := by
  unfold bnd getL at h
  cases q : S[n]? with
  | none => simp only [q] at h; exact h.elim
  | some o =>
    cases o with
    | lst xs => simp only [q] at h; exact ⟨xs, rfl, h⟩
    | _ => simp only [q] at h; exact h.elim
/-- a[b], a of the store -/
def rix (mo : M Nat) (mi : M PyData) : M PyData := bnd mo fun n => bnd mi fun i => bnd (getL n) fun xs => lft (ixO (.list xs) i)
theorem de_rix (ha : PE X a (tR X.K X.mg Wx env mo)) (hb : PE X b (tT X.K X.mg Wx env mb)) (hs : PlainIx b := by intro _ _; rfl) : PE X (.Subscript a b pos) (tD X.K X.mg Wx env (rix mo mb)) :=
  PE.imp (pe_ix ix_seq ha hb hs) fun σ H Q ⟨G, S, ss, se, h⟩ => ⟨G, S, ss, se, h.bind fun n S1 L1 H1 _ e1 ss1 h1 a ea =>
    ⟨_, S1, ss1, se.ext e1, h1.bind fun y S2 L2 H2 _ e2 ss2 h2 w rw' => by
      obtain ⟨xs, q, h3⟩ := getL_res h2
      obtain ⟨a', e3, u, e4, vs, rfl, r5⟩ := ss2.obj n _ q
      have ea' := pre_get e2.pre ea
      have z : a' = a := Option.some.inj (e3.symm.trans ea')
      subst z
      unfold lft at h3
      cases q : ixO (.list xs) y with
      | none => rw [q] at h3; exact h3.elim
      | some d =>
        rw [q] at h3
        have k := Res.done (o := .bad) h3 ss2
        unfold ixO at q
        split at q
        · rename_i q1 _
          cases q1
          obtain ⟨v, k1, k2⟩ := rds_atI r5 q
          exact .inl ⟨_, _, _, v, rfl, rw'.int_, .inl (.inl e4), k1, k _ _ Mono.refl k2⟩
        · rename_i q1 _; cases q1
        · rename_i q1 _; cases q1
        · cases q⟩⟩
/-- a[i] = e, a of the store -/
theorem ds_rset {p2 : Pos} {r : M (Fl τ l)} (ho : PE X o (tR X.K X.mg Wx env mo)) (ha : PE X e (tD X.K X.mg Wx env mv)) (hi : PE X i (tD X.K X.mg Wx env mi)) (hr : PSs X rest (tB X.K X.mg Wx env post lp r))
    (hs : swapsWithSole [.Subscript o i p2] e pos.line X.env = pure false := by rfl) (hw : swappedStores [.Subscript o i p2] e X.env = pure none := by rfl) (h1 : (assignEach [.Subscript o i p2] X.env).map (·.2) = [assign (.Subscript o i p2) X.env] := by rfl)
    (has : ∀ v, assign (.Subscript o i p2) X.env v = (do
      let ov ← holding [v] (eval o X.env)
      let iv ← holding [v, ov] (eval i X.env)
      standAt p2
      holding [v, ov, iv] (setItem ov iv v)
      release [v, ov, iv] []) := by intro _; rfl) :
    PSs X (.Assign [.Subscript o i p2] e pos :: rest) (tB X.K X.mg Wx env post lp (bnd mv fun d => bnd mo fun n => bnd mi fun k => bnd (getL n) fun xs => bnd (lft (setO xs k d)) fun ys => bnd (setS n (.lst ys)) fun _ => r)) := by
  refine PSs.imp (pss_cons (ps_asg ha (pg_sub ho hi set_list has) hs hw h1) hr) fun D σ H ⟨G0, H0, G, S, hf, ss, se, h⟩ => ?_
  refine go_on hf ss se h fun d S1 L1 H1 _ e1 f1 ss1 se1 h1 v rv => ?_
  refine go_on f1 ss1 se1 h1 fun n S2 L2 H2 _ e2 f2 ss2 se2 h2 a ea => ?_
  refine go_on f2 ss2 se2 h2 fun k S3 L3 H3 _ e3 f3 ss3 se3 h3 w rw' => ?_
  obtain ⟨xs, q, h4⟩ := getL_resB h3
  obtain ⟨ys, q2, h5⟩ := lft_resB h4
  obtain ⟨a', x3, u, x4, vs, rfl, r5⟩ := ss3.obj n _ q
  have ea' := pre_get e3.pre ea
  have z : a' = a := Option.some.inj (x3.symm.trans ea')
  subst z
  have hn : n < S3.length := (List.getElem?_eq_some_iff.mp q).1
  have h6 : ResB X.K X.mg Wx G0 H0 (r (S3.set n (.lst ys))) post lp D := by
    have : bnd (setS n (.lst ys)) (fun _ => r) S3 = r (S3.set n (.lst ys)) := by
      unfold bnd setS
      rw [if_pos hn]
    rw [← this]
    exact h5
  unfold setO at q2
  split at q2
  · rename_i kk _ _
    obtain ⟨jj, q1, rfl⟩ := Option.map_eq_some_iff.mp q2
    cases rw'
    have rv3 := (rv.ext e2).ext e3
    obtain ⟨w1, w2, w3⟩ := ss3.write (o := .lst (xs.set jj d)) se3 x3 ⟨vs.set jj v, rfl, r5.set jj rv3⟩
    exact ⟨_, vs, _, jj, rfl, rfl, x4, by rw [r5.length]; exact q1, G0, H0, _, _, f3.trans w3, w1, w2, h6⟩
  · cases q2
end
end DL

namespace DL
open PySem PySem.Spec PyProof.Rows L2
/-! ### sorted -/
def alikeB (ds : List PyData) : Bool := ds.all fun a => ds.all fun b => PySem.W.alike a b
def isTupC : PyData → Bool
  | .tuple (_ :: _) => true
  | _ => false
def isTupD : PyData → Bool
  | .tuple _ => true
  | _ => false
def sortB (ds : List PyData) : Bool := ds.all isTupC || ds.all fun d => !isNo d && !isTupD d
def sortOk (ds : List PyData) : Bool := alikeB ds && sortB ds && ds.all (fun d => d.plain && decide (d.depth ≤ 60)) && decide (ds.length ≤ 1000000)
theorem alikeB_ {ds : List PyData} (h : alikeB ds = true) : PySem.W.AllAlike ds := fun d hd d' hd' => List.all_eq_true.mp (List.all_eq_true.mp h d hd) d' hd'
theorem sortB_ {ds : List PyData} (h : sortB ds = true) : PySem.W.Sortable ds := by
  unfold sortB at h
  rw [Bool.or_eq_true] at h
  rcases h with h | h
  · refine .inl fun d hd => ?_
    have := List.all_eq_true.mp h d hd
    unfold isTupC at this
    split at this
    · exact ⟨_, _, rfl⟩
    · cases this
  · refine .inr fun d hd => ?_
    have := List.all_eq_true.mp h d hd
    rw [Bool.and_eq_true] at this
    refine ⟨isNo_ne this.1, fun xs e => ?_⟩
    subst e
    exact absurd this.2 (by simp [isTupD])
theorem sortOk_ {ds : List PyData} (h : sortOk ds = true) : PySem.W.AllAlike ds ∧ PySem.W.Sortable ds ∧ (∀ d ∈ ds, d.plain = true ∧ d.depth ≤ 60) ∧ ds.length ≤ 1000000 := by
  unfold sortOk at h
  simp only [Bool.and_eq_true, decide_eq_true_eq] at h
  refine ⟨alikeB_ h.1.1.1, sortB_ h.1.1.2, fun d hd => ?_, h.2⟩
  have := List.all_eq_true.mp h.1.2 d hd
  simp only [Bool.and_eq_true, decide_eq_true_eq] at this
  exact this
theorem plain_keys : ∀ ks : List Key, PyData.plainAll (ks.map kD) = true
  | [] => rfl
  | .inl _ :: r => by show (PyData.plain (.int _) && PyData.plainAll (r.map kD)) = true; rw [plain_keys r]; rfl
  | .inr _ :: r => by show (PyData.plain (.str _) && PyData.plainAll (r.map kD)) = true; rw [plain_keys r]; rfl
section
variable {X : Cx}
def rSortT : List V → Hp → VK → Prop := fun xs H Q => ∃ (a : Addr) (kvs : List (List Key × V)), xs = [.ref a] ∧ Rd H a (.dT kvs) ∧ sortOk (kvs.map fun p => tkD p.1) = true ∧
  ∀ p (bs : List Addr), H p = none → Paired (fun k b => H b = some (.tup (k.map kV))) ((kvs.map (·.1)).mergeSort (PySem.W.dataLe false tkD)) bs → Q (.ref p) (upd H p (.lst (bs.map V.ref)))
theorem call_sortT (hc : X.calm = true) (hu : X.A.units + 100 < cLine) : CallR X (.builtin "sorted") rSortT := by
  rintro pins s σ H xs us Q I r ⟨d, kvs, rfl, hd, hok, q⟩
  obtain ⟨u, rfl, rx⟩ := r.one
  cases rx
  obtain ⟨z, hs, ks, pr, o, es, ep, ho, hx, hdt, he, hn⟩ := (show ObjOk X.prog X.w H s.heap d (.dT kvs) from hd.ok I.hok)
  have l1 : es.size = ks.length := size_of_entries he
  have l2 : kvs.length = ks.length := Paired.length pr
  obtain ⟨k1, k2, k3, k4⟩ := sortOk_ hok
  refine Calls.call_function_entry PyProof.Rows.kind_sorted PyProof.Rows.plain_sorted PyProof.Rows.entry_sorted (PyProof.Rows.args_sorted1 _) ?_
  unfold Builtin.«sorted»
  refine wpAny_bind (m := checkCount "sorted" 1 1 _) (wpAny_pure ?_)
  refine wpAny_bind (PySem.W.kdu_collect (A := X.A.in1) (kdl_raw hs hx hdt) (I.ok.hd hc) ho (by omega) fun h' tk acc hk it => ?_)
  have ea : acc.toList = ks.map fun x => Value.ref x.2.1 := by
    have hl : acc.toList.length = ks.length := by rw [Array.length_toList, it.1]; exact l1
    apply List.ext_getElem?
    intro j
    rw [List.getElem?_map]
    cases hj : acc.toList[j]? with
    | none =>
      have h1 := List.getElem?_eq_none_iff.mp hj
      rw [List.getElem?_eq_none (by omega)]
      all_goals rfl
    | some v =>
      obtain ⟨en, hen, hv⟩ := it.2 j v (by rw [← Array.getElem?_toList]; exact hj)
      have qe := entry_at he j
      rw [hen] at qe
      cases hb : ks[j]? with
      | none =>
        rw [hb] at qe
        exact nomatch (show some en = none from qe)
      | some b =>
        rw [hb] at qe
        have e2 : en = entryOfKey (tupleKind (mixKind X.prog X.w)) b := Option.some.inj qe
        rw [hv, e2]
        all_goals rfl
  have I1 : Inv X pins σ H { s with heap := h', toks := tk } := I.kept hk
  have hal : acc.toList.length = kvs.length := by rw [ea, List.length_map, l2]
  have lk : (kvs.map (·.1)).length = kvs.length := List.length_map _
  -- what each value reads as
  have each : ∀ {kvs : List (List Key × V)} {ks : List (List Key × Addr × Value)}, KT H kvs ks → PySem.W.EachIs (fun v k => ∃ b, v = Value.ref b ∧ H b = some (.tup (k.map kV))) (ks.map fun x => Value.ref x.2.1) (kvs.map (·.1)) := by
    intro kvs ks pr
    induction pr with
    | nil => exact .nil
    | cons h t ih => exact .cons ⟨_, rfl, h.2.1⟩ ih
  have e0 := each pr
  rw [← ea] at e0
  have rd : ∀ (v : Value) (k : List Key), (∃ b, v = Value.ref b ∧ H b = some (.tup (k.map kV))) → ∃ as, Reads h' v (tkD k) as := by
    rintro v k ⟨b, rfl, hb⟩
    exact sqT_reads I1 (.inl (.inl hb)) fun us rv => (RDs.of_keys (K := X.K) (B := fun _ => False) (H := H) k).reads I1 (plain_keys k) us rv
  have sl := sizeLine_eq
  have hkl : kvs.length ≤ 1000000 := by simpa using k4
  have em : (kvs.map fun p => tkD p.1) = (kvs.map (·.1)).map tkD := by rw [List.map_map]; rfl
  rw [em] at k1 k2 k3
  refine wpAny_bind (wpAny_newList ?_ (by rw [hal]; omega))
  have hoL : (h'.push (seqObj "list" acc.toList.toArray 0)).get? h'.objs.size = some (seqObj "list" acc.toList.toArray 0) := Heap.get?_push_size _ rfl
  show wpAny _ _ _ _ _ { s with heap := h'.push (seqObj "list" acc.toList.toArray 0), toks := tk }
  have old : ∀ b o, h'.get? b = some o → (PySem.W.sortingHeap (h'.push (seqObj "list" acc.toList.toArray 0)) h'.objs.size acc.toList).get? b = some o := fun b o e => PySem.W.sortingHeap_old (Nat.ne_of_lt (Heap.lt_size e)) (Heap.get?_push_of_some _ e)
  have er : PySem.W.EachIs (fun v k => ∃ as, Reads (PySem.W.sortingHeap (h'.push (seqObj "list" acc.toList.toArray 0)) h'.objs.size acc.toList) v (tkD k) as) acc.toList (kvs.map (·.1)) := e0.mono fun v k h => by
    obtain ⟨as, ra⟩ := rd v k h
    exact ⟨as, PyProof.Rows.Reads.keeps old ra⟩
  refine wpAny_bind (wpAny_holding (wpAny_call_entry PyProof.Rows.slot_list_sort ⟨_, hoL, rfl⟩ PyProof.Rows.entry_list_sort
    (PySem.W.list_sort_vals (s := { s with heap := h'.push (seqObj "list" acc.toList.toArray 0), toks := tk }) (κ := PySem.W.dataKind (PySem.W.sortingHeap (h'.push (seqObj "list" acc.toList.toArray 0)) h'.objs.size acc.toList) ((kvs.map (·.1)).map tkD)) hoL
      (PySem.W.SortsAt.data (s := { s with heap := PySem.W.sortingHeap (h'.push (seqObj "list" acc.toList.toArray 0)) h'.objs.size acc.toList, toks := tk }) (PySem.W.each_map (R := fun v d => ∃ as, Reads (PySem.W.sortingHeap (h'.push (seqObj "list" acc.toList.toArray 0)) h'.objs.size acc.toList) v d as) tkD er) k1 k2 (fun d hd => ?_)) (by rw [hal]; omega) ⟨.none, rfl, ?_⟩) (PyProof.Rows.args_list_sort _)))
  · have := (k3 d hd).2
    show X.A.in1.in1.units + d.depth < cLine
    have e : X.A.in1.in1.units = X.A.units + 2 := rfl
    rw [e]
    omega
  · have g1 := PySem.W.sortVals_data (R := fun v k => ∃ b, v = Value.ref b ∧ H b = some (.tup (k.map kV))) false e0 er k1
    generalize hout : PySem.W.sortVals (PySem.W.dataKind (PySem.W.sortingHeap (h'.push (seqObj "list" acc.toList.toArray 0)) h'.objs.size acc.toList) ((kvs.map (·.1)).map tkD)) false acc.toList acc.toList = out at g1 ⊢
    have refs : ∀ {out : List Value} {ks : List (List Key)}, PySem.W.EachIs (fun v k => ∃ b, v = Value.ref b ∧ H b = some (.tup (k.map kV))) out ks → ∃ bs : List Addr, out = bs.map Value.ref ∧ Paired (fun k b => H b = some (.tup (k.map kV))) ks bs := by
      intro out ks h
      induction h with
      | nil => exact ⟨[], rfl, .nil⟩
      | cons h t ih =>
        obtain ⟨b, rfl, hb⟩ := h
        obtain ⟨bs, rfl, hp⟩ := ih
        exact ⟨b :: bs, rfl, .cons hb hp⟩
    obtain ⟨bs, rfl, hp⟩ := refs g1
    obtain ⟨e', he'⟩ := PyProof.Rows.sortedHeap_at (vs := acc.toList) (out := (bs.map Value.ref).toArray) hoL
    have hbl : bs.length = kvs.length := by
      rw [← hp.length, List.length_mergeSort, List.length_map]
    refine wpAny_pure ⟨_, rfl, .ref h'.objs.size, upd H h'.objs.size (.lst (bs.map V.ref)), I1.laid (t' := tk) (fun b u e => ?_) (Nat.le_refl _)
      (show ObjOk X.prog X.w _ _ _ (.lst (bs.map V.ref)) from ⟨by rw [List.length_map]; omega, bs.map Value.ref, e', vals_refs _, he'⟩), rfl, q _ bs (I1.hok.fresh (Nat.le_refl _)) hp⟩
    have hb : b < h'.objs.size := Heap.lt_size e
    show (sortedHeap _ _ _ _).get? b = some u
    rw [PyProof.Rows.sortedHeap_old (Nat.ne_of_lt hb) (by rw [size_push']; exact Nat.lt_succ_of_lt hb)]
    exact Heap.get?_push_of_some _ e
/-- sorted(x), x a dict of tuples: in the data layer -/
def sortTO (kvs : List (List Key × PyData)) : Option (List PyData) := if sortOk (kvs.map fun p => tkD p.1) = true then some (((kvs.map (·.1)).mergeSort (PySem.W.dataLe false tkD)).map tkD) else none
theorem rds_tkeys {K : PySem.W.Frag} {G : Gh} {H : Hp} (th : ∀ a, G.bar a → Th H a) : ∀ {ks : List (List Key)} {bs : List Addr}, Paired (fun k b => H b = some (.tup (k.map kV))) ks bs → RDs K G.bar H (bs.map V.ref) (ks.map tkD)
  | _, _, .nil => .nil
  | _, _, .cons a b => .cons (.tup ⟨a, fun z => (th _ z).2 _ a⟩ (RDs.of_keys _)) (rds_tkeys th b)
theorem ft_sortT {Wx : WX} {env : Ev} {j : Nat} {x : Str} {p p2 pos : Pos} {kvs : List (List Key × PyData)} (hc : X.calm = true) (hu : X.A.units + 100 < cLine) (hg : Gl X "sorted") (hm : X.mg "sorted" = none) (he : env[j]? = some (some (.own (.dT kvs)))) (hv : PE X (.Name x p) (tVar j))
    (hs : starEach [.Name x p] X.env = (false, eval (.Name x p) X.env) :: starEach [] X.env := by rfl) (hpl : (backTo pos (starEach [] X.env)).any (·.1) = false := by rfl) :
    PE X (.Call (.Name "sorted" p2) [.Name x p] [] pos) (tF X.K X.mg Wx env Ob.lst (lft (sortTO kvs))) :=
  PE.imp (pe_callB (call_sortT hc hu) hg hm rfl (pa_cons hv pa_nil hs) (by decide) (by decide) hs hpl) fun σ H Q ⟨G, S, ss, se, h⟩ => by
    obtain ⟨a, s1, s2, u, s3, vs, rfl, s4, s5⟩ := se.own j _ he
    obtain ⟨z, q, k⟩ := lft_go h ss
    unfold sortTO at q
    obtain ⟨c, rfl⟩ := of_eq q
    have ek : (vs.map fun p => tkD p.1) = kvs.map fun p => tkD p.1 := by
      have := congrArg (List.map tkD) s4
      rw [List.map_map, List.map_map] at this
      exact this
    refine ⟨_, s1, a, vs, rfl, .inl s3, by rw [ek]; exact c, fun p bs hp hb => ?_⟩
    rw [s4] at hb
    exact k p _ _ hp ⟨_, rfl, rds_tkeys se.there hb⟩ (Mono.upd hp) (by unfold upd; rw [if_pos rfl])
end
end DL

namespace DL
open PySem PySem.Spec PyProof.Rows L2
theorem u100 {A : Around} {k : Nat} (hr : Room k A) : A.units + 100 < cLine := by have := hr.un; omega
theorem u65 {A : Around} {k : Nat} (hr : Room k A) : A.units + 65 < cLine := by have := hr.un; omega
theorem tk_body {P : Program} {w : World} {K : PySem.W.Frag} {mg : Str → Option Value} {base : Heap} {N : List Str} {qual : Str} {scope : Scope} {f : Addr} {cd : Value} {A : Around} {outer : List Env} {s : Shared} {H : Hp} {E : XK} :
    TK (cxOf (L2.CX P w) P w K mg base N qual scope f cd A outer s H E) (fun c d _ H => E c d H) := fun σ => passAt (takes_of rfl rfl rfl rfl) σ
section
variable {X : Cx} {Wx : WX} {env : Ev} {e : Expr} {es : List Expr} {x y : Str} {p pos : Pos} {i k j n : Nat} {m : List W → M W} {ms : M (List W)}
/-- a def's name as a value -/
theorem dw_gfn (c : Cal X.prog X.w X.K X.mg X.base k x n m) (hg : Gl X x) (hd : (x == ("__debug__" : Str)) = false := by decide) : PE X (.Name x pos) (tW X.K X.mg Wx env (ret (.g x))) := by
  obtain ⟨f, fd, ps, h1, h2, h3, h4, h5⟩ := c.ex
  exact PE.imp (pe_glob (v := .ref f) hg h3 rfl hd) fun σ H Q ⟨G, S, ss, se, h⟩ => h G.L H Ext.refl ss (.ref f) ⟨f, h3, rfl⟩
/-- v(..), v a slot that holds the def x -/
theorem dw_callV (c : Cal X.prog X.w X.K X.mg X.base k x n m) (he : env[i]? = some (some (.w (.g x)))) (hr : Room j X.A) (hk : k ≤ j) (hv : PE X (.Name y p) (tVar i)) (tk : TK X Wx) (ha : PA X (e :: es) (tWs X.K X.mg Wx env ms)) (hn : ∀ S xs S', ms S = .ok xs S' → xs.length = n)
    (hs : starEach (e :: es) X.env = (false, eval e X.env) :: starEach es X.env := by rfl) (hpl : (backTo pos (starEach es X.env)).any (·.1) = false := by rfl) :
    PE X (.Call (.Name y p) (e :: es) [] pos) (tW X.K X.mg Wx env (bnd ms m)) := by
  obtain ⟨f, fd, ps, h1, h2, h3, h4, h5⟩ := c.ex
  refine ⟨fun pins s σ H Q I h => ?_⟩
  obtain ⟨G, S, ss, se, h⟩ := h
  obtain ⟨v, s1, f', s2, s3⟩ := se.val i (.g x) he
  rw [h3] at s2
  cases s2
  subst s3
  refine wpAny_Call_Name_kw (thn (hv.run pins s σ H (fun v H1 => v = .ref f ∧ H1 = H) I ⟨.ref f, s1, rfl, rfl⟩) fun u s1 ⟨v, H1, I1, r1, q1⟩ => ?_)
  obtain ⟨rfl, rfl⟩ := q1
  cases r1
  have h : tWs X.K X.mg Wx env ms σ H1 (fun vs H' => SpM X.K X.mg n m vs H' Q (WE Wx σ)) := ⟨G, S, ss, se, h.bind fun ws S1 L1 H1 e0 e1 ss1 h1 vs rs =>
    ⟨L1, (G.to L1).bar, S1, ws, hn S ws S1 e0, (se.ext e1).there, ss1.less (G' := ⟨L1, (G.to L1).bar, []⟩) rfl (callee_bar (G := G.to L1)), RWs.less (G := G.to L1) (G' := ⟨L1, (G.to L1).bar, []⟩) rfl (callee_bar (G := G.to L1)) rs, call_res (G := G.to L1) h1⟩⟩
  refine PySem.W.callWith_K (h₀ := X.base) I.ok.mod.kin h4 (thn (ha.run pos pins s1 σ _ _ I1 h) fun us s2 ⟨vs, H2, I2, r, q⟩ => ⟨I2.kIn, ?_⟩) hs hpl
  exact run_fnS h2 (hr.mono hk) h5 (tk σ) I2 r q
end
section
variable {X : Cx} {Wx : WX} {env : Ev} {τ l α β : Type} {post : τ → Ev} {lp : l → Ev} {rest : List Stmt} {a b : Expr} {x y : Str} {px py pt pt2 pos : Pos} {kt k2 i j : Nat}
/-- x, y = a, b: two plain names, values -/
theorem ds_par {k1 : α → W} {k2' : β → W} {ma : M α} {mb : M β} {r : α → β → M (Fl τ l)} (hc : X.calm = true) (hN : X.N.Nodup) (hi : X.N[i]? = some x) (hj : X.N[j]? = some y) (hij : i ≠ j) (hx : X.env.scope.names.lookup x = some .local) (hy : X.env.scope.names.lookup y = some .local)
    (ha : PE X a (tX X.K X.mg Wx env k1 ma)) (hb : PE X b (tX X.K X.mg Wx env k2' mb)) (hr : ∀ u v, PSs X rest (tB X.K X.mg Wx ((env.set i (some (.w (k1 u)))).set j (some (.w (k2' v)))) post lp (r u v)))
    (hw : swappedStores [.Tuple [.Name x px, .Name y py] kt pt] (.Tuple [a, b] k2 pt2) X.env = pure (some [x, y]))
    (hs : swapsWithSole [.Tuple [.Name x px, .Name y py] kt pt] (.Tuple [a, b] k2 pt2) pos.line X.env = pure false := by rfl)
    (n1 : starEach [a, b] X.env = (false, eval a X.env) :: starEach [b] X.env := by rfl) (n2 : starEach [b] X.env = (false, eval b X.env) :: starEach [] X.env := by rfl) :
    PSs X (.Assign [.Tuple [.Name x px, .Name y py] kt pt] (.Tuple [a, b] k2 pt2) pos :: rest) (tB X.K X.mg Wx env post lp (bnd ma fun u => bnd mb fun v => r u v)) := by
  have hr' : ∀ z : α × β, PSs X rest (tB X.K X.mg Wx ((env.set i (some (.w (k1 z.1)))).set j (some (.w (k2' z.2)))) post lp (r z.1 z.2)) := fun z => hr z.1 z.2
  refine PSs.imp (pss_cons (ps_par hc hN hi hj hij hx hy (pa_cons ha (pa_cons hb pa_nil n2) n1) hw hs) (pss_any hr')) fun D σ H ⟨G0, H0, G, S, hf, ss, se, h⟩ => ?_
  refine go_on hf ss se h fun u S1 L1 H1 _ e1 f1 ss1 se1 h1 v rv => ?_
  refine go_on f1 ss1 se1 h1 fun u2 S2 L2 H2 _ e2 f2 ss2 se2 h2 v2 rv2 => ?_
  exact ⟨v, v2, rfl, (u, u2), G0, H0, _, S2, f2, ss2, (se2.setA (rv.ext e2)).setA rv2, h2⟩
/-- .. the second an object of its own -/
theorem ds_parO {k1 : α → W} {c : β → Ob} {ma : M α} {mb : M β} {r : α → β → M (Fl τ l)} (hc : X.calm = true) (hN : X.N.Nodup) (hi : X.N[i]? = some x) (hj : X.N[j]? = some y) (hij : i ≠ j) (hjl : j < env.length) (hx : X.env.scope.names.lookup x = some .local) (hy : X.env.scope.names.lookup y = some .local)
    (ha : PE X a (tX X.K X.mg Wx env k1 ma)) (hb : PE X b (tF X.K X.mg Wx env c mb)) (hr : ∀ u v, PSs X rest (tB X.K X.mg Wx ((env.set i (some (.w (k1 u)))).set j (some (.own (c v)))) post lp (r u v)))
    (hw : swappedStores [.Tuple [.Name x px, .Name y py] kt pt] (.Tuple [a, b] k2 pt2) X.env = pure (some [x, y]))
    (hs : swapsWithSole [.Tuple [.Name x px, .Name y py] kt pt] (.Tuple [a, b] k2 pt2) pos.line X.env = pure false := by rfl)
    (n1 : starEach [a, b] X.env = (false, eval a X.env) :: starEach [b] X.env := by rfl) (n2 : starEach [b] X.env = (false, eval b X.env) :: starEach [] X.env := by rfl) :
    PSs X (.Assign [.Tuple [.Name x px, .Name y py] kt pt] (.Tuple [a, b] k2 pt2) pos :: rest) (tB X.K X.mg Wx env post lp (bnd ma fun u => bnd mb fun v => r u v)) := by
  have hr' : ∀ z : α × β, PSs X rest (tB X.K X.mg Wx ((env.set i (some (.w (k1 z.1)))).set j (some (.own (c z.2)))) post lp (r z.1 z.2)) := fun z => hr z.1 z.2
  refine PSs.imp (pss_cons (ps_par hc hN hi hj hij hx hy (pa_cons ha (pa_cons hb pa_nil n2) n1) hw hs) (pss_any hr')) fun D σ H ⟨G0, H0, G, S, hf, ss, se, h⟩ => ?_
  refine go_on hf ss se h fun u S1 L1 H1 _ e1 f1 ss1 se1 h1 v rv => ?_
  refine go_on f1 ss1 se1 h1 fun u2 S2 L2 H2 _ e2 f2 ss2 se2 h2 p o H3 hp hr3 hm h3 => ?_
  refine ⟨v, .ref p, rfl, (u, u2), ?_⟩
  have se3 := se2.setA (i := i) (rv.ext e2)
  obtain ⟨q1, q2⟩ := se3.setO (i := j) (by simpa using hjl) hp hr3 hm h3
  exact ⟨G0, H0, _, S2, f2.trans (q2.setO hp hm), ss2.stp q2, q1, h2⟩
/-- (x, y, ..) = (a, b, ..) by way of the tuple -/
theorem ds_pat {tg : Expr} {es : List Expr} {x1 n : Nat} {ms : M (List PyData)} {fe : Ev → PyData → Option Ev} {r : List PyData → M (Fl τ l)} (hg : DG X tg fe) (ha : PA X es (tDs X.K X.mg Wx env ms)) (hn : ∀ S xs S', ms S = .ok xs S' → xs.length ≤ n) (hl : n ≤ 1000)
    (hr : ∀ ds env', fe env (.tuple ds) = some env' → PSs X rest (tB X.K X.mg Wx env' post lp (r ds))) (hno : ∀ ds, fe env (.tuple ds) = none → r ds = bad)
    (hs : swapsWithSole [tg] (.Tuple es x1 pt) pos.line X.env = pure false := by rfl) (hw : swappedStores [tg] (.Tuple es x1 pt) X.env = pure none := by rfl)
    (h1 : (assignEach [tg] X.env).map (·.2) = [assign tg X.env] := by rfl) :
    PSs X (.Assign [tg] (.Tuple es x1 pt) pos :: rest) (tB X.K X.mg Wx env post lp (bnd ms r)) := by
  obtain ⟨g, hg, hgv⟩ := hg
  have hr' : ∀ z : { z : List PyData × Ev // fe env (.tuple z.1) = some z.2 }, PSs X rest (tB X.K X.mg Wx z.1.2 post lp (r z.1.1)) := fun z => hr _ _ z.2
  refine PSs.imp (pss_cons (ps_asg (pe_tup ha) hg hs hw h1) (pss_any hr')) fun D σ H ⟨G0, H0, G, S, hf, ss, se, h⟩ => ?_
  refine go_on hf ss se h fun ds S1 L1 H1 e0 e1 f1 ss1 se1 h1 vs rs => ?_
  have := hn S ds S1 e0
  have sl := sizeLine_eq
  refine ⟨by rw [rs.length]; omega, fun p hp => ?_⟩
  have rd := new_tup hp se1.there rs
  have m := Mono.upd (o := .tup vs) hp
  cases ee : fe env (.tuple ds) with
  | none =>
    have h1 : ResB X.K X.mg Wx G0 H0 (r ds S1) post lp D := h1
    rw [hno ds ee] at h1
    exact h1.elim
  | some env' =>
    exact hgv _ _ _ _ _ _ _ _ (se1.ext (m.ext (G := G.to L1))) rd ee fun σ' se' => ⟨⟨(ds, env'), ee⟩, G0, H0, _, S1, f1.ext (m.ext (G := G.to L1)), ss1.mono m, se', h1⟩
end
end DL

namespace DL
open PySem PySem.Spec PyProof.Rows L2
/-! ### the words of the mirrors -/
def frL (m : M (List PyData)) : M PyData := bnd m fun x => ret (.list x)
def asW (m : M PyData) : M W := bnd m fun x => ret (.d x)
def rsW (m : M Nat) : M W := bnd m fun x => ret (.r x)
def toD (m : M W) : M PyData := bnd m wD
def toR (m : M W) : M Nat := bnd m wR
def cat {α : Type} (m : M α) (ms : M (List α)) : M (List α) := bnd m fun x => bnd ms fun xs => ret (x :: xs)
def andM (ma mb : M PyData) : M PyData := bnd ma fun x => bnd (lft (truO x)) fun k => if k = true then mb else ret x
def orM (ma mb : M PyData) : M PyData := bnd ma fun x => bnd (lft (truO x)) fun k => if k = true then ret x else mb
def notM (ma : M PyData) : M PyData := bnd ma fun x => bnd (lft (truO x)) fun k => ret (.bool (!k))
def ifM {α : Type} (c : M Bool) (ma mb : M α) : M α := bnd c fun k => if k = true then ma else mb
def chainM (f g : PyData → PyData → Option PyData) (ma mb mc : M PyData) : M PyData := bnd ma fun x => bnd mb fun y => bnd (bnd (lft (f x y)) asB) fun k => if k = true then bnd mc fun z => lft (g y z) else ret (.bool false)
def slM (m : M PyData) (l h : M (Option Int)) : M PyData := bnd m fun x => bnd l fun l => bnd h fun h => lft (slO x l h)
def slLM (m : M PyData) (l h : M (Option Int)) : M (List PyData) := bnd m fun x => bnd l fun l => bnd h fun h => lft (slL x l h)
def someI (m : M PyData) : M (Option Int) := bnd m asI
def tru (m : M PyData) : M Bool := bnd m fun x => lft (truO x)
def tb2 (f : PyData → PyData → Option PyData) (ma mb : M PyData) : M Bool := bnd (op2 f ma mb) asB
def ntB (m : M Bool) : M Bool := bnd m fun b => ret (!b)
def andB (ma mb : M Bool) : M Bool := bnd ma fun k => if k = true then mb else ret false
def orB (ma mb : M Bool) : M Bool := bnd ma fun k => if k = true then ret true else mb
def tupM (ms : M (List PyData)) : M PyData := bnd ms fun xs => ret (.tuple xs)
def fn1 {α : Type} (g : List PyData → Option α) (m : M PyData) : M α := bnd m fun x => lft (g [x])
def fn2 {α : Type} (g : List PyData → Option α) (m m2 : M PyData) : M α := bnd m fun x => bnd m2 fun y => lft (g [x, y])
def itS (m : M PyData) : M (List PyData) := bnd m fun x => lft (itemsD x)
def itE (m : M PyData) : M (List PyData) := bnd m fun x => lft ((itemsD x).map (enumD 0))
def itR1 (m : M PyData) : M (List PyData) := bnd m fun x => lft (range1 x)
def itR2 (m m2 : M PyData) : M (List PyData) := bnd m fun x => bnd m2 fun y => lft (range2 x y)
def itZ (m m2 : M PyData) : M (List PyData) := bnd m fun x => bnd m2 fun y => lft (zipO (itemsD x) (itemsD y))
def gives {α τ l : Type} (k : α → W) (m : M α) : M (Fl τ l) := bnd m fun a => ret (.rt (k a))
theorem bnd_cat1 {β : Type} (m : M PyData) (f : List PyData → M β) : bnd (bnd m fun x => bnd (ret []) fun xs => ret (x :: xs)) f = bnd m fun x => f [x] := by rw [bnd_assoc]; rfl
section
variable {X : Cx} {Wx : WX} {env : Ev} {e o a b c : Expr} {es rest : List Expr} {x : Str} {p pos apos : Pos} {m ma mb mc : M PyData} {ms : M (List PyData)} {m1 m2 : M Bool}
theorem xL (h : PE X e (tF X.K X.mg Wx env Ob.lst ms)) : PE X e (tD X.K X.mg Wx env (frL ms)) := tf h
theorem xW (h : PE X e (tD X.K X.mg Wx env m)) : PE X e (tW X.K X.mg Wx env (asW m)) := tw h
theorem xRW {m : M Nat} (h : PE X e (tR X.K X.mg Wx env m)) : PE X e (tW X.K X.mg Wx env (rsW m)) := rw_ h
theorem xD {m : M W} (h : PE X e (tW X.K X.mg Wx env m)) : PE X e (tD X.K X.mg Wx env (toD m)) := de_w h
theorem xR {m : M W} (h : PE X e (tW X.K X.mg Wx env m)) : PE X e (tR X.K X.mg Wx env (toR m)) := dr_w h
theorem xa0 : PA X [] (tWs X.K X.mg Wx env (ret [])) := da_nil
theorem xac {m : M W} {ms : M (List W)} (he : PE X e (tW X.K X.mg Wx env m)) (hs : PA X es (tWs X.K X.mg Wx env ms)) (na : starEach (e :: es) X.env = (false, eval e X.env) :: starEach es X.env := by rfl) : PA X (e :: es) (tWs X.K X.mg Wx env (cat m ms)) := da_cons he hs na
theorem xd0 : PA X [] (tDs X.K X.mg Wx env (ret [])) := dd_nil
theorem xdc (he : PE X e (tD X.K X.mg Wx env m)) (hs : PA X es (tDs X.K X.mg Wx env ms)) (na : starEach (e :: es) X.env = (false, eval e X.env) :: starEach es X.env := by rfl) : PA X (e :: es) (tDs X.K X.mg Wx env (cat m ms)) := dd_cons he hs na
theorem lw_nil : ∀ (S : Sto) (xs : List W) (S' : Sto), (ret [] : M (List W)) S = .ok xs S' → xs.length = 0 := len_nil
theorem lw_cons {m : M W} {ms : M (List W)} {n : Nat} (h : ∀ S xs S', ms S = .ok xs S' → xs.length = n) : ∀ (S : Sto) (xs : List W) (S' : Sto), cat m ms S = .ok xs S' → xs.length = n + 1 := len_cons h
theorem lc_cons {m : M PyData} {ms : M (List PyData)} {n : Nat} (h : ∀ S xs S', ms S = .ok xs S' → xs.length ≤ n) : ∀ (S : Sto) (xs : List PyData) (S' : Sto), cat m ms S = .ok xs S' → xs.length ≤ n + 1 := ln_cons h
theorem xand (ha : PE X a (tD X.K X.mg Wx env ma)) (hb : PE X (.BoolOp .And (b :: rest) pos) (tD X.K X.mg Wx env mb)) : PE X (.BoolOp .And (a :: b :: rest) pos) (tD X.K X.mg Wx env (andM ma mb)) := de_and ha hb
theorem xor_ (ha : PE X a (tD X.K X.mg Wx env ma)) (hb : PE X (.BoolOp .Or (b :: rest) pos) (tD X.K X.mg Wx env mb)) : PE X (.BoolOp .Or (a :: b :: rest) pos) (tD X.K X.mg Wx env (orM ma mb)) := de_or ha hb
theorem xnot (ha : PE X a (tT X.K X.mg Wx env ma)) : PE X (.UnaryOp .Not a pos) (tD X.K X.mg Wx env (notM ma)) := de_not ha
theorem xif (hc : PT X c (tQ X.K X.mg Wx env m1)) (ha : PE X a (tD X.K X.mg Wx env ma)) (hb : PE X b (tD X.K X.mg Wx env mb)) : PE X (.IfExp c a b pos) (tD X.K X.mg Wx env (ifM m1 ma mb)) := de_ifx hc ha hb
theorem xch {op op' : CmpOp} {f f' : PyData → PyData → Option PyData} (hf : OpF X (compareOp op) f) (hf' : OpF X (compareOp op') f') (ha : PE X a (tT X.K X.mg Wx env ma)) (hb : PE X b (tT X.K X.mg Wx env mb)) (hc : PE X c (tT X.K X.mg Wx env mc)) (hm : lastMarks [op, op'] [b, c] = false := by with_unfolding_all rfl) :
    PE X (.Compare a [op, op'] [b, c] pos) (tD X.K X.mg Wx env (chainM f f' ma mb mc)) := de_chain hf hf' ha hb hc hm
theorem xsl {lo hi : Option Expr} {ml mh : M (Option Int)} {p2 : Pos} (ha : PE X a (tT X.K X.mg Wx env ma)) (hl : PO X lo (tP X.K X.mg Wx env ml)) (hh : PO X hi (tP X.K X.mg Wx env mh)) : PE X (.Subscript a (.Slice lo hi none p2) pos) (tD X.K X.mg Wx env (slM ma ml mh)) := de_sl ha hl hh
theorem xslL {lo hi : Option Expr} {ml mh : M (Option Int)} {p2 : Pos} (ha : PE X a (tT X.K X.mg Wx env ma)) (hl : PO X lo (tP X.K X.mg Wx env ml)) (hh : PO X hi (tP X.K X.mg Wx env mh)) : PE X (.Subscript a (.Slice lo hi none p2) pos) (tF X.K X.mg Wx env Ob.lst (slLM ma ml mh)) := ft_sl ha hl hh
theorem xso (ha : PE X a (tT X.K X.mg Wx env ma)) : PO X (some a) (tP X.K X.mg Wx env (someI ma)) := dp_so ha
theorem xtru (ha : PE X a (tT X.K X.mg Wx env ma)) (he : ∀ whole, isTrue a X.env whole = (do let v ← whole; standAt a.pos; holding [v] (truthy v)) := by intro _; rfl) : PT X a (tQ X.K X.mg Wx env (tru ma)) := dt_tru ha he
theorem xcp {op : CmpOp} {f : PyData → PyData → Option PyData} (hf : OpF X (compareOp op) f) (ha : PE X a (tT X.K X.mg Wx env ma)) (hb : PE X b (tT X.K X.mg Wx env mb)) (hm : behindInMarks op b = false := by first | exact nobehind _ (by decide) (by decide) | rfl) : PT X (.Compare a [op] [b] pos) (tQ X.K X.mg Wx env (tb2 f ma mb)) := dt_cp hf ha hb hm
theorem xnt (ha : PT X a (tQ X.K X.mg Wx env m1)) : PT X (.UnaryOp .Not a pos) (tQ X.K X.mg Wx env (ntB m1)) := dt_not ha
theorem xandB (ha : PT X a (tQ X.K X.mg Wx env m1)) (hb : PW X (.BoolOp .And (b :: rest) pos) (tQ X.K X.mg Wx env m2)) : PW X (.BoolOp .And (a :: b :: rest) pos) (tQ X.K X.mg Wx env (andB m1 m2)) := dq_and ha hb
theorem xorB (ha : PT X a (tQ X.K X.mg Wx env m1)) (hb : PW X (.BoolOp .Or (b :: rest) pos) (tQ X.K X.mg Wx env m2)) : PW X (.BoolOp .Or (a :: b :: rest) pos) (tQ X.K X.mg Wx env (orB m1 m2)) := dq_or ha hb
theorem xtup {x1} {n : Nat} (h : PA X es (tDs X.K X.mg Wx env ms)) (hn : ∀ S xs S', ms S = .ok xs S' → xs.length ≤ n) (hl : n ≤ 1000 := by decide) : PE X (.Tuple es x1 pos) (tD X.K X.mg Wx env (tupM ms)) := de_tup h hn hl
theorem xf1 {id : String} {g : List PyData → Option PyData} (hc : CF X (.builtin id) g) (hg : Gl X x) (hm : X.mg x = none) (hv : bootBuiltins x = some (.builtin id)) (ha : PE X e (tT X.K X.mg Wx env m)) (hn : x ≠ "__name__" := by decide) (hdb : (x == ("__debug__" : Str)) = false := by decide)
    (he : starEach [e] X.env = (false, eval e X.env) :: starEach [] X.env := by rfl) (hpl : (backTo pos (starEach [] X.env)).any (·.1) = false := by rfl) : PE X (.Call (.Name x p) [e] [] pos) (tD X.K X.mg Wx env (fn1 g m)) :=
  PE.imp (de_bi hc hg hm hv (dta_cons ha dta_nil he) hn hdb he hpl) fun σ H Q h => by rw [bnd_cat1]; exact h
theorem xt1 {T : String} {g : List PyData → Option PyData} (hc : CF X (.type T) g) (hg : Gl X x) (hm : X.mg x = none) (hv : bootBuiltins x = some (.type T)) (ha : PE X e (tT X.K X.mg Wx env m)) (hn : x ≠ "__name__" := by decide) (hdb : (x == ("__debug__" : Str)) = false := by decide)
    (he : starEach [e] X.env = (false, eval e X.env) :: starEach [] X.env := by rfl) (hpl : (backTo pos (starEach [] X.env)).any (·.1) = false := by rfl) : PE X (.Call (.Name x p) [e] [] pos) (tD X.K X.mg Wx env (fn1 g m)) :=
  PE.imp (de_ty hc hg hm hv (dta_cons ha dta_nil he) hn hdb he hpl) fun σ H Q h => by rw [bnd_cat1]; exact h
theorem xtL {T : String} {g : List PyData → Option (List PyData)} (hc : CL X (.type T) g) (hg : Gl X x) (hm : X.mg x = none) (hv : bootBuiltins x = some (.type T)) (ha : PE X e (tT X.K X.mg Wx env m)) (hn : x ≠ "__name__" := by decide) (hdb : (x == ("__debug__" : Str)) = false := by decide)
    (he : starEach [e] X.env = (false, eval e X.env) :: starEach [] X.env := by rfl) (hpl : (backTo pos (starEach [] X.env)).any (·.1) = false := by rfl) : PE X (.Call (.Name x p) [e] [] pos) (tF X.K X.mg Wx env Ob.lst (fn1 g m)) :=
  PE.imp (ft_ty hc hg hm hv (dta_cons ha dta_nil he) hn hdb he hpl) fun σ H Q h => by rw [bnd_cat1]; exact h
/-! comprehensions -/
theorem cc1 {Y : Cx} {i : Nat} {f : PyData → M PyData} (h : ∀ x, PE Y e (tD Y.K Y.mg WF (env.set i (some (.w (.d x)))) (f x))) : ∀ x env', fe1 i env x = some env' → PE Y e (tD Y.K Y.mg WF env' (f x)) := fun x env' q => by
  cases q; exact h x
theorem cc2 {Y : Cx} {i j : Nat} {f : PyData → PyData → M PyData} (h : ∀ x y, PE Y e (tD Y.K Y.mg WF ((env.set i (some (.w (.d x)))).set j (some (.w (.d y)))) (f x y))) : ∀ x env', feT (feC (fe1 i) (feC (fe1 j) feN)) env x = some env' → PE Y e (tD Y.K Y.mg WF env' (un2 x f)) := fun x env' q => by
  obtain ⟨a, b, rfl, rfl⟩ := fe2_inv q
  exact h a b
theorem ct0 {Y : Cx} {fe : Ev → PyData → Option Ev} : ∀ x env', fe env x = some env' → PTs Y [] (tQ Y.K Y.mg WF env' (ret true)) := fun x env' q =>
  ⟨fun pins s σ H Q I h => (pts_nil (X := Y)).run pins s σ H Q I (by
    obtain ⟨G, S, ss, se, h⟩ := h
    exact h G.L H Ext.refl ss)⟩
theorem ct02 {Y : Cx} {i j : Nat} : ∀ x env', feT (feC (fe1 i) (feC (fe1 j) feN)) env x = some env' → PTs Y [] (tQ Y.K Y.mg WF env' (un2 x fun _ _ => ret true)) := fun x env' q => by
  obtain ⟨a, b, rfl, rfl⟩ := fe2_inv q
  exact ct0 (fe := feT (feC (fe1 i) (feC (fe1 j) feN))) _ _ q
theorem cn1 {i : Nat} {f : PyData → M Bool} : ∀ x, fe1 i env x = none → ∀ S, f x S = .bad := fun x q => by cases q
theorem cn2 {i j : Nat} {f : PyData → PyData → M Bool} : ∀ x, feT (feC (fe1 i) (feC (fe1 j) feN)) env x = none → ∀ S, un2 x f S = .bad := fun x q S => by rw [fe2_none q]; rfl
end
/-! the rules in the order in which they are written: what is looked for first, then what is given -/
section
variable {X : Cx} {Wx : WX} {env : Ev} {τ υ l α β : Type} {post : τ → Ev} {lp : l → Ev} {rest body : List Stmt} {e o a b tg iter elt c : Expr} {x y : Str} {p pos apos cpos px py pt pt2 : Pos} {kt k2 : Nat} {m mv mi : M PyData}
theorem xasg {k : α → W} {m : M α} {f : α → M (Fl τ l)} {pos' : Pos} (i : Nat) (hN : X.N.Nodup) (hi : X.N[i]? = some x) (hx : Loc X.env.scope x) (he : PE X e (tX X.K X.mg Wx env k m)) (hl : Nat.ble (i + 1) env.length = true) (hr : ∀ a, PSs X rest (tB X.K X.mg Wx (env.set i (some (.w (k a)))) post lp (f a)))
    (hs : swapsWith e (some (.Name x pos')) pos.line X.env = pure false := by rfl) (hf : X.fn x = true ∨ X.env.scope.names.lookup x = some .local := by first | exact .inl rfl | exact .inr rfl | assumption) :
    PSs X (.Assign [.Name x pos'] e pos :: rest) (tB X.K X.mg Wx env post lp (bnd m f)) := ds_asg (ps_set hN hi hx he hs hf) (Nat.le_of_ble_eq_true hl) hr
theorem xown {c : α → Ob} {m : M α} {f : α → M (Fl τ l)} {pos' : Pos} (i : Nat) (hN : X.N.Nodup) (hi : X.N[i]? = some x) (hx : Loc X.env.scope x) (he : PE X e (tF X.K X.mg Wx env c m)) (hl : Nat.ble (i + 1) env.length = true) (hr : ∀ a, PSs X rest (tB X.K X.mg Wx (env.set i (some (.own (c a)))) post lp (f a)))
    (hs : swapsWith e (some (.Name x pos')) pos.line X.env = pure false := by rfl) (hf : X.fn x = true ∨ X.env.scope.names.lookup x = some .local := by first | exact .inl rfl | exact .inr rfl | assumption) :
    PSs X (.Assign [.Name x pos'] e pos :: rest) (tB X.K X.mg Wx env post lp (bnd m f)) := ds_own (ps_set hN hi hx he hs hf) (Nat.le_of_ble_eq_true hl) hr
theorem xseq {st : Stmt} {m : M (Fl υ l)} {f : υ → M (Fl τ l)} (pj : υ → Ev) (h1' : PS X st (tB X.K X.mg Wx env pj lp m)) (hr : ∀ t, PSs X rest (tB X.K X.mg Wx (pj t) post lp (f t))) : PSs X (st :: rest) (tB X.K X.mg Wx env post lp (seqF m f)) := ds_seq h1' hr
theorem xfor1 {mi : M (List PyData)} {mb : PyData → τ → M (Fl τ τ)} {inv : τ → Ev} {t0 : τ} (i : Nat) (hp : PassesOwn (model X.prog X.w) X.A X.env X.xe) (hc : X.calm = true)
    (hi : PI X tg iter (tI X.K X.mg Wx env mi)) (hg : DG X tg (fe1 i)) (hb : ∀ a t, PSs X body (tB X.K X.mg Wx ((inv t).set i (some (.w (.d a)))) inv inv (mb a t))) (le : EvLe (inv t0) env)
    (hs : ∀ x, foldedSetIterable iter X.env x = pure x := by intro _; rfl) :
    PS X (.For tg iter body [] pos) (tB X.K X.mg Wx env inv lp (bnd mi fun xs => forL mb xs t0)) := dst_for hp hc hi hg (fun x t => b1 (fun a => hb a t) x) (fun _ _ q => nomatch q) le hs
theorem xfor2 {mi : M (List PyData)} {mb : PyData → PyData → τ → M (Fl τ τ)} {inv : τ → Ev} {t0 : τ} (i j : Nat) (hp : PassesOwn (model X.prog X.w) X.A X.env X.xe) (hc : X.calm = true)
    (hi : PI X tg iter (tI X.K X.mg Wx env mi)) (hg : DG X tg (feT (feC (fe1 i) (feC (fe1 j) feN)))) (hb : ∀ a b t, PSs X body (tB X.K X.mg Wx (((inv t).set i (some (.w (.d a)))).set j (some (.w (.d b)))) inv inv (mb a b t))) (le : EvLe (inv t0) env)
    (hs : ∀ x, foldedSetIterable iter X.env x = pure x := by intro _; rfl) :
    PS X (.For tg iter body [] pos) (tB X.K X.mg Wx env inv lp (bnd mi fun xs => forL (fun z t => un2 z fun a b => mb a b t) xs t0)) := dst_for hp hc hi hg (fun x t => b2 (fun a b => hb a b t) x) (fun _ _ q => fe2_none q) le hs
def lc1 (mi : M (List PyData)) (me : PyData → M PyData) : M (List PyData) := bnd mi fun xs => filC (fun _ => ret true) me xs
def lc2 (mi : M (List PyData)) (me : PyData → PyData → M PyData) : M (List PyData) := bnd mi fun xs => filC (fun z => un2 z fun _ _ => ret true) (fun z => un2 z me) xs
def lc1i (mi : M (List PyData)) (mc : PyData → M Bool) (me : PyData → M PyData) : M (List PyData) := bnd mi fun xs => filC mc me xs
def lc2i (mi : M (List PyData)) (mc : PyData → PyData → M Bool) (me : PyData → PyData → M PyData) : M (List PyData) := bnd mi fun xs => filC (fun z => un2 z mc) (fun z => un2 z me) xs
theorem xlc1 {scope : Scope} {mi : M (List PyData)} {me : PyData → M PyData} (own : List (Str × Nat)) (i : Nat) (hc : X.calm = true) (hN : X.N.Nodup) (hi : PI X tg iter (tIL X.K X.mg Wx env mi)) (ok : BlkOk X.N X.env.scope scope own) (hg : CG X tg scope (own.map (·.2)) (fe1 i))
    (he : ∀ (s : Shared) (H : Hp) (C : Addr) (cl : List (Str × Addr)) (fp : List Addr) (a : PyData), PE (X.blk s H scope (compEnvC scope cl C X.env) fp) elt (tD X.K X.mg WF ((wipeE env (own.map (·.2))).set i (some (.w (.d a)))) (me a)))
    (hs : ∀ x, foldedSetIterable iter X.env x = pure x := by intro _; rfl) :
    PE X (.ListComp elt [⟨tg, iter, [], 0⟩] scope pos) (tF X.K X.mg Wx env Ob.lst (lc1 mi me)) := ft_lc hc hN hi ok hg cn1 (fun _ _ _ _ _ => ct0) (fun s H C cl fp => cc1 (he s H C cl fp)) hs
theorem xlc2 {scope : Scope} {mi : M (List PyData)} {me : PyData → PyData → M PyData} (own : List (Str × Nat)) (i j : Nat) (hc : X.calm = true) (hN : X.N.Nodup) (hi : PI X tg iter (tIL X.K X.mg Wx env mi)) (ok : BlkOk X.N X.env.scope scope own) (hg : CG X tg scope (own.map (·.2)) (feT (feC (fe1 i) (feC (fe1 j) feN))))
    (he : ∀ (s : Shared) (H : Hp) (C : Addr) (cl : List (Str × Addr)) (fp : List Addr) (a b : PyData), PE (X.blk s H scope (compEnvC scope cl C X.env) fp) elt (tD X.K X.mg WF (((wipeE env (own.map (·.2))).set i (some (.w (.d a)))).set j (some (.w (.d b)))) (me a b)))
    (hs : ∀ x, foldedSetIterable iter X.env x = pure x := by intro _; rfl) :
    PE X (.ListComp elt [⟨tg, iter, [], 0⟩] scope pos) (tF X.K X.mg Wx env Ob.lst (lc2 mi me)) := ft_lc hc hN hi ok hg cn2 (fun _ _ _ _ _ => ct02) (fun s H C cl fp => cc2 (he s H C cl fp)) hs
theorem ct1 {Y : Cx} {i : Nat} {f : PyData → M Bool} (h : ∀ x, PT Y c (tQ Y.K Y.mg WF (env.set i (some (.w (.d x)))) (f x))) : ∀ x env', fe1 i env x = some env' → PTs Y [c] (tQ Y.K Y.mg WF env' (f x)) := fun x env' q => by
  cases q; exact pts_one (h x)
theorem ct2 {Y : Cx} {i j : Nat} {f : PyData → PyData → M Bool} (h : ∀ x y, PT Y c (tQ Y.K Y.mg WF ((env.set i (some (.w (.d x)))).set j (some (.w (.d y)))) (f x y))) : ∀ x env', feT (feC (fe1 i) (feC (fe1 j) feN)) env x = some env' → PTs Y [c] (tQ Y.K Y.mg WF env' (un2 x f)) := fun x env' q => by
  obtain ⟨a, b, rfl, rfl⟩ := fe2_inv q
  exact pts_one (h a b)
theorem xlc1i {scope : Scope} {mi : M (List PyData)} {mc : PyData → M Bool} {me : PyData → M PyData} (own : List (Str × Nat)) (i : Nat) (hc : X.calm = true) (hN : X.N.Nodup) (hi : PI X tg iter (tIL X.K X.mg Wx env mi)) (ok : BlkOk X.N X.env.scope scope own) (hg : CG X tg scope (own.map (·.2)) (fe1 i))
    (ht : ∀ (s : Shared) (H : Hp) (C : Addr) (cl : List (Str × Addr)) (fp : List Addr) (a : PyData), PT (X.blk s H scope (compEnvC scope cl C X.env) fp) c (tQ X.K X.mg WF ((wipeE env (own.map (·.2))).set i (some (.w (.d a)))) (mc a)))
    (he : ∀ (s : Shared) (H : Hp) (C : Addr) (cl : List (Str × Addr)) (fp : List Addr) (a : PyData), PE (X.blk s H scope (compEnvC scope cl C X.env) fp) elt (tD X.K X.mg WF ((wipeE env (own.map (·.2))).set i (some (.w (.d a)))) (me a)))
    (hs : ∀ x, foldedSetIterable iter X.env x = pure x := by intro _; rfl) :
    PE X (.ListComp elt [⟨tg, iter, [c], 0⟩] scope pos) (tF X.K X.mg Wx env Ob.lst (lc1i mi mc me)) := ft_lc hc hN hi ok hg cn1 (fun s H C cl fp => ct1 (ht s H C cl fp)) (fun s H C cl fp => cc1 (he s H C cl fp)) hs
theorem xlc2i {scope : Scope} {mi : M (List PyData)} {mc : PyData → PyData → M Bool} {me : PyData → PyData → M PyData} (own : List (Str × Nat)) (i j : Nat) (hc : X.calm = true) (hN : X.N.Nodup) (hi : PI X tg iter (tIL X.K X.mg Wx env mi)) (ok : BlkOk X.N X.env.scope scope own) (hg : CG X tg scope (own.map (·.2)) (feT (feC (fe1 i) (feC (fe1 j) feN))))
    (ht : ∀ (s : Shared) (H : Hp) (C : Addr) (cl : List (Str × Addr)) (fp : List Addr) (a b : PyData), PT (X.blk s H scope (compEnvC scope cl C X.env) fp) c (tQ X.K X.mg WF (((wipeE env (own.map (·.2))).set i (some (.w (.d a)))).set j (some (.w (.d b)))) (mc a b)))
    (he : ∀ (s : Shared) (H : Hp) (C : Addr) (cl : List (Str × Addr)) (fp : List Addr) (a b : PyData), PE (X.blk s H scope (compEnvC scope cl C X.env) fp) elt (tD X.K X.mg WF (((wipeE env (own.map (·.2))).set i (some (.w (.d a)))).set j (some (.w (.d b)))) (me a b)))
    (hs : ∀ x, foldedSetIterable iter X.env x = pure x := by intro _; rfl) :
    PE X (.ListComp elt [⟨tg, iter, [c], 0⟩] scope pos) (tF X.K X.mg Wx env Ob.lst (lc2i mi mc me)) := ft_lc hc hN hi ok hg cn2 (fun s H C cl fp => ct2 (ht s H C cl fp)) (fun s H C cl fp => cc2 (he s H C cl fp)) hs
theorem xpar {k1 : α → W} {k2' : β → W} {ma : M α} {mb : M β} {r : α → β → M (Fl τ l)} (i j : Nat) (hc : X.calm = true) (hN : X.N.Nodup) (hi : X.N[i]? = some x) (hj : X.N[j]? = some y) (hij : i ≠ j) (hx : X.env.scope.names.lookup x = some .local) (hy : X.env.scope.names.lookup y = some .local)
    (ha : PE X a (tX X.K X.mg Wx env k1 ma)) (hb : PE X b (tX X.K X.mg Wx env k2' mb)) (hr : ∀ u v, PSs X rest (tB X.K X.mg Wx ((env.set i (some (.w (k1 u)))).set j (some (.w (k2' v)))) post lp (r u v)))
    (hw : swappedStores [.Tuple [.Name x px, .Name y py] kt pt] (.Tuple [a, b] k2 pt2) X.env = pure (some [x, y]))
    (hs : swapsWithSole [.Tuple [.Name x px, .Name y py] kt pt] (.Tuple [a, b] k2 pt2) pos.line X.env = pure false := by rfl)
    (n1 : starEach [a, b] X.env = (false, eval a X.env) :: starEach [b] X.env := by rfl) (n2 : starEach [b] X.env = (false, eval b X.env) :: starEach [] X.env := by rfl) :
    PSs X (.Assign [.Tuple [.Name x px, .Name y py] kt pt] (.Tuple [a, b] k2 pt2) pos :: rest) (tB X.K X.mg Wx env post lp (bnd ma fun u => bnd mb fun v => r u v)) := ds_par hc hN hi hj hij hx hy ha hb hr hw hs n1 n2
theorem xparO {k1 : α → W} {c : β → Ob} {ma : M α} {mb : M β} {r : α → β → M (Fl τ l)} (i j : Nat) (hc : X.calm = true) (hN : X.N.Nodup) (hi : X.N[i]? = some x) (hj : X.N[j]? = some y) (hij : i ≠ j) (hjl : Nat.ble (j + 1) env.length = true) (hx : X.env.scope.names.lookup x = some .local) (hy : X.env.scope.names.lookup y = some .local)
    (ha : PE X a (tX X.K X.mg Wx env k1 ma)) (hb : PE X b (tF X.K X.mg Wx env c mb)) (hr : ∀ u v, PSs X rest (tB X.K X.mg Wx ((env.set i (some (.w (k1 u)))).set j (some (.own (c v)))) post lp (r u v)))
    (hw : swappedStores [.Tuple [.Name x px, .Name y py] kt pt] (.Tuple [a, b] k2 pt2) X.env = pure (some [x, y]))
    (hs : swapsWithSole [.Tuple [.Name x px, .Name y py] kt pt] (.Tuple [a, b] k2 pt2) pos.line X.env = pure false := by rfl)
    (n1 : starEach [a, b] X.env = (false, eval a X.env) :: starEach [b] X.env := by rfl) (n2 : starEach [b] X.env = (false, eval b X.env) :: starEach [] X.env := by rfl) :
    PSs X (.Assign [.Tuple [.Name x px, .Name y py] kt pt] (.Tuple [a, b] k2 pt2) pos :: rest) (tB X.K X.mg Wx env post lp (bnd ma fun u => bnd mb fun v => r u v)) := ds_parO hc hN hi hj hij (Nat.le_of_ble_eq_true hjl) hx hy ha hb hr hw hs n1 n2
end
/-! parameters -/
def a1 {α : Type} (f : W → M α) : List W → M α
  | [x] => f x
  | _ => bad
def a2 {α : Type} (f : W → W → M α) : List W → M α
  | [x, y] => f x y
  | _ => bad
def a3 {α : Type} (f : W → W → W → M α) : List W → M α
  | [x, y, z] => f x y z
  | _ => bad
def asD {α : Type} (f : PyData → M α) : W → M α
  | .d x => f x
  | _ => bad
def asR {α : Type} (f : Nat → M α) : W → M α
  | .r x => f x
  | _ => bad
def asG {α : Type} (g : Str) (m : M α) : W → M α
  | .g x => if x = g then m else bad
  | _ => bad
section
variable {X : Cx} {Wx : WX} {body : List Stmt} {n : Nat}
abbrev Bd (X : Cx) (Wx : WX) (body : List Stmt) (env : Ev) (m : M (Fl Unit Unit)) : Prop := ∃ post lp, PSs X body (tB X.K X.mg Wx env post lp m)
theorem Bd.bad {env : Ev} : Bd X Wx body env DL.bad := ⟨fun _ => [], fun _ => [], ds_bad⟩
theorem _root_.DL.NoNx.gives {τ l α : Type} {k : α → W} {m : M α} : NoNx (gives k m : M (Fl τ l)) := NoNx.bnd fun _ => NoNx.rt
theorem Bd.of {env : Ev} {m : M (Fl Unit Unit)} (h : PSs X body (tB X.K X.mg Wx env (fun _ => List.replicate env.length none) (fun _ => []) m)) : Bd X Wx body env m := ⟨_, _, h⟩
theorem Bd.a1 {f : W → M (Fl Unit Unit)} (h : ∀ x, Bd X Wx body (env0 [x] n) (f x)) : ∀ ws : List W, ws.length = 1 → Bd X Wx body (env0 ws n) (DL.a1 f ws)
  | [x], _ => h x
theorem Bd.a2 {f : W → W → M (Fl Unit Unit)} (h : ∀ x y, Bd X Wx body (env0 [x, y] n) (f x y)) : ∀ ws : List W, ws.length = 2 → Bd X Wx body (env0 ws n) (DL.a2 f ws)
  | [x, y], _ => h x y
theorem Bd.a3 {f : W → W → W → M (Fl Unit Unit)} (h : ∀ x y z, Bd X Wx body (env0 [x, y, z] n) (f x y z)) : ∀ ws : List W, ws.length = 3 → Bd X Wx body (env0 ws n) (DL.a3 f ws)
  | [x, y, z], _ => h x y z
theorem Bd.asD {E : W → Ev} {f : PyData → M (Fl Unit Unit)} (h : ∀ x, Bd X Wx body (E (.d x)) (f x)) : ∀ x, Bd X Wx body (E x) (DL.asD f x)
  | .d x => h x
  | .r _ => Bd.bad
  | .g _ => Bd.bad
  | .o _ _ => Bd.bad
theorem Bd.asR {E : W → Ev} {f : Nat → M (Fl Unit Unit)} (h : ∀ x, Bd X Wx body (E (.r x)) (f x)) : ∀ x, Bd X Wx body (E x) (DL.asR f x)
  | .r x => h x
  | .d _ => Bd.bad
  | .g _ => Bd.bad
  | .o _ _ => Bd.bad
theorem Bd.asG {E : W → Ev} {g : Str} {m : M (Fl Unit Unit)} (h : Bd X Wx body (E (.g g)) m) : ∀ x, Bd X Wx body (E x) (DL.asG g m x)
  | .g x => by
    show Bd X Wx body (E (.g x)) (if x = g then m else DL.bad)
    by_cases e : x = g
    · subst e; rw [if_pos rfl]; exact h
    · rw [if_neg e]; exact Bd.bad
  | .r _ => Bd.bad
  | .d _ => Bd.bad
  | .o _ _ => Bd.bad
end
end DL

namespace DL
open PySem PySem.Spec PyProof.Rows L2
/-! ### more rules: chains as tests, [..] by its name, patterns, texts of the top -/
section
variable {X : Cx} {Wx : WX} {env : Ev} {τ υ l α β : Type} {post : τ → Ev} {lp : l → Ev} {rest body : List Stmt} {e o a b c tg iter elt : Expr} {x y : Str} {p pos apos cpos px py pt pt2 spos : Pos} {kt k2 : Nat} {m ma mb mc mv mi : M PyData} {ms : M (List PyData)}
theorem xchB {op op' : CmpOp} {f f' : PyData → PyData → Option PyData} (hf : OpF X (compareOp op) f) (hf' : OpF X (compareOp op') f') (ha : PE X a (tT X.K X.mg Wx env ma)) (hb : PE X b (tT X.K X.mg Wx env mb)) (hc : PE X c (tT X.K X.mg Wx env mc)) (hm : lastMarks [op, op'] [b, c] = false := by with_unfolding_all rfl) :
    PT X (.Compare a [op, op'] [b, c] pos) (tQ X.K X.mg Wx env (bnd (chainM f f' ma mb mc) asB)) := dt_chain hf hf' ha hb hc hm
theorem xst1 {scope : Scope} {mi : M (List PyData)} {me : PyData → M PyData} (own : List (Str × Nat)) (i j : Nat) (hc : X.calm = true) (hN : X.N.Nodup) (hi : PI X tg iter (tIL X.K X.mg Wx env mi)) (ok : BlkOk X.N X.env.scope scope own) (hg : CG X tg scope (own.map (·.2)) (fe1 i))
    (he : ∀ (s : Shared) (H : Hp) (C : Addr) (cl : List (Str × Addr)) (fp : List Addr) (a : PyData), PE (X.blk s H scope (compEnvC scope cl C X.env) fp) elt (tD X.K X.mg WF ((wipeE env (own.map (·.2))).set i (some (.w (.d a)))) (me a)))
    (hy : X.N[j]? = some y) (hyl : X.env.scope.names.lookup y = some .local) (hsw : swapsWith (.ListComp elt [⟨tg, iter, [], 0⟩] scope pos) (some (.Name y py)) spos.line X.env = pure true) (hs : ∀ x, foldedSetIterable iter X.env x = pure x := by intro _; rfl) :
    PS X (.Assign [.Name y py] (.ListComp elt [⟨tg, iter, [], 0⟩] scope pos) spos) (tAsg (tF X.K X.mg Wx env Ob.lst (lc1 mi me)) (gName j)) := st_lc hc hN hi ok hg cn1 (fun _ _ _ _ _ => ct0) (fun s H C cl fp => cc1 (he s H C cl fp)) hy hyl hsw hs
theorem xst1i {scope : Scope} {mi : M (List PyData)} {mc : PyData → M Bool} {me : PyData → M PyData} (own : List (Str × Nat)) (i j : Nat) (hc : X.calm = true) (hN : X.N.Nodup) (hi : PI X tg iter (tIL X.K X.mg Wx env mi)) (ok : BlkOk X.N X.env.scope scope own) (hg : CG X tg scope (own.map (·.2)) (fe1 i))
    (ht : ∀ (s : Shared) (H : Hp) (C : Addr) (cl : List (Str × Addr)) (fp : List Addr) (a : PyData), PT (X.blk s H scope (compEnvC scope cl C X.env) fp) c (tQ X.K X.mg WF ((wipeE env (own.map (·.2))).set i (some (.w (.d a)))) (mc a)))
    (he : ∀ (s : Shared) (H : Hp) (C : Addr) (cl : List (Str × Addr)) (fp : List Addr) (a : PyData), PE (X.blk s H scope (compEnvC scope cl C X.env) fp) elt (tD X.K X.mg WF ((wipeE env (own.map (·.2))).set i (some (.w (.d a)))) (me a)))
    (hy : X.N[j]? = some y) (hyl : X.env.scope.names.lookup y = some .local) (hsw : swapsWith (.ListComp elt [⟨tg, iter, [c], 0⟩] scope pos) (some (.Name y py)) spos.line X.env = pure true) (hs : ∀ x, foldedSetIterable iter X.env x = pure x := by intro _; rfl) :
    PS X (.Assign [.Name y py] (.ListComp elt [⟨tg, iter, [c], 0⟩] scope pos) spos) (tAsg (tF X.K X.mg Wx env Ob.lst (lc1i mi mc me)) (gName j)) := st_lc hc hN hi ok hg cn1 (fun s H C cl fp => ct1 (ht s H C cl fp)) (fun s H C cl fp => cc1 (he s H C cl fp)) hy hyl hsw hs
theorem xst2 {scope : Scope} {mi : M (List PyData)} {me : PyData → PyData → M PyData} (own : List (Str × Nat)) (i i2 j : Nat) (hc : X.calm = true) (hN : X.N.Nodup) (hi : PI X tg iter (tIL X.K X.mg Wx env mi)) (ok : BlkOk X.N X.env.scope scope own) (hg : CG X tg scope (own.map (·.2)) (feT (feC (fe1 i) (feC (fe1 i2) feN))))
    (he : ∀ (s : Shared) (H : Hp) (C : Addr) (cl : List (Str × Addr)) (fp : List Addr) (a b : PyData), PE (X.blk s H scope (compEnvC scope cl C X.env) fp) elt (tD X.K X.mg WF (((wipeE env (own.map (·.2))).set i (some (.w (.d a)))).set i2 (some (.w (.d b)))) (me a b)))
    (hy : X.N[j]? = some y) (hyl : X.env.scope.names.lookup y = some .local) (hsw : swapsWith (.ListComp elt [⟨tg, iter, [], 0⟩] scope pos) (some (.Name y py)) spos.line X.env = pure true) (hs : ∀ x, foldedSetIterable iter X.env x = pure x := by intro _; rfl) :
    PS X (.Assign [.Name y py] (.ListComp elt [⟨tg, iter, [], 0⟩] scope pos) spos) (tAsg (tF X.K X.mg Wx env Ob.lst (lc2 mi me)) (gName j)) := st_lc hc hN hi ok hg cn2 (fun _ _ _ _ _ => ct02) (fun s H C cl fp => cc2 (he s H C cl fp)) hy hyl hsw hs
theorem xst2i {scope : Scope} {mi : M (List PyData)} {mc : PyData → PyData → M Bool} {me : PyData → PyData → M PyData} (own : List (Str × Nat)) (i i2 j : Nat) (hc : X.calm = true) (hN : X.N.Nodup) (hi : PI X tg iter (tIL X.K X.mg Wx env mi)) (ok : BlkOk X.N X.env.scope scope own) (hg : CG X tg scope (own.map (·.2)) (feT (feC (fe1 i) (feC (fe1 i2) feN))))
    (ht : ∀ (s : Shared) (H : Hp) (C : Addr) (cl : List (Str × Addr)) (fp : List Addr) (a b : PyData), PT (X.blk s H scope (compEnvC scope cl C X.env) fp) c (tQ X.K X.mg WF (((wipeE env (own.map (·.2))).set i (some (.w (.d a)))).set i2 (some (.w (.d b)))) (mc a b)))
    (he : ∀ (s : Shared) (H : Hp) (C : Addr) (cl : List (Str × Addr)) (fp : List Addr) (a b : PyData), PE (X.blk s H scope (compEnvC scope cl C X.env) fp) elt (tD X.K X.mg WF (((wipeE env (own.map (·.2))).set i (some (.w (.d a)))).set i2 (some (.w (.d b)))) (me a b)))
    (hy : X.N[j]? = some y) (hyl : X.env.scope.names.lookup y = some .local) (hsw : swapsWith (.ListComp elt [⟨tg, iter, [c], 0⟩] scope pos) (some (.Name y py)) spos.line X.env = pure true) (hs : ∀ x, foldedSetIterable iter X.env x = pure x := by intro _; rfl) :
    PS X (.Assign [.Name y py] (.ListComp elt [⟨tg, iter, [c], 0⟩] scope pos) spos) (tAsg (tF X.K X.mg Wx env Ob.lst (lc2i mi mc me)) (gName j)) := st_lc hc hN hi ok hg cn2 (fun s H C cl fp => ct2 (ht s H C cl fp)) (fun s H C cl fp => cc2 (he s H C cl fp)) hy hyl hsw hs
theorem tf_imp {c : α → Ob} {m : M α} (p : ∀ x, obOwn (c x) = true) : ∀ σ H Q, tD X.K X.mg Wx env (bnd m fun x => ret (obD (c x))) σ H Q → tF X.K X.mg Wx env c m σ H Q := fun σ H Q ⟨G, S, ss, se, h⟩ => ⟨G, S, ss, se, h.bind fun x S1 L1 H1 _ e1 ss1 h1 a u H2 ha hr hm h2 =>
    h1 L1 H2 hm.ext (ss1.mono hm) _ (rc_rd (RC.ext hr (hm.ext (G := G.to L1))) h2 (fun z => ((se.ext e1).there a z).1 ha) (p x))⟩
theorem xstO {st : Stmt} {f : List PyData → M (Fl τ l)} (i : Nat) (hp : PS X st (tAsg (tF X.K X.mg Wx env Ob.lst ms) (gName i))) (hl : Nat.ble (i + 1) env.length = true) (hr : ∀ a, PSs X rest (tB X.K X.mg Wx (env.set i (some (.own (.lst a)))) post lp (f a))) :
    PSs X (st :: rest) (tB X.K X.mg Wx env post lp (bnd ms f)) := ds_own hp (Nat.le_of_ble_eq_true hl) hr
theorem xstD {st : Stmt} {f : PyData → M (Fl τ l)} (i : Nat) (hp : PS X st (tAsg (tF X.K X.mg Wx env Ob.lst ms) (gName i))) (hl : Nat.ble (i + 1) env.length = true) (hr : ∀ a, PSs X rest (tB X.K X.mg Wx (env.set i (some (.w (.d a)))) post lp (f a))) :
    PSs X (st :: rest) (tB X.K X.mg Wx env post lp (bnd (frL ms) f)) :=
  ds_asg (k := W.d) (PS.imp hp fun D σ H h => tf_imp (X := X) (c := Ob.lst) (fun _ => rfl) σ H _ h) (Nat.le_of_ble_eq_true hl) hr
/-- x, y = e -/
theorem xunp2 {f : PyData → PyData → M (Fl τ l)} (i j : Nat) (hg : DG X tg (feT (feC (fe1 i) (feC (fe1 j) feN)))) (he : PE X e (tD X.K X.mg Wx env m)) (hr : ∀ a b, PSs X rest (tB X.K X.mg Wx ((env.set i (some (.w (.d a)))).set j (some (.w (.d b)))) post lp (f a b)))
    (hs : swapsWithSole [tg] e pos.line X.env = pure false := by rfl) (hw : swappedStores [tg] e X.env = pure none := by rfl) (h1 : (assignEach [tg] X.env).map (·.2) = [assign tg X.env] := by rfl) :
    PSs X (.Assign [tg] e pos :: rest) (tB X.K X.mg Wx env post lp (bnd m fun z => un2 z f)) := by
  obtain ⟨g, hg, hgv⟩ := hg
  have hr' : ∀ z : PyData × PyData, PSs X rest (tB X.K X.mg Wx ((env.set i (some (.w (.d z.1)))).set j (some (.w (.d z.2)))) post lp (f z.1 z.2)) := fun z => hr z.1 z.2
  refine PSs.imp (pss_cons (ps_asg he hg hs hw h1) (pss_any hr')) fun D σ H ⟨G0, H0, G, S, hf, ss, se, h⟩ => ?_
  refine go_on hf ss se h fun d S1 L1 H1 e0 e1 f1 ss1 se1 h1 v rv => ?_
  cases ee : feT (feC (fe1 i) (feC (fe1 j) feN)) env d with
  | none =>
    have h1 : ResB X.K X.mg Wx G0 H0 (un2 d f S1) post lp D := h1
    rw [fe2_none ee] at h1
    exact h1.elim
  | some env' =>
    obtain ⟨a, b, rfl, rfl⟩ := fe2_inv ee
    exact hgv _ _ _ _ _ _ _ _ se1 rv ee fun σ' se' => ⟨(a, b), G0, H0, _, S1, f1, ss1, se', h1⟩
theorem xunp3 {f : PyData → PyData → PyData → M (Fl τ l)} (i j k : Nat) (hg : DG X tg (feT (feC (fe1 i) (feC (fe1 j) (feC (fe1 k) feN))))) (he : PE X e (tD X.K X.mg Wx env m)) (hr : ∀ a b c, PSs X rest (tB X.K X.mg Wx (((env.set i (some (.w (.d a)))).set j (some (.w (.d b)))).set k (some (.w (.d c)))) post lp (f a b c)))
    (hs : swapsWithSole [tg] e pos.line X.env = pure false := by rfl) (hw : swappedStores [tg] e X.env = pure none := by rfl) (h1 : (assignEach [tg] X.env).map (·.2) = [assign tg X.env] := by rfl) :
    PSs X (.Assign [tg] e pos :: rest) (tB X.K X.mg Wx env post lp (bnd m fun z => un3 z f)) := by
  obtain ⟨g, hg, hgv⟩ := hg
  have hr' : ∀ z : PyData × PyData × PyData, PSs X rest (tB X.K X.mg Wx (((env.set i (some (.w (.d z.1)))).set j (some (.w (.d z.2.1)))).set k (some (.w (.d z.2.2)))) post lp (f z.1 z.2.1 z.2.2)) := fun z => hr z.1 z.2.1 z.2.2
  refine PSs.imp (pss_cons (ps_asg he hg hs hw h1) (pss_any hr')) fun D σ H ⟨G0, H0, G, S, hf, ss, se, h⟩ => ?_
  refine go_on hf ss se h fun d S1 L1 H1 e0 e1 f1 ss1 se1 h1 v rv => ?_
  cases ee : feT (feC (fe1 i) (feC (fe1 j) (feC (fe1 k) feN))) env d with
  | none =>
    have h1 : ResB X.K X.mg Wx G0 H0 (un3 d f S1) post lp D := h1
    rw [fe3_none ee] at h1
    exact h1.elim
  | some env' =>
    obtain ⟨a, b, c, rfl, rfl⟩ := fe3_inv ee
    exact hgv _ _ _ _ _ _ _ _ se1 rv ee fun σ' se' => ⟨(a, b, c), G0, H0, _, S1, f1, ss1, se', h1⟩
/-- x, y = a, b where a name is a cell -/
theorem xpat2 {x1 : Nat} {f : PyData → PyData → M (Fl τ l)} (i j : Nat) (hg : DG X tg (feT (feC (fe1 i) (feC (fe1 j) feN)))) (ha : PE X a (tD X.K X.mg Wx env ma)) (hb : PE X b (tD X.K X.mg Wx env mb)) (hr : ∀ a b, PSs X rest (tB X.K X.mg Wx ((env.set i (some (.w (.d a)))).set j (some (.w (.d b)))) post lp (f a b)))
    (hs : swapsWithSole [tg] (.Tuple [a, b] x1 pt) pos.line X.env = pure false := by rfl) (hw : swappedStores [tg] (.Tuple [a, b] x1 pt) X.env = pure none := by rfl) (h1 : (assignEach [tg] X.env).map (·.2) = [assign tg X.env] := by rfl)
    (n1 : starEach [a, b] X.env = (false, eval a X.env) :: starEach [b] X.env := by rfl) (n2 : starEach [b] X.env = (false, eval b X.env) :: starEach [] X.env := by rfl) :
    PSs X (.Assign [tg] (.Tuple [a, b] x1 pt) pos :: rest) (tB X.K X.mg Wx env post lp (bnd ma fun u => bnd mb fun v => f u v)) := by
  have key := xunp2 (τ := τ) (l := l) (post := post) (lp := lp) (rest := rest) i j hg (xtup (x1 := x1) (pos := pt) (xdc ha (xdc hb xd0 n2) n1) (lc_cons (lc_cons ln_nil))) hr hs hw h1
  have e : (bnd (tupM (cat ma (cat mb (ret [])))) fun z => un2 z f) = bnd ma fun u => bnd mb fun v => f u v := by
    unfold tupM cat
    simp only [bnd_assoc]
    rfl
  rw [e] at key
  exact key
/-- for k, (x, y) in .. -/
def un12 {α : Type} (z : PyData) (f : PyData → PyData → PyData → M α) : M α := un2 z fun a p => un2 p fun b c => f a b c
abbrev fe12 (i j k : Nat) := feT (feC (fe1 i) (feC (feT (feC (fe1 j) (feC (fe1 k) feN))) feN))
theorem fe12_inv {i j k : Nat} {env env' : Ev} {x : PyData} (q : fe12 i j k env x = some env') : ∃ a b c, x = .tuple [a, .tuple [b, c]] ∧ env' = ((env.set i (some (.w (.d a)))).set j (some (.w (.d b)))).set k (some (.w (.d c))) := by
  cases x with
  | tuple xs =>
    have hl := feC_len (f := fe1 i) (feC_len (f := feT (feC (fe1 j) (feC (fe1 k) feN))) feN_len) env xs env' q
    match xs, hl with
    | [a, p], _ =>
      have q' : (feT (feC (fe1 j) (feC (fe1 k) feN)) (env.set i (some (.w (.d a)))) p).bind (fun e => feN e []) = some env' := q
      cases h : feT (feC (fe1 j) (feC (fe1 k) feN)) (env.set i (some (.w (.d a)))) p with
      | none => rw [h] at q'; cases q'
      | some e2 =>
        rw [h] at q'
        cases q'
        obtain ⟨b, c, rfl, rfl⟩ := fe2_inv h
        exact ⟨a, b, c, rfl, rfl⟩
  | _ => cases q
theorem fe12_none {i j k : Nat} {env : Ev} {x : PyData} {α : Type} {f : PyData → PyData → PyData → M α} (q : fe12 i j k env x = none) : un12 x f = bad := by
  have un2_x : ∀ (z : PyData) (F : PyData → PyData → M α), (∀ a b, z = .tuple [a, b] → F a b = bad) → un2 z F = bad := fun z F h => by
    unfold un2
    split
    · rename_i a b
      exact h a b rfl
    · rfl
  refine un2_x _ _ fun a p e => ?_
  · subst e
    have q' : (feT (feC (fe1 j) (feC (fe1 k) feN)) (env.set i (some (.w (.d a)))) p).bind (fun e => feN e []) = none := q
    cases h : feT (feC (fe1 j) (feC (fe1 k) feN)) (env.set i (some (.w (.d a)))) p with
    | none => exact fe2_none h
    | some e2 => rw [h] at q'; cases q'
theorem xfor12 {mi : M (List PyData)} {mb : PyData → PyData → PyData → τ → M (Fl τ τ)} {inv : τ → Ev} {t0 : τ} (i j k : Nat) (hp : PassesOwn (model X.prog X.w) X.A X.env X.xe) (hc : X.calm = true)
    (hi : PI X tg iter (tI X.K X.mg Wx env mi)) (hg : DG X tg (fe12 i j k)) (hb : ∀ a b c t, PSs X body (tB X.K X.mg Wx ((((inv t).set i (some (.w (.d a)))).set j (some (.w (.d b)))).set k (some (.w (.d c)))) inv inv (mb a b c t))) (le : EvLe (inv t0) env)
    (hs : ∀ x, foldedSetIterable iter X.env x = pure x := by intro _; rfl) :
    PS X (.For tg iter body [] pos) (tB X.K X.mg Wx env inv lp (bnd mi fun xs => forL (fun z t => un12 z fun a b c => mb a b c t) xs t0)) := dst_for hp hc hi hg (fun x t env' q => by
      obtain ⟨a, b, c, rfl, rfl⟩ := fe12_inv q
      exact hb a b c t) (fun _ _ q => fe12_none q) le hs
theorem xfor3 {mi : M (List PyData)} {mb : PyData → PyData → PyData → τ → M (Fl τ τ)} {inv : τ → Ev} {t0 : τ} (i j k : Nat) (hp : PassesOwn (model X.prog X.w) X.A X.env X.xe) (hc : X.calm = true)
    (hi : PI X tg iter (tI X.K X.mg Wx env mi)) (hg : DG X tg (feT (feC (fe1 i) (feC (fe1 j) (feC (fe1 k) feN))))) (hb : ∀ a b c t, PSs X body (tB X.K X.mg Wx ((((inv t).set i (some (.w (.d a)))).set j (some (.w (.d b)))).set k (some (.w (.d c)))) inv inv (mb a b c t))) (le : EvLe (inv t0) env)
    (hs : ∀ x, foldedSetIterable iter X.env x = pure x := by intro _; rfl) :
    PS X (.For tg iter body [] pos) (tB X.K X.mg Wx env inv lp (bnd mi fun xs => forL (fun z t => un3 z fun a b c => mb a b c t) xs t0)) := dst_for hp hc hi hg (fun x t => b3 (fun a b c => hb a b c t) x) (fun _ _ q => fe3_none q) le hs
end
/-! a tuple of texts that the top binds -/
def KStrs (K : PySem.W.Frag) (mg : Str → Option Value) (x : Str) (ss : List Str) : Prop := ∃ (a : Addr) (o : Obj) (its : Array Value) (n : Nat), mg x = some (.ref a) ∧ K.lookup a = some o ∧ o.cls = .type "tuple" ∧ o.data = .seq its n ∧ its.size ≤ sizeLine ∧ Vals (ss.map V.str) its.toList
def rInK (K : PySem.W.Frag) (ss : List Str) : R2 := fun x y H Q => ∃ (G : Gh) (d : PyData) (p : Addr), RT K G H x d ∧ y = .ref p ∧ SqT K H p (ss.map V.str) ∧ plainL (ss.map .str) d = true ∧ Q (.bl ((ss.map PyData.str).any fun y => PyData.eqv y d)) H
section
variable {X : Cx} {Wx : WX} {env : Ev} {a : Expr} {x : Str} {p pos : Pos} {ma : M PyData} {ss : List Str}
theorem op_inK (hu : X.A.units + 65 < cLine) : OpR X (compareOp .In) (rInK X.K ss) := by
  rintro pins s σ H x y v u Q I rx ry ⟨G, d, p, h1, rfl, h2, hp, q⟩
  obtain ⟨p1, p2, p3⟩ := plainL_ok hp
  obtain ⟨as, r1⟩ := h1.reads I p2 rx
  cases ry
  obtain ⟨bs, r2⟩ := sqT_reads I h2 fun us rv => (rds_strs (K := X.K) (B := fun _ => False) (H := H) ss).reads I p1 us rv
  exact PySem.SeqAt.in_tuple_data r2 r1 p1 p2 (by omega) ⟨.bl _, H, I, rfl, q⟩
theorem inK_imp {m : M PyData} (h : KStrs X.K X.mg x ss) : ∃ A, X.mg x = some (.ref A) ∧ ∀ σ H Q, tD X.K X.mg Wx env (op2 inO ma (ret (.tuple (ss.map .str)))) σ H Q → tOp (rInK X.K ss) (tT X.K X.mg Wx env ma) (tC (.ref A)) σ H Q := by
  obtain ⟨A, o, its, n, h1, h2, h3, h4, h5, h6⟩ := h
  refine ⟨A, h1, fun σ H Q ⟨G, S, ss', se, h⟩ => ⟨G, S, ss', se, h.bind fun d S1 L1 H1 _ e1 ss1 h7 v rv => ?_⟩⟩
  have h7 : Res X.K X.mg Wx (G.to L1) H1 σ (lft (inO d (.tuple (ss.map .str))) S1) (fun x G' H' => ∀ v, RD X.K G'.bar H' v x → Q v H') := h7
  obtain ⟨z, q, k⟩ := lft_go h7 ss1
  obtain ⟨c, rfl⟩ := of_eq (show (if plainL (ss.map .str) d = true then some (PyData.bool ((ss.map PyData.str).any fun y => PyData.eqv y d)) else none) = some z from q)
  exact ⟨G.to L1, d, A, rv, rfl, .inr ⟨o, its, n, h2, h3, h4, h5, h6⟩, c, k _ (.bl _)⟩
theorem xinK (hu : X.A.units + 65 < cLine) (hg : Gl X x) (h : KStrs X.K X.mg x ss) (ha : PE X a (tT X.K X.mg Wx env ma)) (hd : (x == ("__debug__" : Str)) = false := by decide) (hm : behindInMarks .In (.Name x p) = false := by first | exact nobehind _ (by decide) (by decide) | rfl) : PE X (.Compare a [.In] [.Name x p] pos) (tD X.K X.mg Wx env (op2 inO ma (ret (.tuple (ss.map .str))))) := by
  obtain ⟨A, h1, i⟩ := inK_imp (m := ma) (Wx := Wx) (env := env) (ma := ma) h
  exact PE.imp (pe_cmpR (op_inK hu) ha (pe_glob (v := .ref A) hg h1 rfl hd) hm) i
theorem xinKB (hu : X.A.units + 65 < cLine) (hg : Gl X x) (h : KStrs X.K X.mg x ss) (ha : PE X a (tT X.K X.mg Wx env ma)) (hd : (x == ("__debug__" : Str)) = false := by decide) (hm : behindInMarks .In (.Name x p) = false := by first | exact nobehind _ (by decide) (by decide) | rfl) : PT X (.Compare a [.In] [.Name x p] pos) (tQ X.K X.mg Wx env (tb2 inO ma (ret (.tuple (ss.map .str))))) := by
  obtain ⟨A, h1, i⟩ := inK_imp (m := ma) (Wx := Wx) (env := env) (ma := ma) h
  exact PT.imp (pt_cmpR (op_inK hu) ha (pe_glob (v := .ref A) hg h1 rfl hd) hm) fun σ H Q ⟨G, S, ss, se, h⟩ => i σ H _ ⟨G, S, ss, se, asB_res h⟩
end
end DL

namespace DL
open PySem PySem.Spec PyProof.Rows L2
/-! ### a tuple of texts of the top, as the head tells it -/
def strOfV : Value → Option Str
  | .str x _ => some x
  | _ => none
def strsB (K : PySem.W.Frag) (x : Str) (ss : List Str) : Bool := match K.lookup (He.ga K x) with
  | some o => (match o.cls, o.data with
    | .type c, .seq its _ => decide (c = "tuple") && (decide (its.size ≤ sizeLine) && decide (its.toList.map strOfV = ss.map some))
    | _, _ => false)
  | none => false
theorem vals_strs : ∀ {us : List Value} {ss : List Str}, us.map strOfV = ss.map some → Vals (ss.map V.str) us
  | [], [], _ => .nil
  | [], _ :: _, h => by simp at h
  | _ :: _, [], h => by simp at h
  | u :: us, s :: ss, h => by
    simp only [List.map_cons, List.cons.injEq] at h
    refine .cons ?_ (vals_strs h.2)
    have h1 := h.1
    unfold strOfV at h1
    split at h1
    · cases h1
      exact ⟨_, rfl⟩
    · cases h1
theorem strsB_ok {K : PySem.W.Frag} {mg : Str → Option Value} {x : Str} {ss : List Str} (h : strsB K x ss = true) (hm : mg x = some (.ref (He.ga K x))) : KStrs K mg x ss := by
  unfold strsB at h
  split at h
  · rename_i o ho
    split at h
    · rename_i c its n hc hd
      simp only [Bool.and_eq_true, decide_eq_true_eq] at h
      obtain ⟨rfl, h2, h3⟩ := h
      exact ⟨_, o, its, n, hm, ho, hc, hd, h2, vals_strs h3⟩
    · cases h
  · cases h
/-! ### the law's end -/
theorem rds_ints {K : PySem.W.Frag} {B : Addr → Prop} {H : Hp} : ∀ ns : List Int, RDs K B H (ns.map V.int) (ns.map PyData.int)
  | [] => .nil
  | n :: r => .cons (.int n) (rds_ints r)
theorem law_sp {K : PySem.W.Frag} {mg : Str → Option Value} {m : List W → M W} {ns : List Int} (hm : ∃ S, m [.d (.list (ns.map .int))] [] = .ok (.d (.bool true)) S) {H : Hp} {a : Addr} (hS : SqL K H a (ns.map V.int)) :
    SpM K mg 1 m [.ref a] H (fun v _ => v = .bl true) fun _ _ _ => False := by
  obtain ⟨S', hm⟩ := hm
  have nb : ∀ a, ¬ (Gh.mk [] (fun _ => False) []).bar a := fun a z => by
    rcases z with z | z | z
    · simp at z
    · exact z
    · simp at z
  refine ⟨[], fun _ => False, [], [.d (.list (ns.map .int))], rfl, fun _ z => z.elim, ⟨rfl, .nil, fun n o e => by simp at e⟩, .cons (RD.lst (.of hS (nb a)) (rds_ints ns)) .nil, ?_⟩
  rw [hm]
  intro L' H' e ss v r
  cases (show RD K _ H' v (.bool true) from r)
  rfl
theorem law_cx {P : Program} {w : World} {H : Hp} {s : Shared} {e : Value} {s' : Shared} (c : L2.CX P w [] H s (fun _ _ _ => False) e s') : False := by
  obtain ⟨_, _, _, _, _, _, _, _, _, _, _, _, z⟩ := c
  exact z
end DL

namespace DL
open PySem PySem.Spec PyProof.Rows L2
/-! ### plain words about mirrors -/
theorem ret_bnd {α β : Type} (a : α) (f : α → M β) : bnd (ret a) f = f a := rfl
theorem bad_bnd {α β : Type} (f : α → M β) : bnd (bad : M α) f = bad := rfl
theorem lft_some {α : Type} (a : α) : lft (some a) = ret a := rfl
theorem lft_none {α : Type} : lft (none : Option α) = bad := rfl
theorem wD_d (x : PyData) : wD (.d x) = ret x := rfl
theorem wR_r (x : Nat) : wR (.r x) = ret x := rfl
theorem asB_b (b : Bool) : asB (.bool b) = ret b := rfl
theorem asI_i (i : Int) : asI (.int i) = ret (some i) := rfl
theorem strO_s (s : Str) : strO (.str s) = some s := rfl
theorem if_t {α : Type} (a b : α) : (if true = true then a else b) = a := rfl
theorem if_f {α : Type} (a b : α) : (if false = true then a else b) = b := rfl
theorem truO_b (b : Bool) : truO (.bool b) = some b := rfl
theorem fnM_rt (w : W) : fnM (ret (.rt w)) = ret w := rfl
theorem seqF_nx {α τ l : Type} (a : α) (f : α → M (Fl τ l)) : seqF (ret (.nx a)) f = f a := rfl
theorem seqF_rt {α τ l : Type} (w : W) (f : α → M (Fl τ l)) : seqF (ret (.rt w)) f = ret (.rt w) := rfl
theorem forL_nil {τ l : Type} (f : PyData → τ → M (Fl τ τ)) (t : τ) : forL (l := l) f [] t = ret (.nx t) := rfl
theorem forL_cons {τ l : Type} (f : PyData → τ → M (Fl τ τ)) (x : PyData) (xs : List PyData) (t t' : τ) (h : f x t = ret (.nx t')) : forL (l := l) f (x :: xs) t = forL f xs t' := by
  rw [forL, h]
  rfl
theorem forL_rt {τ l : Type} (f : PyData → τ → M (Fl τ τ)) (x : PyData) (xs : List PyData) (t : τ) (w : W) (h : f x t = ret (.rt w)) : forL (l := l) f (x :: xs) t = ret (.rt w) := by
  rw [forL, h]
  rfl
theorem un2_t {α : Type} (a b : PyData) (f : PyData → PyData → M α) : un2 (.tuple [a, b]) f = f a b := rfl
theorem filC_ret (c : PyData → M Bool) (f : PyData → M PyData) (g : PyData → PyData) : ∀ (xs : List PyData), xs.length ≤ sizeLine → (∀ x ∈ xs, c x = ret true ∧ f x = ret (g x)) → filC c f xs = ret (xs.map g) := by
  intro xs hl h
  unfold filC comp
  rw [if_pos hl]
  clear hl
  induction xs with
  | nil => rfl
  | cons x r ih =>
    obtain ⟨h1, h2⟩ := h x List.mem_cons_self
    rw [compL, ih fun y hy => h y (List.mem_cons_of_mem _ hy)]
    show bnd (noExc (bnd (c x) _)) _ = _
    rw [h1]
    show bnd (noExc (bnd (f x) _)) _ = _
    rw [h2]
    rfl
theorem lc1_ret {mi : M (List PyData)} {xs : List PyData} {f : PyData → M PyData} (g : PyData → PyData) (hi : mi = ret xs) (hl : xs.length ≤ sizeLine) (h : ∀ x ∈ xs, f x = ret (g x)) : lc1 mi f = ret (xs.map g) := by
  unfold lc1
  rw [hi]
  exact filC_ret _ _ g xs hl fun x hx => ⟨rfl, h x hx⟩
theorem lc2_ret {mi : M (List PyData)} {xs : List PyData} {f : PyData → PyData → M PyData} (g : PyData → PyData) (hi : mi = ret xs) (hl : xs.length ≤ sizeLine) (h : ∀ x ∈ xs, ∃ a b, x = .tuple [a, b] ∧ f a b = ret (g x)) : lc2 mi f = ret (xs.map g) := by
  unfold lc2
  rw [hi]
  refine filC_ret _ _ g xs hl fun x hx => ?_
  obtain ⟨a, b, rfl, e⟩ := h x hx
  exact ⟨rfl, e⟩
/-! data -/
theorem and_t : (true && true) = true := rfl
mutual
theorem eqv_refl : ∀ d : PyData, d.plain = true → PyData.eqv d d = true
  | .none, _ => by simp [PyData.eqv]
  | .bool b, _ => by simp [PyData.eqv]
  | .int i, _ => by simp [PyData.eqv]
  | .str x, _ => by simp [PyData.eqv]
  | .list xs, p => by simp only [PyData.eqv]; exact eqvs_refl xs (by simpa [PyData.plain] using p)
  | .tuple xs, p => by simp only [PyData.eqv]; exact eqvs_refl xs (by simpa [PyData.plain] using p)
  | .dict _, p => by simp [PyData.plain] at p
theorem eqvs_refl : ∀ ds : List PyData, PyData.plainAll ds = true → PyData.eqvAll ds ds = true
  | [], _ => by simp [PyData.eqvAll]
  | d :: r, p => by
    simp only [PyData.plainAll, Bool.and_eq_true] at p
    simp only [PyData.eqvAll, Bool.and_eq_true]
    exact ⟨eqv_refl d p.1, eqvs_refl r p.2⟩
end
theorem eqv_int (i j : Int) : PyData.eqv (.int i) (.int j) = decide (i = j) := by
  simp only [PyData.eqv]
  by_cases h : i = j
  · subst h; simp
  · rw [decide_eq_false h]; exact beq_false_of_ne h
theorem eqv_str (i j : Str) : PyData.eqv (.str i) (.str j) = decide (i = j) := by
  simp only [PyData.eqv]
  by_cases h : i = j
  · subst h; simp
  · rw [decide_eq_false h]; exact beq_false_of_ne h
theorem eqO_int (i j : Int) : eqO (.int i) (.int j) = some (.bool (decide (i = j))) := by
  unfold eqO
  rw [if_pos (by simp [smallD, PyData.plain, PyData.depth]), eqv_int]
theorem eqO_str (i j : Str) : eqO (.str i) (.str j) = some (.bool (decide (i = j))) := by
  unfold eqO
  rw [if_pos (by simp [smallD, PyData.plain, PyData.depth]), eqv_str]
theorem neO_int (i j : Int) : neO (.int i) (.int j) = some (.bool (!decide (i = j))) := by
  unfold neO
  rw [if_pos (by simp [smallD, PyData.plain, PyData.depth]), eqv_int]
theorem neO_str (i j : Str) : neO (.str i) (.str j) = some (.bool (!decide (i = j))) := by
  unfold neO
  rw [if_pos (by simp [smallD, PyData.plain, PyData.depth]), eqv_str]
theorem ltO_int (i j : Int) : ltO (.int i) (.int j) = some (.bool (decide (i < j))) := rfl
theorem leO_int (i j : Int) : leO (.int i) (.int j) = some (.bool (decide (i ≤ j))) := rfl
theorem gtO_int (i j : Int) : gtO (.int i) (.int j) = some (.bool (decide (j < i))) := rfl
theorem geO_int (i j : Int) : geO (.int i) (.int j) = some (.bool (decide (j ≤ i))) := rfl
theorem addO_int (i j : Int) : addO (.int i) (.int j) = some (.int (i + j)) := rfl
theorem addO_str {a b : Str} (h : a.length + b.length ≤ sizeLine) : addO (.str a) (.str b) = some (.str (a ++ b)) := by
  show (if _ then _ else _) = _
  rw [if_pos h]
theorem subO_int (i j : Int) : subO (.int i) (.int j) = some (.int (i - j)) := rfl
theorem mulO_int {i j : Int} (h : Builtin.Int.intBits i + Builtin.Int.intBits j ≤ 134217728) : mulO (.int i) (.int j) = some (.int (i * j)) := by
  show (if _ then _ else _) = _
  rw [if_pos h]
theorem modO_int {i j : Int} (h : j ≠ 0) : modO (.int i) (.int j) = some (.int (i.fmod j)) := by
  show (if _ then _ else _) = _
  rw [if_pos h]
theorem fdivO_int {i j : Int} (h : j ≠ 0) (h2 : j.natAbs < 1073741824) : fdivO (.int i) (.int j) = some (.int (i.fdiv j)) := by
  show (if _ then _ else _) = _
  rw [if_pos ⟨h, h2⟩]
theorem ixO_tup (xs : List PyData) (i : Int) : ixO (.tuple xs) (.int i) = atI xs i := rfl
theorem ixO_lst (xs : List PyData) (i : Int) : ixO (.list xs) (.int i) = atI xs i := rfl
theorem lenO_tup (xs : List PyData) : lenO [.tuple xs] = some (.int xs.length) := rfl
theorem lenO_lst (xs : List PyData) : lenO [.list xs] = some (.int xs.length) := rfl
theorem lenO_str {x : Str} (h : x.length ≤ sizeLine) : lenO [.str x] = some (.int x.length) := by
  show (if _ then _ else _) = _
  rw [if_pos h]
theorem isiO_ok {g : PyData → Bool} {d : PyData} (h : d.plain = true) : isiO g d = some (.bool (g d)) := by
  unfold isiO
  rw [if_pos h]
theorem atI_nat {α : Type} (xs : List α) (n : Nat) : atI xs (n : Int) = xs[n]? := by
  unfold atI ixN
  rw [if_pos (Int.natCast_nonneg n)]
  by_cases h : n < xs.length
  · rw [if_pos (by omega)]
    simp
  · rw [if_neg (by omega), List.getElem?_eq_none (by omega)]
    rfl
theorem bools_of : ∀ bs : List Bool, bools (bs.map PyData.bool) = some bs
  | [] => rfl
  | b :: r => by
    show (bools (r.map PyData.bool)).map (b :: ·) = _
    rw [bools_of r]
    rfl
theorem allO_true {α : Type} (xs : List α) (g : α → PyData) (h : ∀ x ∈ xs, g x = .bool true) : allO [.list (xs.map g)] = some (.bool true) := by
  have e : xs.map g = (xs.map fun _ => true).map PyData.bool := by
    rw [List.map_map]
    exact List.map_congr_left h
  show (bools (xs.map g)).map _ = _
  rw [e, bools_of]
  simp
theorem strsD_of : ∀ bs : List Str, strsD (bs.map PyData.str) = some bs
  | [] => rfl
  | b :: r => by
    show (strsD (r.map PyData.str)).map (b :: ·) = _
    rw [strsD_of r]
    rfl
theorem plain_map {α : Type} (g : α → PyData) : ∀ xs : List α, (∀ x ∈ xs, (g x).plain = true) → PyData.plainAll (xs.map g) = true
  | [], _ => rfl
  | x :: r, h => by
    simp only [List.map_cons, PyData.plainAll, Bool.and_eq_true]
    exact ⟨h x List.mem_cons_self, plain_map g r fun y hy => h y (List.mem_cons_of_mem _ hy)⟩
theorem depth_map {α : Type} (g : α → PyData) (n : Nat) : ∀ xs : List α, (∀ x ∈ xs, (g x).depth ≤ n) → PyData.depthAll (xs.map g) ≤ n
  | [], _ => Nat.zero_le _
  | x :: r, h => by
    simp only [List.map_cons, PyData.depthAll]
    exact Nat.max_le.mpr ⟨h x List.mem_cons_self, depth_map g n r fun y hy => h y (List.mem_cons_of_mem _ hy)⟩
end DL

namespace DL
open PySem PySem.Spec PyProof.Rows L2
open SX (S)
theorem itemsD_t (xs : List PyData) : itemsD (.tuple xs) = some xs := rfl
theorem itemsD_l (xs : List PyData) : itemsD (.list xs) = some xs := rfl
theorem len_t2 (a b : PyData) : lenO [.tuple [a, b]] = some (.int 2) := rfl
theorem len_t3 (a b c : PyData) : lenO [.tuple [a, b, c]] = some (.int 3) := rfl
theorem at0 {α : Type} (a : α) (xs : List α) : atI (a :: xs) (0 : Int) = some a := atI_nat (a :: xs) 0
theorem at1 {α : Type} (a b : α) (xs : List α) : atI (a :: b :: xs) (1 : Int) = some b := atI_nat (a :: b :: xs) 1
theorem at2 {α : Type} (a b c : α) (xs : List α) : atI (a :: b :: c :: xs) (2 : Int) = some c := atI_nat (a :: b :: c :: xs) 2
theorem len_l2 (a b : PyData) : lenO [.list [a, b]] = some (.int 2) := rfl
theorem zipO_ss (xs ys : List PyData) : zipO (some xs) (some ys) = some (zipD xs ys) := rfl
theorem tup_l (xs : List PyData) : tupO [.list xs] = some (.tuple xs) := rfl
theorem tup_t (xs : List PyData) : tupO [.tuple xs] = some (.tuple xs) := rfl
theorem negO_i (i : Int) : negO (.int i) = some (.int (-i)) := rfl
theorem sl1' (xs : List PyData) : slO (.tuple xs) (some 1) none = some (.tuple (xs.drop 1)) := by
  show some (PyData.tuple (cutD xs (some 1) none)) = _
  unfold cutD
  have h1 : HT.sIx xs.length 0 (some 1) = min 1 xs.length := by
    show (if (1 : Int) < 0 then ((1 : Int) + (xs.length : Int)).toNat else min (1 : Int).toNat xs.length) = _
    rw [if_neg (by decide)]
    rfl
  have h2 : HT.sIx xs.length xs.length none = xs.length := rfl
  rw [h1, h2]
  cases xs with
  | nil => rfl
  | cons a r =>
    have : min 1 (a :: r).length = 1 := by show min 1 (r.length + 1) = 1; omega
    rw [this, List.take_of_length_le (by simp)]
theorem sl_str1 {z : Str} (h : z.length ≤ sizeLine) (lo hi : Option Int) : slO (.str z) lo hi = some (.str (cutS z lo hi)) := by
  show (if _ then _ else _) = _
  rw [if_pos h]
theorem noneIn (xs : List PyData) (hp : PyData.plainAll xs = true) (h : ∀ x ∈ xs, isNo x = false) : inO .none (.tuple xs) = some (.bool false) := by
  show (if _ then _ else _) = _
  have e : (xs.any fun y => PyData.eqv y .none) = false := by
    rw [List.any_eq_false]
    intro x hx hh
    have h2 := h x hx
    cases x <;> simp [PyData.eqv, isNo] at hh h2
  rw [if_pos (by unfold plainL; rw [hp]; simp [PyData.plain, PyData.depth]), e]
theorem lc1_map {α : Type} {f : PyData → M PyData} (g h : α → PyData) (as : List α) (hl : as.length ≤ 1000000) (k : ∀ a ∈ as, f (g a) = ret (h a)) : lc1 (ret (as.map g)) f = ret (as.map h) := by
  have sl := sizeLine_eq
  unfold lc1
  show filC _ _ _ = _
  unfold filC comp
  rw [if_pos (by rw [List.length_map]; omega)]
  clear hl
  induction as with
  | nil => rfl
  | cons e r ih =>
    rw [List.map_cons, compL, ih fun y hy => k y (List.mem_cons_of_mem _ hy)]
    show bnd (noExc (bnd (f (g e)) _)) _ = _
    rw [k e List.mem_cons_self]
    rfl
theorem sum_le {α : Type} (f : α → Nat) (B : Nat) : ∀ xs : List α, (∀ x ∈ xs, f x ≤ B) → (xs.map f).sum ≤ xs.length * B
  | [], _ => by simp
  | x :: r, h => by
    have h1 := h x List.mem_cons_self
    have h2 := sum_le f B r fun y hy => h y (List.mem_cons_of_mem _ hy)
    rw [List.map_cons, List.sum_cons, List.length_cons, Nat.succ_mul]
    omega
theorem joinL_len (sep : List Nat) (B : Nat) : ∀ ys : List (List Nat), (∀ y ∈ ys, y.length ≤ B) → (TL.joinL sep ys).length ≤ ys.length * (B + sep.length)
  | [], _ => by simp [TL.joinL]
  | [p], h => by
    have := h p List.mem_cons_self
    show p.length ≤ 1 * _
    omega
  | p :: q :: r, h => by
    have h1 := h p List.mem_cons_self
    have h2 := joinL_len sep B (q :: r) fun y hy => h y (List.mem_cons_of_mem _ hy)
    show (p ++ (sep ++ TL.joinL sep (q :: r))).length ≤ (r.length + 1 + 1) * _
    rw [List.length_append, List.length_append, Nat.succ_mul]
    have h3 : (TL.joinL sep (q :: r)).length ≤ (r.length + 1) * (B + sep.length) := h2
    omega
theorem joinL_mem (sep : List Nat) (c : Nat) : ∀ ys : List (List Nat), c ∈ TL.joinL sep ys → c ∈ sep ∨ ∃ y ∈ ys, c ∈ y
  | [], h => by simp [TL.joinL] at h
  | [p], h => .inr ⟨p, List.mem_cons_self, h⟩
  | p :: q :: r, h => by
    have h' : c ∈ p ++ (sep ++ TL.joinL sep (q :: r)) := h
    rw [List.mem_append, List.mem_append] at h'
    rcases h' with h' | h' | h'
    · exact .inr ⟨p, List.mem_cons_self, h'⟩
    · exact .inl h'
    · rcases joinL_mem sep c (q :: r) h' with z | ⟨y, hy, z⟩
      · exact .inl z
      · exact .inr ⟨y, List.mem_cons_of_mem _ hy, z⟩
/-- a separator that begins in none of the parts -/
theorem spl_frees {sep : List Nat} (hs : sep ≠ []) : ∀ {parts : List (List Nat)}, parts ≠ [] → (∀ p ∈ parts, SX.free sep p = true) → (∀ p ∈ parts, ∀ i, i < p.length → TL.pre sep (p.drop i) = false) → TL.spl sep 0 [] (TL.joinL sep parts) = parts
  | [], h, _, _ => absurd rfl h
  | [p], _, _, h => by
    show TL.spl sep 0 [] p = [p]
    rw [TL.spl_last (h p List.mem_cons_self), List.nil_append]
  | p :: q :: r, _, hf, h => by
    show TL.spl sep 0 [] (p ++ (sep ++ TL.joinL sep (q :: r))) = _
    rw [SX.spl_free _ hs (hf p List.mem_cons_self), spl_frees hs (by simp) (fun y hy => hf y (List.mem_cons_of_mem _ hy)) fun y hy => h y (List.mem_cons_of_mem _ hy)]
theorem free_bar : ∀ {p : List Nat}, 47 ∉ p → (∀ h : p ≠ [], p.getLast h ≠ 32) → SX.free [32, 47, 32] p = true ∧ ∀ i, i < p.length → TL.pre [32, 47, 32] (p.drop i) = false
  | [], _, _ => ⟨rfl, fun i h => absurd h (Nat.not_lt_zero _)⟩
  | [c], h, hl => by
    have hc : c ≠ 32 := hl (by simp)
    refine ⟨?_, fun i hi => ?_⟩
    · show (!(TL.pre [32, 47, 32] (c :: ([] ++ [32, 47, 32]))) && SX.free [32, 47, 32] []) = true
      rw [TL.pre_of_head _ _ hc]
      rfl
    · have : i = 0 := by simp at hi; omega
      subst this
      exact TL.pre_of_head _ _ hc
  | c :: d :: r, h, hl => by
    have hd : d ≠ 47 := fun e => h (by rw [e]; simp)
    have np : ∀ l : List Nat, TL.pre [32, 47, 32] (c :: d :: l) = false := fun l => by
      unfold TL.pre
      rw [beq_eq_false_iff_ne]
      intro e
      have e' : c :: d :: (l.take 1) = [32, 47, 32] := e
      simp only [List.cons.injEq] at e'
      exact hd e'.2.1
    obtain ⟨i1, i2⟩ := free_bar (p := d :: r) (fun z => h (List.mem_cons_of_mem _ z)) (fun z => by
      have := hl (by simp)
      rwa [List.getLast_cons z] at this)
    refine ⟨?_, fun i hi => ?_⟩
    · show (!(TL.pre [32, 47, 32] (c :: (d :: r ++ [32, 47, 32]))) && SX.free [32, 47, 32] (d :: r)) = true
      rw [List.cons_append, np, i1]
      rfl
    · cases i with
      | zero => exact np r
      | succ i => exact i2 i (by simpa using hi)
/-! ### texts by their signs -/
theorem S_nil : ("" : Str) = S [] := by rfl
theorem tw_all {α : Type} {p : α → Bool} : ∀ {b : List α}, (∀ c ∈ b, p c = true) → b.takeWhile p = b
  | [], _ => rfl
  | c :: r, h => by rw [List.takeWhile_cons, if_pos (h c List.mem_cons_self), tw_all fun d hd => h d (List.mem_cons_of_mem _ hd)]
theorem S_strip {b : List Nat} {y : Str} (h : ∀ c ∈ b, y.cps.contains c = true) : Txt.stripChars (S b) y = S [] := by
  unfold Txt.stripChars
  rw [stripBy_eq]
  have e : stripLo y.cps.contains true (S b) = b.length := by
    unfold stripLo
    rw [if_pos rfl]
    show (b.takeWhile _).length = _
    rw [tw_all h]
  rw [e]
  unfold Builtin.Str.strSub
  have : b.toArray.extract b.length (stripHi y.cps.contains true (S b) b.length) = #[] := by
    apply Array.eq_empty_of_size_eq_zero
    simp
  rw [this]
theorem S_ends (a : List Nat) (c d : Nat) : Txt.endswith (S (a ++ [c])) (S [d]) = decide (c = d) := by
  unfold Txt.endswith
  rw [StrLaws.subAt_eq, SX.S_len, SX.S_len]
  simp
  by_cases h : c = d
  · subst h; simp
  · simp [h]
theorem S_cut (a : List Nat) (c : Nat) : cutS (S (a ++ [c])) none (some (-1)) = S a := by
  unfold cutS
  have h1 : HT.sIx (S (a ++ [c])).length 0 none = 0 := rfl
  have h2 : HT.sIx (S (a ++ [c])).length (S (a ++ [c])).length (some (-1)) = a.length := by
    rw [SX.S_len, List.length_append]
    show (if (-1 : Int) < 0 then ((-1 : Int) + ((a.length + 1 : Nat) : Int)).toNat else min ((-1 : Int)).toNat (a.length + 1)) = a.length
    rw [if_pos (by decide)]
    omega
  rw [h1, h2]
  simp
theorem S_len_le {a : List Nat} (h : a.length ≤ 1000000) : (S a).length ≤ sizeLine := by
  rw [SX.S_len, sizeLine_eq]; omega
theorem addO_S {a b : List Nat} (h : a.length + b.length ≤ 16000000) : addO (.str (S a)) (.str (S b)) = some (.str (S (a ++ b))) := by
  rw [addO_str (by rw [SX.S_len, SX.S_len, sizeLine_eq]; omega), SX.S_cat]
theorem dec_S (a b : List Nat) : decide (S a = S b) = decide (a = b) := by
  by_cases h : a = b
  · subst h; simp
  · rw [decide_eq_false h, decide_eq_false (fun e => h (SX.S_inj e))]
theorem joinO_S {sep : List Nat} {ys : List (List Nat)} (h : (ys.map (·.length)).sum + ys.length * sep.length ≤ 16777216) : joinO (S sep) (.list (ys.map fun y => .str (S y))) = some (.str (S (TL.joinL sep ys))) := by
  show (strsD _).bind _ = _
  have e : (ys.map fun y => PyData.str (S y)) = (ys.map S).map PyData.str := by rw [List.map_map]; rfl
  rw [e, strsD_of]
  show (if _ then _ else _) = _
  rw [if_pos (by rw [SX.lens, List.length_map, SX.S_len]; exact h), SX.join_S]
theorem splitO_S {a b : List Nat} (hb : b ≠ []) (hk : b.all (· < 256) = true) (hl : a.length ≤ 16000000) : splitO (S a) (.str (S b)) = some ((TL.spl b 0 [] a).map fun y => .str (S y)) := by
  show (if _ then _ else _) = _
  rw [if_pos ⟨by rw [SX.S_len]; simpa using hb, by rw [SX.S_len, sizeLine_eq]; omega⟩, SX.split_S hb hk, List.map_map]
  rfl
theorem mulO_S1 (a : List Nat) (h : a.length ≤ 1000) : mulO (.str (S a)) (.int 1) = some (.str (S a)) := by
  show repO _ _ = _
  unfold repO
  rw [if_pos (by rw [SX.S_len]; exact ⟨by decide, by decide, by simp; omega, by omega⟩)]
  have : repS (S a) (1 : Int).toNat = S a := by
    unfold repS
    show (⟨[(S a).cps].foldl (· ++ ·) #[]⟩ : Str) = S a
    simp
  rw [this]
theorem mulO_S0 (a : List Nat) (h : a.length ≤ 1000) : mulO (.str (S a)) (.int 0) = some (.str (S [])) := by
  show repO _ _ = _
  unfold repO
  rw [if_pos (by rw [SX.S_len]; exact ⟨by decide, by decide, by simp, by omega⟩)]
  rfl
theorem mulO_S8 (c : Nat) : mulO (.str (S [c])) (.int 8) = some (.str (S (List.replicate 8 c))) := by
  show repO _ _ = _
  unfold repO
  rw [if_pos ⟨by decide, by decide, by show 1 * 8 ≤ 1000000; omega, by show 1 ≤ 1000000; omega⟩]
  rfl
end DL

namespace DL
open PySem PySem.Spec PyProof.Rows L2
def top (i : Nat) : Stmt := PySem.Challenge.pw_touchboats_k66_torn_sheets_written_and_r.main.body.getD i (.Pass ⟨0, 0, 0, 0⟩)
structure Gs (K : PySem.W.Frag) (mg : Str → Option Value) : Prop where
  n_len : mg "len" = none
  n_abs : mg "abs" = none
  n_range : mg "range" = none
  n_tuple : mg "tuple" = none
  n_enumerate : mg "enumerate" = none
  n_int : mg "int" = none
  n_isinstance : mg "isinstance" = none
  n_str : mg "str" = none
  n_MARKS : KStrs K mg "MARKS" ["d", "o", "t", "u"]
  n_MOST_SIGNS : ∃ t, mg "MOST_SIGNS" = some (Value.int 8 t)
  n_BOAT_SIGNS : ∃ t, mg "BOAT_SIGNS" = some (Value.str "abcdefghijklmnopqrstuvwxyz" t)
  n_MOST_MARKED : ∃ t, mg "MOST_MARKED" = some (Value.int 9 t)
  n_all : mg "all" = none
  n_UNKNOWN : ∃ t, mg "UNKNOWN" = some (Value.str "?" t)
  n_BETWEEN : ∃ t, mg "BETWEEN" = some (Value.str " / " t)
  n_MOST_SHEETS : ∃ t, mg "MOST_SHEETS" = some (Value.int 24 t)
  f_law_hand : ∃ f fd, FunD K "_law_hand" "_law_hand" (defArgs (top 23)) (defBody (top 23)) (defScope (top 23)) [] [] f fd ∧ mg "_law_hand" = some (Value.ref f)
  f_law_take : ∃ f fd, FunD K "_law_take" "_law_take" (defArgs (top 24)) (defBody (top 24)) (defScope (top 24)) [] [] f fd ∧ mg "_law_take" = some (Value.ref f)
  f_law_boats : ∃ f fd, FunD K "_law_boats" "_law_boats" (defArgs (top 25)) (defBody (top 25)) (defScope (top 25)) [] [] f fd ∧ mg "_law_boats" = some (Value.ref f)
  f_law_text : ∃ f fd, FunD K "_law_text" "_law_text" (defArgs (top 27)) (defBody (top 27)) (defScope (top 27)) [] [] f fd ∧ mg "_law_text" = some (Value.ref f)
  f_is_mark : ∃ f fd, FunD K "is_mark" "is_mark" (defArgs (top 5)) (defBody (top 5)) (defScope (top 5)) [] [] f fd ∧ mg "is_mark" = some (Value.ref f)
  f_is_boat : ∃ f fd, FunD K "is_boat" "is_boat" (defArgs (top 9)) (defBody (top 9)) (defScope (top 9)) [] [] f fd ∧ mg "is_boat" = some (Value.ref f)
  f_torn_in : ∃ f fd, FunD K "torn_in" "torn_in" (defArgs (top 19)) (defBody (top 19)) (defScope (top 19)) [] [] f fd ∧ mg "torn_in" = some (Value.ref f)
  f_all_in : ∃ f fd, FunD K "all_in" "all_in" (defArgs (top 20)) (defBody (top 20)) (defScope (top 20)) [] [] f fd ∧ mg "all_in" = some (Value.ref f)
  f_read_torn : ∃ f fd, FunD K "read_torn" "read_torn" (defArgs (top 21)) (defBody (top 21)) (defScope (top 21)) [] [] f fd ∧ mg "read_torn" = some (Value.ref f)
  f_law_torn : ∃ f fd, FunD K "_law_torn" "_law_torn" (defArgs (top 26)) (defBody (top 26)) (defScope (top 26)) [] [] f fd ∧ mg "_law_torn" = some (Value.ref f)
  f_known_text : ∃ f fd, FunD K "known_text" "known_text" (defArgs (top 13)) (defBody (top 13)) (defScope (top 13)) [] [] f fd ∧ mg "known_text" = some (Value.ref f)
  f_torn_text : ∃ f fd, FunD K "torn_text" "torn_text" (defArgs (top 14)) (defBody (top 14)) (defScope (top 14)) [] [] f fd ∧ mg "torn_text" = some (Value.ref f)
  f_show_torn : ∃ f fd, FunD K "show_torn" "show_torn" (defArgs (top 15)) (defBody (top 15)) (defScope (top 15)) [] [] f fd ∧ mg "show_torn" = some (Value.ref f)
  f_law_kinds : ∃ f fd, FunD K "_law_kinds" "_law_kinds" (defArgs (top 28)) (defBody (top 28)) (defScope (top 28)) [] [] f fd ∧ mg "_law_kinds" = some (Value.ref f)
  f_law : ∃ f fd, FunD K "law" "law" (defArgs (top 29)) (defBody (top 29)) (defScope (top 29)) [] [] f fd ∧ mg "law" = some (Value.ref f)
/-! ### _law_hand -/
def mb_law_hand : List W → M (Fl Unit Unit) := a2 fun x0 x1 => (asD (fun v_script => (asD (fun v_place => (bnd (ret (.int 0)) fun v_cell_1 => (seqF (bnd (tb2 ltO (ret v_place) (fn1 lenO (ret v_script))) fun k => if k = true then (bnd (fn1 absO (op2 ixO (ret v_script) (ret v_place))) fun v_cell_3 => (ret (.nx v_cell_3))) else (ret (.nx v_cell_1))) fun (v_t_2 : PyData) => (bnd (ifM (tb2 geO (ret v_t_2) (op2 powO (ret (.int 10)) (ret (.int 18)))) (op2 modO (ret v_t_2) (op2 powO (op2 powO (ret (.int 10)) (ret (.int 60))) (ret (.int 17)))) (ret (.int 0))) fun v_digits_4 => (gives W.r (bnd (cat (ret v_digits_4) (cat (op2 addO (op2 addO (op2 modO (ret v_t_2) (ret (.int 2305843009213693951))) (op2 mulO (ret (.int 7919)) (ret v_place))) (ret (.int 11))) (cat (ret (.int 0)) (ret [])))) (newS Ob.lst))))))) x1)) x0)
def m_law_hand (ws : List W) : M W := fnM (mb_law_hand ws)
theorem sc_law_hand : FnScope ["_law_script", "_law_place", "_law_cell", "_law_digits"] ["_law_script", "_law_place"] (defScope (top 23)) := ⟨rfl, rfl, rfl, by decide +kernel, rfl, by decide +kernel, by decide +kernel⟩
theorem k_law_hand {P : Program} {w : World} {K : PySem.W.Frag} {mg : Str → Option Value} {base : Heap} (g : Gs K mg)  {f : Addr} {fd : FuncData} (FF : FunD K "_law_hand" "_law_hand" (defArgs (top 23)) (defBody (top 23)) (defScope (top 23)) [] [] f fd) : FnOk P w K mg base (L2.CX P w) 1 f fd ["_law_script", "_law_place"] (SpM K mg 2 m_law_hand) := by
  refine ok_fn (k := 0) FF sc_law_hand (by decide) (fun cdv A outer s H E hr => ?_)
  have hN := sc_law_hand.nd
  refine Bd.a2 fun x0 x1 => ?_
  refine Bd.asD (E := fun z => env0 [z, x1] 4) (fun v_script => ?_) x0
  refine Bd.asD (E := fun z => env0 [W.d v_script, z] 4) (fun v_place => ?_) x1
  exact Bd.of (xasg 2 hN rfl (.inl rfl) (dx de_int) rfl fun v_cell_1 => (xseq (fun (v_t_2 : PyData) => [some (.w (.d v_script)), some (.w (.d v_place)), some (.w (.d v_t_2)), none]) (dst_if (xcp (f_lt (u65 hr)) (tt (de_var rfl (pv 1))) (tt (xf1 c_len rfl g.n_len rfl (tt (de_var rfl (pv 0)))))) (xasg 2 hN rfl (.inl rfl) (dx (xf1 c_abs rfl g.n_abs rfl (tt (de_ix (tt (de_var rfl (pv 0))) (tt (de_var rfl (pv 1))))))) rfl fun v_cell_3 => (ds_nil (t := v_cell_3) (.same (.same (.same (.drop .nil)))))) (ds_nil (t := v_cell_1) (.same (.same (.same (.drop .nil)))))) fun v_t_2 => (xasg 3 hN rfl (.inl rfl) (dx (xif (xcp f_ge (tt (de_var rfl (pv 2))) (tt (de_bin f_pow (tt de_int) (tt de_int)))) (de_bin f_mod (tt (de_var rfl (pv 2))) (tt (de_bin f_pow (tt (de_bin f_pow (tt de_int) (tt de_int))) (tt de_int)))) de_int)) rfl fun v_digits_4 => (ds_ret (dxr (dr_new (ft_lst (xdc (de_var rfl (pv 3)) (xdc (de_bin f_add (tt (de_bin f_add (tt (de_bin f_mod (tt (de_var rfl (pv 2))) (tt de_int))) (tt (de_bin f_mul (tt de_int) (tt (de_var rfl (pv 1))))))) (tt de_int)) (xdc de_int xd0))) (lc_cons (lc_cons (lc_cons ln_nil))))))))))
theorem c_law_hand {P : Program} {w : World} {K : PySem.W.Frag} {mg : Str → Option Value} {base : Heap} (g : Gs K mg)  : Cal P w K mg base 1 "_law_hand" 2 m_law_hand := by
  obtain ⟨f, fd, FF, hm⟩ := g.f_law_hand
  exact ⟨f, fd, ["_law_script", "_law_place"], rfl, k_law_hand g  FF, hm, FF.kp, FF.bindsN fun _ _ _ _ _ _ us hl => match us, hl with | [_, _], _ => rfl⟩
/-! ### _law_take -/
def mb_law_take : List W → M (Fl Unit Unit) := a2 fun x0 x1 => (asR (fun v_hand_here => (asD (fun v_many => (bnd (tb2 gtO (rix (ret v_hand_here) (ret (.int 0))) (ret (.int 0))) fun k => if k = true then (bnd (op2 modO (rix (ret v_hand_here) (ret (.int 0))) (ret v_many)) fun v_digit_1 => (bnd (op2 fdivO (rix (ret v_hand_here) (ret (.int 0))) (ret v_many)) fun d => bnd (ret v_hand_here) fun n => bnd (ret (.int 0)) fun k => bnd (getL n) fun xs => bnd (lft (setO xs k d)) fun ys => bnd (setS n (.lst ys)) fun _ => (gives W.d (ret v_digit_1)))) else (bnd (op2 addO (rix (ret v_hand_here) (ret (.int 2))) (ret (.int 1))) fun d => bnd (ret v_hand_here) fun n => bnd (ret (.int 2)) fun k => bnd (getL n) fun xs => bnd (lft (setO xs k d)) fun ys => bnd (setS n (.lst ys)) fun _ => (bnd (rix (ret v_hand_here) (ret (.int 2))) fun v_turn_2 => (bnd (op2 modO (op2 mulO (op2 addO (rix (ret v_hand_here) (ret (.int 1))) (op2 mulO (ret (.int 39373)) (ret v_turn_2))) (op2 addO (ret (.int 48271)) (op2 mulO (ret v_turn_2) (ret v_turn_2)))) (ret (.int 2305843009213693921))) fun v_mixed_3 => (bnd (op2 modO (op2 mulO (ret v_mixed_3) (op2 addO (op2 modO (ret v_mixed_3) (ret (.int 1000003))) (ret (.int 17)))) (ret (.int 2305843009213693907))) fun d => bnd (ret v_hand_here) fun n => bnd (ret (.int 1)) fun k => bnd (getL n) fun xs => bnd (lft (setO xs k d)) fun ys => bnd (setS n (.lst ys)) fun _ => (gives W.d (op2 modO (op2 fdivO (rix (ret v_hand_here) (ret (.int 1))) (ret (.int 131071))) (ret v_many))))))))) x1)) x0)
def m_law_take (ws : List W) : M W := fnM (mb_law_take ws)
theorem sc_law_take : FnScope ["_law_hand_here", "_law_many", "_law_digit", "_law_turn", "_law_mixed"] ["_law_hand_here", "_law_many"] (defScope (top 24)) := ⟨rfl, rfl, rfl, by decide +kernel, rfl, by decide +kernel, by decide +kernel⟩
theorem k_law_take {P : Program} {w : World} {K : PySem.W.Frag} {mg : Str → Option Value} {base : Heap} (g : Gs K mg)  {f : Addr} {fd : FuncData} (FF : FunD K "_law_take" "_law_take" (defArgs (top 24)) (defBody (top 24)) (defScope (top 24)) [] [] f fd) : FnOk P w K mg base (L2.CX P w) 1 f fd ["_law_hand_here", "_law_many"] (SpM K mg 2 m_law_take) := by
  refine ok_fn (k := 0) FF sc_law_take (by decide) (fun cdv A outer s H E hr => ?_)
  have hN := sc_law_take.nd
  refine Bd.a2 fun x0 x1 => ?_
  refine Bd.asR (E := fun z => env0 [z, x1] 5) (fun v_hand_here => ?_) x0
  refine Bd.asD (E := fun z => env0 [W.r v_hand_here, z] 5) (fun v_many => ?_) x1
  exact Bd.of (ds_ifx (xcp f_gt (tt (de_rix (dr_var rfl (pv 0)) (tt de_int))) (tt de_int)) (xasg 2 hN rfl (.inl rfl) (dx (de_bin f_mod (tt (de_rix (dr_var rfl (pv 0)) (tt de_int))) (tt (de_var rfl (pv 1))))) rfl fun v_digit_1 => (ds_rset (dr_var rfl (pv 0)) (de_bin f_fdiv (tt (de_rix (dr_var rfl (pv 0)) (tt de_int))) (tt (de_var rfl (pv 1)))) de_int (ds_ret (dx (de_var rfl (pv 2)))))) (by repeat first | exact NoNx.rt | exact NoNx.bk | exact NoNx.ct | exact NoNx.bad | exact NoNx.gives | refine NoNx.bnd fun _ => ?_ | refine NoNx.ite ?_ ?_) (ds_rset (dr_var rfl (pv 0)) (de_bin f_add (tt (de_rix (dr_var rfl (pv 0)) (tt de_int))) (tt de_int)) de_int (xasg 3 hN rfl (.inl rfl) (dx (de_rix (dr_var rfl (pv 0)) (tt de_int))) rfl fun v_turn_2 => (xasg 4 hN rfl (.inl rfl) (dx (de_bin f_mod (tt (de_bin f_mul (tt (de_bin f_add (tt (de_rix (dr_var rfl (pv 0)) (tt de_int))) (tt (de_bin f_mul (tt de_int) (tt (de_var rfl (pv 3))))))) (tt (de_bin f_add (tt de_int) (tt (de_bin f_mul (tt (de_var rfl (pv 3))) (tt (de_var rfl (pv 3))))))))) (tt de_int))) rfl fun v_mixed_3 => (ds_rset (dr_var rfl (pv 0)) (de_bin f_mod (tt (de_bin f_mul (tt (de_var rfl (pv 4))) (tt (de_bin f_add (tt (de_bin f_mod (tt (de_var rfl (pv 4))) (tt de_int))) (tt de_int))))) (tt de_int)) de_int (ds_ret (dx (de_bin f_mod (tt (de_bin f_fdiv (tt (de_rix (dr_var rfl (pv 0)) (tt de_int))) (tt de_int))) (tt (de_var rfl (pv 1)))))))))))
theorem c_law_take {P : Program} {w : World} {K : PySem.W.Frag} {mg : Str → Option Value} {base : Heap} (g : Gs K mg)  : Cal P w K mg base 1 "_law_take" 2 m_law_take := by
  obtain ⟨f, fd, FF, hm⟩ := g.f_law_take
  exact ⟨f, fd, ["_law_hand_here", "_law_many"], rfl, k_law_take g  FF, hm, FF.kp, FF.bindsN fun _ _ _ _ _ _ us hl => match us, hl with | [_, _], _ => rfl⟩
/-! ### _law_boats -/
def mb_law_boats : List W → M (Fl Unit Unit) := a2 fun x0 x1 => (asR (fun v_hand_here => (asD (fun v_many => (bnd (ret (.str "abcdefghijklmnopqrstuvwxyz")) fun v_letters_1 => (bnd (toD (bnd (cat (rsW (ret v_hand_here)) (cat (asW (ret (.int 26))) (ret []))) m_law_take)) fun v_first_2 => bnd (op2 ixO (frL (cat (ret (.int 1)) (cat (ret (.int 3)) (cat (ret (.int 5)) (cat (ret (.int 7)) (cat (ret (.int 9)) (cat (ret (.int 11)) (cat (ret (.int 15)) (cat (ret (.int 17)) (cat (ret (.int 19)) (cat (ret (.int 21)) (cat (ret (.int 23)) (cat (ret (.int 25)) (ret [])))))))))))))) (toD (bnd (cat (rsW (ret v_hand_here)) (cat (asW (ret (.int 12))) (ret []))) m_law_take))) fun v_turn_3 => (bnd (toD (bnd (cat (rsW (ret v_hand_here)) (cat (asW (ret (.int 3))) (ret []))) m_law_take)) fun v_alike_5 => bnd (mth1 joinO (ret (.str "")) (frL (lc1 (itR1 (toD (bnd (cat (rsW (ret v_hand_here)) (cat (asW (ret (.int 8))) (ret []))) m_law_take))) (fun v_k_4 => (op2 ixO (ret v_letters_1) (toD (bnd (cat (rsW (ret v_hand_here)) (cat (asW (ret (.int 26))) (ret []))) m_law_take))))))) fun v_base_6 => (bnd (toD (bnd (cat (rsW (ret v_hand_here)) (cat (asW (op2 addO (fn1 lenO (ret v_base_6)) (ret (.int 1)))) (ret []))) m_law_take)) fun v_place_7 => bnd (ret []) fun v_found_8 => (seqF (bnd (itR1 (ret v_many)) fun zs => forL (fun v_k_10 v_t_9 => (bnd (op2 ixO (ret v_letters_1) (op2 modO (op2 addO (ret v_first_2) (op2 mulO (ret v_k_10) (ret v_turn_3))) (ret (.int 26)))) fun v_own_11 => (bnd (op2 addO (op2 addO (slM (ret v_base_6) (ret none) (someI (ret v_place_7))) (ret v_own_11)) (slM (ret v_base_6) (someI (ret v_place_7)) (ret none))) fun v_name_12 => (seqF (bnd (tb2 eqO (ret v_alike_5) (ret (.int 0))) fun k => if k = true then (bnd (mth1 joinO (ret (.str "")) (frL (lc1 (itR1 (toD (bnd (cat (rsW (ret v_hand_here)) (cat (asW (ret (.int 8))) (ret []))) m_law_take))) (fun v_j_14 => (op2 ixO (ret v_letters_1) (toD (bnd (cat (rsW (ret v_hand_here)) (cat (asW (ret (.int 26))) (ret []))) m_law_take))))))) fun v_text_here_15 => (bnd (toD (bnd (cat (rsW (ret v_hand_here)) (cat (asW (op2 addO (fn1 lenO (ret v_text_here_15)) (ret (.int 1)))) (ret []))) m_law_take)) fun v_at_16 => (bnd (op2 addO (op2 addO (slM (ret v_text_here_15) (ret none) (someI (ret v_at_16))) (ret v_own_11)) (slM (ret v_text_here_15) (someI (ret v_at_16)) (ret none))) fun v_name_17 => (ret (.nx v_name_17))))) else (ret (.nx v_name_12))) fun (v_t_13 : PyData) => (bnd (ifM (tb2 inO (ret v_t_13) (ret (obD (.lst v_t_9)))) (op2 mulO (ret v_own_11) (ret (.int 8))) (ret v_t_13)) fun v_item_18 => short v_t_9 (ret (.nx (v_t_9 ++ [v_item_18])))))))) zs v_found_8) fun (v_t_9 : (List PyData)) => (seqF (bnd (tb2 eqO (toD (bnd (cat (rsW (ret v_hand_here)) (cat (asW (ret (.int 4))) (ret []))) m_law_take)) (ret (.int 0))) fun k => if k = true then (bnd (op2 ixO (frL (cat (ret (.str "drop")) (cat (ret (.str "touch")) (cat (ret (.str "none")) (cat (ret (.str "some")) (cat (ret (.str "d")) (cat (ret (.str "u")) (cat (ret (.str "t")) (cat (ret (.str "o")) (ret [])))))))))) (toD (bnd (cat (rsW (ret v_hand_here)) (cat (asW (ret (.int 8))) (ret []))) m_law_take))) fun v_word_20 => bnd (toD (bnd (cat (rsW (ret v_hand_here)) (cat (asW (ret v_many)) (ret []))) m_law_take)) fun v_at_21 => (bnd (ifM (tb2 inO (ret v_word_20) (ret (obD (.lst v_t_9)))) (op2 ixO (ret (obD (.lst v_t_9))) (ret v_at_21)) (ret v_word_20)) fun d => bnd (ret v_at_21) fun k => bnd (lft (setO v_t_9 k d)) fun v_found_22 => (ret (.nx v_found_22)))) else (ret (.nx v_t_9))) fun (v_t_19 : (List PyData)) => (gives W.d (fn1 tupO (ret (obD (.lst v_t_19)))))))))))) x1)) x0)
def m_law_boats (ws : List W) : M W := fnM (mb_law_boats ws)
theorem sc_law_boats : FnScope ["_law_hand_here", "_law_many", "_law_letters", "_law_first", "_law_turn", "_law_alike", "_law_base", "_law_place", "_law_found", "_law_k", "_law_own", "_law_name", "_law_text_here", "_law_at", "_law_word", "_law_j"] ["_law_hand_here", "_law_many"] (defScope (top 25)) := ⟨rfl, rfl, rfl, by decide +kernel, rfl, by decide +kernel, by decide +kernel⟩
theorem k_law_boats {P : Program} {w : World} {K : PySem.W.Frag} {mg : Str → Option Value} {base : Heap} (g : Gs K mg) (c_law_take : Cal P w K mg base 1 "_law_take" 2 m_law_take) {f : Addr} {fd : FuncData} (FF : FunD K "_law_boats" "_law_boats" (defArgs (top 25)) (defBody (top 25)) (defScope (top 25)) [] [] f fd) : FnOk P w K mg base (L2.CX P w) 2 f fd ["_law_hand_here", "_law_many"] (SpM K mg 2 m_law_boats) := by
  refine ok_fn (k := 1) FF sc_law_boats (by decide) (fun cdv A outer s H E hr => ?_)
  have hN := sc_law_boats.nd
  refine Bd.a2 fun x0 x1 => ?_
  refine Bd.asR (E := fun z => env0 [z, x1] 16) (fun v_hand_here => ?_) x0
  refine Bd.asD (E := fun z => env0 [W.r v_hand_here, z] 16) (fun v_many => ?_) x1
  exact Bd.of (xasg 2 hN rfl (.inr rfl) (dx de_str) rfl fun v_letters_1 => (xpar 3 4 rfl hN rfl rfl (by decide) rfl rfl (dx (xD (dw_call c_law_take hr (by decide) rfl tk_body (xac (xRW (dr_var rfl (pv 0))) (xac (xW de_int) xa0)) (lw_cons (lw_cons lw_nil))))) (dx (de_ix (tt (xL (ft_lst (xdc de_int (xdc de_int (xdc de_int (xdc de_int (xdc de_int (xdc de_int (xdc de_int (xdc de_int (xdc de_int (xdc de_int (xdc de_int (xdc de_int xd0)))))))))))) (lc_cons (lc_cons (lc_cons (lc_cons (lc_cons (lc_cons (lc_cons (lc_cons (lc_cons (lc_cons (lc_cons (lc_cons ln_nil))))))))))))))) (tt (xD (dw_call c_law_take hr (by decide) rfl tk_body (xac (xRW (dr_var rfl (pv 0))) (xac (xW de_int) xa0)) (lw_cons (lw_cons lw_nil))))))) (fun v_first_2 v_turn_3 => (xpar 5 6 rfl hN rfl rfl (by decide) rfl rfl (dx (xD (dw_call c_law_take hr (by decide) rfl tk_body (xac (xRW (dr_var rfl (pv 0))) (xac (xW de_int) xa0)) (lw_cons (lw_cons lw_nil))))) (dx (de_m1 F.slot_str_join F.type_str_join m_join (tt de_str) (tt (xL (xlc1 [("_law_k", 9)] 9 rfl hN (til (ti_range1 rfl g.n_range (xD (dw_call c_law_take hr (by decide) rfl tk_body (xac (xRW (dr_var rfl (pv 0))) (xac (xW de_int) xa0)) (lw_cons (lw_cons lw_nil)))))) (blkOk_by rfl) (cg_name hN rfl (by decide) rfl) (fun _ _ _ _ _ v_k_4 => (de_ix (tt (de_var rfl (pv 2))) (tt (xD (dw_call c_law_take hr (by decide) rfl tk_wf (xac (xRW (dr_var rfl (pv 0))) (xac (xW de_int) xa0)) (lw_cons (lw_cons lw_nil)))))))))))) (fun v_alike_5 v_base_6 => (xparO 7 8 rfl hN rfl rfl (by decide) rfl rfl rfl (dx (xD (dw_call c_law_take hr (by decide) rfl tk_body (xac (xRW (dr_var rfl (pv 0))) (xac (xW (de_bin f_add (tt (xf1 c_len rfl g.n_len rfl (tt (de_var rfl (pv 6))))) (tt de_int))) xa0)) (lw_cons (lw_cons lw_nil))))) (ft_lst xd0 ln_nil) (fun v_place_7 v_found_8 => (xseq (fun (v_t_9 : (List PyData)) => [some (.w (.r v_hand_here)), some (.w (.d v_many)), some (.w (.d v_letters_1)), some (.w (.d v_first_2)), some (.w (.d v_turn_3)), some (.w (.d v_alike_5)), some (.w (.d v_base_6)), some (.w (.d v_place_7)), some (.own (.lst v_t_9)), none, none, none, none, none, none, none]) (xfor1 9 (passes_of rfl) rfl (ti_range1 rfl g.n_range (de_var rfl (pv 1))) (dg_name hN rfl (.inl rfl)) (fun v_k_10 v_t_9 => (xasg 10 hN rfl (.inl rfl) (dx (de_ix (tt (de_var rfl (pv 2))) (tt (de_bin f_mod (tt (de_bin f_add (tt (de_var rfl (pv 3))) (tt (de_bin f_mul (tt (de_var rfl (pv 9))) (tt (de_var rfl (pv 4))))))) (tt de_int))))) rfl fun v_own_11 => (xasg 11 hN rfl (.inl rfl) (dx (de_bin f_add (tt (de_bin f_add (tt (xsl (tt (de_var rfl (pv 6))) dp_no (xso (tt (de_var rfl (pv 7)))))) (tt (de_var rfl (pv 10))))) (tt (xsl (tt (de_var rfl (pv 6))) (xso (tt (de_var rfl (pv 7)))) dp_no)))) rfl fun v_name_12 => (xseq (fun (v_t_13 : PyData) => [some (.w (.r v_hand_here)), some (.w (.d v_many)), some (.w (.d v_letters_1)), some (.w (.d v_first_2)), some (.w (.d v_turn_3)), some (.w (.d v_alike_5)), some (.w (.d v_base_6)), some (.w (.d v_place_7)), some (.own (.lst v_t_9)), some (.w (.d v_k_10)), some (.w (.d v_own_11)), some (.w (.d v_t_13)), none, none, none, none]) (dst_if (xcp (f_eq (u65 hr)) (tt (de_var rfl (pv 5))) (tt de_int)) (xasg 12 hN rfl (.inl rfl) (dx (de_m1 F.slot_str_join F.type_str_join m_join (tt de_str) (tt (xL (xlc1 [("_law_j", 15)] 15 rfl hN (til (ti_range1 rfl g.n_range (xD (dw_call c_law_take hr (by decide) rfl tk_body (xac (xRW (dr_var rfl (pv 0))) (xac (xW de_int) xa0)) (lw_cons (lw_cons lw_nil)))))) (blkOk_by rfl) (cg_name hN rfl (by decide) rfl) (fun _ _ _ _ _ v_j_14 => (de_ix (tt (de_var rfl (pv 2))) (tt (xD (dw_call c_law_take hr (by decide) rfl tk_wf (xac (xRW (dr_var rfl (pv 0))) (xac (xW de_int) xa0)) (lw_cons (lw_cons lw_nil)))))))))))) rfl fun v_text_here_15 => (xasg 13 hN rfl (.inl rfl) (dx (xD (dw_call c_law_take hr (by decide) rfl tk_body (xac (xRW (dr_var rfl (pv 0))) (xac (xW (de_bin f_add (tt (xf1 c_len rfl g.n_len rfl (tt (de_var rfl (pv 12))))) (tt de_int))) xa0)) (lw_cons (lw_cons lw_nil))))) rfl fun v_at_16 => (xasg 11 hN rfl (.inl rfl) (dx (de_bin f_add (tt (de_bin f_add (tt (xsl (tt (de_var rfl (pv 12))) dp_no (xso (tt (de_var rfl (pv 13)))))) (tt (de_var rfl (pv 10))))) (tt (xsl (tt (de_var rfl (pv 12))) (xso (tt (de_var rfl (pv 13)))) dp_no)))) rfl fun v_name_17 => (ds_nil (t := v_name_17) (.same (.same (.same (.same (.same (.same (.same (.same (.same (.same (.same (.same (.drop (.drop (.drop (.drop .nil)))))))))))))))))))) (ds_nil (t := v_name_12) (.same (.same (.same (.same (.same (.same (.same (.same (.same (.same (.same (.same (.drop (.drop (.drop (.drop .nil)))))))))))))))))) fun v_t_13 => (ds_app (j := 8) rfl (pv 8) (xif (xcp (f_in (u65 hr)) (tt (de_var rfl (pv 11))) (dt_own rfl (pv 8))) (de_bin f_mul (tt (de_var rfl (pv 10))) (tt de_int)) (de_var rfl (pv 11))) fun v_item_18 => (ds_nil (t := (v_t_9 ++ [v_item_18])) (.same (.same (.same (.same (.same (.same (.same (.same (.same (.drop (.drop (.drop (.drop (.drop (.drop (.drop .nil)))))))))))))))))))))) (.same (.same (.same (.same (.same (.same (.same (.same (.same (.drop (.drop (.drop (.drop (.drop (.drop (.drop .nil))))))))))))))))) fun v_t_9 => (xseq (fun (v_t_19 : (List PyData)) => [some (.w (.r v_hand_here)), some (.w (.d v_many)), some (.w (.d v_letters_1)), some (.w (.d v_first_2)), some (.w (.d v_turn_3)), some (.w (.d v_alike_5)), some (.w (.d v_base_6)), some (.w (.d v_place_7)), some (.own (.lst v_t_19)), none, none, none, none, none, none, none]) (dst_if (xcp (f_eq (u65 hr)) (tt (xD (dw_call c_law_take hr (by decide) rfl tk_body (xac (xRW (dr_var rfl (pv 0))) (xac (xW de_int) xa0)) (lw_cons (lw_cons lw_nil))))) (tt de_int)) (xpar 14 13 rfl hN rfl rfl (by decide) rfl rfl (dx (de_ix (tt (xL (ft_lst (xdc de_str (xdc de_str (xdc de_str (xdc de_str (xdc de_str (xdc de_str (xdc de_str (xdc de_str xd0)))))))) (lc_cons (lc_cons (lc_cons (lc_cons (lc_cons (lc_cons (lc_cons (lc_cons ln_nil))))))))))) (tt (xD (dw_call c_law_take hr (by decide) rfl tk_body (xac (xRW (dr_var rfl (pv 0))) (xac (xW de_int) xa0)) (lw_cons (lw_cons lw_nil))))))) (dx (xD (dw_call c_law_take hr (by decide) rfl tk_body (xac (xRW (dr_var rfl (pv 0))) (xac (xW (de_var rfl (pv 1))) xa0)) (lw_cons (lw_cons lw_nil))))) (fun v_word_20 v_at_21 => (ds_setL (j := 8) rfl (pv 8) (xif (xcp (f_in (u65 hr)) (tt (de_var rfl (pv 14))) (dt_own rfl (pv 8))) (de_ix (dt_own rfl (pv 8)) (tt (de_var rfl (pv 13)))) (de_var rfl (pv 14))) (de_var rfl (pv 13)) fun v_found_22 => (ds_nil (t := v_found_22) (.same (.same (.same (.same (.same (.same (.same (.same (.same (.drop (.drop (.drop (.drop (.drop (.drop (.drop .nil))))))))))))))))))) rfl) (ds_nil (t := v_t_9) (.same (.same (.same (.same (.same (.same (.same (.same (.same (.drop (.drop (.drop (.drop (.drop (.drop (.drop .nil)))))))))))))))))) fun v_t_19 => (ds_ret (dx (xt1 c_tup rfl g.n_tuple rfl (dt_own rfl (pv 8)))))))) rfl)) rfl)) rfl))
theorem c_law_boats {P : Program} {w : World} {K : PySem.W.Frag} {mg : Str → Option Value} {base : Heap} (g : Gs K mg) (c_law_take : Cal P w K mg base 1 "_law_take" 2 m_law_take) : Cal P w K mg base 2 "_law_boats" 2 m_law_boats := by
  obtain ⟨f, fd, FF, hm⟩ := g.f_law_boats
  exact ⟨f, fd, ["_law_hand_here", "_law_many"], rfl, k_law_boats g c_law_take FF, hm, FF.kp, FF.bindsN fun _ _ _ _ _ _ us hl => match us, hl with | [_, _], _ => rfl⟩
/-! ### _law_text -/
def mb_law_text : List W → M (Fl Unit Unit) := a1 fun x0 => (asD (fun v_sheets => (bnd (ret (.str "")) fun v_text_here_1 => (seqF (bnd (itE (ret v_sheets)) fun zs => forL (fun z v_t_2 => un12 z fun v_k_3 v_marks_4 v_behind_5 => (bnd (op2 addO (ret v_t_2) (op2 mulO (ret (.str " / ")) (fn1 intO (op2 gtO (ret v_k_3) (ret (.int 0)))))) fun v_text_here_6 => (seqF (bnd (itS (ret v_marks_4)) fun zs => forL (fun v_mark_8 v_t_7 => (bnd (op2 addO (ret v_t_7) (ifM (tb2 isO (ret v_mark_8) (ret .none)) (ret (.str "?")) (ret v_mark_8))) fun v_text_here_9 => (ret (.nx v_text_here_9)))) zs v_text_here_6) fun (v_t_7 : PyData) => (seqF (bnd (itS (ret v_behind_5)) fun zs => forL (fun v_boat_11 v_t_10 => (bnd (op2 addO (op2 addO (ret v_t_10) (ret (.str " "))) (ifM (tb2 isO (ret v_boat_11) (ret .none)) (ret (.str "?")) (ret v_boat_11))) fun v_text_here_12 => (ret (.nx v_text_here_12)))) zs v_t_7) fun (v_t_10 : PyData) => (ret (.nx v_t_10)))))) zs v_text_here_1) fun (v_t_2 : PyData) => (gives W.d (ret v_t_2))))) x0)
def m_law_text (ws : List W) : M W := fnM (mb_law_text ws)
theorem sc_law_text : FnScope ["_law_sheets", "_law_text_here", "_law_k", "_law_marks", "_law_behind", "_law_mark", "_law_boat"] ["_law_sheets"] (defScope (top 27)) := ⟨rfl, rfl, rfl, by decide +kernel, rfl, by decide +kernel, by decide +kernel⟩
theorem k_law_text {P : Program} {w : World} {K : PySem.W.Frag} {mg : Str → Option Value} {base : Heap} (g : Gs K mg)  {f : Addr} {fd : FuncData} (FF : FunD K "_law_text" "_law_text" (defArgs (top 27)) (defBody (top 27)) (defScope (top 27)) [] [] f fd) : FnOk P w K mg base (L2.CX P w) 1 f fd ["_law_sheets"] (SpM K mg 1 m_law_text) := by
  refine ok_fn (k := 0) FF sc_law_text (by decide) (fun cdv A outer s H E hr => ?_)
  have hN := sc_law_text.nd
  refine Bd.a1 fun x0 => ?_
  refine Bd.asD (E := fun z => env0 [z] 7) (fun v_sheets => ?_) x0
  exact Bd.of (xasg 1 hN rfl (.inl rfl) (dx de_str) rfl fun v_text_here_1 => (xseq (fun (v_t_2 : PyData) => [none, some (.w (.d v_t_2)), none, none, none, none, none]) (xfor12 2 3 4 (passes_of rfl) rfl (ti_enum rfl g.n_enumerate (de_var rfl (pv 0))) (dg_tup rfl (dgs_cons (dg_name hN rfl (.inl rfl)) (dgs_cons (dg_tup rfl (dgs_cons (dg_name hN rfl (.inl rfl)) (dgs_cons (dg_name hN rfl (.inl rfl)) dgs_nil))) dgs_nil))) (fun v_k_3 v_marks_4 v_behind_5 v_t_2 => (xasg 1 hN rfl (.inl rfl) (dx (de_bin f_add (tt (de_var rfl (pv 1))) (tt (de_bin f_mul (tt de_str) (tt (xt1 c_int rfl g.n_int rfl (tt (de_cp f_gt (tt (de_var rfl (pv 2))) (tt de_int))))))))) rfl fun v_text_here_6 => (xseq (fun (v_t_7 : PyData) => [none, some (.w (.d v_t_7)), none, none, some (.w (.d v_behind_5)), none, none]) (xfor1 5 (passes_of rfl) rfl (ti_seq (de_var rfl (pv 3))) (dg_name hN rfl (.inl rfl)) (fun v_mark_8 v_t_7 => (xasg 1 hN rfl (.inl rfl) (dx (de_bin f_add (tt (de_var rfl (pv 1))) (tt (xif (xcp f_is (tt (de_var rfl (pv 5))) (tt de_non)) de_str (de_var rfl (pv 5)))))) rfl fun v_text_here_9 => (ds_nil (t := v_text_here_9) (.drop (.same (.drop (.drop (.same (.drop (.drop .nil)))))))))) (.drop (.same (.drop (.drop (.same (.drop (.drop .nil)))))))) fun v_t_7 => (xseq (fun (v_t_10 : PyData) => [none, some (.w (.d v_t_10)), none, none, none, none, none]) (xfor1 6 (passes_of rfl) rfl (ti_seq (de_var rfl (pv 4))) (dg_name hN rfl (.inl rfl)) (fun v_boat_11 v_t_10 => (xasg 1 hN rfl (.inl rfl) (dx (de_bin f_add (tt (de_bin f_add (tt (de_var rfl (pv 1))) (tt de_str))) (tt (xif (xcp f_is (tt (de_var rfl (pv 6))) (tt de_non)) de_str (de_var rfl (pv 6)))))) rfl fun v_text_here_12 => (ds_nil (t := v_text_here_12) (.drop (.same (.drop (.drop (.drop (.drop (.drop .nil)))))))))) (.drop (.same (.drop (.drop (.drop (.drop (.drop .nil)))))))) fun v_t_10 => (ds_nil (t := v_t_10) (.drop (.same (.drop (.drop (.drop (.drop (.drop .nil)))))))))))) (.drop (.same (.drop (.drop (.drop (.drop (.drop .nil)))))))) fun v_t_2 => (ds_ret (dx (de_var rfl (pv 1))))))
theorem c_law_text {P : Program} {w : World} {K : PySem.W.Frag} {mg : Str → Option Value} {base : Heap} (g : Gs K mg)  : Cal P w K mg base 1 "_law_text" 1 m_law_text := by
  obtain ⟨f, fd, FF, hm⟩ := g.f_law_text
  exact ⟨f, fd, ["_law_sheets"], rfl, k_law_text g  FF, hm, FF.kp, FF.bindsN fun _ _ _ _ _ _ us hl => match us, hl with | [_], _ => rfl⟩
/-! ### is_mark -/
def mb_is_mark : List W → M (Fl Unit Unit) := a1 fun x0 => (asD (fun v_thing => (gives W.d (andM (op1 (isiO PyData.isStr) (ret v_thing)) (op2 inO (ret v_thing) (ret (.tuple ((["d", "o", "t", "u"] : List Str).map .str))))))) x0)
def m_is_mark (ws : List W) : M W := fnM (mb_is_mark ws)
theorem sc_is_mark : FnScope ["thing"] ["thing"] (defScope (top 5)) := ⟨rfl, rfl, rfl, by decide +kernel, rfl, by decide +kernel, by decide +kernel⟩
theorem k_is_mark {P : Program} {w : World} {K : PySem.W.Frag} {mg : Str → Option Value} {base : Heap} (g : Gs K mg)  {f : Addr} {fd : FuncData} (FF : FunD K "is_mark" "is_mark" (defArgs (top 5)) (defBody (top 5)) (defScope (top 5)) [] [] f fd) : FnOk P w K mg base (L2.CX P w) 1 f fd ["thing"] (SpM K mg 1 m_is_mark) := by
  refine ok_fn (k := 0) FF sc_is_mark (by decide) (fun cdv A outer s H E hr => ?_)
  have hN := sc_is_mark.nd
  refine Bd.a1 fun x0 => ?_
  refine Bd.asD (E := fun z => env0 [z] 1) (fun v_thing => ?_) x0
  exact Bd.of (ds_ret (dx (xand (de_isi isi_str rfl g.n_isinstance (tt (de_var rfl (pv 0))) rfl g.n_str rfl) (de_one (xinK (u65 hr) rfl g.n_MARKS (tt (de_var rfl (pv 0))))))))
theorem c_is_mark {P : Program} {w : World} {K : PySem.W.Frag} {mg : Str → Option Value} {base : Heap} (g : Gs K mg)  : Cal P w K mg base 1 "is_mark" 1 m_is_mark := by
  obtain ⟨f, fd, FF, hm⟩ := g.f_is_mark
  exact ⟨f, fd, ["thing"], rfl, k_is_mark g  FF, hm, FF.kp, FF.bindsN fun _ _ _ _ _ _ us hl => match us, hl with | [_], _ => rfl⟩
/-! ### is_boat -/
def mb_is_boat : List W → M (Fl Unit Unit) := a1 fun x0 => (asD (fun v_thing => (gives W.d (andM (op1 (isiO PyData.isStr) (ret v_thing)) (andM (chainM leO leO (ret (.int 1)) (fn1 lenO (ret v_thing)) (ret (.int 8))) (op2 eqO (mth1 stripO (ret v_thing) (ret (.str "abcdefghijklmnopqrstuvwxyz"))) (ret (.str ""))))))) x0)
def m_is_boat (ws : List W) : M W := fnM (mb_is_boat ws)
theorem sc_is_boat : FnScope ["thing"] ["thing"] (defScope (top 9)) := ⟨rfl, rfl, rfl, by decide +kernel, rfl, by decide +kernel, by decide +kernel⟩
theorem k_is_boat {P : Program} {w : World} {K : PySem.W.Frag} {mg : Str → Option Value} {base : Heap} (g : Gs K mg)  {f : Addr} {fd : FuncData} (FF : FunD K "is_boat" "is_boat" (defArgs (top 9)) (defBody (top 9)) (defScope (top 9)) [] [] f fd) : FnOk P w K mg base (L2.CX P w) 1 f fd ["thing"] (SpM K mg 1 m_is_boat) := by
  refine ok_fn (k := 0) FF sc_is_boat (by decide) (fun cdv A outer s H E hr => ?_)
  have hN := sc_is_boat.nd
  refine Bd.a1 fun x0 => ?_
  refine Bd.asD (E := fun z => env0 [z] 1) (fun v_thing => ?_) x0
  exact Bd.of (ds_ret (dx (xand (de_isi isi_str rfl g.n_isinstance (tt (de_var rfl (pv 0))) rfl g.n_str rfl) (xand (xch (f_le (u65 hr)) (f_le (u65 hr)) (tt de_int) (tt (xf1 c_len rfl g.n_len rfl (tt (de_var rfl (pv 0))))) (tt (de_gint rfl g.n_MOST_SIGNS))) (de_one (de_cp (f_eq (u65 hr)) (tt (de_m1 F.slot_str_strip F.type_str_strip m_strip (tt (de_var rfl (pv 0))) (tt (de_gstr rfl g.n_BOAT_SIGNS)))) (tt de_str)))))))
theorem c_is_boat {P : Program} {w : World} {K : PySem.W.Frag} {mg : Str → Option Value} {base : Heap} (g : Gs K mg)  : Cal P w K mg base 1 "is_boat" 1 m_is_boat := by
  obtain ⟨f, fd, FF, hm⟩ := g.f_is_boat
  exact ⟨f, fd, ["thing"], rfl, k_is_boat g  FF, hm, FF.kp, FF.bindsN fun _ _ _ _ _ _ us hl => match us, hl with | [_], _ => rfl⟩
/-! ### torn_in -/
def mb_torn_in : List W → M (Fl Unit Unit) := a1 fun x0 => (asD (fun v_text => (bnd (frL (mth1L splitO (ret v_text) (ret (.str " ")))) fun v_words_1 => (bnd (op2 ixO (ret v_words_1) (ret (.int 0))) fun v_marks_2 => bnd (slM (ret v_words_1) (someI (ret (.int 1))) (ret none)) fun v_boats_3 => (bnd (orB (ntB (bnd (chainM leO leO (ret (.int 1)) (fn1 lenO (ret v_marks_2)) (ret (.int 9))) asB)) (tb2 neO (fn1 lenO (ret v_boats_3)) (fn1 lenO (ret v_marks_2)))) fun k => if k = true then (gives W.d (ret .none)) else (bnd (ntB (tru (fn1 allO (frL (lc1 (itS (ret v_marks_2)) (fun v_mark_4 => (orM (op2 eqO (ret v_mark_4) (ret (.str "?"))) (toD (bnd (cat (asW (ret v_mark_4)) (ret [])) m_is_mark))))))))) fun k => if k = true then (gives W.d (ret .none)) else (bnd (ntB (tru (fn1 allO (frL (lc1 (itS (ret v_boats_3)) (fun v_boat_5 => (orM (op2 eqO (ret v_boat_5) (ret (.str "?"))) (toD (bnd (cat (asW (ret v_boat_5)) (ret [])) m_is_boat))))))))) fun k => if k = true then (gives W.d (ret .none)) else (bnd (frL (lc1 (itS (ret v_marks_2)) (fun v_mark_6 => (ifM (tb2 eqO (ret v_mark_6) (ret (.str "?"))) (ret .none) (ret v_mark_6))))) fun v_known_7 => (gives W.d (tupM (cat (fn1 tupO (ret v_known_7)) (cat (fn1 tupO (frL (lc1 (itS (ret v_boats_3)) (fun v_boat_8 => (ifM (tb2 eqO (ret v_boat_8) (ret (.str "?"))) (ret .none) (ret v_boat_8)))))) (ret [])))))))))))) x0)
def m_torn_in (ws : List W) : M W := fnM (mb_torn_in ws)
theorem sc_torn_in : FnScope ["text", "words", "marks", "boats", "known", "mark", "boat"] ["text"] (defScope (top 19)) := ⟨rfl, rfl, rfl, by decide +kernel, rfl, by decide +kernel, by decide +kernel⟩
theorem k_torn_in {P : Program} {w : World} {K : PySem.W.Frag} {mg : Str → Option Value} {base : Heap} (g : Gs K mg) (c_is_mark : Cal P w K mg base 1 "is_mark" 1 m_is_mark) (c_is_boat : Cal P w K mg base 1 "is_boat" 1 m_is_boat) {f : Addr} {fd : FuncData} (FF : FunD K "torn_in" "torn_in" (defArgs (top 19)) (defBody (top 19)) (defScope (top 19)) [] [] f fd) : FnOk P w K mg base (L2.CX P w) 2 f fd ["text"] (SpM K mg 1 m_torn_in) := by
  refine ok_fn (k := 1) FF sc_torn_in (by decide) (fun cdv A outer s H E hr => ?_)
  have hN := sc_torn_in.nd
  refine Bd.a1 fun x0 => ?_
  refine Bd.asD (E := fun z => env0 [z] 7) (fun v_text => ?_) x0
  exact Bd.of (xasg 1 hN rfl (.inl rfl) (dx (xL (ft_split (tt (de_var rfl (pv 0))) (tt de_str)))) rfl fun v_words_1 => (xpar 2 3 rfl hN rfl rfl (by decide) rfl rfl (dx (de_ix (tt (de_var rfl (pv 1))) (tt de_int))) (dx (xsl (tt (de_var rfl (pv 1))) (xso (tt de_int)) dp_no)) (fun v_marks_2 v_boats_3 => (ds_ifx (dt_w (xorB (xnt (xchB (f_le (u65 hr)) (f_le (u65 hr)) (tt de_int) (tt (xf1 c_len rfl g.n_len rfl (tt (de_var rfl (pv 2))))) (tt (de_gint rfl g.n_MOST_MARKED)))) (dq_or1 (xcp (f_ne (u65 hr)) (tt (xf1 c_len rfl g.n_len rfl (tt (de_var rfl (pv 3))))) (tt (xf1 c_len rfl g.n_len rfl (tt (de_var rfl (pv 2))))))))) (ds_ret (dx de_non)) (by repeat first | exact NoNx.rt | exact NoNx.bk | exact NoNx.ct | exact NoNx.bad | exact NoNx.gives | refine NoNx.bnd fun _ => ?_ | refine NoNx.ite ?_ ?_) (ds_ifx (xnt (xtru (tt (xf1 (c_all rfl) rfl g.n_all rfl (tt (xL (xlc1 [("mark", 5)] 5 rfl hN (til_seq (tt (de_var rfl (pv 2)))) (blkOk_by rfl) (cg_name hN rfl (by decide) rfl) (fun _ _ _ _ _ v_mark_4 => (xor_ (de_cp (f_eq (u65 hr)) (tt (de_var rfl (pv 5))) (tt (de_gstr rfl g.n_UNKNOWN))) (de_one (xD (dw_call c_is_mark hr (by decide) rfl tk_wf (xac (xW (de_var rfl (pv 5))) xa0) (lw_cons lw_nil))))))))))))) (ds_ret (dx de_non)) (by repeat first | exact NoNx.rt | exact NoNx.bk | exact NoNx.ct | exact NoNx.bad | exact NoNx.gives | refine NoNx.bnd fun _ => ?_ | refine NoNx.ite ?_ ?_) (ds_ifx (xnt (xtru (tt (xf1 (c_all rfl) rfl g.n_all rfl (tt (xL (xlc1 [("boat", 6)] 6 rfl hN (til_seq (tt (de_var rfl (pv 3)))) (blkOk_by rfl) (cg_name hN rfl (by decide) rfl) (fun _ _ _ _ _ v_boat_5 => (xor_ (de_cp (f_eq (u65 hr)) (tt (de_var rfl (pv 6))) (tt (de_gstr rfl g.n_UNKNOWN))) (de_one (xD (dw_call c_is_boat hr (by decide) rfl tk_wf (xac (xW (de_var rfl (pv 6))) xa0) (lw_cons lw_nil))))))))))))) (ds_ret (dx de_non)) (by repeat first | exact NoNx.rt | exact NoNx.bk | exact NoNx.ct | exact NoNx.bad | exact NoNx.gives | refine NoNx.bnd fun _ => ?_ | refine NoNx.ite ?_ ?_) (xstD 4 (xst1 [("mark", 5)] 5 4 rfl hN (til_seq (tt (de_var rfl (pv 2)))) (blkOk_by rfl) (cg_name hN rfl (by decide) rfl) (fun _ _ _ _ _ v_mark_6 => (xif (xcp (f_eq (u65 hr)) (tt (de_var rfl (pv 5))) (tt (de_gstr rfl g.n_UNKNOWN))) de_non (de_var rfl (pv 5)))) rfl rfl rfl) rfl fun v_known_7 => (ds_ret (dx (xtup (xdc (xt1 c_tup rfl g.n_tuple rfl (tt (de_var rfl (pv 4)))) (xdc (xt1 c_tup rfl g.n_tuple rfl (tt (xL (xlc1 [("boat", 6)] 6 rfl hN (til_seq (tt (de_var rfl (pv 3)))) (blkOk_by rfl) (cg_name hN rfl (by decide) rfl) (fun _ _ _ _ _ v_boat_8 => (xif (xcp (f_eq (u65 hr)) (tt (de_var rfl (pv 6))) (tt (de_gstr rfl g.n_UNKNOWN))) de_non (de_var rfl (pv 6)))))))) xd0)) (lc_cons (lc_cons ln_nil)))))))))) rfl))
theorem c_torn_in {P : Program} {w : World} {K : PySem.W.Frag} {mg : Str → Option Value} {base : Heap} (g : Gs K mg) (c_is_mark : Cal P w K mg base 1 "is_mark" 1 m_is_mark) (c_is_boat : Cal P w K mg base 1 "is_boat" 1 m_is_boat) : Cal P w K mg base 2 "torn_in" 1 m_torn_in := by
  obtain ⟨f, fd, FF, hm⟩ := g.f_torn_in
  exact ⟨f, fd, ["text"], rfl, k_torn_in g c_is_mark c_is_boat FF, hm, FF.kp, FF.bindsN fun _ _ _ _ _ _ us hl => match us, hl with | [_], _ => rfl⟩
/-! ### all_in -/
def mb_all_in : List W → M (Fl Unit Unit) := a2 fun x0 x1 => (asD (fun v_text => (asG "torn_in" (bnd (ntB (tru (op1 (isiO PyData.isStr) (ret v_text)))) fun k => if k = true then bad else (bnd (fn1 tupO (frL (lc1 (itS (frL (mth1L splitO (ret v_text) (ret (.str " / "))))) (fun v_part_1 => (toD (bnd (cat (asW (ret v_part_1)) (ret [])) m_torn_in)))))) fun v_found_2 => (bnd (orB (tb2 inO (ret .none) (ret v_found_2)) (tb2 gtO (fn1 lenO (ret v_found_2)) (ret (.int 24)))) fun k => if k = true then bad else (gives W.d (ret v_found_2))))) x1)) x0)
def m_all_in (ws : List W) : M W := fnM (mb_all_in ws)
theorem sc_all_in : FnScope ["text", "way", "found", "part"] ["text", "way"] (defScope (top 20)) := ⟨rfl, rfl, rfl, by decide +kernel, rfl, by decide +kernel, by decide +kernel⟩
theorem k_all_in {P : Program} {w : World} {K : PySem.W.Frag} {mg : Str → Option Value} {base : Heap} (g : Gs K mg) (c_torn_in : Cal P w K mg base 2 "torn_in" 1 m_torn_in) {f : Addr} {fd : FuncData} (FF : FunD K "all_in" "all_in" (defArgs (top 20)) (defBody (top 20)) (defScope (top 20)) [] [] f fd) : FnOk P w K mg base (L2.CX P w) 3 f fd ["text", "way"] (SpM K mg 2 m_all_in) := by
  refine ok_fn (k := 2) FF sc_all_in (by decide) (fun cdv A outer s H E hr => ?_)
  have hN := sc_all_in.nd
  refine Bd.a2 fun x0 x1 => ?_
  refine Bd.asD (E := fun z => env0 [z, x1] 4) (fun v_text => ?_) x0
  refine Bd.asG (E := fun z => env0 [W.d v_text, z] 4) ?_ x1
  exact Bd.of (ds_ifx (xnt (xtru (tt (de_isi isi_str rfl g.n_isinstance (tt (de_var rfl (pv 0))) rfl g.n_str rfl)))) ds_bad (by repeat first | exact NoNx.rt | exact NoNx.bk | exact NoNx.ct | exact NoNx.bad | exact NoNx.gives | refine NoNx.bnd fun _ => ?_ | refine NoNx.ite ?_ ?_) (xasg 2 hN rfl (.inl rfl) (dx (xt1 c_tup rfl g.n_tuple rfl (tt (xL (xlc1 [("part", 3)] 3 rfl hN (til_seq (tt (xL (ft_split (tt (de_var rfl (pv 0))) (tt (de_gstr rfl g.n_BETWEEN)))))) (blkOk_by rfl) (cg_name hN rfl (by decide) rfl) (fun _ _ _ _ _ v_part_1 => (xD (dw_callV c_torn_in rfl hr (by decide) (pv 1) tk_wf (xac (xW (de_var rfl (pv 3))) xa0) (lw_cons lw_nil))))))))) rfl fun v_found_2 => (ds_ifx (dt_w (xorB (xcp (f_in (u65 hr)) (tt de_non) (tt (de_var rfl (pv 2)))) (dq_or1 (xcp f_gt (tt (xf1 c_len rfl g.n_len rfl (tt (de_var rfl (pv 2))))) (tt (de_gint rfl g.n_MOST_SHEETS)))))) ds_bad (by repeat first | exact NoNx.rt | exact NoNx.bk | exact NoNx.ct | exact NoNx.bad | exact NoNx.gives | refine NoNx.bnd fun _ => ?_ | refine NoNx.ite ?_ ?_) (ds_ret (dx (de_var rfl (pv 2)))))))
theorem c_all_in {P : Program} {w : World} {K : PySem.W.Frag} {mg : Str → Option Value} {base : Heap} (g : Gs K mg) (c_torn_in : Cal P w K mg base 2 "torn_in" 1 m_torn_in) : Cal P w K mg base 3 "all_in" 2 m_all_in := by
  obtain ⟨f, fd, FF, hm⟩ := g.f_all_in
  exact ⟨f, fd, ["text", "way"], rfl, k_all_in g c_torn_in FF, hm, FF.kp, FF.bindsN fun _ _ _ _ _ _ us hl => match us, hl with | [_, _], _ => rfl⟩
/-! ### read_torn -/
def mb_read_torn : List W → M (Fl Unit Unit) := a1 fun x0 => (asD (fun v_text => (gives id (bnd (cat (asW (ret v_text)) (cat (ret (.g "torn_in")) (ret []))) m_all_in))) x0)
def m_read_torn (ws : List W) : M W := fnM (mb_read_torn ws)
theorem sc_read_torn : FnScope ["text"] ["text"] (defScope (top 21)) := ⟨rfl, rfl, rfl, by decide +kernel, rfl, by decide +kernel, by decide +kernel⟩
theorem k_read_torn {P : Program} {w : World} {K : PySem.W.Frag} {mg : Str → Option Value} {base : Heap} (g : Gs K mg) (c_all_in : Cal P w K mg base 3 "all_in" 2 m_all_in) (c_torn_in : Cal P w K mg base 2 "torn_in" 1 m_torn_in) {f : Addr} {fd : FuncData} (FF : FunD K "read_torn" "read_torn" (defArgs (top 21)) (defBody (top 21)) (defScope (top 21)) [] [] f fd) : FnOk P w K mg base (L2.CX P w) 4 f fd ["text"] (SpM K mg 1 m_read_torn) := by
  refine ok_fn (k := 3) FF sc_read_torn (by decide) (fun cdv A outer s H E hr => ?_)
  have hN := sc_read_torn.nd
  refine Bd.a1 fun x0 => ?_
  refine Bd.asD (E := fun z => env0 [z] 1) (fun v_text => ?_) x0
  exact Bd.of (ds_ret (dxw (dw_call c_all_in hr (by decide) rfl tk_body (xac (xW (de_var rfl (pv 0))) (xac (dw_gfn c_torn_in rfl) xa0)) (lw_cons (lw_cons lw_nil)))))
theorem c_read_torn {P : Program} {w : World} {K : PySem.W.Frag} {mg : Str → Option Value} {base : Heap} (g : Gs K mg) (c_all_in : Cal P w K mg base 3 "all_in" 2 m_all_in) (c_torn_in : Cal P w K mg base 2 "torn_in" 1 m_torn_in) : Cal P w K mg base 4 "read_torn" 1 m_read_torn := by
  obtain ⟨f, fd, FF, hm⟩ := g.f_read_torn
  exact ⟨f, fd, ["text"], rfl, k_read_torn g c_all_in c_torn_in FF, hm, FF.kp, FF.bindsN fun _ _ _ _ _ _ us hl => match us, hl with | [_], _ => rfl⟩
/-! ### _law_torn -/
def mb_law_torn : List W → M (Fl Unit Unit) := a2 fun x0 x1 => (asR (fun v_hand_here => (asD (fun v_boats_here => (bnd (op2 addO (ret (.int 1)) (toD (bnd (cat (rsW (ret v_hand_here)) (cat (asW (ret (.int 9))) (ret []))) m_law_take))) fun v_many_1 => bnd (op2 addO (ret (.int 1)) (toD (bnd (cat (rsW (ret v_hand_here)) (cat (asW (ret (.int 4))) (ret []))) m_law_take))) fun v_known_2 => (bnd (frL (cat (ret (.str "u")) (cat (ret (.str "t")) (cat (ret (.str "d")) (cat (ret (.str "o")) (ret [])))))) fun v_marks_3 => (bnd (frL (lc1 (itR1 (ret v_many_1)) (fun v_k_4 => (ifM (tb2 eqO (toD (bnd (cat (rsW (ret v_hand_here)) (cat (asW (ret v_known_2)) (ret []))) m_law_take)) (ret (.int 0))) (op2 ixO (ret v_marks_3) (toD (bnd (cat (rsW (ret v_hand_here)) (cat (asW (ret (.int 4))) (ret []))) m_law_take))) (ret .none))))) fun v_some_5 => (bnd (frL (lc1 (itR1 (ret v_many_1)) (fun v_k_6 => (ifM (tb2 eqO (toD (bnd (cat (rsW (ret v_hand_here)) (cat (asW (ret v_known_2)) (ret []))) m_law_take)) (ret (.int 0))) (op2 ixO (ret v_boats_here) (toD (bnd (cat (rsW (ret v_hand_here)) (cat (asW (fn1 lenO (ret v_boats_here))) (ret []))) m_law_take))) (ret .none))))) fun v_behind_7 => (gives W.d (tupM (cat (fn1 tupO (ret v_some_5)) (cat (fn1 tupO (ret v_behind_7)) (ret [])))))))))) x1)) x0)
def m_law_torn (ws : List W) : M W := fnM (mb_law_torn ws)
theorem sc_law_torn : FnScope ["_law_hand_here", "_law_boats_here", "_law_many", "_law_known", "_law_marks", "_law_some", "_law_behind", "_law_k"] ["_law_hand_here", "_law_boats_here"] (defScope (top 26)) := ⟨rfl, rfl, rfl, by decide +kernel, rfl, by decide +kernel, by decide +kernel⟩
theorem k_law_torn {P : Program} {w : World} {K : PySem.W.Frag} {mg : Str → Option Value} {base : Heap} (g : Gs K mg) (c_law_take : Cal P w K mg base 1 "_law_take" 2 m_law_take) {f : Addr} {fd : FuncData} (FF : FunD K "_law_torn" "_law_torn" (defArgs (top 26)) (defBody (top 26)) (defScope (top 26)) [] [] f fd) : FnOk P w K mg base (L2.CX P w) 2 f fd ["_law_hand_here", "_law_boats_here"] (SpM K mg 2 m_law_torn) := by
  refine ok_fn (k := 1) FF sc_law_torn (by decide) (fun cdv A outer s H E hr => ?_)
  have hN := sc_law_torn.nd
  refine Bd.a2 fun x0 x1 => ?_
  refine Bd.asR (E := fun z => env0 [z, x1] 8) (fun v_hand_here => ?_) x0
  refine Bd.asD (E := fun z => env0 [W.r v_hand_here, z] 8) (fun v_boats_here => ?_) x1
  exact Bd.of (xpat2 2 3 (dg_tup rfl (dgs_cons (dg_name hN rfl (.inl rfl)) (dgs_cons (dg_name hN rfl (.inr rfl)) dgs_nil))) (de_bin f_add (tt de_int) (tt (xD (dw_call c_law_take hr (by decide) rfl tk_body (xac (xRW (dr_var rfl (pv 0))) (xac (xW de_int) xa0)) (lw_cons (lw_cons lw_nil)))))) (de_bin f_add (tt de_int) (tt (xD (dw_call c_law_take hr (by decide) rfl tk_body (xac (xRW (dr_var rfl (pv 0))) (xac (xW de_int) xa0)) (lw_cons (lw_cons lw_nil)))))) fun v_many_1 v_known_2 => (xasg 4 hN rfl (.inr rfl) (dx (xL (ft_lst (xdc de_str (xdc de_str (xdc de_str (xdc de_str xd0)))) (lc_cons (lc_cons (lc_cons (lc_cons ln_nil))))))) rfl fun v_marks_3 => (xstD 5 (xst1 [("_law_k", 7)] 7 5 rfl hN (til (ti_range1 rfl g.n_range (de_var rfl (pv 2)))) (blkOk_by rfl) (cg_name hN rfl (by decide) rfl) (fun _ _ _ _ _ v_k_4 => (xif (xcp (f_eq (u65 hr)) (tt (xD (dw_call c_law_take hr (by decide) rfl tk_wf (xac (xRW (dr_var rfl (pv 0))) (xac (xW (de_var rfl (pv 3))) xa0)) (lw_cons (lw_cons lw_nil))))) (tt de_int)) (de_ix (tt (de_var rfl (pv 4))) (tt (xD (dw_call c_law_take hr (by decide) rfl tk_wf (xac (xRW (dr_var rfl (pv 0))) (xac (xW de_int) xa0)) (lw_cons (lw_cons lw_nil)))))) de_non)) rfl rfl rfl) rfl fun v_some_5 => (xstD 6 (xst1 [("_law_k", 7)] 7 6 rfl hN (til (ti_range1 rfl g.n_range (de_var rfl (pv 2)))) (blkOk_by rfl) (cg_name hN rfl (by decide) rfl) (fun _ _ _ _ _ v_k_6 => (xif (xcp (f_eq (u65 hr)) (tt (xD (dw_call c_law_take hr (by decide) rfl tk_wf (xac (xRW (dr_var rfl (pv 0))) (xac (xW (de_var rfl (pv 3))) xa0)) (lw_cons (lw_cons lw_nil))))) (tt de_int)) (de_ix (tt (de_var rfl (pv 1))) (tt (xD (dw_call c_law_take hr (by decide) rfl tk_wf (xac (xRW (dr_var rfl (pv 0))) (xac (xW (xf1 c_len rfl g.n_len rfl (tt (de_var rfl (pv 1))))) xa0)) (lw_cons (lw_cons lw_nil)))))) de_non)) rfl rfl rfl) rfl fun v_behind_7 => (ds_ret (dx (xtup (xdc (xt1 c_tup rfl g.n_tuple rfl (tt (de_var rfl (pv 5)))) (xdc (xt1 c_tup rfl g.n_tuple rfl (tt (de_var rfl (pv 6)))) xd0)) (lc_cons (lc_cons ln_nil)))))))))
theorem c_law_torn {P : Program} {w : World} {K : PySem.W.Frag} {mg : Str → Option Value} {base : Heap} (g : Gs K mg) (c_law_take : Cal P w K mg base 1 "_law_take" 2 m_law_take) : Cal P w K mg base 2 "_law_torn" 2 m_law_torn := by
  obtain ⟨f, fd, FF, hm⟩ := g.f_law_torn
  exact ⟨f, fd, ["_law_hand_here", "_law_boats_here"], rfl, k_law_torn g c_law_take FF, hm, FF.kp, FF.bindsN fun _ _ _ _ _ _ us hl => match us, hl with | [_, _], _ => rfl⟩
/-! ### known_text -/
def mb_known_text : List W → M (Fl Unit Unit) := a1 fun x0 => (asD (fun v_thing => (bnd (tb2 isO (ret v_thing) (ret .none)) fun k => if k = true then (gives W.d (ret (.str "?"))) else (gives W.d (ret v_thing)))) x0)
def m_known_text (ws : List W) : M W := fnM (mb_known_text ws)
theorem sc_known_text : FnScope ["thing"] ["thing"] (defScope (top 13)) := ⟨rfl, rfl, rfl, by decide +kernel, rfl, by decide +kernel, by decide +kernel⟩
theorem k_known_text {P : Program} {w : World} {K : PySem.W.Frag} {mg : Str → Option Value} {base : Heap} (g : Gs K mg)  {f : Addr} {fd : FuncData} (FF : FunD K "known_text" "known_text" (defArgs (top 13)) (defBody (top 13)) (defScope (top 13)) [] [] f fd) : FnOk P w K mg base (L2.CX P w) 1 f fd ["thing"] (SpM K mg 1 m_known_text) := by
  refine ok_fn (k := 0) FF sc_known_text (by decide) (fun cdv A outer s H E hr => ?_)
  have hN := sc_known_text.nd
  refine Bd.a1 fun x0 => ?_
  refine Bd.asD (E := fun z => env0 [z] 1) (fun v_thing => ?_) x0
  exact Bd.of (ds_ifx (xcp f_is (tt (de_var rfl (pv 0))) (tt de_non)) (ds_ret (dx (de_gstr rfl g.n_UNKNOWN))) (by repeat first | exact NoNx.rt | exact NoNx.bk | exact NoNx.ct | exact NoNx.bad | exact NoNx.gives | refine NoNx.bnd fun _ => ?_ | refine NoNx.ite ?_ ?_) (ds_ret (dx (de_var rfl (pv 0)))))
theorem c_known_text {P : Program} {w : World} {K : PySem.W.Frag} {mg : Str → Option Value} {base : Heap} (g : Gs K mg)  : Cal P w K mg base 1 "known_text" 1 m_known_text := by
  obtain ⟨f, fd, FF, hm⟩ := g.f_known_text
  exact ⟨f, fd, ["thing"], rfl, k_known_text g  FF, hm, FF.kp, FF.bindsN fun _ _ _ _ _ _ us hl => match us, hl with | [_], _ => rfl⟩
/-! ### torn_text -/
def mb_torn_text : List W → M (Fl Unit Unit) := a1 fun x0 => (asD (fun v_torn => (bnd (ret v_torn) fun z => un2 z fun v_marks_1 v_behind_2 => (gives W.d (op2 addO (op2 addO (mth1 joinO (ret (.str "")) (frL (lc1 (itS (ret v_marks_1)) (fun v_mark_3 => (toD (bnd (cat (asW (ret v_mark_3)) (ret [])) m_known_text)))))) (ret (.str " "))) (mth1 joinO (ret (.str " ")) (frL (lc1 (itS (ret v_behind_2)) (fun v_boat_4 => (toD (bnd (cat (asW (ret v_boat_4)) (ret [])) m_known_text)))))))))) x0)
def m_torn_text (ws : List W) : M W := fnM (mb_torn_text ws)
theorem sc_torn_text : FnScope ["torn", "marks", "behind", "boat", "mark"] ["torn"] (defScope (top 14)) := ⟨rfl, rfl, rfl, by decide +kernel, rfl, by decide +kernel, by decide +kernel⟩
theorem k_torn_text {P : Program} {w : World} {K : PySem.W.Frag} {mg : Str → Option Value} {base : Heap} (g : Gs K mg) (c_known_text : Cal P w K mg base 1 "known_text" 1 m_known_text) {f : Addr} {fd : FuncData} (FF : FunD K "torn_text" "torn_text" (defArgs (top 14)) (defBody (top 14)) (defScope (top 14)) [] [] f fd) : FnOk P w K mg base (L2.CX P w) 2 f fd ["torn"] (SpM K mg 1 m_torn_text) := by
  refine ok_fn (k := 1) FF sc_torn_text (by decide) (fun cdv A outer s H E hr => ?_)
  have hN := sc_torn_text.nd
  refine Bd.a1 fun x0 => ?_
  refine Bd.asD (E := fun z => env0 [z] 5) (fun v_torn => ?_) x0
  exact Bd.of (xunp2 1 2 (dg_tup rfl (dgs_cons (dg_name hN rfl (.inl rfl)) (dgs_cons (dg_name hN rfl (.inl rfl)) dgs_nil))) (de_var rfl (pv 0)) fun v_marks_1 v_behind_2 => (ds_ret (dx (de_bin f_add (tt (de_bin f_add (tt (de_m1 F.slot_str_join F.type_str_join m_join (tt de_str) (tt (xL (xlc1 [("mark", 4)] 4 rfl hN (til_seq (tt (de_var rfl (pv 1)))) (blkOk_by rfl) (cg_name hN rfl (by decide) rfl) (fun _ _ _ _ _ v_mark_3 => (xD (dw_call c_known_text hr (by decide) rfl tk_wf (xac (xW (de_var rfl (pv 4))) xa0) (lw_cons lw_nil))))))))) (tt de_str))) (tt (de_m1 F.slot_str_join F.type_str_join m_join (tt de_str) (tt (xL (xlc1 [("boat", 3)] 3 rfl hN (til_seq (tt (de_var rfl (pv 2)))) (blkOk_by rfl) (cg_name hN rfl (by decide) rfl) (fun _ _ _ _ _ v_boat_4 => (xD (dw_call c_known_text hr (by decide) rfl tk_wf (xac (xW (de_var rfl (pv 3))) xa0) (lw_cons lw_nil)))))))))))))
theorem c_torn_text {P : Program} {w : World} {K : PySem.W.Frag} {mg : Str → Option Value} {base : Heap} (g : Gs K mg) (c_known_text : Cal P w K mg base 1 "known_text" 1 m_known_text) : Cal P w K mg base 2 "torn_text" 1 m_torn_text := by
  obtain ⟨f, fd, FF, hm⟩ := g.f_torn_text
  exact ⟨f, fd, ["torn"], rfl, k_torn_text g c_known_text FF, hm, FF.kp, FF.bindsN fun _ _ _ _ _ _ us hl => match us, hl with | [_], _ => rfl⟩
/-! ### show_torn -/
def mb_show_torn : List W → M (Fl Unit Unit) := a1 fun x0 => (asD (fun v_sheets => (gives W.d (mth1 joinO (ret (.str " / ")) (frL (lc1 (itS (ret v_sheets)) (fun v_torn_1 => (toD (bnd (cat (asW (ret v_torn_1)) (ret [])) m_torn_text)))))))) x0)
def m_show_torn (ws : List W) : M W := fnM (mb_show_torn ws)
theorem sc_show_torn : FnScope ["sheets", "torn"] ["sheets"] (defScope (top 15)) := ⟨rfl, rfl, rfl, by decide +kernel, rfl, by decide +kernel, by decide +kernel⟩
theorem k_show_torn {P : Program} {w : World} {K : PySem.W.Frag} {mg : Str → Option Value} {base : Heap} (g : Gs K mg) (c_torn_text : Cal P w K mg base 2 "torn_text" 1 m_torn_text) {f : Addr} {fd : FuncData} (FF : FunD K "show_torn" "show_torn" (defArgs (top 15)) (defBody (top 15)) (defScope (top 15)) [] [] f fd) : FnOk P w K mg base (L2.CX P w) 3 f fd ["sheets"] (SpM K mg 1 m_show_torn) := by
  refine ok_fn (k := 2) FF sc_show_torn (by decide) (fun cdv A outer s H E hr => ?_)
  have hN := sc_show_torn.nd
  refine Bd.a1 fun x0 => ?_
  refine Bd.asD (E := fun z => env0 [z] 2) (fun v_sheets => ?_) x0
  exact Bd.of (ds_ret (dx (de_m1 F.slot_str_join F.type_str_join m_join (tt (de_gstr rfl g.n_BETWEEN)) (tt (xL (xlc1 [("torn", 1)] 1 rfl hN (til_seq (tt (de_var rfl (pv 0)))) (blkOk_by rfl) (cg_name hN rfl (by decide) rfl) (fun _ _ _ _ _ v_torn_1 => (xD (dw_call c_torn_text hr (by decide) rfl tk_wf (xac (xW (de_var rfl (pv 1))) xa0) (lw_cons lw_nil))))))))))
theorem c_show_torn {P : Program} {w : World} {K : PySem.W.Frag} {mg : Str → Option Value} {base : Heap} (g : Gs K mg) (c_torn_text : Cal P w K mg base 2 "torn_text" 1 m_torn_text) : Cal P w K mg base 3 "show_torn" 1 m_show_torn := by
  obtain ⟨f, fd, FF, hm⟩ := g.f_show_torn
  exact ⟨f, fd, ["sheets"], rfl, k_show_torn g c_torn_text FF, hm, FF.kp, FF.bindsN fun _ _ _ _ _ _ us hl => match us, hl with | [_], _ => rfl⟩
/-! ### _law_kinds -/
def mb_law_kinds : List W → M (Fl Unit Unit) := a1 fun x0 => (asD (fun v_sheets => (bnd (ntB (tru (op1 (isiO PyData.isTuple) (ret v_sheets)))) fun k => if k = true then (gives W.d (ret (.bool false))) else (seqF (bnd (itS (ret v_sheets)) fun zs => forL (fun v_torn_here_2 v_t_1 => (bnd (orB (ntB (tru (op1 (isiO PyData.isTuple) (ret v_torn_here_2)))) (orB (tb2 neO (fn1 lenO (ret v_torn_here_2)) (ret (.int 2))) (ntB (tru (fn1 allO (frL (lc1 (itS (ret v_torn_here_2)) (fun v_some_3 => (op1 (isiO PyData.isTuple) (ret v_some_3)))))))))) fun k => if k = true then (gives W.d (ret (.bool false))) else (bnd (ntB (tru (fn1 allO (frL (lc1 (itS (op2 addO (op2 ixO (ret v_torn_here_2) (ret (.int 0))) (op2 ixO (ret v_torn_here_2) (ret (.int 1))))) (fun v_one_4 => (orM (op2 isO (ret v_one_4) (ret .none)) (op1 (isiO PyData.isStr) (ret v_one_4))))))))) fun k => if k = true then (gives W.d (ret (.bool false))) else (ret (.nx ()))))) zs ()) fun (v_t_1 : Unit) => (gives W.d (ret (.bool true)))))) x0)
def m_law_kinds (ws : List W) : M W := fnM (mb_law_kinds ws)
theorem sc_law_kinds : FnScope ["_law_sheets", "_law_torn_here", "_law_one", "_law_some"] ["_law_sheets"] (defScope (top 28)) := ⟨rfl, rfl, rfl, by decide +kernel, rfl, by decide +kernel, by decide +kernel⟩
theorem k_law_kinds {P : Program} {w : World} {K : PySem.W.Frag} {mg : Str → Option Value} {base : Heap} (g : Gs K mg)  {f : Addr} {fd : FuncData} (FF : FunD K "_law_kinds" "_law_kinds" (defArgs (top 28)) (defBody (top 28)) (defScope (top 28)) [] [] f fd) : FnOk P w K mg base (L2.CX P w) 1 f fd ["_law_sheets"] (SpM K mg 1 m_law_kinds) := by
  refine ok_fn (k := 0) FF sc_law_kinds (by decide) (fun cdv A outer s H E hr => ?_)
  have hN := sc_law_kinds.nd
  refine Bd.a1 fun x0 => ?_
  refine Bd.asD (E := fun z => env0 [z] 4) (fun v_sheets => ?_) x0
  exact Bd.of (ds_ifx (xnt (xtru (tt (de_isi isi_tuple rfl g.n_isinstance (tt (de_var rfl (pv 0))) rfl g.n_tuple rfl)))) (ds_ret (dx de_bl)) (by repeat first | exact NoNx.rt | exact NoNx.bk | exact NoNx.ct | exact NoNx.bad | exact NoNx.gives | refine NoNx.bnd fun _ => ?_ | refine NoNx.ite ?_ ?_) (xseq (fun (v_t_1 : Unit) => [none, none, none, none]) (xfor1 1 (passes_of rfl) rfl (ti_seq (de_var rfl (pv 0))) (dg_name hN rfl (.inl rfl)) (fun v_torn_here_2 v_t_1 => (ds_ifx (dt_w (xorB (xnt (xtru (tt (de_isi isi_tuple rfl g.n_isinstance (tt (de_var rfl (pv 1))) rfl g.n_tuple rfl)))) (xorB (xcp (f_ne (u65 hr)) (tt (xf1 c_len rfl g.n_len rfl (tt (de_var rfl (pv 1))))) (tt de_int)) (dq_or1 (xnt (xtru (tt (xf1 (c_all rfl) rfl g.n_all rfl (tt (xL (xlc1 [("_law_some", 3)] 3 rfl hN (til_seq (tt (de_var rfl (pv 1)))) (blkOk_by rfl) (cg_name hN rfl (by decide) rfl) (fun _ _ _ _ _ v_some_3 => (de_isi isi_tuple rfl g.n_isinstance (tt (de_var rfl (pv 3))) rfl g.n_tuple rfl))))))))))))) (ds_ret (dx de_bl)) (by repeat first | exact NoNx.rt | exact NoNx.bk | exact NoNx.ct | exact NoNx.bad | exact NoNx.gives | refine NoNx.bnd fun _ => ?_ | refine NoNx.ite ?_ ?_) (ds_ifx (xnt (xtru (tt (xf1 (c_all rfl) rfl g.n_all rfl (tt (xL (xlc1 [("_law_one", 2)] 2 rfl hN (til_seq (tt (de_bin f_add (tt (de_ix (tt (de_var rfl (pv 1))) (tt de_int))) (tt (de_ix (tt (de_var rfl (pv 1))) (tt de_int)))))) (blkOk_by rfl) (cg_name hN rfl (by decide) rfl) (fun _ _ _ _ _ v_one_4 => (xor_ (de_cp f_is (tt (de_var rfl (pv 2))) (tt de_non)) (de_one (de_isi isi_str rfl g.n_isinstance (tt (de_var rfl (pv 2))) rfl g.n_str rfl))))))))))) (ds_ret (dx de_bl)) (by repeat first | exact NoNx.rt | exact NoNx.bk | exact NoNx.ct | exact NoNx.bad | exact NoNx.gives | refine NoNx.bnd fun _ => ?_ | refine NoNx.ite ?_ ?_) (ds_nil (t := ()) (.drop (.drop (.drop (.drop .nil)))))))) (.drop (.drop (.drop (.drop .nil))))) fun v_t_1 => (ds_ret (dx de_bl))))
theorem c_law_kinds {P : Program} {w : World} {K : PySem.W.Frag} {mg : Str → Option Value} {base : Heap} (g : Gs K mg)  : Cal P w K mg base 1 "_law_kinds" 1 m_law_kinds := by
  obtain ⟨f, fd, FF, hm⟩ := g.f_law_kinds
  exact ⟨f, fd, ["_law_sheets"], rfl, k_law_kinds g  FF, hm, FF.kp, FF.bindsN fun _ _ _ _ _ _ us hl => match us, hl with | [_], _ => rfl⟩
/-! ### law -/
def mb_law : List W → M (Fl Unit Unit) := a1 fun x0 => (asD (fun v_script => (seqF (bnd (itR1 (op2 addO (ret (.int 1)) (fn1 lenO (slM (ret v_script) (ret none) (someI (ret (.int 8))))))) fun zs => forL (fun v_place_2 v_t_1 => (bnd (toR (bnd (cat (asW (ret v_script)) (cat (asW (ret v_place_2)) (ret []))) m_law_hand)) fun v_hand_here_3 => (bnd (op2 addO (ret (.int 1)) (op2 ixO (frL (cat (toD (bnd (cat (rsW (ret v_hand_here_3)) (cat (asW (ret (.int 5))) (ret []))) m_law_take)) (cat (toD (bnd (cat (rsW (ret v_hand_here_3)) (cat (asW (ret (.int 24))) (ret []))) m_law_take)) (cat (ret (.int 23)) (ret []))))) (toD (bnd (cat (rsW (ret v_hand_here_3)) (cat (asW (ret (.int 3))) (ret []))) m_law_take)))) fun v_many_4 => (bnd (toD (bnd (cat (rsW (ret v_hand_here_3)) (cat (asW (op2 addO (ret (.int 1)) (toD (bnd (cat (rsW (ret v_hand_here_3)) (cat (asW (ret (.int 12))) (ret []))) m_law_take)))) (ret []))) m_law_boats)) fun v_boats_here_5 => (bnd (fn1 tupO (frL (lc1 (itR1 (ret v_many_4)) (fun v_k_6 => (toD (bnd (cat (rsW (ret v_hand_here_3)) (cat (asW (ret v_boats_here_5)) (ret []))) m_law_torn)))))) fun v_sheets_7 => (bnd (toD (bnd (cat (asW (ret v_sheets_7)) (ret [])) m_law_text)) fun v_text_here_8 => (bnd (toD (bnd (cat (asW (ret v_text_here_8)) (ret [])) m_read_torn)) fun v_found_9 => (bnd (orB (tb2 neO (toD (bnd (cat (asW (ret v_sheets_7)) (ret [])) m_show_torn)) (ret v_text_here_8)) (orB (tb2 neO (ret v_found_9) (ret v_sheets_7)) (ntB (tru (toD (bnd (cat (asW (ret v_found_9)) (ret [])) m_law_kinds)))))) fun k => if k = true then (gives W.d (ret (.bool false))) else (ret (.nx ())))))))))) zs ()) fun (v_t_1 : Unit) => (gives W.d (ret (.bool true))))) x0)
def m_law (ws : List W) : M W := fnM (mb_law ws)
theorem sc_law : FnScope ["_law_script", "_law_place", "_law_hand_here", "_law_many", "_law_boats_here", "_law_sheets", "_law_text_here", "_law_found", "_law_k"] ["_law_script"] (defScope (top 29)) := ⟨rfl, rfl, rfl, by decide +kernel, rfl, by decide +kernel, by decide +kernel⟩
theorem k_law {P : Program} {w : World} {K : PySem.W.Frag} {mg : Str → Option Value} {base : Heap} (g : Gs K mg) (c_law_hand : Cal P w K mg base 1 "_law_hand" 2 m_law_hand) (c_law_boats : Cal P w K mg base 2 "_law_boats" 2 m_law_boats) (c_law_text : Cal P w K mg base 1 "_law_text" 1 m_law_text) (c_read_torn : Cal P w K mg base 4 "read_torn" 1 m_read_torn) (c_law_take : Cal P w K mg base 1 "_law_take" 2 m_law_take) (c_law_torn : Cal P w K mg base 2 "_law_torn" 2 m_law_torn) (c_show_torn : Cal P w K mg base 3 "show_torn" 1 m_show_torn) (c_law_kinds : Cal P w K mg base 1 "_law_kinds" 1 m_law_kinds) {f : Addr} {fd : FuncData} (FF : FunD K "law" "law" (defArgs (top 29)) (defBody (top 29)) (defScope (top 29)) [] [] f fd) : FnOk P w K mg base (L2.CX P w) 5 f fd ["_law_script"] (SpM K mg 1 m_law) := by
  refine ok_fn (k := 4) FF sc_law (by decide) (fun cdv A outer s H E hr => ?_)
  have hN := sc_law.nd
  refine Bd.a1 fun x0 => ?_
  refine Bd.asD (E := fun z => env0 [z] 9) (fun v_script => ?_) x0
  exact Bd.of (xseq (fun (v_t_1 : Unit) => [some (.w (.d v_script)), none, none, none, none, none, none, none, none]) (xfor1 1 (passes_of rfl) rfl (ti_range1 rfl g.n_range (de_bin f_add (tt de_int) (tt (xf1 c_len rfl g.n_len rfl (tt (xsl (tt (de_var rfl (pv 0))) dp_no (xso (tt de_int)))))))) (dg_name hN rfl (.inl rfl)) (fun v_place_2 v_t_1 => (xasg 2 hN rfl (.inr rfl) (dxr (xR (dw_call c_law_hand hr (by decide) rfl tk_body (xac (xW (de_var rfl (pv 0))) (xac (xW (de_var rfl (pv 1))) xa0)) (lw_cons (lw_cons lw_nil))))) rfl fun v_hand_here_3 => (xasg 3 hN rfl (.inl rfl) (dx (de_bin f_add (tt de_int) (tt (de_ix (tt (xL (ft_lst (xdc (xD (dw_call c_law_take hr (by decide) rfl tk_body (xac (xRW (dr_var rfl (pv 2))) (xac (xW de_int) xa0)) (lw_cons (lw_cons lw_nil)))) (xdc (xD (dw_call c_law_take hr (by decide) rfl tk_body (xac (xRW (dr_var rfl (pv 2))) (xac (xW de_int) xa0)) (lw_cons (lw_cons lw_nil)))) (xdc de_int xd0))) (lc_cons (lc_cons (lc_cons ln_nil)))))) (tt (xD (dw_call c_law_take hr (by decide) rfl tk_body (xac (xRW (dr_var rfl (pv 2))) (xac (xW de_int) xa0)) (lw_cons (lw_cons lw_nil))))))))) rfl fun v_many_4 => (xasg 4 hN rfl (.inr rfl) (dx (xD (dw_call c_law_boats hr (by decide) rfl tk_body (xac (xRW (dr_var rfl (pv 2))) (xac (xW (de_bin f_add (tt de_int) (tt (xD (dw_call c_law_take hr (by decide) rfl tk_body (xac (xRW (dr_var rfl (pv 2))) (xac (xW de_int) xa0)) (lw_cons (lw_cons lw_nil))))))) xa0)) (lw_cons (lw_cons lw_nil))))) rfl fun v_boats_here_5 => (xasg 5 hN rfl (.inl rfl) (dx (xt1 c_tup rfl g.n_tuple rfl (tt (xL (xlc1 [("_law_k", 8)] 8 rfl hN (til (ti_range1 rfl g.n_range (de_var rfl (pv 3)))) (blkOk_by rfl) (cg_name hN rfl (by decide) rfl) (fun _ _ _ _ _ v_k_6 => (xD (dw_call c_law_torn hr (by decide) rfl tk_wf (xac (xRW (dr_var rfl (pv 2))) (xac (xW (de_var rfl (pv 4))) xa0)) (lw_cons (lw_cons lw_nil)))))))))) rfl fun v_sheets_7 => (xasg 6 hN rfl (.inl rfl) (dx (xD (dw_call c_law_text hr (by decide) rfl tk_body (xac (xW (de_var rfl (pv 5))) xa0) (lw_cons lw_nil)))) rfl fun v_text_here_8 => (xasg 7 hN rfl (.inl rfl) (dx (xD (dw_call c_read_torn hr (by decide) rfl tk_body (xac (xW (de_var rfl (pv 6))) xa0) (lw_cons lw_nil)))) rfl fun v_found_9 => (ds_ifx (dt_w (xorB (xcp (f_ne (u65 hr)) (tt (xD (dw_call c_show_torn hr (by decide) rfl tk_body (xac (xW (de_var rfl (pv 5))) xa0) (lw_cons lw_nil)))) (tt (de_var rfl (pv 6)))) (xorB (xcp (f_ne (u65 hr)) (tt (de_var rfl (pv 7))) (tt (de_var rfl (pv 5)))) (dq_or1 (xnt (xtru (tt (xD (dw_call c_law_kinds hr (by decide) rfl tk_body (xac (xW (de_var rfl (pv 7))) xa0) (lw_cons lw_nil)))))))))) (ds_ret (dx de_bl)) (by repeat first | exact NoNx.rt | exact NoNx.bk | exact NoNx.ct | exact NoNx.bad | exact NoNx.gives | refine NoNx.bnd fun _ => ?_ | refine NoNx.ite ?_ ?_) (ds_nil (t := ()) (.same (.drop (.drop (.drop (.drop (.drop (.drop (.drop (.drop .nil)))))))))))))))))) (.same (.drop (.drop (.drop (.drop (.drop (.drop (.drop (.drop .nil)))))))))) fun v_t_1 => (ds_ret (dx de_bl)))
theorem c_law {P : Program} {w : World} {K : PySem.W.Frag} {mg : Str → Option Value} {base : Heap} (g : Gs K mg) (c_law_hand : Cal P w K mg base 1 "_law_hand" 2 m_law_hand) (c_law_boats : Cal P w K mg base 2 "_law_boats" 2 m_law_boats) (c_law_text : Cal P w K mg base 1 "_law_text" 1 m_law_text) (c_read_torn : Cal P w K mg base 4 "read_torn" 1 m_read_torn) (c_law_take : Cal P w K mg base 1 "_law_take" 2 m_law_take) (c_law_torn : Cal P w K mg base 2 "_law_torn" 2 m_law_torn) (c_show_torn : Cal P w K mg base 3 "show_torn" 1 m_show_torn) (c_law_kinds : Cal P w K mg base 1 "_law_kinds" 1 m_law_kinds) : Cal P w K mg base 5 "law" 1 m_law := by
  obtain ⟨f, fd, FF, hm⟩ := g.f_law
  exact ⟨f, fd, ["_law_script"], rfl, k_law g c_law_hand c_law_boats c_law_text c_read_torn c_law_take c_law_torn c_show_torn c_law_kinds FF, hm, FF.kp, FF.bindsN fun _ _ _ _ _ _ us hl => match us, hl with | [_], _ => rfl⟩
end DL

namespace DL
open PySem PySem.Spec PyProof.Rows L2
open SX (S)
def Bo (b : List Nat) : Prop := b ≠ [] ∧ b.length ≤ 8 ∧ ∀ c ∈ b, 97 ≤ c ∧ c ≤ 122
abbrev sD (b : List Nat) : PyData := .str (S b)
theorem s_drop : ("drop" : Str) = S [100, 114, 111, 112] := by rfl
theorem s_touch : ("touch" : Str) = S [116, 111, 117, 99, 104] := by rfl
theorem s_bang : ("!" : Str) = S [33] := by rfl
theorem s_arrow : (">" : Str) = S [62] := by rfl
theorem s_blank : (" " : Str) = S [32] := by rfl
theorem s_dash : ("-" : Str) = S [45] := by rfl
theorem s_bar : (" / " : Str) = S [32, 47, 32] := by rfl
theorem s_abc : ("abcdefghijklmnopqrstuvwxyz" : Str) = S ((List.range 26).map (· + 97)) := by rfl
theorem in_abc {c : Nat} (h : 97 ≤ c ∧ c ≤ 122) : (S ((List.range 26).map (· + 97))).cps.contains c = true := by
  rw [← Array.contains_toList]
  show ((List.range 26).map (· + 97)).contains c = true
  rw [List.contains_iff_mem, List.mem_map]
  exact ⟨c - 97, List.mem_range.mpr (by omega), by omega⟩
theorem isStr_s (x : Str) : PyData.isStr (.str x) = true := rfl
theorem is_boat_ok {b : List Nat} (h : Bo b) : m_is_boat [.d (sD b)] = ret (.d (.bool true)) := by
  obtain ⟨h1, h2, h3⟩ := h
  have hl : 0 < b.length := List.length_pos_iff.mpr h1
  have e1 : leO (.int 1) (.int (S b).length) = some (.bool true) := by
    rw [leO_int, SX.S_len, decide_eq_true (by omega)]
  have e2 : leO (.int (S b).length) (.int 8) = some (.bool true) := by
    rw [leO_int, SX.S_len, decide_eq_true (by omega)]
  have e3 : stripO (S b) (.str "abcdefghijklmnopqrstuvwxyz") = some (sD []) := by
    show (if _ then _ else _) = _
    rw [if_pos (S_len_le (by omega)), s_abc, S_strip fun c hc => in_abc (h3 c hc)]
  have e4 : lenO [.str (S b)] = some (.int (S b).length) := lenO_str (S_len_le (by omega))
  have e5 : isiO PyData.isStr (.str (S b)) = some (.bool true) := isiO_ok rfl
  have e6 : eqO (sD []) (.str "") = some (.bool true) := by rw [eqO_str, S_nil, dec_S]; rfl
  simp only [m_is_boat, mb_is_boat, sD, frL, asW, rsW, toD, toR, cat, andM, orM, notM, ifM, chainM, slM, someI, tru, tb2, ntB, andB, orB, tupM, fn1, itS, itE, itR1, itZ, gives, op2, op1, mth1, mth1L, ret_bnd, lft_some, wD_d, wR_r, asB_b, asI_i, strO_s, if_t, if_f, truO_b, fnM_rt, seqF_nx, seqF_rt, un2_t, a1, a2, a3, asD, asR, asG, bnd_assoc, Bool.not_true, Bool.not_false, itemsD_t, itemsD_l, Int.reduceLT, Int.reduceLE, Int.reduceEq, Int.reduceNe, gt_iff_lt, ge_iff_le, len_t2, len_t3, len_l2, zipO_ss, strO_s, tup_l, tup_t, negO_i, eqO_int, neO_int, ltO_int, leO_int, gtO_int, geO_int, ixO_tup, ixO_lst, at0, at1, at2, if_true, if_false, Bool.false_eq_true, decide_true, decide_false, id_eq, e1, e2, e3, e4, e5, e6]
theorem isTup (xs : List PyData) (h : PyData.plainAll xs = true) : isiO PyData.isTuple (.tuple xs) = some (.bool true) := isiO_ok (by simpa [PyData.plain] using h)
theorem comp_boats {es : List (List Nat)} (h : ∀ b ∈ es, Bo b) (hl : es.length ≤ 100) :
    lc1 (ret (es.map sD)) (fun v => bnd (m_is_boat [W.d v]) wD) = ret (es.map fun _ => .bool true) := by
  have sl := sizeLine_eq
  have e := lc1_ret (mi := ret (es.map sD)) (f := fun v => bnd (m_is_boat [W.d v]) wD) (fun _ => .bool true) rfl (by rw [List.length_map]; omega) fun x hx => by
    obtain ⟨b, hb, rfl⟩ := List.mem_map.mp hx
    rw [is_boat_ok (h b hb)]
    rfl
  rw [e, List.map_map]
  rfl
theorem bo_len {b : List Nat} (h : Bo b) : b.length ≤ 8 := h.2.1
theorem joinL_head : ∀ {ys : List (List Nat)} {y : List Nat} {r : List (List Nat)} (sep : List Nat), ys = y :: r → y ≠ [] → ∃ c l, TL.joinL sep ys = c :: l ∧ c ∈ y
  | [c :: y], _, _, _, e, _ => by
    cases e
    exact ⟨c, y, rfl, List.mem_cons_self⟩
  | (c :: y) :: q :: r, _, _, _, e, _ => by
    cases e
    exact ⟨c, _, rfl, List.mem_cons_self⟩
  | [[]], _, _, _, e, h => by cases e; exact absurd rfl h
  | [] :: q :: r, _, _, _, e, h => by cases e; exact absurd rfl h
def RJ (sep : List Nat) : Nat → List (List Nat) → List Nat
  | _, [] => []
  | j, p :: r => (if j > 0 then sep else []) ++ (p ++ RJ sep (j + 1) r)
theorem RJ_succ (sep : List Nat) : ∀ (ys : List (List Nat)) (j : Nat), ys ≠ [] → RJ sep (j + 1) ys = sep ++ TL.joinL sep ys
  | [], _, h => absurd rfl h
  | [p], j, _ => by
    show (if j + 1 > 0 then sep else []) ++ (p ++ []) = _
    rw [if_pos (by omega), List.append_nil]
    rfl
  | p :: q :: r, j, _ => by
    show (if j + 1 > 0 then sep else []) ++ (p ++ RJ sep (j + 1 + 1) (q :: r)) = _
    rw [if_pos (by omega), RJ_succ sep (q :: r) (j + 1) (by simp)]
    rfl
theorem RJ_zero (sep : List Nat) (ys : List (List Nat)) : RJ sep 0 ys = TL.joinL sep ys := by
  match ys with
  | [] => rfl
  | [p] =>
    show [] ++ (p ++ []) = p
    simp
  | p :: q :: r =>
    show [] ++ (p ++ RJ sep (0 + 1) (q :: r)) = _
    rw [RJ_succ sep (q :: r) 0 (by simp)]
    rfl
theorem RJ_len (sep : List Nat) (B : Nat) : ∀ (ys : List (List Nat)) (j : Nat), (∀ y ∈ ys, y.length ≤ B) → (RJ sep j ys).length ≤ ys.length * (B + sep.length)
  | [], _, _ => by simp [RJ]
  | p :: r, j, h => by
    have h1 := h p List.mem_cons_self
    have h2 := RJ_len sep B r (j + 1) fun y hy => h y (List.mem_cons_of_mem _ hy)
    show ((if j > 0 then sep else []) ++ (p ++ RJ sep (j + 1) r)).length ≤ (r.length + 1) * _
    have h3 : (if j > 0 then sep else []).length ≤ sep.length := by split <;> simp
    rw [List.length_append, List.length_append, Nat.succ_mul]
    omega
theorem gt_nat (k : Nat) : gtO (.int (k : Nat)) (.int 0) = some (.bool (decide (k > 0))) := by
  rw [gtO_int]
  by_cases h : k > 0
  · rw [decide_eq_true (by omega), decide_eq_true h]
  · rw [decide_eq_false (by omega), decide_eq_false h]
theorem intO_d (c : Prop) [Decidable c] : intO [.bool (decide c)] = some (.int (if c then 1 else 0)) := by
  by_cases h : c
  · rw [decide_eq_true h, if_pos h]; rfl
  · rw [decide_eq_false h, if_neg h]; rfl
theorem rep_S (l : List Nat) (h : l.length ≤ 1000) (c : Prop) [Decidable c] : mulO (.str (S l)) (.int (if c then 1 else 0)) = some (.str (S (if c then l else []))) := by
  by_cases hc : c
  · rw [if_pos hc, if_pos hc, mulO_S1 l h]
  · rw [if_neg hc, if_neg hc, mulO_S0 l h]
end DL

namespace DL
open PySem PySem.Spec PyProof.Rows L2
open SX (S)
/-! ### what stands in the store -/
def HT {α : Type} (P : Sto → Prop) (m : M α) (Q : α → Sto → Prop) : Prop := ∀ s, P s → ∃ a s', m s = .ok a s' ∧ Q a s'
theorem HT.ret {α : Type} {P : Sto → Prop} {Q : α → Sto → Prop} {a : α} (h : ∀ s, P s → Q a s) : HT P (ret a) Q := fun s p => ⟨a, s, rfl, h s p⟩
theorem HT.bnd {α β : Type} {P : Sto → Prop} {R : α → Sto → Prop} {Q : β → Sto → Prop} {m : M α} {f : α → M β} (h : HT P m R) (k : ∀ a, HT (R a) (f a) Q) : HT P (bnd m f) Q := fun s p => by
  obtain ⟨a, s', e, r⟩ := h s p
  obtain ⟨b, s2, e2, q⟩ := k a s' r
  exact ⟨b, s2, by rw [bnd_ok e]; exact e2, q⟩
theorem HT.eq {α : Type} {P : Sto → Prop} {Q : α → Sto → Prop} {m m' : M α} (e : m = m') (h : HT P m' Q) : HT P m Q := e ▸ h
theorem HT.imp {α : Type} {P : Sto → Prop} {Q Q' : α → Sto → Prop} {m : M α} (h : HT P m Q) (i : ∀ a s, Q a s → Q' a s) : HT P m Q' := fun s p => by
  obtain ⟨a, s', e, r⟩ := h s p
  exact ⟨a, s', e, i a s' r⟩
theorem HT.pre {α : Type} {P P' : Sto → Prop} {Q : α → Sto → Prop} {m : M α} (h : HT P m Q) (i : ∀ s, P' s → P s) : HT P' m Q := fun s p => h s (i s p)
theorem HT.ex {α ι : Type} {P : ι → Sto → Prop} {Q : α → Sto → Prop} {m : M α} (h : ∀ i, HT (P i) m Q) : HT (fun s => ∃ i, P i s) m Q := fun s ⟨i, p⟩ => h i s p
theorem getL_bnd {β : Type} {n : Nat} {f : List PyData → M β} {s : Sto} {xs : List PyData} (h : s[n]? = some (.lst xs)) : bnd (getL n) f s = f xs s := bnd_ok (by unfold getL; rw [h])
theorem setS_bnd {β : Type} {n : Nat} {o : Ob} {f : Unit → M β} {s : Sto} (h : n < s.length) : bnd (setS n o) f s = f () (s.set n o) := bnd_ok (by unfold setS; rw [if_pos h])
theorem set_at {s : Sto} {n : Nat} {o : Ob} (h : n < s.length) : (s.set n o)[n]? = some o := List.getElem?_set_self h
structure Hd (n : Nat) (c : Int) (s : Sto) : Prop where
  ex : ∃ a b t : Int, s[n]? = some (.lst [.int a, .int b, .int t]) ∧ 0 ≤ a ∧ 0 ≤ b ∧ b < 2305843009213693952 * 2 ∧ 0 ≤ t ∧ t ≤ c
theorem setO0 (x y z v : PyData) : setO [x, y, z] (.int 0) v = some [v, y, z] := rfl
theorem setO1 (x y z v : PyData) : setO [x, y, z] (.int 1) v = some [x, v, z] := rfl
theorem setO2 (x y z v : PyData) : setO [x, y, z] (.int 2) v = some [x, y, v] := rfl
theorem ixO0 (x y z : PyData) : ixO (.list [x, y, z]) (.int 0) = some x := rfl
theorem ixO1 (x y z : PyData) : ixO (.list [x, y, z]) (.int 1) = some y := rfl
theorem ixO2 (x y z : PyData) : ixO (.list [x, y, z]) (.int 2) = some z := rfl
theorem fmod_bd {i k : Int} (hk : 0 < k) : 0 ≤ i.fmod k ∧ i.fmod k < k := ⟨Int.fmod_nonneg_of_pos i hk, Int.fmod_lt_of_pos i hk⟩
theorem mul_ok {i j : Int} (hi0 : 0 ≤ i) (hi1 : i < 2 ^ 199) (hj0 : 0 ≤ j) (hj1 : j < 2 ^ 199) : mulO (.int i) (.int j) = some (.int (i * j)) := mulO_int (by
  have h1 := intBits_le (a := i) (k := 200) (by omega)
  have h2 := intBits_le (a := j) (k := 200) (by omega)
  omega)
theorem take_ok {n : Nat} {c : Int} {k : Int} (hk : 0 < k) (hk2 : k < 1000000) (hc : c ≤ 1000000) :
    HT (Hd n c) (m_law_take [.r n, .d (.int k)]) (fun w s => ∃ i : Int, w = .d (.int i) ∧ 0 ≤ i ∧ i < k ∧ Hd n (c + 1) s) := by
  rintro s ⟨a, b, t, hs, ha, hb, hb2, ht, htc⟩
  have hn : n < s.length := (List.getElem?_eq_some_iff.mp hs).1
  by_cases hp : 0 < a
  · have e1 : modO (.int a) (.int k) = some (.int (a.fmod k)) := modO_int (by omega)
    have e2 : fdivO (.int a) (.int k) = some (.int (a.fdiv k)) := fdivO_int (by omega) (by omega)
    obtain ⟨f1, f2⟩ := fmod_bd (i := a) hk
    refine ⟨.d (.int (a.fmod k)), s.set n (.lst [.int (a.fdiv k), .int b, .int t]), ?_, _, rfl, f1, f2, ⟨a.fdiv k, b, t, set_at hn, Int.fdiv_nonneg ha (by omega), hb, hb2, ht, by omega⟩⟩
    simp only [m_law_take, mb_law_take, rix, fnM, frL, asW, rsW, toD, toR, cat, andM, orM, notM, ifM, chainM, slM, someI, tru, tb2, ntB, andB, orB, tupM, fn1, itS, itE, itR1, itZ, gives, op2, op1, mth1, mth1L, ret_bnd, lft_some, wD_d, wR_r, asB_b, asI_i, strO_s, if_t, if_f, truO_b, fnM_rt, seqF_nx, seqF_rt, un2_t, a1, a2, a3, asD, asR, asG, bnd_assoc, Bool.not_true, Bool.not_false, itemsD_t, itemsD_l, Int.reduceLT, Int.reduceLE, Int.reduceEq, Int.reduceNe, gt_iff_lt, ge_iff_le, len_t2, len_t3, len_l2, zipO_ss, strO_s, tup_l, tup_t, negO_i, eqO_int, neO_int, ltO_int, leO_int, gtO_int, geO_int, ixO_tup, ixO_lst, at0, at1, at2, if_true, if_false, Bool.false_eq_true, decide_true, decide_false, id_eq, getL_bnd hs, ixO0, decide_eq_true hp, e1, e2, setO0, setS_bnd hn]
    rfl
  · have hn' : ∀ o : Ob, n < (s.set n o).length := fun o => by rw [List.length_set]; exact hn
    generalize hu : t + 1 = u
    have u0 : 0 ≤ u := by omega
    have u1 : u ≤ 1000001 := by omega
    have e0 : addO (.int t) (.int 1) = some (.int u) := by rw [addO_int, hu]
    have m1 : mulO (.int 39373) (.int u) = some (.int (39373 * u)) := mul_ok (by decide) (by decide) u0 (by omega)
    have m2 : mulO (.int u) (.int u) = some (.int (u * u)) := mul_ok u0 (by omega) u0 (by omega)
    have uu0 : 0 ≤ u * u := Int.mul_nonneg u0 u0
    have uu1 : u * u ≤ 1000001 * 1000001 := Int.mul_le_mul u1 u1 u0 (by decide)
    generalize hp1 : b + 39373 * u = p1
    generalize hp2 : 48271 + u * u = p2
    have ad1 : addO (.int b) (.int (39373 * u)) = some (.int p1) := by rw [addO_int, hp1]
    have ad2 : addO (.int 48271) (.int (u * u)) = some (.int p2) := by rw [addO_int, hp2]
    have m3 : mulO (.int p1) (.int p2) = some (.int (p1 * p2)) := mul_ok (by omega) (by omega) (by omega) (by omega)
    have d1 : modO (.int (p1 * p2)) (.int 2305843009213693921) = some (.int ((p1 * p2).fmod 2305843009213693921)) := modO_int (by decide)
    obtain ⟨q0, q1⟩ := fmod_bd (i := p1 * p2) (k := 2305843009213693921) (by decide)
    generalize hq : (p1 * p2).fmod 2305843009213693921 = q at d1 q0 q1
    have d2 : modO (.int q) (.int 1000003) = some (.int (q.fmod 1000003)) := modO_int (by decide)
    obtain ⟨r0, r1⟩ := fmod_bd (i := q) (k := 1000003) (by decide)
    generalize hr : q.fmod 1000003 + 17 = r
    have ad3 : addO (.int (q.fmod 1000003)) (.int 17) = some (.int r) := by rw [addO_int, hr]
    have m4 : mulO (.int q) (.int r) = some (.int (q * r)) := mul_ok q0 (by omega) (by omega) (by omega)
    have d3 : modO (.int (q * r)) (.int 2305843009213693907) = some (.int ((q * r).fmod 2305843009213693907)) := modO_int (by decide)
    obtain ⟨b0, b1⟩ := fmod_bd (i := q * r) (k := 2305843009213693907) (by decide)
    generalize hbb : (q * r).fmod 2305843009213693907 = b' at d3 b0 b1
    have d4 : fdivO (.int b') (.int 131071) = some (.int (b'.fdiv 131071)) := fdivO_int (by decide) (by decide)
    have d5 : modO (.int (b'.fdiv 131071)) (.int k) = some (.int ((b'.fdiv 131071).fmod k)) := modO_int (by omega)
    obtain ⟨f1, f2⟩ := fmod_bd (i := b'.fdiv 131071) hk
    refine ⟨.d (.int ((b'.fdiv 131071).fmod k)), (s.set n (.lst [.int a, .int b, .int u])).set n (.lst [.int a, .int b', .int u]), ?_, _, rfl, f1, f2, ⟨a, b', u, set_at (hn' _), ha, b0, by omega, u0, by omega⟩⟩
    simp only [m_law_take, mb_law_take, rix, fnM, frL, asW, rsW, toD, toR, cat, andM, orM, notM, ifM, chainM, slM, someI, tru, tb2, ntB, andB, orB, tupM, fn1, itS, itE, itR1, itZ, gives, op2, op1, mth1, mth1L, ret_bnd, lft_some, wD_d, wR_r, asB_b, asI_i, strO_s, if_t, if_f, truO_b, fnM_rt, seqF_nx, seqF_rt, un2_t, a1, a2, a3, asD, asR, asG, bnd_assoc, Bool.not_true, Bool.not_false, itemsD_t, itemsD_l, Int.reduceLT, Int.reduceLE, Int.reduceEq, Int.reduceNe, gt_iff_lt, ge_iff_le, len_t2, len_t3, len_l2, zipO_ss, strO_s, tup_l, tup_t, negO_i, eqO_int, neO_int, ltO_int, leO_int, gtO_int, geO_int, ixO_tup, ixO_lst, at0, at1, at2, if_true, if_false, Bool.false_eq_true, decide_true, decide_false, id_eq, getL_bnd hs, ixO0, ixO1, ixO2, decide_eq_false hp, e0, setO0, setO1, setO2, setS_bnd hn, getL_bnd (set_at hn), m1, m2, ad1, ad2, m3, d1, d2, ad3, m4, d3, setS_bnd (hn' _), getL_bnd (set_at (hn' _)), d4, d5]
    rfl
/-! ### the hand -/
theorem powO_int {i j : Int} (h : 2 ≤ i ∧ 1 ≤ j ∧ Builtin.Int.intBits i * j.toNat < 1000000) : powO (.int i) (.int j) = some (.int (i ^ j.toNat)) := by
  show (if _ then _ else _) = _
  rw [if_pos h]
theorem pow1 : powO (.int 10) (.int 18) = some (.int (10 ^ 18)) := powO_int ⟨by decide, by decide, by decide⟩
theorem pow2 : powO (.int 10) (.int 60) = some (.int (10 ^ 60)) := powO_int ⟨by decide, by decide, by decide⟩
theorem pow3 : powO (.int (10 ^ 60)) (.int 17) = some (.int ((10 ^ 60) ^ 17)) := powO_int ⟨by decide, by decide, by
  have : Builtin.Int.intBits ((10 : Int) ^ 60) ≤ 200 := intBits_le (by decide)
  show _ * 17 < _
  omega⟩
theorem hand_body (z p : Int) (hz : 0 ≤ z) (hp0 : 0 ≤ p) (hp : p ≤ 100) : ∃ a b : Int, 0 ≤ a ∧ 0 ≤ b ∧ b < 2305843009213693952 * 2 ∧
    ((bnd (ifM (tb2 geO (ret (.int z)) (op2 powO (ret (.int 10)) (ret (.int 18)))) (op2 modO (ret (.int z)) (op2 powO (op2 powO (ret (.int 10)) (ret (.int 60))) (ret (.int 17)))) (ret (.int 0))) fun v_digits_4 => (gives W.r (bnd (cat (ret v_digits_4) (cat (op2 addO (op2 addO (op2 modO (ret (.int z)) (ret (.int 2305843009213693951))) (op2 mulO (ret (.int 7919)) (ret (.int p)))) (ret (.int 11))) (cat (ret (.int 0)) (ret [])))) (newS Ob.lst))) : M (Fl Unit Unit)) = bnd (newS Ob.lst [.int a, .int b, .int 0]) fun n => ret (.rt (.r n))) := by
  have m1 : mulO (.int 7919) (.int p) = some (.int (7919 * p)) := mul_ok (by decide) (by decide) hp0 (by omega)
  have d1 : modO (.int z) (.int 2305843009213693951) = some (.int (z.fmod 2305843009213693951)) := modO_int (by decide)
  obtain ⟨r0, r1⟩ := fmod_bd (i := z) (k := 2305843009213693951) (by decide)
  have d2 : modO (.int z) (.int ((10 ^ 60) ^ 17)) = some (.int (z.fmod ((10 ^ 60) ^ 17))) := modO_int (by decide)
  obtain ⟨s0, s1⟩ := fmod_bd (i := z) (k := (10 ^ 60) ^ 17) (by decide)
  generalize z.fmod ((10 ^ 60) ^ 17) = zz at d2 s0 s1
  by_cases h : 10 ^ 18 ≤ z
  · refine ⟨zz, z.fmod 2305843009213693951 + 7919 * p + 11, s0, by omega, by omega, ?_⟩
    have g : geO (.int z) (.int (10 ^ 18)) = some (.bool true) := by rw [geO_int, decide_eq_true h]
    simp only [ifM, tb2, op2, ret_bnd, lft_some, pow1, pow2, pow3, g, asB_b, if_t, if_true, d1, d2, m1, addO_int, cat, gives]
  · refine ⟨0, z.fmod 2305843009213693951 + 7919 * p + 11, by decide, by omega, by omega, ?_⟩
    have g : geO (.int z) (.int (10 ^ 18)) = some (.bool false) := by rw [geO_int, decide_eq_false h]
    simp only [ifM, tb2, op2, ret_bnd, lft_some, pow1, pow2, pow3, g, asB_b, if_f, if_false, Bool.false_eq_true, d1, d2, m1, addO_int, cat, gives]
theorem hand_ok (ns : List Int) (p : Nat) (hp : p ≤ 100) : HT (fun _ => True) (m_law_hand [.d (.list (ns.map .int)), .d (.int p)]) (fun w s => ∃ n, w = .r n ∧ Hd n 0 s) := by
  have fin : ∀ z : Int, 0 ≤ z → m_law_hand [.d (.list (ns.map .int)), .d (.int p)] = fnM (bnd (ifM (tb2 geO (ret (.int z)) (op2 powO (ret (.int 10)) (ret (.int 18)))) (op2 modO (ret (.int z)) (op2 powO (op2 powO (ret (.int 10)) (ret (.int 60))) (ret (.int 17)))) (ret (.int 0))) fun v_digits_4 => (gives W.r (bnd (cat (ret v_digits_4) (cat (op2 addO (op2 addO (op2 modO (ret (.int z)) (ret (.int 2305843009213693951))) (op2 mulO (ret (.int 7919)) (ret (.int p)))) (ret (.int 11))) (cat (ret (.int 0)) (ret [])))) (newS Ob.lst)))) →
      HT (fun _ => True) (m_law_hand [.d (.list (ns.map .int)), .d (.int p)]) (fun w s => ∃ n, w = .r n ∧ Hd n 0 s) := by
    intro z hz e s _
    obtain ⟨a, b, ha, hb, hb2, e2⟩ := hand_body z p hz (by omega) (by omega)
    rw [e, e2]
    refine ⟨.r s.length, s ++ [.lst [.int a, .int b, .int 0]], rfl, s.length, rfl, a, b, 0, ?_, ha, hb, hb2, by decide, by decide⟩
    simp
  have l0 : lenO [PyData.list (ns.map .int)] = some (.int ns.length) := by rw [lenO_lst, List.length_map]
  by_cases h : p < ns.length
  · have e1 : ltO (.int p) (.int ns.length) = some (.bool true) := by rw [ltO_int, decide_eq_true (by omega)]
    have e2 : ixO (.list (ns.map .int)) (.int p) = some (.int ns[p]) := by
      rw [ixO_lst, atI_nat, List.getElem?_map, List.getElem?_eq_getElem h]
      rfl
    refine fin (if ns[p] < 0 then -ns[p] else ns[p]) (by split <;> omega) ?_
    have e3 : absO [.int ns[p]] = some (.int (if ns[p] < 0 then -ns[p] else ns[p])) := rfl
    show fnM (seqF (bnd (tb2 ltO (ret (.int p)) (fn1 lenO (ret (.list (ns.map .int))))) _) _) = _
    rw [show tb2 ltO (ret (.int p)) (fn1 lenO (ret (.list (ns.map .int)))) = ret true from by simp only [tb2, op2, fn1, ret_bnd, l0, lft_some, e1, asB_b]]
    show fnM (seqF (bnd (fn1 absO (op2 ixO (ret (.list (ns.map .int))) (ret (.int p)))) _) _) = _
    rw [show fn1 absO (op2 ixO (ret (.list (ns.map .int))) (ret (.int p))) = ret (.int (if ns[p] < 0 then -ns[p] else ns[p])) from by simp only [op2, fn1, ret_bnd, e2, lft_some, e3]]
    rfl
  · have e1 : ltO (.int p) (.int ns.length) = some (.bool false) := by rw [ltO_int, decide_eq_false (by omega)]
    refine fin 0 (by decide) ?_
    show fnM (seqF (bnd (tb2 ltO (ret (.int p)) (fn1 lenO (ret (.list (ns.map .int))))) _) _) = _
    rw [show tb2 ltO (ret (.int p)) (fn1 lenO (ret (.list (ns.map .int)))) = ret false from by simp only [tb2, op2, fn1, ret_bnd, l0, lft_some, e1, asB_b]]
    rfl
end DL

namespace DL
open PySem PySem.Spec PyProof.Rows L2
open SX (S)
theorem Hd.mono {n : Nat} {c c' : Int} {s : Sto} (h : Hd n c s) (l : c ≤ c') : Hd n c' s := by
  obtain ⟨a, b, t, h1, h2, h3, h4, h5, h6⟩ := h
  exact ⟨a, b, t, h1, h2, h3, h4, h5, by omega⟩
theorem HT.lift {α : Type} {P : Sto → Prop} {Q : α → Sto → Prop} {o : Option α} {a : α} (e : o = some a) (h : ∀ s, P s → Q a s) : HT P (lft o) Q := by
  rw [e]
  exact HT.ret h
theorem HT.and {α : Type} {A : Prop} {P : Sto → Prop} {Q : α → Sto → Prop} {m : M α} (h : A → HT P m Q) : HT (fun s => A ∧ P s) m Q := fun s ⟨a, p⟩ => h a s p
/-- the items of a list, one after another -/
theorem HT.comp {G : PyData → Prop} (f : PyData → M PyData) (I : Nat → Sto → Prop) : ∀ (xs : List PyData) (i : Nat), (∀ x ∈ xs, ∀ j, i ≤ j → j < i + xs.length → HT (I j) (f x) fun d s => G d ∧ I (j + 1) s) →
    HT (I i) (compL (fun x => noExc (DL.bnd (DL.ret true) fun b => if b = true then DL.bnd (f x) fun y => DL.ret (some y) else DL.ret none)) xs) fun ds s => ds.length = xs.length ∧ (∀ d ∈ ds, G d) ∧ I (i + xs.length) s
  | [], i, _ => HT.ret fun s p => ⟨rfl, by simp, p⟩
  | x :: r, i, h => by
    intro s p
    obtain ⟨d, s1, e1, g, p1⟩ := h x List.mem_cons_self i (Nat.le_refl _) (by simp) s p
    obtain ⟨ds, s2, e2, l, gs, p2⟩ := HT.comp f I r (i + 1) (fun y hy j j1 j2 => h y (List.mem_cons_of_mem _ hy) j (by omega) (by simp; omega)) s1 p1
    have e3 : noExc (DL.bnd (DL.ret true) fun b => if b = true then DL.bnd (f x) fun y => DL.ret (some y) else DL.ret none) s = .ok (some d) s1 := noExc_ok (by
      show DL.bnd (f x) _ s = _
      rw [bnd_ok e1]
      rfl)
    refine ⟨d :: ds, s2, ?_, by simp [l], fun y hy => ?_, ?_⟩
    · rw [compL, bnd_ok e3, bnd_ok e2]
      rfl
    · rcases List.mem_cons.mp hy with rfl | hy
      · exact g
      · exact gs y hy
    · rw [List.length_cons, show i + (r.length + 1) = i + 1 + r.length by omega]
      exact p2
theorem HT.lc1 {G : PyData → Prop} {mi : M (List PyData)} {f : PyData → M PyData} {P : Sto → Prop} {I : Nat → Sto → Prop} {N : Nat} (hN : N ≤ 1000000) (hi : HT P mi fun xs s => xs.length ≤ N ∧ I 0 s) (h : ∀ x i, i < N → HT (I i) (f x) fun d s => G d ∧ I (i + 1) s) :
    HT P (DL.lc1 mi f) fun ds s => ds.length ≤ N ∧ (∀ d ∈ ds, G d) ∧ I ds.length s := by
  have sl := sizeLine_eq
  refine HT.bnd hi fun xs => HT.and fun hl => ?_
  show HT _ (filC (fun _ => DL.ret true) f xs) _
  unfold filC DL.comp
  rw [if_pos (by omega)]
  refine (HT.comp f I xs 0 fun x _ i _ hi => h x i (by omega)).imp fun ds s ⟨h1, h2, h3⟩ => ⟨by omega, h2, ?_⟩
  rw [h1, Nat.zero_add] at *
  exact h3
theorem HT.loop {τ l : Type} (f : PyData → τ → M (Fl τ τ)) (I : Nat → τ → Sto → Prop) : ∀ (xs : List PyData) (i : Nat) (t : τ), (∀ x ∈ xs, ∀ j t, i ≤ j → j < i + xs.length → HT (I j t) (f x t) fun fl s => ∃ t', fl = .nx t' ∧ I (j + 1) t' s) →
    HT (I i t) (forL (l := l) f xs t) fun fl s => ∃ t', fl = .nx t' ∧ I (i + xs.length) t' s
  | [], i, t, _ => HT.ret fun s p => ⟨t, rfl, p⟩
  | x :: r, i, t, h => by
    intro s p
    obtain ⟨fl, s1, e1, t1, rfl, p1⟩ := h x List.mem_cons_self i t (Nat.le_refl _) (by simp) s p
    obtain ⟨fl, s2, e2, t2, rfl, p2⟩ := HT.loop (l := l) f I r (i + 1) t1 (fun y hy j t j1 j2 => h y (List.mem_cons_of_mem _ hy) j t (by omega) (by simp; omega)) s1 p1
    refine ⟨.nx t2, s2, ?_, t2, rfl, ?_⟩
    · rw [forL, bnd_ok e1]
      exact e2
    · rw [List.length_cons, show i + (r.length + 1) = i + 1 + r.length by omega]
      exact p2
/-! ### what the law draws -/
def takeM (n : Nat) (k : PyData) : M PyData := toD (DL.bnd (cat (rsW (DL.ret n)) (cat (asW (DL.ret k)) (DL.ret []))) m_law_take)
theorem takeM_ok {n : Nat} {c : Int} {k : Int} (hk : 0 < k) (hk2 : k < 1000000) (hc : c ≤ 1000000) : HT (Hd n c) (takeM n (.int k)) fun d s => (∃ i : Nat, d = .int i ∧ (i : Int) < k) ∧ Hd n (c + 1) s := by
  refine HT.bnd (take_ok hk hk2 hc) fun w => ?_
  rintro s ⟨i, rfl, i0, i1, h⟩
  exact ⟨.int i, s, rfl, ⟨i.toNat, by rw [Int.toNat_of_nonneg i0], by omega⟩, h⟩
theorem upto_len (lo : Int) (n : Nat) : (upto lo n).length = n := by
  unfold upto
  rw [List.length_map, List.length_range]
theorem range_ok {P : Sto → Prop} {m : M PyData} {N : Nat} {Q : Sto → Prop} (hN : N ≤ 1000000) (h : HT P m fun d s => (∃ i : Nat, d = .int i ∧ i ≤ N) ∧ Q s) : HT P (itR1 m) fun xs s => xs.length ≤ N ∧ Q s := by
  refine HT.bnd h fun d => HT.and fun ⟨i, e, hi⟩ => ?_
  subst e
  have e : range1 (.int (i : Nat)) = some (upto 0 i) := by
    have e0 : range1 (.int (i : Nat)) = if inR (i : Nat) = true then some (upto 0 ((i : Nat) : Int).toNat) else none := rfl
    rw [e0, if_pos (by unfold inR; rw [Bool.and_eq_true, decide_eq_true_eq, decide_eq_true_eq]; omega)]
    rw [Int.toNat_natCast]
  exact HT.lift e fun s p => ⟨by rw [upto_len]; omega, p⟩
def az (l : List Nat) : Prop := ∀ c ∈ l, 97 ≤ c ∧ c ≤ 122
theorem ixO_str {z : Str} {i : Int} (h : z.length ≤ sizeLine) : ixO (.str z) (.int i) = (atI z.cps.toList i).map fun c => .str ⟨#[c]⟩ := by
  show (if _ then _ else _) = _
  rw [if_pos h]
theorem abc_at {i : Nat} (h : i < 26) : ixO (.str "abcdefghijklmnopqrstuvwxyz") (.int i) = some (.str (S [97 + i])) := by
  rw [s_abc, ixO_str (S_len_le (by simp)), atI_nat]
  show (((List.range 26).map (· + 97))[i]?).map _ = _
  rw [List.getElem?_map, List.getElem?_range h]
  show some (PyData.str (S [i + 97])) = _
  rw [Nat.add_comm]
theorem letter_ok {n : Nat} {c : Int} (hc : c ≤ 1000000) : HT (Hd n c) (op2 ixO (DL.ret (.str "abcdefghijklmnopqrstuvwxyz")) (takeM n (.int 26))) fun d s => (∃ ch, d = sD [ch] ∧ 97 ≤ ch ∧ ch ≤ 122) ∧ Hd n (c + 1) s := by
  show HT _ (DL.bnd (takeM n (.int 26)) fun y => lft (ixO (.str "abcdefghijklmnopqrstuvwxyz") y)) _
  refine HT.bnd (takeM_ok (by decide) (by decide) hc) fun d => HT.and fun ⟨i, e, hi⟩ => ?_
  subst e
  exact HT.lift (abc_at (by omega)) fun s p => ⟨⟨97 + i, rfl, by omega, by omega⟩, p⟩
theorem ones : ∀ {ds : List PyData}, (∀ d ∈ ds, ∃ ch, d = sD [ch] ∧ 97 ≤ ch ∧ ch ≤ 122) → ∃ l : List Nat, ds = (l.map fun ch => sD [ch]) ∧ az l
  | [], _ => ⟨[], rfl, fun c h => by simp at h⟩
  | d :: r, h => by
    obtain ⟨ch, rfl, h1⟩ := h d List.mem_cons_self
    obtain ⟨l, rfl, h2⟩ := ones fun x hx => h x (List.mem_cons_of_mem _ hx)
    exact ⟨ch :: l, rfl, fun c hc => by
      rcases List.mem_cons.mp hc with rfl | hc
      · exact h1
      · exact h2 c hc⟩
theorem join_ones : ∀ l : List Nat, TL.joinL [] (l.map fun ch => [ch]) = l
  | [] => rfl
  | [c] => rfl
  | c :: d :: r => by
    show [c] ++ ([] ++ TL.joinL [] ((d :: r).map fun ch => [ch])) = _
    rw [join_ones (d :: r)]
    rfl
/-- a text of fewer than eight letters -/
theorem some_text {n : Nat} {c : Int} (hc : c ≤ 999000) : HT (Hd n c) (mth1 joinO (DL.ret (.str "")) (frL (DL.lc1 (itR1 (takeM n (.int 8))) (fun _ => op2 ixO (DL.ret (.str "abcdefghijklmnopqrstuvwxyz")) (takeM n (.int 26)))))) fun d s => (∃ l : List Nat, d = sD l ∧ l.length ≤ 7 ∧ az l) ∧ Hd n (c + 8) s := by
  show HT _ (DL.bnd (frL (DL.lc1 _ _)) fun y => lft (joinO "" y)) _
  refine HT.bnd (R := fun d s => (∃ l : List Nat, d = .list (l.map fun ch => sD [ch]) ∧ l.length ≤ 7 ∧ az l) ∧ Hd n (c + 8) s) ?_ fun d => HT.and fun ⟨l, e, hl, hz⟩ => ?_
  · refine HT.bnd (HT.lc1 (G := fun d => ∃ ch, d = sD [ch] ∧ 97 ≤ ch ∧ ch ≤ 122) (I := fun i s => Hd n (c + 1 + (i : Int)) s) (N := 7) (by decide)
      (range_ok (N := 7) (by decide) ((takeM_ok (n := n) (c := c) (k := 8) (by decide) (by decide) (by omega)).imp fun d s ⟨⟨i, e, hi⟩, h⟩ => ⟨⟨i, e, by omega⟩, by simpa using h⟩))
      (fun x i hi => (letter_ok (by omega)).imp fun d s ⟨h1, h2⟩ => ⟨h1, h2.mono (by omega)⟩)) fun ds => ?_
    rintro s ⟨hl, hg, h⟩
    obtain ⟨l, rfl, hz⟩ := ones hg
    exact ⟨_, s, rfl, ⟨l, rfl, by simpa using hl, hz⟩, h.mono (by omega)⟩
  · subst e
    have e : joinO ("" : Str) (.list (l.map fun ch => sD [ch])) = some (sD l) := by
      have := joinO_S (sep := []) (ys := l.map fun ch => [ch]) (by
        rw [List.map_map]
        have := sum_le (fun _ : Nat => 1) 1 l fun _ _ => Nat.le_refl _
        simp only [List.length_nil, Nat.mul_zero, Nat.add_zero]
        exact Nat.le_trans this (by omega))
      rw [List.map_map, join_ones] at this
      rw [S_nil]
      exact this
    exact HT.lift e fun s p => ⟨⟨l, rfl, hl, hz⟩, p⟩
/-! ### the boats -/
theorem sIx_n (n d k : Nat) : HT.sIx n d (some (k : Int)) = min k n := by
  show (if (k : Int) < 0 then ((k : Int) + (n : Int)).toNat else min (k : Int).toNat n) = min k n
  rw [if_neg (by omega), Int.toNat_natCast]
theorem S_take (l : List Nat) (p : Nat) : cutS (S l) none (some (p : Int)) = S (l.take p) := by
  unfold cutS
  have h2 : HT.sIx (S l).length (S l).length (some (p : Int)) = min p l.length := by rw [sIx_n, SX.S_len]
  have h1 : HT.sIx (S l).length 0 none = 0 := rfl
  rw [h1, h2, List.drop_zero, Nat.sub_zero]
  show S (l.take (min p l.length)) = _
  congr 1
  by_cases h : p ≤ l.length
  · rw [Nat.min_eq_left h]
  · rw [Nat.min_eq_right (by omega), List.take_of_length_le (Nat.le_refl _), List.take_of_length_le (by omega)]
theorem S_drop (l : List Nat) (p : Nat) : cutS (S l) (some (p : Int)) none = S (l.drop p) := by
  unfold cutS
  have h2 : HT.sIx (S l).length (S l).length none = l.length := by rw [← SX.S_len]; rfl
  have h1 : HT.sIx (S l).length 0 (some (p : Int)) = min p l.length := by rw [sIx_n, SX.S_len]
  rw [h1, h2]
  show S ((l.drop (min p l.length)).take (l.length - min p l.length)) = _
  by_cases h : p ≤ l.length
  · rw [Nat.min_eq_left h, List.take_of_length_le (by rw [List.length_drop]; omega)]
  · rw [Nat.min_eq_right (by omega), List.drop_of_length_le (Nat.le_refl _), List.drop_of_length_le (by omega), List.take_nil]
theorem name_eq {l : List Nat} (hl : l.length ≤ 7) (ch p : Nat) : op2 addO (op2 addO (slM (DL.ret (sD l)) (DL.ret none) (someI (DL.ret (.int p)))) (DL.ret (sD [ch]))) (slM (DL.ret (sD l)) (someI (DL.ret (.int p))) (DL.ret none)) = DL.ret (sD (l.take p ++ [ch] ++ l.drop p)) := by
  have e1 : slO (sD l) none (some (p : Int)) = some (sD (l.take p)) := by rw [sl_str1 (S_len_le (by omega)), S_take]
  have e2 : slO (sD l) (some (p : Int)) none = some (sD (l.drop p)) := by rw [sl_str1 (S_len_le (by omega)), S_drop]
  have l1 : (l.take p).length ≤ 7 := by rw [List.length_take]; omega
  have l2 : (l.drop p).length ≤ 7 := by rw [List.length_drop]; omega
  have e3 : addO (sD (l.take p)) (sD [ch]) = some (sD (l.take p ++ [ch])) := addO_S (by simp only [List.length_cons, List.length_nil]; omega)
  have e4 : addO (sD (l.take p ++ [ch])) (sD (l.drop p)) = some (sD (l.take p ++ [ch] ++ l.drop p)) := addO_S (by rw [List.length_append]; simp only [List.length_cons, List.length_nil]; omega)
  simp only [op2, slM, someI, ret_bnd, asI_i, e1, e2, lft_some, e3, e4]
theorem name_bo {l : List Nat} (hl : l.length ≤ 7) (hz : az l) {ch : Nat} (hc : 97 ≤ ch ∧ ch ≤ 122) (p : Nat) : Bo (l.take p ++ [ch] ++ l.drop p) := by
  refine ⟨by simp, ?_, fun c h => ?_⟩
  · have : (l.take p).length + (l.drop p).length = l.length := by rw [List.length_take, List.length_drop]; omega
    rw [List.length_append, List.length_append]
    simp only [List.length_cons, List.length_nil]
    omega
  · rw [List.mem_append, List.mem_append, List.mem_singleton] at h
    rcases h with (h | h) | h
    · exact hz c (List.mem_of_mem_take h)
    · rw [h]; exact hc
    · exact hz c (List.mem_of_mem_drop h)
theorem eight_bo {ch : Nat} (hc : 97 ≤ ch ∧ ch ≤ 122) : Bo (List.replicate 8 ch) := ⟨by simp [List.replicate], by simp, fun c h => by rw [List.eq_of_mem_replicate h]; exact hc⟩
theorem in_strs (w : List Nat) (bs : List (List Nat)) : ∃ b, inO (sD w) (.list (bs.map sD)) = some (.bool b) := by
  refine ⟨(bs.map sD).any fun y => PyData.eqv y (sD w), ?_⟩
  show (if plainL (bs.map sD) (sD w) = true then some (PyData.bool ((bs.map sD).any fun y => PyData.eqv y (sD w))) else none) = _
  rw [if_pos]
  unfold plainL
  rw [plain_map _ _ fun _ _ => rfl]
  have := depth_map sD 0 bs fun _ _ => Nat.le_refl _
  simp only [Bool.true_and, Bool.and_eq_true, decide_eq_true_eq]
  exact ⟨rfl, by omega⟩
def takeM' (n : Nat) (m : M PyData) : M PyData := toD (DL.bnd (cat (rsW (DL.ret n)) (cat (asW m) (DL.ret []))) m_law_take)
/-- how a boat is drawn -/
def bodyBL (n : Nat) (letters first turn alike base place : PyData) : PyData → List PyData → M (Fl (List PyData) (List PyData)) := fun v_k_10 v_t_9 => (DL.bnd (op2 ixO (DL.ret letters) (op2 modO (op2 addO (DL.ret first) (op2 mulO (DL.ret v_k_10) (DL.ret turn))) (DL.ret (.int 26)))) fun v_own_11 => (DL.bnd (op2 addO (op2 addO (slM (DL.ret base) (DL.ret none) (someI (DL.ret place))) (DL.ret v_own_11)) (slM (DL.ret base) (someI (DL.ret place)) (DL.ret none))) fun v_name_12 => (seqF (DL.bnd (tb2 eqO (DL.ret alike) (DL.ret (.int 0))) fun k => if k = true then (DL.bnd (mth1 joinO (DL.ret (.str "")) (frL (DL.lc1 (itR1 (takeM n (.int 8))) (fun v_j_14 => (op2 ixO (DL.ret letters) (takeM n (.int 26))))))) fun v_text_here_15 => (DL.bnd (takeM' n (op2 addO (fn1 lenO (DL.ret v_text_here_15)) (DL.ret (.int 1)))) fun v_at_16 => (DL.bnd (op2 addO (op2 addO (slM (DL.ret v_text_here_15) (DL.ret none) (someI (DL.ret v_at_16))) (DL.ret v_own_11)) (slM (DL.ret v_text_here_15) (someI (DL.ret v_at_16)) (DL.ret none))) fun v_name_17 => (DL.ret (.nx v_name_17))))) else (DL.ret (.nx v_name_12))) fun (v_t_13 : PyData) => (DL.bnd (ifM (tb2 inO (DL.ret v_t_13) (DL.ret (obD (.lst v_t_9)))) (op2 mulO (DL.ret v_own_11) (DL.ret (.int 8))) (DL.ret v_t_13)) fun v_item_18 => short v_t_9 (DL.ret (.nx (v_t_9 ++ [v_item_18])))))))
def bodyB (n : Nat) (first turn alike base place : PyData) : PyData → List PyData → M (Fl (List PyData) (List PyData)) := bodyBL n (.str "abcdefghijklmnopqrstuvwxyz") first turn alike base place
theorem place_ok {n : Nat} {c : Int} {l : List Nat} (hl : l.length ≤ 7) (hc : c ≤ 1000000) : HT (Hd n c) (takeM' n (op2 addO (fn1 lenO (DL.ret (sD l))) (DL.ret (.int 1)))) fun d s => (∃ p : Nat, d = .int p) ∧ Hd n (c + 1) s := by
  have e : takeM' n (op2 addO (fn1 lenO (DL.ret (sD l))) (DL.ret (.int 1))) = takeM n (.int (l.length + 1)) := by
    have e1 : lenO [sD l] = some (.int l.length) := by rw [lenO_str (S_len_le (by omega)), SX.S_len]
    simp only [takeM', takeM, op2, fn1, ret_bnd, e1, lft_some, addO_int]
  rw [e]
  exact (takeM_ok (by omega) (by omega) hc).imp fun d s ⟨⟨i, e, _⟩, h⟩ => ⟨⟨i, e⟩, h⟩
theorem name_ok {n : Nat} {c : Int} {l : List Nat} (hl : l.length ≤ 7) (hz : az l) {ch : Nat} (hch : 97 ≤ ch ∧ ch ≤ 122) (p a : Nat) (hc : c ≤ 900000) :
    HT (Hd n c) (DL.bnd (op2 addO (op2 addO (slM (DL.ret (sD l)) (DL.ret none) (someI (DL.ret (.int p)))) (DL.ret (sD [ch]))) (slM (DL.ret (sD l)) (someI (DL.ret (.int p))) (DL.ret none))) fun v_name_12 => (DL.bnd (tb2 eqO (DL.ret (.int a)) (DL.ret (.int 0))) fun k => if k = true then (DL.bnd (mth1 joinO (DL.ret (.str "")) (frL (DL.lc1 (itR1 (takeM n (.int 8))) (fun v_j_14 => (op2 ixO (DL.ret (.str "abcdefghijklmnopqrstuvwxyz")) (takeM n (.int 26))))))) fun v_text_here_15 => (DL.bnd (takeM' n (op2 addO (fn1 lenO (DL.ret v_text_here_15)) (DL.ret (.int 1)))) fun v_at_16 => (DL.bnd (op2 addO (op2 addO (slM (DL.ret v_text_here_15) (DL.ret none) (someI (DL.ret v_at_16))) (DL.ret (sD [ch]))) (slM (DL.ret v_text_here_15) (someI (DL.ret v_at_16)) (DL.ret none))) fun v_name_17 => (DL.ret (.nx v_name_17 : Fl PyData (List PyData)))))) else (DL.ret (.nx v_name_12))))
      fun fl s => ∃ b, fl = .nx (sD b) ∧ Bo b ∧ Hd n (c + 10) s := by
  rw [name_eq hl, ret_bnd]
  show HT _ (DL.bnd (tb2 eqO (DL.ret (.int a)) (DL.ret (.int 0))) _) _
  rw [show tb2 eqO (DL.ret (.int (a : Int))) (DL.ret (.int 0)) = DL.ret (decide ((a : Int) = 0)) from by simp only [tb2, op2, ret_bnd, eqO_int, lft_some, asB_b]]
  show HT _ (if decide ((a : Int) = 0) = true then _ else _) _
  split
  · refine HT.bnd (some_text (by omega)) fun d => HT.and fun ⟨l2, e, hl2, hz2⟩ => ?_
    subst e
    refine HT.bnd (place_ok hl2 (by omega)) fun d => HT.and fun ⟨q, e⟩ => ?_
    subst e
    rw [name_eq hl2]
    exact HT.ret fun s h => ⟨_, rfl, name_bo hl2 hz2 hch q, h.mono (by omega)⟩
  · exact HT.ret fun s h => ⟨_, rfl, name_bo hl hz hch p, h.mono (by omega)⟩
theorem bodyB_ok {n : Nat} {c : Int} {l : List Nat} (hl : l.length ≤ 7) (hz : az l) (f u a p : Nat) (hf : f < 26) (hu : u < 26) (k : Nat) (hk : k ≤ 100) (bs : List (List Nat)) (hb : ∀ b ∈ bs, Bo b) (hbl : bs.length ≤ 100) (hc : c ≤ 900000) :
    HT (Hd n c) (bodyB n (.int f) (.int u) (.int a) (sD l) (.int p) (.int k) (bs.map sD)) fun fl s => ∃ b, fl = .nx ((bs ++ [b]).map sD) ∧ Bo b ∧ Hd n (c + 10) s := by
  unfold bodyB bodyBL
  have m1 : mulO (.int (k : Int)) (.int (u : Int)) = some (.int ((k : Int) * u)) := mul_ok (by omega) (by omega) (by omega) (by omega)
  have d1 : modO (.int ((f : Int) + (k : Int) * u)) (.int 26) = some (.int (((f : Int) + (k : Int) * u).fmod 26)) := modO_int (by decide)
  obtain ⟨r0, r1⟩ := fmod_bd (i := (f : Int) + (k : Int) * u) (k := 26) (by decide)
  obtain ⟨r, hr⟩ := Int.eq_ofNat_of_zero_le r0
  have e1 : op2 ixO (DL.ret (.str "abcdefghijklmnopqrstuvwxyz")) (op2 modO (op2 addO (DL.ret (.int (f : Int))) (op2 mulO (DL.ret (.int (k : Int))) (DL.ret (.int (u : Int))))) (DL.ret (.int 26))) = DL.ret (sD [97 + r]) := by
    have e2 : ixO (.str "abcdefghijklmnopqrstuvwxyz") (.int (((f : Int) + (k : Int) * u).fmod 26)) = some (sD [97 + r]) := by
      rw [hr]
      exact abc_at (by omega)
    simp only [op2, ret_bnd, m1, lft_some, addO_int, d1, e2]
  rw [e1, ret_bnd]
  have hch : 97 ≤ 97 + r ∧ 97 + r ≤ 122 := by omega
  intro s hs
  obtain ⟨fl, s1, e3, b, rfl, hb1, h1⟩ := name_ok hl hz hch p a hc s hs
  obtain ⟨bb, e4⟩ := in_strs b bs
  have sl := sizeLine_eq
  have fin : ∀ it : List Nat, (short (bs.map sD) (DL.ret (.nx (bs.map sD ++ [sD it]))) : M (Fl (List PyData) (List PyData))) = DL.ret (.nx ((bs ++ [it]).map sD)) := fun it => by
    unfold short
    rw [if_pos (by rw [List.length_map]; omega), List.map_append]
    rfl
  have e6 : mulO (sD [97 + r]) (.int 8) = some (sD (List.replicate 8 (97 + r))) := mulO_S8 _
  refine ⟨.nx ((bs ++ [if bb = true then List.replicate 8 (97 + r) else b]).map sD), s1, ?_, _, rfl, ?_, h1⟩
  · have key : ∀ (M1 : M (Fl PyData (List PyData))) (F : PyData → M (Fl (List PyData) (List PyData))), M1 s = .ok (.nx (sD b)) s1 → seqF M1 F s = F (sD b) s1 := fun M1 F e => by unfold seqF; rw [bnd_ok e]
    have e5 : ifM (tb2 inO (DL.ret (sD b)) (DL.ret (obD (.lst (bs.map sD))))) (op2 mulO (DL.ret (sD [97 + r])) (DL.ret (.int 8))) (DL.ret (sD b)) = DL.ret (sD (if bb = true then List.replicate 8 (97 + r) else b)) := by
      have e7 : inO (sD b) (obD (.lst (bs.map sD))) = some (.bool bb) := e4
      cases bb with
      | true => simp only [ifM, tb2, op2, ret_bnd, e7, lft_some, asB_b, if_t, if_true, e6]
      | false => simp only [ifM, tb2, op2, ret_bnd, e7, lft_some, asB_b, if_f, if_false, Bool.false_eq_true]
    rw [name_eq hl, ret_bnd] at e3 ⊢
    rw [key _ _ e3, e5, ret_bnd, fin]
    rfl
  · cases bb
    · exact hb1
    · exact eight_bo hch
theorem HT.fn {P : Sto → Prop} {Q : W → Sto → Prop} {m : M (Fl Unit Unit)} (h : HT P m fun fl s => ∃ w, fl = .rt w ∧ Q w s) : HT P (fnM m) Q := fun s p => by
  obtain ⟨fl, s1, e, w, rfl, q⟩ := h s p
  exact ⟨w, s1, by unfold fnM; rw [bnd_ok e]; rfl, q⟩
theorem HT.seq {υ τ l : Type} {P : Sto → Prop} {R : υ → Sto → Prop} {Q : Fl τ l → Sto → Prop} {m : M (Fl υ l)} {f : υ → M (Fl τ l)} (h : HT P m fun fl s => ∃ t, fl = .nx t ∧ R t s) (k : ∀ t, HT (R t) (f t) Q) : HT P (seqF m f) Q := fun s p => by
  obtain ⟨fl, s1, e, t, rfl, q⟩ := h s p
  obtain ⟨b, s2, e2, q2⟩ := k t s1 q
  exact ⟨b, s2, by unfold seqF; rw [bnd_ok e]; exact e2, q2⟩
theorem HT.gives {τ l : Type} {P : Sto → Prop} {Q : PyData → Sto → Prop} {m : M PyData} (h : HT P m Q) : HT P (DL.gives W.d m : M (Fl τ l)) fun fl s => ∃ w, fl = .rt w ∧ ∃ d, w = .d d ∧ Q d s :=
  HT.bnd h fun d => HT.ret fun s q => ⟨_, rfl, d, rfl, q⟩
def words : List (List Nat) := [[100, 114, 111, 112], [116, 111, 117, 99, 104], [110, 111, 110, 101], [115, 111, 109, 101], [100], [117], [116], [111]]
theorem words_bo : ∀ b ∈ words, Bo b := by
  intro b hb
  unfold words at hb
  simp only [List.mem_cons, List.not_mem_nil, or_false] at hb
  have : ∀ b : List Nat, b ≠ [] → b.length ≤ 8 → (b.all fun c => decide (97 ≤ c ∧ c ≤ 122)) = true → Bo b := fun b h1 h2 h3 => ⟨h1, h2, fun c hc => of_decide_eq_true (List.all_eq_true.mp h3 c hc)⟩
  rcases hb with rfl | rfl | rfl | rfl | rfl | rfl | rfl | rfl <;> exact this _ (by decide) (by decide) (by decide)
def wordsM : M (List PyData) := (cat (DL.ret (.str "drop")) (cat (DL.ret (.str "touch")) (cat (DL.ret (.str "none")) (cat (DL.ret (.str "some")) (cat (DL.ret (.str "d")) (cat (DL.ret (.str "u")) (cat (DL.ret (.str "t")) (cat (DL.ret (.str "o")) (DL.ret [])))))))))
theorem wordsM_eq : frL wordsM = DL.ret (.list (words.map sD)) := by rfl
def turnsM : M (List PyData) := (cat (DL.ret (.int 1)) (cat (DL.ret (.int 3)) (cat (DL.ret (.int 5)) (cat (DL.ret (.int 7)) (cat (DL.ret (.int 9)) (cat (DL.ret (.int 11)) (cat (DL.ret (.int 15)) (cat (DL.ret (.int 17)) (cat (DL.ret (.int 19)) (cat (DL.ret (.int 21)) (cat (DL.ret (.int 23)) (cat (DL.ret (.int 25)) (DL.ret [])))))))))))))
theorem turnsM_eq : frL turnsM = DL.ret (.list (([1, 3, 5, 7, 9, 11, 15, 17, 19, 21, 23, 25] : List Nat).map fun (k : Nat) => PyData.int (k : Int))) := by rfl
theorem turns_lt : ∀ k ∈ ([1, 3, 5, 7, 9, 11, 15, 17, 19, 21, 23, 25] : List Nat), k < 26 := by decide
theorem pick_ok {α : Type} (g : α → PyData) (xs : List α) {n : Nat} {c k : Int} {m : M PyData} (hm : m = DL.ret (.list (xs.map g))) (hk : k = xs.length) (h0 : 0 < k) (h1 : k < 1000000) (hc : c ≤ 1000000) : HT (Hd n c) (op2 ixO m (takeM n (.int k))) fun d s => (∃ x ∈ xs, d = g x) ∧ Hd n (c + 1) s := by
  subst hm
  show HT _ (DL.bnd (takeM n (.int k)) fun y => lft (ixO (.list (xs.map g)) y)) _
  refine HT.bnd (takeM_ok h0 h1 hc) fun d => HT.and fun ⟨i, e, hi⟩ => ?_
  subst e
  have hl : i < xs.length := by omega
  exact HT.lift (by rw [ixO_lst, atI_nat, List.getElem?_map, List.getElem?_eq_getElem hl]; rfl) fun s p => ⟨⟨xs[i], List.getElem_mem hl, rfl⟩, p⟩
/-- the last word on the boats -/
def lastB (n : Nat) (many : PyData) (t9 : List PyData) : M (Fl (List PyData) Unit) := (DL.bnd (tb2 eqO (takeM n (.int 4)) (DL.ret (.int 0))) fun k => if k = true then (DL.bnd (op2 ixO (frL wordsM) (takeM n (.int 8))) fun v_word_20 => DL.bnd (takeM n many) fun v_at_21 => (DL.bnd (ifM (tb2 inO (DL.ret v_word_20) (DL.ret (obD (.lst t9)))) (op2 ixO (DL.ret (obD (.lst t9))) (DL.ret v_at_21)) (DL.ret v_word_20)) fun d => DL.bnd (DL.ret v_at_21) fun k => DL.bnd (lft (setO t9 k d)) fun v_found_22 => (DL.ret (.nx v_found_22)))) else (DL.ret (.nx t9)))
theorem lastB_ok {n : Nat} {c : Int} (bs : List (List Nat)) (hb : ∀ b ∈ bs, Bo b) (h0 : 0 < bs.length) (h1 : bs.length ≤ 100) (hc : c ≤ 900000) : HT (Hd n c) (lastB n (.int bs.length) (bs.map sD)) fun fl s => ∃ t, fl = .nx t ∧ ((∃ bs' : List (List Nat), t = bs'.map sD ∧ bs'.length = bs.length ∧ ∀ b ∈ bs', Bo b) ∧ Hd n (c + 10) s) := by
  have e0 : tb2 eqO (takeM n (.int 4)) (DL.ret (.int 0)) = DL.bnd (takeM n (.int 4)) fun x => DL.bnd (lft (eqO x (.int 0))) asB := by
    unfold tb2 op2
    rw [bnd_assoc]
    rfl
  unfold lastB
  rw [e0, bnd_assoc]
  refine HT.bnd (takeM_ok (by decide) (by decide) (by omega)) fun d => HT.and fun ⟨i, e, hi⟩ => ?_
  subst e
  rw [eqO_int, lft_some, ret_bnd, asB_b, ret_bnd]
  split
  · rw [wordsM_eq]
    refine HT.bnd (pick_ok sD words rfl rfl (by decide) (by decide) (by omega)) fun d => HT.and fun ⟨w, hw, e⟩ => ?_
    subst e
    refine HT.bnd (takeM_ok (by omega) (by omega) (by omega)) fun d => HT.and fun ⟨p, e, hp⟩ => ?_
    subst e
    obtain ⟨bb, e4⟩ := in_strs w bs
    have hp' : p < bs.length := by omega
    have e5 : ixO (obD (.lst (bs.map sD))) (.int (p : Int)) = some (sD bs[p]) := by
      show ixO (.list (bs.map sD)) _ = _
      rw [ixO_lst, atI_nat, List.getElem?_map, List.getElem?_eq_getElem hp']
      rfl
    have e6 : ifM (tb2 inO (DL.ret (sD w)) (DL.ret (obD (.lst (bs.map sD))))) (op2 ixO (DL.ret (obD (.lst (bs.map sD)))) (DL.ret (.int (p : Int)))) (DL.ret (sD w)) = DL.ret (sD (if bb = true then bs[p] else w)) := by
      have e7 : inO (sD w) (obD (.lst (bs.map sD))) = some (.bool bb) := e4
      cases bb with
      | true => simp only [ifM, tb2, op2, ret_bnd, e7, lft_some, asB_b, if_t, if_true, e5]
      | false => simp only [ifM, tb2, op2, ret_bnd, e7, lft_some, asB_b, if_f, if_false, Bool.false_eq_true]
    rw [e6, ret_bnd, ret_bnd]
    have e8 : setO (bs.map sD) (.int (p : Int)) (sD (if bb = true then bs[p] else w)) = some ((bs.set p (if bb = true then bs[p] else w)).map sD) := by
      show (ixN (bs.map sD).length (p : Int)).map _ = _
      have : ixN (bs.map sD).length (p : Int) = some p := by
        unfold ixN
        rw [if_pos (by omega), if_pos (by rw [List.length_map]; omega), Int.toNat_natCast]
      rw [this]
      show some ((bs.map sD).set p _) = _
      rw [List.map_set]
    rw [e8, lft_some, ret_bnd]
    refine HT.ret fun s h => ⟨_, rfl, ⟨_, rfl, by rw [List.length_set], fun b hbm => ?_⟩, h.mono (by omega)⟩
    rcases List.mem_or_eq_of_mem_set hbm with z | z
    · exact hb b z
    · rw [z]
      cases bb
      · exact words_bo w hw
      · exact hb _ (List.getElem_mem hp')
  · exact HT.ret fun s h => ⟨_, rfl, ⟨bs, rfl, rfl, hb⟩, h.mono (by omega)⟩
theorem boats_ok {n : Nat} {c : Int} (m : Nat) (h0 : 0 < m) (h1 : m ≤ 50) (hc : c ≤ 500000) : HT (Hd n c) (m_law_boats [.r n, .d (.int m)]) fun w s => (∃ bs : List (List Nat), w = .d (.tuple (bs.map sD)) ∧ bs.length = m ∧ ∀ b ∈ bs, Bo b) ∧ Hd n (c + 1000) s := by
  show HT _ (fnM (DL.bnd (DL.ret (PyData.str "abcdefghijklmnopqrstuvwxyz")) fun letters => DL.bnd (takeM n (.int 26)) fun first => DL.bnd (op2 ixO (frL turnsM) (takeM n (.int 12))) fun turn => DL.bnd (takeM n (.int 3)) fun alike => DL.bnd (mth1 joinO (DL.ret (.str "")) (frL (DL.lc1 (itR1 (takeM n (.int 8))) (fun v_j_14 => (op2 ixO (DL.ret letters) (takeM n (.int 26))))))) fun base => DL.bnd (takeM' n (op2 addO (fn1 lenO (DL.ret base)) (DL.ret (.int 1)))) fun place => DL.bnd (DL.ret []) fun found => seqF (DL.bnd (itR1 (DL.ret (.int m))) fun zs => forL (bodyBL n letters first turn alike base place) zs found) fun t9 => seqF (lastB n (.int m) t9) fun t19 => gives W.d (fn1 tupO (DL.ret (obD (.lst t19)))))) _
  refine HT.fn ?_
  rw [ret_bnd]
  refine HT.bnd (takeM_ok (by decide) (by decide) (by omega)) fun d => HT.and fun ⟨f, e, hf⟩ => ?_
  subst e
  refine HT.bnd (pick_ok (fun (k : Nat) => PyData.int (k : Int)) [1, 3, 5, 7, 9, 11, 15, 17, 19, 21, 23, 25] turnsM_eq rfl (by decide) (by decide) (by omega)) fun d => HT.and fun ⟨u, hu, e⟩ => ?_
  subst e
  refine HT.bnd (takeM_ok (by decide) (by decide) (by omega)) fun d => HT.and fun ⟨a, e, _⟩ => ?_
  subst e
  refine HT.bnd (some_text (by omega)) fun d => HT.and fun ⟨l, e, hl, hz⟩ => ?_
  subst e
  refine HT.bnd (place_ok hl (by omega)) fun d => HT.and fun ⟨p, e⟩ => ?_
  subst e
  rw [ret_bnd]
  refine HT.seq (R := fun t s => (∃ bs : List (List Nat), t = bs.map sD ∧ bs.length = m ∧ ∀ b ∈ bs, Bo b) ∧ Hd n (c + 900) s) ?_ fun t => HT.and fun ⟨bs, e, hbl, hb⟩ => ?_
  · have er : itR1 (DL.ret (.int (m : Int))) = DL.ret (upto 0 m) := by
      have e0 : range1 (.int (m : Nat)) = if inR (m : Nat) = true then some (upto 0 ((m : Nat) : Int).toNat) else none := rfl
      show DL.bnd (DL.ret (.int (m : Int))) (fun x => lft (range1 x)) = _
      rw [ret_bnd, e0, if_pos (by unfold inR; rw [Bool.and_eq_true, decide_eq_true_eq, decide_eq_true_eq]; omega), Int.toNat_natCast, lft_some]
    rw [er, ret_bnd]
    have lp := HT.loop (l := Unit) (bodyB n (.int f) (.int u) (.int a) (sD l) (.int p)) (fun i t s => (∃ bs : List (List Nat), t = bs.map sD ∧ bs.length = i ∧ ∀ b ∈ bs, Bo b) ∧ Hd n (c + 20 + 12 * (i : Int)) s) (upto 0 m) 0 [] (fun x hx j t _ hj => HT.and fun ⟨bs, e, hbl, hb⟩ => by
      subst e
      rw [upto_len] at hj
      obtain ⟨k, hk, rfl⟩ := List.mem_map.mp hx
      have hk' := List.mem_range.mp hk
      have ek : (0 : Int) + (k : Nat) = (k : Nat) := by omega
      rw [ek]
      exact (bodyB_ok hl hz f u a p (by omega) (turns_lt u hu) k (by omega) bs hb (by omega) (by omega)).imp fun fl s ⟨b, e, hbb, h⟩ => ⟨_, e, ⟨bs ++ [b], rfl, by simp [hbl], fun y hy => by
        rcases List.mem_append.mp hy with z | z
        · exact hb y z
        · rw [List.mem_singleton.mp z]; exact hbb⟩, h.mono (by omega)⟩)
    refine (lp.pre fun s h => ⟨⟨[], rfl, rfl, by simp⟩, h.mono (by omega)⟩).imp fun fl s ⟨t, e, ⟨bs, e2, e3, e4⟩, h⟩ => ⟨t, e, ⟨bs, e2, by rw [e3, upto_len]; omega, e4⟩, h.mono (by rw [upto_len]; omega)⟩
  · subst e
    refine HT.seq (R := fun t s => (∃ bs' : List (List Nat), t = bs'.map sD ∧ bs'.length = m ∧ ∀ b ∈ bs', Bo b) ∧ Hd n (c + 1000) s) ?_ fun t => HT.and fun ⟨bs', e, hbl', hb'⟩ => ?_
    · have := lastB_ok (n := n) (c := c + 900) bs hb (by omega) (by omega) (by omega)
      rw [hbl] at this
      exact this.imp fun fl s ⟨t, e, ⟨bs', e1, e2, e3⟩, h⟩ => ⟨t, e, ⟨bs', e1, e2, e3⟩, h.mono (by omega)⟩
    · subst e
      exact HT.ret (a := Fl.rt (W.d (.tuple (bs'.map sD)))) fun s h => ⟨_, rfl, ⟨bs', rfl, hbl', hb'⟩, h⟩
def manyM (n : Nat) : M PyData := op2 addO (DL.ret (.int 1)) (op2 ixO (frL (cat (takeM n (.int 5)) (cat (takeM n (.int 24)) (cat (DL.ret (.int 23)) (DL.ret []))))) (takeM n (.int 3)))
theorem manyM_ok {n : Nat} {c : Int} (hc : c ≤ 900000) : HT (Hd n c) (manyM n) fun d s => (∃ m : Nat, d = .int m ∧ 1 ≤ m ∧ m ≤ 24) ∧ Hd n (c + 3) s := by
  have h1 : HT (Hd n c) (frL (cat (takeM n (.int 5)) (cat (takeM n (.int 24)) (cat (DL.ret (.int 23)) (DL.ret []))))) fun d s => (∃ a b : Nat, d = .list [.int a, .int b, .int 23] ∧ a < 5 ∧ b < 24) ∧ Hd n (c + 2) s := by
    refine HT.bnd (R := fun ds s => (∃ a b : Nat, ds = [.int a, .int b, .int 23] ∧ a < 5 ∧ b < 24) ∧ Hd n (c + 2) s) ?_ fun ds => HT.and fun ⟨a, b, e, h⟩ => HT.ret fun s p => ⟨⟨a, b, by rw [e], h⟩, p⟩
    refine HT.bnd (takeM_ok (by decide) (by decide) (by omega)) fun d => HT.and fun ⟨a, e, ha⟩ => ?_
    subst e
    refine HT.bnd (R := fun ds s => (∃ b : Nat, ds = [.int b, .int 23] ∧ b < 24) ∧ Hd n (c + 2) s) ?_ fun ds => HT.and fun ⟨b, e, h⟩ => HT.ret fun s p => ⟨⟨a, b, by rw [e], by omega, h⟩, p⟩
    refine HT.bnd (takeM_ok (by decide) (by decide) (by omega)) fun d => HT.and fun ⟨b, e, hb⟩ => ?_
    subst e
    exact HT.ret (a := [PyData.int b, PyData.int 23]) fun s p => ⟨⟨b, rfl, by omega⟩, p.mono (by omega)⟩
  show HT _ (DL.bnd (op2 ixO (frL (cat (takeM n (.int 5)) (cat (takeM n (.int 24)) (cat (DL.ret (.int 23)) (DL.ret []))))) (takeM n (.int 3))) fun y => lft (addO (.int 1) y)) _
  refine HT.bnd (R := fun d s => (∃ m : Nat, d = .int m ∧ m ≤ 23) ∧ Hd n (c + 3) s) ?_ fun d => HT.and fun ⟨m, e, hm⟩ => ?_
  · refine HT.bnd h1 fun d => HT.and fun ⟨a, b, e, ha, hb⟩ => ?_
    subst e
    refine HT.bnd (takeM_ok (by decide) (by decide) (by omega)) fun d => HT.and fun ⟨i, e, hi⟩ => ?_
    subst e
    have hi' : i < 3 := by omega
    have e : ∃ m : Nat, ixO (.list [.int (a : Int), .int (b : Int), .int 23]) (.int (i : Int)) = some (.int (m : Int)) ∧ m ≤ 23 := by
      rw [ixO_lst, atI_nat]
      match i, hi' with
      | 0, _ => exact ⟨a, rfl, by omega⟩
      | 1, _ => exact ⟨b, rfl, by omega⟩
      | 2, _ => exact ⟨23, rfl, by omega⟩
    obtain ⟨m, e, hm⟩ := e
    exact HT.lift e fun s p => ⟨⟨m, rfl, hm⟩, p.mono (by omega)⟩
  · subst e
    exact HT.lift (addO_int 1 m) fun s p => ⟨⟨1 + m, by push_cast; rfl, by omega, by omega⟩, p⟩
end DL

namespace DL
open PySem PySem.Spec PyProof.Rows L2
open SX (S)
/-! ### torn sheets -/
theorem s_what : ("?" : Str) = S [63] := by rfl
def mD : Option Nat → PyData
  | none => .none
  | some c => sD [c]
def mC : Option Nat → Nat
  | none => 63
  | some c => c
def oD : Option (List Nat) → PyData
  | none => .none
  | some b => sD b
def oT : Option (List Nat) → List Nat
  | none => [63]
  | some b => b
structure Torn where
  m : List (Option Nat)
  b : List (Option (List Nat))
def MkOk (m : Option Nat) : Prop := ∀ c, m = some c → c = 100 ∨ c = 111 ∨ c = 116 ∨ c = 117
def BhOk (b : Option (List Nat)) : Prop := ∀ x, b = some x → Bo x
def TnOk (t : Torn) : Prop := 1 ≤ t.m.length ∧ t.m.length ≤ 9 ∧ t.b.length = t.m.length ∧ (∀ m ∈ t.m, MkOk m) ∧ ∀ b ∈ t.b, BhOk b
def tnD (t : Torn) : PyData := .tuple [.tuple (t.m.map mD), .tuple (t.b.map oD)]
def tnT (t : Torn) : List Nat := t.m.map mC ++ ([32] ++ TL.joinL [32] (t.b.map oT))
def tyD (d : List Torn) : PyData := .tuple (d.map tnD)
def tyT (d : List Torn) : List Nat := TL.joinL [32, 47, 32] (d.map tnT)
def TyOk (d : List Torn) : Prop := (∀ s ∈ d, TnOk s) ∧ d ≠ [] ∧ d.length ≤ 24
theorem is_n (a : PyData) : isO a .none = some (.bool (isNo a)) := rfl
theorem isNo_s (x : Str) : isNo (.str x) = false := rfl
theorem isNo_n : isNo .none = true := rfl
theorem known_mark (m : Option Nat) : m_known_text [.d (mD m)] = ret (.d (sD [mC m])) := by
  cases m with
  | none => simp only [m_known_text, mb_known_text, mD, mC, sD, frL, asW, rsW, toD, toR, cat, andM, orM, notM, ifM, chainM, slM, someI, tru, tb2, ntB, andB, orB, tupM, fn1, itS, itE, itR1, itZ, gives, op2, op1, mth1, mth1L, ret_bnd, lft_some, wD_d, wR_r, asB_b, asI_i, strO_s, if_t, if_f, truO_b, fnM_rt, seqF_nx, seqF_rt, un2_t, a1, a2, a3, asD, asR, asG, bnd_assoc, Bool.not_true, Bool.not_false, itemsD_t, itemsD_l, Int.reduceLT, Int.reduceLE, Int.reduceEq, Int.reduceNe, gt_iff_lt, ge_iff_le, len_t2, len_t3, len_l2, zipO_ss, strO_s, tup_l, tup_t, negO_i, eqO_int, neO_int, ltO_int, leO_int, gtO_int, geO_int, ixO_tup, ixO_lst, at0, at1, at2, if_true, if_false, Bool.false_eq_true, decide_true, decide_false, id_eq, is_n, isNo_n, s_what]
  | some c => simp only [m_known_text, mb_known_text, mD, mC, sD, frL, asW, rsW, toD, toR, cat, andM, orM, notM, ifM, chainM, slM, someI, tru, tb2, ntB, andB, orB, tupM, fn1, itS, itE, itR1, itZ, gives, op2, op1, mth1, mth1L, ret_bnd, lft_some, wD_d, wR_r, asB_b, asI_i, strO_s, if_t, if_f, truO_b, fnM_rt, seqF_nx, seqF_rt, un2_t, a1, a2, a3, asD, asR, asG, bnd_assoc, Bool.not_true, Bool.not_false, itemsD_t, itemsD_l, Int.reduceLT, Int.reduceLE, Int.reduceEq, Int.reduceNe, gt_iff_lt, ge_iff_le, len_t2, len_t3, len_l2, zipO_ss, strO_s, tup_l, tup_t, negO_i, eqO_int, neO_int, ltO_int, leO_int, gtO_int, geO_int, ixO_tup, ixO_lst, at0, at1, at2, if_true, if_false, Bool.false_eq_true, decide_true, decide_false, id_eq, is_n, isNo_s]
theorem known_boat (m : Option (List Nat)) : m_known_text [.d (oD m)] = ret (.d (sD (oT m))) := by
  cases m with
  | none => simp only [m_known_text, mb_known_text, oD, oT, sD, frL, asW, rsW, toD, toR, cat, andM, orM, notM, ifM, chainM, slM, someI, tru, tb2, ntB, andB, orB, tupM, fn1, itS, itE, itR1, itZ, gives, op2, op1, mth1, mth1L, ret_bnd, lft_some, wD_d, wR_r, asB_b, asI_i, strO_s, if_t, if_f, truO_b, fnM_rt, seqF_nx, seqF_rt, un2_t, a1, a2, a3, asD, asR, asG, bnd_assoc, Bool.not_true, Bool.not_false, itemsD_t, itemsD_l, Int.reduceLT, Int.reduceLE, Int.reduceEq, Int.reduceNe, gt_iff_lt, ge_iff_le, len_t2, len_t3, len_l2, zipO_ss, strO_s, tup_l, tup_t, negO_i, eqO_int, neO_int, ltO_int, leO_int, gtO_int, geO_int, ixO_tup, ixO_lst, at0, at1, at2, if_true, if_false, Bool.false_eq_true, decide_true, decide_false, id_eq, is_n, isNo_n, s_what]
  | some c => simp only [m_known_text, mb_known_text, oD, oT, sD, frL, asW, rsW, toD, toR, cat, andM, orM, notM, ifM, chainM, slM, someI, tru, tb2, ntB, andB, orB, tupM, fn1, itS, itE, itR1, itZ, gives, op2, op1, mth1, mth1L, ret_bnd, lft_some, wD_d, wR_r, asB_b, asI_i, strO_s, if_t, if_f, truO_b, fnM_rt, seqF_nx, seqF_rt, un2_t, a1, a2, a3, asD, asR, asG, bnd_assoc, Bool.not_true, Bool.not_false, itemsD_t, itemsD_l, Int.reduceLT, Int.reduceLE, Int.reduceEq, Int.reduceNe, gt_iff_lt, ge_iff_le, len_t2, len_t3, len_l2, zipO_ss, strO_s, tup_l, tup_t, negO_i, eqO_int, neO_int, ltO_int, leO_int, gtO_int, geO_int, ixO_tup, ixO_lst, at0, at1, at2, if_true, if_false, Bool.false_eq_true, decide_true, decide_false, id_eq, is_n, isNo_s]
theorem oT_len {b : Option (List Nat)} (h : BhOk b) : (oT b).length ≤ 8 := by
  cases b with
  | none => simp [oT]
  | some x => exact (h x rfl).2.1
theorem oT_ne {b : Option (List Nat)} (h : BhOk b) : oT b ≠ [] := by
  cases b with
  | none => simp [oT]
  | some x => exact (h x rfl).1
theorem oT_in {b : Option (List Nat)} (h : BhOk b) : ∀ c ∈ oT b, c ≠ 32 ∧ c ≠ 47 := by
  cases b with
  | none =>
    intro c hc
    rw [show c = 63 from by simpa [oT] using hc]
    decide
  | some x =>
    intro c hc
    have := (h x rfl).2.2 c hc
    omega
theorem mC_in {m : Option Nat} (h : MkOk m) : mC m ≠ 32 ∧ mC m ≠ 47 := by
  cases m with
  | none => decide
  | some c =>
    have := h c rfl
    show c ≠ 32 ∧ c ≠ 47
    omega
theorem tail_len {t : Torn} (h : TnOk t) : (TL.joinL [32] (t.b.map oT)).length ≤ 100 := by
  obtain ⟨h1, h2, h3, h4, h5⟩ := h
  have := joinL_len [32] 8 (t.b.map oT) fun y hy => by
    obtain ⟨b, hb, rfl⟩ := List.mem_map.mp hy
    exact oT_len (h5 b hb)
  rw [List.length_map] at this
  simp only [List.length_cons, List.length_nil] at this
  have : t.b.length * (8 + (0 + 1)) ≤ 9 * 9 := Nat.mul_le_mul_right _ (by omega)
  omega
theorem tnT_len {t : Torn} (h : TnOk t) : (tnT t).length ≤ 200 := by
  have h1 := tail_len h
  have h2 := h.2.1
  unfold tnT
  rw [List.length_append, List.length_append, List.length_map]
  simp only [List.length_cons, List.length_nil]
  omega
theorem torn_text_ok {t : Torn} (h : TnOk t) : m_torn_text [.d (tnD t)] = ret (.d (sD (tnT t))) := by
  have hh := h
  obtain ⟨h1, h2, h3, h4, h5⟩ := h
  have e1 : lc1 (ret (t.m.map mD)) (fun v => bnd (m_known_text [W.d v]) wD) = ret (t.m.map fun m => sD [mC m]) := lc1_map mD _ t.m (by omega) fun e he => by
    rw [known_mark]
    rfl
  have e2 : lc1 (ret (t.b.map oD)) (fun v => bnd (m_known_text [W.d v]) wD) = ret (t.b.map fun m => sD (oT m)) := lc1_map oD _ t.b (by omega) fun e he => by
    rw [known_boat]
    rfl
  have e3 : joinO ("" : Str) (.list (t.m.map fun m => sD [mC m])) = some (sD (t.m.map mC)) := by
    have := joinO_S (sep := []) (ys := (t.m.map mC).map fun ch => [ch]) (by
      rw [List.map_map]
      have := sum_le (fun _ : Nat => 1) 1 (t.m.map mC) fun _ _ => Nat.le_refl _
      rw [List.length_map] at this
      simp only [List.length_nil, Nat.mul_zero, Nat.add_zero]
      exact Nat.le_trans this (by omega))
    rw [join_ones, List.map_map, List.map_map] at this
    rw [S_nil]
    exact this
  have e4 : joinO (" " : Str) (.list (t.b.map fun m => sD (oT m))) = some (sD (TL.joinL [32] (t.b.map oT))) := by
    have hs := sum_le (fun y : List Nat => y.length) 8 (t.b.map oT) fun y hy => by
      obtain ⟨b, hb, rfl⟩ := List.mem_map.mp hy
      exact oT_len (h5 b hb)
    rw [List.length_map] at hs
    have := joinO_S (sep := [32]) (ys := t.b.map oT) (by rw [List.length_map]; simp only [List.length_cons, List.length_nil]; omega)
    rw [List.map_map] at this
    rw [s_blank]
    exact this
  have hl := tail_len hh
  have e5 : addO (sD (t.m.map mC)) (.str " ") = some (sD (t.m.map mC ++ [32])) := by
    rw [s_blank]; exact addO_S (by rw [List.length_map]; simp only [List.length_cons, List.length_nil]; omega)
  have e6 : addO (sD (t.m.map mC ++ [32])) (sD (TL.joinL [32] (t.b.map oT))) = some (sD (tnT t)) := by
    rw [show tnT t = t.m.map mC ++ [32] ++ TL.joinL [32] (t.b.map oT) from by unfold tnT; rw [List.append_assoc]]
    exact addO_S (by rw [List.length_append, List.length_map]; simp only [List.length_cons, List.length_nil]; omega)
  simp only [sD] at e3 e4 e5 e6
  simp only [sD] at e1 e2
  simp only [m_torn_text, mb_torn_text, tnD, sD, frL, asW, rsW, toD, toR, cat, andM, orM, notM, ifM, chainM, slM, someI, tru, tb2, ntB, andB, orB, tupM, fn1, itS, itE, itR1, itZ, gives, op2, op1, mth1, mth1L, ret_bnd, lft_some, wD_d, wR_r, asB_b, asI_i, strO_s, if_t, if_f, truO_b, fnM_rt, seqF_nx, seqF_rt, un2_t, a1, a2, a3, asD, asR, asG, bnd_assoc, Bool.not_true, Bool.not_false, itemsD_t, itemsD_l, Int.reduceLT, Int.reduceLE, Int.reduceEq, Int.reduceNe, gt_iff_lt, ge_iff_le, len_t2, len_t3, len_l2, zipO_ss, strO_s, tup_l, tup_t, negO_i, eqO_int, neO_int, ltO_int, leO_int, gtO_int, geO_int, ixO_tup, ixO_lst, at0, at1, at2, if_true, if_false, Bool.false_eq_true, decide_true, decide_false, id_eq, e1, e2, e3, e4, e5, e6]
theorem show_torn_ok {d : List Torn} (h : TyOk d) : m_show_torn [.d (tyD d)] = ret (.d (sD (tyT d))) := by
  obtain ⟨h1, h2, h3⟩ := h
  have e1 : lc1 (ret (d.map tnD)) (fun v => bnd (m_torn_text [W.d v]) wD) = ret (d.map fun e => sD (tnT e)) := lc1_map tnD _ d (by omega) fun e he => by
    rw [torn_text_ok (h1 e he)]
    rfl
  have e3 : joinO (" / " : Str) (.list (d.map fun e => sD (tnT e))) = some (sD (tyT d)) := by
    have hs := sum_le (fun y : List Nat => y.length) 200 (d.map tnT) fun y hy => by
      obtain ⟨e, he, rfl⟩ := List.mem_map.mp hy
      exact tnT_len (h1 e he)
    rw [List.length_map] at hs
    have := joinO_S (sep := [32, 47, 32]) (ys := d.map tnT) (by rw [List.length_map]; simp only [List.length_cons, List.length_nil]; omega)
    rw [List.map_map] at this
    rw [s_bar]
    exact this
  simp only [m_show_torn, mb_show_torn, tyD, frL, asW, rsW, toD, toR, cat, andM, orM, notM, ifM, chainM, slM, someI, tru, tb2, ntB, andB, orB, tupM, fn1, itS, itE, itR1, itZ, gives, op2, op1, mth1, mth1L, ret_bnd, lft_some, wD_d, wR_r, asB_b, asI_i, strO_s, if_t, if_f, truO_b, fnM_rt, seqF_nx, seqF_rt, un2_t, a1, a2, a3, asD, asR, asG, bnd_assoc, Bool.not_true, Bool.not_false, itemsD_t, itemsD_l, Int.reduceLT, Int.reduceLE, Int.reduceEq, Int.reduceNe, gt_iff_lt, ge_iff_le, len_t2, len_t3, len_l2, zipO_ss, strO_s, tup_l, tup_t, negO_i, eqO_int, neO_int, ltO_int, leO_int, gtO_int, geO_int, ixO_tup, ixO_lst, at0, at1, at2, if_true, if_false, Bool.false_eq_true, decide_true, decide_false, id_eq, e1, e3]
theorem tyT_len {d : List Torn} (h : TyOk d) : (tyT d).length ≤ 10000 := by
  obtain ⟨h1, h2, h3⟩ := h
  have := joinL_len [32, 47, 32] 200 (d.map tnT) fun y hy => by
    obtain ⟨e, he, rfl⟩ := List.mem_map.mp hy
    exact tnT_len (h1 e he)
  rw [List.length_map] at this
  have hm : d.length * (200 + 3) ≤ 24 * 203 := Nat.mul_le_mul_right _ h3
  simp only [List.length_cons, List.length_nil] at this
  unfold tyT
  omega
theorem tn_plain (t : Torn) : (tnD t).plain = true := by
  have a : PyData.plainAll (t.m.map mD) = true := plain_map _ _ fun m _ => by cases m <;> rfl
  have b : PyData.plainAll (t.b.map oD) = true := plain_map _ _ fun m _ => by cases m <;> rfl
  show PyData.plain (.tuple [.tuple _, .tuple _]) = true
  simp only [PyData.plain, PyData.plainAll, a, b]
  rfl
theorem is_mark_ok {c : Nat} (h : c = 100 ∨ c = 111 ∨ c = 116 ∨ c = 117) : m_is_mark [.d (sD [c])] = ret (.d (.bool true)) := by
  have e0 : isiO PyData.isStr (.str (S [c])) = some (.bool true) := isiO_ok rfl
  have e1 : inO (.str (S [c])) (.tuple ((["d", "o", "t", "u"] : List Str).map .str)) = some (.bool true) := by
    rcases h with rfl | rfl | rfl | rfl <;> rfl
  simp only [m_is_mark, mb_is_mark, sD, frL, asW, rsW, toD, toR, cat, andM, orM, notM, ifM, chainM, slM, someI, tru, tb2, ntB, andB, orB, tupM, fn1, itS, itE, itR1, itZ, gives, op2, op1, mth1, mth1L, ret_bnd, lft_some, wD_d, wR_r, asB_b, asI_i, strO_s, if_t, if_f, truO_b, fnM_rt, seqF_nx, seqF_rt, un2_t, a1, a2, a3, asD, asR, asG, bnd_assoc, Bool.not_true, Bool.not_false, itemsD_t, itemsD_l, Int.reduceLT, Int.reduceLE, Int.reduceEq, Int.reduceNe, gt_iff_lt, ge_iff_le, len_t2, len_t3, len_l2, zipO_ss, strO_s, tup_l, tup_t, negO_i, eqO_int, neO_int, ltO_int, leO_int, gtO_int, geO_int, ixO_tup, ixO_lst, at0, at1, at2, if_true, if_false, Bool.false_eq_true, decide_true, decide_false, id_eq, e0, e1]
theorem strD_S (l : List Nat) : strD (S l) = l.map fun c => sD [c] := rfl
theorem itemsD_S (l : List Nat) : itemsD (.str (S l)) = some (l.map fun c => sD [c]) := rfl
theorem sl1L (a : PyData) (xs : List PyData) : slO (.list (a :: xs)) (some 1) none = some (.list xs) := by
  show some (PyData.list (cutD (a :: xs) (some 1) none)) = _
  unfold cutD
  have h1 : HT.sIx (a :: xs).length 0 (some 1) = 1 := by
    show (if (1 : Int) < 0 then ((1 : Int) + ((a :: xs).length : Int)).toNat else min (1 : Int).toNat (a :: xs).length) = 1
    rw [if_neg (by decide)]
    show min 1 (xs.length + 1) = 1
    omega
  have h2 : HT.sIx (a :: xs).length (a :: xs).length none = (a :: xs).length := rfl
  rw [h1, h2]
  simp
theorem torn_in_ok {t : Torn} (h : TnOk t) : m_torn_in [.d (sD (tnT t))] = ret (.d (tnD t)) := by
  have hh := h
  obtain ⟨h1, h2, h3, h4, h5⟩ := h
  have hlen := tnT_len hh
  have hb0 : t.b ≠ [] := fun z => by rw [z] at h3; simp at h3; omega
  have e1 : splitO (S (tnT t)) (.str " ") = some (sD (t.m.map mC) :: t.b.map fun b => sD (oT b)) := by
    rw [s_blank, splitO_S (by decide) (by decide) (by omega)]
    have e : tnT t = TL.joinL [32] (t.m.map mC :: t.b.map oT) := by
      cases hb : t.b with
      | nil => exact absurd hb hb0
      | cons x r => unfold tnT; rw [hb]; rfl
    have := SX.spl_join (c := 32) (sep := []) (parts := t.m.map mC :: t.b.map oT) (by simp) (fun p hp => by
      rcases List.mem_cons.mp hp with rfl | hp
      · intro z
        obtain ⟨m, hm, e⟩ := List.mem_map.mp z
        exact (mC_in (h4 m hm)).1 e
      · obtain ⟨b, hb, rfl⟩ := List.mem_map.mp hp
        intro z
        exact (oT_in (h5 b hb) 32 z).1 rfl)
    rw [e, this, List.map_cons, List.map_map]
    rfl
  have l1 : lenO [sD (t.m.map mC)] = some (.int t.m.length) := by rw [lenO_str (S_len_le (by rw [List.length_map]; omega)), SX.S_len, List.length_map]
  have l2 : lenO [.list (t.b.map fun b => sD (oT b))] = some (.int t.m.length) := by rw [lenO_lst, List.length_map, h3]
  have c1 : leO (.int 1) (.int t.m.length) = some (.bool true) := by rw [leO_int, decide_eq_true (by omega)]
  have c2 : leO (.int t.m.length) (.int 9) = some (.bool true) := by rw [leO_int, decide_eq_true (by omega)]
  have c3 : neO (.int t.m.length) (.int t.m.length) = some (.bool false) := by rw [neO_int]; simp
  have q : ∀ c : Nat, eqO (sD [c]) (.str "?") = some (.bool (decide (c = 63))) := fun c => by
    rw [s_what, eqO_str, dec_S]
    congr 2
    simp
  have mk : lc1 (ret (t.m.map fun m => sD [mC m])) (fun v_mark_4 => orM (op2 eqO (ret v_mark_4) (ret (.str "?"))) (toD (bnd (cat (asW (ret v_mark_4)) (ret [])) m_is_mark))) = ret (t.m.map fun _ => .bool true) := lc1_map _ _ t.m (by omega) fun m hm => by
    have qm := q (mC m)
    simp only [sD] at qm
    cases m with
    | none => simp only [orM, mC, sD, op2, ret_bnd] at qm ⊢; rw [qm]; rfl
    | some c =>
      have hc := h4 _ hm c rfl
      have im := is_mark_ok hc
      have ne : eqO (.str (S [c])) (.str "?") = some (.bool false) := by rw [show eqO (.str (S [c])) (.str "?") = _ from q c, decide_eq_false (by omega)]
      clear qm
      simp only [orM, mC, sD, op2, ret_bnd, toD, cat, asW, lft_some, truO_b] at im ⊢
      rw [ne]
      simp only [lft_some, ret_bnd, truO_b, if_f, if_false, Bool.false_eq_true, im, wD_d]
  have bk : lc1 (ret (t.b.map fun b => sD (oT b))) (fun v_boat_5 => orM (op2 eqO (ret v_boat_5) (ret (.str "?"))) (toD (bnd (cat (asW (ret v_boat_5)) (ret [])) m_is_boat))) = ret (t.b.map fun _ => .bool true) := lc1_map _ _ t.b (by omega) fun b hb => by
    cases b with
    | none =>
      have qm := q 63
      simp only [sD] at qm
      simp only [orM, oT, sD, op2, ret_bnd]; rw [qm]; rfl
    | some x =>
      have hx := h5 _ hb x rfl
      have im := is_boat_ok hx
      have ne : eqO (.str (S x)) (.str "?") = some (.bool false) := by
        rw [s_what, eqO_str, dec_S, decide_eq_false]
        intro z
        subst z
        have := hx.2.2 63 (by simp)
        omega
      simp only [sD] at im
      simp only [orM, oT, sD, op2, ret_bnd, toD, cat, asW, ne, lft_some, truO_b, if_f, if_false, Bool.false_eq_true, im, wD_d]
  have mk2 : lc1 (ret (t.m.map fun m => sD [mC m])) (fun v_mark_6 => ifM (tb2 eqO (ret v_mark_6) (ret (.str "?"))) (ret .none) (ret v_mark_6)) = ret (t.m.map mD) := lc1_map _ _ t.m (by omega) fun m hm => by
    have qm := q (mC m)
    simp only [sD] at qm
    cases m with
    | none => simp only [ifM, tb2, mC, sD, op2, ret_bnd] at qm ⊢; rw [qm]; rfl
    | some c =>
      have hc := h4 _ hm c rfl
      have ne : eqO (.str (S [c])) (.str "?") = some (.bool false) := by rw [show eqO (.str (S [c])) (.str "?") = _ from q c, decide_eq_false (by omega)]
      clear qm
      simp only [ifM, tb2, mC, sD, op2, ret_bnd]
      rw [ne]
      rfl
  have bk2 : lc1 (ret (t.b.map fun b => sD (oT b))) (fun v_boat_8 => ifM (tb2 eqO (ret v_boat_8) (ret (.str "?"))) (ret .none) (ret v_boat_8)) = ret (t.b.map oD) := lc1_map _ _ t.b (by omega) fun b hb => by
    cases b with
    | none =>
      have qm := q 63
      simp only [sD] at qm
      simp only [ifM, tb2, oT, sD, op2, ret_bnd]; rw [qm]; rfl
    | some x =>
      have hx := h5 _ hb x rfl
      have ne : eqO (.str (S x)) (.str "?") = some (.bool false) := by
        rw [s_what, eqO_str, dec_S, decide_eq_false]
        intro z
        subst z
        have := hx.2.2 63 (by simp)
        omega
      simp only [ifM, tb2, oT, sD, op2, ret_bnd, ne, lft_some, asB_b, if_f, if_false, Bool.false_eq_true, oD]
  have al1 := allO_true t.m (fun _ => PyData.bool true) fun _ _ => rfl
  have al2 := allO_true t.b (fun _ => PyData.bool true) fun _ _ => rfl
  have it1 : itemsD (.str (S (t.m.map mC))) = some (t.m.map fun m => sD [mC m]) := by rw [itemsD_S, List.map_map]; rfl
  simp only [sD] at e1 l1 l2 mk bk mk2 bk2 it1
  simp only [frL, asW, rsW, toD, toR, cat, andM, orM, notM, ifM, chainM, slM, someI, tru, tb2, ntB, andB, orB, tupM, fn1, itS, itE, itR1, itZ, gives, op2, op1, mth1, mth1L, ret_bnd, lft_some, wD_d, wR_r, asB_b, asI_i, strO_s, if_t, if_f, truO_b, fnM_rt, seqF_nx, seqF_rt, un2_t, a1, a2, a3, asD, asR, asG, bnd_assoc, Bool.not_true, Bool.not_false, itemsD_t, itemsD_l, Int.reduceLT, Int.reduceLE, Int.reduceEq, Int.reduceNe, gt_iff_lt, ge_iff_le, len_t2, len_t3, len_l2, zipO_ss, strO_s, tup_l, tup_t, negO_i, eqO_int, neO_int, ltO_int, leO_int, gtO_int, geO_int, ixO_tup, ixO_lst, at0, at1, at2, if_true, if_false, Bool.false_eq_true, decide_true, decide_false, id_eq] at mk bk mk2 bk2
  simp only [m_torn_in, mb_torn_in, tnD, sD, frL, asW, rsW, toD, toR, cat, andM, orM, notM, ifM, chainM, slM, someI, tru, tb2, ntB, andB, orB, tupM, fn1, itS, itE, itR1, itZ, gives, op2, op1, mth1, mth1L, ret_bnd, lft_some, wD_d, wR_r, asB_b, asI_i, strO_s, if_t, if_f, truO_b, fnM_rt, seqF_nx, seqF_rt, un2_t, a1, a2, a3, asD, asR, asG, bnd_assoc, Bool.not_true, Bool.not_false, itemsD_t, itemsD_l, Int.reduceLT, Int.reduceLE, Int.reduceEq, Int.reduceNe, gt_iff_lt, ge_iff_le, len_t2, len_t3, len_l2, zipO_ss, strO_s, tup_l, tup_t, negO_i, eqO_int, neO_int, ltO_int, leO_int, gtO_int, geO_int, ixO_tup, ixO_lst, at0, at1, at2, if_true, if_false, Bool.false_eq_true, decide_true, decide_false, id_eq, e1, sl1L, l1, l2, c1, c2, c3, it1, mk, bk, mk2, bk2, al1, al2]
theorem last_word : ∀ (ys : List (List Nat)) (z : TL.joinL [32] ys ≠ []), ys ≠ [] → (∀ y ∈ ys, y ≠ [] ∧ ∀ c ∈ y, c ≠ 32) → (TL.joinL [32] ys).getLast z ≠ 32 := by
  intro ys
  induction ys with
  | nil => intro _ h; exact absurd rfl h
  | cons p r ih =>
    intro z _ hy
    cases r with
    | nil => exact (hy p List.mem_cons_self).2 _ (List.getLast_mem _)
    | cons q r =>
      have hq : TL.joinL [32] (q :: r) ≠ [] := by
        obtain ⟨c, l, e, _⟩ := joinL_head (ys := q :: r) [32] rfl (hy q (by simp)).1
        rw [e]; simp
      have e : TL.joinL [32] (p :: q :: r) = (p ++ [32]) ++ TL.joinL [32] (q :: r) := by
        show p ++ ([32] ++ TL.joinL [32] (q :: r)) = _
        rw [List.append_assoc]
      have := ih hq (by simp) fun y h => hy y (List.mem_cons_of_mem _ h)
      simp only [e]
      rw [List.getLast_append_of_ne_nil _ hq]
      exact this
theorem tnT_bar {t : Torn} (h : TnOk t) : 47 ∉ tnT t ∧ ∀ z : tnT t ≠ [], (tnT t).getLast z ≠ 32 := by
  obtain ⟨h1, h2, h3, h4, h5⟩ := h
  have hb0 : t.b.map oT ≠ [] := fun z => by
    have := congrArg List.length z
    rw [List.length_map, List.length_nil] at this
    omega
  have hy : ∀ y ∈ t.b.map oT, y ≠ [] ∧ ∀ c ∈ y, c ≠ 32 := fun y hy => by
    obtain ⟨b, hb, rfl⟩ := List.mem_map.mp hy
    exact ⟨oT_ne (h5 b hb), fun c hc => (oT_in (h5 b hb) c hc).1⟩
  have hj : TL.joinL [32] (t.b.map oT) ≠ [] := by
    cases hm : t.b.map oT with
    | nil => exact absurd hm hb0
    | cons q r =>
      obtain ⟨c, l, e, _⟩ := joinL_head (ys := q :: r) [32] rfl (hy q (by rw [hm]; simp)).1
      rw [e]; simp
  refine ⟨fun z => ?_, fun z => ?_⟩
  · unfold tnT at z
    rw [List.mem_append, List.mem_append, List.mem_singleton] at z
    rcases z with z | z | z
    · obtain ⟨m, hm, e⟩ := List.mem_map.mp z
      exact (mC_in (h4 m hm)).2 e
    · omega
    · rcases joinL_mem _ _ _ z with z | ⟨y, hy, z⟩
      · simp at z
      · obtain ⟨b, hb, rfl⟩ := List.mem_map.mp hy
        exact (oT_in (h5 b hb) 47 z).2 rfl
  · have e : tnT t = (t.m.map mC ++ [32]) ++ TL.joinL [32] (t.b.map oT) := by unfold tnT; rw [List.append_assoc]
    simp only [e]
    rw [List.getLast_append_of_ne_nil _ hj]
    exact last_word _ hj hb0 hy
theorem all_in_ok {d : List Torn} (h : TyOk d) : m_all_in [.d (sD (tyT d)), .g "torn_in"] = ret (.d (tyD d)) := by
  have hh := h
  obtain ⟨h1, h2, h3⟩ := h
  have hl := tyT_len hh
  have e0 : isiO PyData.isStr (.str (S (tyT d))) = some (.bool true) := isiO_ok rfl
  have e1 : splitO (S (tyT d)) (.str " / ") = some (d.map fun e => sD (tnT e)) := by
    rw [s_bar, splitO_S (by decide) (by decide) (by omega)]
    have := spl_frees (sep := [32, 47, 32]) (by decide) (parts := d.map tnT) (fun z => h2 (List.map_eq_nil_iff.mp z)) (fun p hp => by
      obtain ⟨e, he, rfl⟩ := List.mem_map.mp hp
      obtain ⟨a, b⟩ := tnT_bar (h1 e he)
      exact (free_bar a b).1) (fun p hp => by
      obtain ⟨e, he, rfl⟩ := List.mem_map.mp hp
      obtain ⟨a, b⟩ := tnT_bar (h1 e he)
      exact (free_bar a b).2)
    unfold tyT
    rw [this, List.map_map]
    rfl
  have e2 : lc1 (ret (d.map fun e => sD (tnT e))) (fun v => bnd (m_torn_in [W.d v]) wD) = ret (d.map tnD) := lc1_map _ tnD d (by omega) fun e he => by
    rw [torn_in_ok (h1 e he)]
    rfl
  have e3 : inO .none (.tuple (d.map tnD)) = some (.bool false) := noneIn _ (plain_map _ _ fun e _ => tn_plain e) fun x hx => by
    obtain ⟨e, _, rfl⟩ := List.mem_map.mp hx
    rfl
  have e5 : lenO [.tuple (d.map tnD)] = some (.int (d.map tnD).length) := rfl
  have e4' : decide ((24 : Int) < ((d.map tnD).length : Int)) = false := decide_eq_false (by rw [List.length_map]; omega)
  simp only [sD] at e1 e2
  simp only [m_all_in, mb_all_in, tyD, sD, frL, asW, rsW, toD, toR, cat, andM, orM, notM, ifM, chainM, slM, someI, tru, tb2, ntB, andB, orB, tupM, fn1, itS, itE, itR1, itZ, gives, op2, op1, mth1, mth1L, ret_bnd, lft_some, wD_d, wR_r, asB_b, asI_i, strO_s, if_t, if_f, truO_b, fnM_rt, seqF_nx, seqF_rt, un2_t, a1, a2, a3, asD, asR, asG, bnd_assoc, Bool.not_true, Bool.not_false, itemsD_t, itemsD_l, Int.reduceLT, Int.reduceLE, Int.reduceEq, Int.reduceNe, gt_iff_lt, ge_iff_le, len_t2, len_t3, len_l2, zipO_ss, strO_s, tup_l, tup_t, negO_i, eqO_int, neO_int, ltO_int, leO_int, gtO_int, geO_int, ixO_tup, ixO_lst, at0, at1, at2, if_true, if_false, Bool.false_eq_true, decide_true, decide_false, id_eq, e0, e1, e2, e3, e5, e4']
theorem read_torn_ok {d : List Torn} (h : TyOk d) : m_read_torn [.d (sD (tyT d))] = ret (.d (tyD d)) := by
  have e1 := all_in_ok h
  simp only [m_read_torn, mb_read_torn, frL, asW, rsW, toD, toR, cat, andM, orM, notM, ifM, chainM, slM, someI, tru, tb2, ntB, andB, orB, tupM, fn1, itS, itE, itR1, itZ, gives, op2, op1, mth1, mth1L, ret_bnd, lft_some, wD_d, wR_r, asB_b, asI_i, strO_s, if_t, if_f, truO_b, fnM_rt, seqF_nx, seqF_rt, un2_t, a1, a2, a3, asD, asR, asG, bnd_assoc, Bool.not_true, Bool.not_false, itemsD_t, itemsD_l, Int.reduceLT, Int.reduceLE, Int.reduceEq, Int.reduceNe, gt_iff_lt, ge_iff_le, len_t2, len_t3, len_l2, zipO_ss, strO_s, tup_l, tup_t, negO_i, eqO_int, neO_int, ltO_int, leO_int, gtO_int, geO_int, ixO_tup, ixO_lst, at0, at1, at2, if_true, if_false, Bool.false_eq_true, decide_true, decide_false, id_eq, e1]
theorem isTupT (t : Torn) : isiO PyData.isTuple (tnD t) = some (.bool true) := by
  rw [isiO_ok (tn_plain t)]
  rfl
theorem isTupTy (d : List Torn) : isiO PyData.isTuple (tyD d) = some (.bool true) := isTup _ (plain_map _ _ fun e _ => tn_plain e)
def bodyK : PyData → Unit → M (Fl Unit Unit) := fun v_torn_here_2 v_t_1 => (bnd (orB (ntB (tru (op1 (isiO PyData.isTuple) (ret v_torn_here_2)))) (orB (tb2 neO (fn1 lenO (ret v_torn_here_2)) (ret (.int 2))) (ntB (tru (fn1 allO (frL (lc1 (itS (ret v_torn_here_2)) (fun v_some_3 => (op1 (isiO PyData.isTuple) (ret v_some_3)))))))))) fun k => if k = true then (gives W.d (ret (.bool false))) else (bnd (ntB (tru (fn1 allO (frL (lc1 (itS (op2 addO (op2 ixO (ret v_torn_here_2) (ret (.int 0))) (op2 ixO (ret v_torn_here_2) (ret (.int 1))))) (fun v_one_4 => (orM (op2 isO (ret v_one_4) (ret .none)) (op1 (isiO PyData.isStr) (ret v_one_4))))))))) fun k => if k = true then (gives W.d (ret (.bool false))) else (ret (.nx ()))))
theorem one_kind {d : PyData} (h : d = .none ∨ ∃ x, d = .str x) : orM (op2 isO (ret d) (ret .none)) (op1 (isiO PyData.isStr) (ret d)) = ret (.bool true) := by
  rcases h with rfl | ⟨x, rfl⟩
  · rfl
  · have e : isiO PyData.isStr (.str x) = some (.bool true) := isiO_ok rfl
    simp only [orM, op2, op1, ret_bnd, is_n, isNo_s, lft_some, truO_b, if_f, if_false, Bool.false_eq_true, e]
theorem bodyK_ok {t : Torn} (h : TnOk t) : bodyK (tnD t) () = ret (.nx ()) := by
  obtain ⟨h1, h2, h3, h4, h5⟩ := h
  have sl := sizeLine_eq
  have a : PyData.plainAll (t.m.map mD) = true := plain_map _ _ fun m _ => by cases m <;> rfl
  have b : PyData.plainAll (t.b.map oD) = true := plain_map _ _ fun m _ => by cases m <;> rfl
  have e1 := isTupT t
  have e2 : lc1 (ret [.tuple (t.m.map mD), .tuple (t.b.map oD)]) (fun v_some_3 => (op1 (isiO PyData.isTuple) (ret v_some_3))) = ret [.bool true, .bool true] := lc1_ret (xs := [.tuple (t.m.map mD), .tuple (t.b.map oD)]) (fun _ => .bool true) rfl (by simp; omega) fun x hx => by
    simp only [List.mem_cons, List.not_mem_nil, or_false] at hx
    rcases hx with rfl | rfl
    · simp only [op1, ret_bnd, isTup _ a, lft_some]
    · simp only [op1, ret_bnd, isTup _ b, lft_some]
  have e3 : allO [.list [PyData.bool true, .bool true]] = some (.bool true) := rfl
  have e4 : addO (.tuple (t.m.map mD)) (.tuple (t.b.map oD)) = some (.tuple (t.m.map mD ++ t.b.map oD)) := by
    show (if _ then _ else _) = _
    rw [if_pos (by rw [List.length_map, List.length_map]; omega)]
  have e5 := lc1_ret (mi := ret (t.m.map mD ++ t.b.map oD)) (f := fun v_one_4 => (orM (op2 isO (ret v_one_4) (ret .none)) (op1 (isiO PyData.isStr) (ret v_one_4)))) (fun _ => .bool true) rfl (by rw [List.length_append, List.length_map, List.length_map]; omega) fun x hx => one_kind (by
    rcases List.mem_append.mp hx with hx | hx
    · obtain ⟨m, _, rfl⟩ := List.mem_map.mp hx
      cases m with
      | none => exact .inl rfl
      | some c => exact .inr ⟨_, rfl⟩
    · obtain ⟨m, _, rfl⟩ := List.mem_map.mp hx
      cases m with
      | none => exact .inl rfl
      | some c => exact .inr ⟨_, rfl⟩)
  have e6 := allO_true (t.m.map mD ++ t.b.map oD) (fun _ => PyData.bool true) fun _ _ => rfl
  simp only [tnD] at e1
  simp only [frL, asW, rsW, toD, toR, cat, andM, orM, notM, ifM, chainM, slM, someI, tru, tb2, ntB, andB, orB, tupM, fn1, itS, itE, itR1, itZ, gives, op2, op1, mth1, mth1L, ret_bnd, lft_some, wD_d, wR_r, asB_b, asI_i, strO_s, if_t, if_f, truO_b, fnM_rt, seqF_nx, seqF_rt, un2_t, a1, a2, a3, asD, asR, asG, bnd_assoc, Bool.not_true, Bool.not_false, itemsD_t, itemsD_l, Int.reduceLT, Int.reduceLE, Int.reduceEq, Int.reduceNe, gt_iff_lt, ge_iff_le, len_t2, len_t3, len_l2, zipO_ss, strO_s, tup_l, tup_t, negO_i, eqO_int, neO_int, ltO_int, leO_int, gtO_int, geO_int, ixO_tup, ixO_lst, at0, at1, at2, if_true, if_false, Bool.false_eq_true, decide_true, decide_false, id_eq] at e2 e5
  simp only [bodyK, tnD, frL, asW, rsW, toD, toR, cat, andM, orM, notM, ifM, chainM, slM, someI, tru, tb2, ntB, andB, orB, tupM, fn1, itS, itE, itR1, itZ, gives, op2, op1, mth1, mth1L, ret_bnd, lft_some, wD_d, wR_r, asB_b, asI_i, strO_s, if_t, if_f, truO_b, fnM_rt, seqF_nx, seqF_rt, un2_t, a1, a2, a3, asD, asR, asG, bnd_assoc, Bool.not_true, Bool.not_false, itemsD_t, itemsD_l, Int.reduceLT, Int.reduceLE, Int.reduceEq, Int.reduceNe, gt_iff_lt, ge_iff_le, len_t2, len_t3, len_l2, zipO_ss, strO_s, tup_l, tup_t, negO_i, eqO_int, neO_int, ltO_int, leO_int, gtO_int, geO_int, ixO_tup, ixO_lst, at0, at1, at2, if_true, if_false, Bool.false_eq_true, decide_true, decide_false, id_eq, e1, e2, e3, e4, e5, e6]
theorem loopK : ∀ d : List Torn, (∀ t ∈ d, TnOk t) → forL (l := Unit) bodyK (d.map tnD) () = ret (.nx ())
  | [], _ => rfl
  | t :: r, h => by
    rw [List.map_cons, forL_cons _ _ _ _ () (bodyK_ok (h t List.mem_cons_self))]
    exact loopK r fun x hx => h x (List.mem_cons_of_mem _ hx)
theorem kinds_ok {d : List Torn} (h : TyOk d) : m_law_kinds [.d (tyD d)] = ret (.d (.bool true)) := by
  have e1 := isTupTy d
  show fnM (bnd (ntB (tru (op1 (isiO PyData.isTuple) (ret (tyD d))))) fun k => if k = true then (gives W.d (ret (.bool false))) else (seqF (bnd (itS (ret (tyD d))) fun zs => forL bodyK zs ()) fun (_ : Unit) => (gives W.d (ret (.bool true))))) = _
  rw [show ntB (tru (op1 (isiO PyData.isTuple) (ret (tyD d)))) = ret false from by simp only [frL, asW, rsW, toD, toR, cat, andM, orM, notM, ifM, chainM, slM, someI, tru, tb2, ntB, andB, orB, tupM, fn1, itS, itE, itR1, itZ, gives, op2, op1, mth1, mth1L, ret_bnd, lft_some, wD_d, wR_r, asB_b, asI_i, strO_s, if_t, if_f, truO_b, fnM_rt, seqF_nx, seqF_rt, un2_t, a1, a2, a3, asD, asR, asG, bnd_assoc, Bool.not_true, Bool.not_false, itemsD_t, itemsD_l, Int.reduceLT, Int.reduceLE, Int.reduceEq, Int.reduceNe, gt_iff_lt, ge_iff_le, len_t2, len_t3, len_l2, zipO_ss, strO_s, tup_l, tup_t, negO_i, eqO_int, neO_int, ltO_int, leO_int, gtO_int, geO_int, ixO_tup, ixO_lst, at0, at1, at2, if_true, if_false, Bool.false_eq_true, decide_true, decide_false, id_eq, e1]]
  show fnM (seqF (forL bodyK (d.map tnD) ()) _) = _
  rw [loopK d h.1]
  rfl
end DL

namespace DL
open PySem PySem.Spec PyProof.Rows L2
open SX (S)
def bodyM : PyData → PyData → M (Fl PyData PyData) := fun v_mark_8 v_t_7 => (bnd (op2 addO (ret v_t_7) (ifM (tb2 isO (ret v_mark_8) (ret .none)) (ret (.str "?")) (ret v_mark_8))) fun v_text_here_9 => (ret (.nx v_text_here_9)))
def bodyH : PyData → PyData → M (Fl PyData PyData) := fun v_boat_11 v_t_10 => (bnd (op2 addO (op2 addO (ret v_t_10) (ret (.str " "))) (ifM (tb2 isO (ret v_boat_11) (ret .none)) (ret (.str "?")) (ret v_boat_11))) fun v_text_here_12 => (ret (.nx v_text_here_12)))
theorem if_m (m : Option Nat) : ifM (tb2 isO (ret (mD m)) (ret .none)) (ret (.str "?")) (ret (mD m)) = ret (sD [mC m]) := by
  cases m with
  | none => simp only [ifM, tb2, op2, ret_bnd, mD, is_n, isNo_n, lft_some, asB_b, if_t, if_true, s_what, mC]
  | some c => simp only [ifM, tb2, op2, ret_bnd, mD, sD, is_n, isNo_s, lft_some, asB_b, if_f, if_false, Bool.false_eq_true, mC]
theorem if_o (m : Option (List Nat)) : ifM (tb2 isO (ret (oD m)) (ret .none)) (ret (.str "?")) (ret (oD m)) = ret (sD (oT m)) := by
  cases m with
  | none => simp only [ifM, tb2, op2, ret_bnd, oD, is_n, isNo_n, lft_some, asB_b, if_t, if_true, s_what, oT]
  | some c => simp only [ifM, tb2, op2, ret_bnd, oD, sD, is_n, isNo_s, lft_some, asB_b, if_f, if_false, Bool.false_eq_true, oT]
theorem loopM : ∀ (ms : List (Option Nat)) (t : List Nat), t.length + ms.length ≤ 1000000 → forL (l := PyData) bodyM (ms.map mD) (sD t) = ret (.nx (sD (t ++ ms.map mC)))
  | [], t, _ => by
    show ret (Fl.nx (sD t)) = _
    rw [List.map_nil, List.append_nil]
  | m :: r, t, h => by
    rw [List.length_cons] at h
    have e : bodyM (mD m) (sD t) = ret (.nx (sD (t ++ [mC m]))) := by
      have a : addO (sD t) (sD [mC m]) = some (sD (t ++ [mC m])) := addO_S (by simp only [List.length_cons, List.length_nil]; omega)
      unfold bodyM
      rw [if_m]
      simp only [op2, ret_bnd, a, lft_some]
    rw [List.map_cons, forL_cons _ _ _ _ _ e, loopM r _ (by rw [List.length_append]; simp only [List.length_cons, List.length_nil]; omega), List.map_cons, List.append_assoc]
    rfl
theorem loopH : ∀ (bs : List (Option (List Nat))) (j : Nat) (t : List Nat), (∀ b ∈ bs, BhOk b) → t.length + bs.length * 10 ≤ 1000000 → forL (l := PyData) bodyH (bs.map oD) (sD t) = ret (.nx (sD (t ++ RJ [32] (j + 1) (bs.map oT))))
  | [], j, t, _, _ => by
    show ret (Fl.nx (sD t)) = _
    rw [show RJ [32] (j + 1) (([] : List (Option (List Nat))).map oT) = [] from rfl, List.append_nil]
  | b :: r, j, t, h, hl => by
    rw [List.length_cons] at hl
    have hb := oT_len (h b List.mem_cons_self)
    have e : bodyH (oD b) (sD t) = ret (.nx (sD (t ++ [32] ++ oT b))) := by
      have a1 : addO (sD t) (.str " ") = some (sD (t ++ [32])) := by rw [s_blank]; exact addO_S (by simp only [List.length_cons, List.length_nil]; omega)
      have a2 : addO (sD (t ++ [32])) (sD (oT b)) = some (sD (t ++ [32] ++ oT b)) := addO_S (by rw [List.length_append]; simp only [List.length_cons, List.length_nil]; omega)
      unfold bodyH
      rw [if_o]
      simp only [op2, ret_bnd, a1, a2, lft_some]
    rw [List.map_cons, forL_cons _ _ _ _ _ e, loopH r (j + 1) _ (fun y hy => h y (List.mem_cons_of_mem _ hy)) (by rw [List.length_append, List.length_append]; simp only [List.length_cons, List.length_nil]; omega), List.map_cons]
    show _ = ret (Fl.nx (sD (t ++ ((if j + 1 > 0 then [32] else []) ++ (oT b ++ RJ [32] (j + 1 + 1) (r.map oT))))))
    rw [if_pos (by omega), List.append_assoc, List.append_assoc]
def bodyS : PyData → PyData → M (Fl PyData PyData) := fun z v_t_2 => un12 z fun v_k_3 v_marks_4 v_behind_5 => (bnd (op2 addO (ret v_t_2) (op2 mulO (ret (.str " / ")) (fn1 intO (op2 gtO (ret v_k_3) (ret (.int 0)))))) fun v_text_here_6 => (seqF (bnd (itS (ret v_marks_4)) fun zs => forL bodyM zs v_text_here_6) fun (v_t_7 : PyData) => (seqF (bnd (itS (ret v_behind_5)) fun zs => forL bodyH zs v_t_7) fun (v_t_10 : PyData) => (ret (.nx v_t_10)))))
theorem bodyS_ok {t : Torn} (h : TnOk t) (k : Nat) (u : List Nat) (hu : u.length ≤ 900000) : bodyS (.tuple [.int (k : Nat), tnD t]) (sD u) = ret (.nx (sD (u ++ ((if k > 0 then [32, 47, 32] else []) ++ tnT t)))) := by
  have hh := h
  obtain ⟨h1, h2, h3, h4, h5⟩ := h
  have g := gt_nat k
  have e1 : mulO (.str " / ") (.int (if k > 0 then 1 else 0)) = some (sD (if k > 0 then [32, 47, 32] else [])) := by rw [s_bar]; exact rep_S [32, 47, 32] (by simp) (k > 0)
  have hs : (if k > 0 then [32, 47, 32] else [] : List Nat).length ≤ 3 := by split <;> simp
  have e2 : addO (sD u) (sD (if k > 0 then [32, 47, 32] else [])) = some (sD (u ++ (if k > 0 then [32, 47, 32] else []))) := addO_S (by omega)
  have first : op2 addO (ret (sD u)) (op2 mulO (ret (.str " / ")) (fn1 intO (op2 gtO (ret (.int (k : Nat))) (ret (.int 0))))) = ret (sD (u ++ (if k > 0 then [32, 47, 32] else []))) := by
    simp only [fn1, g, intO_d, op2, ret_bnd, e1, lft_some, e2]
  have lm := loopM t.m (u ++ (if k > 0 then [32, 47, 32] else [])) (by rw [List.length_append]; omega)
  have lh := loopH t.b 0 (u ++ (if k > 0 then [32, 47, 32] else []) ++ t.m.map mC) h5 (by rw [List.length_append, List.length_append, List.length_map]; omega)
  have hb0 : t.b.map oT ≠ [] := fun z => by
    have := congrArg List.length z
    rw [List.length_map, List.length_nil] at this
    omega
  rw [RJ_succ [32] (t.b.map oT) 0 hb0] at lh
  rw [show u ++ ((if k > 0 then [32, 47, 32] else []) ++ tnT t) = u ++ (if k > 0 then [32, 47, 32] else []) ++ t.m.map mC ++ ([32] ++ TL.joinL [32] (t.b.map oT)) from by unfold tnT; simp only [List.append_assoc]]
  show bnd (op2 addO (ret (sD u)) (op2 mulO (ret (.str " / ")) (fn1 intO (op2 gtO (ret (.int (k : Nat))) (ret (.int 0)))))) _ = _
  rw [first]
  show seqF (forL bodyM (t.m.map mD) _) _ = _
  rw [lm]
  show seqF (forL bodyH (t.b.map oD) _) _ = _
  rw [lh]
  rfl
theorem loopS : ∀ (d : List Torn) (k : Nat) (t : List Nat), (∀ s ∈ d, TnOk s) → t.length + d.length * 300 ≤ 900000 → forL (l := Unit) bodyS (enumD k (d.map tnD)) (sD t) = ret (.nx (sD (t ++ RJ [32, 47, 32] k (d.map tnT))))
  | [], k, t, _, _ => by
    show ret (Fl.nx (sD t)) = _
    rw [show RJ [32, 47, 32] k (([] : List Torn).map tnT) = [] from rfl, List.append_nil]
  | e :: r, k, t, h, hl => by
    rw [List.length_cons] at hl
    have hb := bodyS_ok (h e List.mem_cons_self) k t (by omega)
    show forL bodyS (.tuple [.int (k : Nat), tnD e] :: enumD (k + 1) (r.map tnD)) (sD t) = _
    rw [forL_cons _ _ _ _ _ hb, loopS r (k + 1) _ (fun y hy => h y (List.mem_cons_of_mem _ hy)) (by
      have := tnT_len (h e List.mem_cons_self)
      have hs : (if k > 0 then [32, 47, 32] else [] : List Nat).length ≤ 3 := by split <;> simp
      rw [List.length_append, List.length_append]
      omega)]
    rw [List.map_cons]
    show _ = ret (Fl.nx (sD (t ++ ((if k > 0 then [32, 47, 32] else []) ++ (tnT e ++ RJ [32, 47, 32] (k + 1) (r.map tnT))))))
    rw [List.append_assoc, List.append_assoc]
theorem text_ok {d : List Torn} (h : TyOk d) : m_law_text [.d (tyD d)] = ret (.d (sD (tyT d))) := by
  obtain ⟨h1, h2, h3⟩ := h
  have lp := loopS d 0 [] h1 (by simp only [List.length_nil]; omega)
  rw [RJ_zero, List.nil_append] at lp
  have e0 : (PyData.str "") = sD [] := by rw [S_nil]
  show fnM (seqF (bnd (itE (ret (tyD d))) fun zs => forL bodyS zs (.str "")) _) = _
  rw [show itE (ret (tyD d)) = ret (enumD 0 (d.map tnD)) from rfl]
  show fnM (seqF (forL bodyS (enumD 0 (d.map tnD)) (.str "")) _) = _
  rw [e0, lp]
  rfl
end DL

namespace DL
open PySem PySem.Spec PyProof.Rows L2
open SX (S)
theorem plus1 {n : Nat} {c k : Int} (hk : 0 < k) (hk2 : k < 1000000) (hc : c ≤ 1000000) : HT (Hd n c) (op2 addO (DL.ret (.int 1)) (takeM n (.int k))) fun d s => (∃ m : Nat, d = .int m ∧ 1 ≤ m ∧ (m : Int) ≤ k) ∧ Hd n (c + 1) s := by
  show HT _ (DL.bnd (takeM n (.int k)) fun y => lft (addO (.int 1) y)) _
  refine HT.bnd (takeM_ok hk hk2 hc) fun d => HT.and fun ⟨i, e, hi⟩ => ?_
  subst e
  exact HT.lift (addO_int 1 i) fun s p => ⟨⟨1 + i, by push_cast; rfl, by omega, by push_cast; omega⟩, p⟩
theorem range_eq (m : Nat) (hm : m ≤ 100000) : itR1 (DL.ret (.int (m : Int))) = DL.ret (upto 0 m) := by
  have e0 : range1 (.int (m : Nat)) = if inR (m : Nat) = true then some (upto 0 ((m : Nat) : Int).toNat) else none := rfl
  show DL.bnd (DL.ret (.int (m : Int))) (fun x => lft (range1 x)) = _
  rw [ret_bnd, e0, if_pos (by unfold inR; rw [Bool.and_eq_true, decide_eq_true_eq, decide_eq_true_eq]; omega), Int.toNat_natCast, lft_some]
theorem lcx {G : PyData → Prop} {n : Nat} {c : Int} {f : PyData → M PyData} (w : Int) (m : Nat) (hm : m ≤ 100000) (h : ∀ x (j : Nat), j < m → HT (Hd n (c + w * (j : Int))) (f x) fun d s => G d ∧ Hd n (c + w * ((j + 1 : Nat) : Int)) s) :
    HT (Hd n c) (DL.lc1 (itR1 (DL.ret (.int (m : Int)))) f) fun ds s => (ds.length = m ∧ ∀ d ∈ ds, G d) ∧ Hd n (c + w * (m : Int)) s := by
  have sl := sizeLine_eq
  rw [range_eq m hm]
  have cp := HT.comp (G := G) f (fun i s => Hd n (c + w * (i : Int)) s) (upto 0 m) 0 (fun x _ j _ hj => h x j (by rw [upto_len] at hj; omega))
  show HT _ (filC (fun _ => DL.ret true) _ (upto 0 m)) _
  unfold filC DL.comp
  rw [if_pos (by rw [upto_len]; omega)]
  refine (cp.pre fun s h => by simpa using h).imp fun ds s ⟨q1, q2, q3⟩ => ⟨⟨by rw [q1, upto_len], q2⟩, ?_⟩
  rw [upto_len, Nat.zero_add] at q3
  exact q3
theorem maybe_ok {n : Nat} {c k : Int} {m : M PyData} {G : PyData → Prop} (hk : 0 < k) (hk2 : k < 1000000) (hc : c ≤ 900000) (hn : G .none) (h : HT (Hd n (c + 1)) m fun d s => G d ∧ Hd n (c + 2) s) :
    HT (Hd n c) (ifM (tb2 eqO (takeM n (.int k)) (DL.ret (.int 0))) m (DL.ret .none)) fun d s => G d ∧ Hd n (c + 2) s := by
  have e0 : tb2 eqO (takeM n (.int k)) (DL.ret (.int 0)) = DL.bnd (takeM n (.int k)) fun x => DL.bnd (lft (eqO x (.int 0))) asB := by
    unfold tb2 op2
    rw [bnd_assoc]
    rfl
  unfold ifM
  rw [e0, bnd_assoc]
  refine HT.bnd (takeM_ok hk hk2 (by omega)) fun d => HT.and fun ⟨i, e, hi⟩ => ?_
  subst e
  rw [eqO_int, lft_some, ret_bnd, asB_b, ret_bnd]
  split
  · exact h
  · exact HT.ret fun s p => ⟨hn, p.mono (by omega)⟩
theorem boat_ok {n : Nat} {c : Int} (bs : List (List Nat)) (h0 : 0 < bs.length) (h1 : bs.length ≤ 100) (hc : c ≤ 1000000) : HT (Hd n c) (op2 ixO (DL.ret (.tuple (bs.map sD))) (takeM' n (fn1 lenO (DL.ret (.tuple (bs.map sD)))))) fun d s => (∃ b ∈ bs, d = sD b) ∧ Hd n (c + 1) s := by
  have e : takeM' n (fn1 lenO (DL.ret (.tuple (bs.map sD)))) = takeM n (.int bs.length) := by
    simp only [takeM', takeM, fn1, ret_bnd, lenO_tup, lft_some, List.length_map]
  rw [e]
  show HT _ (DL.bnd (takeM n (.int bs.length)) fun y => lft (ixO (.tuple (bs.map sD)) y)) _
  refine HT.bnd (takeM_ok (by omega) (by omega) hc) fun d => HT.and fun ⟨i, e, hi⟩ => ?_
  subst e
  have hl : i < bs.length := by omega
  exact HT.lift (by rw [ixO_tup, atI_nat, List.getElem?_map, List.getElem?_eq_getElem hl]; rfl) fun s p => ⟨⟨bs[i], List.getElem_mem hl, rfl⟩, p⟩
theorem mks : ∀ {ds : List PyData}, (∀ d ∈ ds, ∃ m, d = mD m ∧ MkOk m) → ∃ l : List (Option Nat), ds = l.map mD ∧ ∀ m ∈ l, MkOk m
  | [], _ => ⟨[], rfl, by simp⟩
  | d :: r, h => by
    obtain ⟨es, rfl, h1⟩ := h d List.mem_cons_self
    obtain ⟨l, rfl, h2⟩ := mks fun x hx => h x (List.mem_cons_of_mem _ hx)
    exact ⟨es :: l, rfl, fun y hy => by
      rcases List.mem_cons.mp hy with rfl | hy
      · exact h1
      · exact h2 y hy⟩
theorem bhs : ∀ {ds : List PyData}, (∀ d ∈ ds, ∃ m, d = oD m ∧ BhOk m) → ∃ l : List (Option (List Nat)), ds = l.map oD ∧ ∀ m ∈ l, BhOk m
  | [], _ => ⟨[], rfl, by simp⟩
  | d :: r, h => by
    obtain ⟨es, rfl, h1⟩ := h d List.mem_cons_self
    obtain ⟨l, rfl, h2⟩ := bhs fun x hx => h x (List.mem_cons_of_mem _ hx)
    exact ⟨es :: l, rfl, fun y hy => by
      rcases List.mem_cons.mp hy with rfl | hy
      · exact h1
      · exact h2 y hy⟩
theorem tns : ∀ {ds : List PyData}, (∀ d ∈ ds, ∃ m, d = tnD m ∧ TnOk m) → ∃ l : List Torn, ds = l.map tnD ∧ ∀ m ∈ l, TnOk m
  | [], _ => ⟨[], rfl, by simp⟩
  | d :: r, h => by
    obtain ⟨es, rfl, h1⟩ := h d List.mem_cons_self
    obtain ⟨l, rfl, h2⟩ := tns fun x hx => h x (List.mem_cons_of_mem _ hx)
    exact ⟨es :: l, rfl, fun y hy => by
      rcases List.mem_cons.mp hy with rfl | hy
      · exact h1
      · exact h2 y hy⟩
def mkM : M (List PyData) := (cat (DL.ret (.str "u")) (cat (DL.ret (.str "t")) (cat (DL.ret (.str "d")) (cat (DL.ret (.str "o")) (DL.ret [])))))
theorem mkM_eq : frL mkM = DL.ret (.list (([117, 116, 100, 111] : List Nat).map fun c => sD [c])) := by rfl
theorem torn_ok {n : Nat} {c : Int} (bs : List (List Nat)) (hb : ∀ b ∈ bs, Bo b) (h0 : 0 < bs.length) (h1 : bs.length ≤ 100) (hc : c ≤ 800000) : HT (Hd n c) (m_law_torn [.r n, .d (.tuple (bs.map sD))]) fun w s => (∃ t, w = .d (tnD t) ∧ TnOk t) ∧ Hd n (c + 50) s := by
  show HT _ (fnM (DL.bnd (op2 addO (DL.ret (.int 1)) (takeM n (.int 9))) fun many => DL.bnd (op2 addO (DL.ret (.int 1)) (takeM n (.int 4))) fun known => DL.bnd (frL mkM) fun marks => DL.bnd (frL (DL.lc1 (itR1 (DL.ret many)) (fun v_k_4 => (ifM (tb2 eqO (takeM n known) (DL.ret (.int 0))) (op2 ixO (DL.ret marks) (takeM n (.int 4))) (DL.ret .none))))) fun some => DL.bnd (frL (DL.lc1 (itR1 (DL.ret many)) (fun v_k_6 => (ifM (tb2 eqO (takeM n known) (DL.ret (.int 0))) (op2 ixO (DL.ret (.tuple (bs.map sD))) (takeM' n (fn1 lenO (DL.ret (.tuple (bs.map sD)))))) (DL.ret .none))))) fun behind => DL.gives W.d (tupM (cat (fn1 tupO (DL.ret some)) (cat (fn1 tupO (DL.ret behind)) (DL.ret [])))))) _
  refine HT.fn ?_
  refine HT.bnd (plus1 (by decide) (by decide) (by omega)) fun d => HT.and fun ⟨m, e, m1, m2⟩ => ?_
  subst e
  refine HT.bnd (plus1 (by decide) (by decide) (by omega)) fun d => HT.and fun ⟨k, e, k1, k2⟩ => ?_
  subst e
  rw [mkM_eq, ret_bnd]
  refine HT.bnd (R := fun d s => (∃ l : List (Option Nat), d = .list (l.map mD) ∧ l.length = m ∧ ∀ x ∈ l, MkOk x) ∧ Hd n (c + 2 + 2 * (m : Int)) s) ?_ fun d => HT.and fun ⟨l, e, hl, hg⟩ => ?_
  · refine HT.bnd (lcx (c := c + 1 + 1) (G := fun d => ∃ x, d = mD x ∧ MkOk x) 2 m (by omega) fun x j hj => ?_) fun ds => ?_
    · refine (maybe_ok (G := fun d => ∃ x, d = mD x ∧ MkOk x) (by omega) (by omega) (by omega) ⟨none, rfl, fun c h => by cases h⟩ ((pick_ok (fun c => sD [c]) [117, 116, 100, 111] rfl rfl (by decide) (by decide) (by omega)).imp fun d s ⟨⟨x, hx, e⟩, p⟩ => ⟨⟨some x, e, fun c h => ?_⟩, p.mono (by omega)⟩)).imp fun d s ⟨g, p⟩ => ⟨g, p.mono (by push_cast; omega)⟩
      cases h
      simp only [List.mem_cons, List.not_mem_nil, or_false] at hx
      omega
    · rintro s ⟨⟨q1, q2⟩, p⟩
      obtain ⟨l, rfl, hg⟩ := mks q2
      exact ⟨_, s, rfl, ⟨l, rfl, by simpa using q1, hg⟩, p.mono (by omega)⟩
  subst e
  refine HT.bnd (R := fun d s => (∃ l : List (Option (List Nat)), d = .list (l.map oD) ∧ l.length = m ∧ ∀ x ∈ l, BhOk x) ∧ Hd n (c + 50) s) ?_ fun d => HT.and fun ⟨l2, e, hl2, hg2⟩ => ?_
  · refine HT.bnd (lcx (c := c + 2 + 2 * (m : Int)) (G := fun d => ∃ x, d = oD x ∧ BhOk x) 2 m (by omega) fun x j hj => ?_) fun ds => ?_
    · exact (maybe_ok (G := fun d => ∃ x, d = oD x ∧ BhOk x) (by omega) (by omega) (by omega) ⟨none, rfl, fun c h => by cases h⟩ ((boat_ok bs h0 h1 (by omega)).imp fun d s ⟨⟨x, hx, e⟩, p⟩ => ⟨⟨some x, e, fun c h => by cases h; exact hb x hx⟩, p.mono (by omega)⟩)).imp fun d s ⟨g, p⟩ => ⟨g, p.mono (by push_cast; omega)⟩
    · rintro s ⟨⟨q1, q2⟩, p⟩
      obtain ⟨l, rfl, hg⟩ := bhs q2
      exact ⟨_, s, rfl, ⟨l, rfl, by simpa using q1, hg⟩, p.mono (by omega)⟩
  subst e
  exact HT.ret (a := Fl.rt (W.d (tnD ⟨l, l2⟩))) fun s p => ⟨_, rfl, ⟨⟨l, l2⟩, rfl, by show 1 ≤ l.length; omega, by show l.length ≤ 9; omega, by show l2.length = l.length; omega, hg, hg2⟩, p⟩
theorem tup_fr (X : DL.M (List PyData)) : fn1 tupO (frL X) = DL.bnd (DL.bnd X fun x => DL.ret (.list x)) fun x => lft (tupO [x]) := rfl
theorem day_ok {n : Nat} {c : Int} (m : Nat) (h1 : 1 ≤ m) (h2 : m ≤ 24) (bs : List (List Nat)) (hb : ∀ b ∈ bs, Bo b) (b0 : 0 < bs.length) (b1 : bs.length ≤ 100) (hc : c ≤ 700000) :
    HT (Hd n c) (fn1 tupO (frL (DL.lc1 (itR1 (DL.ret (.int (m : Int)))) (fun v_k_6 => (toD (DL.bnd (cat (rsW (DL.ret n)) (cat (asW (DL.ret (.tuple (bs.map sD)))) (DL.ret []))) m_law_torn)))))) fun d s => (∃ day, d = tyD day ∧ TyOk day) := by
  have cp := lcx (n := n) (c := c) (G := fun d => ∃ t, d = tnD t ∧ TnOk t) (f := fun v_k_6 => (toD (DL.bnd (cat (rsW (DL.ret n)) (cat (asW (DL.ret (.tuple (bs.map sD)))) (DL.ret []))) m_law_torn))) 50 m (by omega) fun x j hj => by
    refine HT.bnd (torn_ok bs hb b0 b1 (by omega)) fun w => HT.and fun ⟨t, e, ht⟩ => ?_
    subst e
    exact HT.ret (a := tnD t) fun s h => ⟨⟨t, rfl, ht⟩, h.mono (by push_cast; omega)⟩
  rw [tup_fr]
  refine HT.bnd (HT.bnd cp fun ds => HT.ret (Q := fun (d : PyData) s => ∃ ds : List PyData, d = PyData.list ds ∧ ds.length = m ∧ ∀ d ∈ ds, ∃ t, d = tnD t ∧ TnOk t) fun s h => ⟨ds, rfl, h.1⟩) fun d => ?_
  rintro s ⟨ds, rfl, hl, hg⟩
  obtain ⟨l, rfl, hs⟩ := tns hg
  rw [List.length_map] at hl
  exact ⟨tyD l, s, rfl, l, rfl, hs, by intro z; subst z; simp at hl; omega, by omega⟩
theorem ty_ne (d : List Torn) : neO (tyD d) (tyD d) = some (.bool false) := by
  have hp : (tyD d).plain = true := by
    show PyData.plain (.tuple _) = true
    simp only [PyData.plain]
    exact plain_map _ _ fun e _ => tn_plain e
  have hd : (tyD d).depth ≤ 4 := by
    have h1 : PyData.depthAll (d.map tnD) ≤ 3 := depth_map _ 3 _ fun e _ => by
      have a := depth_map mD 0 e.m fun m _ => by cases m <;> exact Nat.le_refl _
      have b := depth_map oD 0 e.b fun m _ => by cases m <;> exact Nat.le_refl _
      show PyData.depth (.tuple [.tuple (e.m.map mD), .tuple (e.b.map oD)]) ≤ 3
      simp only [PyData.depth, PyData.depthAll]
      omega
    show PyData.depth (.tuple (d.map tnD)) ≤ 4
    simp only [PyData.depth]
    omega
  unfold neO
  rw [if_pos, eqv_refl _ hp]
  · rfl
  · unfold smallD
    simp only [hp, Bool.true_and, Bool.and_self, decide_eq_true_eq]
    omega
def bodyL (script : PyData) : PyData → Unit → M (Fl Unit Unit) := fun v_place_2 v_t_1 => (DL.bnd (toR (DL.bnd (cat (asW (DL.ret script)) (cat (asW (DL.ret v_place_2)) (DL.ret []))) m_law_hand)) fun v_hand_here_3 => (DL.bnd (manyM v_hand_here_3) fun v_many_4 => (DL.bnd (toD (DL.bnd (cat (rsW (DL.ret v_hand_here_3)) (cat (asW (op2 addO (DL.ret (.int 1)) (takeM v_hand_here_3 (.int 12)))) (DL.ret []))) m_law_boats)) fun v_boats_here_5 => (DL.bnd (fn1 tupO (frL (DL.lc1 (itR1 (DL.ret v_many_4)) (fun v_k_6 => (toD (DL.bnd (cat (rsW (DL.ret v_hand_here_3)) (cat (asW (DL.ret v_boats_here_5)) (DL.ret []))) m_law_torn)))))) fun v_day_7 => (DL.bnd (toD (DL.bnd (cat (asW (DL.ret v_day_7)) (DL.ret [])) m_law_text)) fun v_text_here_8 => (DL.bnd (toD (DL.bnd (cat (asW (DL.ret v_text_here_8)) (DL.ret [])) m_read_torn)) fun v_found_9 => (DL.bnd (orB (tb2 neO (toD (DL.bnd (cat (asW (DL.ret v_day_7)) (DL.ret [])) m_show_torn)) (DL.ret v_text_here_8)) (orB (tb2 neO (DL.ret v_found_9) (DL.ret v_day_7)) (ntB (tru (toD (DL.bnd (cat (asW (DL.ret v_found_9)) (DL.ret [])) m_law_kinds)))))) fun k => if k = true then (DL.gives W.d (DL.ret (.bool false))) else (DL.ret (.nx ())))))))))
theorem bodyL_ok (ns : List Int) (p : Nat) (hp : p ≤ 100) : HT (fun _ => True) (bodyL (.list (ns.map .int)) (.int p) ()) fun fl s => ∃ t, fl = .nx t ∧ True := by
  unfold bodyL
  refine HT.bnd (R := fun n s => Hd n 0 s) ?_ fun n => ?_
  · refine HT.bnd (hand_ok ns p hp) fun w => ?_
    rintro s ⟨n, rfl, h⟩
    exact ⟨n, s, rfl, h⟩
  refine HT.bnd (manyM_ok (by decide)) fun d => HT.and fun ⟨m, e, m1, m2⟩ => ?_
  subst e
  refine HT.bnd (R := fun d s => (∃ bs : List (List Nat), d = .tuple (bs.map sD) ∧ 0 < bs.length ∧ bs.length ≤ 100 ∧ ∀ b ∈ bs, Bo b) ∧ Hd n 2000 s) ?_ fun d => HT.and fun ⟨bs, e, b0, b1, hb⟩ => ?_
  · have e : (toD (DL.bnd (cat (rsW (DL.ret n)) (cat (asW (op2 addO (DL.ret (.int 1)) (takeM n (.int 12)))) (DL.ret []))) m_law_boats)) = DL.bnd (takeM n (.int 12)) fun d => DL.bnd (lft (addO (.int 1) d)) fun k => DL.bnd (m_law_boats [.r n, .d k]) wD := by
      simp only [toD, cat, rsW, asW, op2, ret_bnd, bnd_assoc]
    rw [e]
    refine HT.bnd (takeM_ok (by decide) (by decide) (by decide)) fun d => HT.and fun ⟨i, e, hi⟩ => ?_
    subst e
    rw [addO_int, lft_some, ret_bnd]
    have ei : (1 : Int) + (i : Nat) = ((1 + i : Nat) : Int) := by push_cast; rfl
    rw [ei]
    refine HT.bnd (boats_ok (1 + i) (by omega) (by omega) (by decide)) fun w => HT.and fun ⟨bs, e, hl, hb⟩ => ?_
    subst e
    exact HT.ret (a := PyData.tuple (bs.map sD)) fun s h => ⟨⟨bs, rfl, by omega, by omega, hb⟩, h.mono (by decide)⟩
  subst e
  refine HT.bnd (day_ok m m1 m2 bs hb b0 b1 (by decide)) fun d => ?_
  rintro s ⟨day, rfl, hd⟩
  have t1 := text_ok hd
  have t2 := read_torn_ok hd
  have t3 := show_torn_ok hd
  have t4 := kinds_ok hd
  have t5 := ty_ne day
  have t6 : neO (sD (tyT day)) (sD (tyT day)) = some (.bool false) := by rw [neO_str]; simp
  refine ⟨.nx (), s, ?_, (), rfl, trivial⟩
  simp only [frL, asW, rsW, toD, toR, cat, andM, orM, notM, ifM, chainM, slM, someI, tru, tb2, ntB, andB, orB, tupM, fn1, itS, itE, itR1, itZ, gives, op2, op1, mth1, mth1L, ret_bnd, lft_some, wD_d, wR_r, asB_b, asI_i, strO_s, if_t, if_f, truO_b, fnM_rt, seqF_nx, seqF_rt, un2_t, a1, a2, a3, asD, asR, asG, bnd_assoc, Bool.not_true, Bool.not_false, itemsD_t, itemsD_l, Int.reduceLT, Int.reduceLE, Int.reduceEq, Int.reduceNe, gt_iff_lt, ge_iff_le, len_t2, len_t3, len_l2, zipO_ss, strO_s, tup_l, tup_t, negO_i, eqO_int, neO_int, ltO_int, leO_int, gtO_int, geO_int, ixO_tup, ixO_lst, at0, at1, at2, if_true, if_false, Bool.false_eq_true, decide_true, decide_false, id_eq, t1, t2, t3, t4, t5, t6]
  rfl
theorem law_true (ns : List Int) (hl : ns.length ≤ 63) (hb : ∀ z ∈ ns, Builtin.Int.intBits z ≤ 1048576) : ∃ s, m_law [.d (.list (ns.map .int))] [] = .ok (.d (.bool true)) s := by
  have key : HT (fun _ => True) (m_law [.d (.list (ns.map .int))]) fun w s => w = .d (.bool true) := by
    show HT _ (fnM (seqF (DL.bnd (itR1 (op2 addO (DL.ret (.int 1)) (fn1 lenO (slM (DL.ret (.list (ns.map .int))) (DL.ret none) (someI (DL.ret (.int 8))))))) fun zs => forL (bodyL (.list (ns.map .int))) zs ()) fun (_ : Unit) => DL.gives W.d (DL.ret (.bool true)))) _
    have e1 : op2 addO (DL.ret (.int 1)) (fn1 lenO (slM (DL.ret (.list (ns.map .int))) (DL.ret none) (someI (DL.ret (.int 8))))) = DL.ret (.int ((1 + (cutD (ns.map .int) none (some 8)).length : Nat) : Int)) := by
      have e2 : slO (.list (ns.map .int)) none (some 8) = some (.list (cutD (ns.map .int) none (some 8))) := rfl
      simp only [op2, fn1, slM, someI, ret_bnd, asI_i, e2, lft_some, lenO_lst, addO_int]
      push_cast
      rfl
    have hc : (cutD (ns.map PyData.int) none (some 8)).length ≤ 63 := by
      unfold cutD
      rw [List.length_take, List.length_drop, List.length_map]
      omega
    rw [e1]
    generalize (cutD (ns.map PyData.int) none (some 8)).length = q at hc
    have er : itR1 (DL.ret (.int ((1 + q : Nat) : Int))) = DL.ret (upto 0 (1 + q)) := by
      have e0 : range1 (.int ((1 + q : Nat) : Int)) = if inR ((1 + q : Nat) : Int) = true then some (upto 0 ((1 + q : Nat) : Int).toNat) else none := rfl
      show DL.bnd (DL.ret (.int ((1 + q : Nat) : Int))) (fun x => lft (range1 x)) = _
      rw [ret_bnd, e0, if_pos (by unfold inR; rw [Bool.and_eq_true, decide_eq_true_eq, decide_eq_true_eq]; omega), Int.toNat_natCast, lft_some]
    rw [er, ret_bnd]
    refine HT.fn (HT.seq (R := fun _ _ => True) (HT.loop (l := Unit) (bodyL (.list (ns.map .int))) (fun _ _ _ => True) _ 0 () fun x hx j t _ _ => ?_) fun t => ?_)
    · obtain ⟨k, hk, rfl⟩ := List.mem_map.mp hx
      have hk' := List.mem_range.mp hk
      have ek : (0 : Int) + (k : Nat) = (k : Nat) := by omega
      rw [ek]
      exact bodyL_ok ns k (by omega)
    · exact HT.ret (a := Fl.rt (W.d (.bool true))) fun s _ => ⟨_, rfl, rfl⟩
  obtain ⟨w, s, e, rfl⟩ := key [] trivial
  exact ⟨s, e⟩
end DL

namespace DL
open PySem PySem.Spec PyProof.Rows L2
/-! ### the head -/
def d_law_hand : He.DefD := ⟨("_law_hand", none), "_law_hand", "_law_hand", defArgs (top 23), defBody (top 23), defScope (top 23), [], []⟩
def d_law_take : He.DefD := ⟨("_law_take", none), "_law_take", "_law_take", defArgs (top 24), defBody (top 24), defScope (top 24), [], []⟩
def d_law_boats : He.DefD := ⟨("_law_boats", none), "_law_boats", "_law_boats", defArgs (top 25), defBody (top 25), defScope (top 25), [], []⟩
def d_law_text : He.DefD := ⟨("_law_text", none), "_law_text", "_law_text", defArgs (top 27), defBody (top 27), defScope (top 27), [], []⟩
def d_is_mark : He.DefD := ⟨("is_mark", none), "is_mark", "is_mark", defArgs (top 5), defBody (top 5), defScope (top 5), [], []⟩
def d_is_boat : He.DefD := ⟨("is_boat", none), "is_boat", "is_boat", defArgs (top 9), defBody (top 9), defScope (top 9), [], []⟩
def d_torn_in : He.DefD := ⟨("torn_in", none), "torn_in", "torn_in", defArgs (top 19), defBody (top 19), defScope (top 19), [], []⟩
def d_all_in : He.DefD := ⟨("all_in", none), "all_in", "all_in", defArgs (top 20), defBody (top 20), defScope (top 20), [], []⟩
def d_read_torn : He.DefD := ⟨("read_torn", none), "read_torn", "read_torn", defArgs (top 21), defBody (top 21), defScope (top 21), [], []⟩
def d_law_torn : He.DefD := ⟨("_law_torn", none), "_law_torn", "_law_torn", defArgs (top 26), defBody (top 26), defScope (top 26), [], []⟩
def d_known_text : He.DefD := ⟨("known_text", none), "known_text", "known_text", defArgs (top 13), defBody (top 13), defScope (top 13), [], []⟩
def d_torn_text : He.DefD := ⟨("torn_text", none), "torn_text", "torn_text", defArgs (top 14), defBody (top 14), defScope (top 14), [], []⟩
def d_show_torn : He.DefD := ⟨("show_torn", none), "show_torn", "show_torn", defArgs (top 15), defBody (top 15), defScope (top 15), [], []⟩
def d_law_kinds : He.DefD := ⟨("_law_kinds", none), "_law_kinds", "_law_kinds", defArgs (top 28), defBody (top 28), defScope (top 28), [], []⟩
def d_law : He.DefD := ⟨("law", none), "law", "law", defArgs (top 29), defBody (top 29), defScope (top 29), [], []⟩
def hfn : List He.DefD := [d_law_hand, d_law_take, d_law_boats, d_law_text, d_is_mark, d_is_boat, d_torn_in, d_all_in, d_read_torn, d_law_torn, d_known_text, d_torn_text, d_show_torn, d_law_kinds, d_law]
def hfa : List He.Fa := [.free "len", .free "abs", .free "range", .free "tuple", .free "enumerate", .free "int", .free "isinstance", .free "str", .glo "MARKS", .int "MOST_SIGNS" 8, .str "BOAT_SIGNS" "abcdefghijklmnopqrstuvwxyz", .int "MOST_MARKED" 9, .free "all", .str "UNKNOWN" "?", .str "BETWEEN" " / ", .int "MOST_SHEETS" 24, .glo "_law_hand", .glo "_law_take", .glo "_law_boats", .glo "_law_text", .glo "is_mark", .glo "is_boat", .glo "torn_in", .glo "all_in", .glo "read_torn", .glo "_law_torn", .glo "known_text", .glo "torn_text", .glo "show_torn", .glo "_law_kinds", .glo "law"]
abbrev hR : PySem.W.OpenRow := PySem.W.OpenLaw.row PySem.Challenge.rw_touchboats_k66_torn_sheets_written_and_r
def hex (K : PySem.W.Frag) : Bool := strsB K "MARKS" ["d", "o", "t", "u"]
abbrev hK : PySem.W.Hook := He.hookX 4 hfa hfn [] [] hex
def hob (s : PySem.W.SharedT) : He.AlX := He.obsX 4 hfa hfn [] [] hex (HandSHeadRun.getT s)
theorem hob_eq (s : PySem.W.SharedT) : hob s = hK.obs s.abs := He.obsX_eq (HandSHeadRun.getT_eq s)
theorem hrun (w : World) : HandSHeadRun.RunEq hR (PySem.W.view hR.prog [29]) hK hob 4000 ["BoatError", "NoText", "MARKS", "is_mark", "BOAT_SIGNS", "MOST_SIGNS", "is_boat", "BETWEEN", "UNKNOWN", "known_text", "torn_text", "show_torn", "MOST_SHEETS", "MOST_MARKED", "torn_in", "all_in", "read_torn", "_law_hand", "_law_take", "_law_boats", "_law_torn", "_law_text", "_law_kinds"] w := by
  intro os
  kernel_rfl
theorem gs {K : PySem.W.Frag} {h : Heap} {mg : Str → Option Value} (X : K.In h) (G : h.Ns mainGlobals mg) (c : He.SaysD hfa hfn K) (e : hex K = true) : Gs K mg :=
  ⟨He.free_ok X G (c.fact 0 (f := .free "len") rfl),
   He.free_ok X G (c.fact 1 (f := .free "abs") rfl),
   He.free_ok X G (c.fact 2 (f := .free "range") rfl),
   He.free_ok X G (c.fact 3 (f := .free "tuple") rfl),
   He.free_ok X G (c.fact 4 (f := .free "enumerate") rfl),
   He.free_ok X G (c.fact 5 (f := .free "int") rfl),
   He.free_ok X G (c.fact 6 (f := .free "isinstance") rfl),
   He.free_ok X G (c.fact 7 (f := .free "str") rfl),
   strsB_ok e (He.glo_ok X G (c.fact 8 (f := .glo "MARKS") rfl)),
   He.int_ok X G (c.fact 9 (f := .int "MOST_SIGNS" 8) rfl),
   He.str_ok X G (c.fact 10 (f := .str "BOAT_SIGNS" "abcdefghijklmnopqrstuvwxyz") rfl),
   He.int_ok X G (c.fact 11 (f := .int "MOST_MARKED" 9) rfl),
   He.free_ok X G (c.fact 12 (f := .free "all") rfl),
   He.str_ok X G (c.fact 13 (f := .str "UNKNOWN" "?") rfl),
   He.str_ok X G (c.fact 14 (f := .str "BETWEEN" " / ") rfl),
   He.int_ok X G (c.fact 15 (f := .int "MOST_SHEETS" 24) rfl),
   (let ⟨fd, FF⟩ := c.def_ 0 (d := d_law_hand) rfl; ⟨_, fd, FF, He.glo_ok X G (c.fact 16 (f := .glo "_law_hand") rfl)⟩),
   (let ⟨fd, FF⟩ := c.def_ 1 (d := d_law_take) rfl; ⟨_, fd, FF, He.glo_ok X G (c.fact 17 (f := .glo "_law_take") rfl)⟩),
   (let ⟨fd, FF⟩ := c.def_ 2 (d := d_law_boats) rfl; ⟨_, fd, FF, He.glo_ok X G (c.fact 18 (f := .glo "_law_boats") rfl)⟩),
   (let ⟨fd, FF⟩ := c.def_ 3 (d := d_law_text) rfl; ⟨_, fd, FF, He.glo_ok X G (c.fact 19 (f := .glo "_law_text") rfl)⟩),
   (let ⟨fd, FF⟩ := c.def_ 4 (d := d_is_mark) rfl; ⟨_, fd, FF, He.glo_ok X G (c.fact 20 (f := .glo "is_mark") rfl)⟩),
   (let ⟨fd, FF⟩ := c.def_ 5 (d := d_is_boat) rfl; ⟨_, fd, FF, He.glo_ok X G (c.fact 21 (f := .glo "is_boat") rfl)⟩),
   (let ⟨fd, FF⟩ := c.def_ 6 (d := d_torn_in) rfl; ⟨_, fd, FF, He.glo_ok X G (c.fact 22 (f := .glo "torn_in") rfl)⟩),
   (let ⟨fd, FF⟩ := c.def_ 7 (d := d_all_in) rfl; ⟨_, fd, FF, He.glo_ok X G (c.fact 23 (f := .glo "all_in") rfl)⟩),
   (let ⟨fd, FF⟩ := c.def_ 8 (d := d_read_torn) rfl; ⟨_, fd, FF, He.glo_ok X G (c.fact 24 (f := .glo "read_torn") rfl)⟩),
   (let ⟨fd, FF⟩ := c.def_ 9 (d := d_law_torn) rfl; ⟨_, fd, FF, He.glo_ok X G (c.fact 25 (f := .glo "_law_torn") rfl)⟩),
   (let ⟨fd, FF⟩ := c.def_ 10 (d := d_known_text) rfl; ⟨_, fd, FF, He.glo_ok X G (c.fact 26 (f := .glo "known_text") rfl)⟩),
   (let ⟨fd, FF⟩ := c.def_ 11 (d := d_torn_text) rfl; ⟨_, fd, FF, He.glo_ok X G (c.fact 27 (f := .glo "torn_text") rfl)⟩),
   (let ⟨fd, FF⟩ := c.def_ 12 (d := d_show_torn) rfl; ⟨_, fd, FF, He.glo_ok X G (c.fact 28 (f := .glo "show_torn") rfl)⟩),
   (let ⟨fd, FF⟩ := c.def_ 13 (d := d_law_kinds) rfl; ⟨_, fd, FF, He.glo_ok X G (c.fact 29 (f := .glo "_law_kinds") rfl)⟩),
   (let ⟨fd, FF⟩ := c.def_ 14 (d := d_law) rfl; ⟨_, fd, FF, He.glo_ok X G (c.fact 30 (f := .glo "law") rfl)⟩)⟩
theorem k_all {P : Program} {w : World} {K : PySem.W.Frag} {mg : Str → Option Value} {base : Heap} (g : Gs K mg) {f : Addr} {fd : FuncData} (FF : FunD K "law" "law" (defArgs (top 29)) (defBody (top 29)) (defScope (top 29)) [] [] f fd) : FnOk P w K mg base (L2.CX P w) 5 f fd ["_law_script"] (SpM K mg 1 m_law) := by
  have c_law_hand1 : Cal P w K mg base 1 "_law_hand" 2 m_law_hand := c_law_hand g 
  have c_law_take1 : Cal P w K mg base 1 "_law_take" 2 m_law_take := c_law_take g 
  have c_law_boats1 : Cal P w K mg base 2 "_law_boats" 2 m_law_boats := c_law_boats g c_law_take1
  have c_law_text1 : Cal P w K mg base 1 "_law_text" 1 m_law_text := c_law_text g 
  have c_is_mark1 : Cal P w K mg base 1 "is_mark" 1 m_is_mark := c_is_mark g 
  have c_is_boat1 : Cal P w K mg base 1 "is_boat" 1 m_is_boat := c_is_boat g 
  have c_torn_in1 : Cal P w K mg base 2 "torn_in" 1 m_torn_in := c_torn_in g c_is_mark1 c_is_boat1
  have c_all_in1 : Cal P w K mg base 3 "all_in" 2 m_all_in := c_all_in g c_torn_in1
  have c_read_torn1 : Cal P w K mg base 4 "read_torn" 1 m_read_torn := c_read_torn g c_all_in1 c_torn_in1
  have c_law_torn1 : Cal P w K mg base 2 "_law_torn" 2 m_law_torn := c_law_torn g c_law_take1
  have c_known_text1 : Cal P w K mg base 1 "known_text" 1 m_known_text := c_known_text g 
  have c_torn_text1 : Cal P w K mg base 2 "torn_text" 1 m_torn_text := c_torn_text g c_known_text1
  have c_show_torn1 : Cal P w K mg base 3 "show_torn" 1 m_show_torn := c_show_torn g c_torn_text1
  have c_law_kinds1 : Cal P w K mg base 1 "_law_kinds" 1 m_law_kinds := c_law_kinds g 
  exact k_law g c_law_hand1 c_law_boats1 c_law_text1 c_read_torn1 c_law_take1 c_law_torn1 c_show_torn1 c_law_kinds1 FF
end DL

open PySem PySem.W PySem.Calls PyProof.Rows
theorem PySem.Challenge.cw_touchboats_k66_torn_sheets_written_and_r_holds : PySem.Challenge.rw_touchboats_k66_torn_sheets_written_and_r.Holds := by
  w_on; o_law
  refine HandSHeadRun.head_any (r := OpenLaw.row PySem.Challenge.rw_touchboats_k66_torn_sheets_written_and_r) (q := view (OpenLaw.row PySem.Challenge.rw_touchboats_k66_torn_sheets_written_and_r).prog [29]) (H := DL.hK) (ob := DL.hob) (M := 4000) (loose := ["BoatError", "NoText", "MARKS", "is_mark", "BOAT_SIGNS", "MOST_SIGNS", "is_boat", "BETWEEN", "UNKNOWN", "known_text", "torn_text", "show_torn", "MOST_SHEETS", "MOST_MARKED", "torn_in", "all_in", "read_torn", "_law_hand", "_law_take", "_law_boats", "_law_torn", "_law_text", "_law_kinds"]) (d := HandSHeadRun.topDef (OpenLaw.row PySem.Challenge.rw_touchboats_k66_torn_sheets_written_and_r).prog 29) (kwd := []) DL.hob_eq
    (by kernel_rfl) (fun s => by kernel_rfl) DL.hrun (by kernel_rfl) (by kernel_rfl) (by kernel_rfl) (by rfl) (by first | assumption | decide +kernel) (by decide +kernel) ⟨rfl, rfl, rfl, rfl, rfl, by decide +kernel⟩ ?hw ?hc
  case hw => w_witness2
  case hc =>
    refine LamX.walk_ofTsE (l := PySem.Challenge.rw_touchboats_k66_torn_sheets_written_and_r) (n := 63) (k := 5) (x := "_law_script") (CX := fun w => L2.CX (PySem.Challenge.rw_touchboats_k66_torn_sheets_written_and_r).prog w) rfl (by decide) (by kernel_rfl) ⟨rfl, by decide, by decide⟩ ?F (fun w _ _ _ _ z => DL.law_cx z)
    intro w mg fa h Y G hmg0
    obtain ⟨K, KX, c⟩ := Y
    have hmg : mg ("law" : PySem.Str) = some (.ref fa) := by
      have e : (HandSHeadRun.topDef (OpenLaw.row PySem.Challenge.rw_touchboats_k66_torn_sheets_written_and_r).prog 29).name = ("law" : PySem.Str) := by kernel_rfl
      rw [← e]
      exact hmg0
    have g := DL.gs KX G c.t.d c.more
    obtain ⟨f, fd, FF, hm⟩ := g.f_law
    cases hmg.symm.trans hm
    have b := L2.FunD.bindsA (ps := ["_law_script"]) FF fun _ _ _ _ _ _ us hl => match us, hl with | [_], _ => rfl
    exact ⟨K, KX, fd, [], DL.SpM K mg 1 DL.m_law, by simp, by simp, by simp, fun s v => b s [v] rfl, fun H a ns hl hb _ hS => DL.law_sp (DL.law_true ns hl hb) hS, fun base _ _ _ => DL.k_all g FF⟩

