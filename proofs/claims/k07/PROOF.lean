import PyProof.Rows.All
import Wide.All
import OpenK.AllK
import Wide.FinOn
import HandS.ForMost
import HandS.ForExc
import HandS.Lambda
import HandS.Nested
import HandS.CallSlots
import HandS.CallLocal
import HandS.Deep
import HandS.Wide
import HandS.IsInst
import HandS.ExcOwn
import HandS.ExcIs
import HandS.ExcInit
import HandS.HotCalls
import HandS.HeadWalk
import HandS.TupAny
import HandS.TupMul
import HandS.TupLe
import HandS.Style
import HandS.StrMore
import HandS.FStr
import HandS.RaiseMore
import HandS.More
import HandS.Zip
import KE.SortData
import KE.DataFind
import KE.GoesEnum
import HandS.HeadHook4
import PyProof.ExcBaseAll.ValueError
import HandS.Head0
import HandS.Head1
import HandS.Head2
import HandS.HeadEnd
import PySem.Challenge.RW_leaftoll_k07_whole_stocks_led_by_deeds
set_option Elab.async false
set_option linter.all false
set_option maxRecDepth 100000
set_option maxHeartbeats 2000000
/-! Own layer, part A: data, what stands for them in the abstract heap, what an evaluation comes to. -/
namespace LT
open PySem PySem.Spec PyProof.Rows L2

/-- data of the evaluator -/
inductive D where
  | non | bl (b : Bool) | int (i : Int) | str (x : Str)
  | tup (xs : List D) | lst (xs : List D)
  | scr (ns : List Int)
  | cell (n : Nat) | fn (x : Str) | own (k : Nat) (caps : List Nat) | clo (k : Nat) (caps : List D)
  deriving Inhabited

mutual
/-- no closure in it -/
def D.clean : D → Bool
  | .tup ds => D.cleans ds
  | .lst ds => D.cleans ds
  | .own _ _ => false
  | .clo _ _ => false
  | _ => true
def D.cleans : List D → Bool
  | [] => true
  | d :: ds => d.clean && D.cleans ds
end
/-- a mutable thing of the store -/
inductive SO where
  | lst (xs : List D)
  | ins (c : Str) (fs : List (Str × D))
  deriving Inhabited
abbrev Sto := List SO
abbrev Env' := List (Option D)

/-- an exception: its class's name, its own field -/
structure Exc where
  cls : Str
  fld : Option (Str × Int) := none

/-- an evaluation's end -/
inductive Res (α : Type) where
  | ok (a : α) (S : Sto)
  | exc (x : Exc) (S : Sto)
  | bad
@[inline] def Res.bind {α β : Type} (r : Res α) (k : α → Sto → Res β) : Res β :=
  match r with
  | .ok a S => k a S
  | .exc x S => .exc x S
  | .bad => .bad

/-- what the layer knows of the law's program -/
structure GI where
  P : Program
  w : World
  K : PySem.W.Frag
  mg : Str → Option Value
  base : Heap
  /-- the k-th lambda: parameters, body, scope, the captured names in order -/
  lamAt : Nat → Arguments → Expr → Scope → List Str → Prop
  /-- the tables of code objects -/
  T : List NdefX.NTab

/-- the cells' places, and places of lists that are being made -/
structure Pl where
  c : List Addr
  v : List Addr
instance : Membership Addr Pl := ⟨fun ρ a => a ∈ ρ.c ∨ a ∈ ρ.v⟩
theorem Pl.mem_iff {a : Addr} {ρ : Pl} : a ∈ ρ ↔ a ∈ ρ.c ∨ a ∈ ρ.v := Iff.rfl

/-- the lambda's object at f -/
def LamO (f : Addr) (q : Str) (params : Arguments) (body : Expr) (scope : Scope) (cl : List (Str × Addr)) (c : Addr) : HO :=
  .ext fun h => ∃ pm ctv, h.get? f = some (PySem.W.kla_obj "<lambda>" q params body scope cl pm c ctv)

/-- a cell that others hold, with what it holds -/
def CellH (H : Hp) (c : Addr) (v : V) : Prop := ∃ (o : Obj) (u : Value), H c = some (.frz o (.own 0)) ∧ o.data = .cell (some u) ∧ RelV v u

section
variable (G : GI) (oc : Nat → Option Addr) (ρ : Pl) (H : Hp)
/-- a list, a tuple that nobody writes -/
def FzL (a : Addr) (xs : List V) : Prop := H a = some (.lst xs) ∧ a ∉ ρ
/-- the script -/
def FzS (a : Addr) (xs : List V) : Prop :=
  (Rd H a (.lst xs) ∧ a ∉ ρ) ∨
    ∃ (o : Obj) (its : Array Value) (n : Nat), G.K.lookup a = some o ∧ o.cls = .type "list" ∧ o.dict = none ∧ o.data = .seq its n ∧ its.size ≤ sizeLine ∧ Vals xs its.toList
def FzT (a : Addr) (xs : List V) : Prop :=
  ((∃ o : Obj, H a = some (.frz o (.tup xs)) ∧ o.dict = none) ∧ a ∉ ρ) ∨
    ∃ (o : Obj) (its : Array Value) (n : Nat), G.K.lookup a = some o ∧ o.cls = .type "tuple" ∧ o.dict = none ∧ o.data = .seq its n ∧ its.size ≤ sizeLine ∧ Vals xs its.toList
/-- the closure's object, without what it captured -/
structure CloAt (k : Nat) (f c' : Addr) (q : Str) (params : Arguments) (body : Expr) (scope : Scope) (cl : List (Str × Addr)) (fr : List Str) : Prop where
  obj : H f = some (LamO f q params body scope cl c')
  nf : f ∉ ρ
  code : H c' = some (LamX.CodeO c' q)
  nc : c' ∉ ρ
  lam : G.lamAt k params body scope fr
  inj : ∀ x y c, cl.lookup x = some c → cl.lookup y = some c → x = y
  only : ∀ y c, cl.lookup y = some c → y ∈ fr
mutual
/-- v stands for d -/
def Rep : D → V → Prop
  | .non, v => v = .non
  | .bl b, v => v = .bl b
  | .int i, v => v = .int i
  | .str x, v => v = .str x
  | .tup ds, v => ∃ a vs, v = .ref a ∧ FzT G ρ H a vs ∧ RepL ds vs
  | .lst ds, v => ∃ a vs, v = .ref a ∧ FzL ρ H a vs ∧ RepL ds vs
  | .scr ns, v => ∃ a, v = .ref a ∧ FzS G ρ H a (ns.map V.int)
  | .cell n, v => ∃ a, v = .ref a ∧ ρ.c[n]? = some a
  | .fn x, v => ∃ a, v = .ref a ∧ G.mg x = some (.ref a)
  | .own k caps, v => ∃ f c' q params body scope cl fr, v = .ref f ∧ CloAt G ρ H k f c' q params body scope cl fr ∧ caps.length = fr.length ∧
      ∀ (j : Nat) (y : Str) (i : Nat), fr[j]? = some y → caps[j]? = some i → ∃ c, cl.lookup y = some c ∧ oc i = some c
  | .clo k caps, v => ∃ f c' q params body scope cl fr vs, v = .ref f ∧ CloAt G ρ H k f c' q params body scope cl fr ∧ D.cleans caps = true ∧ RepL caps vs ∧ vs.length = fr.length ∧
      ∀ (j : Nat) (y : Str) (z : V), fr[j]? = some y → vs[j]? = some z → ∃ c, cl.lookup y = some c ∧ CellH H c z ∧ c ∉ ρ
def RepL : List D → List V → Prop
  | [], vs => vs = []
  | d :: ds, vs => ∃ v r, vs = v :: r ∧ Rep d v ∧ RepL ds r
end
end

/-- the heap has grown; cells may have changed -/
structure Ext0 (ρ : Pl) (H : Hp) (ρ' : Pl) (H' : Hp) : Prop where
  pre : ρ.c <+: ρ'.c
  keep : ∀ b o, H b = some o → b ∉ ρ → (∀ ps, o ≠ .tbl ps) → H' b = some o
  gone : ∀ b, H' b = none → H b = none
  new : ∀ b, b ∈ ρ' → b ∉ ρ → H b = none
/-- nothing is being made that was not -/
structure Ext (ρ : Pl) (H : Hp) (ρ' : Pl) (H' : Hp) : Prop extends Ext0 ρ H ρ' H' where
  vol : ρ'.v = ρ.v
  keepV : ∀ b ∈ ρ.v, ∀ o, H b = some o → (∀ ps, o ≠ .tbl ps) → H' b = some o
instance {ρ : Pl} {H : Hp} {ρ' : Pl} {H' : Hp} : CoeOut (Ext ρ H ρ' H') (Ext0 ρ H ρ' H') := ⟨Ext.toExt0⟩
theorem Ext0.refl {ρ : Pl} {H : Hp} : Ext0 ρ H ρ H := ⟨List.prefix_refl _, fun _ _ h _ _ => h, fun _ h => h, fun b h n => absurd h n⟩
theorem Ext.refl {ρ : Pl} {H : Hp} : Ext ρ H ρ H := ⟨Ext0.refl, rfl, fun _ _ _ h _ => h⟩
theorem Ext0.trans {ρ ρ1 ρ2 : Pl} {H H1 H2 : Hp} (a : Ext0 ρ H ρ1 H1) (b : Ext0 ρ1 H1 ρ2 H2) : Ext0 ρ H ρ2 H2 where
  pre := a.pre.trans b.pre
  keep := fun c o h n t => by
    have h1 := a.keep c o h n t
    refine b.keep c o h1 (fun m => ?_) t
    have z := a.new c m n
    rw [h] at z; cases z
  gone := fun c h => a.gone c (b.gone c h)
  new := fun c m n => by
    by_cases hc : c ∈ ρ1
    · exact a.new c hc n
    · exact a.gone c (b.new c m hc)
theorem Ext.trans {ρ ρ1 ρ2 : Pl} {H H1 H2 : Hp} (a : Ext ρ H ρ1 H1) (b : Ext ρ1 H1 ρ2 H2) : Ext ρ H ρ2 H2 := ⟨a.toExt0.trans b.toExt0, b.vol.trans a.vol, fun c m o h n => b.keepV c (by rw [a.vol]; exact m) o (a.keepV c m o h n) n⟩

section
variable {G : GI} {oc : Nat → Option Addr} {ρ ρ' : Pl} {H H' : Hp}
theorem FzL.sq {a : Addr} {xs : List V} (h : FzL ρ H a xs) : SqL G.K H a xs := .inl (.inl h.1)
theorem FzS.sq {a : Addr} {xs : List V} (h : FzS G ρ H a xs) : SqL G.K H a xs := h.elim (fun h => .inl h.1) .inr
theorem FzT.sq {a : Addr} {xs : List V} (h : FzT G ρ H a xs) : SqT G.K H a xs := h.elim (fun ⟨⟨o, h, _⟩, _⟩ => .inl (.inr ⟨o, h⟩)) fun ⟨o, its, n, h1, h2, _, h3⟩ => .inr ⟨o, its, n, h1, h2, h3⟩
theorem Ext0.rd {a : Addr} {u : HO} (e : Ext0 ρ H ρ' H') (hu : ∀ ps, u ≠ .tbl ps) (h : Rd H a u) (n : a ∉ ρ) : Rd H' a u ∧ a ∉ ρ' := by
  have hn : H a ≠ none := by
    rcases h with h | ⟨o, h⟩ <;> rw [h] <;> simp
  refine ⟨?_, fun m => hn (e.new a m n)⟩
  rcases h with h | ⟨o, h⟩
  · exact .inl (e.keep a _ h n hu)
  · exact .inr ⟨o, e.keep a _ h n fun ps z => by cases z⟩
theorem Ext0.at {a : Addr} {u : HO} (e : Ext0 ρ H ρ' H') (h : H a = some u) (n : a ∉ ρ) (hu : ∀ ps, u ≠ .tbl ps) : H' a = some u ∧ a ∉ ρ' :=
  ⟨e.keep a u h n hu, fun m => by have z := e.new a m n; rw [h] at z; cases z⟩
theorem FzL.ext {a : Addr} {xs : List V} (h : FzL ρ H a xs) (e : Ext0 ρ H ρ' H') : FzL ρ' H' a xs := e.at h.1 h.2 fun ps z => by cases z
theorem FzS.ext {a : Addr} {xs : List V} (h : FzS G ρ H a xs) (e : Ext0 ρ H ρ' H') : FzS G ρ' H' a xs :=
  h.elim (fun h => .inl (e.rd (fun ps z => by cases z) h.1 h.2)) .inr
theorem FzT.ext {a : Addr} {xs : List V} (h : FzT G ρ H a xs) (e : Ext0 ρ H ρ' H') : FzT G ρ' H' a xs :=
  h.elim (fun ⟨⟨o, h, hd⟩, n⟩ => .inl ⟨⟨o, e.keep a _ h n (fun ps z => by cases z), hd⟩, fun m => by have z := e.new a m n; rw [h] at z; cases z⟩) .inr
theorem CloAt.ext {k : Nat} {f c' : Addr} {q : Str} {params : Arguments} {body : Expr} {scope : Scope} {cl : List (Str × Addr)} {fr : List Str} (h : CloAt G ρ H k f c' q params body scope cl fr) (e : Ext0 ρ H ρ' H') : CloAt G ρ' H' k f c' q params body scope cl fr := by
  obtain ⟨a1, a2⟩ := e.at h.obj h.nf (fun ps z => by unfold LamO at z; cases z)
  obtain ⟨b1, b2⟩ := e.at h.code h.nc (fun ps => LamX.codeO_ne ps)
  exact ⟨a1, a2, b1, b2, h.lam, h.inj, h.only⟩
theorem CellH.ext {c : Addr} {v : V} (h : CellH H c v) (n : c ∉ ρ) (e : Ext0 ρ H ρ' H') : CellH H' c v ∧ c ∉ ρ' := by
  obtain ⟨o, u, a, b, r⟩ := h
  obtain ⟨a1, a2⟩ := e.at a n (fun ps z => by cases z)
  exact ⟨⟨o, u, a1, b, r⟩, a2⟩
mutual
theorem Rep.ext (e : Ext0 ρ H ρ' H') : ∀ (d : D) {v : V}, Rep G oc ρ H d v → Rep G oc ρ' H' d v
  | .non, _, h => by simp only [Rep] at h ⊢; exact h
  | .bl _, _, h => by simp only [Rep] at h ⊢; exact h
  | .int _, _, h => by simp only [Rep] at h ⊢; exact h
  | .str _, _, h => by simp only [Rep] at h ⊢; exact h
  | .tup ds, _, h => by
    simp only [Rep] at h ⊢
    obtain ⟨a, vs, h1, h2, h3⟩ := h
    exact ⟨a, vs, h1, h2.ext e, RepL.ext e ds h3⟩
  | .lst ds, _, h => by
    simp only [Rep] at h ⊢
    obtain ⟨a, vs, h1, h2, h3⟩ := h
    exact ⟨a, vs, h1, h2.ext e, RepL.ext e ds h3⟩
  | .scr ns, _, h => by
    simp only [Rep] at h ⊢
    obtain ⟨a, h1, h2⟩ := h
    exact ⟨a, h1, h2.ext e⟩
  | .cell n, _, h => by
    simp only [Rep] at h ⊢
    obtain ⟨a, h1, h2⟩ := h
    obtain ⟨t, ht⟩ := e.pre
    refine ⟨a, h1, ?_⟩
    rw [← ht, List.getElem?_append_left (List.getElem?_eq_some_iff.mp h2).1]
    exact h2
  | .fn x, _, h => by simp only [Rep] at h ⊢; exact h
  | .own k caps, _, h => by
    simp only [Rep] at h ⊢
    obtain ⟨f, c', q, params, body, scope, cl, fr, h1, h2, h3, h4⟩ := h
    exact ⟨f, c', q, params, body, scope, cl, fr, h1, h2.ext e, h3, h4⟩
  | .clo k caps, _, h => by
    simp only [Rep] at h ⊢
    obtain ⟨f, c', q, params, body, scope, cl, fr, vs, h1, h2, hc, h3, h4, h5⟩ := h
    refine ⟨f, c', q, params, body, scope, cl, fr, vs, h1, h2.ext e, hc, RepL.ext e caps h3, h4, fun j y z a b => ?_⟩
    obtain ⟨c, c1, c2, c3⟩ := h5 j y z a b
    obtain ⟨d1, d2⟩ := c2.ext c3 e
    exact ⟨c, c1, d1, d2⟩
theorem RepL.ext (e : Ext0 ρ H ρ' H') : ∀ (ds : List D) {vs : List V}, RepL G oc ρ H ds vs → RepL G oc ρ' H' ds vs
  | [], _, h => by simp only [RepL] at h ⊢; exact h
  | d :: ds, _, h => by
    simp only [RepL] at h ⊢
    obtain ⟨v, r, h1, h2, h3⟩ := h
    exact ⟨v, r, h1, Rep.ext e d h2, RepL.ext e ds h3⟩
end
theorem RepL.cons {d : D} {ds : List D} {v : V} {vs : List V} (h : Rep G oc ρ H d v) (t : RepL G oc ρ H ds vs) : RepL G oc ρ H (d :: ds) (v :: vs) := by
  simp only [RepL]; exact ⟨v, vs, rfl, h, t⟩
theorem RepL.nil : RepL G oc ρ H [] [] := by simp only [RepL]
theorem RepL.cons_inv {d : D} {ds : List D} {vs : List V} (h : RepL G oc ρ H (d :: ds) vs) : ∃ v r, vs = v :: r ∧ Rep G oc ρ H d v ∧ RepL G oc ρ H ds r := by
  simpa only [RepL] using h
theorem RepL.nil_inv {vs : List V} (h : RepL G oc ρ H [] vs) : vs = [] := by simpa only [RepL] using h
theorem RepL.length : ∀ {ds : List D} {vs : List V}, RepL G oc ρ H ds vs → vs.length = ds.length
  | [], vs, h => by rw [h.nil_inv]; rfl
  | d :: ds, vs, h => by
    obtain ⟨v, r, rfl, _, t⟩ := h.cons_inv
    simp [RepL.length t]
theorem RepL.get : ∀ {ds : List D} {vs : List V} {i : Nat} {d : D}, RepL G oc ρ H ds vs → ds[i]? = some d → ∃ v, vs[i]? = some v ∧ Rep G oc ρ H d v
  | [], _, _, _, _, e => by simp at e
  | d :: ds, vs, 0, _, h, e => by
    obtain ⟨v, r, rfl, h1, _⟩ := h.cons_inv
    simp at e; subst e
    exact ⟨v, rfl, h1⟩
  | d :: ds, vs, i + 1, d', h, e => by
    obtain ⟨v, r, rfl, _, t⟩ := h.cons_inv
    simpa using RepL.get (i := i) t (by simpa using e)
theorem RepL.getV : ∀ {ds : List D} {vs : List V} {i : Nat} {v : V}, RepL G oc ρ H ds vs → vs[i]? = some v → ∃ d, ds[i]? = some d ∧ Rep G oc ρ H d v
  | [], vs, _, _, h, e => by rw [h.nil_inv] at e; simp at e
  | d :: ds, vs, 0, _, h, e => by
    obtain ⟨v, r, rfl, h1, _⟩ := h.cons_inv
    simp at e; subst e
    exact ⟨d, rfl, h1⟩
  | d :: ds, vs, i + 1, v', h, e => by
    obtain ⟨v, r, rfl, _, t⟩ := h.cons_inv
    simpa using RepL.getV (i := i) t (by simpa using e)
theorem RepL.append : ∀ {ds es : List D} {vs ws : List V}, RepL G oc ρ H ds vs → RepL G oc ρ H es ws → RepL G oc ρ H (ds ++ es) (vs ++ ws)
  | [], _, vs, _, h, t => by rw [h.nil_inv]; exact t
  | d :: ds, _, vs, _, h, t => by
    obtain ⟨v, r, rfl, h1, h2⟩ := h.cons_inv
    exact .cons h1 (RepL.append h2 t)
theorem RepL.set : ∀ {ds : List D} {vs : List V} (i : Nat) {d : D} {v : V}, RepL G oc ρ H ds vs → Rep G oc ρ H d v → RepL G oc ρ H (ds.set i d) (vs.set i v)
  | [], vs, _, _, _, h, _ => by rw [h.nil_inv]; exact .nil
  | d :: ds, vs, 0, _, _, h, t => by
    obtain ⟨v, r, rfl, h1, h2⟩ := h.cons_inv
    exact .cons t h2
  | d :: ds, vs, i + 1, _, _, h, t => by
    obtain ⟨v, r, rfl, h1, h2⟩ := h.cons_inv
    exact .cons h1 (RepL.set i h2 t)
theorem RepL.take : ∀ {ds : List D} {vs : List V} (n : Nat), RepL G oc ρ H ds vs → RepL G oc ρ H (ds.take n) (vs.take n)
  | _, _, 0, _ => by simpa using RepL.nil
  | [], vs, n + 1, h => by rw [h.nil_inv]; exact .nil
  | d :: ds, vs, n + 1, h => by
    obtain ⟨v, r, rfl, h1, h2⟩ := h.cons_inv
    exact .cons h1 (RepL.take n h2)
theorem RepL.drop : ∀ {ds : List D} {vs : List V} (n : Nat), RepL G oc ρ H ds vs → RepL G oc ρ H (ds.drop n) (vs.drop n)
  | _, _, 0, h => by simpa using h
  | [], vs, n + 1, h => by rw [h.nil_inv]; exact .nil
  | d :: ds, vs, n + 1, h => by
    obtain ⟨v, r, rfl, h1, h2⟩ := h.cons_inv
    exact RepL.drop n h2
theorem RepL.reverse : ∀ {ds : List D} {vs : List V}, RepL G oc ρ H ds vs → RepL G oc ρ H ds.reverse vs.reverse
  | [], vs, h => by rw [h.nil_inv]; exact .nil
  | d :: ds, vs, h => by
    obtain ⟨v, r, rfl, h1, h2⟩ := h.cons_inv
    rw [List.reverse_cons, List.reverse_cons]
    exact (RepL.reverse h2).append (.cons h1 .nil)
theorem RepL.replicate {d : D} {v : V} (h : Rep G oc ρ H d v) : ∀ n : Nat, RepL G oc ρ H (List.replicate n d) (List.replicate n v)
  | 0 => .nil
  | n + 1 => .cons h (RepL.replicate h n)
end

/-! ### the store -/
section
variable (G : GI) (ρ : Pl) (H : Hp)
def SOk (a : Addr) : SO → Prop
  | .lst ds => ∃ vs, H a = some (.lst vs) ∧ D.cleans ds = true ∧ RepL G (fun _ => none) ρ H ds vs
  | .ins c fs => ∃ C dx vs, G.mg c = some (.ref C) ∧ H a = some (.ins C dx ((fs.map (·.1)).zip vs)) ∧ H dx = some (.own a) ∧ dx ∉ ρ ∧ D.cleans (fs.map (·.2)) = true ∧ RepL G (fun _ => none) ρ H (fs.map (·.2)) vs
structure SR (S : Sto) : Prop where
  len : ρ.c.length = S.length
  nd : ρ.c.Nodup
  at_ : ∀ (i : Nat) (o : SO) (a : Addr), S[i]? = some o → ρ.c[i]? = some a → SOk G ρ H a o
  vol : ∀ a ∈ ρ.v, (∃ xs, H a = some (.lst xs)) ∧ a ∉ ρ.c
  tab : NdefX.TabsN G.T H
end
/-- the exception behind an abstract heap -/
def XRep (G : GI) (H : Hp) (x : Exc) (c : Value) (dd : Option Addr) : Prop :=
  ∃ C, c = .ref C ∧ G.mg x.cls = some (.ref C) ∧ match x.fld with
    | none => dd = none
    | some (f, n) => ∃ d, dd = some d ∧ H d = some (.xd [(f, .int n)])

/-- the frame's slots -/
structure ER (G : GI) (oc : Nat → Option Addr) (ρ : Pl) (H : Hp) (env : Env') (σ : L2.St) : Prop where
  len : env.length = σ.length
  at_ : ∀ (i : Nat) (d : D), env[i]? = some (some d) → ∃ v, σ[i]? = some (some v) ∧ Rep G oc ρ H d v
theorem ER.ext {G : GI} {oc : Nat → Option Addr} {ρ ρ' : Pl} {H H' : Hp} {env : Env'} {σ : L2.St} (h : ER G oc ρ H env σ) (e : Ext0 ρ H ρ' H') : ER G oc ρ' H' env σ :=
  ⟨h.len, fun i d q => let ⟨v, a, b⟩ := h.at_ i d q; ⟨v, a, Rep.ext e d b⟩⟩
theorem ER.set {G : GI} {oc : Nat → Option Addr} {ρ : Pl} {H : Hp} {env : Env'} {σ : L2.St} {d : D} {v : V} (h : ER G oc ρ H env σ) (i : Nat) (r : Rep G oc ρ H d v) : ER G oc ρ H (env.set i (some d)) (σ.set i (some v)) := by
  refine ⟨by simp [h.len], fun j d' q => ?_⟩
  by_cases hj : i = j
  · subst hj
    by_cases hl : i < env.length
    · rw [List.getElem?_set_self hl] at q
      cases q
      exact ⟨v, List.getElem?_set_self (h.len ▸ hl), r⟩
    · rw [List.getElem?_eq_none (by simpa using hl)] at q; cases q
  · rw [List.getElem?_set_ne hj] at q
    obtain ⟨w, a, b⟩ := h.at_ j d' q
    exact ⟨w, by rw [List.getElem?_set_ne hj]; exact a, b⟩
theorem ER.unset {G : GI} {oc : Nat → Option Addr} {ρ : Pl} {H : Hp} {env : Env'} {σ : L2.St} (h : ER G oc ρ H env σ) (i : Nat) : ER G oc ρ H (env.set i none) (σ.set i none) := by
  refine ⟨by simp [h.len], fun j d' q => ?_⟩
  by_cases hj : i = j
  · subst hj
    by_cases hl : i < env.length
    · rw [List.getElem?_set_self hl] at q; cases q
    · rw [List.getElem?_eq_none (by simpa using hl)] at q; cases q
  · rw [List.getElem?_set_ne hj] at q
    obtain ⟨w, a, b⟩ := h.at_ j d' q
    exact ⟨w, by rw [List.getElem?_set_ne hj]; exact a, b⟩

/-! ### what an evaluation's end asks -/
section
variable (G : GI)
/-- of any kind α, held by β -/
def tG {α β : Type} (R : Pl → Hp → α → β → Prop) (r : Res α) (ρ : Pl) (H : Hp) (Q : β → Hp → Prop) (E : Value → Option Addr → Hp → Prop) : Prop :=
  match r with
  | .ok d S' => ∀ v H' ρ', Ext ρ H ρ' H' → SR G ρ' H' S' → R ρ' H' d v → Q v H'
  | .exc x S' => ∀ c dd H' ρ', Ext ρ H ρ' H' → SR G ρ' H' S' → XRep G H' x c dd → E c dd H'
  | .bad => False
/-- as a reading -/
def tM {α β : Type} (oc : Nat → Option Addr) (R : Pl → Hp → α → β → Prop) (W : WX) (m : Env' → Sto → Res α) : L2.St → Hp → (β → Hp → Prop) → Prop :=
  fun σ H Q => ∃ env ρ S, ER G oc ρ H env σ ∧ SR G ρ H S ∧ tG G R (m env S) ρ H Q (fun c dd H' => W c dd σ H')
abbrev RD (oc : Nat → Option Addr) : Pl → Hp → D → V → Prop := fun ρ H d v => Rep G oc ρ H d v
abbrev RL (oc : Nat → Option Addr) : Pl → Hp → List D → List V → Prop := fun ρ H d v => RepL G oc ρ H d v
abbrev RB : Pl → Hp → Bool → Bool → Prop := fun _ _ a b => a = b
end
section
variable {G : GI} {α β α' β' : Type} {oc : Nat → Option Addr} {R : Pl → Hp → α → β → Prop} {R' : Pl → Hp → α' → β' → Prop} {ρ ρ1 : Pl} {H H1 : Hp}
theorem tG.shift {r : Res α} {Q : β → Hp → Prop} {E : Value → Option Addr → Hp → Prop} (h : tG G R r ρ H Q E) (e : Ext ρ H ρ1 H1) : tG G R r ρ1 H1 Q E := by
  cases r with
  | ok d S' => exact fun v H' ρ' e' s r => h v H' ρ' (e.trans e') s r
  | exc x S' => exact fun c dd H' ρ' e' s r => h c dd H' ρ' (e.trans e') s r
  | bad => exact h
theorem tG.mono {r : Res α} {Q Q' : β → Hp → Prop} {E E' : Value → Option Addr → Hp → Prop} (h : tG G R r ρ H Q E) (hq : ∀ v H', Q v H' → Q' v H') (he : ∀ c d H', E c d H' → E' c d H') : tG G R r ρ H Q' E' := by
  cases r with
  | ok d S' => exact fun v H' ρ' e' s r => hq _ _ (h v H' ρ' e' s r)
  | exc x S' => exact fun c dd H' ρ' e' s r => he _ _ _ (h c dd H' ρ' e' s r)
  | bad => exact h
theorem tM.mono {W : WX} {m : Env' → Sto → Res α} {σ : L2.St} {Q Q' : β → Hp → Prop} (h : tM G oc R W m σ H Q) (hq : ∀ v H', Q v H' → Q' v H') : tM G oc R W m σ H Q' :=
  let ⟨env, ρ, S, a, b, c⟩ := h
  ⟨env, ρ, S, a, b, c.mono hq fun _ _ _ z => z⟩
/-- the first part of an evaluation, then the rest -/
theorem bindR {W : WX} {ma : Env' → Sto → Res α} {k : α → Sto → Res α'} {env : Env'} {σ : L2.St} {S : Sto} {Q : β' → Hp → Prop} (er : ER G oc ρ H env σ) (sr : SR G ρ H S)
    (h : tG G R' ((ma env S).bind k) ρ H Q (fun c dd H' => W c dd σ H')) :
    tM G oc R W ma σ H (fun x H1 => ∃ d ρ1 S1, Ext ρ H ρ1 H1 ∧ SR G ρ1 H1 S1 ∧ R ρ1 H1 d x ∧ tG G R' (k d S1) ρ1 H1 Q (fun c dd H' => W c dd σ H')) := by
  refine ⟨env, ρ, S, er, sr, ?_⟩
  cases q : ma env S with
  | ok d S1 =>
    intro v H' ρ' e s r
    rw [q] at h
    exact ⟨d, ρ', S1, e, s, r, tG.shift h e⟩
  | exc x S1 =>
    rw [q] at h
    exact h
  | bad =>
    rw [q] at h
    exact h
/-- an evaluation's own end -/
theorem endR {W : WX} {ma : Env' → Sto → Res α} {env : Env'} {σ : L2.St} {S : Sto} {Q : β → Hp → Prop} (er : ER G oc ρ H env σ) (sr : SR G ρ H S)
    (h : tG G R (ma env S) ρ H Q (fun c dd H' => W c dd σ H')) : tM G oc R W ma σ H Q := ⟨env, ρ, S, er, sr, h⟩
/-- a value is there -/
theorem okR {d : α} {S : Sto} {Q : β → Hp → Prop} {E : Value → Option Addr → Hp → Prop} {v : β} (sr : SR G ρ H S) (h : tG G R (.ok d S) ρ H Q E) (r : R ρ H d v) : Q v H := h v H ρ Ext.refl sr r
end

/-! ### judgements -/
abbrev oc0 : Nat → Option Addr := fun _ => none
def ocOf (X : Cx) : Nat → Option Addr := fun i => (X.N[i]?).bind fun y => X.env.cells.lookup y
def DE (G : GI) (oc : Nat → Option Addr) (X : Cx) (W : WX) (m : Env' → Sto → Res D) (e : Expr) : Prop := PE X e (tM G oc (RD G oc) W m)
def DA (G : GI) (oc : Nat → Option Addr) (X : Cx) (W : WX) (m : Env' → Sto → Res (List D)) (es : List Expr) : Prop := PA X es (tM G oc (RL G oc) W m)
def DT (G : GI) (oc : Nat → Option Addr) (X : Cx) (W : WX) (m : Env' → Sto → Res Bool) (e : Expr) : Prop := PT X e (tM G oc RB W m)
theorem PE.conseq {X : Cx} {e : Expr} {t t' : TE} (h : PE X e t) (w : ∀ σ H Q, t' σ H Q → t σ H Q) : PE X e t' := ⟨fun pins s σ H Q I hw => h.run pins s σ H Q I (w _ _ _ hw)⟩
theorem PT.conseq {X : Cx} {e : Expr} {t t' : TT} (h : PT X e t) (w : ∀ σ H Q, t' σ H Q → t σ H Q) : PT X e t' := ⟨fun pins s σ H Q I hw => h.run pins s σ H Q I (w _ _ _ hw)⟩
theorem PW.conseq {X : Cx} {e : Expr} {t t' : TT} (h : PW X e t) (w : ∀ σ H Q, t' σ H Q → t σ H Q) : PW X e t' := ⟨fun wh pins s σ H Q I hw => h.run wh pins s σ H Q I (w _ _ _ hw)⟩
theorem PA.conseq {X : Cx} {e : List Expr} {t t' : TA} (h : PA X e t) (w : ∀ σ H Q, t' σ H Q → t σ H Q) : PA X e t' := ⟨fun pos pins s σ H Q I hw => h.run pos pins s σ H Q I (w _ _ _ hw)⟩
theorem PS.conseq {X : Cx} {e : Stmt} {t t' : TS} (h : PS X e t) (w : ∀ σ H Q, t' σ H Q → t σ H Q) : PS X e t' := ⟨fun pins s σ H Q I hw => h.run pins s σ H Q I (w _ _ _ hw)⟩
theorem PSs.conseq {X : Cx} {e : List Stmt} {t t' : TS} (h : PSs X e t) (w : ∀ σ H Q, t' σ H Q → t σ H Q) : PSs X e t' := ⟨fun pins s σ H Q I hw => h.run pins s σ H Q I (w _ _ _ hw)⟩
end LT
set_option Elab.async false
set_option linter.all false
set_option maxRecDepth 100000
set_option maxHeartbeats 2000000
/-! Own layer: tuples that are known to carry no dict of their own (so that t.count can be called on them). -/
namespace LT
open PySem PySem.Spec PyProof.Rows L2

section
variable {X : Cx} {pins : List (Addr × Obj)} {s : Shared} {σ : L2.St} {H : Hp}
/-- a fresh tuple -/
theorem new_bare {its : List Value} {xs : List V} {Q : VK} {h' : Heap} {t' : Nat} (I : Inv X pins σ H s) (k : ∀ b u, s.heap.get? b = some u → h'.get? b = some u) (hz : xs.length ≤ sizeLine) (r : Vals xs its)
    (q : ∀ p o, o.dict = none → H p = none → Q (.ref p) (upd H p (.frz o (.tup xs)))) :
    EP X pins σ Q (.ref h'.objs.size) { s with heap := h'.push { cls := .type "tuple", data := .seq its.toArray }, toks := t' } := by
  have I1 : Inv X pins σ H { s with heap := h', toks := t' } := I.kept (t' := t') k
  refine ⟨.ref h'.objs.size, _, I1.laid (t' := t') (o := .frz { cls := .type "tuple", data := .seq its.toArray } (.tup xs)) (fun b ob q => Heap.get?_push_of_some _ q) (Nat.le_refl _) ?_, rfl, q _ _ rfl (I1.hok.fresh (Nat.le_refl _))⟩
  exact ⟨Heap.get?_push_size _ rfl, hz, its, r, IsTup.new _ _⟩
/-- a fresh tuple on the state's own heap -/
theorem new_bare0 {its : List Value} {xs : List V} {Q : VK} {t' : Nat} (I : Inv X pins σ H s) (hz : xs.length ≤ sizeLine) (r : Vals xs its) (q : ∀ p o, o.dict = none → H p = none → Q (.ref p) (upd H p (.frz o (.tup xs)))) :
    EP X pins σ Q (.ref s.heap.objs.size) { s with heap := s.heap.push { cls := .type "tuple", data := .seq its.toArray }, toks := t' } := new_bare (h' := s.heap) I (fun _ _ e => e) hz r q
end
section
variable {X : Cx}
/-- the wish of a fresh tuple -/
def BareQ (H : Hp) (Q : VK) (xs : List V) : Prop := ∀ p o, o.dict = none → H p = none → Q (.ref p) (upd H p (.frz o (.tup xs)))
def rRepB (K : PySem.W.Frag) : R2 := fun x y H Q => ∃ l k xs, x = .ref l ∧ y = .int k ∧ SqT K H l xs ∧ xs ≠ [] ∧ 2 ≤ k ∧ k ≤ 1000 ∧ xs.length ≤ 1000 ∧ BareQ H Q (List.replicate k.toNat xs).flatten
theorem op_repB : OpR X (binaryOp .Mult) (rRepB X.K) := by
  intro pins s σ H x y v u Q I rx ry h
  obtain ⟨l, k, xs, rfl, rfl, hT, hne, h1, h2, hz, q⟩ := h
  cases rx
  obtain ⟨t, rfl⟩ := ry
  obtain ⟨its, r, ⟨⟨cls, dd, data, sl⟩, ho, hc, n, hd⟩, hs⟩ := I.tuple hT
  simp only at hc hd
  subst hc hd
  have hle : its.length = xs.length := r.length.symm
  have hn : its ≠ [] := fun e => hne (List.eq_nil_of_length_eq_zero (by rw [← hle, e]; rfl))
  have hi : its.toArray.isEmpty = false := by
    cases its with
    | nil => exact absurd rfl hn
    | cons a b => rfl
  have hsz0 : its.toArray.size = xs.length := by rw [List.size_toArray, hle]
  have hm : ((its.toArray.size : Nat) : Int) * k ≤ 1000000 := by
    rw [hsz0]
    have a1 : ((xs.length : Nat) : Int) * k ≤ 1000 * k := Int.mul_le_mul_of_nonneg_right (by omega) (by omega)
    omega
  have a0 : k.toNat * xs.length ≤ 1000 * 1000 := Nat.mul_le_mul (by omega) hz
  have flen : (List.replicate k.toNat its).flatten.length ≤ sizeLine := by
    rw [PyProof.Rows.lm_len_rep_flat, hle, sizeLine_eq]; omega
  have c0 : (decide (k < -(2 ^ 63)) || decide (k ≥ 2 ^ 63)) = false := by
    rw [decide_eq_false (by omega), decide_eq_false (by omega)] <;> rfl
  have c1 : (its.toArray.isEmpty || k == 1) = false := by
    rw [hi, Bool.false_or]
    exact beq_eq_false_iff_ne.mpr (by omega)
  have c2 : (decide (k ≤ 0) || its.toArray.isEmpty) = false := by
    rw [hi, Bool.or_false]
    exact decide_eq_false (by omega)
  have c4 : Builtin.Tuple.tupleTooMany (((its.toArray.size : Nat) : Int) * k) = false := by
    unfold Builtin.Tuple.tupleTooMany
    rw [sizeLine_eq]
    exact decide_eq_false (by omega)
  refine wpAny_binaryOp_repeat_ref (T := "tuple") (U := "int") (by decide) ⟨_, ho, rfl⟩ (fun s' => typeIs_int s' k t) noFill_tuple_mul F.fills_int_mul F.slot_int_rmul repeat_tuple F.slot_int_index.lookup
    (call_meets F.slot_int_rmul (typeIs_int s k t) F.entry_int_rmul (F.args_int_rmul_2 _ _) (int_rmul_tuple k t l its.toArray n dd sl)
      ⟨ho, rfl, ⟨_, ho, rfl⟩, call_meets F.slot_tuple_mul ⟨_, ho, rfl⟩ F.entry_tuple_mul (F.args_tuple_mul_2 _ _) (tuple_mulW l its.toArray n dd sl k t c0 c1 c2 (by omega) c4 (by rw [size_rep, List.size_toArray]; exact flen)) ⟨ho, ?_⟩⟩)
  rw [size_rep]
  exact new_bare0 I (by rw [PyProof.Rows.lm_len_rep_flat, sizeLine_eq]; omega) (r.rep k.toNat) q
def rCatB (K : PySem.W.Frag) : R2 := fun x y H Q => ∃ a b xs ys, x = .ref a ∧ y = .ref b ∧ SqT K H a xs ∧ SqT K H b ys ∧ xs.length + ys.length ≤ sizeLine ∧
  (xs = [] → Q (.ref b) H) ∧ (xs ≠ [] → ys = [] → Q (.ref a) H) ∧ (xs ≠ [] → ys ≠ [] → BareQ H Q (xs ++ ys))
theorem op_catB : OpR X (binaryOp .Add) (rCatB X.K) := by
  intro pins s σ H x y v u Q I rx ry h
  obtain ⟨a, b, xs, ys, rfl, rfl, ha, hb, hz, q0, q1, q2⟩ := h
  by_cases hx : xs = []
  · exact op_catA pins s σ H _ _ v u Q I rx ry ⟨a, b, xs, ys, rfl, rfl, ha, hb, hz, q0, q1, fun h => absurd hx h⟩
  · cases rx
    cases ry
    obtain ⟨its, r1, p1, _⟩ := I.tuple ha
    obtain ⟨its2, r2, p2, _⟩ := I.tuple hb
    exact HT.cat_tup p1 p2 (fun z => hx (r1.nil_iff.mp z)) (fun z => ⟨.ref a, H, I, rfl, q1 hx (r2.nil_iff.mp z)⟩) (fun z => new_bare0 I (by rw [List.length_append]; exact hz) (r1.append r2) (q2 hx fun w => z (r2.nil_iff.mpr w))) (by rw [← r1.length, ← r2.length]; exact hz)
def rSlB (K : PySem.W.Frag) : V → Option Int → Option Int → Hp → VK → Prop := fun x lo hi H Q => ∃ a xs, x = .ref a ∧ SqT K H a xs ∧
  (HT.sIx xs.length 0 lo = 0 ∧ HT.sIx xs.length xs.length hi = xs.length → Q (.ref a) H) ∧ (¬ (HT.sIx xs.length 0 lo = 0 ∧ HT.sIx xs.length xs.length hi = xs.length) → BareQ H Q (cutV xs lo hi))
theorem sl_tupB : SlR X (rSlB X.K) := by
  intro pins s σ H x v vl vu lo hi sl Q I rx hs pl pu h
  obtain ⟨a, xs, rfl, hx, q1, q2⟩ := h
  by_cases hw : HT.sIx xs.length 0 lo = 0 ∧ HT.sIx xs.length xs.length hi = xs.length
  · exact sl_tupA pins s σ H _ v vl vu lo hi sl Q I rx hs pl pu ⟨a, xs, rfl, hx, q1, fun h => absurd hw h⟩
  · cases rx
    obtain ⟨its, r, ht, hz⟩ := I.tuple hx
    have hlen : its.toArray.size = xs.length := by rw [List.size_toArray]; exact r.length.symm
    refine ⟨"tuple", _, PyProof.Rows.slot_tuple_getitem.lookup, ht.typeIs, ?_⟩
    refine HT.getItem_tuple_cut ht hs pl pu (by rw [hlen]; exact hw) ?_ (by rw [hlen]; exact hz)
    rw [hlen]
    exact new_bare0 I (Nat.le_trans (cutV_length xs lo hi) hz) ((r.drop (HT.sIx xs.length 0 lo)).take (HT.sIx xs.length xs.length hi - HT.sIx xs.length 0 lo)) (q2 hw)
/-- a written tuple -/
def tTupB (t : TA) : TE := fun σ H Q => t σ H fun xs H1 => xs.length ≤ sizeLine ∧ BareQ H1 Q xs
theorem pe_tupB {t : TA} {es : List Expr} {k : Nat} {pos : Pos} (h : PA X es t) : PE X (.Tuple es k pos) (tTupB t) :=
  ⟨fun pins s σ H Q I hq => wpAny_Tuple_spliced (thn (h.run pos pins s σ H _ I hq) fun us s1 ⟨xs, H1, I1, r, z, q⟩ => ⟨by rw [← r.length]; exact z, new_bare0 I1 z r q⟩)⟩
theorem call_tuple_ofB : CallR X (.type "tuple") (fun xs H Q => ∃ p ys, xs = [.ref p] ∧ ((SqL X.K H p ys ∧ BareQ H Q ys) ∨ (SqT X.K H p ys ∧ Q (.ref p) H))) := by
  intro pins s σ H xs us Q I r h
  obtain ⟨p, ys, rfl, h⟩ := h
  rcases h with ⟨hq, q⟩ | ⟨hq, q⟩
  · obtain ⟨u, rfl, rx⟩ := vals1 r
    cases rx
    obtain ⟨its, r', pl, hz⟩ := I.list hq
    have hlen := r'.length
    exact call_tuple_list pl.isList (fun h' kp => new_bare (h' := h') I kp hz r' q) (by simp only [List.size_toArray] <;> omega)
  · exact call_tuple_of pins s σ H _ us Q I r ⟨p, ys, rfl, .inr ⟨hq, q⟩⟩
end
section
variable {X : Cx} {o e : Expr} {es : List Expr} {to : TE} {t : TA} {name : Str} {apos cpos : Pos} {T id : String} {r : V → List V → Hp → VK → Prop}
/-- the value is of that builtin type and carries no dict -/
def TyB (K : PySem.W.Frag) (T : String) (x : V) (H : Hp) : Prop := tyV K T x H ∨ (T = "tuple" ∧ ∃ a o xs, x = .ref a ∧ H a = some (.frz o (.tup xs)) ∧ o.dict = none)
theorem tyB_is {pins : List (Addr × Obj)} {σ : L2.St} {H : Hp} {s : Shared} {x : V} {v : Value} (I : Inv X pins σ H s) (r : RelV x v) (ty : TyB X.K T x H) :
    s.TypeIs v T ∧ ∀ a, v = .ref a → ∃ ob, s.heap.get? a = some ob ∧ ob.dict = none := by
  rcases ty with ty | ⟨rfl, a, o, xs, rfl, h, hd⟩
  · exact tyV_is I r ty
  · cases r
    obtain ⟨h1, _, its, _, ht⟩ := I.hok a _ h
    refine ⟨ht.typeIs, fun b e => ?_⟩
    cases e
    exact ⟨o, h1, hd⟩
def tBMB (K : PySem.W.Frag) (T : String) (r : V → List V → Hp → VK → Prop) (to : TE) (t : TA) : TE := fun σ H Q => to σ H fun x H1 => TyB K T x H1 ∧ t σ H1 fun xs H2 => r x xs H2 Q
theorem pe_bmB (pa : PlainAttrs T) (slot : Slot T name id) (hty : typeOf (.builtin id) = pure (.type "method_descriptor")) (hm : MtR X id r) (ho : PE X o to) (ha : PA X (e :: es) t)
    (hbase : attributeBase o name X.env (eval o X.env) = eval o X.env)
    (hfew : ((backTo cpos (starEach (e :: es) X.env)).all (fun x => !x.1) && (backToKw cpos (keywordEach [] X.env)).all (fun x => x.1.isSome)
      && decide ((e :: es).length + ([] : List Keyword).length + (if ([] : List Keyword).isEmpty then 0 else 1) < 30)) = true)
    (hline : (apos.endLine == cpos.line) = true) (hs : starEach (e :: es) X.env = (false, eval e X.env) :: starEach es X.env) (hplain : (backTo cpos (starEach es X.env)).any (·.1) = false) :
    PE X (.Call (.Attribute o name apos) (e :: es) [] cpos) (tBMB X.K T r to t) := by
  refine ⟨fun pins s σ H Q I h => ?_⟩
  refine wpAny_Call_method_late hbase hfew hline rfl (thn (ho.run pins s σ H _ I h) fun v s1 ⟨x, H1, I1, r1, ty, q1⟩ => ?_)
  obtain ⟨h1, h2⟩ := tyB_is I1 r1 ty
  refine ⟨T, id, pa, slot, hty, h1, h2, ?_⟩
  have hA := ha.run cpos pins s1 σ H1 _ I1 q1
  rw [hs] at hA ⊢
  refine Calls.callWith_builtin (by show (false || (backTo cpos (starEach es X.env)).any (·.1)) = false; rw [hplain] <;> rfl) (Calls.evalArgs_plain ?_)
  exact thn hA fun us s2 ⟨vs, H2, I2, r2, q2⟩ => hm pins s2 σ H2 x vs v us Q I2 r1 r2 q2
end
end LT
set_option Elab.async false
set_option linter.all false
set_option maxRecDepth 100000
set_option maxHeartbeats 2000000
/-! Own layer, part B: the small language and its evaluator. -/
namespace LT
open PySem PySem.Spec PyProof.Rows L2

inductive Op2 where
  | add | addm | sub | mul | mulm | fdiv | mod | pow
  deriving DecidableEq
inductive Cm where
  | eq | ne | lt | le | gt | ge | in_ | nin
  deriving DecidableEq
inductive TyK where
  | int | bool | str | tuple | list
  deriving DecidableEq
inductive Bi where
  | len | all | any | sorted | tuple | list | listm | int | str | abs | sum | min | max | bool
  deriving DecidableEq
inductive Mt where
  | split | join | index | append | clear | insert | replace | count | countT
  deriving DecidableEq
inductive IT where
  | name (i : Nat)
  | tup (is : List Nat)
  deriving DecidableEq
mutual
inductive IE where
  | var (i : Nat) | int (i : Int) | str (x : Str) | bl (b : Bool) | non | gfn (x : Str) | gcon (x : Str)
  | bin (o : Op2) (a b : IE) | neg (a : IE) | not (a : IE) | and (es : List IE) | or (es : List IE)
  | cmp (c : Cm) (a b : IE) | chain (c d : Cm) (a b e : IE) | isN (ng : Bool) (a : IE) | isB (ng b : Bool) (a : IE)
  | ite (c a b : IE)
  | tup (es : List IE) | lst (m : Bool) (es : List IE)
  | idx (a i : IE) | sl (a : IE) (lo hi : IO) | rev (a : IE)
  | call (f : Str) (es : List IE) | callv (i : Nat) (es : List IE)
  | bi (b : Bi) (es : List IE) | isi (t : TyK) (a : IE) | meth (t : Mt) (a : IE) (es : List IE)
  | lam (k : Nat) (caps : List Nat)
  | comp (m : Bool) (own : List Nat) (tg : IT) (it : II) (c : IO) (elt : IE)
  | fstr (es : List IE)
inductive IO where
  | none | some (e : IE)
inductive II where
  | over (e : IE) | range1 (a : IE) | range2 (a b : IE) | zip (a b : IE) | enum (a : IE)
end
/-- what stands in an except suite -/
inductive Su where
  | kin | fld (f : Str) | setFld (i : Nat) (f : Str)
inductive IS where
  | asg (tg : IT) (e : IE)
  | asub (a i e : IE) | asub2 (a i b j : IE) (e : IE)
  | expr (e : IE) | aug (i : Nat) (o : Op2) (e : IE)
  | ifs (c : IE) (t f : List IS) | for_ (tg : IT) (it : II) (body : List IS) | while_ (c : IE) (body : List IS)
  | ret (e : IE) | retN | raise_ (x : Str) (arg : IO) | break_ | cont | pass
  | try_ (body : List IS) (cls : Str) (i : Nat) (su : Su)

/-! ### data -/
mutual
def D.toP : D → Option PyData
  | .non => some .none
  | .bl b => some (.bool b)
  | .int i => some (.int i)
  | .str x => some (.str x)
  | .tup ds => (D.toPs ds).map .tuple
  | .lst ds => (D.toPs ds).map .list
  | .cell _ => none
  | .scr _ => none
  | .fn _ => none
  | .own _ _ => none
  | .clo _ _ => none
def D.toPs : List D → Option (List PyData)
  | [] => some []
  | d :: ds => match d.toP, D.toPs ds with
    | some p, some ps => some (p :: ps)
    | _, _ => none
end
mutual
/-- no closure of this frame in it -/
def D.noOwn : D → Bool
  | .tup ds => D.noOwns ds
  | .lst ds => D.noOwns ds
  | .own _ _ => false
  | _ => true
def D.noOwns : List D → Bool
  | [] => true
  | d :: ds => d.noOwn && D.noOwns ds
end
mutual
/-- this frame's closures as others get them -/
def D.pub (env : Env') : D → Option D
  | .tup ds => (D.pubs env ds).map .tup
  | .lst ds => (D.pubs env ds).map .lst
  | .own k caps => (caps.mapM fun i => match env[i]? with
      | some (some d) => if D.clean d then some d else none
      | _ => none).map (.clo k)
  | d => some d
def D.pubs (env : Env') : List D → Option (List D)
  | [] => some []
  | d :: ds => match D.pub env d, D.pubs env ds with
    | some p, some ps => some (p :: ps)
    | _, _ => none
end
mutual
/-- cells from n on replaced by what g says -/
def D.fz (n : Nat) (g : Nat → Option D) : D → Option D
  | .tup ds => (D.fzs n g ds).map .tup
  | .lst ds => (D.fzs n g ds).map .lst
  | .cell k => if k < n then some (.cell k) else g k
  | .own _ _ => none
  | .clo _ _ => none
  | d => some d
def D.fzs (n : Nat) (g : Nat → Option D) : List D → Option (List D)
  | [] => some []
  | d :: ds => match D.fz n g d, D.fzs n g ds with
    | some p, some ps => some (p :: ps)
    | _, _ => none
end
def fzC (S : Sto) (n : Nat) : Nat → Nat → Option D
  | 0, _ => none
  | f + 1, k => match S[k]? with
    | some (.lst ds) => (D.fzs n (fzC S n f) ds).map .lst
    | _ => none
mutual
def D.cells_lt (n : Nat) : D → Bool
  | .tup ds => D.cells_lt_all n ds
  | .lst ds => D.cells_lt_all n ds
  | .cell k => decide (k < n)
  | .clo _ ds => D.cells_lt_all n ds
  | _ => true
def D.cells_lt_all (n : Nat) : List D → Bool
  | [] => true
  | d :: ds => D.cells_lt n d && D.cells_lt_all n ds
end
def SO.cells_lt (n : Nat) : SO → Bool
  | .lst ds => D.cells_lt_all n ds
  | .ins _ fs => D.cells_lt_all n (fs.map (·.2))
/-- the old part of the store behind a call, if it names nothing new -/
def oldPart : Sto → Sto → Option Sto
  | [], _ => some []
  | o :: S, o' :: S' => (oldPart S S').bind fun r => some (o' :: r)
  | _ :: _, [] => none

def Sto.items (S : Sto) : D → Option (List D)
  | .lst ds => some ds
  | .cell n => match S[n]? with
    | some (.lst ds) => some ds
    | _ => none
  | _ => none
/-- a cell's list in its place -/
def Sto.view (S : Sto) : D → D
  | .cell n => match S[n]? with
    | some (.lst ds) => .lst ds
    | _ => .cell n
  | d => d
def Sto.seq (S : Sto) : D → Option (List D)
  | .tup ds => some ds
  | d => S.items d

abbrev lineN : Nat := 16777216
def pdOk (p : PyData) : Bool := p.canLay0 && decide (p.depth ≤ 64)
def intsOf : List D → Option (List Int)
  | [] => some []
  | .int i :: ds => (intsOf ds).map (i :: ·)
  | _ => none
def blsOf : List D → Option (List Bool)
  | [] => some []
  | .bl i :: ds => (blsOf ds).map (i :: ·)
  | _ => none
def strsOf : List D → Option (List Str)
  | [] => some []
  | .str i :: ds => (strsOf ds).map (i :: ·)
  | _ => none
def flatD : D → Bool
  | .non => true | .bl _ => true | .int _ => true | .str _ => true | _ => false
def truthD (S : Sto) : D → Option Bool
  | .non => some false
  | .bl b => some b
  | .int i => some (i != 0)
  | .str x => if x.length ≤ lineN then some ((x.length : Int) != 0) else none
  | .tup ds => some (!ds.isEmpty)
  | d => (S.items d).map fun ds => !ds.isEmpty

def mulOk (i j : Int) : Bool := decide (i.natAbs < 2 ^ 64) || decide (j.natAbs < 2 ^ 64) || decide (i.natAbs.log2 + j.natAbs.log2 < 1000000)
def catD (x y : D) (S : Sto) : Res D :=
  match S.items x, S.items y with
  | some xs, some ys => if xs.length + ys.length ≤ lineN then .ok (.lst (xs ++ ys)) S else .bad
  | _, _ => .bad
def addD (x y : D) (S : Sto) : Res D :=
  match x with
  | .int i => match y with
    | .int j => .ok (.int (i + j)) S
    | _ => .bad
  | .str a => match y with
    | .str b => if a.length + b.length ≤ lineN then .ok (.str (a ++ b)) S else .bad
    | _ => .bad
  | .tup a => match y with
    | .tup b => if a.length + b.length ≤ lineN then .ok (.tup (a ++ b)) S else .bad
    | _ => .bad
  | x => catD x y S
def addmD (x y : D) (S : Sto) : Res D :=
  match S.items x, S.items y with
  | some xs, some ys => if xs.length + ys.length ≤ lineN ∧ D.cleans (xs ++ ys) = true then .ok (.cell S.length) (S ++ [.lst (xs ++ ys)]) else .bad
  | _, _ => .bad
def intD (f : Int → Int → Option Int) (x y : D) (S : Sto) : Res D :=
  match x with
  | .int i => match y with
    | .int j => match f i j with
      | some k => .ok (.int k) S
      | none => .bad
    | _ => .bad
  | _ => .bad
def repD (ds : List D) (y : D) (S : Sto) : Res D :=
  match y with
  | .int n => if n ≤ 1000 ∧ -1000 ≤ n ∧ ds.length ≤ 1000 then .ok (.lst (List.replicate n.toNat ds).flatten) S else .bad
  | _ => .bad
/-- a tuple again and again: twice at least -/
def repT (ds : List D) (y : D) (S : Sto) : Res D :=
  match y with
  | .int n => if n ≤ 1000 ∧ 2 ≤ n ∧ ds.length ≤ 1000 ∧ ds.isEmpty = false then .ok (.tup (List.replicate n.toNat ds).flatten) S else .bad
  | _ => .bad
def mulD (x y : D) (S : Sto) : Res D :=
  match x with
  | .int i => match y with
    | .int j => if mulOk i j then .ok (.int (i * j)) S else .bad
    | _ => .bad
  | .tup ds => repT ds y S
  | x => match S.items x with
    | some ds => repD ds y S
    | none => .bad
def mulmD (x y : D) (S : Sto) : Res D :=
  match S.items x with
    | some ds => match y with
      | .int n => if n ≤ 1000 ∧ -1000 ≤ n ∧ ds.length ≤ 1000 ∧ D.cleans (List.replicate n.toNat ds).flatten = true then .ok (.cell S.length) (S ++ [.lst (List.replicate n.toNat ds).flatten]) else .bad
      | _ => .bad
    | none => .bad
def fdivI (i j : Int) : Option Int := if 0 < j ∧ j.natAbs.log2 < 9000 then some (i / j) else none
def modI (i j : Int) : Option Int := if 0 < j then some (i % j) else none
def powI (i j : Int) : Option Int := if 0 ≤ j ∧ j ≤ 1000000 ∧ i.natAbs < 2 ^ 64 then some (i ^ j.toNat) else none
def subI (i j : Int) : Option Int := some (i - j)
def binD (o : Op2) (x y : D) (S : Sto) : Res D :=
  match o with
  | .add => addD x y S
  | .addm => addmD x y S
  | .sub => intD subI x y S
  | .mul => mulD x y S
  | .mulm => mulmD x y S
  | .fdiv => intD fdivI x y S
  | .mod => intD modI x y S
  | .pow => intD powI x y S
def strLtB (a b : Str) : Bool := decide (a.cps.toList < b.cps.toList)
def eqD (ng : Bool) (x y : D) (S : Sto) : Res D :=
  match (S.view x).toP, (S.view y).toP with
  | some p, some q => if pdOk p && pdOk q then .ok (.bl (ng != PyData.eqv p q)) S else .bad
  | _, _ => .bad
def alikeOk (p q : List PyData) : Bool := PySem.W.alikeAll p q && decide ((PyData.tuple p).depth ≤ 64)
def ltD (x y : D) (S : Sto) : Res D :=
  match x with
  | .int i => match y with
    | .int j => .ok (.bl (decide (i < j))) S
    | _ => .bad
  | .str a => match y with
    | .str b => .ok (.bl (strLtB a b)) S
    | _ => .bad
  | .tup a => match y with
    | .tup b => match D.toPs a, D.toPs b with
      | some p, some q => if alikeOk p q then .ok (.bl (PySem.W.dataLt (.tuple p) (.tuple q))) S else .bad
      | _, _ => .bad
    | _ => .bad
  | _ => .bad
def cmpI (f : Int → Int → Bool) (x y : D) (S : Sto) : Res D :=
  match x with
  | .int i => match y with
    | .int j => .ok (.bl (f i j)) S
    | _ => .bad
  | _ => .bad
def inLs (ng : Bool) (ds : List D) (x : D) (S : Sto) : Res D :=
  match x.toP, D.toPs ds with
  | some p, some ps => if pdOk p && pdOk (.list ps) then .ok (.bl (ng != (ps.any fun z => PyData.eqv z p))) S else .bad
  | _, _ => .bad
def inD (ng : Bool) (x y : D) (S : Sto) : Res D :=
  match y with
  | .str b => match x with
    | .str a => .ok (.bl (ng != (!(Builtin.Str.occurrences b a 0 b.length 1).isEmpty))) S
    | _ => .bad
  | .tup ds => match x.toP, D.toPs ds with
    | some p, some ps => if flatD x && ds.all flatD then .ok (.bl (ng != (ps.any fun z => PyData.eqv z p))) S else .bad
    | _, _ => .bad
  | y => match S.items y with
    | some ds => inLs ng ds x S
    | none => .bad
def cmpD (c : Cm) (x y : D) (S : Sto) : Res D :=
  match c with
  | .eq => eqD false x y S
  | .ne => eqD true x y S
  | .lt => ltD x y S
  | .le => cmpI (fun i j => decide (i ≤ j)) x y S
  | .gt => cmpI (fun i j => decide (j < i)) x y S
  | .ge => cmpI (fun i j => decide (j ≤ i)) x y S
  | .in_ => inD false x y S
  | .nin => inD true x y S
def idxD (x i : D) (S : Sto) : Res D :=
  match x, i with
  | .str z, .int i => if z.length ≤ lineN then (match atI z.cps.toList i with
    | some c => .ok (.str ⟨#[c]⟩) S
    | none => .bad) else .bad
  | .scr ns, .int i => match atI ns i with
    | some n => .ok (.int n) S
    | none => .bad
  | a, .int i => match S.seq a with
    | some ds => (match atI ds i with
      | some d => .ok d S
      | none => .bad)
    | none => .bad
  | _, _ => .bad
def cutD (xs : List D) (lo hi : Option Int) : List D := (xs.drop (HT.sIx xs.length 0 lo)).take (HT.sIx xs.length xs.length hi - HT.sIx xs.length 0 lo)
def slD (x : D) (lo hi : Option Int) (S : Sto) : Res D :=
  match x with
  | .str z => if z.length ≤ lineN then .ok (.str (cutS z lo hi)) S else .bad
  | .tup ds => .ok (.tup (cutD ds lo hi)) S
  | a => match S.items a with
    | some ds => .ok (.lst (cutD ds lo hi)) S
    | none => .bad
def revD (x : D) (S : Sto) : Res D :=
  match x with
  | .tup ds => .ok (.tup ds.reverse) S
  | a => match S.items a with
    | some ds => .ok (.lst ds.reverse) S
    | none => .bad
def isiD (t : TyK) (S : Sto) : D → Option Bool
  | .non => some false
  | .bl _ => some (decide (t = .bool ∨ t = .int))
  | .int _ => some (decide (t = .int))
  | .str _ => some (decide (t = .str))
  | .tup _ => some (decide (t = .tuple))
  | d => (S.items d).map fun _ => decide (t = .list)
/-- insertion, keeping equal ones in turn -/
def insD (le : PyData → PyData → Bool) (x : PyData × D) : List (PyData × D) → List (PyData × D)
  | [] => [x]
  | y :: r => if le x.1 y.1 then x :: y :: r else y :: insD le x r
def srtD (le : PyData → PyData → Bool) : List (PyData × D) → List (PyData × D)
  | [] => []
  | x :: r => insD le x (srtD le r)
def leP (p q : PyData) : Bool := !PySem.W.dataLt q p
def sortOk (ps : List PyData) : Bool :=
  ps.all (fun p => ps.all fun q => PySem.W.alike p q) && ps.all (fun p => decide (p.depth ≤ 64)) &&
    (ps.all (fun p => match p with | .tuple (_ :: _) => true | _ => false) || ps.all fun p => match p with | .none => false | .tuple _ => false | _ => true)
def sortDs (ds : List D) : Option (List D) :=
  match D.toPs ds with
  | some ps => if sortOk ps then some ((srtD leP (ps.zip ds)).map (·.2)) else none
  | none => none
def minI : Int → List Int → Int
  | m, [] => m
  | m, i :: r => minI (if i < m then i else m) r
def maxI : Int → List Int → Int
  | m, [] => m
  | m, i :: r => maxI (if m < i then i else m) r
def minL (d : D) (S : Sto) : Res D := match (S.items d).bind intsOf with
    | some (n :: ns) => .ok (.int (minI n ns)) S
    | _ => .bad
def maxL (d : D) (S : Sto) : Res D := match (S.items d).bind intsOf with
    | some (n :: ns) => .ok (.int (maxI n ns)) S
    | _ => .bad
def biD (b : Bi) (xs : List D) (S : Sto) : Res D :=
  match b, xs with
  | .len, [.str z] => if z.length ≤ lineN then .ok (.int z.length) S else .bad
  | .len, [.scr ns] => .ok (.int ns.length) S
  | .len, [d] => match S.seq d with
    | some ds => .ok (.int ds.length) S
    | none => .bad
  | .all, [d] => match (S.items d).bind blsOf with
    | some bs => .ok (.bl (bs.all id)) S
    | none => .bad
  | .any, [d] => match (S.items d).bind blsOf with
    | some bs => .ok (.bl (bs.any id)) S
    | none => .bad
  | .sorted, [d] => match (S.seq d).bind sortDs with
    | some r => .ok (.lst r) S
    | none => .bad
  | .tuple, [d] => match S.seq d with
    | some ds => .ok (.tup ds) S
    | none => .bad
  | .list, [d] => match S.seq d with
    | some ds => .ok (.lst ds) S
    | none => .bad
  | .listm, [d] => match S.seq d with
    | some ds => if D.cleans ds then .ok (.cell S.length) (S ++ [.lst ds]) else .bad
    | none => .bad
  | .int, [.int i] => .ok (.int i) S
  | .int, [.bl b] => .ok (.int (if b then 1 else 0)) S
  | .bool, [.int i] => .ok (.bl (i != 0)) S
  | .bool, [.bl b] => .ok (.bl b) S
  | .str, [.int i] => if i.natAbs.log2 < 1920 then .ok (.str (toString i)) S else .bad
  | .str, [.str x] => .ok (.str x) S
  | .abs, [.int i] => .ok (.int (if i < 0 then -i else i)) S
  | .sum, [d] => match (S.items d).bind intsOf with
    | some ns => .ok (.int ns.sum) S
    | none => .bad
  | .min, [.int i, .int j] => .ok (.int (if j < i then j else i)) S
  | .max, [.int i, .int j] => .ok (.int (if j > i then j else i)) S
  | .min, [d] => minL d S
  | .max, [d] => maxL d S
  | _, _ => .bad
def splitD (x : Str) : List D → Sto → Res D
  | [d], S => match d with
    | .str s => if s.length ≠ 0 ∧ x.length + 2 ≤ lineN then .ok (.lst ((Txt.split x s).map .str)) S else .bad
    | _ => .bad
  | _, _ => .bad
def joinD (s : Str) : List D → Sto → Res D
  | [d], S => match (S.seq d).bind strsOf with
    | some ys => if (ys.map (·.length)).sum + ys.length * s.length ≤ lineN then .ok (.str (Txt.join s ys)) S else .bad
    | none => .bad
  | _, _ => .bad
def indexD (x : Str) : List D → Sto → Res D
  | [d], S => match d with
    | .str s => match Builtin.Str.occurrences x s 0 x.length 1 with
      | i :: _ => .ok (.int (i : Nat)) S
      | [] => .bad
    | _ => .bad
  | _, _ => .bad
def countD (a : D) : List D → Sto → Res D
  | [x], S => match (S.items a).bind D.toPs, x.toP with
    | some ps, some p => if pdOk p && pdOk (.list ps) && p.plain && PyData.plainAll ps then .ok (.int ((ps.countP fun y => PyData.eqv y p : Nat) : Int)) S else .bad
    | _, _ => .bad
  | _, _ => .bad
/-- what becomes of a cell's list -/
def cellD (n : Nat) (S : Sto) (f : List D → Option (List D)) : Res D := match S[n]? with
    | some (.lst ds) => match f ds with
      | some es => if D.cleans es then .ok .non (S.set n (.lst es)) else .bad
      | none => .bad
    | _ => .bad
def appendD (n : Nat) : List D → Sto → Res D
  | [x], S => cellD n S fun ds => if ds.length < lineN then some (ds ++ [x]) else none
  | _, _ => .bad
def clearD (n : Nat) : List D → Sto → Res D
  | [], S => cellD n S fun _ => some []
  | _, _ => .bad
def insertD (n : Nat) : List D → Sto → Res D
  | [i, x], S => match i with
    | .int i => if i = 0 then cellD n S fun ds => if ds.length < lineN then some (x :: ds) else none else .bad
    | _ => .bad
  | _, _ => .bad
def replD (x : Str) : List D → Sto → Res D
  | [a, b], S => match a with
    | .str y => match b with
      | .str z => if y ≠ z ∧ y.length ≠ 0 ∧ x.length + (x.length + 1) * z.length ≤ 16777216 then .ok (.str (Txt.replace x y z)) S else .bad
      | _ => .bad
    | _ => .bad
  | _, _ => .bad
def methD (t : Mt) (a : D) (xs : List D) (S : Sto) : Res D :=
  match t with
  | .split => match a with | .str x => splitD x xs S | _ => .bad
  | .join => match a with | .str x => joinD x xs S | _ => .bad
  | .index => match a with | .str x => indexD x xs S | _ => .bad
  | .replace => match a with | .str x => replD x xs S | _ => .bad
  | .append => match a with | .cell n => appendD n xs S | _ => .bad
  | .clear => match a with | .cell n => clearD n xs S | _ => .bad
  | .insert => match a with | .cell n => insertD n xs S | _ => .bad
  | .count => countD a xs S
  | .countT => match a with | .tup ds => countD (.lst ds) xs S | _ => .bad
def mtStr : Mt → Bool
  | .split => true | .join => true | .index => true | .replace => true | _ => false
def mtTup : Mt → Bool
  | .countT => true | _ => false
def recvOk (t : Mt) (d : D) (S : Sto) : Bool := if mtStr t then (match d with | .str _ => true | _ => false) else if mtTup t then (match d with | .tup _ => true | _ => false) else (S.items d).isSome
def asubD (a i v : D) (S : Sto) : Res Unit :=
  match a with
  | .cell n => match i with
    | .int i => match S[n]? with
      | some (.lst ds) => match ixN ds.length i with
        | some j => if v.clean then .ok () (S.set n (.lst (ds.set j v))) else .bad
        | none => .bad
      | _ => .bad
    | _ => .bad
  | _ => .bad

/-! ### what is walked -/
inductive Src where
  | fix (ds : List D)
  | cl (n : Nat)
def Src.items (S : Sto) : Src → Option (List D)
  | .fix ds => some ds
  | .cl n => S.items (.cell n)
inductive Itr where
  | one (s : Src) | rng (lo : Int) (n : Nat) | zip (s t : Src) | enum (s : Src)
/-- none: no such; some none: the end -/
def Itr.get (S : Sto) (i : Nat) : Itr → Option (Option D)
  | .one s => (s.items S).map fun ds => ds[i]?
  | .rng lo n => some (if i < n then some (.int (lo + (i : Int))) else none)
  | .zip s t => match s.items S, t.items S with
    | some a, some b => some (match a[i]?, b[i]? with
      | some x, some y => some (.tup [x, y])
      | _, _ => none)
    | _, _ => none
  | .enum s => (s.items S).map fun ds => (ds[i]?).map fun d => .tup [.int (i : Int), d]
def Itr.count (S : Sto) : Itr → Nat
  | .one s => ((s.items S).getD []).length
  | .rng _ n => n
  | .zip s t => min ((s.items S).getD []).length ((t.items S).getD []).length
  | .enum s => ((s.items S).getD []).length
def srcD (S : Sto) : D → Option Src
  | .tup ds => some (.fix ds)
  | .lst ds => some (.fix ds)
  | .cell n => (S.items (.cell n)).map fun _ => .cl n
  | _ => none
def setAll : List Nat → List D → Env' → Option Env'
  | [], [], env => some env
  | i :: is, d :: ds, env => setAll is ds (env.set i (some d))
  | _, _, _ => none
def bindT (tg : IT) (d : D) (env : Env') : Option Env' :=
  match tg, d with
  | .name i, d => some (env.set i (some d))
  | .tup is, .tup ds => if is.length = ds.length then setAll is ds env else none
  | _, _ => none
def wipeE (env : Env') : List Nat → Env'
  | [] => env
  | v :: vs => (wipeE env vs).set v none
/-- a comprehension's turns -/
def compGo (it : Itr) (bnd : D → Option Env') (tst : Env' → Sto → Res Bool) (elt : Env' → Sto → Res D) : Nat → Nat → List D → Sto → Res (List D)
  | 0, _, _, _ => .bad
  | f + 1, i, acc, S => match it.get S i with
    | some none => .ok acc S
    | some (some d) => match bnd d with
      | some env => (tst env S).bind fun b S1 => if b then (elt env S1).bind fun y S2 => compGo it bnd tst elt f (i + 1) (acc ++ [y]) S2 else compGo it bnd tst elt f (i + 1) acc S1
      | none => .bad
    | none => .bad
/-- no raise within -/
def Res.calm {α : Type} : Res α → Res α
  | .exc _ _ => .bad
  | r => r

/-- what the evaluator is given -/
structure Fns where
  call : Str → List D → Sto → Res D
  lam : Nat → List D → List D → Sto → Res D
  con : Str → Option D
  fnv : Str → Bool
  /-- the frame has lambdas of its own -/
  lm : Bool

def pubIf (F : Fns) (env : Env') (xs : List D) : Option (List D) := if F.lm then D.pubs env xs else some xs
def envC (F : Fns) (env : Env') : Env' := if F.lm then env.map (fun o => o.bind fun d => if d.noOwn then some d else none) else env

/-- a turn's names -/
def bndC (F : Fns) (tg : IT) (own : List Nat) (env : Env') (d : D) : Option Env' := if F.lm && !d.noOwn then none else bindT tg d (wipeE (envC F env) own)
/-- an expression's value, its truth as a test -/
structure Ev where
  e : Env' → Sto → Res D
  t : Env' → Sto → Res Bool
def Ev.mk' (e : Env' → Sto → Res D) : Ev := ⟨e, fun env S => (e env S).bind fun x S => match truthD S x with
    | some b => .ok b S
    | none => .bad⟩
def evEs : List Ev → Env' → Sto → Res (List D)
  | [], _, S => .ok [] S
  | e :: es, env, S => (e.e env S).bind fun x S => (evEs es env S).bind fun xs S => .ok (x :: xs) S
def evAnd : List Ev → Env' → Sto → Res D
  | [], _, _ => .bad
  | [e], env, S => e.e env S
  | e :: e2 :: es, env, S => (e.e env S).bind fun x S => match x with
      | .bl true => evAnd (e2 :: es) env S
      | .bl false => .ok (.bl false) S
      | _ => .bad
def evOr : List Ev → Env' → Sto → Res D
  | [], _, _ => .bad
  | [e], env, S => e.e env S
  | e :: e2 :: es, env, S => (e.e env S).bind fun x S => match x with
      | .bl false => evOr (e2 :: es) env S
      | .bl true => .ok (.bl true) S
      | _ => .bad
def evTAnd : List Ev → Env' → Sto → Res Bool
  | [], _, S => .bad
  | [e], env, S => e.t env S
  | e :: e2 :: es, env, S => (e.t env S).bind fun b S => if b then evTAnd (e2 :: es) env S else .ok false S
def evTOr : List Ev → Env' → Sto → Res Bool
  | [], _, S => .bad
  | [e], env, S => e.t env S
  | e :: e2 :: es, env, S => (e.t env S).bind fun b S => if b then .ok true S else evTOr (e2 :: es) env S
def evO : Option Ev → Env' → Sto → Res (Option Int)
  | none, _, S => .ok none S
  | some e, env, S => (e.e env S).bind fun x S => match x with
    | .int i => .ok (some i) S
    | _ => .bad
def evC : Option Ev → Env' → Sto → Res Bool
  | none, _, S => .ok true S
  | some e, env, S => e.t env S
def isTupD : D → Bool
  | .tup _ => true
  | _ => false
def isNonD : D → Bool
  | .non => true
  | _ => false
def fstrOf (d : D) : Option Str := match d with
      | .str x => some x
      | .int i => if i.natAbs.log2 < 1920 then some (toString i : Str) else none
      | _ => none
def evFs : List Ev → Str → Env' → Sto → Res D
  | [], acc, _, S => .ok (.str acc) S
  | e :: es, acc, env, S => (e.e env S).bind fun d S => match fstrOf d with
    | some y => if (acc ++ y).length ≤ lineN then evFs es (acc ++ y) env S else .bad
    | none => .bad
def Fns.inC (F : Fns) : Fns := { F with lm := false }
def callE (F : Fns) (env : Env') (f : Str) (xs : List D) (S : Sto) : Res D := match pubIf F env xs with
    | some ys => (F.call f ys S).bind fun d S => if F.lm && !d.clean then .bad else .ok d S
    | none => .bad

mutual
def evP : IE → Fns → Ev
  | .var i, _ => .mk' fun env S => match (env[i]?).join with
    | some d => .ok d S
    | none => .bad
  | .int i, _ => .mk' fun _ S => .ok (.int i) S
  | .str x, _ => .mk' fun _ S => .ok (.str x) S
  | .bl b, _ => .mk' fun _ S => .ok (.bl b) S
  | .non, _ => .mk' fun _ S => .ok .non S
  | .gfn x, F => .mk' fun _ S => if F.fnv x then .ok (.fn x) S else .bad
  | .gcon x, F => .mk' fun _ S => match F.con x with
    | some d => .ok d S
    | none => .bad
  | .bin o a b, F => .mk' fun env S => ((evP a F).e env S).bind fun x S => ((evP b F).e env S).bind fun y S => binD o x y S
  | .neg a, F => .mk' fun env S => ((evP a F).e env S).bind fun x S => match x with
    | .int i => .ok (.int (-i)) S
    | _ => .bad
  | .not a, F => ⟨fun env S => ((evP a F).e env S).bind fun x S => match x with
    | .bl b => .ok (.bl (!b)) S
    | _ => .bad, fun env S => ((evP a F).t env S).bind fun b S => .ok (!b) S⟩
  | .and es, F => ⟨evAnd (evPs es F), evTAnd (evPs es F)⟩
  | .or es, F => ⟨evOr (evPs es F), evTOr (evPs es F)⟩
  | .cmp c a b, F => .mk' fun env S => ((evP a F).e env S).bind fun x S => ((evP b F).e env S).bind fun y S => cmpD c x y S
  | .chain c d a b e, F => .mk' fun env S => ((evP a F).e env S).bind fun x S => ((evP b F).e env S).bind fun y S => (cmpD c x y S).bind fun r S => match r with
    | .bl true => ((evP e F).e env S).bind fun z S => cmpD d y z S
    | .bl false => .ok (.bl false) S
    | _ => .bad
  | .isN ng a, F => .mk' fun env S => ((evP a F).e env S).bind fun x S => .ok (.bl (ng != isNonD x)) S
  | .isB ng b a, F => .mk' fun env S => ((evP a F).e env S).bind fun x S => match x with
    | .bl c => .ok (.bl (ng != (b == c))) S
    | .non => .ok (.bl ng) S
    | .int _ => .ok (.bl ng) S
    | .str _ => .ok (.bl ng) S
    | .tup _ => .ok (.bl ng) S
    | .lst _ => .ok (.bl ng) S
    | _ => .bad
  | .ite c a b, F => .mk' fun env S => ((evP c F).t env S).bind fun t S => if t then (evP a F).e env S else (evP b F).e env S
  | .tup es, F => .mk' fun env S => (evEs (evPs es F) env S).bind fun xs S => .ok (.tup xs) S
  | .lst m es, F => .mk' fun env S => (evEs (evPs es F) env S).bind fun xs S => if m then (if D.cleans xs then .ok (.cell S.length) (S ++ [.lst xs]) else .bad) else .ok (.lst xs) S
  | .idx a i, F => .mk' fun env S => ((evP a F).e env S).bind fun x S => ((evP i F).e env S).bind fun y S => idxD x y S
  | .sl a lo hi, F => .mk' fun env S => ((evP a F).e env S).bind fun x S => (evO (evPO lo F) env S).bind fun l S => (evO (evPO hi F) env S).bind fun h S => slD x l h S
  | .rev a, F => .mk' fun env S => ((evP a F).e env S).bind fun x S => revD x S
  | .call f es, F => .mk' fun env S => (evEs (evPs es F) env S).bind fun xs S => callE F env f xs S
  | .callv i es, F => .mk' fun env S => match (env[i]?).join with
    | some (.fn f) => if F.fnv f then (evEs (evPs es F) env S).bind fun xs S => callE F env f xs S else .bad
    | some (.clo k caps) => if F.lm then .bad else (evEs (evPs es F) env S).bind fun xs S => if D.cleans xs then F.lam k caps xs S else .bad
    | _ => .bad
  | .bi b es, F => .mk' fun env S => (evEs (evPs es F) env S).bind fun xs S => biD b xs S
  | .isi t a, F => .mk' fun env S => ((evP a F).e env S).bind fun x S => match isiD t S x with
    | some b => .ok (.bl b) S
    | none => .bad
  | .meth t a es, F => .mk' fun env S => ((evP a F).e env S).bind fun x S => if recvOk t x S then (evEs (evPs es F) env S).bind fun xs S => methD t x xs S else .bad
  | .lam k caps, F => .mk' fun _ S => if F.lm then .ok (.own k caps) S else .bad
  | .comp m own tg it c elt, F => .mk' fun env S => ((evPI it F) env S).bind fun J S =>
      (compGo J (bndC F tg own env) (fun e S => (evC (evPO c F.inC) e S).calm) (fun e S => ((evP elt F.inC).e e S).calm) (J.count S + 1) 0 [] S).bind fun xs S =>
        if xs.length ≤ lineN then (if m then (if D.cleans xs then .ok (.cell S.length) (S ++ [.lst xs]) else .bad) else .ok (.lst xs) S) else .bad
  | .fstr es, F => .mk' fun env S => evFs (evPs es F) Str.empty env S
def evPs : List IE → Fns → List Ev
  | [], _ => []
  | e :: es, F => evP e F :: evPs es F
def evPO : IO → Fns → Option Ev
  | .none, _ => none
  | .some e, F => some (evP e F)
def evPI : II → Fns → Env' → Sto → Res Itr
  | .over e, F => fun env S => ((evP e F).e env S).bind fun x S => match srcD S x with
    | some s => .ok (.one s) S
    | none => .bad
  | .range1 a, F => fun env S => ((evP a F).e env S).bind fun x S => match x with
    | .int j => if -(2 ^ 62) ≤ j ∧ j < 2 ^ 62 then .ok (.rng 0 j.toNat) S else .bad
    | _ => .bad
  | .range2 a b, F => fun env S => ((evP a F).e env S).bind fun x S => ((evP b F).e env S).bind fun y S => match x, y with
    | .int i, .int j => if -(2 ^ 62) ≤ i ∧ i < 2 ^ 62 ∧ -(2 ^ 62) ≤ j ∧ j < 2 ^ 62 then .ok (.rng i (j - i).toNat) S else .bad
    | _, _ => .bad
  | .zip a b, F => fun env S => ((evP a F).e env S).bind fun x S => ((evP b F).e env S).bind fun y S => if isTupD x == isTupD y then (match srcD S x, srcD S y with
    | some s, some t => .ok (.zip s t) S
    | _, _ => .bad) else .bad
  | .enum a, F => fun env S => ((evP a F).e env S).bind fun x S => match srcD S x with
    | some s => .ok (.enum s) S
    | none => .bad
end
def evalE (F : Fns) (a : IE) : Env' → Sto → Res D := (evP a F).e
def evalT (F : Fns) (a : IE) : Env' → Sto → Res Bool := (evP a F).t
def evalI (F : Fns) (a : II) : Env' → Sto → Res Itr := evPI a F

/-! ### statements -/
inductive RS where
  | nx (env : Env') (S : Sto)
  | rt (d : D) (S : Sto)
  | bk (env : Env') (S : Sto)
  | ct (env : Env') (S : Sto)
  | exc (x : Exc) (env : Env') (S : Sto)
  | bad
def Res.toS {α : Type} (r : Res α) (env : Env') (k : α → Sto → RS) : RS :=
  match r with
  | .ok a S => k a S
  | .exc x S => .exc x env S
  | .bad => .bad
def RS.next (r : RS) (k : Env' → Sto → RS) : RS :=
  match r with
  | .nx env S => k env S
  | r => r
def forGo (it : Itr) (bnd : D → Env' → Option Env') (body : Env' → Sto → RS) : Nat → Nat → Env' → Sto → RS
  | 0, _, _, _ => .bad
  | f + 1, i, env, S => match it.get S i with
    | some none => .nx env S
    | some (some d) => match bnd d env with
      | some env1 => match body env1 S with
        | .nx env2 S2 => forGo it bnd body f (i + 1) env2 S2
        | .ct env2 S2 => forGo it bnd body f (i + 1) env2 S2
        | .bk env2 S2 => .nx env2 S2
        | r => r
      | none => .bad
    | none => .bad
def whileGo (c : Env' → Sto → Res Bool) (body : Env' → Sto → RS) : Nat → Env' → Sto → RS
  | 0, _, _ => .bad
  | f + 1, env, S => (c env S).toS env fun b S => if b then (match body env S with
        | .nx env2 S2 => whileGo c body f env2 S2
        | .ct env2 S2 => whileGo c body f env2 S2
        | .bk env2 S2 => .nx env2 S2
        | r => r) else .nx env S
/-- more than any loop's turns here -/
def fuelN : Nat := 2 ^ 200
/-- an exception's field as the class makes it: the classes with their field's name -/
structure Xcs where
  cls : List (Str × Option Str)
  /-- is the first one under the second -/
  sub : Str → Str → Bool
  /-- what _law_kin says -/
  kin : Str → Str
def Xcs.field (C : Xcs) (x : Str) : Option (Option Str) := C.cls.lookup x
/-- a suite's deed -/
def suOut (C : Xcs) (su : Su) (cls : Str) (i : Nat) : RS → RS
  | .exc x env S => if (C.field x.cls).isNone then .bad else if C.sub x.cls cls then (match su with
      | .kin => .rt (.tup [.non, .str (C.kin x.cls)]) S
      | .fld f => (match x.fld with
        | some (g, n) => if g = f then .rt (.int n) S else .bad
        | none => .bad)
      | .setFld j f => (match x.fld with
        | some (g, n) => if g = f then .nx ((env.set j (some (.int n))).set i none) S else .bad
        | none => .bad)) else .exc x env S
  | r => r
mutual
def evalS (F : Fns) (C : Xcs) : IS → Env' → Sto → RS
  | .asg tg e, env, S => (evalE F e env S).toS env fun d S => match bindT tg d env with
    | some env => .nx env S
    | none => .bad
  | .asub a i e, env, S => (evalE F e env S).toS env fun v S => (evalE F a env S).toS env fun x S => (evalE F i env S).toS env fun y S => (asubD x y v S).toS env fun _ S => .nx env S
  | .asub2 a i b j e, env, S => (evalE F e env S).toS env fun v S => match v with
    | .tup [v, w] => (evalE F a env S).toS env fun x S => (evalE F i env S).toS env fun y S => (asubD x y v S).toS env fun _ S =>
      (evalE F b env S).toS env fun x S => (evalE F j env S).toS env fun y S => (asubD x y w S).toS env fun _ S => .nx env S
    | _ => .bad
  | .expr e, env, S => (evalE F e env S).toS env fun _ S => .nx env S
  | .aug i o e, env, S => match env[i]? with
    | some (some x) => (evalE F e env S).toS env fun y S => (binD o x y S).toS env fun z S => .nx (env.set i (some z)) S
    | _ => .bad
  | .ifs c t f, env, S => (evalT F c env S).toS env fun b S => if b then evalB F C t env S else evalB F C f env S
  | .for_ tg it body, env, S => (evalI F it env S).toS env fun J S => forGo J (fun d e => bindT tg d e) (fun e S => evalB F C body e S) (J.count S + 1) 0 env S
  | .while_ c body, env, S => whileGo (fun e S => evalT F c e S) (fun e S => evalB F C body e S) fuelN env S
  | .ret e, env, S => (evalE F e env S).toS env fun d S => .rt d S
  | .retN, _, S => .rt .non S
  | .raise_ x .none, env, S => match C.field x with
    | some none => .exc ⟨x, none⟩ env S
    | _ => .bad
  | .raise_ x (.some e), env, S => match C.field x with
    | some (some f) => (evalE F e env S).toS env fun d S => match d with
      | .int n => .exc ⟨x, some (f, n)⟩ env S
      | _ => .bad
    | _ => .bad
  | .break_, env, S => .bk env S
  | .cont, env, S => .ct env S
  | .pass, env, S => .nx env S
  | .try_ body cls i su, env, S => suOut C su cls i (evalB F C body env S)
def evalB (F : Fns) (C : Xcs) : List IS → Env' → Sto → RS
  | [], env, S => .nx env S
  | s :: ss, env, S => (evalS F C s env S).next fun env S => evalB F C ss env S
end

/-! ### defs -/
structure Fd where
  pars : Nat
  slots : Nat
  body : List IS
  lm : Bool := false
  sea : Bool := false
structure Lm where
  pars : Nat
  caps : Nat
  body : IE
structure Prog where
  fns : List (Str × Fd)
  lams : List Lm
  con : Str → Option D
  xcs : Xcs
mutual
def D.beq : D → D → Bool
  | .non, .non => true
  | .bl a, .bl b => decide (a = b)
  | .int a, .int b => decide (a = b)
  | .str a, .str b => decide (a = b)
  | .tup a, .tup b => D.beqs a b
  | .lst a, .lst b => D.beqs a b
  | .cell a, .cell b => decide (a = b)
  | .scr a, .scr b => decide (a = b)
  | .fn a, .fn b => decide (a = b)
  | .own a c, .own b d => decide (a = b) && decide (c = d)
  | .clo a c, .clo b d => decide (a = b) && D.beqs c d
  | _, _ => false
def D.beqs : List D → List D → Bool
  | [], [] => true
  | a :: as, b :: bs => D.beq a b && D.beqs as bs
  | _, _ => false
end
mutual
theorem D.beq_iff : ∀ (a b : D), D.beq a b = true ↔ a = b
  | .non, b => by cases b <;> simp [D.beq]
  | .bl _, b => by cases b <;> simp [D.beq]
  | .int _, b => by cases b <;> simp [D.beq]
  | .str _, b => by cases b <;> simp [D.beq]
  | .tup as, b => by cases b <;> simp [D.beq, D.beqs_iff as]
  | .lst as, b => by cases b <;> simp [D.beq, D.beqs_iff as]
  | .cell _, b => by cases b <;> simp [D.beq]
  | .scr _, b => by cases b <;> simp [D.beq]
  | .fn _, b => by cases b <;> simp [D.beq]
  | .own _ _, b => by cases b <;> simp [D.beq]
  | .clo _ as, b => by cases b <;> simp [D.beq, D.beqs_iff as]
theorem D.beqs_iff : ∀ (a b : List D), D.beqs a b = true ↔ a = b
  | [], b => by cases b <;> simp [D.beqs]
  | a :: as, b => by cases b <;> simp [D.beqs, D.beq_iff a, D.beqs_iff as]
end
instance : DecidableEq D := fun a b => if h : D.beq a b = true then isTrue ((D.beq_iff a b).mp h) else isFalse fun e => h ((D.beq_iff a b).mpr e)
def SO.beq : SO → SO → Bool
  | .lst a, .lst b => D.beqs a b
  | .ins c a, .ins d b => decide (c = d) && decide (a = b)
  | _, _ => false
theorem SO.beq_iff : ∀ (a b : SO), SO.beq a b = true ↔ a = b
  | .lst a, b => by cases b <;> simp [SO.beq, D.beqs_iff]
  | .ins c a, b => by cases b <;> simp [SO.beq]
instance : DecidableEq SO := fun a b => if h : SO.beq a b = true then isTrue ((SO.beq_iff a b).mp h) else isFalse fun e => h ((SO.beq_iff a b).mpr e)
def sealR (n : Nat) (S0 : Sto) : Res D → Res D
  | .ok d S => match D.fz n (fzC S n 4) d, (if S.take n = S0 then some S0 else if (S.take n).all (SO.cells_lt n) then some (S.take n) else none) with
    | some d', some S' => .ok d' S'
    | _, _ => .bad
  | r => r
end LT
namespace LT
open PySem PySem.Spec PyProof.Rows L2
def outOf (lm : Bool) : RS → Res D
  | .nx _ S => .ok .non S
  | .rt d S => if lm && !d.noOwn then .bad else .ok d S
  | .exc x _ S => .exc x S
  | _ => .bad
def startE (slots : Nat) (ds : List D) : Env' := ds.map some ++ List.replicate (slots - ds.length) none
def runFd (F : Fns) (C : Xcs) (fd : Fd) (ds : List D) (S : Sto) : Res D :=
  if ds.length = fd.pars then
    (if fd.sea then sealR S.length S (outOf fd.lm (evalB { F with lm := fd.lm } C fd.body (startE fd.slots ds) S))
    else outOf fd.lm (evalB { F with lm := fd.lm } C fd.body (startE fd.slots ds) S))
  else .bad
def runLm (F : Fns) (l : Lm) (caps ds : List D) (S : Sto) : Res D :=
  if ds.length = l.pars ∧ caps.length = l.caps then (evP l.body { F with lm := false }).e ((ds ++ caps).map some) S else .bad
def Prog.fnv (p : Prog) (x : Str) : Bool := (p.fns.lookup x).isSome
/-- what may be called with n frames left -/
def Prog.at (p : Prog) : Nat → Fns
  | 0 => ⟨fun _ _ _ => .bad, fun _ _ _ _ => .bad, p.con, p.fnv, false⟩
  | n + 1 => ⟨fun f ds S => match p.fns.lookup f with
      | some fd => runFd (p.at n) p.xcs fd ds S
      | none => .bad, fun k caps ds S => match p.lams[k]? with
      | some l => runLm (p.at n) l caps ds S
      | none => .bad, p.con, p.fnv, false⟩
def Prog.call (p : Prog) (n : Nat) (f : Str) (ds : List D) (S : Sto) : Res D := (p.at n).call f ds S
end LT
set_option Elab.async false
set_option linter.all false
set_option maxRecDepth 100000
set_option maxHeartbeats 2000000
/-! Own layer, part C: the heap's steps, operators on data. -/
namespace LT
open PySem PySem.Spec PyProof.Rows L2

abbrev gX (X : Cx) (la : Nat → Arguments → Expr → Scope → List Str → Prop) (T : List NdefX.NTab) : GI := ⟨X.prog, X.w, X.K, X.mg, X.base, la, T⟩

section
variable {G : GI} {oc oc' : Nat → Option Addr} {ρ ρ' : Pl} {H H' : Hp} {S S' : Sto}
/-! ### clean data -/
mutual
theorem Rep.clean : ∀ (d : D) {v : V}, d.clean = true → Rep G oc ρ H d v → Rep G oc' ρ H d v
  | .non, _, _, h => by simpa only [Rep] using h
  | .bl _, _, _, h => by simpa only [Rep] using h
  | .int _, _, _, h => by simpa only [Rep] using h
  | .str _, _, _, h => by simpa only [Rep] using h
  | .tup ds, _, c, h => by
    simp only [Rep] at h ⊢
    obtain ⟨a, vs, h1, h2, h3⟩ := h
    exact ⟨a, vs, h1, h2, RepL.clean ds (by simpa only [D.clean] using c) h3⟩
  | .lst ds, _, c, h => by
    simp only [Rep] at h ⊢
    obtain ⟨a, vs, h1, h2, h3⟩ := h
    exact ⟨a, vs, h1, h2, RepL.clean ds (by simpa only [D.clean] using c) h3⟩
  | .cell n, _, _, h => by simpa only [Rep] using h
  | .scr n, _, _, h => by simpa only [Rep] using h
  | .fn x, _, _, h => by simpa only [Rep] using h
  | .own k caps, _, c, h => by simp [D.clean] at c
  | .clo k caps, _, c, h => by simp [D.clean] at c
theorem RepL.clean : ∀ (ds : List D) {vs : List V}, D.cleans ds = true → RepL G oc ρ H ds vs → RepL G oc' ρ H ds vs
  | [], _, _, h => by simpa only [RepL] using h
  | d :: ds, _, c, h => by
    simp only [D.cleans, Bool.and_eq_true] at c
    simp only [RepL] at h ⊢
    obtain ⟨v, r, h1, h2, h3⟩ := h
    exact ⟨v, r, h1, Rep.clean d c.1 h2, RepL.clean ds c.2 h3⟩
end
mutual
/-- without this frame's closures the cells don't matter -/
theorem Rep.noOwn : ∀ (d : D) {v : V}, d.noOwn = true → Rep G oc ρ H d v → Rep G oc' ρ H d v
  | .non, _, _, h => by simpa only [Rep] using h
  | .bl _, _, _, h => by simpa only [Rep] using h
  | .int _, _, _, h => by simpa only [Rep] using h
  | .str _, _, _, h => by simpa only [Rep] using h
  | .tup ds, _, c, h => by
    simp only [Rep] at h ⊢
    obtain ⟨a, vs, h1, h2, h3⟩ := h
    exact ⟨a, vs, h1, h2, RepL.noOwn ds (by simpa only [D.noOwn] using c) h3⟩
  | .lst ds, _, c, h => by
    simp only [Rep] at h ⊢
    obtain ⟨a, vs, h1, h2, h3⟩ := h
    exact ⟨a, vs, h1, h2, RepL.noOwn ds (by simpa only [D.noOwn] using c) h3⟩
  | .cell n, _, _, h => by simpa only [Rep] using h
  | .scr n, _, _, h => by simpa only [Rep] using h
  | .fn x, _, _, h => by simpa only [Rep] using h
  | .own k caps, _, c, h => by simp [D.noOwn] at c
  | .clo k caps, _, c, h => by
    simp only [Rep] at h ⊢
    obtain ⟨f, c', q, params, body, scope, cl, fr, vs, h1, h2, hc, h3, h4⟩ := h
    exact ⟨f, c', q, params, body, scope, cl, fr, vs, h1, h2, hc, RepL.clean caps hc h3, h4⟩
theorem RepL.noOwn : ∀ (ds : List D) {vs : List V}, D.noOwns ds = true → RepL G oc ρ H ds vs → RepL G oc' ρ H ds vs
  | [], _, _, h => by simpa only [RepL] using h
  | d :: ds, _, c, h => by
    simp only [D.noOwns, Bool.and_eq_true] at c
    simp only [RepL] at h ⊢
    obtain ⟨v, r, h1, h2, h3⟩ := h
    exact ⟨v, r, h1, Rep.noOwn d c.1 h2, RepL.noOwn ds c.2 h3⟩
end
theorem RepL.cleanL {ds : List D} {vs : List V} (c : D.cleans ds = true) (h : RepL G oc ρ H ds vs) : RepL G oc' ρ H ds vs := RepL.clean ds c h

/-! ### growing -/
theorem SR.lt (s : SR G ρ H S) {n : Nat} {a : Addr} (e : ρ.c[n]? = some a) : ∃ o, S[n]? = some o ∧ SOk G ρ H a o := by
  have hl := (List.getElem?_eq_some_iff.mp e).1
  have hs : n < S.length := by rw [← s.len]; exact hl
  exact ⟨S[n], by simp [hs], s.at_ n _ a (by simp [hs]) e⟩
theorem SOk.some {a : Addr} {o : SO} (h : SOk G ρ H a o) : ∃ u, H a = some u := by
  cases o with
  | lst ds => obtain ⟨vs, h, _⟩ := h; exact ⟨_, h⟩
  | ins c fs => obtain ⟨C, dx, vs, _, h, _⟩ := h; exact ⟨_, h⟩
theorem SR.mem (s : SR G ρ H S) {a : Addr} (m : a ∈ ρ) : ∃ u, H a = some u := by
  rcases m with m | m
  · obtain ⟨n, e⟩ := List.mem_iff_getElem?.mp m
    obtain ⟨o, _, h⟩ := s.lt e
    exact h.some
  · obtain ⟨xs, h⟩ := (s.vol a m).1
    exact ⟨_, h⟩
theorem SR.not_mem (s : SR G ρ H S) {a : Addr} (n : H a = none) : a ∉ ρ := fun m => by
  obtain ⟨u, h⟩ := s.mem m
  rw [n] at h; cases h
theorem gone_of (k : ∀ b o, H b = some o → H' b = some o) : ∀ b, H' b = none → H b = none := fun b h => by
  cases q : H b with
  | none => rfl
  | some o => rw [k b o q] at h; cases h
theorem ext_of (k : ∀ b o, H b = some o → H' b = some o) : Ext ρ H ρ H' :=
  ⟨⟨List.prefix_refl _, fun b o h _ _ => k b o h, gone_of k, fun b h n => absurd h n⟩, rfl, fun b _ o h _ => k b o h⟩
theorem SOk.ext {a : Addr} {o : SO} (h : SOk G ρ H a o) (e : Ext0 ρ H ρ' H') (k : H' a = H a) : SOk G ρ' H' a o := by
  cases o with
  | lst ds =>
    obtain ⟨vs, h, cl, r⟩ := h
    exact ⟨vs, k.trans h, cl, RepL.ext e ds r⟩
  | ins c fs =>
    obtain ⟨C, dx, vs, h1, h2, h3, h4, cl, r⟩ := h
    obtain ⟨a1, a2⟩ := e.at h3 h4 (fun ps z => by cases z)
    exact ⟨C, dx, vs, h1, k.trans h2, a1, a2, cl, RepL.ext e _ r⟩
theorem SR.grow (s : SR G ρ H S) (k : ∀ b o, H b = some o → H' b = some o) : SR G ρ H' S where
  len := s.len
  nd := s.nd
  at_ := fun i o a h1 h2 => by
    have z := s.at_ i o a h1 h2
    obtain ⟨u, hu⟩ := z.some
    exact z.ext (ext_of k).toExt0 ((k a u hu).trans hu.symm)
  vol := fun a m => ⟨(s.vol a m).1.imp fun xs h => k a _ h, (s.vol a m).2⟩
  tab := s.tab.ext k
theorem upd_keep {p : Addr} {o : HO} (n : H p = none) : ∀ b u, H b = some u → upd H p o b = some u := fun b u h => by
  rw [upd_ne (ne_of_none h n)]; exact h
/-- a new thing that nobody writes -/
theorem new_fix {p : Addr} {o : HO} (s : SR G ρ H S) (n : H p = none) : Ext ρ H ρ (upd H p o) ∧ SR G ρ (upd H p o) S := ⟨ext_of (upd_keep n), s.grow (upd_keep n)⟩
theorem new_lst {p : Addr} {ds : List D} {vs : List V} (s : SR G ρ H S) (n : H p = none) (r : RepL G oc ρ H ds vs) : Rep G oc ρ (upd H p (.lst vs)) (.lst ds) (.ref p) := by
  simp only [Rep]
  exact ⟨p, vs, rfl, ⟨upd_same, s.not_mem n⟩, RepL.ext (ext_of (upd_keep n)).toExt0 ds r⟩
theorem new_tup {p : Addr} {ds : List D} {vs : List V} (s : SR G ρ H S) (n : H p = none) (r : RepL G oc ρ H ds vs) {o : Obj} (ho : o.dict = none) : Rep G oc ρ (upd H p (.frz o (.tup vs))) (.tup ds) (.ref p) := by
  simp only [Rep]
  exact ⟨p, vs, rfl, .inl ⟨⟨o, upd_same, ho⟩, s.not_mem n⟩, RepL.ext (ext_of (upd_keep n)).toExt0 ds r⟩
/-- a new cell -/
abbrev Pl.add (ρ : Pl) (p : Addr) : Pl := ⟨ρ.c ++ [p], ρ.v⟩
theorem new_cell {p : Addr} {ds : List D} {vs : List V} (s : SR G ρ H S) (n : H p = none) (r : RepL G oc ρ H ds vs) (c : D.cleans ds = true) :
    Ext ρ H (ρ.add p) (upd H p (.lst vs)) ∧ SR G (ρ.add p) (upd H p (.lst vs)) (S ++ [.lst ds]) ∧ Rep G oc' (ρ.add p) (upd H p (.lst vs)) (.cell S.length) (.ref p) := by
  have np := s.not_mem n
  have e : Ext ρ H (ρ.add p) (upd H p (.lst vs)) := by
    refine ⟨⟨List.prefix_append _ _, fun b o h _ _ => upd_keep n b o h, gone_of (upd_keep n), fun b m nm => ?_⟩, rfl, fun b _ o h _ => upd_keep n b o h⟩
    rcases m with m | m
    · rcases List.mem_append.mp m with m | m
      · exact absurd (Or.inl m) nm
      · rw [List.mem_singleton.mp m]; exact n
    · exact absurd (Or.inr m) nm
  refine ⟨e, ⟨by simp [s.len], ?_, fun i o a h1 h2 => ?_, fun a m => ⟨(s.vol a m).1.imp fun xs h => upd_keep n a _ h, fun z => ?_⟩, s.tab.ext (upd_keep n)⟩, ?_⟩
  · rw [List.nodup_append]
    refine ⟨s.nd, by simp, fun a m b mb => ?_⟩
    rw [List.mem_singleton.mp mb]
    rintro rfl
    exact np (.inl m)
  · by_cases hi : i < S.length
    · rw [List.getElem?_append_left hi] at h1
      rw [List.getElem?_append_left (by rw [s.len]; exact hi)] at h2
      have z := s.at_ i o a h1 h2
      obtain ⟨u, hu⟩ := z.some
      exact z.ext e ((upd_keep n a u hu).trans hu.symm)
    · have hi2 : i = S.length := by
        have := (List.getElem?_eq_some_iff.mp h1).1
        simp at this
        omega
      subst hi2
      simp at h1
      rw [← s.len] at h2
      simp at h2
      subst h1 h2
      exact ⟨vs, upd_same, c, RepL.ext e ds (RepL.cleanL c r)⟩
  · rcases List.mem_append.mp z with z | z
    · exact (s.vol a m).2 z
    · rw [List.mem_singleton.mp z] at m
      exact np (.inr m)
  · simp only [Rep]
    exact ⟨p, rfl, by rw [← s.len]; simp⟩
/-- a cell written -/
theorem set_cell {i : Nat} {a : Addr} {ds : List D} {vs ws : List V} (s : SR G ρ H S) (ha : ρ.c[i]? = some a) (h0 : H a = some (.lst ws)) (r : RepL G oc ρ H ds vs) (c : D.cleans ds = true) :
    Ext ρ H ρ (upd H a (.lst vs)) ∧ SR G ρ (upd H a (.lst vs)) (S.set i (.lst ds)) := by
  have am : a ∈ ρ.c := List.mem_of_getElem? ha
  have e : Ext ρ H ρ (upd H a (.lst vs)) := by
    refine ⟨⟨List.prefix_refl _, fun b o h nb _ => ?_, fun b h => ?_, fun b m nm => absurd m nm⟩, rfl, fun b m o h _ => by rw [upd_ne (fun z => (s.vol b m).2 (by rw [z]; exact am))]; exact h⟩
    · rw [upd_ne (fun z => nb (by rw [z]; exact .inl am))]; exact h
    · by_cases hb : b = a
      · rw [hb, upd_same] at h; cases h
      · rw [upd_ne hb] at h; exact h
  refine ⟨e, ⟨by simp [s.len], s.nd, fun j o b h1 h2 => ?_, fun b m => ⟨(s.vol b m).1.imp fun xs h => e.keepV b m _ h (fun ps z => by cases z), (s.vol b m).2⟩, fun p hp => ?_⟩⟩
  · by_cases hj : i = j
    · subst hj
      rw [ha] at h2; cases h2
      have hl : i < S.length := by rw [← s.len]; exact (List.getElem?_eq_some_iff.mp ha).1
      rw [List.getElem?_set_self hl] at h1
      cases h1
      exact ⟨vs, upd_same, c, RepL.ext e ds (RepL.cleanL c r)⟩
    · rw [List.getElem?_set_ne hj] at h1
      have z := s.at_ j o b h1 h2
      refine z.ext e (upd_ne fun q => hj ?_)
      subst q
      obtain ⟨l1, e1⟩ := List.getElem?_eq_some_iff.mp ha
      obtain ⟨l2, e2⟩ := List.getElem?_eq_some_iff.mp h2
      exact (List.getElem_inj s.nd).mp (e1.trans e2.symm)
  · obtain ⟨ps, h1, h2, h3⟩ := s.tab p hp
    refine ⟨ps, ?_, h2, fun pos cv hc => ?_⟩
    · rw [upd_ne (fun z => by rw [z, h0] at h1; cases h1)]; exact h1
    · obtain ⟨c, e1, e2⟩ := h3 pos cv hc
      refine ⟨c, e1, ?_⟩
      rw [upd_ne (fun z => by rw [z, h0] at e2; unfold LamX.CodeO at e2; cases e2)]; exact e2
/-! ### reading lists -/
theorem items_sq {d : D} {x : V} {ds : List D} (s : SR G ρ H S) (r : Rep G oc ρ H d x) (h : S.items d = some ds) : ∃ a vs, x = .ref a ∧ H a = some (.lst vs) ∧ RepL G oc ρ H ds vs := by
  cases d with
  | lst xs =>
    simp only [Rep] at r
    obtain ⟨a, vs, h1, h2, h3⟩ := r
    have e : xs = ds := by simpa [Sto.items] using h
    subst e
    exact ⟨a, vs, h1, h2.1, h3⟩
  | cell n =>
    simp only [Rep] at r
    obtain ⟨a, h1, h2⟩ := r
    obtain ⟨o, ho, hs⟩ := s.lt h2
    simp only [Sto.items, ho] at h
    cases o with
    | lst xs =>
      simp at h; subst h
      obtain ⟨vs, q, cl, r⟩ := hs
      exact ⟨a, vs, h1, q, RepL.cleanL cl r⟩
    | ins c fs => simp at h
  | _ => simp [Sto.items] at h
end
end LT
set_option Elab.async false
set_option linter.all false
set_option maxRecDepth 100000
set_option maxHeartbeats 2000000
/-! Own layer, part C2: operators on data. -/
namespace LT
open PySem PySem.Spec PyProof.Rows L2

section
variable (X : Cx) (la : Nat → Arguments → Expr → Scope → List Str → Prop) (T : List NdefX.NTab) (oc : Nat → Option Addr)
/-- an operation on two values that does what F says of their data -/
def DOp (f : Value → Value → Sem Value) (F : D → D → Sto → Res D) : Prop :=
  ∀ {pins : List (Addr × Obj)} {s : Shared} {σ : L2.St} {H : Hp} {x y : V} {v u : Value} {Q : VK} {ρ : Pl} {S : Sto} {d e : D} {E : Value → Option Addr → Hp → Prop},
    Inv X pins σ H s → RelV x v → RelV y u → SR (gX X la T) ρ H S → Rep (gX X la T) oc ρ H d x → Rep (gX X la T) oc ρ H e y → tG (gX X la T) (RD (gX X la T) oc) (F d e S) ρ H Q E →
      wpAny (model X.prog X.w) X.A (f v u) (EP X pins σ Q) X.xe s
end

section
variable {X : Cx} {la : Nat → Arguments → Expr → Scope → List Str → Prop} {T : List NdefX.NTab} {oc : Nat → Option Addr} {ρ : Pl} {H : Hp} {S : Sto} {d e : D} {x y : V} {Q : VK} {E : Value → Option Addr → Hp → Prop}

theorem okE {G : GI} {d : D} (sr : SR G ρ H S) (h : tG G (RD G oc) (.ok d S) ρ H Q E) {v : V} (r : Rep G oc ρ H d v) : Q v H := okR sr h r
/-- a new list at a free place -/
theorem okLst {G : GI} {ds : List D} {vs : List V} (sr : SR G ρ H S) (h : tG G (RD G oc) (.ok (.lst ds) S) ρ H Q E) (r : RepL G oc ρ H ds vs) : ∀ p, H p = none → Q (.ref p) (upd H p (.lst vs)) := fun p n => by
  obtain ⟨e1, s1⟩ := new_fix (o := .lst vs) sr n
  exact h _ _ _ e1 s1 (new_lst sr n r)
theorem okTup {G : GI} {ds : List D} {vs : List V} (sr : SR G ρ H S) (h : tG G (RD G oc) (.ok (.tup ds) S) ρ H Q E) (r : RepL G oc ρ H ds vs) : BareQ H Q vs := fun p o ho n => by
  obtain ⟨e1, s1⟩ := new_fix (o := .frz o (.tup vs)) sr n
  exact h _ _ _ e1 s1 (new_tup sr n r ho)
theorem okCell {G : GI} {ds : List D} {vs : List V} (sr : SR G ρ H S) (h : tG G (RD G oc) (.ok (.cell S.length) (S ++ [.lst ds])) ρ H Q E) (r : RepL G oc ρ H ds vs) (c : D.cleans ds = true) : ∀ p, H p = none → Q (.ref p) (upd H p (.lst vs)) := fun p n => by
  obtain ⟨e1, s1, r1⟩ := new_cell (oc' := oc) sr n r c
  exact h _ _ _ e1 s1 r1
theorem rep_int {G : GI} {i : Int} : Rep G oc ρ H (.int i) x ↔ x = .int i := by simp only [Rep]
theorem rep_str {G : GI} {i : Str} : Rep G oc ρ H (.str i) x ↔ x = .str i := by simp only [Rep]
theorem rep_bl {G : GI} {i : Bool} : Rep G oc ρ H (.bl i) x ↔ x = .bl i := by simp only [Rep]
theorem rep_non {G : GI} : Rep G oc ρ H .non x ↔ x = .non := by simp only [Rep]
theorem rep_tup {G : GI} {ds : List D} : Rep G oc ρ H (.tup ds) x ↔ ∃ a vs, x = .ref a ∧ FzT G ρ H a vs ∧ RepL G oc ρ H ds vs := by simp only [Rep]
theorem rep_lst {G : GI} {ds : List D} : Rep G oc ρ H (.lst ds) x ↔ ∃ a vs, x = .ref a ∧ FzL ρ H a vs ∧ RepL G oc ρ H ds vs := by simp only [Rep]
theorem rep_cell {G : GI} {n : Nat} : Rep G oc ρ H (.cell n) x ↔ ∃ a, x = .ref a ∧ ρ.c[n]? = some a := by simp only [Rep]
theorem rep_scr {G : GI} {ns : List Int} : Rep G oc ρ H (.scr ns) x ↔ ∃ a, x = .ref a ∧ FzS G ρ H a (ns.map V.int) := by simp only [Rep]

/-- two ints -/
theorem dop_int {f : Value → Value → Sem Value} {F : Int → Int → Option Int}
    (rule : ∀ (i j : Int) (t u : Tok) (s : Shared) (Q E : Value → Shared → Prop) (k : Int), F i j = some k → Q (.int k s.toks) { s with toks := s.toks + 1 } → wpAny (model X.prog X.w) X.A (f (.int i t) (.int j u)) Q E s) : DOp X la T oc f (intD F) := by
  intro pins s σ H x y v u Q ρ S d e E I rx ry sr rd re h
  cases d with
  | int i => cases e with
    | int j =>
      simp only [intD] at h
      rw [rep_int] at rd re
      subst rd re
      obtain ⟨t, rfl⟩ := rx
      obtain ⟨t', rfl⟩ := ry
      cases q : F i j with
      | none => rw [q] at h; exact h.elim
      | some k =>
        rw [q] at h
        exact rule i j t t' s _ _ k q ⟨.int k, H, I.tok _, ⟨_, rfl⟩, okR sr h (by simp only [Rep])⟩
    | _ => exact h.elim
  | _ => exact h.elim
theorem dop_sub : DOp X la T oc (binaryOp .Sub) (intD subI) := dop_int fun i j t u s Q E k hk q => by
  cases hk; exact sub_int q
theorem dop_fdiv : DOp X la T oc (binaryOp .FloorDiv) (intD fdivI) := fun {pins s σ H x y v u Q ρ S d e E} I rx ry sr rd re h => by
  cases d with
  | int i => cases e with
    | int j =>
      simp only [intD, fdivI] at h
      rw [rep_int] at rd re
      by_cases c : 0 < j ∧ j.natAbs.log2 < 9000
      · rw [if_pos c] at h
        exact op_fdivW pins s σ H x y v u Q I rx ry ⟨i, j, rd, re, c, okR sr h (by simp only [Rep])⟩
      · rw [if_neg c] at h; exact h.elim
    | _ => exact h.elim
  | _ => exact h.elim
theorem dop_mod : DOp X la T oc (binaryOp .Mod) (intD modI) := fun {pins s σ H x y v u Q ρ S d e E} I rx ry sr rd re h => by
  cases d with
  | int i => cases e with
    | int j =>
      simp only [intD, modI] at h
      rw [rep_int] at rd re
      by_cases c : 0 < j
      · rw [if_pos c] at h
        exact op_mod pins s σ H x y v u Q I rx ry ⟨i, j, rd, re, c, okR sr h (by simp only [Rep])⟩
      · rw [if_neg c] at h; exact h.elim
    | _ => exact h.elim
  | _ => exact h.elim
theorem dop_pow : DOp X la T oc (binaryOp .Pow) (intD powI) := fun {pins s σ H x y v u Q ρ S d e E} I rx ry sr rd re h => by
  cases d with
  | int i => cases e with
    | int j =>
      simp only [intD, powI] at h
      rw [rep_int] at rd re
      by_cases c : 0 ≤ j ∧ j ≤ 1000000 ∧ i.natAbs < 2 ^ 64
      · rw [if_pos c] at h
        exact op_pow pins s σ H x y v u Q I rx ry ⟨i, j, rd, re, c, okR sr h (by simp only [Rep])⟩
      · rw [if_neg c] at h; exact h.elim
    | _ => exact h.elim
  | _ => exact h.elim
theorem mulOk_ok {i j : Int} (h : mulOk i j = true) : IntMulOk i j := by
  unfold mulOk at h
  simp only [Bool.or_eq_true, decide_eq_true_eq] at h
  rcases h with (h | h) | h
  · exact CMul.ok (.inl (by omega))
  · exact CMul.ok (.inr (by omega))
  · exact CMulW.ok h
theorem rep_flat {G : GI} {ds : List D} {vs : List V} (r : RepL G oc ρ H ds vs) : ∀ n : Nat, RepL G oc ρ H (List.replicate n ds).flatten (List.replicate n vs).flatten
  | 0 => .nil
  | n + 1 => by
    rw [List.replicate_succ, List.replicate_succ, List.flatten_cons, List.flatten_cons]
    exact r.append (rep_flat r n)
theorem lineN_eq : sizeLine = lineN := sizeLine_eq
/-- a list of the store times a number -/
theorem dop_rep_lst {G : GI} {pins : List (Addr × Obj)} {s : Shared} {σ : L2.St} {v u : Value} {ds : List D} {n : Int} (I : Inv X pins σ H s) (rx : RelV x v) (ry : RelV y u) {a : Addr} {vs : List V} (ex : x = .ref a) (ha : H a = some (.lst vs)) (r : RepL G oc ρ H ds vs)
    (ey : y = .int n) (c : n ≤ 1000 ∧ -1000 ≤ n ∧ ds.length ≤ 1000) (q : ∀ p, H p = none → Q (.ref p) (upd H p (.lst (List.replicate n.toNat vs).flatten))) : wpAny (model X.prog X.w) X.A (binaryOp .Mult v u) (EP X pins σ Q) X.xe s := by
  refine op_rep pins s σ H x y v u Q I rx ry ⟨a, n, vs, ex, ey, ha, by omega, by omega, ?_, q⟩
  rw [r.length, lineN_eq]
  have h1 : n.toNat ≤ 1000 := by omega
  have h2 := Nat.mul_le_mul c.2.2 h1
  exact Nat.le_trans h2 (by decide)
theorem dop_mul : DOp X la T oc (binaryOp .Mult) mulD := fun {pins s σ H x y v u Q ρ S d e E} I rx ry sr rd re h => by
  have lists : ∀ {ds : List D}, S.items d = some ds → tG (gX X la T) (RD (gX X la T) oc) (repD ds e S) ρ H Q E → wpAny (model X.prog X.w) X.A (binaryOp .Mult v u) (EP X pins σ Q) X.xe s := fun {ds} hi h => by
    obtain ⟨a, vs, ex, ha, r⟩ := items_sq sr rd hi
    cases e with
    | int n =>
      simp only [repD] at h
      rw [rep_int] at re
      by_cases c : n ≤ 1000 ∧ -1000 ≤ n ∧ ds.length ≤ 1000
      · rw [if_pos c] at h
        exact dop_rep_lst I rx ry ex ha r re c (okLst sr h (rep_flat r _))
      · rw [if_neg c] at h; exact h.elim
    | _ => exact h.elim
  cases d with
  | int i => cases e with
    | int j =>
      simp only [mulD] at h
      rw [rep_int] at rd re
      subst rd re
      obtain ⟨t, rfl⟩ := rx
      obtain ⟨t', rfl⟩ := ry
      by_cases c : mulOk i j = true
      · rw [if_pos c] at h
        exact mul_int ⟨.int (i * j), H, I.tok _, ⟨_, rfl⟩, okR sr h (by simp only [Rep])⟩ (mulOk_ok c)
      · rw [if_neg c] at h; exact h.elim
    | _ => exact h.elim
  | lst ds => exact lists rfl (by simpa only [mulD, Sto.items] using h)
  | tup ds =>
    obtain ⟨a, vs, rfl, f, r⟩ := rep_tup.mp rd
    cases e with
    | int n =>
      simp only [mulD, repT] at h
      rw [rep_int] at re
      by_cases c : n ≤ 1000 ∧ 2 ≤ n ∧ ds.length ≤ 1000 ∧ ds.isEmpty = false
      · rw [if_pos c] at h
        obtain ⟨c1, c2, c3, c4⟩ := c
        have hne : vs ≠ [] := fun z => by
          have := r.length
          rw [z] at this
          cases ds with
          | nil => cases c4
          | cons _ _ => simp at this
        exact op_repB pins s σ H _ y v u Q I rx ry ⟨a, n, vs, rfl, re, f.sq, hne, c2, c1, by rw [r.length]; exact c3, okTup sr h (rep_flat r _)⟩
      · rw [if_neg c] at h; exact h.elim
    | _ => exact h.elim
  | cell n =>
    simp only [mulD] at h
    cases q : S.items (.cell n) with
    | none => rw [q] at h; exact h.elim
    | some ds => rw [q] at h; exact lists q h
  | _ => exact h.elim
theorem dop_mulm : DOp X la T oc (binaryOp .Mult) mulmD := fun {pins s σ H x y v u Q ρ S d e E} I rx ry sr rd re h => by
  unfold mulmD at h
  cases q : S.items d with
  | none => rw [q] at h; exact h.elim
  | some ds =>
    rw [q] at h
    obtain ⟨a, vs, ex, ha, r⟩ := items_sq sr rd q
    cases e with
    | int n =>
      dsimp only at h
      rw [rep_int] at re
      by_cases c : n ≤ 1000 ∧ -1000 ≤ n ∧ ds.length ≤ 1000 ∧ D.cleans (List.replicate n.toNat ds).flatten = true
      · rw [if_pos c] at h
        exact dop_rep_lst I rx ry ex ha r re ⟨c.1, c.2.1, c.2.2.1⟩ (okCell sr h (rep_flat r _) c.2.2.2)
      · rw [if_neg c] at h; exact h.elim
    | _ => exact h.elim
theorem cat_lists {G : GI} {pins : List (Addr × Obj)} {s : Shared} {σ : L2.St} {v u : Value} {xs ys : List D} (I : Inv X pins σ H s) (rx : RelV x v) (ry : RelV y u) (sr : SR G ρ H S) (rd : Rep G oc ρ H d x) (re : Rep G oc ρ H e y) (hx : S.items d = some xs) (hy : S.items e = some ys)
    (c : xs.length + ys.length ≤ lineN) (q : ∀ vs, RepL G oc ρ H (xs ++ ys) vs → ∀ p, H p = none → Q (.ref p) (upd H p (.lst vs))) : wpAny (model X.prog X.w) X.A (binaryOp .Add v u) (EP X pins σ Q) X.xe s := by
  obtain ⟨a, vs, ex, ha, r⟩ := items_sq sr rd hx
  obtain ⟨b, ws, ey, hb, r2⟩ := items_sq sr re hy
  refine op_cat pins s σ H x y v u Q I rx ry ⟨a, b, vs, ws, ex, ey, ha, hb, ?_, q _ (r.append r2)⟩
  rw [r.length, r2.length, lineN_eq]; exact c
theorem dop_add : DOp X la T oc (binaryOp .Add) addD := fun {pins s σ H x y v u Q ρ S d e E} I rx ry sr rd re h => by
  have lists : tG (gX X la T) (RD (gX X la T) oc) (catD d e S) ρ H Q E → wpAny (model X.prog X.w) X.A (binaryOp .Add v u) (EP X pins σ Q) X.xe s := fun h => by
    unfold catD at h
    cases q1 : S.items d with
    | none => rw [q1] at h; exact h.elim
    | some xs => cases q2 : S.items e with
      | none => rw [q1, q2] at h; exact h.elim
      | some ys =>
        rw [q1, q2] at h
        dsimp only at h
        by_cases c : xs.length + ys.length ≤ lineN
        · rw [if_pos c] at h
          exact cat_lists I rx ry sr rd re q1 q2 c fun vs r => okLst sr h r
        · rw [if_neg c] at h; exact h.elim
  cases d with
  | int i => cases e with
    | int j =>
      simp only [addD] at h
      rw [rep_int] at rd re
      exact op_add pins s σ H x y v u Q I rx ry ⟨i, j, rd, re, okR sr h (by simp only [Rep])⟩
    | _ => exact h.elim
  | str i => cases e with
    | str j =>
      simp only [addD] at h
      rw [rep_str] at rd re
      by_cases c : i.length + j.length ≤ lineN
      · rw [if_pos c] at h
        exact op_add_str pins s σ H x y v u Q I rx ry ⟨i, j, rd, re, by rw [lineN_eq]; exact c, okR sr h (by simp only [Rep])⟩
      · rw [if_neg c] at h; exact h.elim
    | _ => exact h.elim
  | tup xs => cases e with
    | tup ys =>
      simp only [addD] at h
      rw [rep_tup] at rd re
      obtain ⟨a, vs, ex, fa, r⟩ := rd
      obtain ⟨b, ws, ey, fb, r2⟩ := re
      by_cases c : xs.length + ys.length ≤ lineN
      · rw [if_pos c] at h
        refine op_catB pins s σ H x y v u Q I rx ry ⟨a, b, vs, ws, ex, ey, fa.sq, fb.sq, by rw [r.length, r2.length, lineN_eq]; exact c, fun z => ?_, fun z z2 => ?_, fun _ _ => okTup sr h (r.append r2)⟩
        · have e1 : xs = [] := List.length_eq_zero_iff.mp (by rw [← r.length, z]; rfl)
          subst e1
          exact okR sr h (rep_tup.mpr ⟨b, ws, rfl, fb, r2⟩)
        · have e1 : ys = [] := List.length_eq_zero_iff.mp (by rw [← r2.length, z2]; rfl)
          subst e1
          exact okR sr h (rep_tup.mpr ⟨a, vs, rfl, fa, by rw [List.append_nil]; exact r⟩)
      · rw [if_neg c] at h; exact h.elim
    | _ => exact h.elim
  | _ => exact lists (by simpa only [addD] using h)
theorem dop_addm : DOp X la T oc (binaryOp .Add) addmD := fun {pins s σ H x y v u Q ρ S d e E} I rx ry sr rd re h => by
  unfold addmD at h
  cases q1 : S.items d with
  | none => rw [q1] at h; exact h.elim
  | some xs => cases q2 : S.items e with
    | none => rw [q1, q2] at h; exact h.elim
    | some ys =>
      rw [q1, q2] at h
      dsimp only at h
      by_cases c : xs.length + ys.length ≤ lineN ∧ D.cleans (xs ++ ys) = true
      · rw [if_pos c] at h
        exact cat_lists I rx ry sr rd re q1 q2 c.1 fun vs r => okCell sr h r c.2
      · rw [if_neg c] at h; exact h.elim
def opOf : Op2 → Operator
  | .add => .Add | .addm => .Add | .sub => .Sub | .mul => .Mult | .mulm => .Mult | .fdiv => .FloorDiv | .mod => .Mod | .pow => .Pow
theorem dop_bin : ∀ o : Op2, DOp X la T oc (binaryOp (opOf o)) (binD o)
  | .add => dop_add | .addm => dop_addm | .sub => dop_sub | .mul => dop_mul | .mulm => dop_mulm | .fdiv => dop_fdiv | .mod => dop_mod | .pow => dop_pow
end
end LT
set_option Elab.async false
set_option linter.all false
set_option maxRecDepth 100000
set_option maxHeartbeats 2000000
/-! Own layer, part C3: comparisons. -/
namespace LT
open PySem PySem.Spec PyProof.Rows L2
section
variable {G : GI} {oc : Nat → Option Addr} {ρ : Pl} {H : Hp} {S : Sto}
mutual
theorem toP_dp : ∀ (d : D) {x : V} {p : PyData}, d.toP = some p → Rep G oc ρ H d x → Dp G.K H x p
  | .non, _, _, e, h => by
    simp only [D.toP, Option.some.injEq] at e; subst e
    rw [rep_non] at h; subst h; exact .non
  | .bl b, _, _, e, h => by
    simp only [D.toP, Option.some.injEq] at e; subst e
    rw [rep_bl] at h; subst h; exact .bl b
  | .int i, _, _, e, h => by
    simp only [D.toP, Option.some.injEq] at e; subst e
    rw [rep_int] at h; subst h; exact .int i
  | .str i, _, _, e, h => by
    simp only [D.toP, Option.some.injEq] at e; subst e
    rw [rep_str] at h; subst h; exact .str i
  | .tup ds, _, _, e, h => by
    simp only [D.toP, Option.map_eq_some_iff] at e
    obtain ⟨ps, e, rfl⟩ := e
    rw [rep_tup] at h
    obtain ⟨a, vs, rfl, f, r⟩ := h
    exact .tup f.sq (toPs_dp ds e r)
  | .lst ds, _, _, e, h => by
    simp only [D.toP, Option.map_eq_some_iff] at e
    obtain ⟨ps, e, rfl⟩ := e
    rw [rep_lst] at h
    obtain ⟨a, vs, rfl, f, r⟩ := h
    exact .lst f.sq (toPs_dp ds e r)
  | .cell _, _, _, e, _ => by simp [D.toP] at e
  | .scr _, _, _, e, _ => by simp [D.toP] at e
  | .fn _, _, _, e, _ => by simp [D.toP] at e
  | .own _ _, _, _, e, _ => by simp [D.toP] at e
  | .clo _ _, _, _, e, _ => by simp [D.toP] at e
theorem toPs_dp : ∀ (ds : List D) {xs : List V} {ps : List PyData}, D.toPs ds = some ps → RepL G oc ρ H ds xs → DpAll G.K H xs ps
  | [], xs, _, e, h => by
    simp only [D.toPs, Option.some.injEq] at e; subst e
    rw [h.nil_inv]; exact .nil
  | d :: ds, xs, ps, e, h => by
    obtain ⟨v, r, rfl, h1, h2⟩ := h.cons_inv
    simp only [D.toPs] at e
    cases q1 : d.toP with
    | none => rw [q1] at e; simp at e
    | some p => cases q2 : D.toPs ds with
      | none => rw [q1, q2] at e; simp at e
      | some ps' =>
        rw [q1, q2] at e
        simp only [Option.some.injEq] at e
        subst e
        exact .cons (toP_dp d q1 h1) (toPs_dp ds q2 h2)
end
theorem view_dp {d : D} {x : V} {p : PyData} (sr : SR G ρ H S) (h : Rep G oc ρ H d x) (e : (S.view d).toP = some p) : Dp G.K H x p := by
  cases d with
  | cell n =>
    cases q : S[n]? with
    | none => simp [Sto.view, q, D.toP] at e
    | some o => cases o with
      | ins c fs => simp [Sto.view, q, D.toP] at e
      | lst ds =>
        simp only [Sto.view, q] at e
        obtain ⟨a, vs, rfl, ha, r⟩ := items_sq (ds := ds) sr h (by simp [Sto.items, q])
        simp only [D.toP, Option.map_eq_some_iff] at e
        obtain ⟨ps, e, rfl⟩ := e
        exact .lst (.inl (.inl ha)) (toPs_dp ds e r)
  | _ => exact toP_dp _ (by simpa only [Sto.view] using e) h
theorem items_dp {d : D} {x : V} {ds : List D} {ps : List PyData} (sr : SR G ρ H S) (h : Rep G oc ρ H d x) (hi : S.items d = some ds) (e : D.toPs ds = some ps) : Dp G.K H x (.list ps) := by
  obtain ⟨a, vs, rfl, ha, r⟩ := items_sq sr h hi
  exact .lst (.inl (.inl ha)) (toPs_dp ds e r)
end

section
variable {X : Cx} {la : Nat → Arguments → Expr → Scope → List Str → Prop} {T : List NdefX.NTab} {oc : Nat → Option Addr} {ρ : Pl} {H : Hp} {S : Sto} {d e : D} {x y : V} {Q : VK} {E : Value → Option Addr → Hp → Prop}
theorem pdOk_ok {p : PyData} (h : pdOk p = true) : SeqAt.shaped p = true := h
theorem dop_eq (hu : X.A.units + 64 < cLine) : DOp X la T oc (compareOp .Eq) (eqD false) := fun {pins s σ H x y v u Q ρ S d e E} I rx ry sr rd re h => by
  unfold eqD at h
  cases q1 : (S.view d).toP with
  | none => rw [q1] at h; exact h.elim
  | some p => cases q2 : (S.view e).toP with
    | none => rw [q1, q2] at h; exact h.elim
    | some q =>
      rw [q1, q2] at h
      dsimp only at h
      by_cases c : (pdOk p && pdOk q) = true
      · rw [if_pos c] at h
        rw [Bool.and_eq_true] at c
        exact op_eqD hu pins s σ H x y v u Q I rx ry ⟨p, q, view_dp sr rd q1, view_dp sr re q2, c.1, c.2, okR sr h (by simp [Rep])⟩
      · rw [if_neg c] at h; exact h.elim
theorem dop_ne (hu : X.A.units + 64 < cLine) : DOp X la T oc (compareOp .NotEq) (eqD true) := fun {pins s σ H x y v u Q ρ S d e E} I rx ry sr rd re h => by
  unfold eqD at h
  cases q1 : (S.view d).toP with
  | none => rw [q1] at h; exact h.elim
  | some p => cases q2 : (S.view e).toP with
    | none => rw [q1, q2] at h; exact h.elim
    | some q =>
      rw [q1, q2] at h
      dsimp only at h
      by_cases c : (pdOk p && pdOk q) = true
      · rw [if_pos c] at h
        rw [Bool.and_eq_true] at c
        exact op_neD hu pins s σ H x y v u Q I rx ry ⟨p, q, view_dp sr rd q1, view_dp sr re q2, c.1, c.2, okR sr h (by simp [Rep])⟩
      · rw [if_neg c] at h; exact h.elim
theorem dop_cmpI {op : CmpOp} {f : Int → Int → Bool} (ho : OpR X (compareOp op) (rI0 fun i j => .bl (f i j))) : DOp X la T oc (compareOp op) (cmpI f) := fun {pins s σ H x y v u Q ρ S d e E} I rx ry sr rd re h => by
  cases d with
  | int i => cases e with
    | int j =>
      simp only [cmpI] at h
      rw [rep_int] at rd re
      exact ho pins s σ H x y v u Q I rx ry ⟨i, j, rd, re, okR sr h (by simp only [Rep])⟩
    | _ => exact h.elim
  | _ => exact h.elim
theorem dop_lt (hu : X.A.units + 64 < cLine) : DOp X la T oc (compareOp .Lt) ltD := fun {pins s σ H x y v u Q ρ S d e E} I rx ry sr rd re h => by
  cases d with
  | int i => cases e with
    | int j =>
      simp only [ltD] at h
      rw [rep_int] at rd re
      exact op_lt pins s σ H x y v u Q I rx ry ⟨i, j, rd, re, okR sr h (by simp only [Rep])⟩
    | _ => exact h.elim
  | str i => cases e with
    | str j =>
      simp only [ltD] at h
      rw [rep_str] at rd re
      exact op_lt_str pins s σ H x y v u Q I rx ry ⟨i, j, rd, re, okR sr h (by simp only [Rep, strLtB])⟩
    | _ => exact h.elim
  | tup i => cases e with
    | tup j =>
      simp only [ltD] at h
      cases q1 : D.toPs i with
      | none => rw [q1] at h; exact h.elim
      | some p => cases q2 : D.toPs j with
        | none => rw [q1, q2] at h; exact h.elim
        | some q =>
          rw [q1, q2] at h
          dsimp only at h
          by_cases c : alikeOk p q = true
          · rw [if_pos c] at h
            unfold alikeOk at c
            simp only [Bool.and_eq_true, decide_eq_true_eq] at c
            have d1 : Dp X.K H x (.tuple p) := toP_dp (G := gX X la T) (.tup i) (by simp [D.toP, q1]) rd
            have d2 : Dp X.K H y (.tuple q) := toP_dp (G := gX X la T) (.tup j) (by simp [D.toP, q2]) re
            obtain ⟨as, r1⟩ := Dp.reads I _ _ _ d1 rx
            obtain ⟨bs, r2⟩ := Dp.reads I _ _ _ d2 ry
            have hm : min (PyData.tuple p).depth (PyData.tuple q).depth ≤ 64 := Nat.le_trans (Nat.min_le_left _ _) c.2
            exact PySem.W.rcLt_alike (.tuple p) (.tuple q) X.A s v u as bs r1 r2 (by simpa [PySem.W.alike] using c.1) (fun z => by cases z) (by omega) X.prog X.w X.xe _ ⟨.bl _, H, I, rfl, okR sr h (by simp only [Rep])⟩
          · rw [if_neg c] at h; exact h.elim
    | _ => exact h.elim
  | _ => exact h.elim
/-! ### in -/
theorem flat_flatV {G : GI} {d : D} {x : V} (f : flatD d = true) (r : Rep G oc ρ H d x) : L2.flatV x = true ∧ ∃ p, d.toP = some p ∧ ∀ (e : D) (y : V) (q : PyData), flatD e = true → Rep G oc ρ H e y → e.toP = some q → eqV y x = PyData.eqv q p := by
  have key : ∀ (e : D) (y : V) (q : PyData), flatD e = true → Rep G oc ρ H e y → e.toP = some q → (q = .none ∧ y = .non) ∨ (∃ b, q = .bool b ∧ y = .bl b) ∨ (∃ i, q = .int i ∧ y = .int i) ∨ ∃ z, q = .str z ∧ y = .str z := by
    intro e y q fe re eq
    cases e with
    | non => rw [rep_non] at re; simp [D.toP] at eq; exact .inl ⟨eq.symm, re⟩
    | bl b => rw [rep_bl] at re; simp [D.toP] at eq; exact .inr (.inl ⟨b, eq.symm, re⟩)
    | int b => rw [rep_int] at re; simp [D.toP] at eq; exact .inr (.inr (.inl ⟨b, eq.symm, re⟩))
    | str b => rw [rep_str] at re; simp [D.toP] at eq; exact .inr (.inr (.inr ⟨b, eq.symm, re⟩))
    | _ => simp [flatD] at fe
  have hp : ∃ p, d.toP = some p := by
    cases d <;> first | exact ⟨_, rfl⟩ | (simp [flatD] at f; done) | skip
    all_goals simp [flatD] at f
  obtain ⟨p, hp⟩ := hp
  refine ⟨?_, p, hp, fun e y q fe re eq => ?_⟩
  · rcases key d x p f r hp with ⟨_, rfl⟩ | ⟨_, _, rfl⟩ | ⟨_, _, rfl⟩ | ⟨_, _, rfl⟩ <;> rfl
  · rcases key d x p f r hp with ⟨rfl, rfl⟩ | ⟨_, rfl, rfl⟩ | ⟨_, rfl, rfl⟩ | ⟨_, rfl, rfl⟩ <;> rcases key e y q fe re eq with ⟨rfl, rfl⟩ | ⟨_, rfl, rfl⟩ | ⟨_, rfl, rfl⟩ | ⟨_, rfl, rfl⟩ <;> simp only [eqV, PyData.eqv]
theorem inV_eq {G : GI} {d : D} {x : V} {p : PyData} (f : flatD d = true) (r : Rep G oc ρ H d x) (hp : d.toP = some p) : ∀ {ds : List D} {vs : List V} {ps : List PyData}, ds.all flatD = true → RepL G oc ρ H ds vs → D.toPs ds = some ps → (vs.all L2.flatV = true ∧ inV x vs = ps.any fun z => PyData.eqv z p)
  | [], vs, ps, _, h, e => by
    simp only [D.toPs, Option.some.injEq] at e; subst e
    rw [h.nil_inv]; exact ⟨rfl, rfl⟩
  | e :: es, vs, ps, c, h, q => by
    obtain ⟨v, w, rfl, h1, h2⟩ := h.cons_inv
    simp only [List.all_cons, Bool.and_eq_true] at c
    simp only [D.toPs] at q
    obtain ⟨f1, p', hp', k⟩ := flat_flatV f r
    rw [hp] at hp'; cases hp'
    cases q1 : e.toP with
    | none => rw [q1] at q; simp at q
    | some p1 => cases q2 : D.toPs es with
      | none => rw [q1, q2] at q; simp at q
      | some ps' =>
        rw [q1, q2] at q
        simp only [Option.some.injEq] at q
        subst q
        obtain ⟨a1, a2⟩ := inV_eq f r hp c.2 h2 q2
        refine ⟨?_, ?_⟩
        · simp only [List.all_cons, Bool.and_eq_true]
          exact ⟨(flat_flatV c.1 h1).1, a1⟩
        · show (eqV v x || inV x w) = (PyData.eqv p1 p || ps'.any fun z => PyData.eqv z p)
          rw [a2, k e v p1 c.1 h1 q1]
theorem dop_in_ {ng : Bool} (hu : X.A.units + 65 < cLine) {f : Value → Value → Sem Value}
    (hs : OpR X f (fun x y H Q => ∃ i j, x = .str i ∧ y = .str j ∧ Q (.bl (ng != (!(Builtin.Str.occurrences j i 0 j.length 1).isEmpty))) H))
    (ht : OpR X f (rIn X.K ng)) (hl : OpR X f (fun x y H Q => ∃ d ds, Dp X.K H x d ∧ Dp X.K H y (.list ds) ∧ SeqAt.shaped d = true ∧ SeqAt.shaped (.list ds) = true ∧ Q (.bl (ng != ds.any fun z => PyData.eqv z d)) H)) : DOp X la T oc f (inD ng) := fun {pins s σ H x y v u Q ρ S d e E} I rx ry sr rd re h => by
  have lists : ∀ {ds : List D}, S.items e = some ds → tG (gX X la T) (RD (gX X la T) oc) (inLs ng ds d S) ρ H Q E → wpAny (model X.prog X.w) X.A (f v u) (EP X pins σ Q) X.xe s := fun {ds} hi h => by
    unfold inLs at h
    cases q1 : d.toP with
    | none => rw [q1] at h; exact h.elim
    | some p => cases q2 : D.toPs ds with
      | none => rw [q1, q2] at h; exact h.elim
      | some ps =>
        rw [q1, q2] at h
        dsimp only at h
        by_cases c : (pdOk p && pdOk (.list ps)) = true
        · rw [if_pos c] at h
          rw [Bool.and_eq_true] at c
          exact hl pins s σ H x y v u Q I rx ry ⟨p, ps, toP_dp _ q1 rd, items_dp sr re hi q2, c.1, c.2, okR sr h (by simp only [Rep])⟩
        · rw [if_neg c] at h; exact h.elim
  cases e with
  | str b => cases d with
    | str a =>
      simp only [inD] at h
      rw [rep_str] at rd re
      exact hs pins s σ H x y v u Q I rx ry ⟨a, b, rd, re, okR sr h (by simp only [Rep])⟩
    | _ => exact h.elim
  | tup ds =>
    simp only [inD] at h
    cases q1 : d.toP with
    | none => rw [q1] at h; exact h.elim
    | some p => cases q2 : D.toPs ds with
      | none => rw [q1, q2] at h; exact h.elim
      | some ps =>
        rw [q1, q2] at h
        dsimp only at h
        by_cases c : (flatD d && ds.all flatD) = true
        · rw [if_pos c] at h
          rw [Bool.and_eq_true] at c
          rw [rep_tup] at re
          obtain ⟨a, vs, rfl, ft, r⟩ := re
          obtain ⟨k1, k2⟩ := inV_eq c.1 rd q1 c.2 r q2
          refine ht pins s σ H x _ v u Q I rx ry ⟨a, vs, rfl, .inr ft.sq, (flat_flatV c.1 rd).1, k1, ?_⟩
          rw [k2]
          refine okR sr h ?_
          simp only [Rep]
          cases ng <;> simp
        · rw [if_neg c] at h; exact h.elim
  | lst ds => exact lists rfl (by simpa only [inD, Sto.items] using h)
  | cell n =>
    simp only [inD] at h
    cases q : S.items (.cell n) with
    | none => rw [q] at h; exact h.elim
    | some ds => rw [q] at h; exact lists q h
  | _ => exact h.elim
theorem dop_in (hu : X.A.units + 65 < cLine) : DOp X la T oc (compareOp .In) (inD false) := dop_in_ hu
  (fun pins s σ H x y v u Q I rx ry ⟨i, j, a, b, q⟩ => op_in_str pins s σ H x y v u Q I rx ry ⟨i, j, a, b, by simpa using q⟩) op_in_seq
  (fun pins s σ H x y v u Q I rx ry ⟨d, ds, a, b, c, e, q⟩ => op_inD hu pins s σ H x y v u Q I rx ry ⟨d, ds, a, b, c, e, by simpa using q⟩)
theorem dop_nin (hu : X.A.units + 65 < cLine) : DOp X la T oc (compareOp .NotIn) (inD true) := dop_in_ hu
  (fun pins s σ H x y v u Q I rx ry ⟨i, j, a, b, q⟩ => op_notin_str pins s σ H x y v u Q I rx ry ⟨i, j, a, b, by simpa using q⟩) op_notIn_seq
  (fun pins s σ H x y v u Q I rx ry ⟨d, ds, a, b, c, e, q⟩ => op_notInD hu pins s σ H x y v u Q I rx ry ⟨d, ds, a, b, c, e, by simpa using q⟩)
def cmOf : Cm → CmpOp
  | .eq => .Eq | .ne => .NotEq | .lt => .Lt | .le => .LtE | .gt => .Gt | .ge => .GtE | .in_ => .In | .nin => .NotIn
theorem dop_cmp (hu : X.A.units + 65 < cLine) : ∀ c : Cm, DOp X la T oc (compareOp (cmOf c)) (cmpD c)
  | .eq => dop_eq (by omega) | .ne => dop_ne (by omega) | .lt => dop_lt (by omega) | .le => dop_cmpI op_le | .gt => dop_cmpI op_gt | .ge => dop_cmpI op_ge | .in_ => dop_in hu | .nin => dop_nin hu
theorem cmpD_bool {c : Cm} {x y : D} {S S' : Sto} {r : D} (h : cmpD c x y S = .ok r S') : S' = S ∧ ∃ b, r = .bl b := by
  cases c <;> simp only [cmpD, eqD, ltD, cmpI, inD, inLs] at h <;> (repeat' (split at h)) <;> first | (cases h; done) | (injection h with h1 h2; exact ⟨h2.symm, _, h1.symm⟩)
end
end LT
set_option Elab.async false
set_option linter.all false
set_option maxRecDepth 100000
set_option maxHeartbeats 4000000
/-! Own layer, part D: subscripts, slices, types, builtins. -/
namespace PySem.W
open PySem PySem.Spec PyProof.Rows
/-! ### sorting: insertion is the merge sort -/
section
variable {α : Type} {le : α → α → Bool}
def ins' (le : α → α → Bool) (x : α) : List α → List α
  | [] => [x]
  | y :: r => if le x y then x :: y :: r else y :: ins' le x r
def srt' (le : α → α → Bool) : List α → List α
  | [] => []
  | x :: r => ins' le x (srt' le r)
theorem ins'_mem {x y : α} : ∀ {l : List α}, y ∈ ins' le x l → y = x ∨ y ∈ l
  | [], h => by simp [ins'] at h; exact .inl h
  | z :: r, h => by
    unfold ins' at h
    split at h
    · rcases List.mem_cons.mp h with h | h
      · exact .inl h
      · exact .inr h
    · rcases List.mem_cons.mp h with h | h
      · exact .inr (by rw [h]; exact List.mem_cons_self)
      · rcases ins'_mem h with h | h
        · exact .inl h
        · exact .inr (List.mem_cons_of_mem _ h)
theorem ins'_sorted (t : TotalLe le) (x : α) : ∀ {l : List α}, l.Pairwise (fun a b => le a b = true) → (ins' le x l).Pairwise (fun a b => le a b = true)
  | [], _ => by simp [ins']
  | y :: r, h => by
    unfold ins'
    obtain ⟨h1, h2⟩ := List.pairwise_cons.mp h
    split
    · rename_i q
      refine List.pairwise_cons.mpr ⟨fun z hz => ?_, h⟩
      rcases List.mem_cons.mp hz with e | hz
      · rw [e]; exact q
      · exact t.trans _ _ _ q (h1 z hz)
    · rename_i q
      refine List.pairwise_cons.mpr ⟨fun z hz => ?_, ins'_sorted t x h2⟩
      rcases ins'_mem hz with e | hz
      · rw [e]
        rcases t.total x y with h | h
        · exact absurd h q
        · exact h
      · exact h1 z hz
theorem ins'_rank (t : TotalLe le) (c x : α) : ∀ {l : List α}, (ins' le x l).filter (sameRank le c) = (x :: l).filter (sameRank le c)
  | [] => by simp [ins']
  | y :: r => by
    unfold ins'
    split
    · rfl
    · rename_i q
      rw [List.filter_cons, ins'_rank t c x (l := r), List.filter_cons, List.filter_cons, List.filter_cons]
      by_cases hx : sameRank le c x = true
      · by_cases hy : sameRank le c y = true
        · exfalso
          unfold sameRank at hx hy
          simp only [Bool.and_eq_true] at hx hy
          exact q (t.trans _ _ _ hx.2 hy.1)
        · simp [hx, hy]
      · simp [hx]
theorem srt'_eq (t : TotalLe le) (l : List α) : srt' le l = l.mergeSort le := by
  refine sort_unique t ?_ fun c => ?_
  · induction l with
    | nil => simp [srt']
    | cons x r ih => exact ins'_sorted t x ih
  · induction l with
    | nil => rfl
    | cons x r ih =>
      show (ins' le x (srt' le r)).filter _ = _
      rw [ins'_rank t, List.filter_cons, List.filter_cons, ih]
end
end PySem.W
namespace LT
open PySem PySem.Spec PyProof.Rows L2

section
variable {G : GI} {oc : Nat → Option Addr} {ρ : Pl} {H : Hp} {S : Sto}
/-! ### the forms of lists of plain things -/
theorem ints_rep : ∀ {ds : List D} {ns : List Int} {vs : List V}, intsOf ds = some ns → RepL G oc ρ H ds vs → vs = ns.map V.int
  | [], ns, vs, e, h => by
    simp only [intsOf, Option.some.injEq] at e; subst e
    rw [h.nil_inv]; rfl
  | .int i :: ds, ns, vs, e, h => by
    simp only [intsOf, Option.map_eq_some_iff] at e
    obtain ⟨ms, e, rfl⟩ := e
    obtain ⟨v, r, rfl, h1, h2⟩ := h.cons_inv
    rw [rep_int] at h1
    rw [h1, ints_rep e h2]; rfl
  | .non :: _, _, _, e, _ => by simp [intsOf] at e
  | .bl _ :: _, _, _, e, _ => by simp [intsOf] at e
  | .str _ :: _, _, _, e, _ => by simp [intsOf] at e
  | .tup _ :: _, _, _, e, _ => by simp [intsOf] at e
  | .lst _ :: _, _, _, e, _ => by simp [intsOf] at e
  | .scr _ :: _, _, _, e, _ => by simp [intsOf] at e
  | .cell _ :: _, _, _, e, _ => by simp [intsOf] at e
  | .fn _ :: _, _, _, e, _ => by simp [intsOf] at e
  | .own _ _ :: _, _, _, e, _ => by simp [intsOf] at e
  | .clo _ _ :: _, _, _, e, _ => by simp [intsOf] at e
theorem bls_rep : ∀ {ds : List D} {ns : List Bool} {vs : List V}, blsOf ds = some ns → RepL G oc ρ H ds vs → vs = ns.map V.bl
  | [], ns, vs, e, h => by
    simp only [blsOf, Option.some.injEq] at e; subst e
    rw [h.nil_inv]; rfl
  | .bl i :: ds, ns, vs, e, h => by
    simp only [blsOf, Option.map_eq_some_iff] at e
    obtain ⟨ms, e, rfl⟩ := e
    obtain ⟨v, r, rfl, h1, h2⟩ := h.cons_inv
    rw [rep_bl] at h1
    rw [h1, bls_rep e h2]; rfl
  | .non :: _, _, _, e, _ => by simp [blsOf] at e
  | .int _ :: _, _, _, e, _ => by simp [blsOf] at e
  | .str _ :: _, _, _, e, _ => by simp [blsOf] at e
  | .tup _ :: _, _, _, e, _ => by simp [blsOf] at e
  | .lst _ :: _, _, _, e, _ => by simp [blsOf] at e
  | .scr _ :: _, _, _, e, _ => by simp [blsOf] at e
  | .cell _ :: _, _, _, e, _ => by simp [blsOf] at e
  | .fn _ :: _, _, _, e, _ => by simp [blsOf] at e
  | .own _ _ :: _, _, _, e, _ => by simp [blsOf] at e
  | .clo _ _ :: _, _, _, e, _ => by simp [blsOf] at e
theorem strs_rep : ∀ {ds : List D} {ns : List Str} {vs : List V}, strsOf ds = some ns → RepL G oc ρ H ds vs → vs = ns.map V.str
  | [], ns, vs, e, h => by
    simp only [strsOf, Option.some.injEq] at e; subst e
    rw [h.nil_inv]; rfl
  | .str i :: ds, ns, vs, e, h => by
    simp only [strsOf, Option.map_eq_some_iff] at e
    obtain ⟨ms, e, rfl⟩ := e
    obtain ⟨v, r, rfl, h1, h2⟩ := h.cons_inv
    rw [rep_str] at h1
    rw [h1, strs_rep e h2]; rfl
  | .non :: _, _, _, e, _ => by simp [strsOf] at e
  | .int _ :: _, _, _, e, _ => by simp [strsOf] at e
  | .bl _ :: _, _, _, e, _ => by simp [strsOf] at e
  | .tup _ :: _, _, _, e, _ => by simp [strsOf] at e
  | .lst _ :: _, _, _, e, _ => by simp [strsOf] at e
  | .scr _ :: _, _, _, e, _ => by simp [strsOf] at e
  | .cell _ :: _, _, _, e, _ => by simp [strsOf] at e
  | .fn _ :: _, _, _, e, _ => by simp [strsOf] at e
  | .own _ _ :: _, _, _, e, _ => by simp [strsOf] at e
  | .clo _ _ :: _, _, _, e, _ => by simp [strsOf] at e
/-- a list, or a tuple -/
theorem seq_sq {d : D} {x : V} {ds : List D} (s : SR G ρ H S) (r : Rep G oc ρ H d x) (h : S.seq d = some ds) : ∃ a vs, x = .ref a ∧ (H a = some (.lst vs) ∨ FzT G ρ H a vs ∧ d = .tup ds) ∧ RepL G oc ρ H ds vs := by
  cases d with
  | tup xs =>
    simp only [Sto.seq, Option.some.injEq] at h; subst h
    rw [rep_tup] at r
    obtain ⟨a, vs, h1, h2, h3⟩ := r
    exact ⟨a, vs, h1, .inr ⟨h2, rfl⟩, h3⟩
  | _ =>
    obtain ⟨a, vs, h1, h2, h3⟩ := items_sq s r (by simpa only [Sto.seq] using h)
    exact ⟨a, vs, h1, .inl h2, h3⟩
theorem ixN_some {α β : Type} {xs : List α} {ys : List β} (hl : xs.length = ys.length) {i : Int} {d : α} (h : atI xs i = some d) : ∃ j y, ixN ys.length i = some j ∧ ys[j]? = some y ∧ xs[j]? = some d ∧ atI ys i = some y := by
  unfold atI at h
  rw [hl] at h
  cases q : ixN ys.length i with
  | none => rw [q] at h; cases h
  | some j =>
    rw [q] at h
    have h : xs[j]? = some d := h
    have hj : j < ys.length := by rw [← hl]; exact (List.getElem?_eq_some_iff.mp h).1
    refine ⟨j, ys[j], rfl, by simp [hj], h, ?_⟩
    unfold atI
    rw [q]
    simp [hj]
theorem atI_rep {ds : List D} {vs : List V} {i : Int} {d : D} (r : RepL G oc ρ H ds vs) (h : atI ds i = some d) : ∃ v, atI vs i = some v ∧ Rep G oc ρ H d v := by
  obtain ⟨j, y, _, h2, h3, h4⟩ := ixN_some r.length.symm h
  obtain ⟨v, e, q⟩ := r.get h3
  rw [h2] at e; cases e
  exact ⟨y, h4, q⟩
theorem cut_rep {ds : List D} {vs : List V} (lo hi : Option Int) (r : RepL G oc ρ H ds vs) : RepL G oc ρ H (cutD ds lo hi) (cutV vs lo hi) := by
  unfold cutD cutV
  rw [r.length]
  exact (r.drop _).take _
end

section
variable (X : Cx) (la : Nat → Arguments → Expr → Scope → List Str → Prop) (T : List NdefX.NTab) (oc : Nat → Option Addr)
/-- a call with values that does what F says of their data -/
def DCall (f : Value) (F : List D → Sto → Res D) : Prop :=
  ∀ {pins : List (Addr × Obj)} {s : Shared} {σ : L2.St} {H : Hp} {xs : List V} {us : List Value} {Q : VK} {ρ : Pl} {S : Sto} {ds : List D} {E : Value → Option Addr → Hp → Prop},
    Inv X pins σ H s → Vals xs us → SR (gX X la T) ρ H S → RepL (gX X la T) oc ρ H ds xs → tG (gX X la T) (RD (gX X la T) oc) (F ds S) ρ H Q E →
      wpAny (model X.prog X.w) X.A (call f us) (EP X pins σ Q) X.xe s
end
section
variable {X : Cx} {la : Nat → Arguments → Expr → Scope → List Str → Prop} {T : List NdefX.NTab} {oc : Nat → Option Addr} {ρ : Pl} {H : Hp} {S : Sto} {d e : D} {x y : V} {Q : VK} {E : Value → Option Addr → Hp → Prop}
theorem dix_ {value slice : Expr} {pins : List (Addr × Obj)} {s : Shared} {σ : L2.St} {v u : Value} (I : Inv X pins σ H s) (rx : RelV x v) (ry : RelV y u) (sr : SR (gX X la T) ρ H S) (rd : Rep (gX X la T) oc ρ H d x) (re : Rep (gX X la T) oc ρ H e y)
    (h : tG (gX X la T) (RD (gX X la T) oc) (idxD d e S) ρ H Q E) (hs : subscripted slice false v u = operate [v, u] (getItem v u)) : wpAny (model X.prog X.w) X.A (subscriptTail value slice v u) (EP X pins σ Q) X.xe s := by
  have go : rIx X.K x y H Q → wpAny (model X.prog X.w) X.A (subscriptTail value slice v u) (EP X pins σ Q) X.xe s := fun q => ix_seq value slice pins s σ H x y v u Q I rx ry q hs
  have seqs : ∀ {i : Int} {ds : List D}, y = .int i → S.seq d = some ds → tG (gX X la T) (RD (gX X la T) oc) (match atI ds i with | some d => .ok d S | none => .bad) ρ H Q E → rIx X.K x y H Q := fun {i ds} hy hs h => by
    cases q : atI ds i with
    | none => rw [q] at h; exact h.elim
    | some z =>
      rw [q] at h
      obtain ⟨a, vs, ex, ha, r⟩ := seq_sq sr rd hs
      obtain ⟨v', e1, r1⟩ := atI_rep r q
      rcases ha with ha | ⟨ha, _⟩
      · exact .inl ⟨a, vs, i, v', ex, hy, .inl (.inl ha), e1, okR sr h r1⟩
      · exact .inr (.inl ⟨a, vs, i, v', ex, hy, ha.sq, e1, okR sr h r1⟩)
  refine go ?_
  cases e with
  | int i =>
    rw [rep_int] at re
    cases d with
    | str z =>
      rw [rep_str] at rd
      simp only [idxD] at h
      by_cases c : z.length ≤ lineN
      · rw [if_pos c] at h
        cases q : atI z.cps.toList i with
        | none => rw [q] at h; exact h.elim
        | some k =>
          rw [q] at h
          exact .inr (.inr ⟨z, i, k, rd, re, by rw [lineN_eq]; exact c, q, okR sr h (by simp only [Rep])⟩)
      · rw [if_neg c] at h; exact h.elim
    | scr ns =>
      rw [rep_scr] at rd
      obtain ⟨a, rfl, fa⟩ := rd
      simp only [idxD] at h
      cases q : atI ns i with
      | none => rw [q] at h; exact h.elim
      | some k =>
        rw [q] at h
        obtain ⟨j, z, h1, h2, h3, h4⟩ := ixN_some (ys := ns.map V.int) (by simp) q
        rw [List.getElem?_map, h3] at h2
        cases h2
        exact .inl ⟨a, _, i, _, rfl, re, fa.sq, h4, okR sr h (by simp only [Rep])⟩
    | tup xs =>
      simp only [idxD] at h
      exact seqs re rfl h
    | lst xs =>
      simp only [idxD] at h
      exact seqs re rfl h
    | cell n =>
      simp only [idxD] at h
      cases q : S.seq (.cell n) with
      | none => rw [q] at h; exact h.elim
      | some ds => rw [q] at h; exact seqs re q h
    | _ => exact h.elim
  | _ => cases d <;> exact h.elim
/-! ### slices -/
theorem dsl_ {pins : List (Addr × Obj)} {s : Shared} {σ : L2.St} {v vl vu : Value} {lo hi : Option Int} {sl : Addr} (I : Inv X pins σ H s) (rx : RelV x v) (hsl : s.heap.IsSliceOf sl vl vu .none) (pl : IsPart vl lo) (pu : IsPart vu hi)
    (sr : SR (gX X la T) ρ H S) (rd : Rep (gX X la T) oc ρ H d x) (h : tG (gX X la T) (RD (gX X la T) oc) (slD d lo hi S) ρ H Q E) :
    ∃ T id, typeLookup (.type T) "__getitem__" = pure (some (.builtin id)) ∧ s.TypeIs v T ∧ wpAny (model X.prog X.w) X.A (getItem v (.ref sl)) (EP X pins σ Q) X.xe s := by
  have lists : ∀ {ds : List D}, S.items d = some ds → tG (gX X la T) (RD (gX X la T) oc) (.ok (.lst (cutD ds lo hi)) S) ρ H Q E → ∃ T id, typeLookup (.type T) "__getitem__" = pure (some (.builtin id)) ∧ s.TypeIs v T ∧ wpAny (model X.prog X.w) X.A (getItem v (.ref sl)) (EP X pins σ Q) X.xe s := fun {ds} hi' h => by
    obtain ⟨a, vs, ex, ha, r⟩ := items_sq sr rd hi'
    exact sl_list pins s σ H x v vl vu lo hi sl Q I rx hsl pl pu ⟨a, vs, ex, .inl (.inl ha), okLst sr h (cut_rep lo hi r)⟩
  cases d with
  | str z =>
    rw [rep_str] at rd
    simp only [slD] at h
    by_cases c : z.length ≤ lineN
    · rw [if_pos c] at h
      exact sl_str pins s σ H x v vl vu lo hi sl Q I rx hsl pl pu ⟨z, rd, by rw [lineN_eq]; exact c, okR sr h (by simp only [Rep])⟩
    · rw [if_neg c] at h; exact h.elim
  | tup ds =>
    rw [rep_tup] at rd
    obtain ⟨a, vs, ex, fa, r⟩ := rd
    simp only [slD] at h
    refine sl_tupB pins s σ H x v vl vu lo hi sl Q I rx hsl pl pu ⟨a, vs, ex, fa.sq, fun w => ?_, fun _ => okTup sr h (cut_rep lo hi r)⟩
    refine okR sr h (rep_tup.mpr ⟨a, vs, rfl, fa, ?_⟩)
    have e : cutD ds lo hi = ds := by
      unfold cutD
      rw [r.length] at w
      rw [w.1, w.2, List.drop_zero, Nat.sub_zero, List.take_length]
    rw [e]; exact r
  | lst ds => exact lists rfl (by simpa only [slD, Sto.items] using h)
  | cell n =>
    simp only [slD] at h
    cases q : S.items (.cell n) with
    | none => rw [q] at h; exact h.elim
    | some ds => rw [q] at h; exact lists q h
  | _ => exact h.elim
/-! ### types -/
def tyN : TyK → String
  | .int => "int" | .bool => "bool" | .str => "str" | .tuple => "tuple" | .list => "list"
theorem isi_ok {t : TyK} {pins : List (Addr × Obj)} {s : Shared} {σ : L2.St} {v : Value} {b : Bool} (I : Inv X pins σ H s) (rx : RelV x v) (sr : SR (gX X la T) ρ H S) (rd : Rep (gX X la T) oc ρ H d x) (h : isiD t S d = some b) (q : Q (.bl b) H) :
    wpAny (model X.prog X.w) X.A (call (.builtin "isinstance") [v, .type (tyN t)]) (EP X pins σ Q) X.xe s := by
  have go : ∀ {ty : String}, TyX X.K H x (.type ty) → kitB ty (tyN t) = some b → wpAny (model X.prog X.w) X.A (call (.builtin "isinstance") [v, .type (tyN t)]) (EP X pins σ Q) X.xe s := fun {ty} h1 h2 =>
    call_isi pins s σ H [x, .ty (tyN t)] [v, .type (tyN t)] Q I (.cons rx (.cons rfl .nil)) ⟨x, .ty (tyN t), .type ty, .type (tyN t), b, rfl, .ty _, h1, kit_ty h2, q⟩
  have lists : ∀ {ds : List D}, S.items d = some ds → decide (t = .list) = b → wpAny (model X.prog X.w) X.A (call (.builtin "isinstance") [v, .type (tyN t)]) (EP X pins σ Q) X.xe s := fun {ds} h1 h2 => by
    obtain ⟨a, vs, rfl, ha, _⟩ := items_sq sr rd h1
    exact go (.base (.lst ha)) (by subst h2; clear go h q; cases t <;> decide +kernel)
  cases d with
  | non =>
    rw [rep_non] at rd; subst rd
    simp only [isiD, Option.some.injEq] at h; subst h
    exact go (.base .non) (by clear q go lists; cases t <;> decide +kernel)
  | bl c =>
    rw [rep_bl] at rd; subst rd
    simp only [isiD, Option.some.injEq] at h; subst h
    exact go (.base (.bl _)) (by clear q go lists; cases t <;> decide +kernel)
  | int c =>
    rw [rep_int] at rd; subst rd
    simp only [isiD, Option.some.injEq] at h; subst h
    exact go (.base (.int _)) (by clear q go lists; cases t <;> decide +kernel)
  | str c =>
    rw [rep_str] at rd; subst rd
    simp only [isiD, Option.some.injEq] at h; subst h
    exact go (.base (.str _)) (by clear q go lists; cases t <;> decide +kernel)
  | tup c =>
    rw [rep_tup] at rd
    obtain ⟨a, vs, rfl, fa, r⟩ := rd
    simp only [isiD, Option.some.injEq] at h; subst h
    have k : kitB "tuple" (tyN t) = some (decide (t = .tuple)) := by clear q go lists; cases t <;> decide +kernel
    rcases fa with ⟨⟨o, f, _⟩, _⟩ | ⟨o, its, n, h1, h2, _⟩
    · exact go (.fTuple f) k
    · exact go (.kTuple h1 h2) k
  | lst c =>
    simp only [isiD, Sto.items, Option.map_some, Option.some.injEq] at h
    exact lists rfl h
  | cell n =>
    simp only [isiD] at h
    cases q1 : S.items (.cell n) with
    | none => rw [q1] at h; cases h
    | some ds =>
      rw [q1] at h
      exact lists q1 (Option.some.inj h)
  | _ => simp [isiD, Sto.items] at h
end
end LT
set_option Elab.async false
set_option linter.all false
set_option maxRecDepth 100000
set_option maxHeartbeats 4000000
/-! Own layer, part D2: builtins, methods. -/
namespace PySem.W
open PySem PySem.Calls PyProof.Rows
section
variable {prog : Program} {w : World} {A : Around} {E : Value → Shared → Prop} {s : Shared} {β : Type} {vs : List Value} {bs : List β} {enc : β → PyData} {R : Value → β → Prop}
theorem collect_tup {l : Addr} {vs : List Value} {Q : List Value → Shared → Prop} (hl : IsTup s.heap l vs.toArray)
    (h : Q vs { s with heap := (s.heap.push (seqObj "list" #[] 0)).update s.heap.objs.size (Obj.mapSeq (· ++ vs.toArray)) }) (hsz : vs.length ≤ sizeLine := by size_fits) :
    wpAny (model prog w) A (collect (.ref l)) Q E s := by
  obtain ⟨o, ho, hc, n, hd⟩ := id hl
  unfold collect
  refine wpAny_bind (wpAny_runValue (codeAny_builtin entry_proto_collect' ?_))
  show wpAny _ _ (do again (.builtin "list.__iadd__" ⟨[← newList [], .ref l], []⟩)) _ _ s
  refine wpAny_bind (wpAny_newList (wpAny_pure ⟨Code.quiet_builtin _ (by decide +kernel), codeAny_builtin entry_list_iadd' ?_⟩))
  show wpAny _ _ (Builtin.List.listExtendWith (.ref s.heap.objs.size) (.ref l) (.ref s.heap.objs.size)) _ _ { s with heap := s.heap.push (seqObj "list" #[] 0) }
  unfold Builtin.List.listExtendWith
  have ho' : (s.heap.push (seqObj "list" #[] 0)).get? l = some o := Heap.get?_push_of_some _ ho
  refine wpAny_bind (wpAny_typeOf (T := "tuple") ⟨o, ho', hc⟩ ?_)
  have ht : (Value.type "tuple" == Value.type "tuple") = true := by rfl
  rw [if_pos (by rw [ht]; simp)]
  refine wpAny_bind (listItems_at ho' hd ?_)
  refine wpAny_bind (listItems_at (xs := #[]) (n := 0) (Heap.get?_push_size _ rfl) rfl ?_)
  rw [if_neg (by simp)]
  refine wpAny_bind (listUpdate_at (xs := #[]) (n := 0) (Heap.get?_push_size _ rfl) rfl ?_ (Nat.zero_le _) (by show (#[] ++ vs.toArray).size ≤ sizeLine + 1; simp only [Array.size_append, List.size_toArray, List.length_nil]; omega))
  refine wpAny_pure ?_
  show wpAny (model prog w) A (do
      let o ← load s.heap.objs.size
      match o.data with
      | .seq xs _ => pure xs.toList
      | _ => unsupported "internal:collect") Q E { s with heap := (s.heap.push (seqObj "list" #[] 0)).update s.heap.objs.size (Obj.mapSeq (· ++ vs.toArray)) }
  refine wpAny_bind (wpAny_load (get?_update_seq (Heap.get?_push_size _ rfl) _) ?_)
  show wpAny _ _ (pure ((#[] : Array Value) ++ vs.toArray).toList) Q E _
  rw [show ((#[] : Array Value) ++ vs.toArray).toList = vs by simp]
  exact wpAny_pure h
theorem sorted_of_sortT {l : Addr} {vs : List Value} {kw : List (Str × Value)} {Q : Value → Shared → Prop} (hl : IsTup s.heap l vs.toArray) (hL : vs.length ≤ sizeLine) (ha1 : argsOk "sorted" ⟨[.ref l], kw⟩) (ha2 : ∀ x, argsOk "list.sort" ⟨[.ref x], kw⟩)
    (body : ∀ E' : Value → Shared → Prop, wpAny (model prog w) A.in1.in1 (Builtin.«list.sort» ⟨[.ref (s.heap.objs.size + 1)], kw⟩) (fun f s' => f = .done (.ret .none) ∧ Q (.ref (s.heap.objs.size + 1)) s') E' { s with heap := copyHeap s.heap vs }) :
    wpAny (model prog w) A (call (.builtin "sorted") [.ref l] kw) Q E s := by
  refine call_function_entry_kw kind_sorted plain_sorted entry_sorted ha1 ?_
  unfold Builtin.«sorted»
  refine wpAny_bind (m := checkCount "sorted" 1 1 _) (wpAny_pure ?_)
  refine wpAny_bind (collect_tup hl ?_ hL)
  refine wpAny_bind (wpAny_newList ?_ hL)
  have hsz : ((s.heap.push (seqObj "list" #[] 0)).update s.heap.objs.size (Obj.mapSeq (· ++ vs.toArray))).objs.size = s.heap.objs.size + 1 := by
    rw [Heap.size_update, size_push']
  show wpAny _ _ _ _ _ { s with heap := copyHeap s.heap vs }
  rw [hsz]
  refine wpAny_bind (wpAny_holding (wpAny_call_entry_kw slot_list_sort ⟨_, copyHeap_at s.heap vs, rfl⟩ entry_list_sort ?body (ha2 _)))
  case body =>
    show wpAny (model prog w) A.in1.in1 (Builtin.«list.sort» ⟨[.ref (s.heap.objs.size + 1)], kw⟩) _ _ _
    refine wpAny_mono (body _) (fun f s' hf => ?_) fun _ _ e => e
    obtain ⟨rfl, hq⟩ := hf
    exact ⟨_, rfl, wpAny_pure ⟨_, rfl, hq⟩⟩
/-- sorted(xs), a list or a tuple -/
theorem sorted_dataA {l : Addr} {Q : Value → Shared → Prop} (hl : s.heap.IsList l vs.toArray ∨ IsTup s.heap l vs.toArray) (e : EachIs R vs bs) (er : EachIs (fun v b => ∃ as, Reads s.heap v (enc b) as) vs bs) (hal : AllAlike (bs.map enc)) (hk : Sortable (bs.map enc)) (hL : bs.length ≤ sizeLine)
    (hu : ∀ b, b ∈ bs → A.units + 2 + (enc b).depth < cLine) (h : ∀ out, out.length = bs.length → EachIs R out (bs.mergeSort (dataLe false enc)) → Q (.ref (s.heap.objs.size + 1)) { s with heap := sortedAll s.heap vs (List.toArray out) }) :
    wpAny (model prog w) A (call (.builtin "sorted") [.ref l]) Q E s := by
  rcases hl with hl | hl
  · exact sorted_data hl e er hal hk hL hu h
  have er' : EachIs (fun v b => ∃ as, Reads (sortingHeap (copyHeap s.heap vs) (s.heap.objs.size + 1) vs) v (enc b) as) vs bs := er.mono fun _ _ ⟨as, r⟩ => ⟨as, PyProof.Rows.Reads.keeps (fun _ _ => sorting_copy_old) r⟩
  have hL' : vs.length ≤ sizeLine := by rw [e.length]; exact hL
  exact sorted_of_sortT hl hL' (args_sorted1 _) (fun _ => args_list_sort _) fun _ => list_sort_vals (s := { s with heap := copyHeap s.heap vs }) (copyHeap_at s.heap vs) (SortsAt.data (s := { s with heap := sortingHeap (copyHeap s.heap vs) (s.heap.objs.size + 1) vs }) (each_map (R := fun v d => ∃ as, Reads (sortingHeap (copyHeap s.heap vs) (s.heap.objs.size + 1) vs) v d as) enc er') hal hk (bound_map hu)) hL'
    ⟨rfl, h _ (by rw [sortVals_length false rfl]; exact e.length) (sortVals_data false e er' hal)⟩
end
end PySem.W
namespace LT
open PySem PySem.Spec PyProof.Rows L2
theorem srtD_eq (le : PyData → PyData → Bool) (l : List (PyData × D)) : srtD le l = PySem.W.srt' (fun x y => le x.1 y.1) l := by
  have hi : ∀ (x : PyData × D) (l : List (PyData × D)), insD le x l = PySem.W.ins' (fun x y => le x.1 y.1) x l := fun x l => by
    induction l with
    | nil => rfl
    | cons y r ih =>
      unfold insD PySem.W.ins'
      rw [ih]
  induction l with
  | nil => rfl
  | cons x r ih =>
    unfold srtD PySem.W.srt'
    rw [ih, hi]
theorem toPs_length : ∀ {ds : List D} {ps : List PyData}, D.toPs ds = some ps → ps.length = ds.length
  | [], ps, e => by
    simp only [D.toPs, Option.some.injEq] at e; subst e; rfl
  | d :: ds, ps, e => by
    simp only [D.toPs] at e
    cases q1 : d.toP with
    | none => rw [q1] at e; simp at e
    | some p => cases q2 : D.toPs ds with
      | none => rw [q1, q2] at e; simp at e
      | some ps' =>
        rw [q1, q2] at e
        simp only [Option.some.injEq] at e
        subst e
        simp [toPs_length q2]
theorem leP_eq : (fun x y : PyData × D => leP x.1 y.1) = PySem.W.dataLe false (fun b : PyData × D => b.1) := rfl
section
variable {X : Cx} {la : Nat → Arguments → Expr → Scope → List Str → Prop} {T : List NdefX.NTab} {oc : Nat → Option Addr} {ρ : Pl} {H : Hp} {S : Sto} {d e : D} {x y : V} {Q : VK} {E : Value → Option Addr → Hp → Prop}
open PySem.W in
theorem each_zip {s : Shared} {pins : List (Addr × Obj)} {σ : L2.St} (I : Inv X pins σ H s) : ∀ {ds : List D} {ps : List PyData} {vs : List V} {us : List Value}, D.toPs ds = some ps → RepL (gX X la T) oc ρ H ds vs → Vals vs us →
    EachIs (fun u (b : PyData × D) => ∃ v, RelV v u ∧ Rep (gX X la T) oc ρ H b.2 v) us (ps.zip ds) ∧ EachIs (fun u (b : PyData × D) => ∃ as, Reads s.heap u b.1 as) us (ps.zip ds)
  | [], ps, vs, us, e, h, r => by
    simp only [D.toPs, Option.some.injEq] at e; subst e
    rw [h.nil_inv] at r
    cases r
    exact ⟨.nil, .nil⟩
  | d :: ds, ps, vs, us, e, h, r => by
    simp only [D.toPs] at e
    obtain ⟨v, w, rfl, h1, h2⟩ := h.cons_inv
    cases q1 : d.toP with
    | none => rw [q1] at e; simp at e
    | some p => cases q2 : D.toPs ds with
      | none => rw [q1, q2] at e; simp at e
      | some ps' =>
        rw [q1, q2] at e
        simp only [Option.some.injEq] at e
        subst e
        cases r with
        | cons r1 r2 =>
          obtain ⟨a1, a2⟩ := each_zip I q2 h2 r2
          exact ⟨.cons ⟨v, r1, h1⟩ a1, .cons (Dp.reads I _ _ _ (toP_dp (G := gX X la T) d q1 h1) r1) a2⟩
open PySem.W in
theorem each_rep : ∀ {us : List Value} {bs : List (PyData × D)}, EachIs (fun u (b : PyData × D) => ∃ v, RelV v u ∧ Rep (gX X la T) oc ρ H b.2 v) us bs → ∃ vs, Vals vs us ∧ RepL (gX X la T) oc ρ H (bs.map (·.2)) vs
  | _, _, .nil => ⟨[], .nil, .nil⟩
  | _, _, .cons ⟨v, r, h⟩ t => by
    obtain ⟨vs, a, b⟩ := each_rep t
    exact ⟨v :: vs, .cons r a, .cons h b⟩
/-- sorted(l), l a list object -/
theorem sort_ok {pins : List (Addr × Obj)} {s : Shared} {σ : L2.St} {a : Addr} {ds rs : List D} {vs : List V} (hu : X.A.units + 100 < cLine) (I : Inv X pins σ H s) (sr : SR (gX X la T) ρ H S) (ha : H a = some (.lst vs) ∨ FzT (gX X la T) ρ H a vs) (r : RepL (gX X la T) oc ρ H ds vs) (hs : sortDs ds = some rs)
    (q : ∀ vs', RepL (gX X la T) oc ρ H rs vs' → ∀ p, H p = none → Q (.ref p) (upd H p (.lst vs'))) : wpAny (model X.prog X.w) X.A (call (.builtin "sorted") [.ref a]) (EP X pins σ Q) X.xe s := by
  unfold sortDs at hs
  cases hp : D.toPs ds with
  | none => rw [hp] at hs; cases hs
  | some ps =>
    rw [hp] at hs
    dsimp only at hs
    by_cases c : sortOk ps = true
    · rw [if_pos c] at hs
      cases hs
      have hsq : ∃ its : List Value, Vals vs its ∧ (s.heap.IsList a its.toArray ∨ IsTup s.heap a its.toArray) ∧ vs.length ≤ sizeLine := by
        rcases ha with ha | ha
        · obtain ⟨its, rv, pl, hz⟩ := I.list (show SqL X.K H a vs from .inl (.inl ha))
          exact ⟨its, rv, .inl pl.isList, hz⟩
        · obtain ⟨its, rv, pl, hz⟩ := I.tuple (show SqT X.K H a vs from ha.sq)
          exact ⟨its, rv, .inr pl, hz⟩
      obtain ⟨its, rv, pl, hz⟩ := hsq
      obtain ⟨z1, z2⟩ := each_zip (la := la) (T := T) (ρ := ρ) (oc := oc) I hp r rv
      have hl := toPs_length hp
      have em : (ps.zip ds).map (·.1) = ps := List.map_fst_zip (by omega)
      unfold sortOk at c
      simp only [Bool.and_eq_true, List.all_eq_true, decide_eq_true_eq, Bool.or_eq_true] at c
      obtain ⟨⟨c1, c2⟩, c3⟩ := c
      refine PySem.W.sorted_dataA (enc := fun b : PyData × D => b.1) pl z1 z2 (by rw [em]; exact fun d hd d' hd' => c1 d hd d' hd') (by
        rw [em]
        rcases c3 with c3 | c3
        · left
          intro d hd
          have z := c3 d hd
          split at z
          · exact ⟨_, _, rfl⟩
          · cases z
        · right
          intro d hd
          have z := c3 d hd
          split at z
          · cases z
          · cases z
          · rename_i n1 n2
            exact ⟨n1, fun xs z => n2 xs z⟩) (by rw [List.length_zip, hl, Nat.min_self, ← r.length]; exact hz) (fun b hb => by
          have hb1 : b.1 ∈ ps := by rw [← em]; exact List.mem_map_of_mem hb
          have := c2 _ hb1
          omega) fun out ho eo => ?_
      rw [← leP_eq, ← PySem.W.srt'_eq (by rw [leP_eq]; exact PySem.W.sortLe_total _ _ _), ← srtD_eq] at eo
      obtain ⟨vs', rv', rr⟩ := each_rep eo
      obtain ⟨ep, he'⟩ := PyProof.Rows.sortedAll_at s.heap its out.toArray
      have hlen : vs'.length ≤ sizeLine := by
        rw [rv'.length, ho, List.length_zip, hl, Nat.min_self, ← r.length]
        exact hz
      exact ⟨.ref _, upd H (s.heap.objs.size + 1) (.lst vs'), I.laid (t' := s.toks) (fun _ _ => PyProof.Rows.sortedAll_old) (Nat.le_succ _) ⟨hlen, out, ep, rv', he'⟩, rfl, q vs' rr _ (I.hok.fresh (Nat.le_succ _))⟩
    · rw [if_neg c] at hs; cases hs
/-! ### the builtins -/
def biV : Bi → Value
  | .len => .builtin "len" | .all => .builtin "all" | .any => .builtin "any" | .sorted => .builtin "sorted"
  | .tuple => .type "tuple" | .list => .type "list" | .listm => .type "list" | .int => .type "int" | .str => .type "str"
  | .abs => .builtin "abs" | .sum => .builtin "sum" | .min => .builtin "min" | .max => .builtin "max" | .bool => .type "bool"
theorem RepL.one_inv {d : D} {vs : List V} (h : RepL (gX X la T) oc ρ H [d] vs) : ∃ v, vs = [v] ∧ Rep (gX X la T) oc ρ H d v := by
  obtain ⟨v, r, rfl, h1, h2⟩ := h.cons_inv
  rw [h2.nil_inv]
  exact ⟨v, rfl, h1⟩
theorem RepL.two_inv {d e : D} {vs : List V} (h : RepL (gX X la T) oc ρ H [d, e] vs) : ∃ v w, vs = [v, w] ∧ Rep (gX X la T) oc ρ H d v ∧ Rep (gX X la T) oc ρ H e w := by
  obtain ⟨v, r, rfl, h1, h2⟩ := h.cons_inv
  obtain ⟨w, rfl, h3⟩ := h2.one_inv
  exact ⟨v, w, rfl, h1, h3⟩
theorem minI_spec : ∀ (ns : List Int) (m : Int), minI m ns ∈ m :: ns ∧ ∀ y ∈ m :: ns, minI m ns ≤ y
  | [], m => by simp [minI]
  | i :: r, m => by
    unfold minI
    obtain ⟨h1, h2⟩ := minI_spec r (if i < m then i else m)
    refine ⟨?_, fun y hy => ?_⟩
    · rcases List.mem_cons.mp h1 with e | h
      · rw [e]; split <;> simp
      · exact List.mem_cons_of_mem _ (List.mem_cons_of_mem _ h)
    · have h0 := h2 _ List.mem_cons_self
      rcases List.mem_cons.mp hy with e | hy
      · subst e; split at h0 <;> split <;> omega
      · rcases List.mem_cons.mp hy with e | hy
        · subst e; split at h0 <;> split <;> omega
        · exact h2 y (List.mem_cons_of_mem _ hy)
theorem maxI_spec : ∀ (ns : List Int) (m : Int), maxI m ns ∈ m :: ns ∧ ∀ y ∈ m :: ns, y ≤ maxI m ns
  | [], m => by simp [maxI]
  | i :: r, m => by
    unfold maxI
    obtain ⟨h1, h2⟩ := maxI_spec r (if m < i then i else m)
    refine ⟨?_, fun y hy => ?_⟩
    · rcases List.mem_cons.mp h1 with e | h
      · rw [e]; split <;> simp
      · exact List.mem_cons_of_mem _ (List.mem_cons_of_mem _ h)
    · have h0 := h2 _ List.mem_cons_self
      rcases List.mem_cons.mp hy with e | hy
      · subst e; split at h0 <;> split <;> omega
      · rcases List.mem_cons.mp hy with e | hy
        · subst e; split at h0 <;> split <;> omega
        · exact h2 y (List.mem_cons_of_mem _ hy)
theorem dcall_len : DCall X la T oc (biV .len) (biD .len) := fun {pins s σ H xs us Q ρ S ds E} I rv sr rd h => by
  match ds, rd, h with
  | [], rd, h => exact h.elim
  | a :: _ :: _, rd, h => cases a <;> exact h.elim
  | [d], rd, h =>
    obtain ⟨v, rfl, r⟩ := rd.one_inv
    refine call_len pins s σ H [v] us Q I rv ?_
    have go : ∀ {es : List D}, S.seq d = some es → tG (gX X la T) (RD (gX X la T) oc) (.ok (.int es.length) S) ρ H Q E → ∃ x n, [v] = [x] ∧ LenV X.K x H n ∧ Q (.int n) H := fun {es} hs h => by
      obtain ⟨a, vs, rfl, ha, r2⟩ := seq_sq sr r hs
      refine ⟨_, vs.length, rfl, ?_, ?_⟩
      · rcases ha with ha | ⟨ha, _⟩
        · exact .inl ⟨vs, .inl (.inl ha), rfl⟩
        · exact .inr ⟨vs, ha.sq, rfl⟩
      · rw [r2.length]; exact okR sr h (by simp only [Rep])
    cases d with
    | str z =>
      simp only [biD] at h
      rw [rep_str] at r
      by_cases c : z.length ≤ lineN
      · rw [if_pos c] at h
        exact ⟨v, z.length, rfl, by rw [r]; exact ⟨by rw [lineN_eq]; exact c, rfl⟩, okR sr h (by simp only [Rep])⟩
      · rw [if_neg c] at h; exact h.elim
    | scr ns =>
      simp only [biD] at h
      rw [rep_scr] at r
      obtain ⟨a, rfl, fa⟩ := r
      exact ⟨_, ns.length, rfl, .inl ⟨_, fa.sq, by simp⟩, okR sr h (by simp only [Rep])⟩
    | tup ns => exact go rfl (by simpa only [biD, Sto.seq] using h)
    | lst ns => exact go rfl (by simpa only [biD, Sto.seq, Sto.items] using h)
    | cell n =>
      simp only [biD] at h
      cases q : S.seq (.cell n) with
      | none => rw [q] at h; exact h.elim
      | some es => rw [q] at h; exact go q h
    | _ => exact h.elim
theorem dcall_all (hc : X.calm = true) : DCall X la T oc (biV .all) (biD .all) := fun {pins s σ H xs us Q ρ S ds E} I rv sr rd h => by
  match ds, rd, h with
  | [], rd, h => exact h.elim
  | a :: _ :: _, rd, h => cases a <;> exact h.elim
  | [d], rd, h =>
    obtain ⟨v, rfl, r⟩ := rd.one_inv
    refine cr_all hc pins s σ H [v] us Q I rv ?_
    simp only [biD] at h
    cases q : S.items d with
    | none => rw [q] at h; exact h.elim
    | some es =>
      rw [q] at h
      simp only [Option.bind_some] at h
      cases q2 : blsOf es with
      | none => rw [q2] at h; exact h.elim
      | some bs =>
        rw [q2] at h
        obtain ⟨a, vs, rfl, ha, r2⟩ := items_sq sr r q
        have e := bls_rep q2 r2
        subst e
        exact ⟨a, bs, rfl, .inl (.inl ha), okR sr h (by simp only [Rep])⟩
theorem dcall_any (hc : X.calm = true) : DCall X la T oc (biV .any) (biD .any) := fun {pins s σ H xs us Q ρ S ds E} I rv sr rd h => by
  match ds, rd, h with
  | [], rd, h => exact h.elim
  | a :: _ :: _, rd, h => cases a <;> exact h.elim
  | [d], rd, h =>
    obtain ⟨v, rfl, r⟩ := rd.one_inv
    refine cr_any hc pins s σ H [v] us Q I rv ?_
    simp only [biD] at h
    cases q : S.items d with
    | none => rw [q] at h; exact h.elim
    | some es =>
      rw [q] at h
      simp only [Option.bind_some] at h
      cases q2 : blsOf es with
      | none => rw [q2] at h; exact h.elim
      | some bs =>
        rw [q2] at h
        obtain ⟨a, vs, rfl, ha, r2⟩ := items_sq sr r q
        have e := bls_rep q2 r2
        subst e
        exact ⟨a, bs, rfl, .inl (.inl ha), okR sr h (by simp only [Rep])⟩
theorem dcall_sum (hc : X.calm = true) : DCall X la T oc (biV .sum) (biD .sum) := fun {pins s σ H xs us Q ρ S ds E} I rv sr rd h => by
  match ds, rd, h with
  | [], rd, h => exact h.elim
  | a :: _ :: _, rd, h => cases a <;> exact h.elim
  | [d], rd, h =>
    obtain ⟨v, rfl, r⟩ := rd.one_inv
    refine cr_sum hc pins s σ H [v] us Q I rv ?_
    simp only [biD] at h
    cases q : S.items d with
    | none => rw [q] at h; exact h.elim
    | some es =>
      rw [q] at h
      simp only [Option.bind_some] at h
      cases q2 : intsOf es with
      | none => rw [q2] at h; exact h.elim
      | some bs =>
        rw [q2] at h
        obtain ⟨a, vs, rfl, ha, r2⟩ := items_sq sr r q
        have e := ints_rep q2 r2
        subst e
        exact ⟨a, bs, rfl, .inl (.inl ha), okR sr h (by simp only [Rep])⟩
theorem dcall_tuple : DCall X la T oc (biV .tuple) (biD .tuple) := fun {pins s σ H xs us Q ρ S ds E} I rv sr rd h => by
  match ds, rd, h with
  | [], rd, h => exact h.elim
  | a :: _ :: _, rd, h => cases a <;> exact h.elim
  | [d], rd, h =>
    obtain ⟨v, rfl, r⟩ := rd.one_inv
    refine call_tuple_ofB pins s σ H [v] us Q I rv ?_
    simp only [biD] at h
    cases q : S.seq d with
    | none => rw [q] at h; exact h.elim
    | some es =>
      rw [q] at h
      obtain ⟨a, vs, rfl, ha, r2⟩ := seq_sq sr r q
      refine ⟨a, vs, rfl, ?_⟩
      rcases ha with ha | ⟨ha, _⟩
      · exact .inl ⟨.inl (.inl ha), okTup sr h r2⟩
      · exact .inr ⟨ha.sq, okR sr h (rep_tup.mpr ⟨a, vs, rfl, ha, r2⟩)⟩
theorem list_go {pins : List (Addr × Obj)} {s : Shared} {σ : L2.St} {us : List Value} {v : V} {es : List D} (I : Inv X pins σ H s) (rv : Vals [v] us) (sr : SR (gX X la T) ρ H S) (r : Rep (gX X la T) oc ρ H d v) (hs : S.seq d = some es)
    (q : ∀ vs, RepL (gX X la T) oc ρ H es vs → ∀ p, H p = none → Q (.ref p) (upd H p (.lst vs))) : wpAny (model X.prog X.w) X.A (call (.type "list") us) (EP X pins σ Q) X.xe s := by
  obtain ⟨a, vs, rfl, ha, r2⟩ := seq_sq sr r hs
  refine call_list_of pins s σ H [.ref a] us Q I rv ⟨a, vs, rfl, ?_, q vs r2⟩
  rcases ha with ha | ⟨ha, _⟩
  · exact .inl (.inl (.inl ha))
  · exact .inr ha.sq
theorem dcall_list : DCall X la T oc (biV .list) (biD .list) := fun {pins s σ H xs us Q ρ S ds E} I rv sr rd h => by
  match ds, rd, h with
  | [], rd, h => exact h.elim
  | a :: _ :: _, rd, h => cases a <;> exact h.elim
  | [d], rd, h =>
    obtain ⟨v, rfl, r⟩ := rd.one_inv
    simp only [biD] at h
    cases q : S.seq d with
    | none => rw [q] at h; exact h.elim
    | some es =>
      rw [q] at h
      exact list_go I rv sr r q fun vs r2 => okLst sr h r2
theorem dcall_listm : DCall X la T oc (biV .listm) (biD .listm) := fun {pins s σ H xs us Q ρ S ds E} I rv sr rd h => by
  match ds, rd, h with
  | [], rd, h => exact h.elim
  | a :: _ :: _, rd, h => cases a <;> exact h.elim
  | [d], rd, h =>
    obtain ⟨v, rfl, r⟩ := rd.one_inv
    simp only [biD] at h
    cases q : S.seq d with
    | none => rw [q] at h; exact h.elim
    | some es =>
      rw [q] at h
      dsimp only at h
      by_cases c : D.cleans es = true
      · rw [if_pos c] at h
        exact list_go I rv sr r q fun vs r2 => okCell sr h r2 c
      · rw [if_neg c] at h; exact h.elim
theorem dcall_int : DCall X la T oc (biV .int) (biD .int) := fun {pins s σ H xs us Q ρ S ds E} I rv sr rd h => by
  match ds, rd, h with
  | [], rd, h => exact h.elim
  | a :: _ :: _, rd, h => cases a <;> exact h.elim
  | [d], rd, h =>
    obtain ⟨v, rfl, r⟩ := rd.one_inv
    refine call_int1 pins s σ H [v] us Q I rv ?_
    cases d with
    | int i => rw [rep_int] at r; exact .inl ⟨i, by rw [r], okR sr (by simpa only [biD] using h) (by simp only [Rep])⟩
    | bl i => rw [rep_bl] at r; exact .inr ⟨i, by rw [r], okR sr (by simpa only [biD] using h) (by simp only [Rep])⟩
    | _ => exact h.elim
theorem dcall_bool : DCall X la T oc (biV .bool) (biD .bool) := fun {pins s σ H xs us Q ρ S ds E} I rv sr rd h => by
  match ds, rd, h with
  | [], rd, h => exact h.elim
  | a :: _ :: _, rd, h => cases a <;> exact h.elim
  | [d], rd, h =>
    obtain ⟨v, rfl, r⟩ := rd.one_inv
    refine call_bool1 pins s σ H [v] us Q I rv ?_
    cases d with
    | int i => rw [rep_int] at r; exact .inl ⟨i, by rw [r], okR sr (by simpa only [biD] using h) (by simp only [Rep])⟩
    | bl i => rw [rep_bl] at r; exact .inr ⟨i, by rw [r], okR sr (by simpa only [biD] using h) (by simp only [Rep])⟩
    | _ => exact h.elim
theorem dcall_str : DCall X la T oc (biV .str) (biD .str) := fun {pins s σ H xs us Q ρ S ds E} I rv sr rd h => by
  match ds, rd, h with
  | [], rd, h => exact h.elim
  | a :: _ :: _, rd, h => cases a <;> exact h.elim
  | [d], rd, h =>
    obtain ⟨v, rfl, r⟩ := rd.one_inv
    cases d with
    | int i =>
      simp only [biD] at h
      rw [rep_int] at r
      by_cases c : i.natAbs.log2 < 1920
      · rw [if_pos c] at h
        exact call_str_int pins s σ H [v] us Q I rv ⟨i, by rw [r], c, okR sr h (by simp only [Rep])⟩
      · rw [if_neg c] at h; exact h.elim
    | str i => rw [rep_str] at r; exact SkE.call_str_str pins s σ H [v] us Q I rv ⟨i, by rw [r], okR sr (by simpa only [biD] using h) (by simp only [Rep])⟩
    | _ => exact h.elim
theorem dcall_abs : DCall X la T oc (biV .abs) (biD .abs) := fun {pins s σ H xs us Q ρ S ds E} I rv sr rd h => by
  match ds, rd, h with
  | [], rd, h => exact h.elim
  | a :: _ :: _, rd, h => cases a <;> exact h.elim
  | [d], rd, h =>
    obtain ⟨v, rfl, r⟩ := rd.one_inv
    cases d with
    | int i => rw [rep_int] at r; exact call_abs pins s σ H [v] us Q I rv ⟨i, by rw [r], okR sr (by simpa only [biD] using h) (by simp only [Rep])⟩
    | _ => exact h.elim
theorem dcall_min (hc : X.calm = true) : DCall X la T oc (biV .min) (biD .min) := fun {pins s σ H xs us Q ρ S ds E} I rv sr rd h => by
  match ds, rd, h with
  | [], rd, h => exact h.elim
  | a :: b :: _ :: _, rd, h => cases a <;> first | exact h.elim | (cases b <;> exact h.elim)
  | [d], rd, h =>
    obtain ⟨v, rfl, r⟩ := rd.one_inv
    have go : tG (gX X la T) (RD (gX X la T) oc) (minL d S) ρ H Q E → wpAny (model X.prog X.w) X.A (call (biV .min) us) (EP X pins σ Q) X.xe s := fun h => by
      first | unfold minL at h | unfold maxL at h
      cases q : S.items d with
      | none => rw [q] at h; exact h.elim
      | some es =>
        rw [q] at h
        simp only [Option.bind_some] at h
        cases q2 : intsOf es with
        | none => rw [q2] at h; exact h.elim
        | some bs => cases bs with
          | nil => rw [q2] at h; exact h.elim
          | cons n ns =>
            rw [q2] at h
            obtain ⟨a, vs, rfl, ha, r2⟩ := items_sq sr r q
            have e := ints_rep q2 r2
            subst e
            refine cr_min hc pins s σ H [.ref a] us Q I rv ⟨a, n :: ns, rfl, .inl (.inl ha), by simp, fun m hm hy => ?_⟩
            obtain ⟨h1, h2⟩ := minI_spec ns n
            have e : m = minI n ns := Int.le_antisymm (hy _ h1) (h2 _ hm)
            rw [e]
            exact okR sr h (by simp only [Rep])
    cases d with
    | int i => exact go (by simpa only [biD] using h)
    | _ => exact go (by simpa only [biD] using h)
  | [d, e], rd, h =>
    cases d with
    | int i => cases e with
      | int j =>
        obtain ⟨v, w, rfl, r1, r2⟩ := rd.two_inv
        rw [rep_int] at r1 r2
        subst r1 r2
        exact call_min2 hc pins s σ H _ us Q I rv ⟨i, j, rfl, okR sr (by simpa only [biD] using h) (by simp only [Rep])⟩
      | _ => exact h.elim
    | _ => exact h.elim
theorem dcall_max (hc : X.calm = true) : DCall X la T oc (biV .max) (biD .max) := fun {pins s σ H xs us Q ρ S ds E} I rv sr rd h => by
  match ds, rd, h with
  | [], rd, h => exact h.elim
  | a :: b :: _ :: _, rd, h => cases a <;> first | exact h.elim | (cases b <;> exact h.elim)
  | [d], rd, h =>
    obtain ⟨v, rfl, r⟩ := rd.one_inv
    have go : tG (gX X la T) (RD (gX X la T) oc) (maxL d S) ρ H Q E → wpAny (model X.prog X.w) X.A (call (biV .max) us) (EP X pins σ Q) X.xe s := fun h => by
      first | unfold minL at h | unfold maxL at h
      cases q : S.items d with
      | none => rw [q] at h; exact h.elim
      | some es =>
        rw [q] at h
        simp only [Option.bind_some] at h
        cases q2 : intsOf es with
        | none => rw [q2] at h; exact h.elim
        | some bs => cases bs with
          | nil => rw [q2] at h; exact h.elim
          | cons n ns =>
            rw [q2] at h
            obtain ⟨a, vs, rfl, ha, r2⟩ := items_sq sr r q
            have e := ints_rep q2 r2
            subst e
            refine cr_max hc pins s σ H [.ref a] us Q I rv ⟨a, n :: ns, rfl, .inl (.inl ha), by simp, fun m hm hy => ?_⟩
            obtain ⟨h1, h2⟩ := maxI_spec ns n
            have e : m = maxI n ns := Int.le_antisymm (h2 _ hm) (hy _ h1)
            rw [e]
            exact okR sr h (by simp only [Rep])
    cases d with
    | int i => exact go (by simpa only [biD] using h)
    | _ => exact go (by simpa only [biD] using h)
  | [d, e], rd, h =>
    cases d with
    | int i => cases e with
      | int j =>
        obtain ⟨v, w, rfl, r1, r2⟩ := rd.two_inv
        rw [rep_int] at r1 r2
        subst r1 r2
        exact call_max2 hc pins s σ H _ us Q I rv ⟨i, j, rfl, okR sr (by simpa only [biD] using h) (by simp only [Rep])⟩
      | _ => exact h.elim
    | _ => exact h.elim
end
end LT
set_option Elab.async false
set_option linter.all false
set_option maxRecDepth 100000
set_option maxHeartbeats 4000000
/-! Own layer, part D3: sorted, methods, a tuple backwards. -/
namespace HT
open PySem PySem.Spec PyProof.Rows L2
section
variable {prog : Program} {w : World} {A : Around} {E : Value → Shared → Prop} {s : Shared}
theorem sliceApplied_rev {sl : Addr} {vl vu vs : Value} {n : Nat} {Q : Int × Int × Nat → Shared → Prop} (hs : s.heap.IsSliceOf sl vl vu vs) (pl : IsPart vl none) (pu : IsPart vu none) (ps : IsPart vs (some (-1)))
    (h : Q ((n : Int) - 1, -1, n) s) : wpAny (model prog w) A (Builtin.Slice.sliceApplied (.ref sl) (pure (n : Int))) Q E s := by
  obtain ⟨os, hos, hcs, hds⟩ := id hs
  unfold Builtin.Slice.sliceApplied Builtin.Slice.sliceFields
  refine wpAny_bind (wpAny_bind (wpAny_field hos hds (x := vl) rfl (wpAny_bind (wpAny_field hos hds (x := vu) rfl (wpAny_bind (wpAny_field hos hds (x := vs) rfl (wpAny_pure ?_)))))))
  refine wpAny_bind (slicePart_ ps ?_)
  show wpAny _ _ (if ((-1 : Int) == 0) = true then _ else _) _ _ s
  rw [if_neg (by decide)]
  refine wpAny_bind (slicePart_ pl (wpAny_bind (slicePart_ pu (wpAny_bind (wpAny_pure ?_)))))
  show wpAny _ _ (match Builtin.Slice.sliceAdjust none none (-1) (n : Int) with | (lo, hi) => pure (lo, (-1 : Int), Builtin.Slice.slicePlaces lo hi (-1))) _ _ s
  have e1 : Builtin.Slice.sliceAdjust none none (-1) (n : Int) = ((n : Int) - 1, -1) := by
    unfold Builtin.Slice.sliceAdjust
    simp
  rw [e1]
  show wpAny _ _ (pure ((n : Int) - 1, (-1 : Int), Builtin.Slice.slicePlaces ((n : Int) - 1) (-1) (-1))) _ _ s
  have e2 : Builtin.Slice.slicePlaces ((n : Int) - 1) (-1) (-1) = n := by
    unfold Builtin.Slice.slicePlaces
    have h1 : ¬ ((-1 : Int) > 0) := by omega
    simp only [h1, if_false]
    split <;> simp <;> omega
  rw [e2]
  exact wpAny_pure h
theorem filterMap_cong {α β : Type} {f g : α → Option β} : ∀ {l : List α}, (∀ m ∈ l, f m = g m) → l.filterMap f = l.filterMap g
  | [], _ => rfl
  | a :: r, h => by
    rw [List.filterMap_cons, List.filterMap_cons, h a List.mem_cons_self, filterMap_cong fun m hm => h m (List.mem_cons_of_mem _ hm)]
theorem pick_rev (xs : Array Value) : ((List.range xs.size).filterMap fun (m : Nat) => xs[(((xs.size : Int) - 1) + (m : Int) * (-1)).toNat]?).toArray = xs.toList.reverse.toArray := by
  congr 1
  have hr : xs.toList.reverse = (List.range xs.size).filterMap fun m => xs.toList.reverse[m]? := by
    apply List.ext_getElem?
    intro i
    have key : ∀ (l : List Value), (List.range l.length).filterMap (fun m => l[m]?) = l := fun l => by
      induction l with
      | nil => rfl
      | cons a r ih =>
        rw [List.length_cons, List.range_succ_eq_map, List.filterMap_cons, List.filterMap_map]
        show a :: _ = _
        congr 1
    have := key xs.toList.reverse
    rw [List.length_reverse, Array.length_toList] at this
    rw [this]
  rw [hr]
  refine filterMap_cong fun m hm => ?_
  have hm : m < xs.size := List.mem_range.mp hm
  rw [List.getElem?_reverse (by rw [Array.length_toList]; exact hm), Array.length_toList]
  have e : (((xs.size : Int) - 1) + (m : Int) * (-1)).toNat = xs.size - 1 - m := by omega
  rw [e]
  simp
theorem getItem_tuple_rev {t sl : Addr} {items : Array Value} {vl vu vs : Value} {Q : Value → Shared → Prop} (ht : IsTup s.heap t items) (hs : s.heap.IsSliceOf sl vl vu vs) (pl : IsPart vl none) (pu : IsPart vu none) (ps : IsPart vs (some (-1)))
    (h : Q (.ref s.heap.objs.size) { s with heap := s.heap.push { cls := .type "tuple", data := .seq items.toList.reverse.toArray } })
    (hsz : items.size ≤ sizeLine) : wpAny (model prog w) A (getItem (.ref t) (.ref sl)) Q E s := by
  have htake : sizeOk (.seq items.toList.reverse.toArray) := by
    show items.toList.reverse.toArray.size ≤ sizeLine
    rw [List.size_toArray, List.length_reverse, Array.length_toList]
    omega
  obtain ⟨os, hos, hcs, hds⟩ := id hs
  have hTs : s.TypeIs (.ref sl) "slice" := ⟨os, hos, hcs⟩
  unfold getItem
  try with_reducible refine wpAny_holding ?_
  first | refine wpAny_bind (wpAny_pure ?_) | skip
  refine wpAny_bind (wpAny_sequenceKey ht.typeIs (by decide) ?_)
  refine wpAny_bind (wpAny_callSpecial?_slot (name := Str.ofString "__getitem__") ht.typeIs PyProof.Rows.slot_tuple_getitem
    (wpAny_call_entry PyProof.Rows.slot_tuple_getitem ht.typeIs entry_tuple_getitem ?_ (args_tuple_getitem _ _)))
  show wpAny _ _ (Builtin.Tuple.tupleItemsOf (.ref t) >>= _) _ _ s
  refine wpAny_bind (tupleItemsOf_ ht ?_)
  refine wpAny_bind (wpAny_typeOf hTs ?_)
  rw [if_pos (by decide)]
  refine wpAny_bind (sliceApplied_rev hs pl pu ps ?_)
  show wpAny _ _ (if (((items.size : Int) - 1 == 0) && ((-1 : Int) == 1) && items.size == items.size) = true then _ else _) _ _ s
  rw [if_neg (by simp), pick_rev]
  first
    | exact wpAny_bind (m := Builtin.Tuple.tupleExact _) (wpAny_newObj_type (wpAny_pure ⟨_, rfl, wpAny_pure h⟩) htake)
    | exact wpAny_bind (m := Builtin.Tuple.tupleExact _) (wpAny_newObj_type (wpAny_bind (wpAny_pure (wpAny_pure ⟨_, rfl, wpAny_pure h⟩))) htake)
    | exact wpAny_bind (wpAny_bind (m := Builtin.Tuple.tupleExact _) (wpAny_newObj_type (wpAny_pure (wpAny_pure ⟨_, rfl, wpAny_pure h⟩)) htake))
    | exact wpAny_bind (wpAny_bind (m := Builtin.Tuple.tupleExact _) (wpAny_newObj_type (wpAny_pure ⟨_, rfl, wpAny_pure h⟩) htake))
end
end HT
namespace LT
open PySem PySem.Spec PyProof.Rows L2
section
variable {X : Cx} {la : Nat → Arguments → Expr → Scope → List Str → Prop} {T : List NdefX.NTab} {oc : Nat → Option Addr} {ρ : Pl} {H : Hp} {S : Sto} {d e : D} {x y : V} {Q : VK} {E : Value → Option Addr → Hp → Prop}
theorem dcall_sorted (hu : X.A.units + 100 < cLine) : DCall X la T oc (biV .sorted) (biD .sorted) := fun {pins s σ H xs us Q ρ S ds E} I rv sr rd h => by
  match ds, rd, h with
  | [], rd, h => exact h.elim
  | a :: _ :: _, rd, h => cases a <;> exact h.elim
  | [d], rd, h =>
    obtain ⟨v, rfl, r⟩ := rd.one_inv
    simp only [biD] at h
    cases q : S.seq d with
    | none => rw [q] at h; exact h.elim
    | some es =>
      rw [q] at h
      simp only [Option.bind_some] at h
      cases q2 : sortDs es with
      | none => rw [q2] at h; exact h.elim
      | some rs =>
        rw [q2] at h
        obtain ⟨a, vs, rfl, ha, r2⟩ := seq_sq sr r q
        rw [Vals.ref1 rv]
        exact sort_ok hu I sr (ha.imp id fun z => z.1) r2 q2 fun vs' rr => okLst sr h rr
theorem dcall_bi (hc : X.calm = true) (hu : X.A.units + 100 < cLine) : ∀ b : Bi, DCall X la T oc (biV b) (biD b)
  | .len => dcall_len | .all => dcall_all hc | .any => dcall_any hc | .sorted => dcall_sorted hu | .tuple => dcall_tuple | .list => dcall_list | .listm => dcall_listm
  | .int => dcall_int | .str => dcall_str | .abs => dcall_abs | .sum => dcall_sum hc | .min => dcall_min hc | .max => dcall_max hc | .bool => dcall_bool
/-! ### methods -/
def mtId : Mt → String
  | .split => "str.split" | .join => "str.join" | .index => "str.index" | .append => "list.append" | .clear => "list.clear" | .insert => "list.insert" | .replace => "str.replace" | .count => "list.count" | .countT => "tuple.count"
def mtTy (t : Mt) : String := if mtStr t then "str" else if mtTup t then "tuple" else "list"
theorem set_list_ok {G : GI} {n : Nat} {a : Addr} {es : List D} {ws vs : List V} (sr : SR G ρ H S) (ha : ρ.c[n]? = some a) (h0 : H a = some (.lst ws)) (r : RepL G oc ρ H es vs) (c : D.cleans es = true)
    (h : tG G (RD G oc) (.ok .non (S.set n (.lst es))) ρ H Q E) : Q .non (upd H a (.lst vs)) := by
  obtain ⟨e1, s1⟩ := set_cell sr ha h0 r c
  exact h _ _ _ e1 s1 (by simp only [Rep])
theorem cleans_app : ∀ {ds es : List D}, D.cleans (ds ++ es) = (D.cleans ds && D.cleans es)
  | [], es => by simp [D.cleans]
  | d :: ds, es => by simp only [List.cons_append, D.cleans, cleans_app, Bool.and_assoc]
theorem cell_at {G : GI} {n : Nat} {ds : List D} (sr : SR G ρ H S) (rd : Rep G oc ρ H (.cell n) x) (q : S[n]? = some (.lst ds)) : ∃ a vs, x = .ref a ∧ ρ.c[n]? = some a ∧ H a = some (.lst vs) ∧ D.cleans ds = true ∧ RepL G oc ρ H ds vs := by
  rw [rep_cell] at rd
  obtain ⟨a, rfl, ha⟩ := rd
  obtain ⟨o, ho, hs⟩ := sr.lt ha
  rw [q] at ho; cases ho
  obtain ⟨vs, h1, h2, h3⟩ := hs
  exact ⟨a, vs, rfl, ha, h1, h2, RepL.cleanL h2 h3⟩
section
variable {pins : List (Addr × Obj)} {s : Shared} {σ : L2.St} {v : Value} {us : List Value} {ds : List D} {xs : List V}
theorem dm_cell {n : Nat} {f : List D → Option (List D)} {id : String} (I : Inv X pins σ H s) (rx : RelV x v) (sr : SR (gX X la T) ρ H S) (rd : Rep (gX X la T) oc ρ H (.cell n) x)
    (h : tG (gX X la T) (RD (gX X la T) oc) (cellD n S f) ρ H Q E)
    (go : ∀ a vs es fs, x = .ref a → H a = some (.lst vs) → RepL (gX X la T) oc ρ H es vs → f es = some fs → (∀ ws, RepL (gX X la T) oc ρ H fs ws → Q .non (upd H a (.lst ws))) → wpAny (model X.prog X.w) X.A (call (.builtin id) (v :: us)) (EP X pins σ Q) X.xe s) :
    wpAny (model X.prog X.w) X.A (call (.builtin id) (v :: us)) (EP X pins σ Q) X.xe s := by
  unfold cellD at h
  cases q : S[n]? with
  | none => rw [q] at h; exact h.elim
  | some o => cases o with
    | ins c fs => rw [q] at h; exact h.elim
    | lst es =>
      rw [q] at h
      dsimp only at h
      obtain ⟨a, vs, ex, ha, h0, hc, r2⟩ := cell_at sr rd q
      cases q2 : f es with
      | none => rw [q2] at h; exact h.elim
      | some fs =>
        rw [q2] at h
        dsimp only at h
        by_cases c : D.cleans fs = true
        · rw [if_pos c] at h
          exact go a vs es fs ex h0 r2 q2 fun ws rr => set_list_ok sr ha h0 rr c h
        · rw [if_neg c] at h; exact h.elim
theorem dm_split {z : Str} (I : Inv X pins σ H s) (rx : RelV x v) (rv : Vals xs us) (sr : SR (gX X la T) ρ H S) (rd : Rep (gX X la T) oc ρ H (.str z) x) (rs : RepL (gX X la T) oc ρ H ds xs)
    (h : tG (gX X la T) (RD (gX X la T) oc) (splitD z ds S) ρ H Q E) : wpAny (model X.prog X.w) X.A (call (.builtin "str.split") (v :: us)) (EP X pins σ Q) X.xe s := by
  rw [rep_str] at rd
  cases ds with
  | nil => exact h.elim
  | cons y r => cases r with
    | cons _ _ => exact h.elim
    | nil =>
      obtain ⟨w1, rfl, r1⟩ := rs.one_inv
      cases y with
      | str y =>
        rw [rep_str] at r1
        subst rd r1
        simp only [splitD] at h
        by_cases c : y.length ≠ 0 ∧ z.length + 2 ≤ lineN
        · rw [if_pos c] at h
          refine mt_split pins s σ H _ _ v us Q I rx rv ⟨z, y, rfl, rfl, by simpa using c.1, by rw [lineN_eq]; exact c.2, ?_⟩
          have : RepL (gX X la T) oc ρ H ((Txt.split z y).map D.str) ((Txt.split z y).map V.str) := by
            generalize Txt.split z y = l
            induction l with
            | nil => exact .nil
            | cons a r ih => exact .cons (by simp only [Rep]) ih
          exact okLst sr h this
        · rw [if_neg c] at h; exact h.elim
      | _ => exact h.elim
theorem dm_join {z : Str} (I : Inv X pins σ H s) (rx : RelV x v) (rv : Vals xs us) (sr : SR (gX X la T) ρ H S) (rd : Rep (gX X la T) oc ρ H (.str z) x) (rs : RepL (gX X la T) oc ρ H ds xs)
    (h : tG (gX X la T) (RD (gX X la T) oc) (joinD z ds S) ρ H Q E) : wpAny (model X.prog X.w) X.A (call (.builtin "str.join") (v :: us)) (EP X pins σ Q) X.xe s := by
  rw [rep_str] at rd
  cases ds with
  | nil => exact h.elim
  | cons y r => cases r with
    | cons _ _ => exact h.elim
    | nil =>
      obtain ⟨w1, rfl, r1⟩ := rs.one_inv
      simp only [joinD] at h
      cases q : S.seq y with
      | none => rw [q] at h; exact h.elim
      | some es =>
        rw [q] at h
        simp only [Option.bind_some] at h
        cases q2 : strsOf es with
        | none => rw [q2] at h; exact h.elim
        | some ys =>
          rw [q2] at h
          dsimp only at h
          obtain ⟨a, vs, rfl, ha, r2⟩ := seq_sq sr r1 q
          have e := strs_rep q2 r2
          subst e
          by_cases c : (ys.map (·.length)).sum + ys.length * z.length ≤ lineN
          · rw [if_pos c] at h
            refine mt_join pins s σ H _ _ v us Q I rx rv ⟨z, a, ys, rd, rfl, ?_, c, okR sr h (by simp only [Rep])⟩
            rcases ha with ha | ⟨ha, _⟩
            · exact .inl (.inl (.inl ha))
            · exact .inr ha.sq
          · rw [if_neg c] at h; exact h.elim
theorem dm_index {z : Str} (I : Inv X pins σ H s) (rx : RelV x v) (rv : Vals xs us) (sr : SR (gX X la T) ρ H S) (rd : Rep (gX X la T) oc ρ H (.str z) x) (rs : RepL (gX X la T) oc ρ H ds xs)
    (h : tG (gX X la T) (RD (gX X la T) oc) (indexD z ds S) ρ H Q E) : wpAny (model X.prog X.w) X.A (call (.builtin "str.index") (v :: us)) (EP X pins σ Q) X.xe s := by
  rw [rep_str] at rd
  cases ds with
  | nil => exact h.elim
  | cons y r => cases r with
    | cons _ _ => exact h.elim
    | nil =>
      obtain ⟨w1, rfl, r1⟩ := rs.one_inv
      cases y with
      | str y =>
        rw [rep_str] at r1
        subst rd r1
        simp only [indexD] at h
        cases q : Builtin.Str.occurrences z y 0 z.length 1 with
        | nil => rw [q] at h; exact h.elim
        | cons i rest =>
          rw [q] at h
          obtain ⟨t, rfl⟩ := rx
          obtain ⟨u1, rfl, t1, rfl⟩ := vals1 rv
          exact PySem.SC.index q ⟨.int (i : Nat), H, I.tok _, ⟨_, rfl⟩, okR sr h (by simp only [Rep])⟩
      | _ => exact h.elim
theorem dm_append {n : Nat} (I : Inv X pins σ H s) (rx : RelV x v) (rv : Vals xs us) (sr : SR (gX X la T) ρ H S) (rd : Rep (gX X la T) oc ρ H (.cell n) x) (rs : RepL (gX X la T) oc ρ H ds xs)
    (h : tG (gX X la T) (RD (gX X la T) oc) (appendD n ds S) ρ H Q E) : wpAny (model X.prog X.w) X.A (call (.builtin "list.append") (v :: us)) (EP X pins σ Q) X.xe s := by
  cases ds with
  | nil => exact h.elim
  | cons y r => cases r with
    | cons _ _ => exact h.elim
    | nil =>
      obtain ⟨w1, rfl, r1⟩ := rs.one_inv
      refine dm_cell I rx sr rd h fun a vs es fs ex h0 r2 q2 q => ?_
      split at q2
      · rename_i c
        cases q2
        exact mt_append pins s σ H _ _ v us Q I rx rv ⟨a, vs, w1, ex, rfl, h0, by rw [r2.length, lineN_eq]; exact c, q _ (r2.append (.cons r1 .nil))⟩
      · cases q2
theorem dm_clear {n : Nat} (I : Inv X pins σ H s) (rx : RelV x v) (rv : Vals xs us) (sr : SR (gX X la T) ρ H S) (rd : Rep (gX X la T) oc ρ H (.cell n) x) (rs : RepL (gX X la T) oc ρ H ds xs)
    (h : tG (gX X la T) (RD (gX X la T) oc) (clearD n ds S) ρ H Q E) : wpAny (model X.prog X.w) X.A (call (.builtin "list.clear") (v :: us)) (EP X pins σ Q) X.xe s := by
  cases ds with
  | cons y r => exact h.elim
  | nil =>
    have e := rs.nil_inv
    subst e
    refine dm_cell (f := fun _ => some []) I rx sr rd h fun a vs es fs ex h0 r2 q2 q => ?_
    cases q2
    exact mt_clear pins s σ H _ _ v us Q I rx rv ⟨a, vs, ex, rfl, h0, q _ .nil⟩
theorem dm_insert {n : Nat} (I : Inv X pins σ H s) (rx : RelV x v) (rv : Vals xs us) (sr : SR (gX X la T) ρ H S) (rd : Rep (gX X la T) oc ρ H (.cell n) x) (rs : RepL (gX X la T) oc ρ H ds xs)
    (h : tG (gX X la T) (RD (gX X la T) oc) (insertD n ds S) ρ H Q E) : wpAny (model X.prog X.w) X.A (call (.builtin "list.insert") (v :: us)) (EP X pins σ Q) X.xe s := by
  cases ds with
  | nil => exact h.elim
  | cons i r => cases r with
    | nil => exact h.elim
    | cons y r => cases r with
      | cons _ _ => exact h.elim
      | nil =>
        obtain ⟨w0, w1, rfl, r0, r1⟩ := rs.two_inv
        cases i with
        | int i =>
          rw [rep_int] at r0
          subst r0
          simp only [insertD] at h
          by_cases c0 : i = 0
          · subst c0
            rw [if_pos rfl] at h
            refine dm_cell I rx sr rd h fun a vs es fs ex h0 r2 q2 q => ?_
            split at q2
            · rename_i c
              cases q2
              exact L2.mt_insert pins s σ H _ _ v us Q I rx rv ⟨a, vs, 0, w1, ex, rfl, h0, by rw [r2.length, lineN_eq]; exact c, by omega, by omega, q _ (RepL.cons r1 r2)⟩
            · cases q2
          · rw [if_neg c0] at h; exact h.elim
        | _ => exact h.elim
theorem dm_count (hu : X.A.units + 100 < cLine) (I : Inv X pins σ H s) (rx : RelV x v) (rv : Vals xs us) (sr : SR (gX X la T) ρ H S) (rd : Rep (gX X la T) oc ρ H d x) (rs : RepL (gX X la T) oc ρ H ds xs)
    (h : tG (gX X la T) (RD (gX X la T) oc) (countD d ds S) ρ H Q E) : wpAny (model X.prog X.w) X.A (call (.builtin "list.count") (v :: us)) (EP X pins σ Q) X.xe s := by
  cases ds with
  | nil => exact h.elim
  | cons y r => cases r with
    | cons _ _ => exact h.elim
    | nil =>
      obtain ⟨w1, rfl, r1⟩ := rs.one_inv
      simp only [countD] at h
      cases q : S.items d with
      | none => rw [q] at h; exact h.elim
      | some es =>
        rw [q] at h
        simp only [Option.bind_some] at h
        cases q2 : D.toPs es with
        | none => rw [q2] at h; exact h.elim
        | some ps => cases q3 : y.toP with
          | none => rw [q2, q3] at h; exact h.elim
          | some p =>
            rw [q2, q3] at h
            dsimp only at h
            by_cases c : (pdOk p && pdOk (.list ps) && p.plain && PyData.plainAll ps) = true
            · rw [if_pos c] at h
              simp only [Bool.and_eq_true] at c
              obtain ⟨a, vs, rfl, ha, r2⟩ := items_sq sr rd q
              obtain ⟨its, rr, pl, hz⟩ := I.list (show SqL X.K H a vs from .inl (.inl ha))
              obtain ⟨u1, rfl, ru⟩ := vals1 rv
              cases rx
              obtain ⟨as, h1⟩ := Dp.readsAll I ps vs its (toPs_dp (G := gX X la T) es q2 r2) rr
              obtain ⟨bs, h2⟩ := Dp.reads I p w1 u1 (toP_dp (G := gX X la T) y q3 r1) ru
              have hd : p.depth ≤ 64 := by have z := c.1.1.1; unfold pdOk at z; simp only [Bool.and_eq_true, decide_eq_true_eq] at z; exact z.2
              have hm : min (PyData.depthAll ps) p.depth ≤ 64 := Nat.le_trans (Nat.min_le_right _ _) hd
              exact PySem.SeqAt.count_list_data pl.isList (by simpa using h1) h2 c.2 c.1.2 (by omega) ⟨.int _, H, I.tok _, ⟨_, rfl⟩, okR sr h (by simp only [Rep])⟩
            · rw [if_neg c] at h; exact h.elim
theorem dm_countT (hu : X.A.units + 100 < cLine) (I : Inv X pins σ H s) (rx : RelV x v) (rv : Vals xs us) (sr : SR (gX X la T) ρ H S) (rd : Rep (gX X la T) oc ρ H (.tup es) x) (rs : RepL (gX X la T) oc ρ H ds xs)
    (h : tG (gX X la T) (RD (gX X la T) oc) (countD (.lst es) ds S) ρ H Q E) : wpAny (model X.prog X.w) X.A (call (.builtin "tuple.count") (v :: us)) (EP X pins σ Q) X.xe s := by
  cases ds with
  | nil => exact h.elim
  | cons y r => cases r with
    | cons _ _ => exact h.elim
    | nil =>
      obtain ⟨w1, rfl, r1⟩ := rs.one_inv
      simp only [countD, Sto.items, Option.bind_some] at h
      cases q2 : D.toPs es with
      | none => rw [q2] at h; exact h.elim
      | some ps => cases q3 : y.toP with
        | none => rw [q2, q3] at h; exact h.elim
        | some p =>
          rw [q2, q3] at h
          dsimp only at h
          by_cases c : (pdOk p && pdOk (.list ps) && p.plain && PyData.plainAll ps) = true
          · rw [if_pos c] at h
            simp only [Bool.and_eq_true] at c
            obtain ⟨a, vs, rfl, f, r2⟩ := rep_tup.mp rd
            obtain ⟨its, rr, pl, hz⟩ := I.tuple (show SqT X.K H a vs from f.sq)
            obtain ⟨u1, rfl, ru⟩ := vals1 rv
            cases rx
            obtain ⟨as, h1⟩ := Dp.readsAll I ps vs its (toPs_dp (G := gX X la T) es q2 r2) rr
            obtain ⟨bs, h2⟩ := Dp.reads I p w1 u1 (toP_dp (G := gX X la T) y q3 r1) ru
            have hd : p.depth ≤ 64 := by have z := c.1.1.1; unfold pdOk at z; simp only [Bool.and_eq_true, decide_eq_true_eq] at z; exact z.2
            have hm : min (PyData.depthAll ps) p.depth ≤ 64 := Nat.le_trans (Nat.min_le_right _ _) hd
            exact PySem.SeqAt.count_tuple_data pl (by simpa using h1) h2 c.2 c.1.2 (by omega) ⟨.int _, H, I.tok _, ⟨_, rfl⟩, okR sr h (by simp only [Rep])⟩
          · rw [if_neg c] at h; exact h.elim
theorem dmeth_ {t : Mt} (hu : X.A.units + 100 < cLine) (ht : t ≠ .replace) (I : Inv X pins σ H s) (rx : RelV x v) (rv : Vals xs us) (sr : SR (gX X la T) ρ H S) (rd : Rep (gX X la T) oc ρ H d x) (rs : RepL (gX X la T) oc ρ H ds xs)
    (h : tG (gX X la T) (RD (gX X la T) oc) (methD t d ds S) ρ H Q E) : wpAny (model X.prog X.w) X.A (call (.builtin (mtId t)) (v :: us)) (EP X pins σ Q) X.xe s := by
  cases t with
  | replace => exact absurd rfl ht
  | split => cases d with
    | str z => exact dm_split I rx rv sr rd rs h
    | _ => exact h.elim
  | join => cases d with
    | str z => exact dm_join I rx rv sr rd rs h
    | _ => exact h.elim
  | index => cases d with
    | str z => exact dm_index I rx rv sr rd rs h
    | _ => exact h.elim
  | append => cases d with
    | cell z => exact dm_append I rx rv sr rd rs h
    | _ => exact h.elim
  | clear => cases d with
    | cell z => exact dm_clear I rx rv sr rd rs h
    | _ => exact h.elim
  | insert => cases d with
    | cell z => exact dm_insert I rx rv sr rd rs h
    | _ => exact h.elim
  | count => exact dm_count hu I rx rv sr rd rs h
  | countT => cases d with
    | tup z => exact dm_countT hu I rx rv sr rd rs h
    | _ => exact h.elim
/-- a[i] = v -/
theorem dset_ {z : V} {o i v : Value} {f : D} {R : Hp → Prop} (I : Inv X pins σ H s) (rx : RelV x o) (ry : RelV y i) (rz : RelV z v) (sr : SR (gX X la T) ρ H S) (rd : Rep (gX X la T) oc ρ H d x) (re : Rep (gX X la T) oc ρ H e y) (rf : Rep (gX X la T) oc ρ H f z)
    (h : tG (gX X la T) (fun _ _ (_ _ : Unit) => True) (asubD d e f S) ρ H (fun _ H' => R H') E) : wpAny (model X.prog X.w) X.A (setItem o i v) (fun _ s' => ∃ H', Inv X pins σ H' s' ∧ R H') X.xe s := by
  cases d with
  | cell n => cases e with
    | int k =>
      rw [rep_int] at re
      simp only [asubD] at h
      cases q : S[n]? with
      | none => rw [q] at h; exact h.elim
      | some u => cases u with
        | ins c fs => rw [q] at h; exact h.elim
        | lst ds =>
          rw [q] at h
          dsimp only at h
          obtain ⟨a, vs, rfl, ha, h0, hc, r2⟩ := cell_at sr rd q
          cases q2 : ixN ds.length k with
          | none => rw [q2] at h; exact h.elim
          | some j =>
            rw [q2] at h
            dsimp only at h
            by_cases c : f.clean = true
            · rw [if_pos c] at h
              refine set_list pins s σ H _ y z o i v R I rx ry rz ⟨a, vs, k, j, rfl, re, h0, by rw [r2.length]; exact q2, ?_⟩
              have hcl : ∀ (ds : List D) (j : Nat), D.cleans ds = true → D.cleans (ds.set j f) = true := fun ds => by
                induction ds with
                | nil => intro j h; exact h
                | cons b bs ih =>
                  intro j h
                  simp only [D.cleans, Bool.and_eq_true] at h
                  cases j with
                  | zero => simp [D.cleans, c, h.2]
                  | succ j => simp [D.cleans, h.1, ih j h.2]
              obtain ⟨e1, s1⟩ := set_cell sr ha h0 (r2.set j rf) (hcl ds j hc)
              exact h () _ _ e1 s1 trivial
            · rw [if_neg c] at h; exact h.elim
    | _ => exact h.elim
  | _ => exact h.elim
end
end
end LT
set_option Elab.async false
set_option linter.all false
set_option maxRecDepth 100000
set_option maxHeartbeats 4000000
/-! Own layer, part E: expressions. -/
namespace LT
open PySem PySem.Spec PyProof.Rows L2

theorem Res.bind_assoc {α β γ : Type} (r : Res α) (f : α → Sto → Res β) (g : β → Sto → Res γ) : (r.bind f).bind g = r.bind fun x S => (f x S).bind g := by
  cases r <;> rfl
section
variable {G : GI} {α β α' β' : Type} {oc : Nat → Option Addr} {R : Pl → Hp → α → β → Prop} {R' : Pl → Hp → α' → β' → Prop} {ρ ρ1 : Pl} {H H1 : Hp}
/-- as bindR, with the equation -/
theorem bindE {W : WX} {ma : Env' → Sto → Res α} {k : α → Sto → Res α'} {env : Env'} {σ : L2.St} {S : Sto} {Q : β' → Hp → Prop} (er : ER G oc ρ H env σ) (sr : SR G ρ H S)
    (h : tG G R' ((ma env S).bind k) ρ H Q (fun c dd H' => W c dd σ H')) :
    tM G oc R W ma σ H (fun x H1 => ∃ d ρ1 S1, ma env S = .ok d S1 ∧ Ext ρ H ρ1 H1 ∧ SR G ρ1 H1 S1 ∧ R ρ1 H1 d x ∧ tG G R' (k d S1) ρ1 H1 Q (fun c dd H' => W c dd σ H')) := by
  refine ⟨env, ρ, S, er, sr, ?_⟩
  cases q : ma env S with
  | ok d S1 =>
    intro v H' ρ' e s r
    rw [q] at h
    exact ⟨d, ρ', S1, rfl, e, s, r, tG.shift h e⟩
  | exc x S1 =>
    rw [q] at h
    exact h
  | bad =>
    rw [q] at h
    exact h
theorem two {W : WX} {ma mb : Env' → Sto → Res D} {k : D → D → Sto → Res α'} {env : Env'} {σ : L2.St} {S : Sto} {Q : β' → Hp → Prop} (er : ER G oc ρ H env σ) (sr : SR G ρ H S)
    (h : tG G R' ((ma env S).bind fun x S => (mb env S).bind fun y S => k x y S) ρ H Q (fun c dd H' => W c dd σ H')) :
    tM G oc (RD G oc) W ma σ H (fun x H1 => tM G oc (RD G oc) W mb σ H1 (fun y H2 => ∃ d e ρ2 S2, Ext ρ H ρ2 H2 ∧ SR G ρ2 H2 S2 ∧ Rep G oc ρ2 H2 d x ∧ Rep G oc ρ2 H2 e y ∧ tG G R' (k d e S2) ρ2 H2 Q (fun c dd H' => W c dd σ H'))) :=
  (bindR er sr h).mono fun x H1 ⟨d, ρ1, S1, e1, s1, r1, q1⟩ => (bindR (er.ext e1) s1 q1).mono fun y H2 ⟨e, ρ2, S2, e2, s2, r2, q2⟩ => ⟨d, e, ρ2, S2, e1.trans e2, s2, Rep.ext e2 d r1, r2, q2⟩
end

section
variable {X : Cx} {la : Nat → Arguments → Expr → Scope → List Str → Prop} {T : List NdefX.NTab} {oc : Nat → Option Addr} {W : WX} {ma mb mc : Env' → Sto → Res D} {a b c : Expr} {pos : Pos}
/-- a two-place operation as a reading -/
def rD2 (X : Cx) (la : Nat → Arguments → Expr → Scope → List Str → Prop) (T : List NdefX.NTab) (oc : Nat → Option Addr) (F : D → D → Sto → Res D) : R2 := fun x y H Q =>
  ∃ d e ρ S E, SR (gX X la T) ρ H S ∧ Rep (gX X la T) oc ρ H d x ∧ Rep (gX X la T) oc ρ H e y ∧ tG (gX X la T) (RD (gX X la T) oc) (F d e S) ρ H Q E
theorem opR_bin (o : Op2) : OpR X (binaryOp (opOf o)) (rD2 X la T oc (binD o)) := fun pins s σ H x y v u Q I rx ry ⟨d, e, ρ, S, E, sr, r1, r2, q⟩ => dop_bin o I rx ry sr r1 r2 q
theorem opR_cmp (hu : X.A.units + 100 < cLine) (o : Cm) : OpR X (compareOp (cmOf o)) (rD2 X la T oc (cmpD o)) := fun pins s σ H x y v u Q I rx ry ⟨d, e, ρ, S, E, sr, r1, r2, q⟩ => dop_cmp (by omega) o I rx ry sr r1 r2 q
theorem two_op {F : D → D → Sto → Res D} {σ : L2.St} {H : Hp} {Q : VK} (h : tM (gX X la T) oc (RD (gX X la T) oc) W (fun env S => (ma env S).bind fun x S => (mb env S).bind fun y S => F x y S) σ H Q) :
    tOp (rD2 X la T oc F) (tM (gX X la T) oc (RD (gX X la T) oc) W ma) (tM (gX X la T) oc (RD (gX X la T) oc) W mb) σ H Q := by
  obtain ⟨env, ρ, S, er, sr, h⟩ := h
  exact (two er sr h).mono fun x H1 q => q.mono fun y H2 ⟨d, e, ρ2, S2, _, s2, r1, r2, q2⟩ => ⟨d, e, ρ2, S2, _, s2, r1, r2, q2⟩

/-! ### values -/
theorem de_var {i : Nat} {x : Str} (hN : X.N[i]? = some x) (hv : Vis X.env.scope x) (hd : (x == ("__debug__" : Str)) = false) (hcd : (x == ("__classdict__" : Str)) = false) :
    DE (gX X la T) oc X W (fun env S => match (env[i]?).join with | some d => .ok d S | none => .bad) (.Name x pos) :=
  PE.conseq (pe_var hN hv hd hcd) fun σ H Q ⟨env, ρ, S, er, sr, h⟩ => by
    dsimp only at h
    cases q : (env[i]?).join with
    | none => rw [q] at h; exact h.elim
    | some d =>
      rw [q] at h
      have q' : env[i]? = some (some d) := by
        cases z : env[i]? with
        | none => rw [z] at q; cases q
        | some o => rw [z] at q; rw [show o = some d from q]
      obtain ⟨v, h1, h2⟩ := er.at_ i d q'
      exact ⟨v, h1, okR sr h h2⟩
theorem de_con {e : Expr} {v : V} {d : D} (h : PE X e (tC v)) (r : ∀ ρ H, Rep (gX X la T) oc ρ H d v) : DE (gX X la T) oc X W (fun _ S => .ok d S) e :=
  PE.conseq h fun σ H Q ⟨env, ρ, S, er, sr, h⟩ => okR sr h (r ρ H)
theorem de_bin {o : Op2} (ha : DE (gX X la T) oc X W ma a) (hb : DE (gX X la T) oc X W mb b) : DE (gX X la T) oc X W (fun env S => (ma env S).bind fun x S => (mb env S).bind fun y S => binD o x y S) (.BinOp a (opOf o) b pos) :=
  PE.conseq (pe_op (opR_bin o) ha hb) fun σ H Q h => two_op h
theorem de_neg (ha : DE (gX X la T) oc X W ma a) : DE (gX X la T) oc X W (fun env S => (ma env S).bind fun x S => match x with | .int i => .ok (.int (-i)) S | _ => .bad) (.UnaryOp .USub a pos) :=
  PE.conseq (pe_un un_neg ha) fun σ H Q ⟨env, ρ, S, er, sr, h⟩ => (bindR er sr h).mono fun x H1 ⟨d, ρ1, S1, e1, s1, r1, q1⟩ => by
    cases d with
    | int i => exact ⟨i, rep_int.mp r1, okR s1 q1 (by simp only [Rep])⟩
    | _ => exact q1.elim
theorem de_not (ha : DE (gX X la T) oc X W ma a) : DE (gX X la T) oc X W (fun env S => (ma env S).bind fun x S => match x with | .bl b => .ok (.bl (!b)) S | _ => .bad) (.UnaryOp .Not a pos) :=
  PE.conseq (pe_not ha) fun σ H Q ⟨env, ρ, S, er, sr, h⟩ => (bindR er sr h).mono fun x H1 ⟨d, ρ1, S1, e1, s1, r1, q1⟩ => by
    cases d with
    | bl i => exact ⟨i, rep_bl.mp r1, okR s1 q1 (by simp only [Rep])⟩
    | _ => exact q1.elim
theorem de_cmp {o : Cm} (hu : X.A.units + 100 < cLine) (ha : DE (gX X la T) oc X W ma a) (hb : DE (gX X la T) oc X W mb b) (hm : behindInMarks (cmOf o) b = false) :
    DE (gX X la T) oc X W (fun env S => (ma env S).bind fun x S => (mb env S).bind fun y S => cmpD o x y S) (.Compare a [cmOf o] [b] pos) :=
  PE.conseq (pe_cmpR (opR_cmp hu o) ha hb hm) fun σ H Q h => two_op h
/-- a comparison's end as a test -/
theorem cmp_test {o : Cm} {ρ : Pl} {H : Hp} {S : Sto} {d e : D} {Q : Bool → Hp → Prop} {E : Value → Option Addr → Hp → Prop} (h : tG (gX X la T) RB ((cmpD o d e S).bind fun x S => match truthD S x with | some b => .ok b S | none => .bad) ρ H Q E) :
    tG (gX X la T) (RD (gX X la T) oc) (cmpD o d e S) ρ H (fun x H' => ∃ k, x = .bl k ∧ Q k H') E := by
  cases q : cmpD o d e S with
  | ok r S' =>
    rw [q] at h
    obtain ⟨e1, b, e2⟩ := cmpD_bool q
    subst e1 e2
    exact fun v H' ρ' e s r => ⟨b, rep_bl.mp r, h b H' ρ' e s rfl⟩
  | exc x S' => rw [q] at h; exact h
  | bad => rw [q] at h; exact h
theorem dt_cmp {o : Cm} (hu : X.A.units + 100 < cLine) (ha : DE (gX X la T) oc X W ma a) (hb : DE (gX X la T) oc X W mb b) (hm : behindInMarks (cmOf o) b = false) :
    DT (gX X la T) oc X W (Ev.mk' fun env S => (ma env S).bind fun x S => (mb env S).bind fun y S => cmpD o x y S).t (.Compare a [cmOf o] [b] pos) :=
  PT.conseq (pt_cmpR (opR_cmp hu o) ha hb hm) fun σ H Q ⟨env, ρ, S, er, sr, h⟩ => by
    have h : tG (gX X la T) RB (((ma env S).bind fun x S => (mb env S).bind fun y S => cmpD o x y S).bind fun x S => match truthD S x with | some b => .ok b S | none => .bad) ρ H Q (fun c dd H' => W c dd σ H') := h
    rw [Res.bind_assoc] at h
    simp only [Res.bind_assoc] at h
    exact (two er sr h).mono fun x H1 q => q.mono fun y H2 ⟨d, e, ρ2, S2, _, s2, r1, r2, q2⟩ => ⟨d, e, ρ2, S2, _, s2, r1, r2, cmp_test q2⟩
/-! a op b op c -/
theorem chain_go {o o' : Cm} {α β : Type} {R : Pl → Hp → α → β → Prop} {k : D → Sto → Res α} {σ : L2.St} {env : Env'} {ρ : Pl} {H : Hp} {S : Sto} {d e : D} {y : V} {Q : β → Hp → Prop} (er : ER (gX X la T) oc ρ H env σ) (sr : SR (gX X la T) ρ H S) (re : Rep (gX X la T) oc ρ H e y)
    (h : tG (gX X la T) R ((cmpD o d e S).bind fun r S => (match r with | .bl true => (mc env S).bind fun z S => cmpD o' e z S | .bl false => .ok (.bl false) S | _ => .bad : Res D).bind k) ρ H Q (fun c dd H' => W c dd σ H')) :
    tG (gX X la T) (RD (gX X la T) oc) (cmpD o d e S) ρ H (fun z H3 => ∃ b, z = .bl b ∧ (if b = true then tM (gX X la T) oc (RD (gX X la T) oc) W mc σ H3 (fun w H4 => ∃ f ρ4 S4, SR (gX X la T) ρ4 H4 S4 ∧ Rep (gX X la T) oc ρ4 H4 e y ∧ Rep (gX X la T) oc ρ4 H4 f w ∧ tG (gX X la T) R ((cmpD o' e f S4).bind k) ρ4 H4 Q (fun c dd H' => W c dd σ H'))
      else ∃ ρ3 S3, SR (gX X la T) ρ3 H3 S3 ∧ tG (gX X la T) R (k (.bl false) S3) ρ3 H3 Q (fun c dd H' => W c dd σ H'))) (fun c dd H' => W c dd σ H') := by
  cases q : cmpD o d e S with
  | ok r S' =>
    rw [q] at h
    obtain ⟨e1, b, e2⟩ := cmpD_bool q
    subst e1 e2
    refine fun v H' ρ' x s r => ⟨b, rep_bl.mp r, ?_⟩
    have h := tG.shift h x
    cases b with
    | false => exact ⟨ρ', _, s, h⟩
    | true =>
      simp only [if_true]
      have h : tG (gX X la T) R (((mc env S').bind fun z S => cmpD o' e z S).bind k) ρ' H' Q (fun c dd H' => W c dd σ H') := h
      rw [Res.bind_assoc] at h
      exact (bindR (er.ext x) s h).mono fun w H4 ⟨f, ρ4, S4, e4, s4, r4, q4⟩ => ⟨f, ρ4, S4, s4, Rep.ext e4 e (Rep.ext x.toExt0 e re), r4, q4⟩
  | exc x S' => rw [q] at h; exact h
  | bad => rw [q] at h; exact h
theorem Res.bind_ok {α : Type} (r : Res α) : (r.bind fun x S => .ok x S) = r := by cases r <;> rfl
theorem de_chain {o o' : Cm} (hu : X.A.units + 100 < cLine) (ha : DE (gX X la T) oc X W ma a) (hb : DE (gX X la T) oc X W mb b) (hc : DE (gX X la T) oc X W mc c) (hm : lastMarks [cmOf o, cmOf o'] [b, c] = false) :
    DE (gX X la T) oc X W (fun env S => (ma env S).bind fun x S => (mb env S).bind fun y S => (cmpD o x y S).bind fun r S => match r with
      | .bl true => (mc env S).bind fun z S => cmpD o' y z S
      | .bl false => .ok (.bl false) S
      | _ => .bad) (.Compare a [cmOf o, cmOf o'] [b, c] pos) :=
  PE.conseq (pe_chain (opR_cmp (la := la) (T := T) (oc := oc) hu o) (opR_cmp (la := la) (T := T) (oc := oc) hu o') ha hb hc hm) fun σ H Q ⟨env, ρ, S, er, sr, h⟩ =>
    (two er sr h).mono fun x H1 q => q.mono fun y H2 ⟨d, e, ρ2, S2, e2, s2, r1, r2, q2⟩ => by
      refine ⟨d, e, ρ2, S2, fun c dd H' => W c dd σ H', s2, r1, r2, ?_⟩
      have q2' := q2
      rw [← Res.bind_ok (Res.bind _ _), Res.bind_assoc] at q2'
      refine (chain_go (mc := mc) (er.ext e2) s2 r2 q2').mono (fun z H3 ⟨k, ek, q3⟩ => ⟨k, ek, ?_⟩) fun _ _ _ z => z
      cases k with
      | false =>
        obtain ⟨ρ3, S3, s3, q3⟩ := q3
        exact okR s3 q3 (by simp only [Rep])
      | true =>
        simp only [if_true] at q3 ⊢
        exact q3.mono fun w H4 ⟨f, ρ4, S4, s4, r4, r5, q4⟩ => ⟨e, f, ρ4, S4, _, s4, r4, r5, by rw [Res.bind_ok] at q4; exact q4⟩
theorem dt_chain {o o' : Cm} (hu : X.A.units + 100 < cLine) (ha : DE (gX X la T) oc X W ma a) (hb : DE (gX X la T) oc X W mb b) (hc : DE (gX X la T) oc X W mc c) (hm : lastMarks [cmOf o, cmOf o'] [b, c] = false) :
    DT (gX X la T) oc X W (Ev.mk' fun env S => (ma env S).bind fun x S => (mb env S).bind fun y S => (cmpD o x y S).bind fun r S => match r with
      | .bl true => (mc env S).bind fun z S => cmpD o' y z S
      | .bl false => .ok (.bl false) S
      | _ => .bad).t (.Compare a [cmOf o, cmOf o'] [b, c] pos) :=
  PT.conseq (pt_chain (opR_cmp (la := la) (T := T) (oc := oc) hu o) (opR_cmp (la := la) (T := T) (oc := oc) hu o') ha hb hc hm) fun σ H Q ⟨env, ρ, S, er, sr, h⟩ => by
    have h : tG (gX X la T) RB (((ma env S).bind fun x S => (mb env S).bind fun y S => (cmpD o x y S).bind fun r S => match r with
      | .bl true => (mc env S).bind fun z S => cmpD o' y z S
      | .bl false => .ok (.bl false) S
      | _ => .bad).bind fun x S => match truthD S x with | some b => .ok b S | none => .bad) ρ H Q (fun c dd H' => W c dd σ H') := h
    rw [Res.bind_assoc] at h
    simp only [Res.bind_assoc] at h
    refine (two er sr h).mono fun x H1 q => q.mono fun y H2 ⟨d, e, ρ2, S2, e2, s2, r1, r2, q2⟩ => ?_
    refine ⟨d, e, ρ2, S2, fun c dd H' => W c dd σ H', s2, r1, r2, ?_⟩
    refine (chain_go (mc := mc) (er.ext e2) s2 r2 q2).mono (fun z H3 ⟨k, ek, q3⟩ => ⟨k, ek, ?_⟩) fun _ _ _ z => z
    cases k with
    | false =>
      obtain ⟨ρ3, S3, s3, q3⟩ := q3
      exact ⟨false, rfl, q3 false _ _ Ext.refl s3 rfl⟩
    | true =>
      simp only [if_true] at q3 ⊢
      exact q3.mono fun w H4 ⟨f, ρ4, S4, s4, r4, r5, q4⟩ => ⟨e, f, ρ4, S4, _, s4, r4, r5, cmp_test q4⟩
theorem de_isN {ng : Bool} {j : Nat} {p2 : Pos} (ha : DE (gX X la T) oc X W ma a) : DE (gX X la T) oc X W (fun env S => (ma env S).bind fun x S => .ok (.bl (ng != isNonD x)) S) (.Compare a [if ng then .IsNot else .Is] [.Constant .none j p2] pos) := by
  have key : ∀ {ρ : Pl} {H : Hp} {d : D} {x : V}, Rep (gX X la T) oc ρ H d x → decide (x = .non) = isNonD d := fun {ρ H d x} r => by
    cases d with
    | non => rw [rep_non] at r; subst r; rfl
    | bl b => rw [rep_bl] at r; subst r; rfl
    | int b => rw [rep_int] at r; subst r; rfl
    | str b => rw [rep_str] at r; subst r; rfl
    | tup b => rw [rep_tup] at r; obtain ⟨_, _, rfl, _⟩ := r; rfl
    | lst b => rw [rep_lst] at r; obtain ⟨_, _, rfl, _⟩ := r; rfl
    | cell b => rw [rep_cell] at r; obtain ⟨_, rfl, _⟩ := r; rfl
    | scr b => rw [rep_scr] at r; obtain ⟨_, rfl, _⟩ := r; rfl
    | fn b => simp only [Rep] at r; obtain ⟨_, rfl, _⟩ := r; rfl
    | own b c => simp only [Rep] at r; obtain ⟨_, _, _, _, _, _, _, _, rfl, _⟩ := r; rfl
    | clo b c => simp only [Rep] at r; obtain ⟨_, _, _, _, _, _, _, _, _, rfl, _⟩ := r; rfl
  cases ng with
  | false =>
    exact PE.conseq (pe_cmp (pc_isN ha)) fun σ H Q ⟨env, ρ, S, er, sr, h⟩ => (bindR er sr h).mono fun x H1 ⟨d, ρ1, S1, e1, s1, r1, q1⟩ => by
        rw [key r1]
        exact okR s1 q1 (by simp only [Rep]; cases isNonD d <;> rfl)
  | true =>
    exact PE.conseq (pe_cmp (pc_notN ha)) fun σ H Q ⟨env, ρ, S, er, sr, h⟩ => (bindR er sr h).mono fun x H1 ⟨d, ρ1, S1, e1, s1, r1, q1⟩ => by
        rw [key r1]
        exact okR s1 q1 (by simp only [Rep]; cases isNonD d <;> rfl)

/-- x is b -/
theorem op_isB2 {ng : Bool} : OpR X (compareOp (if ng then .IsNot else .Is)) (fun x y H Q => ∃ b : Bool, y = .bl b ∧ ∃ d ρ S E, SR (gX X la T) ρ H S ∧ Rep (gX X la T) oc ρ H d x ∧ tG (gX X la T) (RD (gX X la T) oc) (match d with
    | .bl c => .ok (.bl (ng != (b == c))) S
    | .non => .ok (.bl ng) S
    | .int _ => .ok (.bl ng) S
    | .str _ => .ok (.bl ng) S
    | .tup _ => .ok (.bl ng) S
    | .lst _ => .ok (.bl ng) S
    | _ => .bad) ρ H Q E) := by
  intro pins s σ H x y v u Q I rx ry h
  obtain ⟨b, rfl, d, ρ, S, E, sr, r, h⟩ := h
  cases (show u = Value.bool b from ry)
  have fin : ∀ {k : Bool}, tG (gX X la T) (RD (gX X la T) oc) (.ok (.bl k) S) ρ H Q E → EP X pins σ Q (.bool k) s := fun {k} h => ⟨.bl k, H, I, rfl, okR sr h (by simp only [Rep])⟩
  have refs : ∀ {a : Addr}, x = .ref a → tG (gX X la T) (RD (gX X la T) oc) (.ok (.bl ng) S) ρ H Q E → wpAny (model X.prog X.w) X.A (compareOp (if ng then .IsNot else .Is) v (.bool b)) (EP X pins σ Q) X.xe s := fun {a} ex h => by
    subst ex
    cases rx
    cases ng with
    | false => exact wpAny_is_other rfl (fun z => nomatch z) (fin h)
    | true => exact wpAny_isNot_other rfl (fun z => nomatch z) (fin h)
  cases d with
  | bl c =>
    rw [rep_bl] at r
    subst r
    cases (show v = Value.bool c from rx)
    cases ng with
    | false => exact op_isBl pins s σ H (.bl c) (.bl b) _ _ Q I rfl rfl ⟨c, b, rfl, rfl, okR sr h (by simp only [Rep]; cases b <;> cases c <;> rfl)⟩
    | true => exact op_notBl pins s σ H (.bl c) (.bl b) _ _ Q I rfl rfl ⟨c, b, rfl, rfl, okR sr h (by simp only [Rep]; cases b <;> cases c <;> rfl)⟩
  | non =>
    rw [rep_non] at r
    subst r
    cases (show v = Value.none from rx)
    cases ng with
    | false => exact wpAny_is_other rfl (fun z => nomatch z) (fin h)
    | true => exact wpAny_isNot_other rfl (fun z => nomatch z) (fin h)
  | int i =>
    rw [rep_int] at r
    subst r
    obtain ⟨t, rfl⟩ := rx
    cases ng with
    | false => exact wpAny_is_other rfl (fun z => nomatch z) (fin h)
    | true => exact wpAny_isNot_other rfl (fun z => nomatch z) (fin h)
  | str i =>
    rw [rep_str] at r
    subst r
    obtain ⟨t, rfl⟩ := rx
    cases ng with
    | false => exact wpAny_is_other rfl (fun z => nomatch z) (fin h)
    | true => exact wpAny_isNot_other rfl (fun z => nomatch z) (fin h)
  | tup i =>
    rw [rep_tup] at r
    obtain ⟨a, _, ex, _⟩ := r
    exact refs ex h
  | lst i =>
    rw [rep_lst] at r
    obtain ⟨a, _, ex, _⟩ := r
    exact refs ex h
  | _ => exact h.elim
end
end LT
set_option Elab.async false
set_option linter.all false
set_option maxRecDepth 100000
set_option maxHeartbeats 4000000
/-! Own layer, part E2: more expressions. -/
namespace LT
open PySem PySem.Spec PyProof.Rows L2
def noStar : Expr → Bool
  | .Starred _ _ => false
  | _ => true
theorem star_cons {e : Expr} {es : List Expr} {env : Env} (h : noStar e = true) : starEach (e :: es) env = (false, eval e env) :: starEach es env := by
  cases e <;> first | rfl | exact absurd h Bool.false_ne_true | simp [starEach]
theorem star_any {env : Env} {pos : Pos} : ∀ {es : List Expr}, es.all noStar = true → (backTo pos (starEach es env)).any (·.1) = false
  | [], _ => rfl
  | e :: es, h => by
    simp only [List.all_cons, Bool.and_eq_true] at h
    rw [star_cons h.1]
    show (false || (backTo pos (starEach es env)).any (·.1)) = false
    rw [star_any h.2]; rfl
theorem star_all {env : Env} {pos : Pos} : ∀ {es : List Expr}, es.all noStar = true → (backTo pos (starEach es env)).all (fun x => !x.1) = true
  | [], _ => rfl
  | e :: es, h => by
    simp only [List.all_cons, Bool.and_eq_true] at h
    rw [star_cons h.1]
    show (!false && (backTo pos (starEach es env)).all (fun x => !x.1)) = true
    rw [star_all h.2]; rfl
section
variable {X : Cx} {la : Nat → Arguments → Expr → Scope → List Str → Prop} {T : List NdefX.NTab} {oc : Nat → Option Addr} {W : WX} {ma mb mc : Env' → Sto → Res D} {a b c : Expr} {pos : Pos}
theorem de_isB {ng : Bool} {v : Bool} {j : Nat} {p2 : Pos} (ha : DE (gX X la T) oc X W ma a) : DE (gX X la T) oc X W (fun env S => (ma env S).bind fun x S => match x with
    | .bl c => .ok (.bl (ng != (v == c))) S
    | .non => .ok (.bl ng) S
    | .int _ => .ok (.bl ng) S
    | .str _ => .ok (.bl ng) S
    | .tup _ => .ok (.bl ng) S
    | .lst _ => .ok (.bl ng) S
    | _ => .bad) (.Compare a [if ng then .IsNot else .Is] [.Constant (.bool v) j p2] pos) :=
  PE.conseq (pe_cmpR (op_isB2 (la := la) (T := T) (oc := oc)) ha (pe_bl (b := v)) (by cases ng <;> rfl)) fun σ H Q ⟨env, ρ, S, er, sr, h⟩ => (bindR er sr h).mono fun x H1 ⟨d, ρ1, S1, e1, s1, r1, q1⟩ => (⟨v, rfl, d, ρ1, S1, fun c dd H' => W c dd σ H', s1, r1, q1⟩ : ∃ b : Bool, V.bl v = .bl b ∧ _)
/-! ### arguments -/
theorem da_nil : DA (gX X la T) oc X W (fun env S => .ok [] S) [] := PA.conseq pa_nil fun σ H Q ⟨env, ρ, S, er, sr, h⟩ => h [] H ρ Ext.refl sr .nil
theorem da_cons {ms : Env' → Sto → Res (List D)} {es : List Expr} (ha : DE (gX X la T) oc X W ma a) (hs : DA (gX X la T) oc X W ms es) (ns : noStar a = true) :
    DA (gX X la T) oc X W (fun env S => (ma env S).bind fun x S => (ms env S).bind fun xs S => .ok (x :: xs) S) (a :: es) :=
  PA.conseq (pa_cons ha hs (star_cons ns)) fun σ H Q ⟨env, ρ, S, er, sr, h⟩ =>
    (bindR er sr h).mono fun x H1 ⟨d, ρ1, S1, e1, s1, r1, q1⟩ => (bindR (er.ext e1) s1 q1).mono fun xs H2 ⟨ds, ρ2, S2, e2, s2, r2, q2⟩ => q2 (x :: xs) H2 ρ2 Ext.refl s2 (.cons (Rep.ext e2 d r1) r2)
theorem evEs_len : ∀ {l : List Ev} {env : Env'} {S S' : Sto} {xs : List D}, evEs l env S = .ok xs S' → xs.length = l.length
  | [], env, S, S', xs, h => by
    simp only [evEs, Res.ok.injEq] at h
    rw [← h.1]; rfl
  | e :: es, env, S, S', xs, h => by
    simp only [evEs] at h
    cases q : e.e env S with
    | ok x S1 =>
      rw [q] at h
      simp only [Res.bind] at h
      cases q2 : evEs es env S1 with
      | ok ys S2 =>
        rw [q2] at h
        simp only [Res.ok.injEq] at h
        rw [← h.1, List.length_cons, evEs_len q2]; rfl
      | exc x S2 => rw [q2] at h; cases h
      | bad => rw [q2] at h; cases h
    | exc x S1 => rw [q] at h; cases h
    | bad => rw [q] at h; cases h
theorem de_tup {l : List Ev} {es : List Expr} {k : Nat} (hs : DA (gX X la T) oc X W (evEs l) es) (hl : l.length ≤ 1000) : DE (gX X la T) oc X W (fun env S => (evEs l env S).bind fun xs S => .ok (.tup xs) S) (.Tuple es k pos) :=
  PE.conseq (pe_tupB hs) fun σ H Q ⟨env, ρ, S, er, sr, h⟩ => (bindE er sr h).mono fun xs H1 ⟨ds, ρ1, S1, eq, e1, s1, r1, q1⟩ =>
    ⟨by rw [r1.length, evEs_len eq, lineN_eq]; exact Nat.le_trans hl (by decide), okTup s1 q1 r1⟩
theorem de_lst {l : List Ev} {es : List Expr} {m : Bool} (hs : DA (gX X la T) oc X W (evEs l) es) (hl : l.length ≤ 1000) :
    DE (gX X la T) oc X W (fun env S => (evEs l env S).bind fun xs S => if m then (if D.cleans xs then .ok (.cell S.length) (S ++ [.lst xs]) else .bad) else .ok (.lst xs) S) (.List es pos) :=
  PE.conseq (pe_lst hs) fun σ H Q ⟨env, ρ, S, er, sr, h⟩ => (bindE er sr h).mono fun xs H1 ⟨ds, ρ1, S1, eq, e1, s1, r1, q1⟩ => by
    refine ⟨by rw [r1.length, evEs_len eq, lineN_eq]; exact Nat.le_trans hl (by decide), ?_⟩
    cases m with
    | false => exact okLst s1 q1 r1
    | true =>
      simp only [if_true] at q1
      by_cases c : D.cleans ds = true
      · rw [if_pos c] at q1
        exact okCell s1 q1 r1 c
      · rw [if_neg c] at q1; exact q1.elim
/-! ### a[i], a[i:j] -/
def plainIxB : Expr → Bool
  | .Slice .. => false
  | _ => true
theorem plain_ix {b : Expr} (h : plainIxB b = true) : PlainIx b := fun o i => by
  cases b <;> first | rfl | exact absurd h Bool.false_ne_true
theorem de_idx (ha : DE (gX X la T) oc X W ma a) (hb : DE (gX X la T) oc X W mb b) (hp : PlainIx b) : DE (gX X la T) oc X W (fun env S => (ma env S).bind fun x S => (mb env S).bind fun y S => idxD x y S) (.Subscript a b pos) :=
  PE.conseq (pe_ix (r := rD2 X la T oc idxD) (fun value slice pins s σ H x y v u Q I rx ry ⟨d, e, ρ, S, E, sr, r1, r2, q⟩ hs => dix_ I rx ry sr r1 r2 q hs) ha hb hp) fun σ H Q h => two_op h

def DO (X : Cx) (la : Nat → Arguments → Expr → Scope → List Str → Prop) (T : List NdefX.NTab) (oc : Nat → Option Addr) (W : WX) (m : Env' → Sto → Res (Option Int)) (e : Option Expr) : Prop := PO X e (tM (gX X la T) oc (fun _ _ (a b : Option Int) => a = b) W m)
theorem PO.conseq {e : Option Expr} {t t' : TO} (h : PO X e t) (w : ∀ σ H Q, t' σ H Q → t σ H Q) : PO X e t' := ⟨fun pins s σ H Q I hw => h.run pins s σ H Q I (w _ _ _ hw)⟩
theorem do_none : DO X la T oc W (fun env S => .ok none S) none := PO.conseq po_none fun σ H Q ⟨env, ρ, S, er, sr, h⟩ => h none H ρ Ext.refl sr rfl
theorem do_some (ha : DE (gX X la T) oc X W ma a) : DO X la T oc W (fun env S => (ma env S).bind fun x S => match x with | .int i => .ok (some i) S | _ => .bad) (some a) :=
  PO.conseq (po_some ha) fun σ H Q ⟨env, ρ, S, er, sr, h⟩ => (bindR er sr h).mono fun x H1 ⟨d, ρ1, S1, e1, s1, r1, q1⟩ => by
    cases d with
    | int i => exact ⟨i, rep_int.mp r1, q1 (some i) H1 ρ1 Ext.refl s1 rfl⟩
    | _ => exact q1.elim
theorem de_sl {ml mh : Env' → Sto → Res (Option Int)} {lo hi : Option Expr} {p2 : Pos} (ha : DE (gX X la T) oc X W ma a) (hl : DO X la T oc W ml lo) (hh : DO X la T oc W mh hi) :
    DE (gX X la T) oc X W (fun env S => (ma env S).bind fun x S => (ml env S).bind fun l S => (mh env S).bind fun h S => slD x l h S) (.Subscript a (.Slice lo hi none p2) pos) :=
  PE.conseq (pe_slice (r := fun x lo hi H Q => ∃ d ρ S E, SR (gX X la T) ρ H S ∧ Rep (gX X la T) oc ρ H d x ∧ tG (gX X la T) (RD (gX X la T) oc) (slD d lo hi S) ρ H Q E)
      (fun pins s σ H x v vl vu lo hi sl Q I rx hs pl pu ⟨d, ρ, S, E, sr, r, q⟩ => dsl_ I rx hs pl pu sr r q) ha hl hh) fun σ H Q ⟨env, ρ, S, er, sr, h⟩ =>
    (bindR er sr h).mono fun x H1 ⟨d, ρ1, S1, e1, s1, r1, q1⟩ => (bindR (er.ext e1) s1 q1).mono fun l H2 ⟨l', ρ2, S2, e2, s2, r2, q2⟩ => (bindR (er.ext (e1.trans e2).toExt0) s2 q2).mono fun u H3 ⟨u', ρ3, S3, e3, s3, r3, q3⟩ => by
      subst r2 r3
      exact ⟨d, ρ3, S3, fun c dd H' => W c dd σ H', s3, Rep.ext e3 d (Rep.ext e2.toExt0 d r1), q3⟩
theorem de_rev {k : Nat} {p1 p2 p3 : Pos} (he : DE (gX X la T) oc X W ma a) : DE (gX X la T) oc X W (fun env S => (ma env S).bind fun x S => revD x S) (.Subscript a (.Slice none none (some (.UnaryOp .USub (.Constant (.int 1) k p1) p2)) p3) pos) := by
  refine ⟨fun pins s σ H Q I h => ?_⟩
  obtain ⟨env, ρ, S, er, sr, h⟩ := h
  refine Subscript_ (thn (he.run pins s σ H _ I (bindR er sr h)) fun v s1 ⟨x, H1, I1, r1, d, ρ1, S1, e1, sr1, rd, q⟩ => ?_)
  have hst : PO X (some (.UnaryOp .USub (.Constant (.int 1) k p1) p2)) (tPart (tUn (rU fun i => .int (-i)) (tC (.int 1)))) := po_some (pe_un un_neg pe_int)
  refine wpAny_Slice (thn (po_none.run pins s1 σ H1 (fun o H2 => o = none ∧ H2 = H1) I1 ⟨rfl, rfl⟩) fun vl s2 ⟨l, H2, I2, pl, el, e2⟩ => ?_)
  subst el e2
  refine thn (po_none.run pins s2 σ H2 (fun o H3 => o = none ∧ H3 = H2) I2 ⟨rfl, rfl⟩) fun vu s3 ⟨u, H3, I3, pu, eu, e3⟩ => ?_
  subst eu e3
  refine thn (hst.run pins s3 σ H3 (fun o H4 => o = some (-1) ∧ H4 = H3) I3 ⟨1, rfl, -1, rfl, rfl, rfl⟩) fun vs s4 ⟨o, H4, I4, ps, eo, e4⟩ => ?_
  subst eo e4
  have I5 : Inv X pins σ H4 { s4 with heap := s4.heap.push { cls := .type "slice", data := .fields #[vl, vu, vs] } } := I4.kept (t' := s4.toks) fun b ob q => Heap.get?_push_of_some _ q
  show wpAny (model X.prog X.w) X.A (subscriptTail a (.Slice none none (some (.UnaryOp .USub (.Constant (.int 1) k p1) p2)) p3) v (.ref s4.heap.objs.size)) (EP X pins σ Q) X.xe { s4 with heap := s4.heap.push { cls := .type "slice", data := .fields #[vl, vu, vs] } }
  have lists : ∀ {ds : List D}, S1.items d = some ds → tG (gX X la T) (RD (gX X la T) oc) (.ok (.lst ds.reverse) S1) ρ1 H4 Q (fun c dd H' => W c dd σ H') → wpAny (model X.prog X.w) X.A (subscriptTail a (.Slice none none (some (.UnaryOp .USub (.Constant (.int 1) k p1) p2)) p3) v (.ref s4.heap.objs.size)) (EP X pins σ Q) X.xe { s4 with heap := s4.heap.push { cls := .type "slice", data := .fields #[vl, vu, vs] } } := fun {ds} hi q => by
    obtain ⟨b, xs, rfl, ha, rr⟩ := items_sq sr1 rd hi
    cases r1
    obtain ⟨its, r, ht, hz⟩ := I5.list (show SqL X.K H4 b xs from .inl (.inl ha))
    have hlen := r.length
    refine tail_any (ops := [.ref b, .ref s4.heap.objs.size]) ht.isList.typeIs (PySem.slot_list_getitem.lookup) ?_ (by with_unfolding_all rfl)
    refine wpAny_getItem_list_slice ht.isList (Heap.IsSliceOf.new _ vl vu vs) pl pu ps (by decide) ?_ (by rw [List.size_toArray]; omega)
    rw [PySem.W.krv_pick]
    refine ⟨.ref _, _, I5.laid (t' := s4.toks) (o := .lst xs.reverse) (fun b ob q => Heap.get?_push_of_some _ q) (Nat.le_refl _) ?_, rfl, okLst sr1 q rr.reverse _ (I5.hok.fresh (Nat.le_refl _))⟩
    exact ⟨by rw [List.length_reverse]; exact hz, _, 0, r.reverse, Heap.get?_push_size _ rfl⟩
  cases d with
  | tup ds =>
    obtain ⟨b, xs, rfl, fa, rr⟩ := rep_tup.mp rd
    cases r1
    obtain ⟨its, r, ht, hz⟩ := I5.tuple (show SqT X.K H4 b xs from fa.sq)
    have hlen := r.length
    refine tail_any (ops := [.ref b, .ref s4.heap.objs.size]) ht.typeIs (PyProof.Rows.slot_tuple_getitem.lookup) ?_ (by with_unfolding_all rfl)
    refine HT.getItem_tuple_rev ht (Heap.IsSliceOf.new _ vl vu vs) pl pu ps ?_ (by rw [List.size_toArray]; omega)
    exact new_bare0 I5 (by rw [List.length_reverse]; exact hz) r.reverse (okTup sr1 q rr.reverse)
  | lst ds => exact lists rfl (by simpa only [revD, Sto.items] using q)
  | cell n =>
    simp only [revD] at q
    cases z : S1.items (.cell n) with
    | none => rw [z] at q; exact q.elim
    | some ds => rw [z] at q; exact lists z q
  | _ => exact q.elim
end
end LT
set_option Elab.async false
set_option linter.all false
set_option maxRecDepth 100000
set_option maxHeartbeats 4000000
/-! Own layer, part E3: calls of builtins, methods, and, or, tests, texts. -/
namespace LT
open PySem PySem.Spec PyProof.Rows L2
def biN : Bi → Str
  | .len => "len" | .all => "all" | .any => "any" | .sorted => "sorted" | .tuple => "tuple" | .list => "list" | .listm => "list"
  | .int => "int" | .str => "str" | .abs => "abs" | .sum => "sum" | .min => "min" | .max => "max" | .bool => "bool"
theorem bi_boot (b : Bi) : bootBuiltins (biN b) = some (biV b) := by cases b <;> decide +kernel
theorem bi_nn (b : Bi) : biN b ≠ "__name__" ∧ (biN b == ("__debug__" : Str)) = false := by cases b <;> decide +kernel
def tyS : TyK → Str
  | .int => "int" | .bool => "bool" | .str => "str" | .tuple => "tuple" | .list => "list"
theorem ty_boot (b : TyK) : bootBuiltins (tyS b) = some (.type (tyN b)) := by cases b <;> decide +kernel
theorem ty_nn (b : TyK) : tyS b ≠ "__name__" ∧ (tyS b == ("__debug__" : Str)) = false := by cases b <;> decide +kernel
section
variable {X : Cx} {la : Nat → Arguments → Expr → Scope → List Str → Prop} {T : List NdefX.NTab} {oc : Nat → Option Addr} {W : WX} {ma mb mc : Env' → Sto → Res D} {a b c : Expr} {pos : Pos} {e : Expr} {es : List Expr}
def rDA (X : Cx) (la : Nat → Arguments → Expr → Scope → List Str → Prop) (T : List NdefX.NTab) (oc : Nat → Option Addr) (F : List D → Sto → Res D) : List V → Hp → VK → Prop := fun xs H Q =>
  ∃ ds ρ S E, SR (gX X la T) ρ H S ∧ RepL (gX X la T) oc ρ H ds xs ∧ tG (gX X la T) (RD (gX X la T) oc) (F ds S) ρ H Q E
theorem rDA_of {ms : Env' → Sto → Res (List D)} {F : List D → Sto → Res D} {σ : L2.St} {H : Hp} {Q : VK} (h : tM (gX X la T) oc (RD (gX X la T) oc) W (fun env S => (ms env S).bind fun xs S => F xs S) σ H Q) :
    tCB (rDA X la T oc F) (tM (gX X la T) oc (RL (gX X la T) oc) W ms) σ H Q := by
  obtain ⟨env, ρ, S, er, sr, h⟩ := h
  exact (bindR er sr h).mono fun xs H1 ⟨ds, ρ1, S1, e1, s1, r1, q1⟩ => ⟨ds, ρ1, S1, fun c dd H' => W c dd σ H', s1, r1, q1⟩
theorem callR_bi (hc : X.calm = true) (hu : X.A.units + 100 < cLine) (b : Bi) : CallR X (biV b) (rDA X la T oc (biD b)) := fun pins s σ H xs us Q I rv ⟨ds, ρ, S, E, sr, r, q⟩ => dcall_bi hc hu b I rv sr r q
theorem de_bi {ms : Env' → Sto → Res (List D)} {b : Bi} {x : Str} {p : Pos} (hc : X.calm = true) (hu : X.A.units + 100 < cLine) (hx : x = biN b) (hg : Gl X x) (hm : X.mg x = none) (ha : DA (gX X la T) oc X W ms (e :: es)) (ns : noStar e = true) (nss : es.all noStar = true) :
    DE (gX X la T) oc X W (fun env S => (ms env S).bind fun xs S => biD b xs S) (.Call (.Name x p) (e :: es) [] pos) := by
  subst hx
  have hcr := callR_bi (la := la) (T := T) (oc := oc) hc hu b
  obtain ⟨n1, n2⟩ := bi_nn b
  have hb := bi_boot b
  cases q : biV b with
  | builtin id =>
    rw [q] at hcr hb
    exact PE.conseq (pe_callB hcr hg hm hb ha n1 n2 (star_cons ns) (star_any nss)) fun σ H Q h => rDA_of h
  | type id =>
    rw [q] at hcr hb
    exact PE.conseq (pe_callTy hcr hg hm hb ha n1 n2 (star_cons ns) (star_any nss)) fun σ H Q h => rDA_of h
  | _ => cases b <;> cases q
theorem de_isi {t : TyK} {x y : Str} {p p2 : Pos} (hx : x = ("isinstance" : Str)) (hy : y = tyS t) (hg : Gl X x) (hm : X.mg x = none) (hg2 : Gl X y) (hm2 : X.mg y = none) (ha : DE (gX X la T) oc X W ma a) (ns : noStar a = true) :
    DE (gX X la T) oc X W (fun env S => (ma env S).bind fun x S => match isiD t S x with | some b => .ok (.bl b) S | none => .bad) (.Call (.Name x p) [a, .Name y p2] [] pos) := by
  subst hx hy
  obtain ⟨n1, n2⟩ := ty_nn t
  have hty : PE X (.Name (tyS t) p2) (tC (.ty (tyN t))) := pe_bltn hg2 hm2 (ty_boot t) rfl n1 n2
  refine PE.conseq (pe_callB (id := "isinstance") (r := fun xs H Q => ∃ x d b ρ S E, xs = [x, V.ty (tyN t)] ∧ SR (gX X la T) ρ H S ∧ Rep (gX X la T) oc ρ H d x ∧ isiD t S d = some b ∧ tG (gX X la T) (RD (gX X la T) oc) (.ok (.bl b) S) ρ H Q E)
    (fun pins s σ H xs us Q I rv ⟨x, d, b, ρ, S, E, ex, sr, r, hb, q⟩ => ?_) hg hm (by decide +kernel) (pa_cons ha (pa_cons hty pa_nil (star_cons rfl)) (star_cons ns)) (by decide) (by decide) (star_cons ns) (star_any rfl)) fun σ H Q ⟨env, ρ, S, er, sr, h⟩ =>
      (bindR er sr h).mono fun x H1 ⟨d, ρ1, S1, e1, s1, r1, q1⟩ => ?_
  · subst ex
    obtain ⟨u1, u2, rfl, r1, r2⟩ := vals2 rv
    cases (show u2 = Value.type (tyN t) from r2)
    exact isi_ok I r1 sr r hb (okR sr q (by simp only [Rep]))
  · cases q : isiD t S1 d with
    | none => rw [q] at q1; exact q1.elim
    | some b => rw [q] at q1; exact ⟨x, d, b, ρ1, S1, fun c dd H' => W c dd σ H', rfl, s1, r1, q, q1⟩
/-! ### methods -/
def mtNm : Mt → Str
  | .split => "split" | .join => "join" | .index => "index" | .append => "append" | .clear => "clear" | .insert => "insert" | .replace => "replace" | .count => "count" | .countT => "count"
theorem mt_slot (t : Mt) : Slot (mtTy t) (mtNm t) (mtId t) := by
  cases t with
  | split => exact F.slot_str_split
  | join => exact F.slot_str_join
  | index => exact F.slot_str_index
  | append => exact F.slot_list_append
  | clear => exact F.slot_list_clear
  | insert => exact F.slot_list_insert
  | replace => exact F.slot_str_replace
  | count => exact F.slot_list_count
  | countT => exact F.slot_tuple_count
theorem mt_type (t : Mt) : typeOf (.builtin (mtId t)) = pure (.type "method_descriptor") := by
  cases t with
  | split => exact F.type_str_split
  | join => exact F.type_str_join
  | index => exact F.type_str_index
  | append => exact F.type_list_append
  | clear => exact F.type_list_clear
  | insert => exact F.type_list_insert
  | replace => exact F.type_str_replace
  | count => exact F.type_list_count
  | countT => exact F.type_tuple_count
theorem mt_plain (t : Mt) : PlainAttrs (mtTy t) := by cases t <;> first | exact F.plainAttrs_str | exact F.plainAttrs_list | exact F.plainAttrs_tuple
theorem recv_ty {t : Mt} {d : D} {x : V} {ρ : Pl} {H : Hp} {S : Sto} (sr : SR (gX X la T) ρ H S) (r : Rep (gX X la T) oc ρ H d x) (h : recvOk t d S = true) : TyB X.K (mtTy t) x H := by
  unfold recvOk at h
  unfold mtTy
  split at h
  · rename_i q
    rw [if_pos q]
    cases d with
    | str z => rw [rep_str] at r; subst r; exact .inl rfl
    | _ => cases h
  · rename_i q
    rw [if_neg q]
    split at h
    · rename_i q2
      rw [if_pos q2]
      cases d with
      | tup z =>
        obtain ⟨a, vs, rfl, f, _⟩ := rep_tup.mp r
        rcases f with ⟨⟨o, f, hd⟩, _⟩ | ⟨o, its, n, h1, h2, h3, _⟩
        · exact .inr ⟨rfl, a, o, vs, rfl, f, hd⟩
        · exact .inl (.inr (.inl ⟨rfl, o, h1, h2, h3⟩))
      | _ => cases h
    · rename_i q2
      rw [if_neg q2]
      obtain ⟨ds, hd⟩ := Option.isSome_iff_exists.mp h
      obtain ⟨a, vs, rfl, ha, _⟩ := items_sq sr r hd
      exact .inl (.inl ⟨rfl, vs, .inl (.inl ha)⟩)
def noSuper : Expr → Bool
  | .Call (.Name id _) [] [] _ => id != ("super" : Str)
  | _ => true
theorem attr_base {o : Expr} {n : Str} {env : Env} {w : Sem Value} (h : noSuper o = true) : attributeBase o n env w = w := by
  unfold attributeBase
  split
  · rename_i id p pos
    have hid : (id != ("super" : Str)) = true := h
    rw [if_pos (by rw [hid]; rfl)]
  · rfl
theorem de_meth {ms : Env' → Sto → Res (List D)} {t : Mt} {n : Str} {apos : Pos} (hu : X.A.units + 100 < cLine) (ht : t ≠ .replace) (hn : n = mtNm t) (ho : noSuper a = true) (hl : (apos.endLine == pos.line) = true) (ha : DE (gX X la T) oc X W ma a) (hs : DA (gX X la T) oc X W ms es) (nss : es.all noStar = true) (hlen : es.length < 20) (hne : es ≠ []) :
    DE (gX X la T) oc X W (fun env S => (ma env S).bind fun x S => if recvOk t x S then (ms env S).bind fun xs S => methD t x xs S else .bad) (.Call (.Attribute a n apos) es [] pos) := by
  subst hn
  have hm : MtR X (mtId t) (fun x xs H Q => ∃ d ds ρ S E, SR (gX X la T) ρ H S ∧ Rep (gX X la T) oc ρ H d x ∧ RepL (gX X la T) oc ρ H ds xs ∧ tG (gX X la T) (RD (gX X la T) oc) (methD t d ds S) ρ H Q E) :=
    fun pins s σ H x xs v us Q I rx rv ⟨d, ds, ρ, S, E, sr, r, rs, q⟩ => dmeth_ hu ht I rx rv sr r rs q
  have fin : ∀ {σ H Q}, tM (gX X la T) oc (RD (gX X la T) oc) W (fun env S => (ma env S).bind fun x S => if recvOk t x S then (ms env S).bind fun xs S => methD t x xs S else .bad) σ H Q →
      tM (gX X la T) oc (RD (gX X la T) oc) W ma σ H (fun x H1 => TyB X.K (mtTy t) x H1 ∧ tM (gX X la T) oc (RL (gX X la T) oc) W ms σ H1 fun xs H2 => ∃ d ds ρ S E, SR (gX X la T) ρ H2 S ∧ Rep (gX X la T) oc ρ H2 d x ∧ RepL (gX X la T) oc ρ H2 ds xs ∧ tG (gX X la T) (RD (gX X la T) oc) (methD t d ds S) ρ H2 Q E) := by
    rintro σ H Q ⟨env, ρ, S, er, sr, h⟩
    refine (bindR er sr h).mono fun x H1 ⟨d, ρ1, S1, e1, s1, r1, q1⟩ => ?_
    by_cases c : recvOk t d S1 = true
    · rw [if_pos c] at q1
      exact ⟨recv_ty s1 r1 c, (bindR (er.ext e1) s1 q1).mono fun xs H2 ⟨ds, ρ2, S2, e2, s2, r2, q2⟩ => ⟨d, ds, ρ2, S2, fun c dd H' => W c dd σ H', s2, Rep.ext e2 d r1, r2, q2⟩⟩
    · rw [if_neg c] at q1; exact q1.elim
  cases es with
  | nil => exact absurd rfl hne
  | cons e es =>
    simp only [List.all_cons, Bool.and_eq_true] at nss
    refine PE.conseq (pe_bmB (mt_plain t) (mt_slot t) (mt_type t) hm ha hs (attr_base ho) ?_ hl (star_cons nss.1) (star_any nss.2)) fun σ H Q h => fin h
    rw [star_all (by simp [nss.1, nss.2])]
    simp only [List.length_cons] at hlen
    have : keywordEach [] X.env = [] := by first | rfl | simp [keywordEach]
    rw [this]
    simp [backToKw]
    omega
theorem de_meth0 {t : Mt} {n : Str} {apos : Pos} (hu : X.A.units + 100 < cLine) (ht : t ≠ .replace) (hn : n = mtNm t) (ho : noSuper a = true) (hl : (apos.endLine == pos.line) = true) (ha : DE (gX X la T) oc X W ma a) :
    DE (gX X la T) oc X W (fun env S => (ma env S).bind fun x S => if recvOk t x S then methD t x [] S else .bad) (.Call (.Attribute a n apos) [] [] pos) := by
  subst hn
  refine PE.conseq (pe_bm0 (mt_plain t) (mt_slot t) (mt_type t) (r := fun x xs H Q => ∃ d ds ρ S E, SR (gX X la T) ρ H S ∧ Rep (gX X la T) oc ρ H d x ∧ RepL (gX X la T) oc ρ H ds xs ∧ tG (gX X la T) (RD (gX X la T) oc) (methD t d ds S) ρ H Q E)
    (fun pins s σ H x xs v us Q I rx rv ⟨d, ds, ρ, S, E, sr, r, rs, q⟩ => dmeth_ hu ht I rx rv sr r rs q) ha (attr_base ho) hl) fun σ H Q ⟨env, ρ, S, er, sr, h⟩ => (bindR er sr h).mono fun x H1 ⟨d, ρ1, S1, e1, s1, r1, q1⟩ => ?_
  by_cases c : recvOk t d S1 = true
  · rw [if_pos c] at q1
    have ty : tyV X.K (mtTy t) x H1 := by
      rcases recv_ty s1 r1 c with ty | ⟨ty, _⟩
      · exact ty
      · cases t <;> first | (exact absurd ty (by decide)) | (cases d <;> exact q1.elim)
    exact ⟨ty, d, [], ρ1, S1, fun c dd H' => W c dd σ H', s1, r1, .nil, q1⟩
  · rw [if_neg c] at q1; exact q1.elim
/-! ### truth -/
theorem truth_ok {d : D} {x : V} {ρ : Pl} {H : Hp} {S : Sto} {b : Bool} (sr : SR (gX X la T) ρ H S) (r : Rep (gX X la T) oc ρ H d x) (h : truthD S d = some b) : TruV X.K x H b := by
  have lists : ∀ {ds : List D}, S.items d = some ds → b = !ds.isEmpty → TruV X.K x H b := fun {ds} hi e => by
    obtain ⟨a, vs, rfl, ha, rr⟩ := items_sq sr r hi
    refine .inl ⟨vs, .inl (.inl ha), ?_⟩
    rw [e]
    have := rr.length
    cases ds <;> cases vs <;> first | rfl | simp at this
  cases d with
  | non => rw [rep_non] at r; subst r; simp only [truthD, Option.some.injEq] at h; exact h.symm
  | bl c => rw [rep_bl] at r; subst r; simp only [truthD, Option.some.injEq] at h; exact h.symm
  | int c => rw [rep_int] at r; subst r; simp only [truthD, Option.some.injEq] at h; exact h.symm
  | str c =>
    rw [rep_str] at r; subst r
    simp only [truthD] at h
    split at h
    · rename_i q
      exact ⟨by rw [lineN_eq]; exact q, (Option.some.inj h).symm⟩
    · cases h
  | tup ds =>
    obtain ⟨a, vs, rfl, fa, rr⟩ := rep_tup.mp r
    simp only [truthD, Option.some.injEq] at h
    refine .inr (.inl ⟨vs, fa.sq, ?_⟩)
    rw [← h]
    have := rr.length
    cases ds <;> cases vs <;> first | rfl | simp at this
  | lst ds => exact lists rfl (by simp only [truthD, Sto.items, Option.map_some, Option.some.injEq] at h; exact h.symm)
  | cell n =>
    simp only [truthD] at h
    cases q : S.items (.cell n) with
    | none => rw [q] at h; cases h
    | some ds => rw [q] at h; exact lists q (Option.some.inj h).symm
  | _ => simp [truthD, Sto.items] at h
def plainT : Expr → Bool
  | .UnaryOp .Not _ _ => false
  | .BoolOp .. => false
  | .IfExp .. => false
  | .Compare .. => false
  | _ => true
theorem plain_t {e : Expr} (h : plainT e = true) (env : Env) (whole : Sem Value) : isTrue e env whole = (do let v ← whole; standAt e.pos; holding [v] (truthy v)) := by
  cases e <;> first | rfl | exact absurd h Bool.false_ne_true | skip
  rename_i op _ _
  cases op <;> first | rfl | exact absurd h Bool.false_ne_true
theorem dt_val (ha : DE (gX X la T) oc X W ma a) (hp : plainT a = true) : DT (gX X la T) oc X W (Ev.mk' ma).t a :=
  PT.conseq (pt_truth ha (plain_t hp X.env)) fun σ H Q ⟨env, ρ, S, er, sr, h⟩ => by
    have h : tG (gX X la T) RB ((ma env S).bind fun x S => match truthD S x with | some b => .ok b S | none => .bad) ρ H Q (fun c dd H' => W c dd σ H') := h
    refine (bindR er sr h).mono fun x H1 ⟨d, ρ1, S1, e1, s1, r1, q1⟩ => ?_
    cases q : truthD S1 d with
    | none => rw [q] at q1; exact q1.elim
    | some b =>
      rw [q] at q1
      exact ⟨b, truth_ok s1 r1 q, q1 b H1 ρ1 Ext.refl s1 rfl⟩
/-! ### and, or, not -/
section
variable {ta tb : Env' → Sto → Res Bool}
theorem dt_not (ha : DT (gX X la T) oc X W ta a) : DT (gX X la T) oc X W (fun env S => (ta env S).bind fun b S => .ok (!b) S) (.UnaryOp .Not a pos) :=
  PT.conseq (pt_not ha) fun σ H Q ⟨env, ρ, S, er, sr, h⟩ => (bindR er sr h).mono fun x H1 ⟨d, ρ1, S1, e1, s1, r1, q1⟩ => by
    cases (show d = x from r1)
    exact q1 (!x) H1 ρ1 Ext.refl s1 rfl
/-- and .. as a test, whatever its whole is -/
def DW (G : GI) (oc : Nat → Option Addr) (X : Cx) (W : WX) (m : Env' → Sto → Res Bool) (e : Expr) : Prop := PW X e (tM G oc RB W m)
theorem DW.dt {m : Env' → Sto → Res Bool} (h : DW (gX X la T) oc X W m e) : DT (gX X la T) oc X W m e := PW.pt h
theorem dw_and1 (ha : DT (gX X la T) oc X W ta a) : DW (gX X la T) oc X W ta (.BoolOp .And [a] pos) := pw_and1 ha
theorem dw_or1 (ha : DT (gX X la T) oc X W ta a) : DW (gX X la T) oc X W ta (.BoolOp .Or [a] pos) := pw_or1 ha
theorem dw_and (ha : DT (gX X la T) oc X W ta a) (hb : DW (gX X la T) oc X W tb (.BoolOp .And (b :: es) pos)) : DW (gX X la T) oc X W (fun env S => (ta env S).bind fun b S => if b then tb env S else .ok false S) (.BoolOp .And (a :: b :: es) pos) :=
  PW.conseq (pw_and ha hb) fun σ H Q ⟨env, ρ, S, er, sr, h⟩ => (bindR er sr h).mono fun x H1 ⟨d, ρ1, S1, e1, s1, r1, q1⟩ => by
    cases (show d = x from r1)
    cases x with
    | true => exact ⟨env, ρ1, S1, er.ext e1, s1, q1⟩
    | false => exact q1 false H1 ρ1 Ext.refl s1 rfl
theorem dw_or (ha : DT (gX X la T) oc X W ta a) (hb : DW (gX X la T) oc X W tb (.BoolOp .Or (b :: es) pos)) : DW (gX X la T) oc X W (fun env S => (ta env S).bind fun b S => if b then .ok true S else tb env S) (.BoolOp .Or (a :: b :: es) pos) :=
  PW.conseq (pw_or ha hb) fun σ H Q ⟨env, ρ, S, er, sr, h⟩ => (bindR er sr h).mono fun x H1 ⟨d, ρ1, S1, e1, s1, r1, q1⟩ => by
    cases (show d = x from r1)
    cases x with
    | false => exact ⟨env, ρ1, S1, er.ext e1, s1, q1⟩
    | true => exact q1 true H1 ρ1 Ext.refl s1 rfl
theorem de_one {op : BoolOp} (ha : DE (gX X la T) oc X W ma a) : DE (gX X la T) oc X W ma (.BoolOp op [a] pos) := pe_one ha
theorem de_and (ha : DE (gX X la T) oc X W ma a) (hb : DE (gX X la T) oc X W mb (.BoolOp .And (b :: es) pos)) : DE (gX X la T) oc X W (fun env S => (ma env S).bind fun x S => match x with
      | .bl true => mb env S
      | .bl false => .ok (.bl false) S
      | _ => .bad) (.BoolOp .And (a :: b :: es) pos) :=
  PE.conseq (pe_and ha hb) fun σ H Q ⟨env, ρ, S, er, sr, h⟩ => (bindR er sr h).mono fun x H1 ⟨d, ρ1, S1, e1, s1, r1, q1⟩ => by
    cases d with
    | bl k =>
      refine ⟨k, rep_bl.mp r1, ?_⟩
      cases k with
      | true => exact ⟨env, ρ1, S1, er.ext e1, s1, q1⟩
      | false => exact okR s1 q1 (by simp only [Rep])
    | _ => exact q1.elim
theorem de_or (ha : DE (gX X la T) oc X W ma a) (hb : DE (gX X la T) oc X W mb (.BoolOp .Or (b :: es) pos)) : DE (gX X la T) oc X W (fun env S => (ma env S).bind fun x S => match x with
      | .bl false => mb env S
      | .bl true => .ok (.bl true) S
      | _ => .bad) (.BoolOp .Or (a :: b :: es) pos) :=
  PE.conseq (pe_or ha hb) fun σ H Q ⟨env, ρ, S, er, sr, h⟩ => (bindR er sr h).mono fun x H1 ⟨d, ρ1, S1, e1, s1, r1, q1⟩ => by
    cases d with
    | bl k =>
      refine ⟨k, rep_bl.mp r1, ?_⟩
      cases k with
      | false => exact ⟨env, ρ1, S1, er.ext e1, s1, q1⟩
      | true => exact okR s1 q1 (by simp only [Rep])
    | _ => exact q1.elim
theorem de_ite (hc : DT (gX X la T) oc X W ta c) (ha : DE (gX X la T) oc X W ma a) (hb : DE (gX X la T) oc X W mb b) : DE (gX X la T) oc X W (fun env S => (ta env S).bind fun t S => if t then ma env S else mb env S) (.IfExp c a b pos) :=
  PE.conseq (pe_ifExp hc ha hb) fun σ H Q ⟨env, ρ, S, er, sr, h⟩ => (bindR er sr h).mono fun x H1 ⟨d, ρ1, S1, e1, s1, r1, q1⟩ => by
    cases (show d = x from r1)
    cases x with
    | true => exact ⟨env, ρ1, S1, er.ext e1, s1, q1⟩
    | false => exact ⟨env, ρ1, S1, er.ext e1, s1, q1⟩
end
end
end LT
set_option Elab.async false
set_option linter.all false
set_option maxRecDepth 100000
set_option maxHeartbeats 4000000
/-! Own layer, part X1: enumerate over a tuple. -/
namespace LT
open PySem PySem.Spec PyProof.Rows L2
theorem enum_endT {prog : Program} {w : World} {A : Around} {E : Value → Shared → Prop} {s : Shared} {e it l : Addr} {i : Nat} {items : Array Value} {old : Value} {Q : Option Value → Shared → Prop} (hh : A.handled = none)
    (he : IsEnum s.heap e it i old) (hit : s.heap.IsTupleIter it l i) (hl : s.heap.IsTuple l items) (hx : items[i]? = none)
    (hQ : ∀ h', Heap.ExtBut it s.heap h' → Q none { s with heap := h' }) : wpAny (model prog w) A (pyNext (.ref e)) Q E s := by
  have hT : s.TypeIs (.ref e) "enumerate" := ⟨_, he, rfl⟩
  unfold pyNext
  refine wpAny_bind (wpAny_attempt (wpAny_callSpecial?_slot (name := Str.ofString "__next__") hT F.slot_enumerate_next
    (wpAny_call_entry F.slot_enumerate_next hT F.entry_enumerate_next ?_ (F.args_enumerate_next_1 _))))
  show wpAny _ _ (field (.ref e) 2 >>= _) _ _ _
  refine wpAny_bind (wpAny_field he rfl (x := .ref it) rfl ?_)
  refine wpAny_bind (wpAny_nextOf_tuple_end hh hit hl hx fun h' x he' hx' => ?_)
  obtain ⟨o, ho, hc⟩ := hx'
  refine wpAny_bind (wpAny_isInstance (T := "StopIteration") (b := true) ⟨o, ho, hc⟩ isSubtype_stop ?_)
  exact wpAny_pure (hQ _ he')
/-- the tuple's items, each in a new pair -/
def IteT (K : PySem.W.Frag) (a : Addr) : It :=
  ⟨fun i H => ∃ (xs : List V) (x : V), SqT K H a xs ∧ xs[i]? = some x, fun i H v H' => ∃ T x, v = .ref T ∧ H T = none ∧ H' = upd H T (.tup [.int (i : Nat), x]) ∧ ∀ xs, SqT K H a xs → xs[i]? = some x, fun i H => ∃ xs : List V, SqT K H a xs ∧ xs.length ≤ i⟩
theorem turn_enumT {P : Program} {w : World} {K : PySem.W.Frag} {elts : List Expr} {kk : Nat} {tpos : Pos} (a e it : Addr) (hai : a ≠ it) (hae : e ≠ a) :
    Turn P w K (.Tuple elts kk tpos) (IteT K a) [e, it] e (fun i h => (∃ old, IsEnum h e it ((i : Nat) : Int) old) ∧ h.IsTupleIter it a i ∧ e ≠ it) where
  mem := by simp
  obj := fun i h st b hb => by
    obtain ⟨⟨old, he⟩, ⟨o, ho, hc, hd⟩, _⟩ := st
    have e' : b = e ∨ b = it := by simpa using hb
    rcases e' with z | z
    · rw [z]; exact ⟨_, he, fun v q => nomatch q⟩
    · rw [z]; exact ⟨o, ho, fun v q => by rw [hd] at q; cases q⟩
  keep := fun i h h' st k => let ⟨⟨old, he⟩, hi, hne⟩ := st; ⟨⟨old, k e (by simp) _ he⟩, hi.at fun o q => k it (by simp) o q, hne⟩
  item := by
    intro X hP hw hK hc i pins s σ H E I hf st hg
    subst hP hw hK
    obtain ⟨⟨old, he⟩, hit, hne⟩ := st
    obtain ⟨xs, x, hq, hx⟩ := hg
    obtain ⟨its, rv, p, hz⟩ := I.tuple hq
    obtain ⟨u, hu, ru⟩ := rv.get hx
    have hel : e < s.heap.objs.size := Heap.lt_size he
    have hil : it < s.heap.objs.size := by obtain ⟨_, q, _⟩ := hit; exact Heap.lt_size q
    have hsz0 : i < its.toArray.size := by
      have := (List.getElem?_eq_some_iff.mp hu).1
      simpa using this
    have Dr : Draws X.prog X.w X.A.in1 it [it, a] its.toArray.size (fun i v => its.toArray[i]? = some v) (fun i h => h.IsTupleIter it a i ∧ h.IsTuple a its.toArray) := Draws.tuple (A := X.A.in1) (I.ok.hd hc) it a hai its.toArray
    refine wpAny_pyNext_enum_itemD Dr he ⟨hit, p⟩ hsz0 hne (by simp [hne, hae]) fun y h' tk hy ho hit' hT hsz hk => ?_
    have hy' : y = u := by
      have : its.toArray[i]? = some u := by simpa using hu
      rw [this] at hy
      exact (Option.some.inj hy).symm
    subst hy'
    refine ⟨_, rfl, wpAny_letOwnedTupleGo_enum (s := { s with heap := h', toks := tk + 1 }) ho fun h'' he' sb => ?_⟩
    have hT2 : h''.get? s.heap.objs.size = some { cls := .type "tuple", data := .seq #[.int i tk, y] } := (sb.2 _ (Nat.ne_of_gt hel)).trans hT
    have new : ObjOk X.prog X.w (upd H s.heap.objs.size (.tup [.int (i : Nat), x])) h'' s.heap.objs.size (.tup [.int (i : Nat), x]) :=
      ⟨by show 2 ≤ sizeLine; decide, [.int i tk, y], .cons ⟨_, rfl⟩ (.cons ru .nil), ⟨_, hT2, rfl, _, rfl⟩⟩
    have I1 : Inv X pins σ (upd H s.heap.objs.size (.tup [.int (i : Nat), x])) { s with heap := h'', toks := tk + 1 } :=
      I.turnedNew (ch := [e, it]) (fun b ob hb q => (sb.2 b (fun z => hb (by simp [z]))).trans (hk b ob (fun z => hb (by simp [z])) (fun z => hb (by simp [z])) q)) hf (Nat.le_refl _) new
    refine ⟨.ref s.heap.objs.size, _, I1, rfl, ⟨_, x, rfl, I.hok.fresh (Nat.le_refl _), rfl, fun ys hy => by rw [I.tuple_inj hy hq]; exact hx⟩, ⟨⟨y, ?_⟩, hit'.1.at fun o q => (sb.2 it (Ne.symm hne)).trans q, hne⟩, fun b hb => ?_⟩
    · have e1 : ((i + 1 : Nat) : Int) = (i : Int) + 1 := by omega
      rw [e1]; exact he'
    · have hb' : b < s.heap.objs.size := by
        have e' : b = e ∨ b = it := by simpa using hb
        rcases e' with z | z
        · rw [z]; exact hel
        · rw [z]; exact hil
      rw [upd_ne (Nat.ne_of_lt hb')]
      exact (hf b hb).1
  done := by
    intro X hP hw hK hc i pins s σ H E I hf st hg
    subst hP hw hK
    obtain ⟨⟨old, he⟩, hit, hne⟩ := st
    obtain ⟨xs, hq, hx⟩ := hg
    obtain ⟨its, rv, p, hz⟩ := I.tuple hq
    obtain ⟨f0, f1, f2, f3, f4, f5⟩ := hf it (by simp)
    have hl := rv.length
    exact enum_endT (I.ok.hd hc) he hit p (by simp; omega) fun h' eb => ⟨rfl, I.turned (t' := s.toks) (fun b o hb q => eb b o hb q) f0 f1 f3 f4 f5⟩
  self := fun A i s Q E st h => let ⟨⟨_, he⟩, _⟩ := st; wpAny_pyIter_enum he h
/-! ### enumerate(v): its two new cells -/
set_option maxHeartbeats 8000000 in
theorem meets_enum1 {v : Value} {o : Obj} {H : Heap → Prop} (B : Begins v o H) :
    Meets (Builtin.«enumerate.__new__» ⟨[.type "enumerate", v], []⟩) (fun _ R s => H s.heap ∧
      R (.ok (.ret (.ref (s.heap.push o).objs.size))) { s with heap := (s.heap.push o).push { cls := .type "enumerate", data := .fields #[.none, .bool false, .ref s.heap.objs.size, rawInt 0, .none, .none] } }) :=
  .of_wp fun prog w A R s h => by
    obtain ⟨hp, g, d, tk, os⟩ := s; obtain ⟨h1, h⟩ := h
    have hsub := sub_enumerate
    have q1 : ∀ {A' : Around} {E : Value → Shared → Prop} {Q : Value → Shared → Prop}, Q (.ref hp.objs.size) ⟨hp.push o, g, d, tk, os⟩ → wpAny (model prog w) A' (pyIter v) Q E ⟨hp, g, d, tk, os⟩ :=
      fun q => B.iter prog w _ _ ⟨hp, g, d, tk, os⟩ _ h1 q
    wp_walk using q1
    refine wpAny_stack_any fun st => wpAny_pure ?_
    split
    · rename_i c _ _ _ _ _
      cases (c == Value.type "enumerate")
      · wp_walk using q1
        exact ⟨_, rfl, h⟩
      · wp_walk using q1
        exact ⟨_, rfl, h⟩
    · wp_walk using q1
      exact ⟨_, rfl, h⟩
theorem enum_begins1 {prog : Program} {w : World} {A : Around} {E : Value → Shared → Prop} {s : Shared} {v : Value} {o : Obj} {H : Heap → Prop} {Q : Value → Shared → Prop} (B : Begins v o H) (h1 : H s.heap)
    (h : ∀ h', IsEnum h' (s.heap.objs.size + 1) s.heap.objs.size 0 .none → h'.get? s.heap.objs.size = some o → h'.objs.size = s.heap.objs.size + 2 →
      (∀ b o, s.heap.get? b = some o → h'.get? b = some o) → Q (.ref (s.heap.objs.size + 1)) { s with heap := h' }) :
    wpAny (model prog w) A (call (.type "enumerate") [v]) Q E s := by
  refine callType_new F.called_enumerate (by decide) (F.typeCall_enumerate_1 _) (F.newCall_enumerate_1 _) (fun obj => F.args_object_init_2 obj _) F.entry_enumerate_new
    (meets_enum1 B) ⟨h1, ?_⟩
  have hz : (s.heap.push o).objs.size = s.heap.objs.size + 1 := Heap.size_push ..
  show _ ∧ _
  rw [hz]
  have he : IsEnum ((s.heap.push o).push { cls := .type "enumerate", data := .fields #[.none, .bool false, .ref s.heap.objs.size, rawInt 0, .none, .none] }) (s.heap.objs.size + 1) s.heap.objs.size 0 .none := by
    have := Heap.get?_push_size (s.heap.push o) (o := { cls := .type "enumerate", data := .fields #[.none, .bool false, .ref s.heap.objs.size, rawInt 0, .none, .none] }) rfl
    rw [hz] at this; exact this
  refine ⟨⟨_, he, rfl⟩, h _ he (Heap.get?_push_of_some _ (Heap.get?_push_size _ B.free)) (by rw [Heap.size_push, hz]) fun b o x => Heap.get?_push_of_some _ (Heap.get?_push_of_some _ x)⟩
/-- enumerate(x), x a list or a tuple -/
def iEnumA (K : PySem.W.Frag) (ta : TA) : TI := fun σ H R => ta σ H fun vs H1 => ∃ a xs, vs = [.ref a] ∧ ((SqL K H1 a xs ∧ R (Ite K a) H1) ∨ (SqT K H1 a xs ∧ R (IteT K a) H1))
theorem pi_enumA {X : Cx} {e : Expr} {ta : TA} {p pos tpos : Pos} {elts : List Expr} {kk : Nat} (hg : Gl X "enumerate") (hm : X.mg "enumerate" = none) (ha : PA X [e] ta) (hs : starEach [e] X.env = [(false, eval e X.env)] := by rfl) :
    PI X (.Tuple elts kk tpos) (.Call (.Name "enumerate" p) [e] [] pos) (iEnumA X.K ta) := by
  refine ⟨fun pins s σ H R I h => ?_⟩
  refine Call_ (ld_blt I hg hm boot_enumerate (PyProof.Rows.callWith_type1 (thn (ha.run pos pins s σ H _ I h) fun us s1 ⟨vs, H1, I1, r1, q1⟩ => ?_) hs rfl))
  obtain ⟨a, xs, ex, q⟩ := q1
  subst ex
  have fin : ∀ (J : It) (h' : Heap) (tn : Nat → Heap → Prop), (∀ b o, s1.heap.get? b = some o → h'.get? b = some o) → Turn X.prog X.w X.K (.Tuple elts kk tpos) J [s1.heap.objs.size + 1, s1.heap.objs.size] (s1.heap.objs.size + 1) tn → tn 0 h' → R J H1 →
      PIE X pins σ (.Tuple elts kk tpos) R (.ref (s1.heap.objs.size + 1)) { s1 with heap := h' } := by
    intro J h' tn hk T st q
    have I2 : Inv X pins σ H1 { s1 with heap := h' } := I1.kept (t' := s1.toks) hk
    refine ⟨s1.heap.objs.size + 1, [s1.heap.objs.size + 1, s1.heap.objs.size], tn, J, H1, rfl, I2, T, st, fun b hb => ?_, q⟩
    have e' : b = s1.heap.objs.size + 1 ∨ b = s1.heap.objs.size := by simpa using hb
    have hle : s1.heap.objs.size ≤ b := by
      rcases e' with z | z
      · rw [z]; exact Nat.le_add_right _ _
      · rw [z]; exact Nat.le_refl _
    exact I1.fpOk hle (I1.hok.fresh hle)
  cases r1 with
  | cons r rr =>
    cases rr
    cases r
    rcases q with ⟨hq, q⟩ | ⟨hq, q⟩
    · obtain ⟨its, rv, p', hz⟩ := I1.list hq
      exact call_enumerate_list p'.isList fun h' he hit hsz hk => wpAny_pyIter_enum he (fin _ h' _ hk (turn_enum a (s1.heap.objs.size + 1) s1.heap.objs.size) ⟨⟨.none, he⟩, hit, Nat.succ_ne_self _⟩ q)
    · obtain ⟨its, rv, p', hz⟩ := I1.tuple hq
      have hlt : a < s1.heap.objs.size := by obtain ⟨o, e, _⟩ := p'; exact Heap.lt_size e
      exact enum_begins1 (begins_tuple a its.toArray) p' fun h' he hit hsz hk => wpAny_pyIter_enum he (fin _ h' _ hk (turn_enumT a (s1.heap.objs.size + 1) s1.heap.objs.size (Nat.ne_of_lt hlt) (Nat.ne_of_gt (Nat.lt_succ_of_lt hlt))) ⟨⟨.none, he⟩, ⟨_, hit, rfl, rfl⟩, Nat.succ_ne_self _⟩ q)
end LT
set_option Elab.async false
set_option linter.all false
set_option maxRecDepth 100000
set_option maxHeartbeats 4000000
/-! Own layer, part E4: what is walked; comprehensions. -/
namespace LT
open PySem PySem.Spec PyProof.Rows L2
/-- v stands for d; where the target takes pairs apart, a pair whose own dict is not known will do -/
def RepW (b : Bool) (G : GI) (oc : Nat → Option Addr) (ρ : Pl) (H : Hp) (d : D) (x : V) : Prop := Rep G oc ρ H d x ∨ (b = true ∧ ∃ ds a vs, d = .tup ds ∧ x = .ref a ∧ SqT G.K H a vs ∧ RepL G oc ρ H ds vs)
theorem new_pair {G : GI} {oc : Nat → Option Addr} {ρ : Pl} {H : Hp} {p : Addr} {ds : List D} {vs : List V} (n : H p = none) (r : RepL G oc ρ H ds vs) : RepW true G oc ρ (upd H p (.tup vs)) (.tup ds) (.ref p) :=
  .inr ⟨rfl, ds, p, vs, rfl, rfl, .inl (.inl upd_same), RepL.ext (ext_of (upd_keep n)).toExt0 ds r⟩
/-- does the target take pairs apart -/
def tupT : Expr → Bool
  | .Tuple .. => true
  | _ => false
/-- the evaluator's walk J and the kit's walk I -/
structure IR (b : Bool) (G : GI) (oc : Nat → Option Addr) (ρ : Pl) (H : Hp) (J : Itr) (I : It) : Prop where
  stop : ∀ {ρ' : Pl} {H' : Hp} {S : Sto} {i : Nat}, Ext0 ρ H ρ' H' → SR G ρ' H' S → J.get S i = some none → I.stop i H'
  go : ∀ {ρ' : Pl} {H' : Hp} {S : Sto} {i : Nat} {d : D}, Ext0 ρ H ρ' H' → SR G ρ' H' S → J.get S i = some (some d) → I.go i H' ∧ ∀ x H2, I.yld i H' x H2 → Ext ρ' H' ρ' H2 ∧ SR G ρ' H2 S ∧ RepW b G oc ρ' H2 d x
def SrcL (G : GI) (oc : Nat → Option Addr) (ρ : Pl) (H : Hp) (s : Src) (a : Addr) : Prop := ∃ d, (∀ S, s.items S = S.items d) ∧ Rep G oc ρ H d (.ref a)
def SrcT (G : GI) (oc : Nat → Option Addr) (ρ : Pl) (H : Hp) (s : Src) (a : Addr) : Prop := ∃ ds vs, s = .fix ds ∧ FzT G ρ H a vs ∧ RepL G oc ρ H ds vs
section
variable {G : GI} {oc : Nat → Option Addr} {ρ ρ' : Pl} {H H' : Hp} {S : Sto} {s t : Src} {a b : Addr} {i : Nat}
theorem SrcL.at (h : SrcL G oc ρ H s a) (e : Ext0 ρ H ρ' H') (sr : SR G ρ' H' S) {ds : List D} (q : s.items S = some ds) : ∃ vs, H' a = some (.lst vs) ∧ RepL G oc ρ' H' ds vs := by
  obtain ⟨d, hd, r⟩ := h
  rw [hd] at q
  obtain ⟨a', vs, ea, h1, h2⟩ := items_sq sr (Rep.ext e d r) q
  cases ea
  exact ⟨vs, h1, h2⟩
theorem SrcT.at (h : SrcT G oc ρ H s a) (e : Ext0 ρ H ρ' H') {ds : List D} (q : s.items S = some ds) : ∃ vs, SqT G.K H' a vs ∧ RepL G oc ρ' H' ds vs := by
  obtain ⟨ds', vs, rfl, f, r⟩ := h
  cases (show some ds' = some ds from q)
  exact ⟨vs, (f.ext e).sq, RepL.ext e _ r⟩
theorem lst_inj {K : PySem.W.Frag} {xs : List V} {ys : List V} (h : H a = some (.lst xs)) (h2 : SqL K H a ys) (nk : ∀ o, K.lookup a = some o → H a = none) : xs = ys := by
  rcases h2 with (h2 | ⟨o, h2⟩) | ⟨o, _, _, hk, _⟩
  · rw [h] at h2; cases h2; rfl
  · rw [h] at h2; cases h2
  · rw [nk o hk] at h; cases h
theorem ir_one_list {tb : Bool} (h : SrcL G oc ρ H s a) : IR tb G oc ρ H (.one s) (Itl G.K a) where
  stop := fun {ρ' H' S i} e sr q => by
    simp only [Itr.get, Option.map_eq_some_iff] at q
    obtain ⟨ds, q1, q2⟩ := q
    obtain ⟨vs, h1, r⟩ := h.at e sr q1
    exact ⟨vs, .inl (.inl h1), by rw [r.length]; exact List.getElem?_eq_none_iff.mp q2⟩
  go := fun {ρ' H' S i d} e sr q => by
    simp only [Itr.get, Option.map_eq_some_iff] at q
    obtain ⟨ds, q1, q2⟩ := q
    obtain ⟨vs, h1, r⟩ := h.at e sr q1
    obtain ⟨v, hv, rv⟩ := r.get q2
    refine ⟨⟨vs, v, .inl (.inl h1), hv⟩, fun x H2 ⟨e2, y⟩ => ?_⟩
    subst e2
    have z := y vs (.inl (.inl h1))
    rw [hv] at z; cases z
    exact ⟨Ext.refl, sr, .inl rv⟩
theorem ir_one_tup {tb : Bool} (h : SrcT G oc ρ H s a) : IR tb G oc ρ H (.one s) (Itt G.K a) where
  stop := fun {ρ' H' S i} e sr q => by
    simp only [Itr.get, Option.map_eq_some_iff] at q
    obtain ⟨ds, q1, q2⟩ := q
    obtain ⟨vs, h1, r⟩ := h.at e q1
    exact ⟨vs, h1, by rw [r.length]; exact List.getElem?_eq_none_iff.mp q2⟩
  go := fun {ρ' H' S i d} e sr q => by
    simp only [Itr.get, Option.map_eq_some_iff] at q
    obtain ⟨ds, q1, q2⟩ := q
    obtain ⟨vs, h1, r⟩ := h.at e q1
    obtain ⟨v, hv, rv⟩ := r.get q2
    refine ⟨⟨vs, v, h1, hv⟩, fun x H2 ⟨e2, y⟩ => ?_⟩
    subst e2
    have z := y vs h1
    rw [hv] at z; cases z
    exact ⟨Ext.refl, sr, .inl rv⟩
theorem ir_rng {tb : Bool} {lo : Int} {n : Nat} : IR tb G oc ρ H (.rng lo n) (L2.Itr lo n) where
  stop := fun {ρ' H' S i} e sr q => by
    simp only [Itr.get, Option.some.injEq] at q
    split at q
    · cases q
    · rename_i c; exact Nat.le_of_not_lt c
  go := fun {ρ' H' S i d} e sr q => by
    simp only [Itr.get, Option.some.injEq] at q
    split at q
    · rename_i c
      cases q
      refine ⟨c, fun x H2 ⟨e2, y⟩ => ?_⟩
      subst e2
      exact ⟨Ext.refl, sr, .inl (by rw [rep_int]; exact y)⟩
    · cases q
theorem ir_enum (h : SrcL G oc ρ H s a) : IR true G oc ρ H (.enum s) (Ite G.K a) where
  stop := fun {ρ' H' S i} e sr q => by
    simp only [Itr.get, Option.map_eq_some_iff] at q
    obtain ⟨ds, q1, q2⟩ := q
    obtain ⟨vs, h1, r⟩ := h.at e sr q1
    have q2 : ds[i]? = none := by
      cases z : ds[i]? with
      | none => rfl
      | some d => rw [z] at q2; cases q2
    exact ⟨vs, .inl (.inl h1), by rw [r.length]; exact List.getElem?_eq_none_iff.mp q2⟩
  go := fun {ρ' H' S i d} e sr q => by
    simp only [Itr.get, Option.map_eq_some_iff] at q
    obtain ⟨ds, q1, q2⟩ := q
    obtain ⟨vs, h1, r⟩ := h.at e sr q1
    cases z : ds[i]? with
    | none => rw [z] at q2; simp at q2
    | some d' =>
      rw [z] at q2
      have q2 : D.tup [D.int (i : Int), d'] = d := by simpa using q2
      subst q2
      obtain ⟨v, hv, rv⟩ := r.get z
      refine ⟨⟨vs, v, .inl (.inl h1), hv⟩, fun x H2 ⟨T, y, ex, hT, e2, hy⟩ => ?_⟩
      subst ex e2
      have z2 := hy vs (.inl (.inl h1))
      rw [hv] at z2; cases z2
      obtain ⟨e3, s3⟩ := new_fix (o := .tup [.int (i : Nat), v]) sr hT
      exact ⟨e3, s3, new_pair hT (.cons (rep_int.mpr rfl) (.cons rv .nil))⟩
theorem ir_enumT (h : SrcT G oc ρ H s a) : IR true G oc ρ H (.enum s) (IteT G.K a) where
  stop := fun {ρ' H' S i} e sr q => by
    simp only [Itr.get, Option.map_eq_some_iff] at q
    obtain ⟨ds, q1, q2⟩ := q
    obtain ⟨vs, h1, r⟩ := h.at e q1
    have q2 : ds[i]? = none := by
      cases z : ds[i]? with
      | none => rfl
      | some d => rw [z] at q2; cases q2
    exact ⟨vs, h1, by rw [r.length]; exact List.getElem?_eq_none_iff.mp q2⟩
  go := fun {ρ' H' S i d} e sr q => by
    simp only [Itr.get, Option.map_eq_some_iff] at q
    obtain ⟨ds, q1, q2⟩ := q
    obtain ⟨vs, h1, r⟩ := h.at e q1
    cases z : ds[i]? with
    | none => rw [z] at q2; simp at q2
    | some d' =>
      rw [z] at q2
      have q2 : D.tup [D.int (i : Int), d'] = d := by simpa using q2
      subst q2
      obtain ⟨v, hv, rv⟩ := r.get z
      refine ⟨⟨vs, v, h1, hv⟩, fun x H2 ⟨T, y, ex, hT, e2, hy⟩ => ?_⟩
      subst ex e2
      have z2 := hy vs h1
      rw [hv] at z2; cases z2
      obtain ⟨e3, s3⟩ := new_fix (o := .tup [.int (i : Nat), v]) sr hT
      exact ⟨e3, s3, new_pair hT (.cons (rep_int.mpr rfl) (.cons rv .nil))⟩
theorem zip_get {xs ys : List D} {o : Option D} (q : (match xs[i]?, ys[i]? with | some x, some y => some (D.tup [x, y]) | _, _ => none) = o) : (o = none ∧ (xs.length ≤ i ∨ ys.length ≤ i)) ∨ ∃ x y, xs[i]? = some x ∧ ys[i]? = some y ∧ o = some (.tup [x, y]) := by
  cases h1 : xs[i]? with
  | none => rw [h1] at q; exact .inl ⟨q.symm, .inl (List.getElem?_eq_none_iff.mp h1)⟩
  | some x => cases h2 : ys[i]? with
    | none => rw [h1, h2] at q; exact .inl ⟨q.symm, .inr (List.getElem?_eq_none_iff.mp h2)⟩
    | some y => rw [h1, h2] at q; exact .inr ⟨x, y, rfl, rfl, q.symm⟩
theorem zip_items {o : Option D} (q : Itr.get S i (.zip s t) = some o) : ∃ xs ys, s.items S = some xs ∧ t.items S = some ys ∧ (match xs[i]?, ys[i]? with | some x, some y => some (D.tup [x, y]) | _, _ => none) = o := by
  simp only [Itr.get] at q
  cases h1 : s.items S with
  | none => rw [h1] at q; cases q
  | some xs => cases h2 : t.items S with
    | none => rw [h1, h2] at q; cases q
    | some ys => rw [h1, h2] at q; exact ⟨xs, ys, rfl, rfl, Option.some.inj q⟩
theorem ir_zip (h : SrcL G oc ρ H s a) (h' : SrcL G oc ρ H t b) : IR true G oc ρ H (.zip s t) (Itz G.K a b) where
  stop := fun {ρ' H' S i} e sr q => by
    obtain ⟨xs, ys, q1, q2, q⟩ := zip_items q
    obtain ⟨vs, h1, r1⟩ := h.at e sr q1
    obtain ⟨ws, h2, r2⟩ := h'.at e sr q2
    rcases zip_get q with ⟨_, q⟩ | ⟨_, _, _, _, q⟩
    · exact ⟨vs, ws, .inl (.inl h1), .inl (.inl h2), by rw [r1.length, r2.length]; exact q⟩
    · cases q
  go := fun {ρ' H' S i d} e sr q => by
    obtain ⟨xs, ys, q1, q2, q⟩ := zip_items q
    obtain ⟨vs, h1, r1⟩ := h.at e sr q1
    obtain ⟨ws, h2, r2⟩ := h'.at e sr q2
    rcases zip_get q with ⟨q, _⟩ | ⟨d1, d2, g1, g2, q⟩
    · cases q
    · cases q
      obtain ⟨v, hv, rv⟩ := r1.get g1
      obtain ⟨w, hw, rw'⟩ := r2.get g2
      refine ⟨⟨vs, ws, v, w, .inl (.inl h1), .inl (.inl h2), hv, hw⟩, fun x H2 ⟨T, y, z, ex, hT, e2, hy, hz⟩ => ?_⟩
      subst ex e2
      have z1 := hy vs (.inl (.inl h1))
      rw [hv] at z1; cases z1
      have z2 := hz ws (.inl (.inl h2))
      rw [hw] at z2; cases z2
      obtain ⟨e3, s3⟩ := new_fix (o := .tup [v, w]) sr hT
      exact ⟨e3, s3, new_pair hT (.cons rv (.cons rw' .nil))⟩
theorem ir_zipT (h : SrcT G oc ρ H s a) (h' : SrcT G oc ρ H t b) : IR true G oc ρ H (.zip s t) (RZ.ItzT G.K a b) where
  stop := fun {ρ' H' S i} e sr q => by
    obtain ⟨xs, ys, q1, q2, q⟩ := zip_items q
    obtain ⟨vs, h1, r1⟩ := h.at e q1
    obtain ⟨ws, h2, r2⟩ := h'.at e q2
    rcases zip_get q with ⟨_, q⟩ | ⟨_, _, _, _, q⟩
    · exact ⟨vs, ws, h1, h2, by rw [r1.length, r2.length]; exact q⟩
    · cases q
  go := fun {ρ' H' S i d} e sr q => by
    obtain ⟨xs, ys, q1, q2, q⟩ := zip_items q
    obtain ⟨vs, h1, r1⟩ := h.at e q1
    obtain ⟨ws, h2, r2⟩ := h'.at e q2
    rcases zip_get q with ⟨q, _⟩ | ⟨d1, d2, g1, g2, q⟩
    · cases q
    · cases q
      obtain ⟨v, hv, rv⟩ := r1.get g1
      obtain ⟨w, hw, rw'⟩ := r2.get g2
      refine ⟨⟨vs, ws, v, w, h1, h2, hv, hw⟩, fun x H2 ⟨T, y, z, ex, hT, e2, hy, hz⟩ => ?_⟩
      subst ex e2
      have z1 := hy vs h1
      rw [hv] at z1; cases z1
      have z2 := hz ws h2
      rw [hw] at z2; cases z2
      obtain ⟨e3, s3⟩ := new_fix (o := .tup [v, w]) sr hT
      exact ⟨e3, s3, new_pair hT (.cons rv (.cons rw' .nil))⟩
/-- a value that may be walked -/
theorem src_of {d : D} {x : V} (r : Rep G oc ρ H d x) (h : srcD S d = some s) : (isTupD d = false ∧ ∃ a, x = .ref a ∧ SrcL G oc ρ H s a ∧ ∃ ds, S.items d = some ds) ∨ (isTupD d = true ∧ ∃ a, x = .ref a ∧ SrcT G oc ρ H s a) := by
  cases d with
  | tup ds =>
    cases h
    obtain ⟨a, vs, rfl, f, rr⟩ := rep_tup.mp r
    exact .inr ⟨rfl, a, rfl, ds, vs, rfl, f, rr⟩
  | lst ds =>
    cases h
    obtain ⟨a, vs, rfl, f, rr⟩ := rep_lst.mp r
    exact .inl ⟨rfl, a, rfl, ⟨.lst ds, fun S => rfl, r⟩, ds, rfl⟩
  | cell n =>
    simp only [srcD, Option.map_eq_some_iff] at h
    obtain ⟨ds, h1, rfl⟩ := h
    obtain ⟨a, rfl, ha⟩ := rep_cell.mp r
    exact .inl ⟨rfl, a, rfl, ⟨.cell n, fun S => rfl, r⟩, ds, h1⟩
  | _ => cases h
end
section
variable {X : Cx} {la : Nat → Arguments → Expr → Scope → List Str → Prop} {T : List NdefX.NTab} {oc : Nat → Option Addr} {W : WX} {ma mb : Env' → Sto → Res D} {a b tg iter : Expr} {pos : Pos}
def DI (G : GI) (oc : Nat → Option Addr) (X : Cx) (W : WX) (m : Env' → Sto → Res Itr) (tg iter : Expr) : Prop := PI X tg iter (tM G oc (fun ρ H J I => IR (tupT tg) G oc ρ H J I) W m)
theorem PI.conseq {t t' : TI} (h : PI X tg iter t) (w : ∀ σ H Q, t' σ H Q → t σ H Q) : PI X tg iter t' := ⟨fun pins s σ H Q I hw => h.run pins s σ H Q I (w _ _ _ hw)⟩
/-- a list or a tuple, walked -/
theorem pi_any {l : Expr} {tl : TE} (hl : PE X l tl) : PI X tg l (fun σ H R => tl σ H fun x H1 => (∃ a xs, x = .ref a ∧ SqL X.K H1 a xs ∧ R (Itl X.K a) H1) ∨ ∃ a xs, x = .ref a ∧ SqT X.K H1 a xs ∧ R (Itt X.K a) H1) := by
  refine ⟨fun pins s σ H R I h => ?_⟩
  refine thn (hl.run pins s σ H _ I h) fun v s1 ⟨x, H1, I1, r1, q1⟩ => ?_
  rcases q1 with ⟨a, xs, e, hq, q⟩ | ⟨a, xs, e, hq, q⟩
  · subst e
    cases r1
    obtain ⟨its, rv, p, hz⟩ := I1.list hq
    refine wpAny_pyIter_list p.isList ?_
    refine ⟨s1.heap.objs.size, [s1.heap.objs.size], _, _, H1, rfl, I1.kept (t' := s1.toks) fun b o e => Heap.get?_push_of_some _ e, turn_list a _, ⟨_, Heap.get?_push_size _ rfl, rfl, rfl⟩, fun b hb => ?_, q⟩
    have e : b = s1.heap.objs.size := by simpa using hb
    subst e
    exact I1.fpOk (Nat.le_refl _) (I1.hok.fresh (Nat.le_refl _))
  · subst e
    cases r1
    obtain ⟨its, rv, p, hz⟩ := I1.tuple hq
    refine wpAny_pyIter_tuple (show s1.heap.IsTuple a its.toArray from p) ?_
    refine ⟨s1.heap.objs.size, [s1.heap.objs.size], _, _, H1, rfl, I1.kept (t' := s1.toks) fun b o e => Heap.get?_push_of_some _ e, turn_tuple a _, ⟨_, Heap.get?_push_size _ rfl, rfl, rfl⟩, fun b hb => ?_, q⟩
    have e : b = s1.heap.objs.size := by simpa using hb
    subst e
    exact I1.fpOk (Nat.le_refl _) (I1.hok.fresh (Nat.le_refl _))
theorem di_over (ha : DE (gX X la T) oc X W ma a) : DI (gX X la T) oc X W (fun env S => (ma env S).bind fun x S => match srcD S x with | some s => .ok (.one s) S | none => .bad) tg a :=
  PI.conseq (pi_any ha) fun σ H Q ⟨env, ρ, S, er, sr, h⟩ => (bindR er sr h).mono fun x H1 ⟨d, ρ1, S1, e1, s1, r1, q1⟩ => by
    cases q : srcD S1 d with
    | none => rw [q] at q1; exact q1.elim
    | some s =>
      rw [q] at q1
      rcases src_of r1 q with ⟨_, a, rfl, hs, ds, hd⟩ | ⟨_, a, rfl, hs⟩
      · obtain ⟨a', vs, e2, ha, _⟩ := items_sq s1 r1 hd
        cases e2
        exact .inl ⟨a, vs, rfl, .inl (.inl ha), q1 _ _ _ Ext.refl s1 (ir_one_list hs)⟩
      · obtain ⟨ds, vs, e2, f, r⟩ := id hs
        exact .inr ⟨a, vs, rfl, f.sq, q1 _ _ _ Ext.refl s1 (ir_one_tup hs)⟩
theorem da_one (ha : DE (gX X la T) oc X W ma a) (ns : noStar a = true) : DA (gX X la T) oc X W (fun env S => (ma env S).bind fun x S => .ok [x] S) [a] := da_cons ha da_nil ns
theorem da_two (ha : DE (gX X la T) oc X W ma a) (hb : DE (gX X la T) oc X W mb b) (ns : noStar a = true) (ns2 : noStar b = true) : DA (gX X la T) oc X W (fun env S => (ma env S).bind fun x S => (mb env S).bind fun y S => .ok [x, y] S) [a, b] := by
  have h := da_cons ha (da_one hb ns2) ns
  simp only [Res.bind_assoc] at h
  exact h
theorem di_rng1 {x : Str} {p : Pos} (hx : x = ("range" : Str)) (hg : Gl X x) (hm : X.mg x = none) (ha : DE (gX X la T) oc X W ma a) (ns : noStar a = true) : DI (gX X la T) oc X W (fun env S => (ma env S).bind fun x S => match x with
    | .int j => if -(2 ^ 62) ≤ j ∧ j < 2 ^ 62 then .ok (.rng 0 j.toNat) S else .bad
    | _ => .bad) tg (.Call (.Name x p) [a] [] pos) := by
  subst hx
  refine PI.conseq (pi_range1 hg hm (da_one ha ns) (star_cons ns)) fun σ H Q ⟨env, ρ, S, er, sr, h⟩ => ?_
  refine tM.mono (Q := fun vs H1 => ∃ x ρ1 S1 d, vs = [x] ∧ Ext ρ H ρ1 H1 ∧ SR (gX X la T) ρ1 H1 S1 ∧ Rep (gX X la T) oc ρ1 H1 d x ∧ tG (gX X la T) (fun ρ H J I => IR (tupT tg) (gX X la T) oc ρ H J I) ((match d with
    | .int j => if -(2 ^ 62) ≤ j ∧ j < 2 ^ 62 then .ok (.rng 0 j.toNat) S1 else .bad
    | _ => .bad : Res Itr)) ρ1 H1 Q (fun c dd H' => W c dd σ H')) ?_ fun vs H1 ⟨x, ρ1, S1, d, ev, e1, s1, r1, q1⟩ => ?_
  · refine ⟨env, ρ, S, er, sr, ?_⟩
    dsimp only at h ⊢
    cases q : ma env S with
    | ok d S1 =>
      rw [q] at h
      intro v H' ρ' e s r
      obtain ⟨x, ev, r'⟩ := RepL.one_inv r
      exact ⟨x, ρ', S1, d, ev, e, s, r', tG.shift h e⟩
    | exc x S1 => rw [q] at h; exact h
    | bad => rw [q] at h; exact h
  · cases d with
    | int j =>
      dsimp only at q1
      split at q1
      · rename_i c
        exact ⟨j, by rw [ev, rep_int.mp r1], c.1, c.2, q1 _ _ _ Ext.refl s1 ir_rng⟩
      · exact q1.elim
    | _ => exact q1.elim
theorem di_rng2 {x : Str} {p : Pos} (hx : x = ("range" : Str)) (hg : Gl X x) (hm : X.mg x = none) (ha : DE (gX X la T) oc X W ma a) (hb : DE (gX X la T) oc X W mb b) (ns : noStar a = true) (ns2 : noStar b = true) : DI (gX X la T) oc X W (fun env S => (ma env S).bind fun x S => (mb env S).bind fun y S => match x, y with
    | .int i, .int j => if -(2 ^ 62) ≤ i ∧ i < 2 ^ 62 ∧ -(2 ^ 62) ≤ j ∧ j < 2 ^ 62 then .ok (.rng i (j - i).toNat) S else .bad
    | _, _ => .bad) tg (.Call (.Name x p) [a, b] [] pos) := by
  subst hx
  refine PI.conseq (pi_range2 hg hm (da_two ha hb ns ns2) (by rw [star_cons ns, star_cons ns2]; rfl) (by rw [star_cons ns2]; rfl)) fun σ H Q ⟨env, ρ, S, er, sr, h⟩ => ?_
  refine tM.mono (Q := fun vs H1 => ∃ x y ρ1 S1 d e, vs = [x, y] ∧ Ext ρ H ρ1 H1 ∧ SR (gX X la T) ρ1 H1 S1 ∧ Rep (gX X la T) oc ρ1 H1 d x ∧ Rep (gX X la T) oc ρ1 H1 e y ∧ tG (gX X la T) (fun ρ H J I => IR (tupT tg) (gX X la T) oc ρ H J I) ((match d, e with
    | .int i, .int j => if -(2 ^ 62) ≤ i ∧ i < 2 ^ 62 ∧ -(2 ^ 62) ≤ j ∧ j < 2 ^ 62 then .ok (.rng i (j - i).toNat) S1 else .bad
    | _, _ => .bad : Res Itr)) ρ1 H1 Q (fun c dd H' => W c dd σ H')) ?_ fun vs H1 ⟨x, y, ρ1, S1, d, e, ev, e1, s1, r1, r2, q1⟩ => ?_
  · refine ⟨env, ρ, S, er, sr, ?_⟩
    dsimp only at h ⊢
    rw [← Res.bind_ok (Res.bind _ _)]
    cases q : ma env S with
    | ok d S1 =>
      rw [q] at h
      simp only [Res.bind] at h ⊢
      cases q2 : mb env S1 with
      | ok e S2 =>
        rw [q2] at h
        intro v H' ρ' ee s r
        obtain ⟨x, y, rfl, r1, r2⟩ := RepL.two_inv r
        exact ⟨x, y, ρ', S2, d, e, rfl, ee, s, r1, r2, tG.shift h ee⟩
      | exc x S1 => rw [q2] at h; exact h
      | bad => rw [q2] at h; exact h
    | exc x S1 => rw [q] at h; exact h
    | bad => rw [q] at h; exact h
  · cases d with
    | int i => cases e with
      | int j =>
        dsimp only at q1
        split at q1
        · rename_i c
          exact ⟨i, j, by rw [ev, rep_int.mp r1, rep_int.mp r2], c, q1 _ _ _ Ext.refl s1 ir_rng⟩
        · exact q1.elim
      | _ => exact q1.elim
    | _ => exact q1.elim
theorem di_enum {x : Str} {p tp : Pos} {elts : List Expr} {kk : Nat} (hx : x = ("enumerate" : Str)) (hg : Gl X x) (hm : X.mg x = none) (ha : DE (gX X la T) oc X W ma a) (ns : noStar a = true) : DI (gX X la T) oc X W (fun env S => (ma env S).bind fun x S => match srcD S x with
    | some s => .ok (.enum s) S
    | none => .bad) (.Tuple elts kk tp) (.Call (.Name x p) [a] [] pos) := by
  subst hx
  refine PI.conseq (pi_enumA hg hm (da_one ha ns) (star_cons ns)) fun σ H Q ⟨env, ρ, S, er, sr, h⟩ => ?_
  refine tM.mono (Q := fun vs H1 => ∃ x ρ1 S1 d, vs = [x] ∧ Ext ρ H ρ1 H1 ∧ SR (gX X la T) ρ1 H1 S1 ∧ Rep (gX X la T) oc ρ1 H1 d x ∧ tG (gX X la T) (fun ρ H J I => IR true (gX X la T) oc ρ H J I) ((match srcD S1 d with
    | some s => .ok (.enum s) S1
    | none => .bad : Res Itr)) ρ1 H1 Q (fun c dd H' => W c dd σ H')) ?_ fun vs H1 ⟨x, ρ1, S1, d, ev, e1, s1, r1, q1⟩ => ?_
  · refine ⟨env, ρ, S, er, sr, ?_⟩
    dsimp only at h ⊢
    cases q : ma env S with
    | ok d S1 =>
      rw [q] at h
      intro v H' ρ' e s r
      obtain ⟨x, ev, r'⟩ := RepL.one_inv r
      exact ⟨x, ρ', S1, d, ev, e, s, r', tG.shift h e⟩
    | exc x S1 => rw [q] at h; exact h
    | bad => rw [q] at h; exact h
  · cases q : srcD S1 d with
    | none => rw [q] at q1; exact q1.elim
    | some s =>
      rw [q] at q1
      rcases src_of r1 q with ⟨_, a, rfl, hs, ds, hd⟩ | ⟨_, a, rfl, hs⟩
      · obtain ⟨a', vs, e2, ha, _⟩ := items_sq s1 r1 hd
        cases e2
        exact ⟨a, vs, ev, .inl ⟨.inl (.inl ha), q1 _ _ _ Ext.refl s1 (ir_enum hs)⟩⟩
      · obtain ⟨_, vs, _, f, _⟩ := id hs
        exact ⟨a, vs, ev, .inr ⟨f.sq, q1 _ _ _ Ext.refl s1 (ir_enumT hs)⟩⟩
theorem di_zip {x : Str} {p tp : Pos} {elts : List Expr} {kk : Nat} (hx : x = ("zip" : Str)) (hg : Gl X x) (hm : X.mg x = none) (ha : DE (gX X la T) oc X W ma a) (hb : DE (gX X la T) oc X W mb b) (ns : noStar a = true) (ns2 : noStar b = true) : DI (gX X la T) oc X W (fun env S => (ma env S).bind fun x S => (mb env S).bind fun y S => if isTupD x == isTupD y then (match srcD S x, srcD S y with
    | some s, some t => .ok (.zip s t) S
    | _, _ => .bad) else .bad) (.Tuple elts kk tp) (.Call (.Name x p) [a, b] [] pos) := by
  subst hx
  refine PI.conseq (RZ.pi_zipA hg hm (da_two ha hb ns ns2) (star_cons ns) (star_any (by simp [ns2]))) fun σ H Q ⟨env, ρ, S, er, sr, h⟩ => ?_
  refine tM.mono (Q := fun vs H1 => ∃ x y ρ1 S1 d e, vs = [x, y] ∧ Ext ρ H ρ1 H1 ∧ SR (gX X la T) ρ1 H1 S1 ∧ Rep (gX X la T) oc ρ1 H1 d x ∧ Rep (gX X la T) oc ρ1 H1 e y ∧ tG (gX X la T) (fun ρ H J I => IR true (gX X la T) oc ρ H J I) ((if isTupD d == isTupD e then (match srcD S1 d, srcD S1 e with
    | some s, some t => .ok (.zip s t) S1
    | _, _ => .bad) else .bad : Res Itr)) ρ1 H1 Q (fun c dd H' => W c dd σ H')) ?_ fun vs H1 ⟨x, y, ρ1, S1, d, e, ev, e1, s1, r1, r2, q1⟩ => ?_
  · refine ⟨env, ρ, S, er, sr, ?_⟩
    dsimp only at h ⊢
    cases q : ma env S with
    | ok d S1 =>
      rw [q] at h
      simp only [Res.bind] at h ⊢
      cases q2 : mb env S1 with
      | ok e S2 =>
        rw [q2] at h
        intro v H' ρ' ee s r
        obtain ⟨x, y, rfl, r1, r2⟩ := RepL.two_inv r
        exact ⟨x, y, ρ', S2, d, e, rfl, ee, s, r1, r2, tG.shift h ee⟩
      | exc x S1 => rw [q2] at h; exact h
      | bad => rw [q2] at h; exact h
    | exc x S1 => rw [q] at h; exact h
    | bad => rw [q] at h; exact h
  · by_cases c : (isTupD d == isTupD e) = true
    · rw [if_pos c] at q1
      cases q : srcD S1 d with
      | none => rw [q] at q1; exact q1.elim
      | some s => cases q2 : srcD S1 e with
        | none => rw [q, q2] at q1; exact q1.elim
        | some t =>
          rw [q, q2] at q1
          have c := beq_iff_eq.mp c
          rcases src_of r1 q with ⟨z, a, rfl, hs, ds, hd⟩ | ⟨z, a, rfl, hs⟩ <;> rcases src_of r2 q2 with ⟨z', b, rfl, hs', ds', hd'⟩ | ⟨z', b, rfl, hs'⟩
          · obtain ⟨a', vs, e2, ha, _⟩ := items_sq s1 r1 hd
            cases e2
            obtain ⟨b', ws, e2, hb, _⟩ := items_sq s1 r2 hd'
            cases e2
            exact ⟨a, b, vs, ws, ev, .inl ⟨.inl (.inl ha), .inl (.inl hb), q1 _ _ _ Ext.refl s1 (ir_zip hs hs')⟩⟩
          · rw [z, z'] at c; cases c
          · rw [z, z'] at c; cases c
          · obtain ⟨_, vs, _, f, _⟩ := id hs
            obtain ⟨_, ws, _, f', _⟩ := id hs'
            exact ⟨a, b, vs, ws, ev, .inr ⟨f.sq, f'.sq, q1 _ _ _ Ext.refl s1 (ir_zipT hs hs')⟩⟩
    · rw [if_neg c] at q1; exact q1.elim
end
end LT
set_option Elab.async false
set_option linter.all false
set_option maxRecDepth 100000
set_option maxHeartbeats 4000000
/-! Own layer, part E5: targets, comprehensions, texts put together. -/
namespace LT
open PySem PySem.Spec PyProof.Rows L2
abbrev W0 : WX := fun _ _ _ _ => False
/-! ### forgetting slots -/
theorem wipe_get (σ : L2.St) : ∀ (vs : List Nat) (j : Nat), (wipe σ vs)[j]? = if j ∈ vs then (σ[j]?).map (fun _ => (none : Option V)) else σ[j]?
  | [], j => by simp [wipe]
  | v :: vs, j => by
    unfold wipe
    by_cases h : v = j
    · subst h
      rw [if_pos List.mem_cons_self]
      by_cases hl : v < σ.length
      · rw [List.getElem?_set_self (by rw [wipe_length]; exact hl)]
        simp [hl]
      · rw [List.getElem?_eq_none (by rw [List.length_set, wipe_length]; omega), List.getElem?_eq_none (by omega)]
        rfl
    · rw [List.getElem?_set_ne h, wipe_get σ vs j]
      by_cases hj : j ∈ vs
      · rw [if_pos hj, if_pos (List.mem_cons_of_mem _ hj)]
      · rw [if_neg hj, if_neg (by simp only [List.mem_cons, not_or]; exact ⟨fun e => h e.symm, hj⟩)]
theorem wipe_set {σ : L2.St} {vs : List Nat} {i : Nat} {x : Option V} (h : i ∈ vs) : wipe (σ.set i x) vs = wipe σ vs := by
  apply List.ext_getElem?
  intro j
  rw [wipe_get, wipe_get]
  by_cases hj : j ∈ vs
  · rw [if_pos hj, if_pos hj]
    by_cases e : i = j
    · subst e
      by_cases hl : i < σ.length
      · rw [List.getElem?_set_self hl]; simp [hl]
      · rw [List.getElem?_eq_none (by rw [List.length_set]; omega), List.getElem?_eq_none (by omega)]
    · rw [List.getElem?_set_ne e]
  · rw [if_neg hj, if_neg hj, List.getElem?_set_ne (show i ≠ j from fun e => hj (by rw [← e]; exact h))]
theorem wipe_wipe {σ : L2.St} {vs : List Nat} : wipe (wipe σ vs) vs = wipe σ vs := by
  apply List.ext_getElem?
  intro j
  rw [wipe_get, wipe_get]
  by_cases hj : j ∈ vs
  · rw [if_pos hj, if_pos hj]
    cases σ[j]? <;> rfl
  · rw [if_neg hj, if_neg hj]
theorem ER.wipe {G : GI} {oc : Nat → Option Addr} {ρ : Pl} {H : Hp} {env : Env'} {σ : L2.St} (h : ER G oc ρ H env σ) : ∀ vs : List Nat, ER G oc ρ H (wipeE env vs) (L2.wipe σ vs)
  | [] => h
  | v :: vs => (ER.wipe h vs).unset v
/-! ### targets -/
def IT.is : IT → List Nat
  | .name i => [i]
  | .tup is => is
def gNames : List Nat → TGs
  | [] => gNil
  | i :: is => gCons (gName i) (gNames is)
def gIT (K : PySem.W.Frag) : IT → TG
  | .name i => gName i
  | .tup is => gTup K is.length (gNames is)
section
variable {G : GI} {oc : Nat → Option Addr} {ρ : Pl} {H : Hp} {env env2 : Env'} {σ : L2.St} {d : D} {x : V} {Q : L2.St → Hp → Prop}
theorem names_run : ∀ {is : List Nat} {ds : List D} {vs : List V} {env env2 : Env'} {σ : L2.St}, setAll is ds env = some env2 → ER G oc ρ H env σ → RepL G oc ρ H ds vs →
    (∀ σ2, ER G oc ρ H env2 σ2 → (∀ ws : List Nat, (∀ i ∈ is, i ∈ ws) → wipe σ2 ws = wipe σ ws) → Q σ2 H) → gNames is vs σ H Q
  | [], [], vs, env, env2, σ, e, er, r, q => by
    cases e
    exact ⟨r.nil_inv, q σ er fun _ _ => rfl⟩
  | i :: is, d :: ds, vs, env, env2, σ, e, er, r, q => by
    obtain ⟨v, w, rfl, r1, r2⟩ := r.cons_inv
    refine ⟨v, w, rfl, ?_⟩
    show gNames is w (σ.set i (some v)) H Q
    refine names_run (by simpa only [setAll] using e) (er.set i r1) r2 fun σ2 er2 hw => q σ2 er2 fun ws hws => ?_
    rw [hw ws fun j hj => hws j (List.mem_cons_of_mem _ hj), wipe_set (hws i List.mem_cons_self)]
  | [], _ :: _, _, _, _, _, e, _, _, _ => by simp [setAll] at e
  | _ :: _, [], _, _, _, _, e, _, _, _ => by simp [setAll] at e
theorem tg_run {t : IT} (e : bindT t d env = some env2) (er : ER G oc ρ H env σ) {tb : Bool} (r : RepW tb G oc ρ H d x) (hb : tb = true → ∃ is, t = .tup is)
    (q : ∀ σ2, ER G oc ρ H env2 σ2 → (∀ ws : List Nat, (∀ i ∈ t.is, i ∈ ws) → wipe σ2 ws = wipe σ ws) → Q σ2 H) : gIT G.K t x σ H Q := by
  cases t with
  | name i =>
    simp only [bindT, Option.some.injEq] at e
    subst e
    have r : Rep G oc ρ H d x := r.elim id fun z => by obtain ⟨is, e⟩ := hb z.1; cases e
    exact q _ (er.set i r) fun ws hws => wipe_set (hws i (by simp [IT.is]))
  | tup is =>
    cases d with
    | tup ds =>
      simp only [bindT] at e
      split at e
      · rename_i hl
        obtain ⟨a, vs, rfl, f, rr⟩ : ∃ a vs, x = .ref a ∧ SqT G.K H a vs ∧ RepL G oc ρ H ds vs := by
          rcases r with r | ⟨_, ds', a, vs, e, h1, h2, h3⟩
          · obtain ⟨a, vs, e, f, rr⟩ := rep_tup.mp r
            exact ⟨a, vs, e, f.sq, rr⟩
          · cases e; exact ⟨a, vs, h1, h2, h3⟩
        exact ⟨a, vs, rfl, f, by rw [rr.length, hl], names_run e er rr fun σ2 er2 hw => q σ2 er2 hw⟩
      · cases e
    | _ => simp [bindT] at e
end
/-! ### the list that is being made -/
section
variable {G : GI} {oc oc' : Nat → Option Addr} {ρ ρ1 : Pl} {H H1 : Hp} {S S1 : Sto} {Dp : Addr}
theorem ext_addV (h : H Dp = none) : Ext0 ρ H ⟨ρ.c, Dp :: ρ.v⟩ (upd H Dp (.lst [])) where
  pre := List.prefix_refl _
  keep := fun b o e _ _ => upd_keep h b o e
  gone := gone_of (upd_keep h)
  new := fun b m n => by
    rcases m with m | m
    · exact absurd (Or.inl m) n
    · rcases List.mem_cons.mp m with e | m
      · rw [e]; exact h
      · exact absurd (Or.inr m) n
theorem ext_subV : Ext0 ⟨ρ.c, Dp :: ρ.v⟩ H ρ H where
  pre := List.prefix_refl _
  keep := fun b o e _ _ => e
  gone := fun _ h => h
  new := fun b m n => by
    rcases m with m | m
    · exact absurd (Or.inl m) n
    · exact absurd (Or.inr (List.mem_cons_of_mem _ m)) n
/-- a listed place written, which nothing points at -/
theorem ext_setV {o : HO} (h : Dp ∈ ρ) (hs : ∃ u, H Dp = some u) : Ext0 ρ H ρ (upd H Dp o) where
  pre := List.prefix_refl _
  keep := fun b u e n _ => by rw [upd_ne (fun z => n (by rw [z]; exact h))]; exact e
  gone := fun b e => by
    by_cases hb : b = Dp
    · rw [hb, upd_same] at e; cases e
    · rw [upd_ne hb] at e; exact e
  new := fun b m n => absurd m n
theorem SR.mapV {ρ' : Pl} {H' : Hp} (s : SR G ρ H S) (e : Ext0 ρ H ρ' H') (hc : ρ'.c = ρ.c) (hk : ∀ a ∈ ρ.c, H' a = H a) (hv : ∀ a ∈ ρ'.v, (∃ xs, H' a = some (.lst xs)) ∧ a ∉ ρ.c) (ht : NdefX.TabsN G.T H') : SR G ρ' H' S where
  len := by rw [hc]; exact s.len
  nd := by rw [hc]; exact s.nd
  at_ := fun i o a h1 h2 => by
    rw [hc] at h2
    exact (s.at_ i o a h1 h2).ext e (hk a (List.mem_of_getElem? h2))
  vol := fun a m => by rw [hc]; exact hv a m
  tab := ht
theorem sr_addV (s : SR G ρ H S) (h : H Dp = none) : SR G ⟨ρ.c, Dp :: ρ.v⟩ (upd H Dp (.lst [])) S := by
  have np := s.not_mem h
  refine s.mapV (ext_addV h) rfl (fun a m => upd_ne fun z => np (.inl (z ▸ m))) (fun a m => ?_) (s.tab.ext (upd_keep h))
  rcases List.mem_cons.mp m with e | m
  · subst e
    exact ⟨⟨[], upd_same⟩, fun z => np (.inl z)⟩
  · exact ⟨(s.vol a m).1.imp fun xs e => upd_keep h a _ e, (s.vol a m).2⟩
theorem sr_subV (s : SR G ⟨ρ.c, Dp :: ρ.v⟩ H S) : SR G ρ H S :=
  s.mapV ext_subV rfl (fun _ _ => rfl) (fun a m => s.vol a (List.mem_cons_of_mem _ m)) s.tab
theorem sr_setV {o : HO} (s : SR G ρ H S) (m : Dp ∈ ρ.v) (ho : ∃ xs, H Dp = some (.lst xs)) (ho2 : ∃ xs, o = .lst xs) : SR G ρ (upd H Dp o) S := by
  obtain ⟨xs, ho⟩ := ho
  obtain ⟨ys, rfl⟩ := ho2
  refine s.mapV (ext_setV (.inr m) ⟨_, ho⟩) rfl (fun a ma => upd_ne fun z => (s.vol Dp m).2 (z ▸ ma)) (fun a ma => ⟨?_, (s.vol a ma).2⟩) fun p hp => ?_
  · by_cases hb : a = Dp
    · exact ⟨ys, by rw [hb, upd_same]⟩
    · rw [upd_ne hb]; exact (s.vol a ma).1
  · obtain ⟨ps, h1, h2, h3⟩ := s.tab p hp
    refine ⟨ps, ?_, h2, fun pos cv hc => ?_⟩
    · rw [upd_ne (fun z => by rw [z, ho] at h1; cases h1)]; exact h1
    · obtain ⟨c, e1, e2⟩ := h3 pos cv hc
      refine ⟨c, e1, ?_⟩
      rw [upd_ne (fun z => by rw [z, ho] at e2; unfold LamX.CodeO at e2; cases e2)]; exact e2
mutual
/-- what stands in no frame stands in any -/
theorem Rep.of0 : ∀ (d : D) {v : V}, Rep G oc0 ρ H d v → Rep G oc ρ H d v
  | .non, _, h => by simpa only [Rep] using h
  | .bl b, _, h => by simpa only [Rep] using h
  | .int i, _, h => by simpa only [Rep] using h
  | .str x, _, h => by simpa only [Rep] using h
  | .tup ds, _, h => by
    simp only [Rep] at h ⊢
    obtain ⟨a, vs, h1, h2, h3⟩ := h
    exact ⟨a, vs, h1, h2, RepL.of0 ds h3⟩
  | .lst ds, _, h => by
    simp only [Rep] at h ⊢
    obtain ⟨a, vs, h1, h2, h3⟩ := h
    exact ⟨a, vs, h1, h2, RepL.of0 ds h3⟩
  | .cell n, _, h => by simpa only [Rep] using h
  | .scr n, _, h => by simpa only [Rep] using h
  | .fn x, _, h => by simpa only [Rep] using h
  | .own k caps, _, h => by
    simp only [Rep] at h ⊢
    obtain ⟨f, c', q, params, body, scope, cl, fr, h1, h2, h3, h4⟩ := h
    refine ⟨f, c', q, params, body, scope, cl, fr, h1, h2, h3, fun j y i a b => ?_⟩
    obtain ⟨c, _, z⟩ := h4 j y i a b
    cases z
  | .clo k caps, _, h => by
    simp only [Rep] at h ⊢
    obtain ⟨f, c', q, params, body, scope, cl, fr, vs, h1, h2, hc, h3, h4⟩ := h
    exact ⟨f, c', q, params, body, scope, cl, fr, vs, h1, h2, hc, RepL.clean caps hc h3, h4⟩
theorem RepL.of0 : ∀ (ds : List D) {vs : List V}, RepL G oc0 ρ H ds vs → RepL G oc ρ H ds vs
  | [], _, h => by simpa only [RepL] using h
  | d :: ds, _, h => by
    simp only [RepL] at h ⊢
    obtain ⟨v, r, h1, h2, h3⟩ := h
    exact ⟨v, r, h1, Rep.of0 d h2, RepL.of0 ds h3⟩
end
theorem er_envC {F : Fns} {env : Env'} {σ : L2.St} (hoc : F.lm = false → oc = oc0) (er : ER G oc ρ H env σ) : ER G oc0 ρ H (envC F env) σ := by
  unfold envC
  cases h : F.lm with
  | false => rw [← hoc h]; exact er
  | true =>
    simp only [if_true]
    refine ⟨by rw [List.length_map]; exact er.len, fun i d q => ?_⟩
    rw [List.getElem?_map] at q
    cases z : env[i]? with
    | none => rw [z] at q; cases q
    | some o => cases o with
      | none => rw [z] at q; cases q
      | some d' =>
        rw [z] at q
        have q : (if d'.noOwn = true then some d' else none) = some d := Option.some.inj q
        split at q
        · rename_i c
          cases q
          obtain ⟨v, h1, h2⟩ := er.at_ i _ z
          exact ⟨v, h1, Rep.noOwn _ c h2⟩
        · cases q
/-- the last state, the list no longer being made -/
theorem lst_end {acc : List D} {xs : List V} (e : Ext0 ρ1 H1 ρ H) (hv : ρ.v = Dp :: ρ1.v) (s1 : SR G ρ1 H1 S1) (s : SR G ρ H S) (hD : H1 Dp = none) (ha : H Dp = some (.lst xs)) (r : RepL G oc0 ρ H acc xs) (hk : ∀ b ∈ ρ1.v, ∀ o, H1 b = some o → (∀ ps, o ≠ .tbl ps) → H b = some o) :
    Ext ρ1 H1 ⟨ρ.c, ρ1.v⟩ H ∧ SR G ⟨ρ.c, ρ1.v⟩ H S ∧ Rep G oc ⟨ρ.c, ρ1.v⟩ H (.lst acc) (.ref Dp) := by
  obtain ⟨c, v⟩ := ρ
  cases hv
  have nv : Dp ∉ ρ1.v := fun m => by
    obtain ⟨xs, z⟩ := (s1.vol Dp m).1
    rw [hD] at z; cases z
  refine ⟨⟨⟨e.pre, e.keep, e.gone, fun b m n => e.new b (m.imp id (List.mem_cons_of_mem _)) n⟩, rfl, hk⟩, sr_subV (ρ := ⟨c, ρ1.v⟩) s, ?_⟩
  rw [rep_lst]
  exact ⟨Dp, xs, rfl, ⟨ha, fun m => m.elim (fun m => (s.vol Dp List.mem_cons_self).2 m) nv⟩, RepL.of0 acc (RepL.ext (ext_subV (ρ := ⟨c, ρ1.v⟩)) acc r)⟩
theorem cell_end {acc : List D} {xs : List V} (e : Ext0 ρ1 H1 ρ H) (hv : ρ.v = Dp :: ρ1.v) (s1 : SR G ρ1 H1 S1) (s : SR G ρ H S) (hD : H1 Dp = none) (ha : H Dp = some (.lst xs)) (r : RepL G oc0 ρ H acc xs) (hk : ∀ b ∈ ρ1.v, ∀ o, H1 b = some o → (∀ ps, o ≠ .tbl ps) → H b = some o) (cl : D.cleans acc = true) :
    Ext ρ1 H1 ⟨ρ.c ++ [Dp], ρ1.v⟩ H ∧ SR G ⟨ρ.c ++ [Dp], ρ1.v⟩ H (S ++ [.lst acc]) ∧ Rep G oc ⟨ρ.c ++ [Dp], ρ1.v⟩ H (.cell S.length) (.ref Dp) := by
  obtain ⟨c, v⟩ := ρ
  cases hv
  have nv : Dp ∉ ρ1.v := fun m => by
    obtain ⟨xs, z⟩ := (s1.vol Dp m).1
    rw [hD] at z; cases z
  have nc : Dp ∉ c := (s.vol Dp List.mem_cons_self).2
  have hlen : c.length = S.length := s.len
  have mv : Ext0 ⟨c, Dp :: ρ1.v⟩ H ⟨c ++ [Dp], ρ1.v⟩ H := ⟨List.prefix_append _ _, fun b o e _ _ => e, fun _ h => h, fun b m n => by
    refine absurd ?_ n
    rcases m with m | m
    · rcases List.mem_append.mp m with m | m
      · exact .inl m
      · exact .inr (by rw [List.mem_singleton.mp m]; exact List.mem_cons_self)
    · exact .inr (List.mem_cons_of_mem _ m)⟩
  refine ⟨⟨⟨e.pre.trans (List.prefix_append _ _), e.keep, e.gone, fun b m n => e.new b ?_ n⟩, rfl, hk⟩, ⟨by simp [hlen], ?_, fun i o a h1 h2 => ?_, fun a m => ⟨(s.vol a (List.mem_cons_of_mem _ m)).1, fun z => ?_⟩, s.tab⟩, ?_⟩
  · rcases m with m | m
    · rcases List.mem_append.mp m with m | m
      · exact .inl m
      · exact .inr (by rw [List.mem_singleton.mp m]; exact List.mem_cons_self)
    · exact .inr (List.mem_cons_of_mem _ m)
  · show (c ++ [Dp]).Nodup
    rw [List.nodup_append]
    exact ⟨s.nd, by simp, fun a m b mb => by
      rw [List.mem_singleton.mp mb]
      rintro rfl
      exact nc m⟩
  · by_cases hi : i < S.length
    · rw [List.getElem?_append_left hi] at h1
      have h2 : (c ++ [Dp])[i]? = some a := h2
      rw [List.getElem?_append_left (by rw [hlen]; exact hi)] at h2
      exact (s.at_ i o a h1 h2).ext mv rfl
    · have hi2 : i = S.length := by
        have := (List.getElem?_eq_some_iff.mp h1).1
        simp at this
        omega
      subst hi2
      simp at h1
      have h2 : (c ++ [Dp])[S.length]? = some a := h2
      rw [← hlen] at h2
      simp at h2
      subst h1 h2
      exact ⟨xs, ha, cl, RepL.ext mv acc (RepL.cleanL cl r)⟩
  · rcases List.mem_append.mp z with z | z
    · exact (s.vol a (List.mem_cons_of_mem _ m)).2 z
    · rw [List.mem_singleton.mp z] at m
      exact nv m
  · rw [rep_cell]
    exact ⟨Dp, rfl, by show (c ++ [Dp])[S.length]? = some Dp; rw [← hlen]; simp⟩
end
end LT
set_option Elab.async false
set_option linter.all false
set_option maxRecDepth 100000
set_option maxHeartbeats 4000000
/-! Own layer, part E6: comprehensions. -/
namespace LT
open PySem PySem.Spec PyProof.Rows L2
theorem compGo_len {it : Itr} {bnd : D → Option Env'} {tst : Env' → Sto → Res Bool} {elt : Env' → Sto → Res D} : ∀ {f i : Nat} {acc xs : List D} {S S' : Sto}, compGo it bnd tst elt f i acc S = .ok xs S' → acc.length ≤ xs.length
  | 0, i, acc, xs, S, S', h => by cases h
  | f + 1, i, acc, xs, S, S', h => by
    unfold compGo at h
    split at h
    · simp only [Res.ok.injEq] at h
      rw [h.1]; exact Nat.le_refl _
    · split at h
      · cases q : tst _ S with
        | ok b S1 =>
          rw [q] at h
          simp only [Res.bind] at h
          split at h
          · cases q2 : elt _ S1 with
            | ok y S2 =>
              rw [q2] at h
              have := compGo_len h
              rw [List.length_append] at this
              simp at this
              omega
            | exc x S2 => rw [q2] at h; cases h
            | bad => rw [q2] at h; cases h
          · exact compGo_len h
        | exc x S1 => rw [q] at h; cases h
        | bad => rw [q] at h; cases h
      · cases h
    · cases h
/-- what a comprehension ends with -/
def endC (m : Bool) (xs : List D) (S : Sto) : Res D := if xs.length ≤ lineN then (if m then (if D.cleans xs then .ok (.cell S.length) (S ++ [.lst xs]) else .bad) else .ok (.lst xs) S) else .bad
section
variable {X : Cx} {la : Nat → Arguments → Expr → Scope → List Str → Prop} {T : List NdefX.NTab} {oc : Nat → Option Addr} {W : WX} {F : Fns} {mi : Env' → Sto → Res Itr} {mt : Env' → Sto → Res Bool} {me : Env' → Sto → Res D} {m : Bool} {tgI : IT} {own : List Nat}
/-- the list comes true -/
theorem comp_core {tb : Bool} (htb : tb = true → ∃ is, tgI = .tup is) (hoc : F.lm = false → oc = oc0) (hown : ∀ i ∈ tgI.is, i ∈ own) {σ : L2.St} {H : Hp} {Q : VK}
    (h : tM (gX X la T) oc (RD (gX X la T) oc) W (fun env S => (mi env S).bind fun J S => (compGo J (bndC F tgI own env) (fun e S => (mt e S).calm) (fun e S => (me e S).calm) (J.count S + 1) 0 [] S).bind fun xs S => endC m xs S) σ H Q) :
    tLc (tM (gX X la T) oc (fun ρ H J I => IR tb (gX X la T) oc ρ H J I) W mi) (gIT X.K tgI) (tM (gX X la T) oc0 RB W0 mt) (tM (gX X la T) oc0 (RD (gX X la T) oc0) W0 me) own σ H Q := by
  obtain ⟨env, ρ, S, er, sr, h⟩ := h
  refine (bindR er sr h).mono fun I H1 ⟨J, ρ1, S1, e1, s1, ir, q1⟩ Dp hD => ?_
  have er0 : ER (gX X la T) oc0 ρ1 H1 (wipeE (envC F env) own) (wipe σ own) := ((er_envC hoc er).ext e1.toExt0).wipe own
  generalize hE : (fun c dd H' => W c dd σ H') = E at q1
  generalize hfu : J.count S1 + 1 = fu at q1
  -- the invariant
  refine ⟨fun i f H2 => ∃ ρ2 S2 acc xs, Ext0 ρ1 H1 ρ2 H2 ∧ ρ2.v = Dp :: ρ1.v ∧ SR (gX X la T) ρ2 H2 S2 ∧ (∀ b ∈ ρ1.v, ∀ o, H1 b = some o → (∀ ps, o ≠ .tbl ps) → H2 b = some o) ∧ H2 Dp = some (.lst xs) ∧ RepL (gX X la T) oc0 ρ2 H2 acc xs ∧
    tG (gX X la T) (RD (gX X la T) oc) ((compGo J (bndC F tgI own env) (fun e S => (mt e S).calm) (fun e S => (me e S).calm) f i acc S2).bind fun xs S => endC m xs S) ρ1 H1 Q E, ?_, ?_⟩
  · exact ⟨fu, ⟨ρ1.c, Dp :: ρ1.v⟩, S1, [], [], ext_addV hD, rfl, sr_addV s1 hD, fun b _ o e _ => upd_keep hD b o e, upd_same, .nil, q1⟩
  · rintro i f H2 ⟨ρ2, S2, acc, xs, e2, v2, s2, k2, hl, r2, q2⟩
    cases f with
    | zero => exact q2.elim
    | succ f =>
      unfold compGo at q2
      cases g : J.get S2 i with
      | none => rw [g] at q2; exact q2.elim
      | some o => cases o with
        | none =>
          rw [g] at q2
          refine .inl ⟨ir.stop e2 s2 g, ?_⟩
          have q2 : tG (gX X la T) (RD (gX X la T) oc) (endC m acc S2) ρ1 H1 Q E := q2
          unfold endC at q2
          split at q2
          · cases m with
            | false =>
              obtain ⟨a1, a2, a3⟩ := lst_end (oc := oc) e2 v2 s1 s2 hD hl r2 k2
              exact q2 _ _ _ a1 a2 a3
            | true =>
              simp only [if_true] at q2
              split at q2
              · rename_i cl
                obtain ⟨a1, a2, a3⟩ := cell_end (oc := oc) e2 v2 s1 s2 hD hl r2 k2 cl
                exact q2 _ _ _ a1 a2 a3
              · exact q2.elim
          · exact q2.elim
        | some d =>
          rw [g] at q2
          dsimp only at q2
          obtain ⟨go, yl⟩ := ir.go e2 s2 g
          refine .inr ⟨go, fun H' => ∃ f', f' < f + 1 ∧ ∃ ρ2 S2 acc xs, Ext0 ρ1 H1 ρ2 H' ∧ ρ2.v = Dp :: ρ1.v ∧ SR (gX X la T) ρ2 H' S2 ∧ (∀ b ∈ ρ1.v, ∀ o, H1 b = some o → (∀ ps, o ≠ .tbl ps) → H' b = some o) ∧ H' Dp = some (.lst xs) ∧ RepL (gX X la T) oc0 ρ2 H' acc xs ∧
            tG (gX X la T) (RD (gX X la T) oc) ((compGo J (bndC F tgI own env) (fun e S => (mt e S).calm) (fun e S => (me e S).calm) f' (i + 1) acc S2).bind fun xs S => endC m xs S) ρ1 H1 Q E, fun H' z => z, fun x H3 y => ?_⟩
          cases gb : bndC F tgI own env d with
          | none => rw [gb] at q2; exact q2.elim
          | some env2 =>
            rw [gb] at q2
            dsimp only at q2
            obtain ⟨e3, s3, rx⟩ := yl x H3 y
            -- the name's value
            have rx0 : RepW tb (gX X la T) oc0 ρ2 H3 d x ∧ bindT tgI d (wipeE (envC F env) own) = some env2 := by
              unfold bndC at gb
              split at gb
              · cases gb
              · rename_i c
                refine ⟨?_, gb⟩
                cases hlm : F.lm with
                | false => rw [← hoc hlm]; exact rx
                | true =>
                  rw [hlm] at c
                  simp only [Bool.true_and, Bool.not_eq_true', Bool.not_eq_false] at c
                  rcases rx with rx | ⟨z, ds, a, vs, rfl, e1, e2, rr⟩
                  · exact .inl (Rep.noOwn d c rx)
                  · exact .inr ⟨z, ds, a, vs, rfl, e1, e2, RepL.noOwn ds (by simpa only [D.noOwn] using c) rr⟩
            have er3 : ER (gX X la T) oc0 ρ2 H3 (wipeE (envC F env) own) (wipe σ own) := er0.ext (e2.trans e3.toExt0)
            refine tg_run rx0.2 er3 rx0.1 htb fun σ2 er4 hw => ⟨?_, ?_⟩
            · rw [hw own hown, wipe_wipe]
            have mD : Dp ∈ ρ2.v := by rw [v2]; exact List.mem_cons_self
            have l3 : H3 Dp = some (.lst xs) := e3.keepV Dp mD _ hl fun ps z => by cases z
            refine ⟨env2, ρ2, S2, er4, s3, ?_⟩
            cases gt : mt env2 S2 with
            | bad => rw [gt] at q2; exact q2.elim
            | exc x S' => rw [gt] at q2; exact q2.elim
            | ok b S3 =>
              rw [gt] at q2
              intro b' H4 ρ4 e4 s4 eb
              cases (show b = b' from eb)
              have q2 : tG (gX X la T) (RD (gX X la T) oc) ((if b then ((me env2 S3).calm).bind fun y S2 => compGo J (bndC F tgI own env) (fun e S => (mt e S).calm) (fun e S => (me e S).calm) f (i + 1) (acc ++ [y]) S2 else compGo J (bndC F tgI own env) (fun e S => (mt e S).calm) (fun e S => (me e S).calm) f (i + 1) acc S3).bind fun xs S => endC m xs S) ρ1 H1 Q E := q2
              have l4 : H4 Dp = some (.lst xs) := e4.keepV Dp mD _ l3 fun ps z => by cases z
              have v4 : ρ4.v = Dp :: ρ1.v := e4.vol.trans v2
              have k4 : ∀ b ∈ ρ1.v, ∀ o, H1 b = some o → (∀ ps, o ≠ .tbl ps) → H4 b = some o := fun b mb o e n => e4.keepV b (by rw [v2]; exact List.mem_cons_of_mem _ mb) o (e3.keepV b (by rw [v2]; exact List.mem_cons_of_mem _ mb) o (k2 b mb o e n) n) n
              have r4 : RepL (gX X la T) oc0 ρ4 H4 acc xs := RepL.ext e4.toExt0 acc (RepL.ext e3.toExt0 acc r2)
              have x4 : Ext0 ρ1 H1 ρ4 H4 := (e2.trans e3.toExt0).trans e4.toExt0
              cases b with
              | false =>
                exact ⟨f, Nat.lt_succ_self f, ρ4, S3, acc, xs, x4, v4, s4, k4, l4, r4, q2⟩
              | true =>
                simp only [if_true] at q2 ⊢
                refine ⟨env2, ρ4, S3, er4.ext e4.toExt0, s4, ?_⟩
                cases ge : me env2 S3 with
                | bad => rw [ge] at q2; exact q2.elim
                | exc x S' => rw [ge] at q2; exact q2.elim
                | ok yd S4 =>
                  rw [ge] at q2
                  have q2 : tG (gX X la T) (RD (gX X la T) oc) ((compGo J (bndC F tgI own env) (fun e S => (mt e S).calm) (fun e S => (me e S).calm) f (i + 1) (acc ++ [yd]) S4).bind fun xs S => endC m xs S) ρ1 H1 Q E := q2
                  intro yv H5 ρ5 e5 s5 ry
                  have mD4 : Dp ∈ ρ4.v := by rw [v4]; exact List.mem_cons_self
                  have l5 : H5 Dp = some (.lst xs) := e5.keepV Dp mD4 _ l4 fun ps z => by cases z
                  have v5 : ρ5.v = Dp :: ρ1.v := e5.vol.trans v4
                  have mD5 : Dp ∈ ρ5.v := by rw [v5]; exact List.mem_cons_self
                  have r5 : RepL (gX X la T) oc0 ρ5 H5 (acc ++ [yd]) (xs ++ [yv]) := (RepL.ext e5.toExt0 acc r4).append (.cons ry .nil)
                  have x5 : Ext0 ρ1 H1 ρ5 H5 := x4.trans e5.toExt0
                  -- room for one more
                  have room : xs.length < sizeLine := by
                    rw [lineN_eq, r4.length]
                    cases gc : compGo J (bndC F tgI own env) (fun e S => (mt e S).calm) (fun e S => (me e S).calm) f (i + 1) (acc ++ [yd]) S4 with
                    | bad => rw [gc] at q2; exact q2.elim
                    | exc x S' =>
                      have : ∀ (f i : Nat) (acc : List D) (S : Sto), compGo J (bndC F tgI own env) (fun e S => (mt e S).calm) (fun e S => (me e S).calm) f i acc S ≠ .exc x S' := fun f => by
                        induction f with
                        | zero => intro i acc S z; cases z
                        | succ f ih =>
                          intro i acc S z
                          unfold compGo at z
                          split at z
                          · cases z
                          · split at z
                            · cases g1 : mt _ S with
                              | ok b S1 =>
                                rw [g1] at z
                                simp only [Res.calm, Res.bind] at z
                                split at z
                                · cases g2 : me _ S1 with
                                  | ok y S2 => rw [g2] at z; exact ih _ _ _ z
                                  | exc x S2 => rw [g2] at z; cases z
                                  | bad => rw [g2] at z; cases z
                                · exact ih _ _ _ z
                              | exc x S1 => rw [g1] at z; cases z
                              | bad => rw [g1] at z; cases z
                            · cases z
                          · cases z
                      exact absurd gc (this _ _ _ _)
                    | ok zs S' =>
                      rw [gc] at q2
                      have hz := compGo_len gc
                      rw [List.length_append] at hz
                      have q2 : tG (gX X la T) (RD (gX X la T) oc) (endC m zs S') ρ1 H1 Q E := q2
                      unfold endC at q2
                      split at q2
                      · simp at hz; omega
                      · exact q2.elim
                  refine ⟨xs, l5, room, f, Nat.lt_succ_self f, ρ5, S4, acc ++ [yd], xs ++ [yv], ?_, v5, sr_setV s5 mD5 ⟨xs, l5⟩ ⟨_, rfl⟩, fun b mb o e n => ?_, upd_same, RepL.ext (ext_setV (.inr mD5) ⟨_, l5⟩) _ r5, q2⟩
                  · exact x5.trans (ext_setV (.inr mD5) ⟨_, l5⟩)
                  · have hb : b ≠ Dp := fun z => by rw [z, hD] at e; cases e
                    rw [upd_ne hb]
                    exact e5.keepV b (by rw [v4]; exact List.mem_cons_of_mem _ mb) o (k4 b mb o e n) n
end
end LT
set_option Elab.async false
set_option linter.all false
set_option maxRecDepth 100000
set_option maxHeartbeats 4000000
/-! Own layer, part F: cells that others may read; calls. -/
namespace LT
open PySem PySem.Spec PyProof.Rows L2
open Classical
/-- cells told to be fixed; not told of -/
noncomputable def hUp (Tr : Addr → Prop) (Ob : Addr → Obj) (H : Hp) : Hp := fun b => if Tr b then some (.frz (Ob b) (.own 0)) else H b
noncomputable def hDn (Tr : Addr → Prop) (H : Hp) : Hp := fun b => if Tr b then none else H b
section
variable {Tr : Addr → Prop} {Ob : Addr → Obj} {H H' : Hp} {h h' B : Heap} {fs ex : List Addr} {P : Program} {w : World}
theorem hUp_t {b : Addr} (t : Tr b) : hUp Tr Ob H b = some (.frz (Ob b) (.own 0)) := if_pos t
theorem hUp_n {b : Addr} (t : ¬ Tr b) : hUp Tr Ob H b = H b := if_neg t
theorem hDn_t {b : Addr} (t : Tr b) : hDn Tr H b = none := if_pos t
theorem hDn_n {b : Addr} (t : ¬ Tr b) : hDn Tr H b = H b := if_neg t
theorem hDn_some {b : Addr} {o : HO} (e : hDn Tr H b = some o) : ¬ Tr b ∧ H b = some o := by
  by_cases t : Tr b
  · rw [hDn_t t] at e; cases e
  · rw [hDn_n t] at e; exact ⟨t, e⟩
theorem hok_up (x : HOk P w H h) (hg : ∀ b, Tr b → h.get? b = some (Ob b)) (hn : ∀ b, Tr b → H b = none) : HOk P w (hUp Tr Ob H) h := fun b o e => by
  have up : ∀ {c : Addr} {o : HO}, H c = some o → hUp Tr Ob H c = some o := fun {c o} q => by
    rw [hUp_n fun t => by rw [hn c t] at q; cases q]; exact q
  by_cases t : Tr b
  · rw [hUp_t t] at e
    cases e
    exact ⟨hg b t, ⟨_, hg b t⟩⟩
  · rw [hUp_n t] at e
    exact (x b o e).stay (fun c u _ q => q) (fun c q => up q) fun c xs q => up q
theorem hok_dn (x : HOk P w H h) (hf : ∀ b, Tr b → ∀ u, H b = some u → ∃ o, u = .frz o (.own 0)) : HOk P w (hDn Tr H) h := fun b o e => by
  obtain ⟨t, e⟩ := hDn_some e
  refine (x b o e).stay (fun c u _ q => q) (fun c q => ?_) fun c xs q => ?_
  · rw [hDn_n fun t => by obtain ⟨o, z⟩ := hf c t _ q; cases z]; exact q
  · rw [hDn_n fun t => by obtain ⟨o, z⟩ := hf c t _ q; cases z]; exact q
/-- what the callee kept of them -/
theorem frz_at (x : HOk P w H' h') {b : Addr} (e : H' b = some (.frz (Ob b) (.own 0))) : h'.get? b = some (Ob b) := (x b _ e).1
theorem un_dn (u : Un fs ex (hUp Tr Ob H) H' h h') (hg : ∀ b, Tr b → h.get? b = some (Ob b)) (hn : ∀ b, Tr b → H b = none) (x : HOk P w H' h') (nf : ∀ b, Tr b → b ∉ fs) : Un fs ex H (hDn Tr H') h h' where
  keep := fun b o e n hb hx => by
    by_cases t : Tr b
    · rw [hg b t] at e; cases e
      exact frz_at x (u.frzs b _ _ (hUp_t t))
    · exact u.keep b o e (by rw [hUp_n t]; exact n) hb hx
  slot := fun b o e n hb hx => u.slot b o e (by rw [hUp_n fun t => nf b t hb]; exact n) hb hx
  free := fun b o e n hx => by
    by_cases t : Tr b
    · exact hDn_t t
    · rw [hDn_n t]; exact u.free b o e (by rw [hUp_n t]; exact n) hx
  there := u.there
  tups := fun b xs e => by
    have t : ¬ Tr b := fun t => by rw [hn b t] at e; cases e
    rw [hDn_n t]; exact u.tups b xs (by rw [hUp_n t]; exact e)
  frzs := fun b o v e => by
    have t : ¬ Tr b := fun t => by rw [hn b t] at e; cases e
    rw [hDn_n t]; exact u.frzs b o v (by rw [hUp_n t]; exact e)
  tbls := fun b ps e => by
    have t : ¬ Tr b := fun t => by rw [hn b t] at e; cases e
    rw [hDn_n t]; exact u.tbls b ps (by rw [hUp_n t]; exact e)
theorem ub_dn (u : UB fs (hUp Tr Ob H) H' h B h') (hg : ∀ b, Tr b → h.get? b = some (Ob b)) (hn : ∀ b, Tr b → H b = none) (x : HOk P w H' B) (nf : ∀ b, Tr b → b ∉ fs) : UB fs H (hDn Tr H') h B h' where
  keep := fun b o e n hb => by
    by_cases t : Tr b
    · rw [hg b t] at e; cases e
      exact frz_at x (u.frzs b _ _ (hUp_t t))
    · exact u.keep b o e (by rw [hUp_n t]; exact n) hb
  slot := u.slot
  free := fun b o e n => by
    by_cases t : Tr b
    · exact hDn_t t
    · rw [hDn_n t]; exact u.free b o e (by rw [hUp_n t]; exact n)
  there := u.there
  tups := fun b xs e => by
    have t : ¬ Tr b := fun t => by rw [hn b t] at e; cases e
    rw [hDn_n t]; exact u.tups b xs (by rw [hUp_n t]; exact e)
  frzs := fun b o v e => by
    have t : ¬ Tr b := fun t => by rw [hn b t] at e; cases e
    rw [hDn_n t]; exact u.frzs b o v (by rw [hUp_n t]; exact e)
  tbls := fun b ps e => by
    have t : ¬ Tr b := fun t => by rw [hn b t] at e; cases e
    rw [hDn_n t]; exact u.tbls b ps (by rw [hUp_n t]; exact e)
theorem un_up (u : Un fs ex (hDn Tr H) H' h h') (hf : ∀ b, Tr b → H b = some (.frz (Ob b) (.own 0))) : Un fs ex H (hUp Tr Ob H') h h' where
  keep := fun b o e n hb hx => u.keep b o e (by unfold hDn; split <;> first | rfl | exact n) hb hx
  slot := fun b o e n hb hx => u.slot b o e (by unfold hDn; split <;> first | rfl | exact n) hb hx
  free := fun b o e n hx => by
    have t : ¬ Tr b := fun t => by rw [hf b t] at n; cases n
    rw [hUp_n t]; exact u.free b o e (by rw [hDn_n t]; exact n) hx
  there := u.there
  tups := fun b xs e => by
    have t : ¬ Tr b := fun t => by rw [hf b t] at e; cases e
    rw [hUp_n t]; exact u.tups b xs (by rw [hDn_n t]; exact e)
  frzs := fun b o v e => by
    by_cases t : Tr b
    · rw [hf b t] at e; cases e; exact hUp_t t
    · rw [hUp_n t]; exact u.frzs b o v (by rw [hDn_n t]; exact e)
  tbls := fun b ps e => by
    have t : ¬ Tr b := fun t => by rw [hf b t] at e; cases e
    rw [hUp_n t]; exact u.tbls b ps (by rw [hDn_n t]; exact e)
theorem ub_up (u : UB fs (hDn Tr H) H' h B h') (hf : ∀ b, Tr b → H b = some (.frz (Ob b) (.own 0))) : UB fs H (hUp Tr Ob H') h B h' where
  keep := fun b o e n hb => u.keep b o e (by unfold hDn; split <;> first | rfl | exact n) hb
  slot := u.slot
  free := fun b o e n => by
    have t : ¬ Tr b := fun t => by rw [hf b t] at n; cases n
    rw [hUp_n t]; exact u.free b o e (by rw [hDn_n t]; exact n)
  there := u.there
  tups := fun b xs e => by
    have t : ¬ Tr b := fun t => by rw [hf b t] at e; cases e
    rw [hUp_n t]; exact u.tups b xs (by rw [hDn_n t]; exact e)
  frzs := fun b o v e => by
    by_cases t : Tr b
    · rw [hf b t] at e; cases e; exact hUp_t t
    · rw [hUp_n t]; exact u.frzs b o v (by rw [hDn_n t]; exact e)
  tbls := fun b ps e => by
    have t : ¬ Tr b := fun t => by rw [hf b t] at e; cases e
    rw [hUp_n t]; exact u.tbls b ps (by rw [hDn_n t]; exact e)
end
/-! ### data, the cells not told of -/
section
variable {Tr : Addr → Prop} {Ob : Addr → Obj} {G : GI} {oc oc' : Nat → Option Addr} {ρ ρ' : Pl} {H H' : Hp} {S : Sto}
theorem fzl_dn {a : Addr} {xs : List V} (hf : ∀ b, Tr b → ∀ u, H b = some u → ∃ o, u = .frz o (.own 0)) (f : FzL ρ H a xs) : FzL ρ (hDn Tr H) a xs := by
  refine ⟨?_, f.2⟩
  rw [hDn_n fun t => by obtain ⟨o, z⟩ := hf a t _ f.1; cases z]
  exact f.1
theorem rd_dn {a : Addr} {u : HO} (hf : ∀ b, Tr b → ∀ u, H b = some u → ∃ o, u = .frz o (.own 0)) (hu : u ≠ .own 0) (hu2 : ∀ o, u ≠ .frz o (.own 0)) (f : Rd H a u) : Rd (hDn Tr H) a u := by
  rcases f with f | ⟨o, f⟩
  · exact .inl (by rw [hDn_n fun t => by obtain ⟨o, z⟩ := hf a t _ f; exact hu2 o z]; exact f)
  · exact .inr ⟨o, by rw [hDn_n fun t => by obtain ⟨o', z⟩ := hf a t _ f; cases z; exact hu rfl]; exact f⟩
mutual
theorem Rep.dn (hf : ∀ b, Tr b → ∀ u, H b = some u → ∃ o, u = .frz o (.own 0)) : ∀ (d : D) {v : V}, d.clean = true → Rep G oc ρ H d v → Rep G oc' ρ (hDn Tr H) d v
  | .non, _, _, h => by simpa only [Rep] using h
  | .bl b, _, _, h => by simpa only [Rep] using h
  | .int i, _, _, h => by simpa only [Rep] using h
  | .str x, _, _, h => by simpa only [Rep] using h
  | .tup ds, _, c, h => by
    simp only [Rep] at h ⊢
    obtain ⟨a, vs, h1, h2, h3⟩ := h
    refine ⟨a, vs, h1, ?_, RepL.dn hf ds (by simpa only [D.clean] using c) h3⟩
    rcases h2 with ⟨⟨o, h2, hd⟩, n⟩ | h2
    · exact .inl ⟨⟨o, by rw [hDn_n fun t => by obtain ⟨o', z⟩ := hf a t _ h2; cases z]; exact h2, hd⟩, n⟩
    · exact .inr h2
  | .lst ds, _, c, h => by
    simp only [Rep] at h ⊢
    obtain ⟨a, vs, h1, h2, h3⟩ := h
    exact ⟨a, vs, h1, fzl_dn hf h2, RepL.dn hf ds (by simpa only [D.clean] using c) h3⟩
  | .scr ns, _, _, h => by
    simp only [Rep] at h ⊢
    obtain ⟨a, h1, h2⟩ := h
    refine ⟨a, h1, ?_⟩
    rcases h2 with ⟨h2, n⟩ | h2
    · exact .inl ⟨rd_dn hf (fun z => by cases z) (fun o z => by cases z) h2, n⟩
    · exact .inr h2
  | .cell n, _, _, h => by simpa only [Rep] using h
  | .fn x, _, _, h => by simpa only [Rep] using h
  | .own k caps, _, c, h => by simp [D.clean] at c
  | .clo k caps, _, c, h => by simp [D.clean] at c
theorem RepL.dn (hf : ∀ b, Tr b → ∀ u, H b = some u → ∃ o, u = .frz o (.own 0)) : ∀ (ds : List D) {vs : List V}, D.cleans ds = true → RepL G oc ρ H ds vs → RepL G oc' ρ (hDn Tr H) ds vs
  | [], _, _, h => by simpa only [RepL] using h
  | d :: ds, _, c, h => by
    simp only [D.cleans, Bool.and_eq_true] at c
    simp only [RepL] at h ⊢
    obtain ⟨v, r, h1, h2, h3⟩ := h
    exact ⟨v, r, h1, Rep.dn hf d c.1 h2, RepL.dn hf ds c.2 h3⟩
end
theorem SR.dn (hf : ∀ b, Tr b → ∀ u, H b = some u → ∃ o, u = .frz o (.own 0)) (nv : ∀ a ∈ ρ.v, ¬ Tr a) (s : SR G ρ H S) : SR G ρ (hDn Tr H) S where
  len := s.len
  nd := s.nd
  at_ := fun i o a h1 h2 => by
    have z := s.at_ i o a h1 h2
    cases o with
    | lst ds =>
      obtain ⟨vs, e, c, r⟩ := z
      exact ⟨vs, by rw [hDn_n fun t => by obtain ⟨o, z⟩ := hf a t _ e; cases z]; exact e, c, RepL.dn hf ds c r⟩
    | ins cn fs =>
      obtain ⟨C, dx, vs, e1, e2, e3, e4, c, r⟩ := z
      refine ⟨C, dx, vs, e1, ?_, ?_, e4, c, RepL.dn hf _ c r⟩
      · rw [hDn_n fun t => by obtain ⟨o, z⟩ := hf a t _ e2; cases z]; exact e2
      · rw [hDn_n fun t => by obtain ⟨o, z⟩ := hf dx t _ e3; cases z]; exact e3
  vol := fun a m => ⟨by rw [hDn_n (nv a m)]; exact (s.vol a m).1, (s.vol a m).2⟩
  tab := fun p hp => by
    obtain ⟨ps, h1, h2, h3⟩ := s.tab p hp
    refine ⟨ps, by rw [hDn_n fun t => by obtain ⟨o, z⟩ := hf _ t _ h1; cases z]; exact h1, h2, fun pos cv hc => ?_⟩
    obtain ⟨c, e1, e2⟩ := h3 pos cv hc
    refine ⟨c, e1, ?_⟩
    rw [hDn_n fun t => by obtain ⟨o, z⟩ := hf _ t _ e2; unfold LamX.CodeO at z; cases z]; exact e2

theorem xrep_dn {x : Exc} {c : Value} {dd : Option Addr} (hf : ∀ b, Tr b → ∀ u, H b = some u → ∃ o, u = .frz o (.own 0)) (h : XRep G H x c dd) : XRep G (hDn Tr H) x c dd := by
  obtain ⟨C, e1, e2, h⟩ := h
  refine ⟨C, e1, e2, ?_⟩
  cases q : x.fld with
  | none => rw [q] at h; exact h
  | some p =>
    rw [q] at h
    obtain ⟨f, n⟩ := p
    obtain ⟨d, e3, e4⟩ := h
    exact ⟨d, e3, by rw [hDn_n fun t => by obtain ⟨o, z⟩ := hf _ t _ e4; cases z]; exact e4⟩
/-- a step of a callee that was told of the cells, seen by one who is not -/
theorem ext_dn (hn : ∀ b, Tr b → H b = none) (e : Ext ρ (hUp Tr Ob H) ρ' H') : Ext ρ H ρ' (hDn Tr H') where
  pre := e.pre
  keep := fun b o h n k => by
    have t : ¬ Tr b := fun t => by rw [hn b t] at h; cases h
    rw [hDn_n t]
    exact e.keep b o (by rw [hUp_n t]; exact h) n k
  gone := fun b h => by
    by_cases t : Tr b
    · exact hn b t
    · rw [hDn_n t] at h
      have z := e.gone b h
      rw [hUp_n t] at z
      exact z
  new := fun b m n => by
    have z := e.new b m n
    by_cases t : Tr b
    · exact hn b t
    · rw [hUp_n t] at z; exact z
  vol := e.vol
  keepV := fun b m o h n => by
    have t : ¬ Tr b := fun t => by rw [hn b t] at h; cases h
    rw [hDn_n t]
    exact e.keepV b m o (by rw [hUp_n t]; exact h) n
theorem keep_up (hn : ∀ b, Tr b → H b = none) : ∀ b o, H b = some o → hUp Tr Ob H b = some o := fun b o h => by
  rw [hUp_n fun t => by rw [hn b t] at h; cases h]; exact h
/-! ### what a call's rule says -/
/-- what a def promises -/
def spF (G : GI) (F : Fns) (f : Str) (n : Nat) : Sp := fun vs H Q E => vs.length = n ∧ ∃ ρ S ds, SR G ρ H S ∧ RepL G oc0 ρ H ds vs ∧ tG G (RD G oc0) (F.call f ds S) ρ H Q E
end
section
variable {X : Cx} {la : Nat → Arguments → Expr → Scope → List Str → Prop} {T : List NdefX.NTab} {oc : Nat → Option Addr} {W : WX} {F : Fns}
/-- f(..) in a frame without lambdas -/
theorem call_plain {f : Str} {a : Addr} {fd : FuncData} {ps : List Str} {k : Nat} (hlm : F.lm = false) (Fo : FnOk X.prog X.w X.K X.mg X.base (L2N.CX X.prog X.w) k a fd ps (spF (gX X la T) F f ps.length)) (hr : Room k X.A) (hb : Binds X.K fd ps []) (tk : L2N.Takes X W)
    {pins : List (Addr × Obj)} {σ : L2.St} {H : Hp} {s : Shared} {Q : VK} {us : List Value} {vs : List V} {env : Env'} {ρ : Pl} {S : Sto} {ds : List D} (hl : vs.length = ps.length) (I : Inv X pins σ H s) (sr : SR (gX X la T) ρ H S) (rv : Vals vs us) (rd : RepL (gX X la T) oc0 ρ H ds vs)
    (h : tG (gX X la T) (RD (gX X la T) oc0) (callE F env f ds S) ρ H Q (fun c dd H' => W c dd σ H')) : wpAny (model X.prog X.w) X.A (call (.ref a) us) (EP X pins σ Q) X.xe s := by
  refine run_fnSD (dvs := []) (ds := []) (E := WE W) Fo hr hb .nil (L2N.passAt tk σ) I rv ?_
  rw [List.append_nil]
  refine ⟨hl, ρ, S, ds, sr, rd, ?_⟩
  unfold callE pubIf at h
  rw [hlm] at h
  simp only [Bool.false_and, if_false, Bool.false_eq_true] at h
  rw [Res.bind_ok] at h
  exact h
/-- the frame's cells that hold something -/
def TrX (X : Cx) (s : Shared) (b : Addr) : Prop := ∃ x, X.env.cells.lookup x = some b ∧ ∃ o u, s.heap.get? b = some o ∧ o.data = .cell (some u)
noncomputable def ObX (s : Shared) (b : Addr) : Obj := (s.heap.get? b).getD default
theorem obX {X : Cx} {s : Shared} {b : Addr} (t : TrX X s b) : s.heap.get? b = some (ObX s b) ∧ ∃ u, (ObX s b).data = .cell (some u) := by
  obtain ⟨x, _, o, u, e, d⟩ := t
  have z : ObX s b = o := by unfold ObX; rw [e]; rfl
  rw [z]
  exact ⟨e, u, d⟩
mutual
/-- this frame's closures, told to others -/
theorem Rep.pubR {pins : List (Addr × Obj)} {s : Shared} {σ : L2.St} {H : Hp} {ρ : Pl} {env : Env'} (I : Inv X pins σ H s) (hcl : ∀ y c, X.env.cells.lookup y = some c → X.env.kindOf y = some .cell) (hn : ∀ b, TrX X s b → H b = none ∧ b ∉ ρ) (er : ER (gX X la T) (ocOf X) ρ H env σ) :
    ∀ (d : D) {d' : D} {v : V}, D.pub env d = some d' → Rep (gX X la T) (ocOf X) ρ H d v → Rep (gX X la T) oc0 ρ (hUp (TrX X s) (ObX s) H) d' v
  | .non, d', v, e, h => by
    simp only [D.pub, Option.some.injEq] at e; subst e
    exact Rep.clean _ rfl (Rep.ext (ext_of (keep_up fun b t => (hn b t).1)).toExt0 _ h)
  | .bl b, d', v, e, h => by
    simp only [D.pub, Option.some.injEq] at e; subst e
    exact Rep.clean _ rfl (Rep.ext (ext_of (keep_up fun b t => (hn b t).1)).toExt0 _ h)
  | .int i, d', v, e, h => by
    simp only [D.pub, Option.some.injEq] at e; subst e
    exact Rep.clean _ rfl (Rep.ext (ext_of (keep_up fun b t => (hn b t).1)).toExt0 _ h)
  | .str x, d', v, e, h => by
    simp only [D.pub, Option.some.injEq] at e; subst e
    exact Rep.clean _ rfl (Rep.ext (ext_of (keep_up fun b t => (hn b t).1)).toExt0 _ h)
  | .tup ds, d', v, e, h => by
    simp only [D.pub, Option.map_eq_some_iff] at e
    obtain ⟨ds', e, rfl⟩ := e
    simp only [Rep] at h ⊢
    obtain ⟨a, vs, h1, h2, h3⟩ := h
    exact ⟨a, vs, h1, h2.ext (ext_of (keep_up fun b t => (hn b t).1)).toExt0, RepL.pubR I hcl hn er ds e h3⟩
  | .lst ds, d', v, e, h => by
    simp only [D.pub, Option.map_eq_some_iff] at e
    obtain ⟨ds', e, rfl⟩ := e
    simp only [Rep] at h ⊢
    obtain ⟨a, vs, h1, h2, h3⟩ := h
    exact ⟨a, vs, h1, h2.ext (ext_of (keep_up fun b t => (hn b t).1)).toExt0, RepL.pubR I hcl hn er ds e h3⟩
  | .scr ns, d', v, e, h => by
    simp only [D.pub, Option.some.injEq] at e; subst e
    exact Rep.clean _ rfl (Rep.ext (ext_of (keep_up fun b t => (hn b t).1)).toExt0 _ h)
  | .cell n, d', v, e, h => by
    simp only [D.pub, Option.some.injEq] at e; subst e
    exact Rep.clean _ rfl (Rep.ext (ext_of (keep_up fun b t => (hn b t).1)).toExt0 _ h)
  | .fn x, d', v, e, h => by
    simp only [D.pub, Option.some.injEq] at e; subst e
    exact Rep.clean _ rfl (Rep.ext (ext_of (keep_up fun b t => (hn b t).1)).toExt0 _ h)
  | .clo k caps, d', v, e, h => by
    simp only [D.pub, Option.some.injEq] at e; subst e
    exact Rep.noOwn _ rfl (Rep.ext (ext_of (keep_up fun b t => (hn b t).1)).toExt0 _ h)
  | .own k caps, d', v, e, h => by
    simp only [D.pub, Option.map_eq_some_iff] at e
    obtain ⟨cs, e, rfl⟩ := e
    simp only [Rep] at h ⊢
    obtain ⟨f, c', q, params, body, scope, cl, fr, h1, h2, h3, h4⟩ := h
    have key : ∀ (caps : List Nat) (cs : List D), (caps.mapM fun i => match env[i]? with | some (some d) => if D.clean d then some d else none | _ => none) = some cs →
        ∃ vs, D.cleans cs = true ∧ RepL (gX X la T) oc0 ρ (hUp (TrX X s) (ObX s) H) cs vs ∧ vs.length = caps.length ∧ ∀ (j i : Nat) (z : V), caps[j]? = some i → vs[j]? = some z → σ[i]? = some (some z) := by
      intro caps
      induction caps with
      | nil =>
        intro cs e
        simp at e; subst e
        exact ⟨[], rfl, .nil, rfl, fun j i z e => by simp at e⟩
      | cons i caps ih =>
        intro cs e
        rw [List.mapM_cons] at e
        cases q1 : env[i]? with
        | none => rw [q1] at e; simp at e
        | some o => cases o with
          | none => rw [q1] at e; simp at e
          | some d =>
            rw [q1] at e
            by_cases cd : d.clean = true
            · simp only [cd, if_true] at e
              cases q2 : (caps.mapM fun i => match env[i]? with | some (some d) => if D.clean d then some d else none | _ => none) with
              | none => rw [q2] at e; simp at e
              | some ds =>
                rw [q2] at e
                have e : d :: ds = cs := by simpa using e
                subst e
                obtain ⟨vs, a1, a2, a3, a4⟩ := ih ds q2
                obtain ⟨v, b1, b2⟩ := er.at_ i d q1
                refine ⟨v :: vs, by simp [D.cleans, cd, a1], .cons (Rep.clean d cd (Rep.ext (ext_of (keep_up fun b t => (hn b t).1)).toExt0 d b2)) a2, by simp [a3], fun j i' z e1 e2 => ?_⟩
                cases j with
                | zero =>
                  simp at e1 e2
                  subst e1 e2
                  exact b1
                | succ j => exact a4 j i' z (by simpa using e1) (by simpa using e2)
            · simp [cd] at e
    obtain ⟨vs, a1, a2, a3, a4⟩ := key caps cs e
    refine ⟨f, c', q, params, body, scope, cl, fr, vs, h1, h2.ext (ext_of (keep_up fun b t => (hn b t).1)).toExt0, a1, a2, by rw [a3, h3], fun j y z e1 e2 => ?_⟩
    have hj : j < caps.length := by rw [← a3]; exact (List.getElem?_eq_some_iff.mp e2).1
    obtain ⟨c, b1, b2⟩ := h4 j y caps[j] e1 (by simp [hj])
    have b3 := a4 j caps[j] z (by simp [hj]) e2
    -- the cell
    unfold ocOf at b2
    cases q1 : X.N[caps[j]]? with
    | none => rw [q1] at b2; cases b2
    | some y' =>
      rw [q1] at b2
      have b2 : X.env.cells.lookup y' = some c := b2
      have kc := hcl y' c b2
      obtain ⟨m, _, hl⟩ := I.loc
      obtain ⟨u, ru, lk⟩ := hl caps[j] y' z q1 b3 (.inr (.inl kc))
      rcases lk with ⟨k1, _⟩ | ⟨_, c2, k2, o, k3, k4⟩
      · rw [kc] at k1; cases k1
      · rw [b2] at k2; cases k2
        have t : TrX X s c := ⟨y', b2, o, u, k3, k4⟩
        have z1 := (obX t).1
        rw [k3] at z1
        have z1 : o = ObX s c := Option.some.inj z1
        exact ⟨c, b1, ⟨ObX s c, u, hUp_t t, z1 ▸ k4, ru⟩, (hn c t).2⟩
theorem RepL.pubR {pins : List (Addr × Obj)} {s : Shared} {σ : L2.St} {H : Hp} {ρ : Pl} {env : Env'} (I : Inv X pins σ H s) (hcl : ∀ y c, X.env.cells.lookup y = some c → X.env.kindOf y = some .cell) (hn : ∀ b, TrX X s b → H b = none ∧ b ∉ ρ) (er : ER (gX X la T) (ocOf X) ρ H env σ) :
    ∀ (ds : List D) {ds' : List D} {vs : List V}, D.pubs env ds = some ds' → RepL (gX X la T) (ocOf X) ρ H ds vs → RepL (gX X la T) oc0 ρ (hUp (TrX X s) (ObX s) H) ds' vs
  | [], ds', vs, e, h => by
    simp only [D.pubs, Option.some.injEq] at e; subst e
    rw [h.nil_inv]; exact .nil
  | d :: ds, ds', vs, e, h => by
    obtain ⟨v, r, rfl, h1, h2⟩ := h.cons_inv
    simp only [D.pubs] at e
    cases q1 : D.pub env d with
    | none => rw [q1] at e; simp at e
    | some p => cases q2 : D.pubs env ds with
      | none => rw [q1, q2] at e; simp at e
      | some ps =>
        rw [q1, q2] at e
        simp only [Option.some.injEq] at e
        subst e
        exact .cons (Rep.pubR I hcl hn er d q1 h1) (RepL.pubR I hcl hn er ds q2 h2)
end
end
end LT
set_option Elab.async false
set_option linter.all false
set_option maxRecDepth 100000
set_option maxHeartbeats 4000000
/-! Own layer, part F2: calls from a frame with lambdas; calls of closures. -/
namespace LT
open PySem PySem.Spec PyProof.Rows L2
open Classical
section
variable {X : Cx} {la : Nat → Arguments → Expr → Scope → List Str → Prop} {T : List NdefX.NTab} {oc : Nat → Option Addr} {W : WX} {F : Fns}
theorem tr_none {pins : List (Addr × Obj)} {s : Shared} {σ : L2.St} {H : Hp} {ρ : Pl} {S : Sto} (I : Inv X pins σ H s) (sr : SR (gX X la T) ρ H S) {b : Addr} (t : TrX X s b) : H b = none ∧ b ∉ ρ := by
  obtain ⟨x, e, _⟩ := t
  have n := I.freeC x b e
  exact ⟨n, sr.not_mem n⟩
theorem tr_frs {pins : List (Addr × Obj)} {s : Shared} {σ : L2.St} {H : Hp} (I : Inv X pins σ H s) (hfn : ∀ x, X.fn x = true) {b : Addr} (t : TrX X s b) : b ∉ frs X.stack := fun m => by
  obtain ⟨x, e, _⟩ := t
  rcases List.mem_cons.mp (I.stkSub b m) with z | z
  · exact I.cne x b e z
  · have h1 := I.ok.cab x b (hfn x) e
    obtain ⟨_, o, ho, _⟩ := I.ok.funs.mem z
    exact Nat.lt_irrefl _ (Nat.lt_of_lt_of_le (Heap.lt_size ho) h1)
theorem tr_base {pins : List (Addr × Obj)} {s : Shared} {σ : L2.St} {H : Hp} (I : Inv X pins σ H s) (hfn : ∀ x, X.fn x = true) {b : Addr} (t : TrX X s b) : X.base.get? b = none := by
  obtain ⟨x, e, _⟩ := t
  cases q : X.base.get? b with
  | none => rfl
  | some o =>
    have h1 := I.ok.cab x b (hfn x) e
    have h2 := Heap.lt_size q
    exact absurd (Nat.lt_of_lt_of_le h2 (Nat.le_trans I.ok.bsz h1)) (Nat.lt_irrefl _)
theorem vol_no {G : GI} {ρ : Pl} {H : Hp} {S : Sto} {Tr : Addr → Prop} (sr : SR G ρ H S) (hn : ∀ b, Tr b → H b = none) {a : Addr} (m : a ∈ ρ.v) (t : Tr a) : False := by
  obtain ⟨xs, z⟩ := (sr.vol a m).1
  rw [hn a t] at z; cases z
/-- f(..) in a frame with lambdas -/
theorem call_lm {f : Str} {a : Addr} {fd : FuncData} {ps : List Str} {k : Nat} (hlm : F.lm = true) (hfn : ∀ x, X.fn x = true) (hcl : ∀ y c, X.env.cells.lookup y = some c → X.env.kindOf y = some .cell)
    (Fo : FnOk X.prog X.w X.K X.mg X.base (L2N.CX X.prog X.w) k a fd ps (spF (gX X la T) F f ps.length)) (hr : Room k X.A) (hb : Binds X.K fd ps []) (tk : L2N.Takes X W)
    {pins : List (Addr × Obj)} {σ : L2.St} {H : Hp} {s : Shared} {Q : VK} {us : List Value} {vs : List V} {env : Env'} {ρ : Pl} {S : Sto} {ds : List D} (hl : vs.length = ps.length) (I : Inv X pins σ H s) (er : ER (gX X la T) (ocOf X) ρ H env σ) (sr : SR (gX X la T) ρ H S) (rv : Vals vs us) (rd : RepL (gX X la T) (ocOf X) ρ H ds vs)
    (h : tG (gX X la T) (RD (gX X la T) (ocOf X)) (callE F env f ds S) ρ H Q (fun c dd H' => W c dd σ H')) : wpAny (model X.prog X.w) X.A (call (.ref a) us) (EP X pins σ Q) X.xe s := by
  unfold callE pubIf at h
  rw [hlm] at h
  simp only [if_true, Bool.true_and] at h
  cases qp : D.pubs env ds with
  | none => rw [qp] at h; exact h.elim
  | some ys =>
    rw [qp] at h
    dsimp only at h
    have hn : ∀ b, TrX X s b → H b = none ∧ b ∉ ρ := fun b t => tr_none I sr t
    have hg : ∀ b, TrX X s b → s.heap.get? b = some (ObX s b) := fun b t => (obX t).1
    have hn1 : ∀ b, TrX X s b → H b = none := fun b t => (hn b t).1
    have nf : ∀ b, TrX X s b → b ∉ frs X.stack := fun b t => tr_frs I hfn t
    have rp := RepL.pubR (la := la) (T := T) I hcl hn er ds qp rd
    have e0 : Env0 X.prog X.w X.K X.mg X.base X.A X.stack s (hUp (TrX X s) (ObX s) H) := by
      have z := I.env0
      refine ⟨z.frames, z.mod, fun b o e => ⟨(z.bs b o e).1, ?_⟩, z.bsz, z.funs, fun b m => ?_, hok_up z.hok hg hn1, z.bare⟩
      · rw [hUp_n fun t => by rw [tr_base I hfn t] at e; cases e]; exact (z.bs b o e).2
      · rw [hUp_n fun t => nf b t m]; exact z.frf b m
    have sp : spF (gX X la T) F f ps.length vs (hUp (TrX X s) (ObX s) H) (fun v H' => (∀ b, TrX X s b → H' b = some (.frz (ObX s b) (.own 0))) → Q v (hDn (TrX X s) H')) (fun c dd H' => (∀ b, TrX X s b → H' b = some (.frz (ObX s b) (.own 0))) → W c dd σ (hDn (TrX X s) H')) := by
      refine ⟨hl, ρ, S, ys, sr.grow (keep_up hn1), rp, ?_⟩
      cases qc : F.call f ys S with
      | bad => rw [qc] at h; exact h
      | exc x S' =>
        rw [qc] at h
        intro c dd H' ρ' e s' r fz
        have hf : ∀ b, TrX X s b → ∀ u, H' b = some u → ∃ o, u = .frz o (.own 0) := fun b t u hu => ⟨_, (Option.some.inj (hu.symm.trans (fz b t)))⟩
        have e1 := ext_dn hn1 e
        exact h c dd _ ρ' e1 (s'.dn hf fun a m t => by
          rw [e.vol] at m
          exact vol_no sr hn1 m t) (xrep_dn hf r)
      | ok d S' =>
        rw [qc] at h
        simp only [Res.bind] at h
        intro v H' ρ' e s' r fz
        by_cases cd : d.clean = true
        · simp only [cd, Bool.not_true, Bool.false_eq_true, if_false] at h
          have hf : ∀ b, TrX X s b → ∀ u, H' b = some u → ∃ o, u = .frz o (.own 0) := fun b t u hu => ⟨_, (Option.some.inj (hu.symm.trans (fz b t)))⟩
          exact h v _ ρ' (ext_dn hn1 e) (s'.dn hf fun a m t => by
            rw [e.vol] at m
            exact vol_no sr hn1 m t) (Rep.dn hf d cd r)
        · simp only [Bool.not_eq_true] at cd
          simp only [cd, Bool.not_false, if_true] at h
          exact h.elim
    have hlu : us.length = ps.length := by rw [← rv.length]; exact hl
    have hbt := hb s us I.kIn (by rw [List.append_nil]; exact hlu)
    rw [List.append_nil] at hbt
    refine wpAny_call (codeAny_mono (Fo.run X.A X.stack s _ ⟨us, []⟩ us vs _ _ hr e0 hbt rv sp) fun r s' hq => ?_)
    cases r with
    | error e =>
      have hq : L2N.CX X.prog X.w X.stack (hUp (TrX X s) (ObX s) H) s _ e s' := hq
      obtain ⟨b, B, H', cls, d, e1, fl, hok, ub, na, os, ag, w⟩ := hq
      have fz : ∀ b, TrX X s b → H' b = some (.frz (ObX s b) (.own 0)) := fun b t => ub.frzs b _ _ (hUp_t t)
      have hf : ∀ b, TrX X s b → ∀ u, H' b = some u → ∃ o, u = .frz o (.own 0) := fun b t u hu => ⟨_, (Option.some.inj (hu.symm.trans (fz b t)))⟩
      refine L2N.passAt tk σ pins H s e s' I ⟨b, B, hDn (TrX X s) H', cls, d, e1, fl, hok_dn hok hf, ub_dn ub hg hn1 hok nf, ?_, os, ag, w fz⟩
      unfold hDn
      split
      · rfl
      · exact na
    | ok fl =>
      cases fl with
      | ret u =>
        have hq : CE X.stack X.prog X.w (hUp (TrX X s) (ObX s) H) s _ u s' := hq
        obtain ⟨v, H', os, ag, un, hok, rv', w⟩ := hq
        have fz : ∀ b, TrX X s b → H' b = some (.frz (ObX s b) (.own 0)) := fun b t => un.frzs b _ _ (hUp_t t)
        have hf : ∀ b, TrX X s b → ∀ u, H' b = some u → ∃ o, u = .frz o (.own 0) := fun b t u hu => ⟨_, (Option.some.inj (hu.symm.trans (fz b t)))⟩
        exact I.after ⟨v, hDn (TrX X s) H', os, ag, un_dn un hg hn1 hok nf, hok_dn hok hf, rv', w fz⟩
      | next => exact False.elim hq
      | brk => exact False.elim hq
      | cont => exact False.elim hq
end
end LT
set_option Elab.async false
set_option linter.all false
set_option maxRecDepth 100000
set_option maxHeartbeats 4000000
/-! Own layer, part F3: closures called. -/
namespace LT
open PySem PySem.Spec PyProof.Rows L2
open Classical
section
variable {Tr : Addr → Prop} {Ob : Addr → Obj} {G : GI} {oc oc' : Nat → Option Addr} {ρ ρ' : Pl} {H H' : Hp} {S S' : Sto}
theorem ext_up (hf : ∀ b, Tr b → H b = some (.frz (Ob b) (.own 0))) (hn : ∀ b, Tr b → H' b = none) (s : SR G ρ' H' S') (e : Ext ρ (hDn Tr H) ρ' H') : Ext ρ H ρ' (hUp Tr Ob H') where
  pre := e.pre
  keep := fun b o h n k => by
    by_cases t : Tr b
    · rw [hf b t] at h
      rw [hUp_t t]; exact h
    · rw [hUp_n t]; exact e.keep b o (by rw [hDn_n t]; exact h) n k
  gone := fun b h => by
    by_cases t : Tr b
    · rw [hUp_t t] at h; cases h
    · rw [hUp_n t] at h
      have z := e.gone b h
      rw [hDn_n t] at z; exact z
  new := fun b m n => by
    by_cases t : Tr b
    · obtain ⟨u, hu⟩ := s.mem m
      rw [hn b t] at hu; cases hu
    · have z := e.new b m n
      rw [hDn_n t] at z; exact z
  vol := e.vol
  keepV := fun b m o h n => by
    by_cases t : Tr b
    · rw [hf b t] at h
      rw [hUp_t t]; exact h
    · rw [hUp_n t]; exact e.keepV b m o (by rw [hDn_n t]; exact h) n
theorem xrep_up {x : Exc} {c : Value} {dd : Option Addr} (hn : ∀ b, Tr b → H b = none) (h : XRep G H x c dd) : XRep G (hUp Tr Ob H) x c dd := by
  obtain ⟨C, e1, e2, h⟩ := h
  refine ⟨C, e1, e2, ?_⟩
  cases q : x.fld with
  | none => rw [q] at h; exact h
  | some p =>
    rw [q] at h
    obtain ⟨f, n⟩ := p
    obtain ⟨d, e3, e4⟩ := h
    exact ⟨d, e3, by rw [hUp_n fun t => by rw [hn _ t] at e4; cases e4]; exact e4⟩
end
/-- the facts of a lambda -/
structure LamF (ps fr : List Str) (params : Arguments) (body : Expr) (scope : Scope) : Prop where
  sc : NdefX.NScope (ps ++ fr) ps fr scope
  bind : ∀ (q : Str) (cl : List (Str × Addr)) (pm cv ctv : Value) (us : List Value), us.length = ps.length → bindArgs (PySem.W.kla_fn "<lambda>" q params body scope cl pm cv ctv) ⟨us, []⟩ = pure (ps.zip us)
/-- what a lambda promises -/
structure LamOk (G : GI) (F : Fns) (k : Nat) (j : Nat) : Prop where
  run : ∀ (A : Around) (outer : List Env) (s : Shared) (H : Hp) (f : Addr) (us : List Value) (vs : List V) (caps ds : List D) (ρ : Pl) (S : Sto) (Q : VK) (E : XK), Room k A → Env0 G.P G.w G.K G.mg G.base A outer s H → Vals vs us → SR G ρ H S → Rep G oc0 ρ H (.clo j caps) (.ref f) →
    RepL G oc0 ρ H ds vs → D.cleans ds = true → tG G (RD G oc0) (F.lam j caps ds S) ρ H Q E → codeAny (model G.P G.w) A (.call (.ref f) ⟨us, []⟩) (CR (L2N.CX G.P G.w) outer G.P G.w H s Q E) s
theorem rep_map {G : GI} {oc : Nat → Option Addr} {ρ : Pl} {H : Hp} {ds : List D} {vs : List V} (r : RepL G oc ρ H ds vs) : ER G oc ρ H (ds.map some) (vs.map some) := by
  refine ⟨by simp [r.length], fun i d q => ?_⟩
  rw [List.getElem?_map] at q
  cases z : ds[i]? with
  | none => rw [z] at q; cases q
  | some d' =>
    rw [z] at q
    cases q
    obtain ⟨v, h1, h2⟩ := r.get z
    exact ⟨v, by rw [List.getElem?_map, h1]; rfl, h2⟩
theorem lam_ok {G : GI} {F F' : Fns} {k j : Nat} {l : Lm} (hF : ∀ caps ds S, F.lam j caps ds S = runLm F' l caps ds S)
    (facts : ∀ params body scope fr, G.lamAt j params body scope fr → ∃ ps : List Str, ps.length = l.pars ∧ fr.length = l.caps ∧ LamF ps fr params body scope ∧
      ∀ (q : Str) (cl : List (Str × Addr)) (c' f : Addr) (A : Around) (outer : List Env) (s : Shared) (H : Hp) (E : XK), Room k (A.deeper (NdefX.envF ⟨"<lambda>", q, params, [], scope, cl, c'⟩ f s.heap.objs.size)) →
        PE (NdefX.ncx (L2N.CX G.P G.w) G.P G.w G.K G.mg G.base (ps ++ fr) ⟨"<lambda>", q, params, [], scope, cl, c'⟩ f A outer s H E) body (tM G oc0 (RD G oc0) (fun cls d _ H' => E cls d H') (evP l.body { F' with lm := false }).e)) : LamOk G F (k + 1) j := by
  refine ⟨fun A outer s H f us vs caps ds ρ S Q E hr e0 rv sr rc rd cd h => ?_⟩
  simp only [Rep] at rc
  obtain ⟨f', c', q, params, body, scope, cl, fr, ws, ef, cat, cc, rw', hlw, hcells⟩ := rc
  cases ef
  obtain ⟨ps, hps, hfr, LF, hb⟩ := facts _ _ _ _ cat.lam
  rw [hF] at h
  unfold runLm at h
  by_cases hlen : ds.length = l.pars ∧ caps.length = l.caps
  · rw [if_pos hlen] at h
    -- the cells
    generalize hTr : (fun b => ∃ y, cl.lookup y = some b) = Tr
    have tr : ∀ {b}, Tr b → ∃ y, cl.lookup y = some b := fun {b} t => by rw [← hTr] at t; exact t
    have tr' : ∀ {b y}, cl.lookup y = some b → Tr b := fun {b y} e => by rw [← hTr]; exact ⟨y, e⟩
    have cellAt : ∀ y c, cl.lookup y = some c → ∃ (o : Obj) (u : Value), H c = some (.frz o (.own 0)) ∧ o.data = .cell (some u) ∧ c ∉ ρ := fun y c e => by
      obtain ⟨i, hi⟩ := List.mem_iff_getElem?.mp (cat.only y c e)
      have hlt : i < ws.length := by rw [hlw]; exact (List.getElem?_eq_some_iff.mp hi).1
      obtain ⟨c2, e2, ⟨o, u, h1, h2, _⟩, h3⟩ := hcells i y ws[i] hi (by simp [hlt])
      rw [e] at e2; cases e2
      exact ⟨o, u, h1, h2, h3⟩
    have hobj : ∀ {b o}, H b = some (.frz o (.own 0)) → s.heap.get? b = some o := fun {b o} e => (e0.hok b _ e).1
    have hf : ∀ b, Tr b → H b = some (.frz (ObX s b) (.own 0)) := fun b t => by
      obtain ⟨y, e⟩ := tr t
      obtain ⟨o, u, h1, h2, _⟩ := cellAt y b e
      have z : ObX s b = o := by unfold ObX; rw [hobj h1]; rfl
      rw [z]; exact h1
    have hf' : ∀ b, Tr b → ∀ u, H b = some u → ∃ o, u = .frz o (.own 0) := fun b t u hu => ⟨_, Option.some.inj (hu.symm.trans (hf b t))⟩
    have nρ : ∀ b, Tr b → b ∉ ρ := fun b t => by
      obtain ⟨y, e⟩ := tr t
      obtain ⟨_, _, _, _, h3⟩ := cellAt y b e
      exact h3
    have hdat : ∀ b, Tr b → s.heap.get? b = some (ObX s b) := fun b t => hobj (hf b t)
    have nfs : ∀ b, Tr b → b ∉ frs outer := fun b t m => by
      have z := e0.frf b m
      rw [hf b t] at z; cases z
    have e1 : Env0 G.P G.w G.K G.mg G.base A outer s (hDn Tr H) := ⟨e0.frames, e0.mod, fun b o e => ⟨(e0.bs b o e).1, by
        unfold hDn; split <;> first | rfl | exact (e0.bs b o e).2⟩, e0.bsz, e0.funs, fun b m => by unfold hDn; split <;> first | rfl | exact e0.frf b m, hok_dn e0.hok hf', e0.bare⟩
    have sr1 : SR G ρ (hDn Tr H) S := sr.dn hf' fun a m t => nρ a t (.inr m)
    have rd1 : RepL G oc0 ρ (hDn Tr H) (ds ++ caps) (vs ++ ws) := RepL.dn hf' _ (by rw [cleans_app, cd, cc]; rfl) (rd.append rw')
    -- the run at the lower heap
    have core : codeAny (model G.P G.w) A (.call (.ref f) ⟨us, []⟩) (CR (L2N.CX G.P G.w) outer G.P G.w (hDn Tr H) s (fun v H' => (∀ b, Tr b → H' b = none) → Q v (hUp Tr (ObX s) H')) (fun c dd H' => (∀ b, Tr b → H' b = none) → E c dd (hUp Tr (ObX s) H'))) s := by
      have hoF := e0.hok f _ cat.obj
      obtain ⟨⟨pm, ctv, hof⟩, _, _⟩ := hoF
      obtain ⟨⟨ocd, vcd, tcd, hoc, hdc, hvc⟩, _, _⟩ := e0.hok c' _ cat.code
      have hlv : vs.length = ps.length := by rw [rd.length, hlen.1, hps]
      have lim : s.heap.NoLimit := e0.mod.nolimit.keeps fun b o e => (e0.bs b o e).1
      refine PySem.W.kla_callFunE hr.depth hof rfl LF.sc.co LF.sc.gen rfl ⟨c', ocd, vcd, tcd, rfl, hoc, hdc, hvc⟩ ?_
      rw [LF.bind _ _ _ _ _ us (by rw [← rv.length]; exact hlv)]
      refine wpAny_pure (wpAny_newFunctionEnv LF.sc.nocell (fun ⟨n, _⟩ hy => LF.sc.par n (List.of_mem_zip hy).1) (fun h₁ hns hsb => ⟨lim.fresh _ hsb, ?_⟩) LF.sc.kind)
      show codeAny _ _ (.expr body (NdefX.envF ⟨"<lambda>", q, params, [], scope, cl, c'⟩ f s.heap.objs.size)) _ _
      have kp : ∀ b o, s.heap.get? b = some o → h₁.get? b = some o := fun b o e => hsb.extBut b o (Nat.ne_of_lt (Heap.lt_size e)) (Heap.get?_push_of_some _ e)
      have CA : NdefX.CellsAt cl fr (ws.map some) s.heap (hDn Tr H) := by
        refine ⟨by rw [List.length_map]; exact hlw, fun y c e => ⟨hDn_t (tr' e), ?_⟩, cat.inj, fun i y hi => ?_⟩
        · obtain ⟨o, u, h1, h2, _⟩ := cellAt y c e
          exact ⟨some u, o, hobj h1, h2⟩
        · have hlt : i < ws.length := by rw [hlw]; exact (List.getElem?_eq_some_iff.mp hi).1
          obtain ⟨c2, e2, ⟨o, u, h1, h2, h3⟩, _⟩ := hcells i y ws[i] hi (by simp [hlt])
          refine ⟨c2, e2, fun v hv => ?_⟩
          rw [List.getElem?_map, List.getElem?_eq_getElem hlt] at hv
          have hv : ws[i] = v := by simpa using hv
          subst hv
          exact ⟨u, h3, o, hobj h1, h2⟩
      have I := NdefX.inv_startN (CX := L2N.CX G.P G.w) (N := ps ++ fr) (F := ⟨"<lambda>", q, params, [], scope, cl, c'⟩) (f := f) (E := fun c dd H' => (∀ b, Tr b → H' b = none) → E c dd (hUp Tr (ObX s) H')) (tk := s.toks + (ps.zip us).length) LF.sc hr.hd e1 hlv rv CA hns kp
      have hst : NdefX.startF (ps ++ fr) vs (ws.map some) = (vs ++ ws).map some := by
        unfold NdefX.startF
        have : (ps ++ fr).length - vs.length - (ws.map some).length = 0 := by rw [List.length_append, List.length_map, hlv, hlw]; omega
        rw [this]; simp
      rw [hst] at I
      refine PySem.W.kla_codeExpr (wpAny_mono ((hb q cl c' f A outer s (hDn Tr H) _ (hr.deeper _)).run [] _ _ _ (fun v H' => (∀ b, Tr b → H' b = none) → Q v (hUp Tr (ObX s) H')) I ⟨(ds ++ caps).map some, ρ, S, rep_map rd1, sr1, ?_⟩) (fun v s' hq => ?_) fun e s' hq => hq)
      · cases qr : (evP l.body { F' with lm := false }).e ((ds ++ caps).map some) S with
        | bad => rw [qr] at h; exact h
        | exc x S' =>
          rw [qr] at h
          intro c dd H' ρ' e s' r hn
          exact h c dd _ ρ' (ext_up hf hn s' e) (s'.grow (keep_up hn)) (xrep_up hn r)
        | ok d S' =>
          rw [qr] at h
          intro v H' ρ' e s' r hn
          exact h v _ ρ' (ext_up hf hn s' e) (s'.grow (keep_up hn)) (Rep.ext (ext_of (keep_up hn)).toExt0 d r)
      · obtain ⟨w', H', J, rv', qq⟩ := hq
        exact ⟨w', H', J.os, J.bare, J.base, J.hok, rv', qq⟩
    refine codeAny_mono core fun r s' hq => ?_
    cases r with
    | error e =>
      have hq : L2N.CX G.P G.w outer (hDn Tr H) s _ e s' := hq
      obtain ⟨b, B, H', cls, d, ee, fl, hok, ub, na, os, ag, w⟩ := hq
      have hn : ∀ b, Tr b → H' b = none := fun b t => ub.free b _ (hdat b t) (hDn_t t)
      have hg : ∀ b, Tr b → B.get? b = some (ObX s b) := fun b t => ub.keep b _ (hdat b t) (hDn_t t) (nfs b t)
      refine ⟨b, B, hUp Tr (ObX s) H', cls, d, ee, fl, hok_up hok hg hn, ub_up ub hf, ?_, os, ag, w hn⟩
      have nt : ¬ Tr b := fun t => by
        have z := hg b t
        obtain ⟨_, zz, _⟩ := fl
        rw [zz] at z
        cases z
      rw [hUp_n nt]; exact na
    | ok fl =>
      cases fl with
      | ret u =>
        have hq : CE outer G.P G.w (hDn Tr H) s _ u s' := hq
        obtain ⟨v, H', os, ag, un, hok, rv', w⟩ := hq
        have hn : ∀ b, Tr b → H' b = none := fun b t => un.free b _ (hdat b t) (hDn_t t) (by simp)
        have hg : ∀ b, Tr b → s'.heap.get? b = some (ObX s b) := fun b t => un.keep b _ (hdat b t) (hDn_t t) (nfs b t) (by simp)
        exact ⟨v, hUp Tr (ObX s) H', os, ag, un_up un hf, hok_up hok hg hn, rv', w hn⟩
      | next => exact False.elim hq
      | brk => exact False.elim hq
      | cont => exact False.elim hq
  · rw [if_neg hlen] at h; exact h.elim
end LT
set_option Elab.async false
set_option linter.all false
set_option maxRecDepth 100000
set_option maxHeartbeats 4000000
/-! Own layer, part G: lambdas made; calls as expressions; comprehensions and texts as expressions. -/
namespace LT
open PySem PySem.Spec PyProof.Rows L2 LamX NdefX
section
variable {X : Cx} {pins : List (Addr × Obj)} {σ : L2.St} {H : Hp} {s : Shared}
/-- a lambda's object just made is known from now on -/
theorem inv_lam {q : Str} {params : Arguments} {body : Expr} {scope : Scope} {cl : List (Str × Addr)} {c' : Addr} {t' : Nat} {pm ctv : Value} (I : Inv X pins σ H s) :
    Inv X pins σ (upd H s.heap.objs.size (LamO s.heap.objs.size q params body scope cl c')) { s with heap := s.heap.push (PySem.W.kla_obj "<lambda>" q params body scope cl pm c' ctv), toks := t' } := by
  refine I.laid (a := s.heap.objs.size) (fun b u e => Heap.get?_push_of_some _ e) (Nat.le_refl _) ?_
  have e : (s.heap.push (PySem.W.kla_obj "<lambda>" q params body scope cl pm c' ctv)).get? s.heap.objs.size = some (PySem.W.kla_obj "<lambda>" q params body scope cl pm c' ctv) := Heap.get?_push_size _ rfl
  exact ⟨⟨pm, ctv, e⟩, ⟨_, e⟩, fun h1 h2 ⟨pm, ctv, z⟩ st => ⟨pm, ctv, st _ z⟩⟩
/-- the lambda is made: its code object is new, or found in the table -/
theorem lam_makeN {T : List NTab} {nm : Nat → Nat → Str} {c P : Addr} {params : Arguments} {body : Expr} {scope : Scope} {pos : Pos} {E : Value → Shared → Prop} {Q : Value → Shared → Prop} (I : Inv X pins σ H s) (TB : TabB X.base X.mg c P) (hcode : X.env.code = .ref c)
    (hm : (P, nm) ∈ T) (hn : nm pos.line pos.col = X.env.qual ++ "<lambda>") (hu : ∀ p ∈ T, p.1 = P → p.2 = nm) (hT : TabsN T H) (hdef : defaultsOf params X.env = ([], [])) (hfree : ∀ y ∈ scope.names, y.2 = .free → ∃ c, X.env.cells.lookup y.1 = some c)
    (h : ∀ (f c' : Addr) (H1 : Hp) (s' : Shared), Inv X pins σ H1 s' → ExtN H H1 → (∀ b, H1 b = Option.none → H b = Option.none) → (∀ b ps, H b = some (.tbl ps) → ∃ ps', H1 b = some (.tbl ps')) → TabsN T H1 → H f = none → H c' = none ∨ H c' = some (CodeO c' (X.env.qual ++ "<lambda>")) →
      H1 f = some (LamO f (X.env.qual ++ "<lambda>") params body scope (cloFrom X.env.cells scope.names []) c') → H1 c' = some (CodeO c' (X.env.qual ++ "<lambda>")) → Q (.ref f) s') :
    wpAny (model X.prog X.w) X.A (eval (.Lambda params body scope pos) X.env) Q E s := by
  obtain ⟨ps, hP, ht, ha⟩ := (show TabN H P nm from hT _ hm)
  refine PySem.W.kla_eval hdef ?_
  have bP : s.heap.BuiltinsAt X.mg P := TB.bm.keeps I.bk
  have hP' : s.heap.get? P = some { cls := .none, data := .fields ps } := I.hok P _ hP
  cases hc : codeAmong pos ps.toList with
  | none =>
    refine PySem.W.kla_makeFunction (mg := X.mg) (c := c) (P := P) (ps := ps) (closure_ok hfree) I.ok.glob (I.mod.glob.keeps I.bk) hcode (TB.code.keeps I.bk) hP' ht hc TB.gP bP fun c' ctv h' tk hx hge hlt hrec htb => ?_
    obtain ⟨c2, oc, vs, t, e2, hoc, hd, hv⟩ := hrec
    cases e2
    have nC : H c' = none := I.hok.fresh hge
    have I1 := inv_table (t' := tk) (more := #[rawInt pos.line, rawInt pos.col, .ref c']) (h' := h') I hP (fun b o hb e => hx b o hb e) htb hge ⟨oc, vs, t, hoc, hd, hv⟩
    have hE : ExtN H (upd (upd H P (.tbl (ps ++ #[rawInt pos.line, rawInt pos.col, .ref c']))) c' (CodeO c' (X.env.qual ++ "<lambda>"))) := fun b o e n => by
      rw [upd_ne (ne_of_none e nC), upd_ne (fun z => n ps (Option.some.inj (e.symm.trans (by rw [z]; exact hP))))]
      exact e
    have eL : (ps ++ #[rawInt pos.line, rawInt pos.col, .ref c']).toList = ps.toList ++ [rawInt pos.line, rawInt pos.col, .ref c'] := by simp
    have T1 : TabsN T (upd (upd H P (.tbl (ps ++ #[rawInt pos.line, rawInt pos.col, .ref c']))) c' (CodeO c' (X.env.qual ++ "<lambda>"))) := fun p hp => by
      by_cases hb : p.1 = P
      · rw [hu p hp hb, hb]
        refine ⟨_, by rw [upd_ne (ne_of_none hP nC), upd_same], by rw [eL]; exact PySem.TriplesOk_snoc _ _ _ _ ht, fun p' cv hcv => ?_⟩
        rw [eL] at hcv
        rcases among_app2 _ ht hcv with z | ⟨z, z1, z2⟩
        · obtain ⟨c0, e1, e2⟩ := ha p' cv z
          exact ⟨c0, e1, hE _ _ e2 codeO_ne⟩
        · refine ⟨c', z, ?_⟩
          rw [← z1, ← z2, hn]
          exact upd_same
      · obtain ⟨ps', a1, a2, a3⟩ := hT p hp
        refine ⟨ps', by rw [upd_ne (ne_of_none a1 nC), upd_ne hb]; exact a1, a2, fun p' cv hcv => ?_⟩
        obtain ⟨c0, e1, e2⟩ := a3 p' cv hcv
        exact ⟨c0, e1, hE _ _ e2 codeO_ne⟩
    have nF := I1.hok.fresh (Nat.le_refl _)
    have I2 := inv_lam (q := X.env.qual ++ "<lambda>") (params := params) (body := body) (scope := scope) (cl := cloFrom X.env.cells scope.names []) (c' := c') (t' := tk) (pm := (X.mg "__name__").getD .none) (ctv := ctv) I1
    refine h h'.objs.size c' _ _ I2 (fun b o e n => ?_) (fun b e => upd_none (upd_none (upd_none e))) (fun b qs e => ?_) (T1.ext fun b o e => ?_) (I.hok.fresh (Nat.le_trans hge (Nat.le_of_lt hlt))) (.inl nC) upd_same ?_
    · have e1 := hE b o e n
      exact (upd_ne (ne_of_none e1 nF)).trans e1
    · have b1 : b ≠ h'.objs.size := ne_of_none e (I.hok.fresh (Nat.le_trans hge (Nat.le_of_lt hlt)))
      by_cases hb : b = P
      · exact ⟨_, by rw [upd_ne b1, upd_ne (ne_of_none e nC), hb, upd_same]⟩
      · exact ⟨qs, by rw [upd_ne b1, upd_ne (ne_of_none e nC), upd_ne hb]; exact e⟩
    · exact (upd_ne (ne_of_none e nF)).trans e
    · exact (upd_ne (Nat.ne_of_lt hlt)).trans upd_same
  | some cv =>
    obtain ⟨c', e, hco⟩ := ha pos cv hc
    subst e
    rw [hn] at hco
    refine PySem.W.kla_makeFunctionHit (mg := X.mg) (c := c) (P := P) (ps := ps) (closure_ok hfree) I.ok.glob (I.mod.glob.keeps I.bk) hcode (TB.code.keeps I.bk) hP' ht hc bP fun ctv h' tk hx hsz => ?_
    have I1 : Inv X pins σ H { s with heap := h', toks := tk } := I.kept hx
    have nF : H h'.objs.size = none := I1.hok.fresh (Nat.le_refl _)
    have I2 := inv_lam (q := X.env.qual ++ "<lambda>") (params := params) (body := body) (scope := scope) (cl := cloFrom X.env.cells scope.names []) (c' := c') (t' := tk) (pm := (X.mg "__name__").getD .none) (ctv := ctv) I1
    refine h h'.objs.size c' _ _ I2 (fun b o e n => ?_) (fun b e => upd_none e) (fun b qs e => ⟨qs, (upd_ne (ne_of_none e nF)).trans e⟩) (hT.ext fun b o e => ?_) nF (.inr hco) upd_same ?_
    · exact (upd_ne (ne_of_none e nF)).trans e
    · exact (upd_ne (ne_of_none e nF)).trans e
    · exact (upd_ne (ne_of_none hco nF)).trans hco
end
section
variable {X : Cx} {la : Nat → Arguments → Expr → Scope → List Str → Prop} {T : List NdefX.NTab} {oc : Nat → Option Addr} {W : WX} {F : Fns} {pos : Pos}
/-- what a frame with lambdas knows -/
structure LmX (X : Cx) (T : List NTab) (nm : Nat → Nat → Str) : Prop where
  tb : ∃ c P, TabB X.base X.mg c P ∧ X.env.code = .ref c ∧ (P, nm) ∈ T ∧ ∀ p ∈ T, p.1 = P → p.2 = nm
  fn : ∀ x, X.fn x = true
  cl : ∀ y c, X.env.cells.lookup y = some c → X.env.kindOf y = some .cell
/-- a lambda -/
theorem de_lam {nm : Nat → Nat → Str} {k : Nat} {caps : List Nat} {params : Arguments} {body : Expr} {scope : Scope} {fr : List Str} (L : LmX X T nm) (hn : nm pos.line pos.col = X.env.qual ++ "<lambda>") (hdef : defaultsOf params X.env = ([], [])) (hla : la k params body scope fr)
    (hfree : ∀ y ∈ scope.names, y.2 = .free → X.env.scope.names.lookup y.1 = some .cell) (hfr : ∀ y ∈ scope.names, y.2 = .free → y.1 ∈ fr) (hfr2 : ∀ y ∈ fr, (y, NameKind.free) ∈ scope.names) (hcaps : caps.map (fun j => X.N[j]?) = fr.map some) :
    DE (gX X la T) (ocOf X) X W (fun env S => .ok (.own k caps) S) (.Lambda params body scope pos) := by
  refine ⟨fun pins s σ H Q I h => ?_⟩
  obtain ⟨env, ρ, S, er, sr, h⟩ := h
  obtain ⟨c, P, TB, hcode, hm, hu⟩ := L.tb
  have hf : ∀ y ∈ scope.names, y.2 = .free → ∃ c, X.env.cells.lookup y.1 = some c := fun y hy e => I.ok.has _ (.inl (hfree y hy e))
  refine lam_makeN I TB hcode hm hn hu sr.tab hdef hf fun f c' H1 s' I1 eN gn _ T1 hf0 hc0 hf1 hc1 => ?_
  have nfρ : f ∉ ρ := sr.not_mem hf0
  have ncρ : c' ∉ ρ := by
    rcases hc0 with z | z
    · exact sr.not_mem z
    · rintro (m | m)
      · obtain ⟨n, e⟩ := List.mem_iff_getElem?.mp m
        obtain ⟨o, _, hs⟩ := sr.lt e
        cases o with
        | lst ds => obtain ⟨vs, q, _⟩ := hs; rw [z] at q; unfold CodeO at q; cases q
        | ins cn fs => obtain ⟨C, dx, vs, _, q, _⟩ := hs; rw [z] at q; unfold CodeO at q; cases q
      · obtain ⟨xs, q⟩ := (sr.vol c' m).1
        rw [z] at q; unfold CodeO at q; cases q
  have e1 : Ext ρ H ρ H1 := ⟨⟨List.prefix_refl _, fun b o h _ n => eN b o h n, gn, fun b m n => absurd m n⟩, rfl, fun b _ o h n => eN b o h n⟩
  have s1 : SR (gX X la T) ρ H1 S := by
    refine sr.mapV e1.toExt0 rfl (fun a m => ?_) (fun a m => ⟨(sr.vol a m).1.imp fun xs z => eN a _ z (fun ps z => by cases z), (sr.vol a m).2⟩) T1
    obtain ⟨n, e⟩ := List.mem_iff_getElem?.mp m
    obtain ⟨o, _, hs⟩ := sr.lt e
    cases o with
    | lst ds => obtain ⟨vs, q, _⟩ := hs; rw [q]; exact eN a _ q fun ps z => by cases z
    | ins cn fs => obtain ⟨C, dx, vs, _, q, _⟩ := hs; rw [q]; exact eN a _ q fun ps z => by cases z
  refine ⟨.ref f, H1, I1, rfl, h _ _ ρ e1 s1 ?_⟩
  simp only [Rep]
  have hcm : ∀ y cc, (cloFrom X.env.cells scope.names []).lookup y = some cc → X.env.cells.lookup y = some cc := fun y cc e => clo_cm hf e
  have hlen : caps.length = fr.length := by
    have q := congrArg List.length hcaps
    simpa using q
  refine ⟨f, c', _, params, body, scope, _, fr, rfl, ⟨hf1, nfρ, hc1, ncρ, hla, fun x y cc a b => I.ok.inj x y cc (hcm _ _ a) (hcm _ _ b), fun y cc e => ?_⟩, hlen, fun j y i a b => ?_⟩
  · rcases cloFrom_mem (PySem.mem_of_lookup e) with hm | ⟨h1, _⟩
    · cases hm
    · exact hfr _ h1 rfl
  · have hy := List.mem_of_getElem? a
    obtain ⟨cc, hcc⟩ := hf _ (hfr2 y hy) rfl
    refine ⟨cc, clo_has hf (hfr2 y hy) hcc, ?_⟩
    have q : (caps.map fun j => X.N[j]?)[j]? = (fr.map some)[j]? := by rw [hcaps]
    rw [List.getElem?_map, List.getElem?_map, a, b] at q
    have q : X.N[i]? = some y := by simpa using q
    unfold ocOf
    rw [q]
    exact hcc
end
end LT
set_option Elab.async false
set_option linter.all false
set_option maxRecDepth 100000
set_option maxHeartbeats 4000000
/-! Own layer, part G2: calls, comprehensions, texts as expressions. -/
namespace LT
open PySem PySem.Spec PyProof.Rows L2 LamX NdefX
theorem evalArgs_nilS {M : Model} {A : Around} {E : Value → Shared → Prop} {s : Shared} {f : Value} {Q : Args → Shared → Prop} (h : wpAny M A (spliced []) (fun vs s' => Q ⟨vs, []⟩ s') E s) : wpAny M A (evalArgs f true [] []) Q E s := by
  unfold evalArgs
  show wpAny M A (spliced [] >>= _) Q E s
  refine wpAny_bind (wpAny_mono h (fun vs s' h' => ?_) fun _ _ x => x)
  refine wpAny_bind (wpAny_pure ?_)
  refine wpAny_holding ?_
  exact wpAny_pure h'
/-- a def of the program, with k frames left -/
structure CalF (G : GI) (F : Fns) (k : Nat) (f : Str) (n : Nat) (a : Addr) : Prop where
  mg : G.mg f = some (.ref a)
  keep : PySem.W.keepIn G.K (.ref a) = true
  ok : ∃ (fd : FuncData) (ps : List Str), ps.length = n ∧ Binds G.K fd ps [] ∧ FnOk G.P G.w G.K G.mg G.base (L2N.CX G.P G.w) k a fd ps (spF G F f n)
/-- what a context with its lambdas must know -/
structure Kin (la : Nat → Arguments → Expr → Scope → List Str → Prop) (T : List NTab) (oc : Nat → Option Addr) (W : WX) (F : Fns) (X : Cx) (k : Nat) : Prop where
  nd : X.N.Nodup
  calm : X.calm = true
  hu : X.A.units + 100 < cLine
  rm : Room k X.A
  tk : L2N.Takes X W
  pl : F.lm = false → oc = oc0
  lm : F.lm = true → oc = ocOf X ∧ (∀ x, X.fn x = true) ∧ ∀ y c, X.env.cells.lookup y = some c → X.env.kindOf y = some .cell
section
variable {X : Cx} {la : Nat → Arguments → Expr → Scope → List Str → Prop} {T : List NdefX.NTab} {oc : Nat → Option Addr} {W : WX} {F : Fns} {pos : Pos} {k : Nat}
theorem call_fn {f : Str} {a : Addr} {n : Nat} (K : Kin la T oc W F X k) (C : CalF (gX X la T) F k f n a)
    {pins : List (Addr × Obj)} {σ : L2.St} {H : Hp} {s : Shared} {Q : VK} {us : List Value} {vs : List V} {env : Env'} {ρ : Pl} {S : Sto} {ds : List D} (hl : vs.length = n) (I : Inv X pins σ H s) (er : ER (gX X la T) oc ρ H env σ) (sr : SR (gX X la T) ρ H S) (rv : Vals vs us) (rd : RepL (gX X la T) oc ρ H ds vs)
    (h : tG (gX X la T) (RD (gX X la T) oc) (callE F env f ds S) ρ H Q (fun c dd H' => W c dd σ H')) : wpAny (model X.prog X.w) X.A (call (.ref a) us) (EP X pins σ Q) X.xe s := by
  obtain ⟨fd, ps, hps, hb, Fo⟩ := C.ok
  subst hps
  cases hlm : F.lm with
  | false =>
    have e := K.pl hlm
    subst e
    exact call_plain hlm Fo K.rm hb K.tk hl I sr rv rd h
  | true =>
    obtain ⟨e, h1, h2⟩ := K.lm hlm
    subst e
    exact call_lm hlm h1 h2 Fo K.rm hb K.tk hl I er sr rv rd h
/-- f(e, ..) -/
theorem de_call {f : Str} {a : Addr} {p : Pos} {l : List Ev} {es : List Expr} (K : Kin la T oc W F X k) (C : CalF (gX X la T) F k f l.length a) (hg : Gl X f) (hdb : (f == ("__debug__" : Str)) = false) (hs : DA (gX X la T) oc X W (evEs l) es) (nss : es.all noStar = true) :
    DE (gX X la T) oc X W (fun env S => (evEs l env S).bind fun xs S => callE F env f xs S) (.Call (.Name f p) es [] pos) := by
  refine ⟨fun pins s σ H Q I h => ?_⟩
  obtain ⟨env, ρ, S, er, sr, h⟩ := h
  refine wpAny_Call_Name_kw (ld_glob I hg C.mg ?_ hdb)
  have fin := hs.run pos pins s σ H _ I (bindE er sr h)
  have go : ∀ us s1, AP X pins σ (fun x H1 => ∃ d ρ1 S1, evEs l env S = .ok d S1 ∧ Ext ρ H ρ1 H1 ∧ SR (gX X la T) ρ1 H1 S1 ∧ RepL (gX X la T) oc ρ1 H1 d x ∧ tG (gX X la T) (RD (gX X la T) oc) (callE F env f d S1) ρ1 H1 Q fun c dd H' => W c dd σ H') us s1 →
      X.K.In s1.heap ∧ wpAny (model X.prog X.w) X.A (call (.ref a) us) (EP X pins σ Q) X.xe s1 := fun us s1 ⟨vs, H1, I1, rv, d, ρ1, S1, eq, e1, s1', r1, q1⟩ =>
    ⟨I1.kIn, call_fn K C (by rw [r1.length, evEs_len eq]) I1 (er.ext e1.toExt0) s1' rv r1 q1⟩
  cases es with
  | nil => exact PySem.W.callWith_of rfl (PySem.W.keeps_K C.keep) (evalArgs_nilS (thn fin go))
  | cons e es =>
    simp only [List.all_cons, Bool.and_eq_true] at nss
    exact PySem.W.callWith_K (h₀ := X.base) I.ok.mod.kin C.keep (thn fin go) (star_cons nss.1) (star_any nss.2)
/-- x(e, ..), x a name of the frame -/
theorem de_callv {i : Nat} {x : Str} {p : Pos} {l : List Ev} {es : List Expr} (K : Kin la T oc W F X k) (CF : ∀ f, F.fnv f = true → ∃ n a, CalF (gX X la T) F k f n a ∧ ∀ xs S, xs.length ≠ n → F.call f xs S = .bad) (LF : ∀ j, LamOk (gX X la T) F k j) (hN : X.N[i]? = some x) (hv : Vis X.env.scope x) (hdb : (x == ("__debug__" : Str)) = false) (hcd : (x == ("__classdict__" : Str)) = false)
    (hs : DA (gX X la T) oc X W (evEs l) es) (nss : es.all noStar = true) :
    DE (gX X la T) oc X W (fun env S => match (env[i]?).join with
    | some (.fn f) => if F.fnv f then (evEs l env S).bind fun xs S => callE F env f xs S else .bad
    | some (.clo k caps) => if F.lm then .bad else (evEs l env S).bind fun xs S => if D.cleans xs then F.lam k caps xs S else .bad
    | _ => .bad) (.Call (.Name x p) es [] pos) := by
  refine ⟨fun pins s σ H Q I h => ?_⟩
  obtain ⟨env, ρ, S, er, sr, h⟩ := h
  dsimp only at h
  cases q : (env[i]?).join with
  | none => rw [q] at h; exact h.elim
  | some d =>
    rw [q] at h
    have q' : env[i]? = some (some d) := by
      cases z : env[i]? with
      | none => rw [z] at q; cases q
      | some o => rw [z] at q; rw [show o = some d from q]
    obtain ⟨v, h1, h2⟩ := er.at_ i d q'
    refine wpAny_Call_Name_kw (thn ((pe_var (pos := p) hN hv hdb hcd).run pins s σ H (fun w H1 => w = v ∧ H1 = H) I ⟨v, h1, rfl, rfl⟩) fun u s1 ⟨w, H1, I1, rw1, q1⟩ => ?_)
    obtain ⟨e1, e2⟩ := q1
    subst e1 e2
    cases d with
    | fn f =>
      dsimp only at h
      by_cases hf : F.fnv f = true
      · rw [if_pos hf] at h
        obtain ⟨n, a, C, hbad⟩ := CF f hf
        simp only [Rep] at h2
        obtain ⟨a', rfl, ha⟩ := h2
        have ha : X.mg f = some (.ref a') := ha
        have ea : a' = a := by
          have z := C.mg
          rw [show (gX X la T).mg f = X.mg f from rfl, ha] at z
          cases z; rfl
        subst ea
        cases rw1
        have fin := hs.run pos pins s1 σ H1 _ I1 (bindE er sr h)
        have go : ∀ us s2, AP X pins σ (fun x H2 => ∃ d ρ1 S1, evEs l env S = .ok d S1 ∧ Ext ρ H1 ρ1 H2 ∧ SR (gX X la T) ρ1 H2 S1 ∧ RepL (gX X la T) oc ρ1 H2 d x ∧ tG (gX X la T) (RD (gX X la T) oc) (callE F env f d S1) ρ1 H2 Q fun c dd H' => W c dd σ H') us s2 →
            X.K.In s2.heap ∧ wpAny (model X.prog X.w) X.A (call (.ref a') us) (EP X pins σ Q) X.xe s2 := fun us s2 ⟨vs, H2, I2, rv, d, ρ1, S1, eq, e1, s1', r1, q1⟩ => by
          refine ⟨I2.kIn, ?_⟩
          by_cases hlen : d.length = n
          · exact call_fn K C (by rw [r1.length]; exact hlen) I2 (er.ext e1.toExt0) s1' rv r1 q1
          · exfalso
            unfold callE at q1
            cases hp : pubIf F env d with
            | none => rw [hp] at q1; exact q1
            | some ys =>
              have hy : ys.length = d.length := by
                unfold pubIf at hp
                split at hp
                · have : ∀ (ds ys : List D), D.pubs env ds = some ys → ys.length = ds.length := fun ds => by
                    induction ds with
                    | nil => intro ys e; simp only [D.pubs, Option.some.injEq] at e; rw [← e]
                    | cons d ds ih =>
                      intro ys e
                      simp only [D.pubs] at e
                      cases g1 : D.pub env d with
                      | none => rw [g1] at e; simp at e
                      | some p => cases g2 : D.pubs env ds with
                        | none => rw [g1, g2] at e; simp at e
                        | some ps =>
                          rw [g1, g2] at e
                          simp only [Option.some.injEq] at e
                          rw [← e, List.length_cons, List.length_cons, ih ps g2]
                  exact this d ys hp
                · cases hp; rfl
              rw [hp] at q1
              dsimp only at q1
              rw [hbad ys S1 (by rw [hy]; exact hlen)] at q1
              exact q1
        cases es with
        | nil => exact PySem.W.callWith_of rfl (PySem.W.keeps_K C.keep) (evalArgs_nilS (thn fin go))
        | cons e es =>
          simp only [List.all_cons, Bool.and_eq_true] at nss
          exact PySem.W.callWith_K (h₀ := X.base) I.ok.mod.kin C.keep (thn fin go) (star_cons nss.1) (star_any nss.2)
      · rw [if_neg hf] at h; exact h.elim
    | clo j caps =>
      dsimp only at h
      cases hlm : F.lm with
      | true => rw [hlm] at h; exact h.elim
      | false =>
        rw [hlm] at h
        simp only [Bool.false_eq_true, if_false] at h
        have e := K.pl hlm
        subst e
        obtain ⟨f', c', qq, params, body, scope, cl, fr, ws, rfl, cat, _⟩ := (show ∃ f c' q params body scope cl fr vs, w = V.ref f ∧ CloAt (gX X la T) ρ H1 j f c' q params body scope cl fr ∧ _ from by simpa only [Rep] using h2)
        cases rw1
        have fnat : ∀ {H2 : Hp} {s2 : Shared} {ρ2 : Pl}, Inv X pins σ H2 s2 → Ext ρ H1 ρ2 H2 → PySem.W.FnAt f' s2.heap := fun {H2 s2 ρ2} I2 e => by
          have z := (cat.ext e.toExt0).obj
          obtain ⟨⟨pm, ctv, ho⟩, _, _⟩ := I2.hok f' _ z
          exact ⟨_, _, _, _, ho⟩
        have fin := hs.run pos pins s1 σ H1 _ I1 (bindE er sr h)
        have go : ∀ us s2, AP X pins σ (fun x H2 => ∃ d ρ1 S1, evEs l env S = .ok d S1 ∧ Ext ρ H1 ρ1 H2 ∧ SR (gX X la T) ρ1 H2 S1 ∧ RepL (gX X la T) oc0 ρ1 H2 d x ∧ tG (gX X la T) (RD (gX X la T) oc0) (if D.cleans d then F.lam j caps d S1 else .bad) ρ1 H2 Q fun c dd H' => W c dd σ H') us s2 →
            PySem.W.FnAt f' s2.heap ∧ wpAny (model X.prog X.w) X.A (call (.ref f') us) (EP X pins σ Q) X.xe s2 := fun us s2 ⟨vs, H2, I2, rv, d, ρ1, S1, eq, e1, s1', r1, q1⟩ => by
          refine ⟨fnat I2 e1, ?_⟩
          by_cases cd : D.cleans d = true
          · rw [if_pos cd] at q1
            refine wpAny_call (codeAny_mono ((LF j).run X.A X.stack s2 H2 f' us vs caps d ρ1 S1 Q _ K.rm I2.env0 rv s1' (Rep.ext e1.toExt0 _ h2) r1 cd q1) fun r s' hq => ?_)
            cases r with
            | error e => exact L2N.passAt K.tk σ pins H2 s2 e s' I2 hq
            | ok fl =>
              cases fl with
              | ret u => exact I2.after hq
              | next => exact False.elim hq
              | brk => exact False.elim hq
              | cont => exact False.elim hq
          · rw [if_neg cd] at q1; exact q1.elim
        cases es with
        | nil =>
          exact PySem.W.callWith_of rfl PySem.W.keeps_F (evalArgs_nilS (thn fin go))
        | cons e es =>
          simp only [List.all_cons, Bool.and_eq_true] at nss
          exact PySem.W.callWith_F (fnat I1 Ext.refl) (thn fin go) (star_cons nss.1) (star_any nss.2)
    | _ => exact h.elim
end
end LT
set_option Elab.async false
set_option linter.all false
set_option maxRecDepth 100000
set_option maxHeartbeats 4000000
/-! Own layer, part G3: targets, comprehensions, texts as expressions. -/
namespace LT
open PySem PySem.Spec PyProof.Rows L2 LamX NdefX
section
variable {X : Cx} {la : Nat → Arguments → Expr → Scope → List Str → Prop} {T : List NdefX.NTab} {oc : Nat → Option Addr} {W : WX} {F : Fns} {pos : Pos} {k : Nat}
/-! ### targets -/
/-- a plain name of the frame that may be stored -/
def LocX (X : Cx) (x : Str) : Prop := Loc X.env.scope x ∧ (X.fn x = true ∨ X.env.scope.names.lookup x = some .local)
theorem pg_it_name {i : Nat} {x : Str} {p : Pos} (hN : X.N.Nodup) (hi : X.N[i]? = some x) (h : LocX X x) : PG X (.Name x p) (gIT X.K (.name i)) := pg_name hN hi h.1 h.2
inductive TNames (X : Cx) : List Nat → List Expr → Prop where
  | nil : TNames X [] []
  | cons {i : Nat} {x : Str} {p : Pos} {is : List Nat} {es : List Expr} (hi : X.N[i]? = some x) (h : LocX X x) (r : TNames X is es) : TNames X (i :: is) (.Name x p :: es)
theorem TNames.each {is : List Nat} {es : List Expr} (h : TNames X is es) : (assignEach es X.env).length = is.length ∧ (assignEach es X.env).findIdx? (·.1) = none := by
  induction h with
  | nil => exact ⟨by first | rfl | simp [assignEach], by first | rfl | simp [assignEach]⟩
  | @cons i x p is es hi h r ih =>
    have e : assignEach (.Name x p :: es) X.env = (false, assign (.Name x p) X.env) :: assignEach es X.env := by first | rfl | simp [assignEach]
    rw [e]
    refine ⟨by simp [ih.1], ?_⟩
    rw [List.findIdx?_cons]
    simp [ih.2]
theorem TNames.pgs (hN : X.N.Nodup) {is : List Nat} {es : List Expr} (h : TNames X is es) : PGs X es (gNames is) := by
  induction h with
  | nil => exact pgs_nil
  | cons hi h r ih => exact pgs_cons (pg_it_name hN hi h) ih
theorem pg_it_tup {is : List Nat} {es : List Expr} {kk : Nat} {p : Pos} (hc : X.calm = true) (hN : X.N.Nodup) (h : TNames X is es) : PG X (.Tuple es kk p) (gIT X.K (.tup is)) :=
  pg_tup hc (h.pgs hN) h.each.1 h.each.2
/-! ### comprehensions -/
def noSetB : Expr → Bool
  | .Set .. => false
  | _ => true
theorem noSet {iter : Expr} (h : noSetB iter = true) (env : Env) (x : Value) : foldedSetIterable iter env x = pure x := by
  unfold foldedSetIterable
  cases iter <;> first | rfl | cases h
section
variable {tgI : IT} {tg iter elt : Expr} {ifs : List Expr} {scope : Scope} {own : List (Str × Nat)} {mi : Env' → Sto → Res Itr} {mt : Env' → Sto → Res Bool} {me : Env' → Sto → Res D} {m : Bool}
abbrev cenvOf (X : Cx) (scope : Scope) (C : Addr) (cl : List (Str × Addr)) : Env := compEnvC scope cl C X.env
def compM (F : Fns) (tgI : IT) (own : List Nat) (mi : Env' → Sto → Res Itr) (mt : Env' → Sto → Res Bool) (me : Env' → Sto → Res D) (m : Bool) : Env' → Sto → Res D := fun env S => (mi env S).bind fun J S => (compGo J (bndC F tgI own env) (fun e S => (mt e S).calm) (fun e S => (me e S).calm) (J.count S + 1) 0 [] S).bind fun xs S => endC m xs S
theorem de_comp (htb : tupT tg = true → ∃ is, tgI = .tup is) (K : Kin la T oc W F X k) (hi : DI (gX X la T) oc X W mi tg iter) (ok : BlkOk X.N X.env.scope scope own) (hown : ∀ i ∈ tgI.is, i ∈ own.map (·.2))
    (hg : ∀ (s : Shared) (H : Hp) (C : Addr) (cl : List (Str × Addr)) (fp : List Addr), PG (X.blk s H scope (cenvOf X scope C cl) fp) tg (gIT X.K tgI))
    (ht : ∀ (s : Shared) (H : Hp) (C : Addr) (cl : List (Str × Addr)) (fp : List Addr), PTs (X.blk s H scope (cenvOf X scope C cl) fp) ifs (tM (gX X la T) oc0 RB W0 mt))
    (he : ∀ (s : Shared) (H : Hp) (C : Addr) (cl : List (Str × Addr)) (fp : List Addr), DE (gX X la T) oc0 (X.blk s H scope (cenvOf X scope C cl) fp) W0 me elt)
    (hs : noSetB iter = true) : DE (gX X la T) oc X W (compM F tgI (own.map (·.2)) mi mt me m) (.ListComp elt [⟨tg, iter, ifs, 0⟩] scope pos) :=
  PE.conseq (pe_lc K.calm K.nd hi ok hg ht he (noSet hs X.env)) fun σ H Q h => comp_core htb K.pl hown h
theorem ds_setComp {i : Nat} {y : Str} {py spos : Pos} (htb : tupT tg = true → ∃ is, tgI = .tup is) (K : Kin la T oc W F X k) (hy : X.N[i]? = some y) (hyl : X.env.scope.names.lookup y = some .local) (hsw : swapsWith (.ListComp elt [⟨tg, iter, ifs, 0⟩] scope pos) (some (.Name y py)) spos.line X.env = pure true)
    (hi : DI (gX X la T) oc X W mi tg iter) (ok : BlkOk X.N X.env.scope scope own) (hown : ∀ i ∈ tgI.is, i ∈ own.map (·.2))
    (hg : ∀ (s : Shared) (H : Hp) (C : Addr) (cl : List (Str × Addr)) (fp : List Addr), PG (X.blk s H scope (cenvOf X scope C cl) fp) tg (gIT X.K tgI))
    (ht : ∀ (s : Shared) (H : Hp) (C : Addr) (cl : List (Str × Addr)) (fp : List Addr), PTs (X.blk s H scope (cenvOf X scope C cl) fp) ifs (tM (gX X la T) oc0 RB W0 mt))
    (he : ∀ (s : Shared) (H : Hp) (C : Addr) (cl : List (Str × Addr)) (fp : List Addr), DE (gX X la T) oc0 (X.blk s H scope (cenvOf X scope C cl) fp) W0 me elt)
    (hs : noSetB iter = true) :
    PS X (.Assign [.Name y py] (.ListComp elt [⟨tg, iter, ifs, 0⟩] scope pos) spos) (tAsg (tM (gX X la T) oc (RD (gX X la T) oc) W (compM F tgI (own.map (·.2)) mi mt me m)) (gName i)) :=
  PS.conseq (ps_setLc K.calm K.nd hy hyl hsw hi ok hg ht he (noSet hs X.env)) fun σ H Q h => comp_core htb K.pl hown h
theorem dts_nil : PTs X [] (tM (gX X la T) oc RB W (fun _ S => .ok true S)) := ⟨fun pins s σ H Q I ⟨env, ρ, S, er, sr, h⟩ => pts_nil.run pins s σ H Q I (h true H ρ Ext.refl sr rfl)⟩
theorem dts_one {c : Expr} {mc : Env' → Sto → Res Bool} (h : DT (gX X la T) oc X W mc c) : PTs X [c] (tM (gX X la T) oc RB W mc) := pts_one h
end
/-! ### texts put together -/
theorem str_app_len (a b : Str) : (a ++ b).length = a.length + b.length := by
  show (a.cps ++ b.cps).size = a.cps.size + b.cps.size
  simp
/-- a part of f'..' -/
def DFp (X : Cx) (la : Nat → Arguments → Expr → Scope → List Str → Prop) (T : List NTab) (oc : Nat → Option Addr) (W : WX) (m : Env' → Sto → Res D) (e : Expr) : Prop :=
  ∃ t : TE, PE X e t ∧ ∀ {σ : L2.St} {H : Hp} {Q : VK} {env : Env'} {ρ : Pl} {S : Sto} (R : D → Sto → Res D) (Q' : VK), ER (gX X la T) oc ρ H env σ → SR (gX X la T) ρ H S →
    tG (gX X la T) (RD (gX X la T) oc) ((m env S).bind fun d S => match fstrOf d with | some y => if y.length ≤ lineN then R (.str y) S else .bad | none => .bad) ρ H Q' (fun c dd H' => W c dd σ H') →
    (∀ y ρ1 H1 S1, Ext ρ H ρ1 H1 → SR (gX X la T) ρ1 H1 S1 → tG (gX X la T) (RD (gX X la T) oc) (R (.str y) S1) ρ1 H1 Q' (fun c dd H' => W c dd σ H') → Q (.str y) H1) → t σ H Q
theorem dfp_fmt {m : Env' → Sto → Res D} {e : Expr} {p : Pos} (h : DE (gX X la T) oc X W m e) : DFp X la T oc W m (.FormattedValue e (-1) none p) := by
  refine ⟨_, pe_fmt h, fun {σ H Q env ρ S} R Q' er sr hg q => ?_⟩
  refine (bindR er sr hg).mono fun x H1 ⟨d, ρ1, S1, e1, s1, r1, q1⟩ => ?_
  cases d with
  | str y =>
    rw [show RD (gX X la T) oc ρ1 H1 (.str y) x = Rep (gX X la T) oc ρ1 H1 (.str y) x from rfl, rep_str] at r1
    simp only [fstrOf] at q1
    split at q1
    · rename_i c
      exact .inl ⟨y, r1, by rw [lineN_eq]; exact c, q y ρ1 H1 S1 e1 s1 q1⟩
    · exact q1.elim
  | int i =>
    rw [show RD (gX X la T) oc ρ1 H1 (.int i) x = Rep (gX X la T) oc ρ1 H1 (.int i) x from rfl, rep_int] at r1
    simp only [fstrOf] at q1
    by_cases c : i.natAbs.log2 < 1920
    · rw [if_pos c] at q1
      dsimp only at q1
      split at q1
      · exact .inr ⟨i, r1, c, q (toString i) ρ1 H1 S1 e1 s1 q1⟩
      · exact q1.elim
    · rw [if_neg c] at q1; exact q1.elim
  | _ => exact q1.elim
theorem dfp_str {z : Str} {j : Nat} {p : Pos} : DFp X la T oc W (fun _ S => .ok (.str z) S) (.Constant (.str z) j p) := by
  refine ⟨_, pe_str, fun {σ H Q env ρ S} R Q' er sr hg q => ?_⟩
  have hg : tG (gX X la T) (RD (gX X la T) oc) (if z.length ≤ lineN then R (.str z) S else .bad) ρ H Q' (fun c dd H' => W c dd σ H') := hg
  split at hg
  · exact q z ρ H S Ext.refl sr hg
  · exact hg.elim
inductive DFps (X : Cx) (la : Nat → Arguments → Expr → Scope → List Str → Prop) (T : List NTab) (oc : Nat → Option Addr) (W : WX) : List Ev → List Expr → Prop where
  | nil : DFps X la T oc W [] []
  | cons {v : Ev} {e : Expr} {l : List Ev} {es : List Expr} (h : DFp X la T oc W v.e e) (r : DFps X la T oc W l es) : DFps X la T oc W (v :: l) (e :: es)
theorem dfps_run {l : List Ev} {es : List Expr} (h : DFps X la T oc W l es) : ∃ ts, PJ X es ts ∧ ∀ {σ : L2.St} {H : Hp} {Q : VK} {env : Env'} {ρ : Pl} {S : Sto} (acc : Str), ER (gX X la T) oc ρ H env σ → SR (gX X la T) ρ H S →
    tG (gX X la T) (RD (gX X la T) oc) (evFs l acc env S) ρ H Q (fun c dd H' => W c dd σ H') → tJs ts acc σ H fun out H1 => Q (.str out) H1 := by
  induction h with
  | nil => exact ⟨[], .nil, fun {σ H Q env ρ S} acc er sr hg => okR sr hg (by simp only [Rep])⟩
  | @cons v e l es h r ih =>
    obtain ⟨t, ht, hp⟩ := h
    obtain ⟨ts, hts, hq⟩ := ih
    refine ⟨t :: ts, .cons ht hts, fun {σ H Q env ρ S} acc er sr hg => ?_⟩
    -- the part's own length is below the whole's
    have hg2 : tG (gX X la T) (RD (gX X la T) oc) ((v.e env S).bind fun d S => match fstrOf d with | some y => if y.length ≤ lineN then (match D.str y with | .str y => if (acc ++ y).length ≤ lineN then evFs l (acc ++ y) env S else .bad | _ => .bad) else .bad | none => .bad) ρ H Q (fun c dd H' => W c dd σ H') := by
      unfold evFs at hg
      cases q : v.e env S with
      | bad => rw [q] at hg; exact hg
      | exc x S1 => rw [q] at hg; exact hg
      | ok d S1 =>
        rw [q] at hg
        simp only [Res.bind] at hg ⊢
        cases q2 : fstrOf d with
        | none => rw [q2] at hg; exact hg
        | some y =>
          rw [q2] at hg
          dsimp only at hg ⊢
          by_cases c : (acc ++ y).length ≤ lineN
          · have cl : y.length ≤ lineN := by rw [str_app_len] at c; omega
            rw [if_pos c] at hg
            rw [if_pos cl, if_pos c]; exact hg
          · rw [if_neg c] at hg; exact hg.elim
    refine hp (fun d S => match d with | .str y => if (acc ++ y).length ≤ lineN then evFs l (acc ++ y) env S else .bad | _ => .bad) Q er sr hg2 fun y ρ1 H1 S1 e1 s1 q1 => ?_
    dsimp only at q1
    by_cases c : (acc ++ y).length ≤ lineN
    · rw [if_pos c] at q1
      exact ⟨y, rfl, by rw [lineN_eq]; exact c, hq (acc ++ y) (er.ext e1.toExt0) s1 q1⟩
    · rw [if_neg c] at q1; exact q1.elim
theorem de_fstr {v1 v2 : Ev} {l : List Ev} {e1 e2 : Expr} {es : List Expr} (h : DFps X la T oc W (v1 :: v2 :: l) (e1 :: e2 :: es)) : DE (gX X la T) oc X W (fun env S => evFs (v1 :: v2 :: l) Str.empty env S) (.JoinedStr (e1 :: e2 :: es) pos) := by
  obtain ⟨ts, hts, hq⟩ := dfps_run h
  exact PE.conseq (pe_joined hts) fun σ H Q ⟨env, ρ, S, er, sr, h⟩ => hq Str.empty er sr h
end
end LT
set_option Elab.async false
set_option linter.all false
set_option maxRecDepth 100000
set_option maxHeartbeats 4000000
/-! Own layer, part H: statements. -/
namespace LT
open PySem PySem.Spec PyProof.Rows L2 LamX NdefX
section
variable (G : GI) (oc : Nat → Option Addr) (W : WX)
/-- what a statement's end asks -/
def sG (r : RS) (ρ : Pl) (H : Hp) (D : Ends) : Prop :=
  match r with
  | .nx env S => ∀ σ' H' ρ', Ext ρ H ρ' H' → SR G ρ' H' S → ER G oc ρ' H' env σ' → D.nx σ' H'
  | .rt d S => ∀ v H' ρ', Ext ρ H ρ' H' → SR G ρ' H' S → Rep G oc ρ' H' d v → D.rt v H'
  | .bk env S => ∀ σ' H' ρ', Ext ρ H ρ' H' → SR G ρ' H' S → ER G oc ρ' H' env σ' → D.bk σ' H'
  | .ct env S => ∀ σ' H' ρ', Ext ρ H ρ' H' → SR G ρ' H' S → ER G oc ρ' H' env σ' → D.ct σ' H'
  | .exc x env S => ∀ c dd σ' H' ρ', Ext ρ H ρ' H' → SR G ρ' H' S → ER G oc ρ' H' env σ' → XRep G H' x c dd → W c dd σ' H'
  | .bad => False
def sM (m : Env' → Sto → RS) : TS := fun D σ H => ∃ env ρ S, ER G oc ρ H env σ ∧ SR G ρ H S ∧ sG G oc W (m env S) ρ H D
end
section
variable {G : GI} {oc : Nat → Option Addr} {W : WX} {ρ ρ1 : Pl} {H H1 : Hp}
theorem sG.shift {r : RS} {D : Ends} (h : sG G oc W r ρ H D) (e : Ext ρ H ρ1 H1) : sG G oc W r ρ1 H1 D := by
  cases r with
  | nx env S => exact fun σ' H' ρ' e' s r => h σ' H' ρ' (e.trans e') s r
  | rt d S => exact fun v H' ρ' e' s r => h v H' ρ' (e.trans e') s r
  | bk env S => exact fun σ' H' ρ' e' s r => h σ' H' ρ' (e.trans e') s r
  | ct env S => exact fun σ' H' ρ' e' s r => h σ' H' ρ' (e.trans e') s r
  | exc x env S => exact fun c dd σ' H' ρ' e' s r z => h c dd σ' H' ρ' (e.trans e') s r z
  | bad => exact h
theorem sG.next {r : RS} {k : Env' → Sto → RS} {D : Ends} (h : sG G oc W (r.next k) ρ H D) : sG G oc W r ρ H { D with nx := sM G oc W k D } := by
  cases r with
  | nx env S => exact fun σ' H' ρ' e s er => ⟨env, ρ', S, er, s, sG.shift h e⟩
  | _ => exact h
/-- an expression ahead -/
theorem sG.toS {α β : Type} {R : Pl → Hp → α → β → Prop} {m : Env' → Sto → Res α} {env : Env'} {σ : L2.St} {S : Sto} {k : α → Sto → RS} {D : Ends} (er : ER G oc ρ H env σ) (sr : SR G ρ H S) (h : sG G oc W ((m env S).toS env k) ρ H D) :
    tM G oc R W m σ H (fun x H1 => ∃ d ρ1 S1, m env S = .ok d S1 ∧ Ext ρ H ρ1 H1 ∧ SR G ρ1 H1 S1 ∧ R ρ1 H1 d x ∧ sG G oc W (k d S1) ρ1 H1 D) := by
  refine ⟨env, ρ, S, er, sr, ?_⟩
  cases q : m env S with
  | ok d S1 =>
    rw [q] at h
    exact fun v H' ρ' e s r => ⟨d, ρ', S1, rfl, e, s, r, sG.shift h e⟩
  | exc x S1 =>
    rw [q] at h
    exact fun c dd H' ρ' e s r => h c dd σ H' ρ' e s (er.ext e.toExt0) r
  | bad =>
    rw [q] at h
    exact h
end
section
variable {X : Cx} {la : Nat → Arguments → Expr → Scope → List Str → Prop} {T : List NdefX.NTab} {oc : Nat → Option Addr} {W : WX} {F : Fns} {C : Xcs} {pos : Pos} {k : Nat}
abbrev DS (X : Cx) (la : Nat → Arguments → Expr → Scope → List Str → Prop) (T : List NTab) (oc : Nat → Option Addr) (W : WX) (m : Env' → Sto → RS) (st : Stmt) : Prop := PS X st (sM (gX X la T) oc W m)
abbrev DB (X : Cx) (la : Nat → Arguments → Expr → Scope → List Str → Prop) (T : List NTab) (oc : Nat → Option Addr) (W : WX) (m : Env' → Sto → RS) (st : List Stmt) : Prop := PSs X st (sM (gX X la T) oc W m)
theorem db_nil : DB X la T oc W (fun env S => .nx env S) [] := PSs.conseq pss_nil fun D σ H ⟨env, ρ, S, er, sr, h⟩ => h σ H ρ Ext.refl sr er
theorem db_cons {m1 m2 : Env' → Sto → RS} {st : Stmt} {sts : List Stmt} (h1 : DS X la T oc W m1 st) (h2 : DB X la T oc W m2 sts) : DB X la T oc W (fun env S => (m1 env S).next m2) (st :: sts) :=
  PSs.conseq (pss_cons h1 h2) fun D σ H ⟨env, ρ, S, er, sr, h⟩ => ⟨env, ρ, S, er, sr, sG.next h⟩
theorem ds_pass : DS X la T oc W (fun env S => .nx env S) (.Pass pos) := PS.conseq ps_pass fun D σ H ⟨env, ρ, S, er, sr, h⟩ => h σ H ρ Ext.refl sr er
theorem ds_break : DS X la T oc W (fun env S => .bk env S) (.Break pos) := PS.conseq ps_break fun D σ H ⟨env, ρ, S, er, sr, h⟩ => h σ H ρ Ext.refl sr er
theorem ds_cont : DS X la T oc W (fun env S => .ct env S) (.Continue pos) := PS.conseq ps_continue fun D σ H ⟨env, ρ, S, er, sr, h⟩ => h σ H ρ Ext.refl sr er
theorem ds_retN : DS X la T oc W (fun env S => .rt .non S) (.Return none pos) := PS.conseq ps_retN fun D σ H ⟨env, ρ, S, er, sr, h⟩ => h .non H ρ Ext.refl sr (by simp only [Rep])
section
variable {me : Env' → Sto → Res D} {e : Expr}
theorem ds_ret (he : DE (gX X la T) oc X W me e) : DS X la T oc W (fun env S => (me env S).toS env fun d S => .rt d S) (.Return (some e) pos) :=
  PS.conseq (ps_ret he) fun D σ H ⟨env, ρ, S, er, sr, h⟩ => (sG.toS er sr h).mono fun x H1 ⟨d, ρ1, S1, _, e1, s1, r1, q⟩ => q x H1 ρ1 Ext.refl s1 r1
def noCompB : Expr → Bool
  | .ListComp .. => false | .SetComp .. => false | .DictComp .. => false | _ => true
theorem noComp {e : Expr} {t : Option Expr} {n : Nat} {env : Env} (h : noCompB e = true) : swapsWith e t n env = pure false := by
  unfold swapsWith
  cases e <;> first | rfl | cases h
theorem noCompS {e : Expr} {t : Expr} {n : Nat} {env : Env} (h : noCompB e = true) : swapsWithSole [t] e n env = pure false := by
  show swapsWith e (some t) n env = pure false
  exact noComp h
theorem ds_expr (he : DE (gX X la T) oc X W me e) (hn : noCompB e = true) : DS X la T oc W (fun env S => (me env S).toS env fun _ S => .nx env S) (.Expr e pos) :=
  PS.conseq (ps_expr he (noComp hn)) fun D σ H ⟨env, ρ, S, er, sr, h⟩ => (sG.toS er sr h).mono fun x H1 ⟨d, ρ1, S1, _, e1, s1, r1, q⟩ => q σ H1 ρ1 Ext.refl s1 (er.ext e1.toExt0)
theorem ds_if {c : Expr} {mc : Env' → Sto → Res Bool} {m1 m2 : Env' → Sto → RS} {a b : List Stmt} (hc : DT (gX X la T) oc X W mc c) (ha : DB X la T oc W m1 a) (hb : DB X la T oc W m2 b) :
    DS X la T oc W (fun env S => (mc env S).toS env fun b S => if b then m1 env S else m2 env S) (.If c a b pos) :=
  PS.conseq (ps_if hc ha hb) fun D σ H ⟨env, ρ, S, er, sr, h⟩ => (sG.toS er sr h).mono fun x H1 ⟨d, ρ1, S1, _, e1, s1, r1, q⟩ => by
    cases (show d = x from r1)
    cases x with
    | true => exact ⟨env, ρ1, S1, er.ext e1.toExt0, s1, q⟩
    | false => exact ⟨env, ρ1, S1, er.ext e1.toExt0, s1, q⟩
/-! ### name = e, (a, b, ..) = e -/
theorem asg_go {tg : IT} {σ : L2.St} {H : Hp} {D : Ends} (h : sM (gX X la T) oc W (fun env S => (me env S).toS env fun d S => match bindT tg d env with | some env => .nx env S | none => .bad) D σ H) :
    tAsg (tM (gX X la T) oc (RD (gX X la T) oc) W me) (gIT X.K tg) D σ H := by
  obtain ⟨env, ρ, S, er, sr, h⟩ := h
  refine (sG.toS er sr h).mono fun x H1 ⟨d, ρ1, S1, _, e1, s1, r1, q⟩ => ?_
  cases qb : bindT tg d env with
  | none => rw [qb] at q; exact q.elim
  | some env2 =>
    rw [qb] at q
    exact tg_run (tb := false) qb (er.ext e1.toExt0) (.inl r1) (fun h => by cases h) fun σ2 er2 _ => q σ2 H1 ρ1 Ext.refl s1 er2
theorem ds_set {i : Nat} {x : Str} {p : Pos} (hN : X.N.Nodup) (hi : X.N[i]? = some x) (hl : LocX X x) (he : DE (gX X la T) oc X W me e) (hs : swapsWith e (some (.Name x p)) pos.line X.env = pure false) :
    DS X la T oc W (fun env S => (me env S).toS env fun d S => match bindT (.name i) d env with | some env => .nx env S | none => .bad) (.Assign [.Name x p] e pos) :=
  PS.conseq (ps_set hN hi hl.1 he hs hl.2) fun D σ H h => asg_go (tg := .name i) h
theorem each_one {t : Expr} {env : Env} (h : noStar t = true) : (assignEach [t] env).map (·.2) = [assign t env] := by
  cases t <;> first | rfl | exact absurd h Bool.false_ne_true | simp [assignEach]
theorem ds_tup {is : List Nat} {ts : List Expr} {kk : Nat} {p : Pos} (K : Kin la T oc W F X k) (ht : TNames X is ts) (he : DE (gX X la T) oc X W me e) (hs : noCompB e = true) (hw : swappedStores [.Tuple ts kk p] e X.env = pure none) :
    DS X la T oc W (fun env S => (me env S).toS env fun d S => match bindT (.tup is) d env with | some env => .nx env S | none => .bad) (.Assign [.Tuple ts kk p] e pos) :=
  PS.conseq (ps_asg he (pg_it_tup K.calm K.nd ht) (noCompS hs) hw (each_one rfl)) fun D σ H h => asg_go (tg := .tup is) h
theorem ds_par {i j : Nat} {x y : Str} {a b : Expr} {l : List Ev} {px py pt : Pos} {kt k2 : Nat} {pt2 : Pos} (K : Kin la T oc W F X k) (hi : X.N[i]? = some x) (hj : X.N[j]? = some y) (hij : i ≠ j) (hx : X.env.scope.names.lookup x = some .local) (hy : X.env.scope.names.lookup y = some .local)
    (ha : DA (gX X la T) oc X W (evEs l) [a, b]) (hw : swappedStores [.Tuple [.Name x px, .Name y py] kt pt] (.Tuple [a, b] k2 pt2) X.env = pure (some [x, y])) :
    DS X la T oc W (fun env S => ((evEs l env S).bind fun xs S => .ok (.tup xs) S).toS env fun d S => match bindT (.tup [i, j]) d env with | some env => .nx env S | none => .bad) (.Assign [.Tuple [.Name x px, .Name y py] kt pt] (.Tuple [a, b] k2 pt2) pos) :=
  PS.conseq (ps_par K.calm K.nd hi hj hij hx hy ha hw (noCompS rfl)) fun D σ H ⟨env, ρ, S, er, sr, h⟩ => by
    have h : sG (gX X la T) oc W ((evEs l env S).toS env fun xs S => match bindT (.tup [i, j]) (.tup xs) env with | some env => .nx env S | none => .bad) ρ H D := by
      dsimp only at h
      cases q : evEs l env S with
      | ok d S1 => rw [q] at h; exact h
      | exc x S1 => rw [q] at h; exact h
      | bad => rw [q] at h; exact h
    refine (sG.toS er sr h).mono fun vs H1 ⟨ds, ρ1, S1, _, e1, s1, r1, q⟩ => ?_
    cases ds with
    | nil => exact q.elim
    | cons d1 ds => cases ds with
      | nil => exact q.elim
      | cons d2 ds => cases ds with
        | cons d3 ds => exact q.elim
        | nil =>
          obtain ⟨v, w, rfl, r2, r3⟩ := RepL.two_inv r1
          exact ⟨v, w, rfl, q _ _ _ Ext.refl s1 (((er.ext e1.toExt0).set i r2).set j r3)⟩
theorem ds_par3 {i j m : Nat} {x y z : Str} {a b c : Expr} {l : List Ev} {px py pz pt : Pos} {kt k2 : Nat} {pt2 : Pos} (K : Kin la T oc W F X k) (hi : X.N[i]? = some x) (hj : X.N[j]? = some y) (hm : X.N[m]? = some z) (hij : i ≠ j) (him : i ≠ m) (hjm : j ≠ m)
    (hx : X.env.scope.names.lookup x = some .local) (hy : X.env.scope.names.lookup y = some .local) (hz : X.env.scope.names.lookup z = some .local)
    (ha : DA (gX X la T) oc X W (evEs l) [a, b, c]) (hw : swappedStores [.Tuple [.Name x px, .Name y py, .Name z pz] kt pt] (.Tuple [a, b, c] k2 pt2) X.env = pure (some [x, y, z])) :
    DS X la T oc W (fun env S => ((evEs l env S).bind fun xs S => .ok (.tup xs) S).toS env fun d S => match bindT (.tup [i, j, m]) d env with | some env => .nx env S | none => .bad) (.Assign [.Tuple [.Name x px, .Name y py, .Name z pz] kt pt] (.Tuple [a, b, c] k2 pt2) pos) :=
  PS.conseq (ps_par3 K.calm K.nd hi hj hm hij him hjm hx hy hz ha hw (noCompS rfl)) fun D σ H ⟨env, ρ, S, er, sr, h⟩ => by
    have h : sG (gX X la T) oc W ((evEs l env S).toS env fun xs S => match bindT (.tup [i, j, m]) (.tup xs) env with | some env => .nx env S | none => .bad) ρ H D := by
      dsimp only at h
      cases q : evEs l env S with
      | ok d S1 => rw [q] at h; exact h
      | exc x S1 => rw [q] at h; exact h
      | bad => rw [q] at h; exact h
    refine (sG.toS er sr h).mono fun vs H1 ⟨ds, ρ1, S1, _, e1, s1, r1, q⟩ => ?_
    cases ds with
    | nil => exact q.elim
    | cons d1 ds => cases ds with
      | nil => exact q.elim
      | cons d2 ds => cases ds with
        | nil => exact q.elim
        | cons d3 ds => cases ds with
          | cons d4 ds => exact q.elim
          | nil =>
            obtain ⟨v, w', rfl, r2, r3⟩ := RepL.cons_inv r1
            obtain ⟨w, u, rfl, r4, r5⟩ := RepL.two_inv r3
            exact ⟨v, w, u, rfl, q _ _ _ Ext.refl s1 ((((er.ext e1.toExt0).set i r2).set j r4).set m r5)⟩
/-! ### a[i] = e -/
/-- one place -/
theorem sub_go {ma mi : Env' → Sto → Res D} {env : Env'} {ρ : Pl} {S : Sto} {d : D} {v : V} {σ : L2.St} {H : Hp} {kk : Sto → RS} {D : Ends} {Q : Hp → Prop} (er : ER (gX X la T) oc ρ H env σ) (sr : SR (gX X la T) ρ H S) (rv : Rep (gX X la T) oc ρ H d v)
    (h : sG (gX X la T) oc W ((ma env S).toS env fun x S => (mi env S).toS env fun y S => (asubD x y d S).toS env fun _ S => kk S) ρ H D)
    (q : ∀ ρ' H' S', Ext ρ H ρ' H' → SR (gX X la T) ρ' H' S' → sG (gX X la T) oc W (kk S') ρ' H' D → Q H') :
    tM (gX X la T) oc (RD (gX X la T) oc) W ma σ H fun o H1 => tM (gX X la T) oc (RD (gX X la T) oc) W mi σ H1 fun i H2 => ∃ d e f ρ2 S2 E, SR (gX X la T) ρ2 H2 S2 ∧ Rep (gX X la T) oc ρ2 H2 d o ∧ Rep (gX X la T) oc ρ2 H2 e i ∧ Rep (gX X la T) oc ρ2 H2 f v ∧
      tG (gX X la T) (fun _ _ (_ _ : Unit) => True) (asubD d e f S2) ρ2 H2 (fun _ H' => Q H') E :=
  (sG.toS er sr h).mono fun o H1 ⟨x, ρ1, S1, _, e1, s1, r1, q1⟩ => (sG.toS (er.ext e1.toExt0) s1 q1).mono fun i H2 ⟨y, ρ2, S2, _, e2, s2, r2, q2⟩ => by
    refine ⟨x, y, d, ρ2, S2, fun c dd H' => W c dd σ H', s2, Rep.ext e2.toExt0 x r1, r2, Rep.ext (e1.trans e2).toExt0 d rv, ?_⟩
    cases qa : asubD x y d S2 with
    | bad => rw [qa] at q2; exact q2.elim
    | exc x S3 => rw [qa] at q2; exact fun c dd H' ρ' e s r => q2 c dd σ H' ρ' e s (er.ext ((e1.trans e2).trans e).toExt0) r
    | ok u S3 =>
      rw [qa] at q2
      intro u' H' ρ' e s _
      exact q ρ' H' S3 ((e1.trans e2).trans e) s (sG.shift q2 e)
/-- what a[i] = v asks, by values -/
def rSetD (X : Cx) (la : Nat → Arguments → Expr → Scope → List Str → Prop) (T : List NTab) (oc : Nat → Option Addr) : TSet := fun o i v H Q => ∃ d e f ρ S E, SR (gX X la T) ρ H S ∧ Rep (gX X la T) oc ρ H d o ∧ Rep (gX X la T) oc ρ H e i ∧ Rep (gX X la T) oc ρ H f v ∧
  tG (gX X la T) (fun _ _ (_ _ : Unit) => True) (asubD d e f S) ρ H (fun _ H' => Q H') E
theorem pset_d : PSet X (rSetD X la T oc) := fun pins s σ H o i v ov iv u Q I r1 r2 r3 ⟨d, e, f, ρ, S, E, sr, a, b, c, h⟩ => dset_ I r1 r2 r3 sr a b c h
theorem sub_rel {i : Expr} (h : plainIxB i = true) (o : Expr) (p : Pos) (env : Env) (v : Value) : assign (.Subscript o i p) env v = (do
      let ov ← holding [v] (eval o env)
      let iv ← holding [v, ov] (eval i env)
      standAt p
      holding [v, ov, iv] (setItem ov iv v)
      release [v, ov, iv] []) := by
  cases i <;> first | rfl | exact absurd h Bool.false_ne_true
theorem ds_asub {ma mi : Env' → Sto → Res D} {o i : Expr} {p : Pos} (he : DE (gX X la T) oc X W me e) (ho : DE (gX X la T) oc X W ma o) (hi : DE (gX X la T) oc X W mi i) (hp : plainIxB i = true) (hn : noCompB e = true)
    (hw : swappedStores [.Subscript o i p] e X.env = pure none) :
    DS X la T oc W (fun env S => (me env S).toS env fun v S => (ma env S).toS env fun x S => (mi env S).toS env fun y S => (asubD x y v S).toS env fun _ S => .nx env S) (.Assign [.Subscript o i p] e pos) :=
  PS.conseq (ps_asg he (pg_sub ho hi (pset_d (la := la) (T := T) (oc := oc)) (sub_rel hp o p X.env)) (noCompS hn) hw (each_one rfl)) fun D σ H ⟨env, ρ, S, er, sr, h⟩ =>
    (sG.toS er sr h).mono fun v H1 ⟨d, ρ1, S1, _, e1, s1, r1, q1⟩ => sub_go (kk := fun S => .nx env S) (er.ext e1.toExt0) s1 r1 q1 fun ρ' H' S' e s z => z σ H' ρ' Ext.refl s (er.ext (e1.trans e).toExt0)
theorem swap_sub {o i e : Expr} {p : Pos} {env : Env} : swappedStores [.Subscript o i p] e env = pure none := by
  unfold swappedStores
  cases e <;> rfl
theorem each_two {o i o2 i2 : Expr} {p p2 : Pos} {env : Env} : (assignEach [.Subscript o i p, .Subscript o2 i2 p2] env) = [(false, assign (.Subscript o i p) env), (false, assign (.Subscript o2 i2 p2) env)] := by
  first | rfl | simp [assignEach]
theorem ds_asub2 {ma mi ma2 mi2 : Env' → Sto → Res D} {o i o2 i2 : Expr} {p p2 pt : Pos} {kt : Nat} (K : Kin la T oc W F X k) (he : DE (gX X la T) oc X W me e) (ho : DE (gX X la T) oc X W ma o) (hi : DE (gX X la T) oc X W mi i) (ho2 : DE (gX X la T) oc X W ma2 o2) (hi2 : DE (gX X la T) oc X W mi2 i2) (hp : plainIxB i = true) (hp2 : plainIxB i2 = true)
    (hn : noCompB e = true) (hw : swappedStores [.Tuple [.Subscript o i p, .Subscript o2 i2 p2] kt pt] e X.env = pure none) :
    DS X la T oc W (fun env S => (me env S).toS env fun v S => match v with
    | .tup [v, w] => (ma env S).toS env fun x S => (mi env S).toS env fun y S => (asubD x y v S).toS env fun _ S =>
      (ma2 env S).toS env fun x S => (mi2 env S).toS env fun y S => (asubD x y w S).toS env fun _ S => .nx env S
    | _ => .bad) (.Assign [.Tuple [.Subscript o i p, .Subscript o2 i2 p2] kt pt] e pos) := by
  have g1 := pg_sub ho hi (pset_d (la := la) (T := T) (oc := oc)) (sub_rel hp o p X.env)
  have g2 := pg_sub ho2 hi2 (pset_d (la := la) (T := T) (oc := oc)) (sub_rel hp2 o2 p2 X.env)
  refine PS.conseq (ps_asg he (pg_tup (n := 2) K.calm (pgs_cons g1 (pgs_cons g2 pgs_nil (by rw [show assignEach [Expr.Subscript o2 i2 p2] X.env = [(false, assign (.Subscript o2 i2 p2) X.env)] from by first | rfl | simp [assignEach]]; first | rfl | simp [assignEach])) (by rw [each_two]; first | rfl | simp [assignEach])) (by rw [each_two]; rfl) (by rw [each_two]; rfl)) (noCompS hn) hw (each_one rfl)) fun D σ H ⟨env, ρ, S, er, sr, h⟩ =>
    (sG.toS er sr h).mono fun v H1 ⟨d, ρ1, S1, _, e1, s1, r1, q1⟩ => ?_
  cases d with
  | tup ds =>
    cases ds with
    | nil => exact q1.elim
    | cons d1 ds => cases ds with
      | nil => exact q1.elim
      | cons d2 ds => cases ds with
        | cons d3 ds => exact q1.elim
        | nil =>
          obtain ⟨a, vs, rfl, f, rr⟩ := rep_tup.mp r1
          obtain ⟨v1, v2, rfl, r2, r3⟩ := RepL.two_inv rr
          refine ⟨a, _, rfl, f.sq, rfl, v1, [v2], rfl, ?_⟩
          refine sub_go (kk := fun S => (ma2 env S).toS env fun x S => (mi2 env S).toS env fun y S => (asubD x y d2 S).toS env fun _ S => .nx env S) (er.ext e1.toExt0) s1 r2 q1 fun ρ' H' S' e s z => ?_
          refine ⟨v2, [], rfl, ?_⟩
          exact sub_go (kk := fun S => .nx env S) (er.ext (e1.trans e).toExt0) s (Rep.ext e.toExt0 d2 r3) z fun ρ2 H2 S2 e2 s2 z2 => ⟨rfl, z2 σ H2 ρ2 Ext.refl s2 (er.ext ((e1.trans e).trans e2).toExt0)⟩
  | _ => exact q1.elim
end
end
end LT
set_option Elab.async false
set_option linter.all false
set_option maxRecDepth 100000
set_option maxHeartbeats 4000000
/-! Own layer, part H2: loops, raise, try. -/
namespace LT
open PySem PySem.Spec PyProof.Rows L2 LamX NdefX
section
variable {X : Cx} {la : Nat → Arguments → Expr → Scope → List Str → Prop} {T : List NdefX.NTab} {oc : Nat → Option Addr} {W : WX} {F : Fns} {C : Xcs} {pos : Pos} {k : Nat}
theorem ds_while {c : Expr} {body : List Stmt} {mc : Env' → Sto → Res Bool} {mb : Env' → Sto → RS} (hp : PassesOwn (model X.prog X.w) X.A X.env X.xe) (hc : DT (gX X la T) oc X W mc c) (hb : DB X la T oc W mb body) :
    DS X la T oc W (fun env S => whileGo mc mb fuelN env S) (.While c body [] pos) :=
  PS.conseq (ps_while hp hc hb) fun D σ H ⟨env, ρ, S, er, sr, h⟩ => by
    refine ⟨fun f σ H => ∃ env ρ S, ER (gX X la T) oc ρ H env σ ∧ SR (gX X la T) ρ H S ∧ sG (gX X la T) oc W (whileGo mc mb f env S) ρ H D, ⟨fuelN, env, ρ, S, er, sr, h⟩, ?_⟩
    rintro f σ H ⟨env, ρ, S, er, sr, h⟩
    cases f with
    | zero => exact h.elim
    | succ f =>
      have h : sG (gX X la T) oc W ((mc env S).toS env fun b S => if b then (match mb env S with
        | .nx env2 S2 => whileGo mc mb f env2 S2
        | .ct env2 S2 => whileGo mc mb f env2 S2
        | .bk env2 S2 => .nx env2 S2
        | r => r) else .nx env S) ρ H D := h
      refine (sG.toS er sr h).mono fun x H1 ⟨d, ρ1, S1, _, e1, s1, r1, q⟩ => ?_
      cases (show d = x from r1)
      cases x with
      | false => exact q σ H1 ρ1 Ext.refl s1 (er.ext e1.toExt0)
      | true =>
        simp only [if_true] at q ⊢
        refine ⟨fun σ' H' => ∃ f', f' < f + 1 ∧ ∃ env ρ S, ER (gX X la T) oc ρ H' env σ' ∧ SR (gX X la T) ρ H' S ∧ sG (gX X la T) oc W (whileGo mc mb f' env S) ρ H' D, fun σ' H' z => z, env, ρ1, S1, er.ext e1.toExt0, s1, ?_⟩
        cases qb : mb env S1 with
        | nx env2 S2 => rw [qb] at q; exact fun σ' H' ρ' e s er2 => ⟨f, Nat.lt_succ_self f, env2, ρ', S2, er2, s, sG.shift q e⟩
        | ct env2 S2 => rw [qb] at q; exact fun σ' H' ρ' e s er2 => ⟨f, Nat.lt_succ_self f, env2, ρ', S2, er2, s, sG.shift q e⟩
        | bk env2 S2 => rw [qb] at q; exact q
        | rt d S2 => rw [qb] at q; exact q
        | exc x env2 S2 => rw [qb] at q; exact q
        | bad => rw [qb] at q; exact q
theorem ds_for {tgI : IT} {tg iter : Expr} {body : List Stmt} {mi : Env' → Sto → Res Itr} {mb : Env' → Sto → RS} (htb : tupT tg = true → ∃ is, tgI = IT.tup is) (hp : PassesOwn (model X.prog X.w) X.A X.env X.xe) (hc : X.calm = true) (hi : DI (gX X la T) oc X W mi tg iter) (hg : PG X tg (gIT X.K tgI)) (hb : DB X la T oc W mb body)
    (hs : noSetB iter = true) :
    DS X la T oc W (fun env S => (mi env S).toS env fun J S => forGo J (fun d e => bindT tgI d e) mb (J.count S + 1) 0 env S) (.For tg iter body [] pos) :=
  PS.conseq (ps_for hp hc hi hg hb (noSet hs X.env)) fun D σ H ⟨env, ρ, S, er, sr, h⟩ => by
    refine (sG.toS er sr h).mono fun I H1 ⟨J, ρ1, S1, _, e1, s1, ir, q⟩ => ?_
    generalize hfu : J.count S1 + 1 = fu at q
    refine ⟨fun i f σ H => ∃ env ρ S, Ext0 ρ1 H1 ρ H ∧ ER (gX X la T) oc ρ H env σ ∧ SR (gX X la T) ρ H S ∧ sG (gX X la T) oc W (forGo J (fun d e => bindT tgI d e) mb f i env S) ρ H D, ⟨fu, env, ρ1, S1, Ext0.refl, er.ext e1.toExt0, s1, q⟩, ?_⟩
    rintro i f σ H ⟨env, ρ, S, e0, er, sr, h⟩
    cases f with
    | zero => exact h.elim
    | succ f =>
      unfold forGo at h
      cases g : J.get S i with
      | none => rw [g] at h; exact h.elim
      | some o => cases o with
        | none =>
          rw [g] at h
          exact .inl ⟨ir.stop e0 sr g, h σ H ρ Ext.refl sr er⟩
        | some d =>
          rw [g] at h
          dsimp only at h
          obtain ⟨go, yl⟩ := ir.go e0 sr g
          refine .inr ⟨go, fun σ' H' => ∃ f', f' < f + 1 ∧ ∃ env ρ S, Ext0 ρ1 H1 ρ H' ∧ ER (gX X la T) oc ρ H' env σ' ∧ SR (gX X la T) ρ H' S ∧ sG (gX X la T) oc W (forGo J (fun d e => bindT tgI d e) mb f' (i + 1) env S) ρ H' D, fun σ' H' z => z, fun x H2 y => ?_⟩
          obtain ⟨e2, s2, rx⟩ := yl x H2 y
          cases gb : bindT tgI d env with
          | none => rw [gb] at h; exact h.elim
          | some env2 =>
            rw [gb] at h
            dsimp only at h
            refine tg_run gb (er.ext e2.toExt0) rx htb fun σ2 er2 _ => ⟨env2, ρ, S, er2, s2, ?_⟩
            have h := sG.shift h e2
            have x2 : Ext0 ρ1 H1 ρ H2 := e0.trans e2.toExt0
            cases qb : mb env2 S with
            | nx env3 S3 => rw [qb] at h; exact fun σ' H' ρ' e s er3 => ⟨f, Nat.lt_succ_self f, env3, ρ', S3, x2.trans e.toExt0, er3, s, sG.shift h e⟩
            | ct env3 S3 => rw [qb] at h; exact fun σ' H' ρ' e s er3 => ⟨f, Nat.lt_succ_self f, env3, ρ', S3, x2.trans e.toExt0, er3, s, sG.shift h e⟩
            | bk env3 S3 => rw [qb] at h; exact h
            | rt d S3 => rw [qb] at h; exact h
            | exc x env3 S3 => rw [qb] at h; exact h
            | bad => rw [qb] at h; exact h
/-- raise X('m') -/
theorem ds_raise {x m : Str} {j : Nat} {p p2 p3 : Pos} {CA : Addr} {bmB : List Value} {B newId initId : String} (K : Kin la T oc W F X k) (Fa : ExcBaseFacts B newId initId bmB) (q : PySem.W.excIn X.K CA bmB newId = true) (gC : X.mg x = some (.ref CA)) (kC : PySem.W.keepIn X.K (.ref CA) = true) (r : Raises X (.ref CA)) (hg : Gl X x) (hdb : (x == ("__debug__" : Str)) = false) :
    DS X la T oc W (fun env S => .exc ⟨x, none⟩ env S) (.Raise (some (.Call (.Name x p) [.Constant (.str m) j p2] [] p3)) none pos) :=
  PS.conseq (L2N.ps_raise K.calm K.tk (L2N.pmk_own Fa q gC kC r hg hdb)) fun D σ H ⟨env, ρ, S, er, sr, h⟩ => h (.ref CA) none σ H ρ Ext.refl sr er ⟨CA, rfl, gC, rfl⟩
end
end LT
set_option Elab.async false
set_option linter.all false
set_option maxRecDepth 100000
set_option maxHeartbeats 4000000
/-! Own layer, part I: the checker of expressions. -/
namespace LT
open PySem PySem.Spec PyProof.Rows L2 LamX NdefX
section
variable {X : Cx} {la : Nat → Arguments → Expr → Scope → List Str → Prop} {T : List NdefX.NTab} {oc : Nat → Option Addr} {W : WX} {ma : Env' → Sto → Res D} {a : Expr} {pos : Pos}
theorem dt_isN {ng : Bool} {j : Nat} {p2 : Pos} (ha : DE (gX X la T) oc X W ma a) : DT (gX X la T) oc X W (Ev.mk' fun env S => (ma env S).bind fun x S => .ok (.bl (ng != isNonD x)) S).t (.Compare a [if ng then .IsNot else .Is] [.Constant .none j p2] pos) := by
  have he := de_isN (ng := ng) (j := j) (p2 := p2) (pos := pos) ha
  have key : ∀ {ρ : Pl} {H : Hp} {d : D} {x : V}, Rep (gX X la T) oc ρ H d x → decide (x = .non) = isNonD d := fun {ρ H d x} r => by
    cases d with
    | non => rw [rep_non] at r; subst r; rfl
    | bl b => rw [rep_bl] at r; subst r; rfl
    | int b => rw [rep_int] at r; subst r; rfl
    | str b => rw [rep_str] at r; subst r; rfl
    | tup b => rw [rep_tup] at r; obtain ⟨_, _, rfl, _⟩ := r; rfl
    | lst b => rw [rep_lst] at r; obtain ⟨_, _, rfl, _⟩ := r; rfl
    | cell b => rw [rep_cell] at r; obtain ⟨_, rfl, _⟩ := r; rfl
    | scr b => rw [rep_scr] at r; obtain ⟨_, rfl, _⟩ := r; rfl
    | fn b => simp only [Rep] at r; obtain ⟨_, rfl, _⟩ := r; rfl
    | own b c => simp only [Rep] at r; obtain ⟨_, _, _, _, _, _, _, _, rfl, _⟩ := r; rfl
    | clo b c => simp only [Rep] at r; obtain ⟨_, _, _, _, _, _, _, _, _, rfl, _⟩ := r; rfl
  have fin : ∀ {σ H Q}, tM (gX X la T) oc RB W (Ev.mk' fun env S => (ma env S).bind fun x S => .ok (.bl (ng != isNonD x)) S).t σ H Q → tM (gX X la T) oc (RD (gX X la T) oc) W ma σ H fun x H1 => Q (ng != decide (x = .non)) H1 := by
    rintro σ H Q ⟨env, ρ, S, er, sr, h⟩
    have h : tG (gX X la T) RB (((ma env S).bind fun x S => .ok (.bl (ng != isNonD x)) S).bind fun x S => match truthD S x with | some b => .ok b S | none => .bad) ρ H Q (fun c dd H' => W c dd σ H') := h
    rw [Res.bind_assoc] at h
    exact (bindR er sr h).mono fun x H1 ⟨d, ρ1, S1, e1, s1, r1, q1⟩ => by
      rw [key r1]
      exact q1 _ H1 ρ1 Ext.refl s1 rfl
  cases ng with
  | false =>
    exact PT.conseq (pt_cmp (pc_isN ha)) fun σ H Q h => (fin h).mono fun x H1 q => ⟨_, rfl, by simpa using q⟩
  | true =>
    exact PT.conseq (pt_cmp (pc_notN ha)) fun σ H Q h => (fin h).mono fun x H1 q => ⟨_, rfl, by simpa using q⟩
theorem dt_isB {ng : Bool} {v : Bool} {j : Nat} {p2 : Pos} (ha : DE (gX X la T) oc X W ma a) : DT (gX X la T) oc X W (Ev.mk' fun env S => (ma env S).bind fun x S => match x with
    | .bl c => .ok (.bl (ng != (v == c))) S
    | .non => .ok (.bl ng) S
    | .int _ => .ok (.bl ng) S
    | .str _ => .ok (.bl ng) S
    | .tup _ => .ok (.bl ng) S
    | .lst _ => .ok (.bl ng) S
    | _ => .bad).t (.Compare a [if ng then .IsNot else .Is] [.Constant (.bool v) j p2] pos) :=
  PT.conseq (pt_cmpR (op_isB2 (la := la) (T := T) (oc := oc)) ha (pe_bl (b := v)) (by cases ng <;> rfl)) fun σ H Q ⟨env, ρ, S, er, sr, h⟩ => by
    have h : tG (gX X la T) RB (((ma env S).bind fun x S => (match x with
    | .bl c => .ok (.bl (ng != (v == c))) S
    | .non => .ok (.bl ng) S
    | .int _ => .ok (.bl ng) S
    | .str _ => .ok (.bl ng) S
    | .tup _ => .ok (.bl ng) S
    | .lst _ => .ok (.bl ng) S
    | _ => .bad : Res D)).bind fun x S => match truthD S x with | some b => .ok b S | none => .bad) ρ H Q (fun c dd H' => W c dd σ H') := h
    rw [Res.bind_assoc] at h
    refine (bindR er sr h).mono fun x H1 ⟨d, ρ1, S1, e1, s1, r1, q1⟩ => ⟨v, rfl, d, ρ1, S1, fun c dd H' => W c dd σ H', s1, r1, ?_⟩
    have fin : ∀ {b : Bool}, tG (gX X la T) RB ((Res.ok (.bl b) S1).bind fun x S => match truthD S x with | some b => .ok b S | none => .bad) ρ1 H1 Q (fun c dd H' => W c dd σ H') → tG (gX X la T) (RD (gX X la T) oc) (.ok (.bl b) S1) ρ1 H1 (fun x H' => ∃ k, x = .bl k ∧ Q k H') (fun c dd H' => W c dd σ H') := fun {b} q v H' ρ' e s r => ⟨b, rep_bl.mp r, q b H' ρ' e s rfl⟩
    cases d with
    | bl c => exact fin q1
    | non => exact fin q1
    | int c => exact fin q1
    | str c => exact fin q1
    | tup c => exact fin q1
    | lst c => exact fin q1
    | _ => exact q1.elim
end
/-! ### the syntax tree's forms -/
def nameE : Expr → Option Str
  | .Name x _ => some x
  | _ => none
theorem nameE_eq {e : Expr} {x : Str} (h : nameE e = some x) : ∃ p, e = .Name x p := by
  cases e <;> first | (cases h; exact ⟨_, rfl⟩) | cases h
def callN : Expr → Option (Str × List Expr)
  | .Call (.Name f _) es [] _ => some (f, es)
  | _ => none
theorem callN_eq {e : Expr} {f : Str} {es : List Expr} (h : callN e = some (f, es)) : ∃ p pos, e = .Call (.Name f p) es [] pos := by
  unfold callN at h
  split at h
  · cases h; exact ⟨_, _, rfl⟩
  · cases h
def callA : Expr → Option (Expr × Str × Pos × List Expr × Pos)
  | .Call (.Attribute a n apos) es [] pos => some (a, n, apos, es, pos)
  | _ => none
theorem callA_eq {e a : Expr} {n : Str} {apos pos : Pos} {es : List Expr} (h : callA e = some (a, n, apos, es, pos)) : e = .Call (.Attribute a n apos) es [] pos := by
  unfold callA at h
  split at h
  · cases h; rfl
  · cases h
def binE : Expr → Option (Expr × Operator × Expr)
  | .BinOp a o b _ => some (a, o, b)
  | _ => none
theorem binE_eq {e a b : Expr} {o : Operator} (h : binE e = some (a, o, b)) : ∃ pos, e = .BinOp a o b pos := by
  cases e <;> first | (cases h; exact ⟨_, rfl⟩) | cases h
def unE : Expr → Option (UnaryOp × Expr)
  | .UnaryOp o a _ => some (o, a)
  | _ => none
theorem unE_eq {e a : Expr} {o : UnaryOp} (h : unE e = some (o, a)) : ∃ pos, e = .UnaryOp o a pos := by
  cases e <;> first | (cases h; exact ⟨_, rfl⟩) | cases h
def boolE : Expr → Option (BoolOp × List Expr)
  | .BoolOp o a _ => some (o, a)
  | _ => none
theorem boolE_eq {e : Expr} {a : List Expr} {o : BoolOp} (h : boolE e = some (o, a)) : ∃ pos, e = .BoolOp o a pos := by
  cases e <;> first | (cases h; exact ⟨_, rfl⟩) | cases h
def cmpE : Expr → Option (Expr × List CmpOp × List Expr)
  | .Compare a o b _ => some (a, o, b)
  | _ => none
theorem cmpE_eq {e a : Expr} {o : List CmpOp} {b : List Expr} (h : cmpE e = some (a, o, b)) : ∃ pos, e = .Compare a o b pos := by
  cases e <;> first | (cases h; exact ⟨_, rfl⟩) | cases h
def constE : Expr → Option Const
  | .Constant c _ _ => some c
  | _ => none
theorem constE_eq {e : Expr} {c : Const} (h : constE e = some c) : ∃ j pos, e = .Constant c j pos := by
  cases e <;> first | (cases h; exact ⟨_, _, rfl⟩) | cases h
def ifE : Expr → Option (Expr × Expr × Expr)
  | .IfExp c a b _ => some (c, a, b)
  | _ => none
theorem ifE_eq {e c a b : Expr} (h : ifE e = some (c, a, b)) : ∃ pos, e = .IfExp c a b pos := by
  cases e <;> first | (cases h; exact ⟨_, rfl⟩) | cases h
def tupE : Expr → Option (List Expr)
  | .Tuple es _ _ => some es
  | _ => none
theorem tupE_eq {e : Expr} {es : List Expr} (h : tupE e = some es) : ∃ k pos, e = .Tuple es k pos := by
  cases e <;> first | (cases h; exact ⟨_, _, rfl⟩) | cases h
def lstE : Expr → Option (List Expr)
  | .List es _ => some es
  | _ => none
theorem lstE_eq {e : Expr} {es : List Expr} (h : lstE e = some es) : ∃ pos, e = .List es pos := by
  cases e <;> first | (cases h; exact ⟨_, rfl⟩) | cases h
def subE : Expr → Option (Expr × Expr)
  | .Subscript a i _ => some (a, i)
  | _ => none
theorem subE_eq {e a i : Expr} (h : subE e = some (a, i)) : ∃ pos, e = .Subscript a i pos := by
  cases e <;> first | (cases h; exact ⟨_, rfl⟩) | cases h
def slE : Expr → Option (Option Expr × Option Expr × Option Expr)
  | .Slice l h s _ => some (l, h, s)
  | _ => none
theorem slE_eq {e : Expr} {l h s : Option Expr} (q : slE e = some (l, h, s)) : ∃ pos, e = .Slice l h s pos := by
  cases e <;> first | (cases q; exact ⟨_, rfl⟩) | cases q
def lamE : Expr → Option (Arguments × Expr × Scope × Pos)
  | .Lambda p b s pos => some (p, b, s, pos)
  | _ => none
theorem lamE_eq {e b : Expr} {p : Arguments} {s : Scope} {pos : Pos} (q : lamE e = some (p, b, s, pos)) : e = .Lambda p b s pos := by
  cases e <;> first | (cases q; rfl) | cases q
def lcE : Expr → Option (Expr × Expr × Expr × List Expr × Scope × Pos)
  | .ListComp elt [⟨tg, iter, ifs, n⟩] s pos => if n = 0 then some (elt, tg, iter, ifs, s, pos) else none
  | _ => none
theorem lcE_eq {e elt tg iter : Expr} {ifs : List Expr} {s : Scope} {pos : Pos} (q : lcE e = some (elt, tg, iter, ifs, s, pos)) : e = .ListComp elt [⟨tg, iter, ifs, 0⟩] s pos := by
  unfold lcE at q
  split at q
  · split at q
    · rename_i h
      cases q; subst h; rfl
    · cases q
  · cases q
def fvE : Expr → Option Expr
  | .FormattedValue e (-1) none _ => some e
  | _ => none
theorem fvE_eq {e a : Expr} (q : fvE e = some a) : ∃ pos, e = .FormattedValue a (-1) none pos := by
  unfold fvE at q
  split at q
  · cases q; exact ⟨_, rfl⟩
  · cases q
def fsE : Expr → Option (List Expr)
  | .JoinedStr es _ => some es
  | _ => none
theorem fsE_eq {e : Expr} {es : List Expr} (q : fsE e = some es) : ∃ pos, e = .JoinedStr es pos := by
  cases e <;> first | (cases q; exact ⟨_, rfl⟩) | cases q
/-- [::-1] -/
def isRevE : Expr → Bool
  | .Slice none none (some (.UnaryOp .USub (.Constant (.int 1) _ _) _)) _ => true
  | _ => false
theorem isRevE_eq {e : Expr} (q : isRevE e = true) : ∃ k p1 p2 p3, e = .Slice none none (some (.UnaryOp .USub (.Constant (.int 1) k p1) p2)) p3 := by
  unfold isRevE at q
  split at q
  · exact ⟨_, _, _, _, rfl⟩
  · cases q
/-- no names but plain ones -/
def argNames (p : Arguments) : Option (List Str) :=
  match p with
  | ⟨[], as, none, [], [], none, []⟩ => some (as.map (·.arg))
  | _ => none
end LT
set_option Elab.async false
set_option linter.all false
set_option maxRecDepth 100000
set_option maxHeartbeats 8000000
/-! Own layer, part I2: the checker, what it says. -/
namespace LT
open PySem PySem.Spec PyProof.Rows L2 LamX NdefX
/-- what the checker knows of a frame -/
structure CC where
  N : List Str
  sc : Scope
  fnb : Str → Bool
  lm : Bool
  fns : List (Str × Nat)
  lam : Nat → Arguments → Expr → Scope → List Str → Bool
def okN (x : Str) : Bool := !(x == ("__debug__" : Str)) && !(x == ("__classdict__" : Str))
def CC.gl (C : CC) (x : Str) : Bool := decide (C.sc.names.lookup x = some .globalImplicit) && okN x
def CC.vis (C : CC) (i : Nat) (x : Str) : Bool := decide (C.N[i]? = some x) && okN x && (decide (C.sc.names.lookup x = some .local) || decide (C.sc.names.lookup x = some .cell) || decide (C.sc.names.lookup x = some .free))
def CC.loc (C : CC) (i : Nat) (x : Str) : Bool := decide (C.N[i]? = some x) && (decide (C.sc.names.lookup x = some .local) || (decide (C.sc.names.lookup x = some .cell) && C.fnb x))
def CC.blk (C : CC) (scope : Scope) : CC := { C with sc := relS scope C.sc, fnb := fun x => decide (scope.names.lookup x = some .cell), lm := false }
/-- the built-in names that the programs call -/
def bltNames : List Str := ["len", "all", "any", "sorted", "tuple", "list", "int", "str", "abs", "sum", "min", "max", "bool", "isinstance", "range", "zip", "enumerate"]
def ownOf (N : List Str) (own : List Nat) : List (Str × Nat) := own.filterMap fun i => (N[i]?).map fun x => (x, i)
def blkB (C : CC) (scope : Scope) (own : List Nat) : Bool :=
  decide (scope.kind = .function) && scope.names.all (fun y => decide (scope.names.lookup y.1 = some y.2)) && decide ((ownOf C.N own).map (·.2) = own) &&
    scope.names.all (fun y => !decide (y.2 = .free) || decide (C.sc.names.lookup y.1 = some .cell) || decide (C.sc.names.lookup y.1 = some .free)) &&
    scope.names.all fun y => !(decide (y.2 = .local) || decide (y.2 = .cell)) || ((ownOf C.N own).map (·.1)).contains y.1 || !C.N.contains y.1
def chkNs (C : CC) : List Nat → List Expr → Bool
  | [], [] => true
  | i :: is, e :: es => (match nameE e with | some x => C.loc i x | none => false) && chkNs C is es
  | _, _ => false
def chkTg (C : CC) (t : IT) (e : Expr) : Bool := match t with
  | .name i => match nameE e with | some x => C.loc i x | none => false
  | .tup is => match tupE e with | some es => chkNs C is es | none => false
def capN (N : List Str) (caps : List Nat) : List Str := caps.filterMap (N[·]?)
structure Ck where
  e : CC → Expr → Bool
  t : CC → Expr → Bool
def Ck.mk' (e : CC → Expr → Bool) : Ck := ⟨e, fun C x => e C x && plainT x⟩
def ckEs : List Ck → CC → List Expr → Bool
  | [], _, [] => true
  | c :: cs, C, e :: es => c.e C e && noStar e && ckEs cs C es
  | _, _, _ => false
def ckTs : List Ck → CC → List Expr → Bool
  | [], _, [] => true
  | c :: cs, C, e :: es => c.t C e && ckTs cs C es
  | _, _, _ => false
def ckFs : List (IE × Ck) → CC → List Expr → Bool
  | [], _, [] => true
  | c :: cs, C, e :: es => (match c.1, constE e with
      | .str s, some (.str t) => decide (s = t)
      | _, _ => match fvE e with
        | some a => c.2.e C a
        | none => false) && ckFs cs C es
  | _, _, _ => false
def ckO : Option Ck → CC → Option Expr → Bool
  | none, _, none => true
  | some c, C, some e => c.e C e
  | _, _, _ => false
def ckC : Option Ck → CC → List Expr → Bool
  | none, _, [] => true
  | some c, C, [e] => c.t C e
  | _, _, _ => false
def blt (C : CC) (x y : Str) : Bool := decide (x = y) && C.gl x && bltNames.contains x
mutual
def chkP : IE → Ck
  | .var i => .mk' fun C e => (match nameE e with | some x => C.vis i x | none => false)
  | .int i => .mk' fun _ e => (match constE e with | some (.int j) => decide (i = j) | _ => false)
  | .str i => .mk' fun _ e => (match constE e with | some (.str j) => decide (i = j) | _ => false)
  | .bl i => .mk' fun _ e => (match constE e with | some (.bool j) => decide (i = j) | _ => false)
  | .non => .mk' fun _ e => (match constE e with | some .none => true | _ => false)
  | .gfn x => .mk' fun C e => (match nameE e with | some y => decide (x = y) && C.gl x | none => false)
  | .gcon x => .mk' fun C e => (match nameE e with | some y => decide (x = y) && C.gl x | none => false)
  | .bin o a b => .mk' fun C e => (match binE e with | some (l, p, r) => decide (p = opOf o) && (chkP a).e C l && (chkP b).e C r | none => false)
  | .neg a => .mk' fun C e => (match unE e with | some (.USub, x) => (chkP a).e C x | _ => false)
  | .not a => ⟨fun C e => match unE e with | some (.Not, x) => (chkP a).e C x | _ => false, fun C e => match unE e with | some (.Not, x) => (chkP a).t C x | _ => false⟩
  | .and es => ⟨fun C e => match boolE e with | some (.And, xs) => ckEs (chkPs es) C xs | _ => false, fun C e => match boolE e with | some (.And, xs) => ckTs (chkPs es) C xs | _ => false⟩
  | .or es => ⟨fun C e => match boolE e with | some (.Or, xs) => ckEs (chkPs es) C xs | _ => false, fun C e => match boolE e with | some (.Or, xs) => ckTs (chkPs es) C xs | _ => false⟩
  | .cmp c a b => ⟨fun C e => match cmpE e with | some (l, [p], [r]) => decide (p = cmOf c) && (chkP a).e C l && (chkP b).e C r && !behindInMarks p r | _ => false, fun C e => match cmpE e with | some (l, [p], [r]) => decide (p = cmOf c) && (chkP a).e C l && (chkP b).e C r && !behindInMarks p r | _ => false⟩
  | .chain c d a b f => ⟨fun C e => match cmpE e with | some (l, [p, q], [r, t]) => decide (p = cmOf c) && decide (q = cmOf d) && (chkP a).e C l && (chkP b).e C r && (chkP f).e C t && !lastMarks [p, q] [r, t] | _ => false, fun C e => match cmpE e with | some (l, [p, q], [r, t]) => decide (p = cmOf c) && decide (q = cmOf d) && (chkP a).e C l && (chkP b).e C r && (chkP f).e C t && !lastMarks [p, q] [r, t] | _ => false⟩
  | .isN ng a => ⟨fun C e => match cmpE e with | some (l, [p], [r]) => decide (p = if ng then .IsNot else .Is) && (chkP a).e C l && (match constE r with | some .none => true | _ => false) | _ => false, fun C e => match cmpE e with | some (l, [p], [r]) => decide (p = if ng then .IsNot else .Is) && (chkP a).e C l && (match constE r with | some .none => true | _ => false) | _ => false⟩
  | .isB ng v a => ⟨fun C e => match cmpE e with | some (l, [p], [r]) => decide (p = if ng then .IsNot else .Is) && (chkP a).e C l && (match constE r with | some (.bool w) => decide (v = w) | _ => false) | _ => false, fun C e => match cmpE e with | some (l, [p], [r]) => decide (p = if ng then .IsNot else .Is) && (chkP a).e C l && (match constE r with | some (.bool w) => decide (v = w) | _ => false) | _ => false⟩
  | .ite c a b => ⟨fun C e => match ifE e with | some (x, y, z) => (chkP c).t C x && (chkP a).e C y && (chkP b).e C z | none => false, fun _ _ => false⟩
  | .tup es => .mk' fun C e => (match tupE e with | some xs => ckEs (chkPs es) C xs && decide (es.length ≤ 1000) | none => false)
  | .lst _ es => .mk' fun C e => (match lstE e with | some xs => ckEs (chkPs es) C xs && decide (es.length ≤ 1000) | none => false)
  | .idx a i => .mk' fun C e => (match subE e with | some (x, y) => (chkP a).e C x && (chkP i).e C y && plainIxB y | none => false)
  | .sl a lo hi => .mk' fun C e => (match subE e with | some (x, y) => (match slE y with | some (l, h, none) => (chkP a).e C x && ckO (chkPO lo) C l && ckO (chkPO hi) C h | _ => false) | none => false)
  | .rev a => .mk' fun C e => (match subE e with | some (x, y) => (chkP a).e C x && isRevE y | none => false)
  | .call f es => .mk' fun C e => (match callN e with | some (g, xs) => decide (f = g) && C.gl f && decide (C.fns.lookup f = some es.length) && ckEs (chkPs es) C xs | none => false)
  | .callv i es => .mk' fun C e => (match callN e with | some (g, xs) => C.vis i g && ckEs (chkPs es) C xs | none => false)
  | .bi b es => .mk' fun C e => (match callN e with | some (g, xs) => blt C g (biN b) && ckEs (chkPs es) C xs && !xs.isEmpty | none => false)
  | .isi t a => .mk' fun C e => (match callN e with | some (g, [x, y]) => blt C g "isinstance" && (chkP a).e C x && noStar x && (match nameE y with | some z => blt C z (tyS t) | none => false) | _ => false)
  | .meth t a es => .mk' fun C e => (match callA e with | some (x, n, ap, xs, p) => decide (t ≠ .replace) && decide (n = mtNm t) && noSuper x && (ap.endLine == p.line) && (chkP a).e C x && ckEs (chkPs es) C xs && decide (xs.length < 20) | none => false)
  | .lam k caps => .mk' fun C e => (match lamE e with | some (p, b, s, _) => C.lm && (argNames p).isSome && C.lam k p b s (capN C.N caps) && decide (caps.map (C.N[·]?) = (capN C.N caps).map some) && s.names.all (fun y => !decide (y.2 = .free) || (decide (C.sc.names.lookup y.1 = some .cell) && (capN C.N caps).contains y.1)) && (capN C.N caps).all (fun y => s.names.contains (y, .free)) | none => false)
  | .comp _ own tg it c elt => .mk' fun C e => (match lcE e with | some (x, t, i, ifs, s, _) => chkPI it C t i && noSetB i && blkB C s own && tg.is.all own.contains && chkTg (C.blk s) tg t && ckC (chkPO c) (C.blk s) ifs && (chkP elt).e (C.blk s) x | none => false)
  | .fstr es => .mk' fun C e => (match fsE e with | some xs => ckFs (es.zip (chkPs es)) C xs && decide (2 ≤ xs.length) && decide (xs.length = es.length) | none => false)
def chkPs : List IE → List Ck
  | [] => []
  | e :: es => chkP e :: chkPs es
def chkPO : IO → Option Ck
  | .none => none
  | .some e => some (chkP e)
def chkPI : II → CC → Expr → Expr → Bool
  | .over a, C, _, e => (chkP a).e C e
  | .range1 a, C, _, e => match callN e with | some (g, [x]) => blt C g "range" && (chkP a).e C x && noStar x | _ => false
  | .range2 a b, C, _, e => match callN e with | some (g, [x, y]) => blt C g "range" && (chkP a).e C x && noStar x && (chkP b).e C y && noStar y | _ => false
  | .zip a b, C, t, e => match callN e with | some (g, [x, y]) => blt C g "zip" && (chkP a).e C x && noStar x && (chkP b).e C y && noStar y && (tupE t).isSome | _ => false
  | .enum a, C, t, e => match callN e with | some (g, [x]) => blt C g "enumerate" && (chkP a).e C x && noStar x && (tupE t).isSome | _ => false
end
/-! ### facts -/
/-- the program, with k frames left -/
structure PF (G : GI) (F : Fns) (k : Nat) (fns : List (Str × Nat)) : Prop where
  call : ∀ f n, fns.lookup f = some n → ∃ a, CalF G F k f n a
  fnv : ∀ f, F.fnv f = true → ∃ n, fns.lookup f = some n ∧ ∀ xs S, xs.length ≠ n → F.call f xs S = .bad
  lam : ∀ j, LamOk G F k j
  con : ∀ x d, F.con x = some d → ∃ v u, G.mg x = some u ∧ RelV v u ∧ ∀ oc ρ H, Rep G oc ρ H d v
  blt : ∀ x ∈ bltNames, G.mg x = none
structure Sat (la : Nat → Arguments → Expr → Scope → List Str → Prop) (T : List NTab) (oc : Nat → Option Addr) (W : WX) (F : Fns) (X : Cx) (k : Nat) (C : CC) : Prop extends Kin la T oc W F X k where
  N : X.N = C.N
  sc : X.env.scope = C.sc
  fnb : ∀ x, C.fnb x = true → X.fn x = true
  clm : C.lm = F.lm
  lmx : F.lm = true → LmX X T (fun _ _ => X.env.qual ++ "<lambda>")
  lam : ∀ j p b s fr, C.lam j p b s fr = true → la j p b s fr
  pf : PF (gX X la T) F k C.fns
section
variable {X : Cx} {la : Nat → Arguments → Expr → Scope → List Str → Prop} {T : List NdefX.NTab} {oc : Nat → Option Addr} {W : WX} {F : Fns} {k : Nat} {C : CC}
theorem okN_ok {x : Str} (h : okN x = true) : (x == ("__debug__" : Str)) = false ∧ (x == ("__classdict__" : Str)) = false := by
  unfold okN at h
  simpa only [Bool.and_eq_true, Bool.not_eq_true'] using h
theorem Sat.gl (s : Sat la T oc W F X k C) {x : Str} (h : C.gl x = true) : Gl X x ∧ (x == ("__debug__" : Str)) = false := by
  unfold CC.gl at h
  simp only [Bool.and_eq_true, decide_eq_true_eq] at h
  exact ⟨by show X.env.scope.names.lookup x = _; rw [s.sc]; exact h.1, (okN_ok h.2).1⟩
theorem Sat.vis (s : Sat la T oc W F X k C) {i : Nat} {x : Str} (h : C.vis i x = true) : X.N[i]? = some x ∧ Vis X.env.scope x ∧ (x == ("__debug__" : Str)) = false ∧ (x == ("__classdict__" : Str)) = false := by
  unfold CC.vis at h
  simp only [Bool.and_eq_true, Bool.or_eq_true, decide_eq_true_eq] at h
  refine ⟨by rw [s.N]; exact h.1.1, ?_, okN_ok h.1.2⟩
  unfold Vis
  rw [s.sc]
  rcases h.2 with (z | z) | z
  · exact .inl z
  · exact .inr (.inl z)
  · exact .inr (.inr z)
theorem Sat.loc (s : Sat la T oc W F X k C) {i : Nat} {x : Str} (h : C.loc i x = true) : X.N[i]? = some x ∧ LocX X x := by
  unfold CC.loc at h
  simp only [Bool.and_eq_true, Bool.or_eq_true, decide_eq_true_eq] at h
  refine ⟨by rw [s.N]; exact h.1, ?_⟩
  unfold LocX L2.Loc
  rw [s.sc]
  rcases h.2 with z | ⟨z, q⟩
  · exact ⟨.inl z, .inr z⟩
  · exact ⟨.inr z, .inl (s.fnb x q)⟩
theorem Sat.blt (s : Sat la T oc W F X k C) {x y : Str} (h : blt C x y = true) : x = y ∧ Gl X x ∧ X.mg x = none := by
  unfold LT.blt at h
  simp only [Bool.and_eq_true, decide_eq_true_eq, List.contains_iff_mem] at h
  exact ⟨h.1.1, (s.gl h.1.2).1, s.pf.blt x h.2⟩
theorem tnames_of (s : Sat la T oc W F X k C) : ∀ {is : List Nat} {es : List Expr}, chkNs C is es = true → TNames X is es
  | [], [], _ => .nil
  | i :: is, e :: es, h => by
    simp only [chkNs, Bool.and_eq_true] at h
    obtain ⟨h1, h2⟩ := h
    cases q : nameE e with
    | none => rw [q] at h1; cases h1
    | some x =>
      rw [q] at h1
      obtain ⟨p, rfl⟩ := nameE_eq q
      obtain ⟨a, b⟩ := s.loc h1
      exact .cons a b (tnames_of s h2)
  | [], _ :: _, h => by cases h
  | _ :: _, [], h => by cases h
theorem tg_tup {C : CC} {t : IT} {e : Expr} (h : chkTg C t e = true) (ht : tupT e = true) : ∃ is, t = .tup is := by
  cases t with
  | tup is => exact ⟨is, rfl⟩
  | name i =>
    unfold chkTg at h
    cases q : nameE e with
    | none => rw [q] at h; cases h
    | some x => obtain ⟨p, rfl⟩ := nameE_eq q; cases ht
theorem tg_of (s : Sat la T oc W F X k C) {t : IT} {e : Expr} (h : chkTg C t e = true) : PG X e (gIT X.K t) := by
  unfold chkTg at h
  cases t with
  | name i =>
    cases q : nameE e with
    | none => rw [q] at h; cases h
    | some x =>
      rw [q] at h
      obtain ⟨p, rfl⟩ := nameE_eq q
      obtain ⟨a, b⟩ := s.loc h
      exact pg_it_name s.nd a b
  | tup is =>
    cases q : tupE e with
    | none => rw [q] at h; cases h
    | some es =>
      rw [q] at h
      obtain ⟨kk, p, rfl⟩ := tupE_eq q
      exact pg_it_tup s.calm s.nd (tnames_of s h)
theorem blk_of (s : Sat la T oc W F X k C) {scope : Scope} {own : List Nat} (h : blkB C scope own = true) : BlkOk X.N X.env.scope scope (ownOf C.N own) ∧ (ownOf C.N own).map (·.2) = own := by
  unfold blkB at h
  simp only [Bool.and_eq_true, List.all_eq_true, decide_eq_true_eq, Bool.or_eq_true, Bool.not_eq_true', decide_eq_false_iff_not] at h
  obtain ⟨⟨⟨⟨h1, h2⟩, h3⟩, h4⟩, h5⟩ := h
  refine ⟨⟨h1, h2, fun p hp => ?_, fun y hy e => ?_, fun y hy e => ?_⟩, h3⟩
  · unfold ownOf at hp
    obtain ⟨i, _, hi⟩ := List.mem_filterMap.mp hp
    simp only [Option.map_eq_some_iff] at hi
    obtain ⟨x, hx, rfl⟩ := hi
    rw [s.N]; exact hx
  · rw [s.sc]
    rcases h4 y hy with (z | z) | z
    · exact absurd e z
    · exact .inl z
    · exact .inr z
  · rcases h5 y hy with (z | z) | z
    · simp only [Bool.or_eq_false_iff, decide_eq_false_iff_not] at z
      rcases e with e | e
      · exact absurd e z.1
      · exact absurd e z.2
    · exact .inl (List.contains_iff_mem.mp z)
    · refine .inr fun m => ?_
      rw [s.N] at m
      rw [List.contains_iff_mem.mpr m] at z; cases z
theorem calF_inC {G : GI} {f : Str} {n : Nat} {a : Addr} (h : CalF G F k f n a) : CalF G F.inC k f n a := ⟨h.mg, h.keep, h.ok⟩
theorem Sat.blk (s : Sat la T oc W F X k C) (sh : Shared) (H : Hp) (scope : Scope) (A : Addr) (cl : List (Str × Addr)) (fp : List Addr) : Sat la T oc0 W0 F.inC (X.blk sh H scope (cenvOf X scope A cl) fp) k (C.blk scope) where
  nd := s.nd
  calm := s.calm
  hu := s.hu
  rm := s.rm
  tk := fun _ _ ⟨_, _, _, _, _, _, _, _, _, _, _, _, _, _, _, _, w⟩ => w.elim
  pl := fun _ => rfl
  lm := fun z => Bool.noConfusion (show false = true from z)
  N := s.N
  sc := by
    show relS scope X.env.scope = relS scope C.sc
    rw [s.sc]
  fnb := fun x h => by
    have h : decide (scope.names.lookup x = some .cell) = true := h
    show (scope.names.lookup x == some .cell) = true
    rw [of_decide_eq_true h]; rfl
  clm := rfl
  lmx := fun z => Bool.noConfusion (show false = true from z)
  lam := s.lam
  pf := ⟨fun f n h => (s.pf.call f n h).imp fun a c => calF_inC c, s.pf.fnv, fun j => ⟨(s.pf.lam j).run⟩, s.pf.con, s.pf.blt⟩
end
end LT
set_option Elab.async false
set_option linter.all false
set_option maxRecDepth 100000
set_option maxHeartbeats 8000000
/-! Own layer, part I3: what the checker says of expressions. -/
namespace LT
open PySem PySem.Spec PyProof.Rows L2 LamX NdefX
section
variable {la : Nat → Arguments → Expr → Scope → List Str → Prop} {T : List NdefX.NTab}
structure Snd (la : Nat → Arguments → Expr → Scope → List Str → Prop) (T : List NTab) (ie : IE) : Prop where
  go : ∀ {oc : Nat → Option Addr} {W : WX} {F : Fns} {X : Cx} {k : Nat} {C : CC}, Sat la T oc W F X k C → ∀ e,
    ((chkP ie).e C e = true → DE (gX X la T) oc X W (evP ie F).e e) ∧ ((chkP ie).t C e = true → DT (gX X la T) oc X W (evP ie F).t e)
structure SndI (la : Nat → Arguments → Expr → Scope → List Str → Prop) (T : List NTab) (ii : II) : Prop where
  go : ∀ {oc : Nat → Option Addr} {W : WX} {F : Fns} {X : Cx} {k : Nat} {C : CC}, Sat la T oc W F X k C → ∀ t e, chkPI ii C t e = true → DI (gX X la T) oc X W (evPI ii F) t e
/-- a node whose truth is its value's -/
theorem snd_mk {ie : IE} {ce : CC → Expr → Bool} {m : Fns → Env' → Sto → Res D} (hc : chkP ie = Ck.mk' ce) (hv : ∀ F, evP ie F = Ev.mk' (m F))
    (h : ∀ {oc : Nat → Option Addr} {W : WX} {F : Fns} {X : Cx} {k : Nat} {C : CC}, Sat la T oc W F X k C → ∀ e, ce C e = true → DE (gX X la T) oc X W (m F) e) : Snd la T ie := Snd.mk fun {oc W F X k C} s e => by
  rw [hc, hv]
  refine ⟨h s e, fun q => ?_⟩
  have q : (ce C e && plainT e) = true := q
  rw [Bool.and_eq_true] at q
  exact dt_val (h s e q.1) q.2
section
variable {oc : Nat → Option Addr} {W : WX} {F : Fns} {X : Cx} {k : Nat} {C : CC}
theorem de_bad {e : Expr} : DE (gX X la T) oc X W (fun _ _ => .bad) e := ⟨fun pins s σ H Q I ⟨_, _, _, _, _, h⟩ => h.elim⟩
theorem dw_bad {e : Expr} : DW (gX X la T) oc X W (fun _ _ => .bad) e := ⟨fun wh pins s σ H Q I ⟨_, _, _, _, _, h⟩ => h.elim⟩
theorem evPs_length : ∀ {es : List IE} {F : Fns}, (evPs es F).length = es.length
  | [], _ => rfl
  | _ :: es, F => by simp only [evPs, List.length_cons, evPs_length (es := es)]
theorem das_of (s : Sat la T oc W F X k C) : ∀ {es : List IE}, (∀ ie ∈ es, Snd la T ie) → ∀ {xs : List Expr}, ckEs (chkPs es) C xs = true → DA (gX X la T) oc X W (evEs (evPs es F)) xs ∧ xs.all noStar = true ∧ xs.length = es.length
  | [], _, [], _ => ⟨da_nil, rfl, rfl⟩
  | ie :: es, hs, x :: xs, h => by
    simp only [chkPs, ckEs, Bool.and_eq_true] at h
    obtain ⟨a1, a2, a3⟩ := das_of s (fun i m => hs i (List.mem_cons_of_mem _ m)) h.2
    refine ⟨da_cons (((hs ie List.mem_cons_self).go s x).1 h.1.1) a1 h.1.2, by simp [h.1.2, a2], by simp [a3]⟩
  | [], _, _ :: _, h => by cases h
  | _ :: _, _, [], h => by cases h
theorem ands_of (s : Sat la T oc W F X k C) {pos : Pos} : ∀ {es : List IE}, (∀ ie ∈ es, Snd la T ie) → ∀ {xs : List Expr}, ckEs (chkPs es) C xs = true → DE (gX X la T) oc X W (evAnd (evPs es F)) (.BoolOp .And xs pos)
  | [], _, [], _ => de_bad
  | [ie], hs, [x], h => by
    simp only [chkPs, ckEs, Bool.and_eq_true] at h
    exact de_one (((hs ie List.mem_cons_self).go s x).1 h.1.1)
  | ie :: i2 :: es, hs, x :: y :: xs, h => by
    simp only [chkPs] at h
    unfold ckEs at h
    simp only [Bool.and_eq_true] at h
    exact de_and (((hs ie List.mem_cons_self).go s x).1 h.1.1) (ands_of s (es := i2 :: es) (fun i m => hs i (List.mem_cons_of_mem _ m)) (by simpa only [chkPs] using h.2))
  | [], _, _ :: _, h => by cases h
  | _ :: _, _, [], h => by cases h
  | [_], _, _ :: _ :: _, h => by simp [chkPs, ckEs] at h
  | _ :: _ :: _, _, [_], h => by simp [chkPs, ckEs] at h
theorem ors_of (s : Sat la T oc W F X k C) {pos : Pos} : ∀ {es : List IE}, (∀ ie ∈ es, Snd la T ie) → ∀ {xs : List Expr}, ckEs (chkPs es) C xs = true → DE (gX X la T) oc X W (evOr (evPs es F)) (.BoolOp .Or xs pos)
  | [], _, [], _ => de_bad
  | [ie], hs, [x], h => by
    simp only [chkPs, ckEs, Bool.and_eq_true] at h
    exact de_one (((hs ie List.mem_cons_self).go s x).1 h.1.1)
  | ie :: i2 :: es, hs, x :: y :: xs, h => by
    simp only [chkPs] at h
    unfold ckEs at h
    simp only [Bool.and_eq_true] at h
    exact de_or (((hs ie List.mem_cons_self).go s x).1 h.1.1) (ors_of s (es := i2 :: es) (fun i m => hs i (List.mem_cons_of_mem _ m)) (by simpa only [chkPs] using h.2))
  | [], _, _ :: _, h => by cases h
  | _ :: _, _, [], h => by cases h
  | [_], _, _ :: _ :: _, h => by simp [chkPs, ckEs] at h
  | _ :: _ :: _, _, [_], h => by simp [chkPs, ckEs] at h
theorem tands_of (s : Sat la T oc W F X k C) {pos : Pos} : ∀ {es : List IE}, (∀ ie ∈ es, Snd la T ie) → ∀ {xs : List Expr}, ckTs (chkPs es) C xs = true → DW (gX X la T) oc X W (evTAnd (evPs es F)) (.BoolOp .And xs pos)
  | [], _, [], _ => dw_bad
  | [ie], hs, [x], h => by
    simp only [chkPs, ckTs, Bool.and_eq_true] at h
    exact dw_and1 (((hs ie List.mem_cons_self).go s x).2 h.1)
  | ie :: i2 :: es, hs, x :: y :: xs, h => by
    simp only [chkPs] at h
    unfold ckTs at h
    simp only [Bool.and_eq_true] at h
    exact dw_and (((hs ie List.mem_cons_self).go s x).2 h.1) (tands_of s (es := i2 :: es) (fun i m => hs i (List.mem_cons_of_mem _ m)) (by simpa only [chkPs] using h.2))
  | [], _, _ :: _, h => by cases h
  | _ :: _, _, [], h => by cases h
  | [_], _, _ :: _ :: _, h => by simp [chkPs, ckTs] at h
  | _ :: _ :: _, _, [_], h => by simp [chkPs, ckTs] at h
theorem tors_of (s : Sat la T oc W F X k C) {pos : Pos} : ∀ {es : List IE}, (∀ ie ∈ es, Snd la T ie) → ∀ {xs : List Expr}, ckTs (chkPs es) C xs = true → DW (gX X la T) oc X W (evTOr (evPs es F)) (.BoolOp .Or xs pos)
  | [], _, [], _ => dw_bad
  | [ie], hs, [x], h => by
    simp only [chkPs, ckTs, Bool.and_eq_true] at h
    exact dw_or1 (((hs ie List.mem_cons_self).go s x).2 h.1)
  | ie :: i2 :: es, hs, x :: y :: xs, h => by
    simp only [chkPs] at h
    unfold ckTs at h
    simp only [Bool.and_eq_true] at h
    exact dw_or (((hs ie List.mem_cons_self).go s x).2 h.1) (tors_of s (es := i2 :: es) (fun i m => hs i (List.mem_cons_of_mem _ m)) (by simpa only [chkPs] using h.2))
  | [], _, _ :: _, h => by cases h
  | _ :: _, _, [], h => by cases h
  | [_], _, _ :: _ :: _, h => by simp [chkPs, ckTs] at h
  | _ :: _ :: _, _, [_], h => by simp [chkPs, ckTs] at h
theorem fss_of (s : Sat la T oc W F X k C) : ∀ {es : List IE}, (∀ ie ∈ es, Snd la T ie) → ∀ {xs : List Expr}, ckFs (es.zip (chkPs es)) C xs = true → DFps X la T oc W (evPs es F) xs
  | [], _, [], _ => .nil
  | ie :: es, hs, x :: xs, h => by
    simp only [chkPs, List.zip_cons_cons, ckFs, Bool.and_eq_true] at h
    obtain ⟨h1, h2⟩ := h
    refine .cons ?_ (fss_of s (fun i m => hs i (List.mem_cons_of_mem _ m)) h2)
    have gen : (match fvE x with | some a => (chkP ie).e C a | none => false) = true → DFp X la T oc W (evP ie F).e x := fun h => by
      cases q : fvE x with
      | none => rw [q] at h; cases h
      | some a =>
        rw [q] at h
        obtain ⟨pos, rfl⟩ := fvE_eq q
        exact dfp_fmt (((hs ie List.mem_cons_self).go s a).1 h)
    split at h1
    · rename_i q2
      obtain ⟨j, pos, rfl⟩ := constE_eq q2
      have h1 := of_decide_eq_true h1
      subst h1
      exact dfp_str
    · exact gen h1
  | [], _, _ :: _, h => by cases h
  | _ :: _, _, [], h => by cases h
end
section
variable {oc : Nat → Option Addr} {W : WX} {F : Fns} {X : Cx} {k : Nat} {C : CC}
theorem clsDef {p : Arguments} (h : (argNames p).isSome = true) (env : Env) : defaultsOf p env = ([], []) := by
  unfold argNames at h
  split at h
  · first | rfl | simp [defaultsOf, evalEach, evalEachOpt]
  · cases h
mutual
theorem snd : ∀ ie : IE, Snd la T ie
  | .var i => snd_mk rfl (fun _ => rfl) fun {oc W F X k C} s e h => by
    cases q : nameE e with
    | none => rw [q] at h; cases h
    | some x =>
      rw [q] at h
      obtain ⟨p, rfl⟩ := nameE_eq q
      obtain ⟨a, b, c, d⟩ := s.vis h
      exact de_var a b c d
  | .int i => snd_mk rfl (fun _ => rfl) fun {oc W F X k C} s e h => by
    cases q : constE e with
    | none => rw [q] at h; cases h
    | some c =>
      rw [q] at h
      obtain ⟨j, p, rfl⟩ := constE_eq q
      cases c with
      | int j => cases (of_decide_eq_true h); exact de_con pe_int fun ρ H => by simp only [Rep]
      | _ => cases h
  | .str i => snd_mk rfl (fun _ => rfl) fun {oc W F X k C} s e h => by
    cases q : constE e with
    | none => rw [q] at h; cases h
    | some c =>
      rw [q] at h
      obtain ⟨j, p, rfl⟩ := constE_eq q
      cases c with
      | str j => cases (of_decide_eq_true h); exact de_con pe_str fun ρ H => by simp only [Rep]
      | _ => cases h
  | .bl i => snd_mk rfl (fun _ => rfl) fun {oc W F X k C} s e h => by
    cases q : constE e with
    | none => rw [q] at h; cases h
    | some c =>
      rw [q] at h
      obtain ⟨j, p, rfl⟩ := constE_eq q
      cases c with
      | bool j => cases (of_decide_eq_true h); exact de_con pe_bl fun ρ H => by simp only [Rep]
      | _ => cases h
  | .non => snd_mk rfl (fun _ => rfl) fun {oc W F X k C} s e h => by
    cases q : constE e with
    | none => rw [q] at h; cases h
    | some c =>
      rw [q] at h
      obtain ⟨j, p, rfl⟩ := constE_eq q
      cases c with
      | none => exact de_con pe_non fun ρ H => by simp only [Rep]
      | _ => cases h
  | .gfn x => snd_mk (m := fun F _ S => if F.fnv x then .ok (.fn x) S else .bad) rfl (fun _ => rfl) fun {oc W F X k C} s e h => by
    cases q : nameE e with
    | none => rw [q] at h; cases h
    | some y =>
      rw [q] at h
      obtain ⟨p, rfl⟩ := nameE_eq q
      rw [Bool.and_eq_true, decide_eq_true_eq] at h
      obtain ⟨rfl, h⟩ := h
      obtain ⟨g1, g2⟩ := s.gl h
      cases hf : F.fnv x with
      | false => exact de_bad
      | true =>
        obtain ⟨n, hn, _⟩ := s.pf.fnv x hf
        obtain ⟨a, c⟩ := s.pf.call x n hn
        exact de_con (pe_glob (v := .ref a) g1 c.mg rfl g2) fun ρ H => by
          simp only [Rep]
          exact ⟨a, rfl, c.mg⟩
  | .gcon x => snd_mk (m := fun F _ S => match F.con x with | some d => .ok d S | none => .bad) rfl (fun _ => rfl) fun {oc W F X k C} s e h => by
    cases q : nameE e with
    | none => rw [q] at h; cases h
    | some y =>
      rw [q] at h
      obtain ⟨p, rfl⟩ := nameE_eq q
      rw [Bool.and_eq_true, decide_eq_true_eq] at h
      obtain ⟨rfl, h⟩ := h
      obtain ⟨g1, g2⟩ := s.gl h
      cases hf : F.con x with
      | none => exact de_bad
      | some d =>
        obtain ⟨v, u, c1, c2, c3⟩ := s.pf.con x d hf
        exact de_con (pe_glob g1 c1 c2 g2) fun ρ H => c3 oc ρ H
  | .bin o a b => snd_mk (m := fun F env S => ((evP a F).e env S).bind fun x S => ((evP b F).e env S).bind fun y S => binD o x y S) rfl (fun _ => rfl) fun {oc W F X k C} s e h => by
    cases q : binE e with
    | none => rw [q] at h; cases h
    | some p =>
      obtain ⟨l, p, r⟩ := p
      rw [q] at h
      obtain ⟨pos, rfl⟩ := binE_eq q
      simp only [Bool.and_eq_true, decide_eq_true_eq] at h
      obtain ⟨⟨rfl, h1⟩, h2⟩ := h
      exact de_bin (((snd a).go s l).1 h1) (((snd b).go s r).1 h2)
  | .neg a => snd_mk (m := fun F env S => ((evP a F).e env S).bind fun x S => match x with
    | .int i => .ok (.int (-i)) S
    | _ => .bad) rfl (fun _ => rfl) fun {oc W F X k C} s e h => by
    cases q : unE e with
    | none => rw [q] at h; cases h
    | some p =>
      obtain ⟨o, x⟩ := p
      rw [q] at h
      obtain ⟨pos, rfl⟩ := unE_eq q
      cases o with
      | USub => exact de_neg (((snd a).go s x).1 h)
      | _ => cases h
  | .not a => Snd.mk fun {oc W F X k C} s e => by
    refine ⟨fun h => ?_, fun h => ?_⟩
    · have h : (match unE e with | some (.Not, x) => (chkP a).e C x | _ => false) = true := h
      cases q : unE e with
      | none => rw [q] at h; cases h
      | some p =>
        obtain ⟨o, x⟩ := p
        rw [q] at h
        obtain ⟨pos, rfl⟩ := unE_eq q
        cases o with
        | Not => exact de_not (((snd a).go s x).1 h)
        | _ => cases h
    · have h : (match unE e with | some (.Not, x) => (chkP a).t C x | _ => false) = true := h
      cases q : unE e with
      | none => rw [q] at h; cases h
      | some p =>
        obtain ⟨o, x⟩ := p
        rw [q] at h
        obtain ⟨pos, rfl⟩ := unE_eq q
        cases o with
        | Not => exact dt_not (((snd a).go s x).2 h)
        | _ => cases h
  | .and es => Snd.mk fun {oc W F X k C} s e => by
    refine ⟨fun h => ?_, fun h => ?_⟩
    · have h : (match boolE e with | some (.And, xs) => ckEs (chkPs es) C xs | _ => false) = true := h
      cases q : boolE e with
      | none => rw [q] at h; cases h
      | some p =>
        obtain ⟨o, x⟩ := p
        rw [q] at h
        obtain ⟨pos, rfl⟩ := boolE_eq q
        cases o with
        | And => exact ands_of s (snds es) h
        | _ => cases h
    · have h : (match boolE e with | some (.And, xs) => ckTs (chkPs es) C xs | _ => false) = true := h
      cases q : boolE e with
      | none => rw [q] at h; cases h
      | some p =>
        obtain ⟨o, x⟩ := p
        rw [q] at h
        obtain ⟨pos, rfl⟩ := boolE_eq q
        cases o with
        | And => exact (tands_of s (snds es) h).dt
        | _ => cases h
  | .or es => Snd.mk fun {oc W F X k C} s e => by
    refine ⟨fun h => ?_, fun h => ?_⟩
    · have h : (match boolE e with | some (.Or, xs) => ckEs (chkPs es) C xs | _ => false) = true := h
      cases q : boolE e with
      | none => rw [q] at h; cases h
      | some p =>
        obtain ⟨o, x⟩ := p
        rw [q] at h
        obtain ⟨pos, rfl⟩ := boolE_eq q
        cases o with
        | Or => exact ors_of s (snds es) h
        | _ => cases h
    · have h : (match boolE e with | some (.Or, xs) => ckTs (chkPs es) C xs | _ => false) = true := h
      cases q : boolE e with
      | none => rw [q] at h; cases h
      | some p =>
        obtain ⟨o, x⟩ := p
        rw [q] at h
        obtain ⟨pos, rfl⟩ := boolE_eq q
        cases o with
        | Or => exact (tors_of s (snds es) h).dt
        | _ => cases h
  | .cmp c a b => Snd.mk fun {oc W F X k C} s e => by
    have key : (match cmpE e with | some (l, [p], [r]) => decide (p = cmOf c) && (chkP a).e C l && (chkP b).e C r && !behindInMarks p r | _ => false) = true → DE (gX X la T) oc X W (evP (.cmp c a b) F).e e ∧ DT (gX X la T) oc X W (evP (.cmp c a b) F).t e := fun h => by
      split at h
      · rename_i l p r q
        obtain ⟨pos, rfl⟩ := cmpE_eq q
        simp only [Bool.and_eq_true, decide_eq_true_eq, Bool.not_eq_true'] at h
        obtain ⟨⟨⟨rfl, h1⟩, h2⟩, h3⟩ := h
        exact ⟨de_cmp s.hu (((snd a).go s l).1 h1) (((snd b).go s r).1 h2) h3, dt_cmp s.hu (((snd a).go s l).1 h1) (((snd b).go s r).1 h2) h3⟩
      · cases h
    exact ⟨fun h => (key h).1, fun h => (key h).2⟩
  | .chain c d a b f => Snd.mk fun {oc W F X k C} s e => by
    have key : (match cmpE e with | some (l, [p, q], [r, t]) => decide (p = cmOf c) && decide (q = cmOf d) && (chkP a).e C l && (chkP b).e C r && (chkP f).e C t && !lastMarks [p, q] [r, t] | _ => false) = true → DE (gX X la T) oc X W (evP (.chain c d a b f) F).e e ∧ DT (gX X la T) oc X W (evP (.chain c d a b f) F).t e := fun h => by
      split at h
      · rename_i l p p2 r t q
        obtain ⟨pos, rfl⟩ := cmpE_eq q
        simp only [Bool.and_eq_true, decide_eq_true_eq, Bool.not_eq_true'] at h
        obtain ⟨⟨⟨⟨⟨rfl, rfl⟩, h1⟩, h2⟩, h3⟩, h4⟩ := h
        exact ⟨de_chain s.hu (((snd a).go s l).1 h1) (((snd b).go s r).1 h2) (((snd f).go s t).1 h3) h4, dt_chain s.hu (((snd a).go s l).1 h1) (((snd b).go s r).1 h2) (((snd f).go s t).1 h3) h4⟩
      · cases h
    exact ⟨fun h => (key h).1, fun h => (key h).2⟩
  | .isN ng a => Snd.mk fun {oc W F X k C} s e => by
    have key : (match cmpE e with | some (l, [p], [r]) => decide (p = if ng then .IsNot else .Is) && (chkP a).e C l && (match constE r with | some .none => true | _ => false) | _ => false) = true → DE (gX X la T) oc X W (evP (.isN ng a) F).e e ∧ DT (gX X la T) oc X W (evP (.isN ng a) F).t e := fun h => by
      split at h
      · rename_i l p r q
        obtain ⟨pos, rfl⟩ := cmpE_eq q
        simp only [Bool.and_eq_true, decide_eq_true_eq] at h
        obtain ⟨⟨rfl, h1⟩, h2⟩ := h
        split at h2
        · rename_i q2
          obtain ⟨j, p2, rfl⟩ := constE_eq q2
          exact ⟨de_isN (((snd a).go s l).1 h1), dt_isN (((snd a).go s l).1 h1)⟩
        · cases h2
      · cases h
    exact ⟨fun h => (key h).1, fun h => (key h).2⟩
  | .isB ng v a => Snd.mk fun {oc W F X k C} s e => by
    have key : (match cmpE e with | some (l, [p], [r]) => decide (p = if ng then .IsNot else .Is) && (chkP a).e C l && (match constE r with | some (.bool w) => decide (v = w) | _ => false) | _ => false) = true → DE (gX X la T) oc X W (evP (.isB ng v a) F).e e ∧ DT (gX X la T) oc X W (evP (.isB ng v a) F).t e := fun h => by
      split at h
      · rename_i l p r q
        obtain ⟨pos, rfl⟩ := cmpE_eq q
        simp only [Bool.and_eq_true, decide_eq_true_eq] at h
        obtain ⟨⟨rfl, h1⟩, h2⟩ := h
        split at h2
        · rename_i w q2
          obtain ⟨j, p2, rfl⟩ := constE_eq q2
          cases (of_decide_eq_true h2)
          exact ⟨de_isB (((snd a).go s l).1 h1), dt_isB (((snd a).go s l).1 h1)⟩
        · cases h2
      · cases h
    exact ⟨fun h => (key h).1, fun h => (key h).2⟩
  | .ite c a b => Snd.mk fun {oc W F X k C} s e => by
    refine ⟨fun h => ?_, fun h => ?_⟩
    · have h : (match ifE e with | some (x, y, z) => (chkP c).t C x && (chkP a).e C y && (chkP b).e C z | none => false) = true := h
      cases q : ifE e with
      | none => rw [q] at h; cases h
      | some p =>
        obtain ⟨x, y, z⟩ := p
        rw [q] at h
        obtain ⟨pos, rfl⟩ := ifE_eq q
        have h : ((chkP c).t C x && (chkP a).e C y && (chkP b).e C z) = true := h
        simp only [Bool.and_eq_true] at h
        exact de_ite (((snd c).go s x).2 h.1.1) (((snd a).go s y).1 h.1.2) (((snd b).go s z).1 h.2)
    · cases (show false = true from h)
  | .tup es => snd_mk (m := fun F env S => (evEs (evPs es F) env S).bind fun xs S => .ok (.tup xs) S) rfl (fun _ => rfl) fun {oc W F X k C} s e h => by
    cases q : tupE e with
    | none => rw [q] at h; cases h
    | some xs =>
      rw [q] at h
      obtain ⟨kk, pos, rfl⟩ := tupE_eq q
      have h : (ckEs (chkPs es) C xs && decide (es.length ≤ 1000)) = true := h
      simp only [Bool.and_eq_true, decide_eq_true_eq] at h
      exact de_tup (das_of s (snds es) h.1).1 (by rw [evPs_length]; exact h.2)
  | .lst m es => snd_mk (m := fun F env S => (evEs (evPs es F) env S).bind fun xs S => if m then (if D.cleans xs then .ok (.cell S.length) (S ++ [.lst xs]) else .bad) else .ok (.lst xs) S) rfl (fun _ => rfl) fun {oc W F X k C} s e h => by
    cases q : lstE e with
    | none => rw [q] at h; cases h
    | some xs =>
      rw [q] at h
      obtain ⟨pos, rfl⟩ := lstE_eq q
      simp only [Bool.and_eq_true, decide_eq_true_eq] at h
      exact de_lst (das_of s (snds es) h.1).1 (by rw [evPs_length]; exact h.2)
  | .idx a i => snd_mk (m := fun F env S => ((evP a F).e env S).bind fun x S => ((evP i F).e env S).bind fun y S => idxD x y S) rfl (fun _ => rfl) fun {oc W F X k C} s e h => by
    cases q : subE e with
    | none => rw [q] at h; cases h
    | some p =>
      obtain ⟨x, y⟩ := p
      rw [q] at h
      obtain ⟨pos, rfl⟩ := subE_eq q
      simp only [Bool.and_eq_true] at h
      exact de_idx (((snd a).go s x).1 h.1.1) (((snd i).go s y).1 h.1.2) (plain_ix h.2)
  | .sl a lo hi => snd_mk (m := fun F env S => ((evP a F).e env S).bind fun x S => (evO (evPO lo F) env S).bind fun l S => (evO (evPO hi F) env S).bind fun h S => slD x l h S) rfl (fun _ => rfl) fun {oc W F X k C} s e h => by
    cases q : subE e with
    | none => rw [q] at h; cases h
    | some p =>
      obtain ⟨x, y⟩ := p
      rw [q] at h
      obtain ⟨pos, rfl⟩ := subE_eq q
      dsimp only at h
      split at h
      · rename_i l u q2
        obtain ⟨p2, rfl⟩ := slE_eq q2
        simp only [Bool.and_eq_true] at h
        exact de_sl (((snd a).go s x).1 h.1.1) (sndO lo s l h.1.2) (sndO hi s u h.2)
      · cases h
  | .rev a => snd_mk (m := fun F env S => ((evP a F).e env S).bind fun x S => revD x S) rfl (fun _ => rfl) fun {oc W F X k C} s e h => by
    cases q : subE e with
    | none => rw [q] at h; cases h
    | some p =>
      obtain ⟨x, y⟩ := p
      rw [q] at h
      obtain ⟨pos, rfl⟩ := subE_eq q
      simp only [Bool.and_eq_true] at h
      obtain ⟨kk, p1, p2, p3, rfl⟩ := isRevE_eq h.2
      exact de_rev (((snd a).go s x).1 h.1)
  | .call f es => snd_mk (m := fun F env S => (evEs (evPs es F) env S).bind fun xs S => callE F env f xs S) rfl (fun _ => rfl) fun {oc W F X k C} s e h => by
    cases q : callN e with
    | none => rw [q] at h; cases h
    | some p =>
      obtain ⟨g, xs⟩ := p
      rw [q] at h
      obtain ⟨p, pos, rfl⟩ := callN_eq q
      simp only [Bool.and_eq_true, decide_eq_true_eq] at h
      obtain ⟨⟨⟨rfl, h1⟩, h2⟩, h3⟩ := h
      obtain ⟨g1, g2⟩ := s.gl h1
      obtain ⟨a, c⟩ := s.pf.call _ _ h2
      obtain ⟨a1, a2, a3⟩ := das_of s (snds es) h3
      rw [← evPs_length (es := es) (F := F)] at c
      exact de_call s.toKin c g1 g2 a1 a2
  | .callv i es => snd_mk (m := fun F env S => match (env[i]?).join with
    | some (.fn f) => if F.fnv f then (evEs (evPs es F) env S).bind fun xs S => callE F env f xs S else .bad
    | some (.clo k caps) => if F.lm then .bad else (evEs (evPs es F) env S).bind fun xs S => if D.cleans xs then F.lam k caps xs S else .bad
    | _ => .bad) rfl (fun _ => rfl) fun {oc W F X k C} s e h => by
    cases q : callN e with
    | none => rw [q] at h; cases h
    | some p =>
      obtain ⟨g, xs⟩ := p
      rw [q] at h
      obtain ⟨p, pos, rfl⟩ := callN_eq q
      simp only [Bool.and_eq_true] at h
      obtain ⟨v1, v2, v3, v4⟩ := s.vis h.1
      obtain ⟨a1, a2, a3⟩ := das_of s (snds es) h.2
      refine de_callv s.toKin (fun f hf => ?_) s.pf.lam v1 v2 v3 v4 a1 a2
      obtain ⟨n, h1, h2⟩ := s.pf.fnv f hf
      obtain ⟨a, c⟩ := s.pf.call f n h1
      exact ⟨n, a, c, h2⟩
  | .bi b es => snd_mk (m := fun F env S => (evEs (evPs es F) env S).bind fun xs S => biD b xs S) rfl (fun _ => rfl) fun {oc W F X k C} s e h => by
    cases q : callN e with
    | none => rw [q] at h; cases h
    | some p =>
      obtain ⟨g, xs⟩ := p
      rw [q] at h
      obtain ⟨p, pos, rfl⟩ := callN_eq q
      simp only [Bool.and_eq_true] at h
      obtain ⟨⟨h1, h2⟩, h3⟩ := h
      obtain ⟨g1, g2, g3⟩ := s.blt h1
      obtain ⟨a1, a2, a3⟩ := das_of s (snds es) h2
      cases xs with
      | nil => cases h3
      | cons x xs =>
        simp only [List.all_cons, Bool.and_eq_true] at a2
        exact de_bi s.calm s.hu g1 g2 g3 a1 a2.1 a2.2
  | .isi t a => snd_mk (m := fun F env S => ((evP a F).e env S).bind fun x S => match isiD t S x with
    | some b => .ok (.bl b) S
    | none => .bad) rfl (fun _ => rfl) fun {oc W F X k C} s e h => by
    split at h
    · rename_i g x y q
      obtain ⟨p, pos, rfl⟩ := callN_eq q
      simp only [Bool.and_eq_true] at h
      obtain ⟨⟨⟨h1, h2⟩, h3⟩, h4⟩ := h
      obtain ⟨g1, g2, g3⟩ := s.blt h1
      cases q2 : nameE y with
      | none => rw [q2] at h4; cases h4
      | some z =>
        rw [q2] at h4
        obtain ⟨p2, rfl⟩ := nameE_eq q2
        obtain ⟨b1, b2, b3⟩ := s.blt h4
        exact de_isi g1 b1 g2 g3 b2 b3 (((snd a).go s x).1 h2) h3
    · cases h
  | .meth t a es => snd_mk (m := fun F env S => ((evP a F).e env S).bind fun x S => if recvOk t x S then (evEs (evPs es F) env S).bind fun xs S => methD t x xs S else .bad) rfl (fun _ => rfl) fun {oc W F X k C} s e h => by
    cases q : callA e with
    | none => rw [q] at h; cases h
    | some p =>
      obtain ⟨x, n, ap, xs, p⟩ := p
      rw [q] at h
      have e1 := callA_eq q
      subst e1
      simp only [Bool.and_eq_true, decide_eq_true_eq] at h
      obtain ⟨⟨⟨⟨⟨⟨h1, h2⟩, h3⟩, h4⟩, h5⟩, h6⟩, h7⟩ := h
      obtain ⟨a1, a2, a3⟩ := das_of s (snds es) h6
      cases xs with
      | nil =>
        cases es with
        | nil => exact de_meth0 s.hu h1 h2 h3 h4 (((snd a).go s x).1 h5)
        | cons _ _ => simp at a3
      | cons y xs => exact de_meth s.hu h1 h2 h3 h4 (((snd a).go s x).1 h5) a1 a2 h7 (by simp)
  | .lam j caps => snd_mk (m := fun F _ S => if F.lm then .ok (.own j caps) S else .bad) rfl (fun _ => rfl) fun {oc W F X k C} s e h => by
    cases q : lamE e with
    | none => rw [q] at h; cases h
    | some p =>
      obtain ⟨p, b, sc, pos⟩ := p
      rw [q] at h
      have e1 := lamE_eq q
      subst e1
      simp only [Bool.and_eq_true, decide_eq_true_eq, List.all_eq_true, Bool.or_eq_true, Bool.not_eq_true', decide_eq_false_iff_not, List.contains_iff_mem] at h
      obtain ⟨⟨⟨⟨⟨h1, h2⟩, h3⟩, h4⟩, h5⟩, h6⟩ := h
      have hlm : F.lm = true := by rw [← s.clm]; exact h1
      have hoc := (s.lm hlm).1
      subst hoc
      simp only [hlm, if_true]
      refine de_lam (s.lmx hlm) rfl (clsDef h2 X.env) (s.lam _ _ _ _ _ h3) (fun y hy e => ?_) (fun y hy e => ?_) (fun y hy => h6 y hy) (by rw [s.N]; exact h4)
      · rw [s.sc]; exact ((h5 y hy).resolve_left fun z => z e).1
      · exact ((h5 y hy).resolve_left fun z => z e).2
  | .comp m own tg it c elt => snd_mk (m := fun F => compM F tg own (evPI it F) (evC (evPO c F.inC)) (evP elt F.inC).e m) rfl (fun _ => rfl) fun {oc W F X k C} s e h => by
    cases q : lcE e with
    | none => rw [q] at h; cases h
    | some p =>
      obtain ⟨x, t, i, ifs, sc, pos⟩ := p
      rw [q] at h
      have e1 := lcE_eq q
      subst e1
      simp only [Bool.and_eq_true, List.all_eq_true, List.contains_iff_mem] at h
      obtain ⟨⟨⟨⟨⟨⟨h1, h2⟩, h3⟩, h4⟩, h5⟩, h6⟩, h7⟩ := h
      obtain ⟨b1, b2⟩ := blk_of s h3
      have key := de_comp (tg_tup h5) (m := m) (tgI := tg) (F := F) (me := (evP elt F.inC).e) (mt := evC (evPO c F.inC)) (pos := pos) (elt := x) (ifs := ifs) s.toKin ((sndI it).go s t i h1) b1 (fun i hi => by rw [b2]; exact h4 i hi)
        (fun sh H A cl fp => tg_of (s.blk sh H sc A cl fp) h5) (fun sh H A cl fp => sndC c (s.blk sh H sc A cl fp) ifs h6) (fun sh H A cl fp => ((snd elt).go (s.blk sh H sc A cl fp) x).1 h7) h2
      rw [b2] at key
      exact key
  | .fstr es => snd_mk (m := fun F env S => evFs (evPs es F) Str.empty env S) rfl (fun _ => rfl) fun {oc W F X k C} s e h => by
    cases q : fsE e with
    | none => rw [q] at h; cases h
    | some xs =>
      rw [q] at h
      obtain ⟨pos, rfl⟩ := fsE_eq q
      simp only [Bool.and_eq_true, decide_eq_true_eq] at h
      have hz := fss_of s (snds es) h.1.1
      have hl : (evPs es F).length = xs.length := by rw [evPs_length]; exact h.2.symm
      generalize evPs es F = l at hz hl ⊢
      cases hz with
      | nil => exact absurd h.1.2 (by simp)
      | cons h1 h2 => cases h2 with
        | nil => exact absurd h.1.2 (by simp)
        | cons h2 h3 => exact de_fstr (.cons h1 (.cons h2 h3))
theorem snds : ∀ es : List IE, ∀ ie ∈ es, Snd la T ie
  | [], _, h => absurd h (by simp)
  | e :: es, ie, h => by
    rcases List.mem_cons.mp h with z | z
    · rw [z]; exact snd e
    · exact snds es ie z
theorem sndO : ∀ (io : IO) {oc : Nat → Option Addr} {W : WX} {F : Fns} {X : Cx} {k : Nat} {C : CC}, Sat la T oc W F X k C → ∀ e, ckO (chkPO io) C e = true → DO X la T oc W (evO (evPO io F)) e
  | .none, oc, W, F, X, k, C, s, e, h => by
    cases e with
    | none => exact do_none
    | some e => cases h
  | .some a, oc, W, F, X, k, C, s, e, h => by
    cases e with
    | none => cases h
    | some e => exact do_some (((snd a).go s e).1 h)
theorem sndC : ∀ (io : IO) {oc : Nat → Option Addr} {W : WX} {F : Fns} {X : Cx} {k : Nat} {C : CC}, Sat la T oc W F X k C → ∀ e, ckC (chkPO io) C e = true → PTs X e (tM (gX X la T) oc RB W (evC (evPO io F)))
  | .none, oc, W, F, X, k, C, s, e, h => by
    cases e with
    | nil => exact dts_nil
    | cons e es => cases h
  | .some a, oc, W, F, X, k, C, s, e, h => by
    cases e with
    | nil => cases h
    | cons e es => cases es with
      | nil => exact dts_one (((snd a).go s e).2 h)
      | cons _ _ => cases h
theorem sndI : ∀ ii : II, SndI la T ii
  | .over a => SndI.mk fun {oc W F X k C} s t e h => by
    exact di_over (((snd a).go s e).1 h)
  | .range1 a => SndI.mk fun {oc W F X k C} s t e h => by
    unfold chkPI at h
    split at h
    · rename_i g x q
      obtain ⟨p, pos, rfl⟩ := callN_eq q
      simp only [Bool.and_eq_true] at h
      obtain ⟨g1, g2, g3⟩ := s.blt h.1.1
      exact di_rng1 g1 g2 g3 (((snd a).go s x).1 h.1.2) h.2
    · cases h
  | .range2 a b => SndI.mk fun {oc W F X k C} s t e h => by
    unfold chkPI at h
    split at h
    · rename_i g x y q
      obtain ⟨p, pos, rfl⟩ := callN_eq q
      simp only [Bool.and_eq_true] at h
      obtain ⟨⟨⟨⟨h1, h2⟩, h3⟩, h4⟩, h5⟩ := h
      obtain ⟨g1, g2, g3⟩ := s.blt h1
      exact di_rng2 g1 g2 g3 (((snd a).go s x).1 h2) (((snd b).go s y).1 h4) h3 h5
    · cases h
  | .zip a b => SndI.mk fun {oc W F X k C} s t e h => by
    unfold chkPI at h
    split at h
    · rename_i g x y q
      obtain ⟨p, pos, rfl⟩ := callN_eq q
      simp only [Bool.and_eq_true] at h
      obtain ⟨⟨⟨⟨⟨h1, h2⟩, h3⟩, h4⟩, h5⟩, h6⟩ := h
      obtain ⟨g1, g2, g3⟩ := s.blt h1
      obtain ⟨ts, ht⟩ := Option.isSome_iff_exists.mp h6
      obtain ⟨kk, tp, rfl⟩ := tupE_eq ht
      exact di_zip g1 g2 g3 (((snd a).go s x).1 h2) (((snd b).go s y).1 h4) h3 h5
    · cases h
  | .enum a => SndI.mk fun {oc W F X k C} s t e h => by
    unfold chkPI at h
    split at h
    · rename_i g x q
      obtain ⟨p, pos, rfl⟩ := callN_eq q
      simp only [Bool.and_eq_true] at h
      obtain ⟨⟨⟨h1, h2⟩, h3⟩, h4⟩ := h
      obtain ⟨g1, g2, g3⟩ := s.blt h1
      obtain ⟨ts, ht⟩ := Option.isSome_iff_exists.mp h4
      obtain ⟨kk, tp, rfl⟩ := tupE_eq ht
      exact di_enum g1 g2 g3 (((snd a).go s x).1 h2) h3
    · cases h
end
end
end
end LT
set_option Elab.async false
set_option linter.all false
set_option maxRecDepth 100000
set_option maxHeartbeats 8000000
/-! Own layer, part I4: the checker of statements. -/
namespace LT
open PySem PySem.Spec PyProof.Rows L2 LamX NdefX
/-! ### the syntax tree's forms -/
def asgS : Stmt → Option (Expr × Expr × Pos)
  | .Assign [t] e pos => some (t, e, pos)
  | _ => none
theorem asgS_eq {st : Stmt} {t e : Expr} {pos : Pos} (h : asgS st = some (t, e, pos)) : st = .Assign [t] e pos := by
  unfold asgS at h
  split at h
  · cases h; rfl
  · cases h
def exprS : Stmt → Option Expr
  | .Expr e _ => some e
  | _ => none
theorem exprS_eq {st : Stmt} {e : Expr} (h : exprS st = some e) : ∃ pos, st = .Expr e pos := by
  cases st <;> first | (cases h; exact ⟨_, rfl⟩) | cases h
def ifS : Stmt → Option (Expr × List Stmt × List Stmt)
  | .If c a b _ => some (c, a, b)
  | _ => none
theorem ifS_eq {st : Stmt} {c : Expr} {a b : List Stmt} (h : ifS st = some (c, a, b)) : ∃ pos, st = .If c a b pos := by
  cases st <;> first | (cases h; exact ⟨_, rfl⟩) | cases h
def forS : Stmt → Option (Expr × Expr × List Stmt)
  | .For t i b [] _ => some (t, i, b)
  | _ => none
theorem forS_eq {st : Stmt} {t i : Expr} {b : List Stmt} (h : forS st = some (t, i, b)) : ∃ pos, st = .For t i b [] pos := by
  unfold forS at h
  split at h
  · cases h; exact ⟨_, rfl⟩
  · cases h
def whileS : Stmt → Option (Expr × List Stmt)
  | .While c b [] _ => some (c, b)
  | _ => none
theorem whileS_eq {st : Stmt} {c : Expr} {b : List Stmt} (h : whileS st = some (c, b)) : ∃ pos, st = .While c b [] pos := by
  unfold whileS at h
  split at h
  · cases h; exact ⟨_, rfl⟩
  · cases h
def retS : Stmt → Option (Option Expr)
  | .Return e _ => some e
  | _ => none
theorem retS_eq {st : Stmt} {e : Option Expr} (h : retS st = some e) : ∃ pos, st = .Return e pos := by
  cases st <;> first | (cases h; exact ⟨_, rfl⟩) | cases h
def raiseS : Stmt → Option Expr
  | .Raise (some e) none _ => some e
  | _ => none
theorem raiseS_eq {st : Stmt} {e : Expr} (h : raiseS st = some e) : ∃ pos, st = .Raise (some e) none pos := by
  unfold raiseS at h
  split at h
  · cases h; exact ⟨_, rfl⟩
  · cases h
def isPassS : Stmt → Bool
  | .Pass _ => true
  | _ => false
theorem isPassS_eq {st : Stmt} (h : isPassS st = true) : ∃ pos, st = .Pass pos := by
  cases st <;> first | exact ⟨_, rfl⟩ | cases h
def isBreakS : Stmt → Bool
  | .Break _ => true
  | _ => false
theorem isBreakS_eq {st : Stmt} (h : isBreakS st = true) : ∃ pos, st = .Break pos := by
  cases st <;> first | exact ⟨_, rfl⟩ | cases h
def isContS : Stmt → Bool
  | .Continue _ => true
  | _ => false
theorem isContS_eq {st : Stmt} (h : isContS st = true) : ∃ pos, st = .Continue pos := by
  cases st <;> first | exact ⟨_, rfl⟩ | cases h
/-! ### which stores go from the right -/
def bkS (sc : Scope) : ScopeKind := if sc.kind.isAnnotationScope then .function else sc.kind
def swS (sc : Scope) (ts : List Expr) (value : Expr) : Option (Option (List Str)) :=
  match value with
  | .Tuple vs _ _ =>
    if (!(ts.length == 2 || ts.length == 3) || vs.length != ts.length || bkS sc != .function) = true then some none
    else if (vs.any fun | .Starred .. => true | _ => false) = true then some none
    else if ((ts.filterMap fun
        | .Name id pos => if (sc.names.lookup id == some .local && pos.line == (ts.head?.map (·.pos.line)).getD 0) = true then some id else none
        | _ => none).length != ts.length || (ts.filterMap fun
        | .Name id pos => if (sc.names.lookup id == some .local && pos.line == (ts.head?.map (·.pos.line)).getD 0) = true then some id else none
        | _ => none).eraseDups.length != (ts.filterMap fun
        | .Name id pos => if (sc.names.lookup id == some .local && pos.line == (ts.head?.map (·.pos.line)).getD 0) = true then some id else none
        | _ => none).length) = true then some none
    else if vs.all (foldedForSure 8) = true then some none
    else if vs.all (constantsAlone 8) = true then none
    else some (some (ts.filterMap fun
        | .Name id pos => if (sc.names.lookup id == some .local && pos.line == (ts.head?.map (·.pos.line)).getD 0) = true then some id else none
        | _ => none))
  | _ => some none
theorem swS_eq {env : Env} {ts : List Expr} {k : Nat} {p : Pos} {value : Expr} {r : Option (List Str)} (h : swS env.scope ts value = some r) : swappedStores [.Tuple ts k p] value env = pure r := by
  unfold swS at h
  split at h
  · rename_i vs k2 p2
    unfold swappedStores
    have hb : env.blockKind = bkS env.scope := rfl
    have hk : ∀ x, env.kindOf x = env.scope.names.lookup x := fun x => rfl
    simp only [hb, hk]
    split at h
    · rename_i c
      cases h
      exact if_pos c
    · rename_i c
      refine (if_neg c).trans ?_
      split at h
      · rename_i c2
        cases h
        exact if_pos c2
      · rename_i c2
        refine (if_neg c2).trans ?_
        split at h
        · rename_i c3
          cases h
          exact if_pos c3
        · rename_i c3
          refine (if_neg c3).trans ?_
          split at h
          · rename_i c4
            cases h
            exact if_pos c4
          · rename_i c4
            refine (if_neg c4).trans ?_
            split at h
            · cases h
            · rename_i c5
              cases h
              exact if_neg c5
  · cases h
    unfold swappedStores
    rename_i hn
    cases value <;> first | rfl | exact absurd rfl (hn _ _ _)
/-- does the new list go to its name before the block's names go -/
def swP (sc s : Scope) (y : Str) (py lp : Pos) : Bool := bkS sc == .function && sc.names.lookup y == some .local && py.line == lp.line && !(s.names.any fun (n, k) => n == y && (k == .local || k == .cell))
theorem swP_eq {elt : Expr} {g : List Comprehension} {s : Scope} {lp py : Pos} {y : Str} {n : Nat} {env : Env} : swapsWith (.ListComp elt g s lp) (some (.Name y py)) n env = pure (swP env.scope s y py lp) := by
  first
  | (unfold swapsWith; rfl)
  | (simp only [swapsWith, swP, bkS, Env.blockKind, Env.kindOf, Expr.pos]; rfl)
  | (simp only [swapsWith, swP, bkS, Env.blockKind, Env.kindOf, Expr.pos])
def nameP : Expr → Option (Str × Pos)
  | .Name x p => some (x, p)
  | _ => none
theorem nameP_eq {e : Expr} {x : Str} {p : Pos} (h : nameP e = some (x, p)) : e = .Name x p := by
  cases e <;> first | (cases h; rfl) | cases h
def par2 (C : CC) (is : List Nat) (ts : List Expr) (v : Expr) (e : IE) (names : List Str) : Bool :=
  match is, ts, v, e with
  | [i, j], [.Name x _, .Name y _], .Tuple [a, b] _ _, .tup es => decide (names = [x, y]) && decide (i ≠ j) && decide (C.N[i]? = some x) && decide (C.N[j]? = some y) && decide (C.sc.names.lookup x = some .local) && decide (C.sc.names.lookup y = some .local) && ckEs (chkPs es) C [a, b]
  | [i, j, m], [.Name x _, .Name y _, .Name z _], .Tuple [a, b, c] _ _, .tup es => decide (names = [x, y, z]) && decide (i ≠ j) && decide (i ≠ m) && decide (j ≠ m) && decide (C.N[i]? = some x) && decide (C.N[j]? = some y) && decide (C.N[m]? = some z) &&
      decide (C.sc.names.lookup x = some .local) && decide (C.sc.names.lookup y = some .local) && decide (C.sc.names.lookup z = some .local) && ckEs (chkPs es) C [a, b, c]
  | _, _, _, _ => false
def subS : Expr → Option (Expr × Expr × Expr × Expr × Nat × Pos × Pos × Pos)
  | .Tuple [.Subscript o i p, .Subscript o2 i2 p2] kt pt => some (o, i, o2, i2, kt, p, p2, pt)
  | _ => none
theorem subS_eq {e o i o2 i2 : Expr} {kt : Nat} {p p2 pt : Pos} (h : subS e = some (o, i, o2, i2, kt, p, p2, pt)) : e = .Tuple [.Subscript o i p, .Subscript o2 i2 p2] kt pt := by
  unfold subS at h
  split at h
  · cases h; rfl
  · cases h
def chkAsg (C : CC) (tg : IT) (e : IE) (st : Stmt) : Bool := match asgS st with
  | none => false
  | some (t, v, _) => match tg with
    | .name i => (match nameP t with
      | none => false
      | some (x, p) => C.loc i x && (match lcE v with
        | some (_, _, _, _, s, lp) => if swP C.sc s x p lp then (match e with | .comp .. => decide (C.sc.names.lookup x = some .local) && (chkP e).e C v | _ => false) else (chkP e).e C v
        | none => noCompB v && (chkP e).e C v))
    | .tup is => (match tupE t with
      | none => false
      | some ts => match swS C.sc ts v with
        | some none => noCompB v && chkNs C is ts && (chkP e).e C v
        | some (some names) => par2 C is ts v e names
        | none => false)
/-- a try's suite as the checker knows it -/
abbrev TryC := CC → Str → Nat → Su → Stmt → Option (List Stmt)
mutual
def chkS (xc : Str → Bool) (tc : TryC) : IS → CC → Stmt → Bool
  | .asg tg e, C, st => chkAsg C tg e st
  | .asub a i e, C, st => (match asgS st with
    | some (t, v, _) => (match subE t with
      | some (o, x) => noCompB v && (chkP e).e C v && (chkP a).e C o && (chkP i).e C x && plainIxB x
      | none => false)
    | none => false)
  | .asub2 a i b j e, C, st => (match asgS st with
    | some (t, v, _) => (match subS t with
      | some (o, x, o2, x2, _, p, p2, _) => noCompB v && (chkP e).e C v && (chkP a).e C o && (chkP i).e C x && plainIxB x && (chkP b).e C o2 && (chkP j).e C x2 && plainIxB x2 && decide (swS C.sc [.Subscript o x p, .Subscript o2 x2 p2] v = some none)
      | none => false)
    | none => false)
  | .expr e, C, st => (match exprS st with | some v => noCompB v && (chkP e).e C v | none => false)
  | .aug _ _ _, _, _ => false
  | .ifs c t f, C, st => (match ifS st with | some (x, a, b) => (chkP c).t C x && chkB xc tc t C a && chkB xc tc f C b | none => false)
  | .for_ tg it body, C, st => (match forS st with | some (t, i, b) => chkPI it C t i && noSetB i && chkTg C tg t && chkB xc tc body C b | none => false)
  | .while_ c body, C, st => (match whileS st with | some (x, b) => (chkP c).t C x && chkB xc tc body C b | none => false)
  | .ret e, C, st => (match retS st with | some (some v) => (chkP e).e C v | _ => false)
  | .retN, _, st => (match retS st with | some none => true | _ => false)
  | .raise_ x .none, C, st => (match raiseS st with
    | some v => (match callN v with
      | some (y, [m]) => decide (x = y) && C.gl x && xc x && (match constE m with | some (.str _) => true | _ => false)
      | _ => false)
    | none => false)
  | .raise_ _ (.some _), _, _ => false
  | .break_, _, st => isBreakS st
  | .cont, _, st => isContS st
  | .pass, _, st => isPassS st
  | .try_ body cls i su, C, st => (match tc C cls i su st with | some b => chkB xc tc body C b | none => false)
def chkB (xc : Str → Bool) (tc : TryC) : List IS → CC → List Stmt → Bool
  | [], _, [] => true
  | s :: ss, C, st :: sts => chkS xc tc s C st && chkB xc tc ss C sts
  | _, _, _ => false
end
/-! ### soundness -/
/-- a plain class of exceptions -/
structure XPlain (G : GI) (x : Str) : Prop where
  ex : ∃ (CA : Addr) (bmB : List Value) (B newId initId : String), ExcBaseFacts B newId initId bmB ∧ PySem.W.excIn G.K CA bmB newId = true ∧ G.mg x = some (.ref CA) ∧ PySem.W.keepIn G.K (.ref CA) = true ∧
    PySem.W.subIn G.K (.ref CA) (.type "BaseException") = some true ∧ PySem.W.typeIn G.K (.ref CA) = some (.type "type")
structure SatS (la : Nat → Arguments → Expr → Scope → List Str → Prop) (T : List NTab) (oc : Nat → Option Addr) (W : WX) (F : Fns) (X : Cx) (k : Nat) (C : CC) : Prop extends Sat la T oc W F X k C where
  po : PassesOwn (model X.prog X.w) X.A X.env X.xe
  stk : X.stack = X.env :: X.outer
  frm : X.env.frame = some X.env.locals
  rm1 : Room (k + 1) X.A
/-- the suites that the checker lets pass -/
structure TryOk (la : Nat → Arguments → Expr → Scope → List Str → Prop) (T : List NTab) (Xc : Xcs) (tc : TryC) (G : GI) : Prop where
  go : ∀ {oc : Nat → Option Addr} {W : WX} {F : Fns} {X : Cx} {k : Nat} {C : CC} {cls : Str} {i : Nat} {su : Su} {st : Stmt} {b : List Stmt} {m : Env' → Sto → RS}, gX X la T = G → SatS la T oc W F X k C → tc C cls i su st = some b →
    (∀ {W' : WX} {X' : Cx}, X'.env = X.env → X'.N = X.N → SatS la T oc W' F X' k C → gX X' la T = gX X la T → DB X' la T oc W' m b) →
    DS X la T oc W (fun env S => suOut Xc su cls i (m env S)) st
section
variable {la : Nat → Arguments → Expr → Scope → List Str → Prop} {T : List NdefX.NTab} {oc : Nat → Option Addr} {W : WX} {F : Fns} {X : Cx} {k : Nat} {C : CC}
theorem asg_snd (s : Sat la T oc W F X k C) {tg : IT} {e : IE} {st : Stmt} (h : chkAsg C tg e st = true) :
    DS X la T oc W (fun env S => (evalE F e env S).toS env fun d S => match bindT tg d env with | some env => .nx env S | none => .bad) st := by
  unfold chkAsg at h
  cases qa : asgS st with
  | none => rw [qa] at h; cases h
  | some p =>
    obtain ⟨t, v, pos⟩ := p
    rw [qa] at h
    have es := asgS_eq qa
    subst es
    dsimp only at h
    cases tg with
    | name i =>
      dsimp only at h
      cases qn : nameP t with
      | none => rw [qn] at h; cases h
      | some xp =>
        obtain ⟨x, p⟩ := xp
        rw [qn] at h
        have et := nameP_eq qn
        subst et
        dsimp only at h
        rw [Bool.and_eq_true] at h
        obtain ⟨hl, h⟩ := h
        obtain ⟨l1, l2⟩ := s.loc hl
        cases ql : lcE v with
        | none =>
          rw [ql] at h
          dsimp only at h
          rw [Bool.and_eq_true] at h
          exact ds_set s.nd l1 l2 (((snd e).go s v).1 h.2) (noComp h.1)
        | some q =>
          obtain ⟨elt, tg, iter, ifs, sc, lp⟩ := q
          rw [ql] at h
          have ev := lcE_eq ql
          subst ev
          dsimp only at h
          by_cases hsw : swP C.sc sc x p lp = true
          · rw [if_pos hsw] at h
            cases e with
            | comp m own tgI it c eltI =>
              dsimp only at h
              rw [Bool.and_eq_true, decide_eq_true_eq] at h
              obtain ⟨h0, h⟩ := h
              have h : (chkPI it C tg iter && noSetB iter && blkB C sc own && tgI.is.all own.contains && chkTg (C.blk sc) tgI tg && ckC (chkPO c) (C.blk sc) ifs && (chkP eltI).e (C.blk sc) elt) = true := h
              simp only [Bool.and_eq_true, List.all_eq_true, List.contains_iff_mem] at h
              obtain ⟨⟨⟨⟨⟨⟨h1, h2⟩, h3⟩, h4⟩, h5⟩, h6⟩, h7⟩ := h
              obtain ⟨b1, b2⟩ := blk_of s h3
              have key := ds_setComp (tg_tup h5) (m := m) (tgI := tgI) (F := F) (me := (evP eltI F.inC).e) (mt := evC (evPO c F.inC)) (pos := lp) (elt := elt) (ifs := ifs) (py := p) (spos := pos) s.toKin l1 (by rw [s.sc]; exact h0) (by rw [swP_eq, s.sc, hsw]) ((sndI it).go s tg iter h1) b1 (fun i hi => by rw [b2]; exact h4 i hi)
                (fun sh H A cl fp => tg_of (s.blk sh H sc A cl fp) h5) (fun sh H A cl fp => sndC c (s.blk sh H sc A cl fp) ifs h6) (fun sh H A cl fp => ((snd eltI).go (s.blk sh H sc A cl fp) elt).1 h7) h2
              rw [b2] at key
              exact PS.conseq key fun D σ H hh => asg_go (tg := .name i) hh
            | _ => cases h
          · rw [if_neg hsw] at h
            exact ds_set s.nd l1 l2 (((snd e).go s _).1 h) (by rw [swP_eq, s.sc]; simp only [Bool.not_eq_true] at hsw; rw [hsw])
    | tup is =>
      dsimp only at h
      cases qt : tupE t with
      | none => rw [qt] at h; cases h
      | some ts =>
        rw [qt] at h
        obtain ⟨kk, tp, rfl⟩ := tupE_eq qt
        dsimp only at h
        cases qs : swS C.sc ts v with
        | none => rw [qs] at h; cases h
        | some r =>
          rw [qs] at h
          have hw : ∀ kk tp, swappedStores [.Tuple ts kk tp] v X.env = pure r := fun kk tp => swS_eq (by rw [s.sc]; exact qs)
          cases r with
          | none =>
            dsimp only at h
            simp only [Bool.and_eq_true] at h
            exact ds_tup s.toKin (tnames_of s h.1.2) (((snd e).go s v).1 h.2) h.1.1 (hw kk tp)
          | some names =>
            dsimp only at h
            unfold par2 at h
            split at h
            · rename_i i j x px y py a b k2 p2 es
              simp only [Bool.and_eq_true, decide_eq_true_eq] at h
              obtain ⟨⟨⟨⟨⟨⟨rfl, h1⟩, h2⟩, h3⟩, h4⟩, h5⟩, h6⟩ := h
              exact ds_par (l := evPs es F) s.toKin (by rw [s.N]; exact h2) (by rw [s.N]; exact h3) h1 (by rw [s.sc]; exact h4) (by rw [s.sc]; exact h5) (das_of s (snds es) h6).1 (hw kk tp)
            · rename_i i j m x px y py z pz a b c k2 p2 es
              simp only [Bool.and_eq_true, decide_eq_true_eq] at h
              obtain ⟨⟨⟨⟨⟨⟨⟨⟨⟨⟨rfl, h1⟩, h1'⟩, h1''⟩, h2⟩, h3⟩, h3'⟩, h4⟩, h5⟩, h5'⟩, h6⟩ := h
              exact ds_par3 (l := evPs es F) s.toKin (by rw [s.N]; exact h2) (by rw [s.N]; exact h3) (by rw [s.N]; exact h3') h1 h1' h1'' (by rw [s.sc]; exact h4) (by rw [s.sc]; exact h5) (by rw [s.sc]; exact h5') (das_of s (snds es) h6).1 (hw kk tp)
            · cases h
end
end LT
set_option Elab.async false
set_option linter.all false
set_option maxRecDepth 100000
set_option maxHeartbeats 8000000
/-! Own layer, part I5: what the checker says of statements. -/
namespace LT
open PySem PySem.Spec PyProof.Rows L2 LamX NdefX
section
variable {la : Nat → Arguments → Expr → Scope → List Str → Prop} {T : List NdefX.NTab} {Xc : Xcs} {xc : Str → Bool} {tc : TryC}
/-- what holds of the program's classes of exceptions and of its try statements -/
structure XF (la : Nat → Arguments → Expr → Scope → List Str → Prop) (T : List NTab) (Xc : Xcs) (xc : Str → Bool) (tc : TryC) (G : GI) : Prop where
  plain : ∀ x, xc x = true → Xc.field x = some none ∧ XPlain G x
  try_ : TryOk la T Xc tc G
theorem raises_plain {X : Cx} {CA : Addr} (h1 : PySem.W.subIn X.K (.ref CA) (.type "BaseException") = some true) (h2 : PySem.W.typeIn X.K (.ref CA) = some (.type "type")) : Raises X (.ref CA) := raises_own h1 h2
mutual
theorem sndS : ∀ (s : IS) {oc : Nat → Option Addr} {W : WX} {F : Fns} {X : Cx} {k : Nat} {C : CC}, SatS la T oc W F X k C → XF la T Xc xc tc (gX X la T) → ∀ st, chkS xc tc s C st = true → DS X la T oc W (evalS F Xc s) st
  | .asg tg e, oc, W, F, X, k, C, s, xf, st, h => asg_snd s.toSat h
  | .asub a i e, oc, W, F, X, k, C, s, xf, st, h => by
    unfold chkS at h
    cases qa : asgS st with
    | none => rw [qa] at h; cases h
    | some p =>
      obtain ⟨t, v, pos⟩ := p
      rw [qa] at h
      have es := asgS_eq qa
      subst es
      dsimp only at h
      cases qs : subE t with
      | none => rw [qs] at h; cases h
      | some p =>
        obtain ⟨o, x⟩ := p
        rw [qs] at h
        obtain ⟨p, rfl⟩ := subE_eq qs
        simp only [Bool.and_eq_true] at h
        obtain ⟨⟨⟨⟨h1, h2⟩, h3⟩, h4⟩, h5⟩ := h
        exact ds_asub (((snd e).go s.toSat v).1 h2) (((snd a).go s.toSat o).1 h3) (((snd i).go s.toSat x).1 h4) h5 h1 swap_sub
  | .asub2 a i b j e, oc, W, F, X, k, C, s, xf, st, h => by
    unfold chkS at h
    cases qa : asgS st with
    | none => rw [qa] at h; cases h
    | some p =>
      obtain ⟨t, v, pos⟩ := p
      rw [qa] at h
      have es := asgS_eq qa
      subst es
      dsimp only at h
      cases qs : subS t with
      | none => rw [qs] at h; cases h
      | some p =>
        obtain ⟨o, x, o2, x2, kt, p, p2, pt⟩ := p
        rw [qs] at h
        have et := subS_eq qs
        subst et
        simp only [Bool.and_eq_true, decide_eq_true_eq] at h
        obtain ⟨⟨⟨⟨⟨⟨⟨⟨h1, h2⟩, h3⟩, h4⟩, h5⟩, h6⟩, h7⟩, h8⟩, h9⟩ := h
        exact ds_asub2 s.toKin (((snd e).go s.toSat v).1 h2) (((snd a).go s.toSat o).1 h3) (((snd i).go s.toSat x).1 h4) (((snd b).go s.toSat o2).1 h6) (((snd j).go s.toSat x2).1 h7) h5 h8 h1 (swS_eq (by rw [s.sc]; exact h9))
  | .expr e, oc, W, F, X, k, C, s, xf, st, h => by
    unfold chkS at h
    cases qa : exprS st with
    | none => rw [qa] at h; cases h
    | some v =>
      rw [qa] at h
      obtain ⟨pos, rfl⟩ := exprS_eq qa
      simp only [Bool.and_eq_true] at h
      exact ds_expr (((snd e).go s.toSat v).1 h.2) h.1
  | .aug i o e, oc, W, F, X, k, C, s, xf, st, h => by cases h
  | .ifs c t f, oc, W, F, X, k, C, s, xf, st, h => by
    unfold chkS at h
    cases qa : ifS st with
    | none => rw [qa] at h; cases h
    | some p =>
      obtain ⟨x, a, b⟩ := p
      rw [qa] at h
      obtain ⟨pos, rfl⟩ := ifS_eq qa
      simp only [Bool.and_eq_true] at h
      exact ds_if (((snd c).go s.toSat x).2 h.1.1) (sndB t s xf a h.1.2) (sndB f s xf b h.2)
  | .for_ tg it body, oc, W, F, X, k, C, s, xf, st, h => by
    unfold chkS at h
    cases qa : forS st with
    | none => rw [qa] at h; cases h
    | some p =>
      obtain ⟨t, i, b⟩ := p
      rw [qa] at h
      obtain ⟨pos, rfl⟩ := forS_eq qa
      simp only [Bool.and_eq_true] at h
      exact ds_for (tg_tup h.1.2) s.po s.calm ((sndI it).go s.toSat t i h.1.1.1) (tg_of s.toSat h.1.2) (sndB body s xf b h.2) h.1.1.2
  | .while_ c body, oc, W, F, X, k, C, s, xf, st, h => by
    unfold chkS at h
    cases qa : whileS st with
    | none => rw [qa] at h; cases h
    | some p =>
      obtain ⟨x, b⟩ := p
      rw [qa] at h
      obtain ⟨pos, rfl⟩ := whileS_eq qa
      simp only [Bool.and_eq_true] at h
      exact ds_while s.po (((snd c).go s.toSat x).2 h.1) (sndB body s xf b h.2)
  | .ret e, oc, W, F, X, k, C, s, xf, st, h => by
    unfold chkS at h
    split at h
    · rename_i v qa
      obtain ⟨pos, rfl⟩ := retS_eq qa
      exact ds_ret (((snd e).go s.toSat v).1 h)
    · cases h
  | .retN, oc, W, F, X, k, C, s, xf, st, h => by
    unfold chkS at h
    split at h
    · rename_i qa
      obtain ⟨pos, rfl⟩ := retS_eq qa
      exact ds_retN
    · cases h
  | .raise_ x .none, oc, W, F, X, k, C, s, xf, st, h => by
    unfold chkS at h
    cases qa : raiseS st with
    | none => rw [qa] at h; cases h
    | some v =>
      rw [qa] at h
      obtain ⟨pos, rfl⟩ := raiseS_eq qa
      dsimp only at h
      split at h
      · rename_i y m qc
        obtain ⟨p, p3, rfl⟩ := callN_eq qc
        simp only [Bool.and_eq_true, decide_eq_true_eq] at h
        obtain ⟨⟨⟨rfl, h1⟩, h2⟩, h3⟩ := h
        split at h3
        · rename_i z qm
          obtain ⟨j, p2, rfl⟩ := constE_eq qm
          obtain ⟨g1, g2⟩ := s.toSat.gl h1
          obtain ⟨hf, CA, bmB, B, newId, initId, Fa, q, gC, kC, r1, r2⟩ := xf.plain x h2
          have key : evalS F Xc (.raise_ x .none) = fun env S => .exc ⟨x, none⟩ env S := by
            funext env S
            simp only [evalS, hf]
          rw [key]
          exact ds_raise s.toKin Fa q gC kC (raises_own r1 r2) g1 g2
        · cases h3
      · cases h
  | .raise_ x (.some e), oc, W, F, X, k, C, s, xf, st, h => by cases h
  | .break_, oc, W, F, X, k, C, s, xf, st, h => by
    obtain ⟨pos, rfl⟩ := isBreakS_eq h
    exact ds_break
  | .cont, oc, W, F, X, k, C, s, xf, st, h => by
    obtain ⟨pos, rfl⟩ := isContS_eq h
    exact ds_cont
  | .pass, oc, W, F, X, k, C, s, xf, st, h => by
    obtain ⟨pos, rfl⟩ := isPassS_eq h
    exact ds_pass
  | .try_ body cls i su, oc, W, F, X, k, C, s, xf, st, h => by
    unfold chkS at h
    cases qa : tc C cls i su st with
    | none => rw [qa] at h; cases h
    | some b =>
      rw [qa] at h
      exact xf.try_.go (m := evalB F Xc body) rfl s qa fun {W' X'} e1 e2 s' eg => sndB body s' (by rw [eg]; exact xf) b h
theorem sndB : ∀ (ss : List IS) {oc : Nat → Option Addr} {W : WX} {F : Fns} {X : Cx} {k : Nat} {C : CC}, SatS la T oc W F X k C → XF la T Xc xc tc (gX X la T) → ∀ sts, chkB xc tc ss C sts = true → DB X la T oc W (evalB F Xc ss) sts
  | [], oc, W, F, X, k, C, s, xf, sts, h => by
    cases sts with
    | nil => exact db_nil
    | cons st sts => cases h
  | i :: is, oc, W, F, X, k, C, s, xf, sts, h => by
    cases sts with
    | nil => cases h
    | cons st sts =>
      unfold chkB at h
      rw [Bool.and_eq_true] at h
      exact db_cons (sndS i s xf st h.1) (sndB is s xf sts h.2)
end
end
end LT
set_option Elab.async false
set_option linter.all false
set_option maxRecDepth 100000
set_option maxHeartbeats 8000000
/-! Own layer, part J: defs. -/
namespace LT
open PySem PySem.Spec PyProof.Rows L2 LamX NdefX
/-! ### a def's own cells, when it is left -/
section
variable {G : GI} {oc : Nat → Option Addr} {ρ ρ' : Pl} {H H' : Hp} {S S' : Sto} {n : Nat}
mutual
theorem Rep.cells : ∀ (d : D) {v : V}, Rep G oc ρ H d v → D.cells_lt ρ.c.length d = true ∨ ¬ d.clean = true
  | .non, _, _ => .inl (by simp only [D.cells_lt])
  | .bl b, _, _ => .inl (by simp only [D.cells_lt])
  | .int i, _, _ => .inl (by simp only [D.cells_lt])
  | .str x, _, _ => .inl (by simp only [D.cells_lt])
  | .scr x, _, _ => .inl (by simp only [D.cells_lt])
  | .fn x, _, _ => .inl (by simp only [D.cells_lt])
  | .tup ds, _, h => by
    simp only [Rep] at h
    obtain ⟨a, vs, _, _, r⟩ := h
    simp only [D.cells_lt, D.clean]
    exact RepL.cells ds r
  | .lst ds, _, h => by
    simp only [Rep] at h
    obtain ⟨a, vs, _, _, r⟩ := h
    simp only [D.cells_lt, D.clean]
    exact RepL.cells ds r
  | .cell n, _, h => by
    simp only [Rep] at h
    obtain ⟨a, _, ha⟩ := h
    exact .inl (by simp only [D.cells_lt, decide_eq_true_eq]; exact (List.getElem?_eq_some_iff.mp ha).1)
  | .own _ _, _, _ => .inr (by simp [D.clean])
  | .clo _ _, _, _ => .inr (by simp [D.clean])
theorem RepL.cells : ∀ (ds : List D) {vs : List V}, RepL G oc ρ H ds vs → D.cells_lt_all ρ.c.length ds = true ∨ ¬ D.cleans ds = true
  | [], _, _ => .inl (by simp only [D.cells_lt_all])
  | d :: ds, _, h => by
    obtain ⟨v, w, rfl, h1, h2⟩ := h.cons_inv
    simp only [D.cells_lt_all, D.cleans, Bool.and_eq_true]
    rcases Rep.cells d h1 with a | a
    · rcases RepL.cells ds h2 with b | b
      · exact .inl ⟨a, b⟩
      · exact .inr fun z => b z.2
    · exact .inr fun z => a z.1
end
/-- fewer cells -/
structure Less (ρ ρ' : Pl) (n : Nat) : Prop where
  at_ : ∀ i, i < n → ρ.c[i]? = ρ'.c[i]?
  mem : ∀ a, a ∈ ρ → a ∈ ρ'
mutual
theorem Rep.less (L : Less ρ ρ' n) : ∀ (d : D) {v : V}, d.clean = true → D.cells_lt n d = true → Rep G oc ρ' H d v → Rep G oc ρ H d v
  | .non, _, _, _, h => by simpa only [Rep] using h
  | .bl b, _, _, _, h => by simpa only [Rep] using h
  | .int i, _, _, _, h => by simpa only [Rep] using h
  | .str x, _, _, _, h => by simpa only [Rep] using h
  | .fn x, _, _, _, h => by simpa only [Rep] using h
  | .scr x, _, _, _, h => by
    simp only [Rep] at h ⊢
    obtain ⟨a, e, f⟩ := h
    exact ⟨a, e, f.imp (fun z => ⟨z.1, fun m => z.2 (L.mem a m)⟩) id⟩
  | .tup ds, _, cl, c, h => by
    simp only [Rep] at h ⊢
    obtain ⟨a, vs, e, f, r⟩ := h
    exact ⟨a, vs, e, f.imp (fun z => ⟨z.1, fun m => z.2 (L.mem a m)⟩) id, RepL.less L ds (by simpa only [D.clean] using cl) (by simpa only [D.cells_lt] using c) r⟩
  | .lst ds, _, cl, c, h => by
    simp only [Rep] at h ⊢
    obtain ⟨a, vs, e, f, r⟩ := h
    exact ⟨a, vs, e, ⟨f.1, fun m => f.2 (L.mem a m)⟩, RepL.less L ds (by simpa only [D.clean] using cl) (by simpa only [D.cells_lt] using c) r⟩
  | .cell k, _, _, c, h => by
    simp only [Rep] at h ⊢
    obtain ⟨a, e, ha⟩ := h
    exact ⟨a, e, by rw [L.at_ k (by simpa only [D.cells_lt, decide_eq_true_eq] using c)]; exact ha⟩
  | .own _ _, _, cl, _, _ => by simp [D.clean] at cl
  | .clo _ _, _, cl, _, _ => by simp [D.clean] at cl
theorem RepL.less (L : Less ρ ρ' n) : ∀ (ds : List D) {vs : List V}, D.cleans ds = true → D.cells_lt_all n ds = true → RepL G oc ρ' H ds vs → RepL G oc ρ H ds vs
  | [], _, _, _, h => by simpa only [RepL] using h
  | d :: ds, _, cl, c, h => by
    simp only [D.cleans, D.cells_lt_all, Bool.and_eq_true] at cl c
    obtain ⟨v, w, rfl, h1, h2⟩ := h.cons_inv
    exact .cons (Rep.less L d cl.1 c.1 h1) (RepL.less L ds cl.2 c.2 h2)
end
mutual
theorem Rep.fz (L : Less ρ ρ' n) {g : Nat → Option D} (hg : ∀ k a e, n ≤ k → g k = some e → ρ'.c[k]? = some a → Rep G oc ρ H e (.ref a)) : ∀ (d : D) {d' : D} {v : V}, D.fz n g d = some d' → Rep G oc ρ' H d v → Rep G oc ρ H d' v
  | .non, d', v, e, h => by simp only [D.fz, Option.some.injEq] at e; subst e; simpa only [Rep] using h
  | .bl b, d', v, e, h => by simp only [D.fz, Option.some.injEq] at e; subst e; simpa only [Rep] using h
  | .int i, d', v, e, h => by simp only [D.fz, Option.some.injEq] at e; subst e; simpa only [Rep] using h
  | .str x, d', v, e, h => by simp only [D.fz, Option.some.injEq] at e; subst e; simpa only [Rep] using h
  | .fn x, d', v, e, h => by simp only [D.fz, Option.some.injEq] at e; subst e; simpa only [Rep] using h
  | .scr x, d', v, e, h => by
    simp only [D.fz, Option.some.injEq] at e; subst e
    simp only [Rep] at h ⊢
    obtain ⟨a, e, f⟩ := h
    exact ⟨a, e, f.imp (fun z => ⟨z.1, fun m => z.2 (L.mem a m)⟩) id⟩
  | .tup ds, d', v, e, h => by
    simp only [D.fz, Option.map_eq_some_iff] at e
    obtain ⟨ds', e, rfl⟩ := e
    simp only [Rep] at h ⊢
    obtain ⟨a, vs, ex, f, r⟩ := h
    exact ⟨a, vs, ex, f.imp (fun z => ⟨z.1, fun m => z.2 (L.mem a m)⟩) id, RepL.fz L hg ds e r⟩
  | .lst ds, d', v, e, h => by
    simp only [D.fz, Option.map_eq_some_iff] at e
    obtain ⟨ds', e, rfl⟩ := e
    simp only [Rep] at h ⊢
    obtain ⟨a, vs, ex, f, r⟩ := h
    exact ⟨a, vs, ex, ⟨f.1, fun m => f.2 (L.mem a m)⟩, RepL.fz L hg ds e r⟩
  | .cell k, d', v, e, h => by
    simp only [D.fz] at e
    have h0 := rep_cell.mp h
    obtain ⟨a, rfl, ha⟩ := h0
    split at e
    · rename_i c
      cases e
      exact rep_cell.mpr ⟨a, rfl, by rw [L.at_ k c]; exact ha⟩
    · rename_i c
      exact hg k a d' (Nat.le_of_not_lt c) e ha
  | .own _ _, d', v, e, h => by simp [D.fz] at e
  | .clo _ _, d', v, e, h => by simp [D.fz] at e
theorem RepL.fz (L : Less ρ ρ' n) {g : Nat → Option D} (hg : ∀ k a e, n ≤ k → g k = some e → ρ'.c[k]? = some a → Rep G oc ρ H e (.ref a)) : ∀ (ds : List D) {ds' : List D} {vs : List V}, D.fzs n g ds = some ds' → RepL G oc ρ' H ds vs → RepL G oc ρ H ds' vs
  | [], ds', vs, e, h => by
    simp only [D.fzs, Option.some.injEq] at e; subst e
    simpa only [RepL] using h
  | d :: ds, ds', vs, e, h => by
    obtain ⟨v, w, rfl, h1, h2⟩ := h.cons_inv
    simp only [D.fzs] at e
    cases q1 : D.fz n g d with
    | none => rw [q1] at e; simp at e
    | some p => cases q2 : D.fzs n g ds with
      | none => rw [q1, q2] at e; simp at e
      | some ps =>
        rw [q1, q2] at e
        simp only [Option.some.injEq] at e
        subst e
        exact .cons (Rep.fz L hg d q1 h1) (RepL.fz L hg ds q2 h2)
end
theorem fzC_rep (L : Less ρ ρ' n) (hn : ∀ k a, n ≤ k → ρ'.c[k]? = some a → a ∉ ρ) (s : SR G ρ' H S') : ∀ (f k : Nat) (a : Addr) (e : D), n ≤ k → fzC S' n f k = some e → ρ'.c[k]? = some a → Rep G oc ρ H e (.ref a)
  | 0, k, a, e, _, h, _ => by cases h
  | f + 1, k, a, e, hk, h, ha => by
    unfold fzC at h
    cases q : S'[k]? with
    | none => rw [q] at h; cases h
    | some o => cases o with
      | ins c fs => rw [q] at h; cases h
      | lst ds =>
        rw [q] at h
        have h : (D.fzs n (fzC S' n f) ds).map D.lst = some e := h
        obtain ⟨es, h2, rfl⟩ := Option.map_eq_some_iff.mp h
        obtain ⟨vs, e1, cl, r⟩ := s.at_ k _ a q ha
        exact rep_lst.mpr ⟨a, vs, rfl, ⟨e1, hn k a hk ha⟩, RepL.fz L (fun k a e h1 h2 h3 => fzC_rep L hn s f k a e h1 h2 h3) ds h2 (RepL.cleanL cl r)⟩
/-- the end of a def whose cells stay its own -/
theorem seal_ok {d d' : D} {v : V} {S'' : Sto} (e : Ext ρ H ρ' H') (s : SR G ρ H S) (s' : SR G ρ' H' S') (r : Rep G oc ρ' H' d v) (hd : D.fz S.length (fzC S' S.length 4) d = some d') (hS : (if S'.take S.length = S then some S else if (S'.take S.length).all (SO.cells_lt S.length) then some (S'.take S.length) else none) = some S'') :
    Ext ρ H ρ H' ∧ SR G ρ H' S'' ∧ Rep G oc ρ H' d' v := by
  obtain ⟨t, ht⟩ := e.pre
  have hl : ρ.c.length = S.length := s.len
  have L : Less ρ ρ' S.length := ⟨fun i hi => by rw [← ht, List.getElem?_append_left (by rw [hl]; exact hi)], fun a m => m.imp (fun m => by rw [← ht]; exact List.mem_append_left _ m) fun m => by rw [e.vol]; exact m⟩
  have hn : ∀ k a, S.length ≤ k → ρ'.c[k]? = some a → a ∉ ρ := fun k a hk ha m => by
    rcases m with m | m
    · obtain ⟨j, hj⟩ := List.mem_iff_getElem?.mp m
      have hj2 : j < S.length := by rw [← hl]; exact (List.getElem?_eq_some_iff.mp hj).1
      rw [L.at_ j hj2] at hj
      obtain ⟨l1, e1⟩ := List.getElem?_eq_some_iff.mp ha
      obtain ⟨l2, e2⟩ := List.getElem?_eq_some_iff.mp hj
      have := (List.getElem_inj s'.nd).mp (e1.trans e2.symm)
      omega
    · rw [← e.vol] at m
      exact (s'.vol a m).2 (List.mem_of_getElem? ha)
  have hlen' : S.length ≤ S'.length := by rw [← s'.len, ← ht, List.length_append, hl]; omega
  have e2 : Ext ρ H ρ H' := ⟨⟨List.prefix_refl _, e.keep, e.gone, fun b m n => absurd m n⟩, rfl, e.keepV⟩
  -- what the old cells hold names old cells alone
  have cells : (S'.take S.length).all (SO.cells_lt S.length) = true ∧ S'' = S'.take S.length := by
    split at hS
    · rename_i q
      cases hS
      refine ⟨?_, q.symm⟩
      rw [q, List.all_eq_true]
      intro o ho
      obtain ⟨i, hi⟩ := List.mem_iff_getElem?.mp ho
      have hi2 : i < ρ.c.length := by rw [hl]; exact (List.getElem?_eq_some_iff.mp hi).1
      have z := s.at_ i o ρ.c[i] hi (by simp [hi2])
      cases o with
      | lst ds =>
        obtain ⟨vs, _, cl, r⟩ := z
        rcases RepL.cells ds r with c | c
        · simp only [SO.cells_lt]; rw [← hl]; exact c
        · exact absurd cl c
      | ins c fs =>
        obtain ⟨C, dx, vs, _, _, _, _, cl, r⟩ := z
        rcases RepL.cells _ r with c | c
        · simp only [SO.cells_lt]; rw [← hl]; exact c
        · exact absurd cl c
    · split at hS
      · rename_i q
        cases hS
        exact ⟨q, rfl⟩
      · cases hS
  obtain ⟨cells, rfl⟩ := cells
  refine ⟨e2, ⟨by rw [List.length_take, hl]; omega, s.nd, fun i o a h1 h2 => ?_, fun a m => ?_, s'.tab⟩, Rep.fz L (fun k a e h1 h2 h3 => fzC_rep L hn s' 4 k a e h1 h2 h3) d hd r⟩
  · have hi : i < S.length := by rw [← hl]; exact (List.getElem?_eq_some_iff.mp h2).1
    have hm := List.mem_of_getElem? h1
    rw [List.getElem?_take_of_lt hi] at h1
    have cl := List.all_eq_true.mp cells o hm
    have z := s'.at_ i o a h1 (by rw [← L.at_ i hi]; exact h2)
    cases o with
    | lst ds =>
      obtain ⟨vs, q1, q2, q3⟩ := z
      exact ⟨vs, q1, q2, RepL.less L ds q2 (by simpa only [SO.cells_lt] using cl) q3⟩
    | ins c fs =>
      obtain ⟨C, dx, vs, q1, q2, q3, q4, q5, q6⟩ := z
      exact ⟨C, dx, vs, q1, q2, q3, fun m => q4 (L.mem _ m), q5, RepL.less L _ q5 (by simpa only [SO.cells_lt] using cl) q6⟩
  · obtain ⟨xs, hx⟩ := (s'.vol a (by rw [e.vol]; exact m)).1
    refine ⟨⟨xs, hx⟩, fun z => ?_⟩
    exact (s'.vol a (by rw [e.vol]; exact m)).2 (by rw [← ht]; exact List.mem_append_left _ z)
end
theorem seal_inv {G : GI} {R : Pl → Hp → D → V → Prop} {S S' : Sto} {n : Nat} {d : D} {ρ : Pl} {H : Hp} {Q : V → Hp → Prop} {E : Value → Option Addr → Hp → Prop} (h : tG G R (sealR n S (.ok d S')) ρ H Q E) :
    ∃ d' S'', D.fz n (fzC S' n 4) d = some d' ∧ (if S'.take n = S then some S else if (S'.take n).all (SO.cells_lt n) then some (S'.take n) else none) = some S'' ∧ tG G R (.ok d' S'') ρ H Q E := by
  simp only [sealR] at h
  generalize (D.fz n (fzC S' n 4) d) = q1 at h
  generalize (if S'.take n = S then some S else if (S'.take n).all (SO.cells_lt n) then some (S'.take n) else none) = q2 at h
  cases q1 with
  | none => exact h.elim
  | some d' => cases q2 with
    | none => exact h.elim
    | some S'' => exact ⟨d', S'', rfl, rfl, h⟩
/-! ### the rule of a def -/
theorem cells_kind : ∀ (names : List (Str × NameKind)) (n : Nat) (acc : List (Str × Addr)) (y : Str) (c : Addr), (y, c) ∈ cellsFrom n names acc → (y, c) ∈ acc ∨ (y, NameKind.cell) ∈ names
  | [], n, acc, y, c, h => .inl h
  | (x, k) :: r, n, acc, y, c, h => by
    unfold cellsFrom at h
    split at h
    · rename_i q
      rcases cells_kind r _ _ y c h with z | z
      · rcases List.mem_cons.mp z with z | z
        · refine .inr ?_
          cases z
          have : k = .cell := by simpa using q
          rw [this]; exact List.mem_cons_self
        · exact .inl z
      · exact .inr (List.mem_cons_of_mem _ z)
    · rcases cells_kind r _ _ y c h with z | z
      · exact .inl z
      · exact .inr (List.mem_cons_of_mem _ z)
/-- what a frame with lambdas asks of its def's code object -/
def LmFact (K : PySem.W.Frag) (mg : Str → Option Value) (base : Heap) (T : List NTab) (qual : Str) (cdv : Value) : Prop :=
  ∃ c Pt, cdv = .ref c ∧ TabB base mg c Pt ∧ (Pt, fun (_ _ : Nat) => (qual ++ ".<locals>.") ++ "<lambda>") ∈ T ∧ ∀ p ∈ T, p.1 = Pt → p.2 = fun (_ _ : Nat) => (qual ++ ".<locals>.") ++ "<lambda>"
theorem def_ok {P : Program} {w : World} {K : PySem.W.Frag} {mg : Str → Option Value} {base : Heap} {la : Nat → Arguments → Expr → Scope → List Str → Prop} {T : List NTab} {x qual : Str} {st : Stmt} {f : Addr} {fdv : FuncData} {F F' : Fns} {Xc : Xcs} {xc : Str → Bool} {tc : TryC} {fd : Fd} {N ps : List Str} {k : Nat} {fns : List (Str × Nat)}
    {lamc : Nat → Arguments → Expr → Scope → List Str → Bool} {nm : Str}
    (Fu : C8.Fun K x qual st f fdv) (hS : C8.scC N ps (C8.fnScope st) = true) (hps : ps.length = fd.pars) (hN : N.length = fd.slots) (uniq : (C8.fnScope st).names.all (fun y => decide ((C8.fnScope st).names.lookup y.1 = some y.2)) = true)
    (hchk : chkB xc tc fd.body ⟨N, C8.fnScope st, fun _ => true, fd.lm, fns, lamc⟩ (C8.fnBody st) = true)
    (hF : ∀ ds S, F.call nm ds S = runFd F' Xc fd ds S) (pf : PF ⟨P, w, K, mg, base, la, T⟩ F' k fns) (xf : XF la T Xc xc tc ⟨P, w, K, mg, base, la, T⟩) (hla : ∀ j p b s fr, lamc j p b s fr = true → la j p b s fr)
    (hlm : fd.lm = true → ∀ oc od osl dV kV doc pm an cdv ct, K.lookup f = some ⟨oc, od, .func (PySem.W.fnOf x qual (C8.fnArgs st) (C8.fnBody st) (C8.fnScope st) dV kV doc pm an cdv ct), osl⟩ → LmFact K mg base T qual cdv) :
    FnOk P w K mg base (L2N.CX P w) (k + 2) f fdv ps (spF ⟨P, w, K, mg, base, la, T⟩ F nm ps.length) := by
  have SC := C8.fnScope_by hS
  obtain ⟨oc, od, dV, kV, doc, pm, an, cdv, ct, osl, rfl, lk, hcd⟩ := Fu.ex
  refine fn_of lk hcd SC (fun vs H Q E h => h.1) fun A outer s H vs Q E hr hsp => ?_
  obtain ⟨hl, ρ, S, ds, sr, rd, h⟩ := hsp
  rw [hF] at h
  unfold runFd at h
  by_cases hlen : ds.length = fd.pars
  · rw [if_pos hlen] at h
    generalize hX : cxOf (L2N.CX P w) P w K mg base N qual (C8.fnScope st) f cdv A outer s H E = X
    -- the frame
    have hg : gX X la T = ⟨P, w, K, mg, base, la, T⟩ := by rw [← hX]; rfl
    have sat : SatS la T (if fd.lm then ocOf X else oc0) (fun cls d _ H' => E cls d H') { F' with lm := fd.lm } X k ⟨N, C8.fnScope st, fun _ => true, fd.lm, fns, lamc⟩ := by
      refine { nd := ?_, calm := ?_, hu := ?_, rm := ?_, tk := ?_, pl := ?_, lm := ?_, N := ?_, sc := ?_, fnb := ?_, clm := rfl, lmx := ?_, lam := hla, pf := ?_, po := ?_, stk := ?_, frm := ?_, rm1 := ?_ }
      · rw [← hX]; exact SC.nd
      · rw [← hX]; rfl
      · rw [← hX]
        have z := hr.un
        show (A.deeper _).units + 100 < cLine
        omega
      · rw [← hX]; exact hr.mono (Nat.le_succ k)
      · rw [← hX]
        exact L2N.takes_of rfl rfl rfl rfl
      · intro z
        have z : fd.lm = false := z
        rw [z]; rfl
      · intro z
        have z : fd.lm = true := z
        refine ⟨by rw [z]; rfl, fun x => by rw [← hX]; rfl, fun y c e => ?_⟩
        rw [← hX] at e ⊢
        have e : (cellsFrom (s.heap.objs.size + 1) (C8.fnScope st).names []).lookup y = some c := e
        rcases cells_kind _ _ _ y c (PySem.mem_of_lookup e) with q | q
        · cases q
        · show (C8.fnScope st).names.lookup y = some .cell
          have := List.all_eq_true.mp uniq _ q
          simpa using this
      · rw [← hX]; rfl
      · rw [← hX]; rfl
      · intro x _; rw [← hX]; rfl
      · intro z
        have z : fd.lm = true := z
        obtain ⟨c, Pt, e1, TB, m, u⟩ := hlm z oc od osl dV kV doc pm an cdv ct lk
        rw [← hX]
        exact ⟨⟨c, Pt, TB, e1, m, u⟩, fun _ => rfl, fun y c e => by
          have e : (cellsFrom (s.heap.objs.size + 1) (C8.fnScope st).names []).lookup y = some c := e
          rcases cells_kind _ _ _ y c (PySem.mem_of_lookup e) with q | q
          · cases q
          · show (C8.fnScope st).names.lookup y = some .cell
            have := List.all_eq_true.mp uniq _ q
            simpa using this⟩
      · rw [hg]
        exact ⟨fun f n h => (pf.call f n h).imp fun a c => ⟨c.mg, c.keep, c.ok⟩, pf.fnv, fun j => ⟨(pf.lam j).run⟩, pf.con, pf.blt⟩
      · rw [← hX]; exact passes_of rfl
      · rw [← hX]; rfl
      · rw [← hX]; rfl
      · rw [← hX]; exact hr
    have run := sndB fd.body sat (by rw [hg]; exact xf) _ hchk
    refine ⟨_, run, (startE fd.slots ds), ρ, S, ?_, ?_, ?_⟩
    · rw [hg]
      refine ⟨?_, fun i d q => ?_⟩
      · unfold startE L2.start
        rw [List.length_append, List.length_append, List.length_map, List.length_map, List.length_replicate, List.length_replicate, rd.length, hN]
      · unfold startE at q
        unfold L2.start
        by_cases hi : i < ds.length
        · rw [List.getElem?_append_left (by rw [List.length_map]; exact hi), List.getElem?_map] at q
          have q : ds[i]? = some d := by
            cases z : ds[i]? with
            | none => rw [z] at q; cases q
            | some d' => rw [z] at q; cases q; rfl
          obtain ⟨v, h1, h2⟩ := rd.get q
          refine ⟨v, by rw [List.getElem?_append_left (by rw [List.length_map, rd.length]; exact hi), List.getElem?_map, h1]; rfl, Rep.of0 d h2⟩
        · rw [List.getElem?_append_right (by rw [List.length_map]; omega), List.getElem?_replicate] at q
          split at q <;> cases q
    · rw [hg]; exact sr
    · rw [hg]
      -- the end
      have fin : ∀ (r : RS), tG ⟨P, w, K, mg, base, la, T⟩ (RD ⟨P, w, K, mg, base, la, T⟩ oc0) (if fd.sea then sealR S.length S (outOf fd.lm r) else outOf fd.lm r) ρ H Q E →
          sG ⟨P, w, K, mg, base, la, T⟩ (if fd.lm then ocOf X else oc0) (fun cls d _ H' => E cls d H') r ρ H { nx := fun _ H' => Q .non H', rt := Q } := fun r h => by
        have ret : ∀ {d : D} {S' : Sto}, tG ⟨P, w, K, mg, base, la, T⟩ (RD ⟨P, w, K, mg, base, la, T⟩ oc0) (if fd.sea then sealR S.length S (.ok d S') else .ok d S') ρ H Q E → ∀ v H' ρ', Ext ρ H ρ' H' → SR ⟨P, w, K, mg, base, la, T⟩ ρ' H' S' → Rep ⟨P, w, K, mg, base, la, T⟩ oc0 ρ' H' d v → Q v H' := fun {d S'} h v H' ρ' e s' r => by
          cases hsea : fd.sea with
          | false =>
            rw [hsea] at h
            exact h v H' ρ' e s' r
          | true =>
            rw [hsea] at h
            simp only [if_true] at h
            obtain ⟨d', S'', q1, q2, h⟩ := seal_inv h
            obtain ⟨a1, a2, a3⟩ := seal_ok e sr s' r q1 q2
            exact h v H' ρ a1 a2 a3
        cases r with
        | nx env S' => exact fun σ' H' ρ' e s' _ => ret (by simpa only [outOf] using h) .non H' ρ' e s' (by simp only [Rep])
        | rt d S' =>
          intro v H' ρ' e s' r
          simp only [outOf] at h
          cases hlm' : fd.lm with
          | false =>
            rw [hlm'] at h r
            simp only [Bool.false_and, Bool.false_eq_true, if_false] at h r
            exact ret h v H' ρ' e s' r
          | true =>
            rw [hlm'] at h r
            simp only [Bool.true_and, if_true] at h r
            by_cases cd : d.noOwn = true
            · simp only [cd, Bool.not_true, Bool.false_eq_true, if_false] at h
              exact ret h v H' ρ' e s' (Rep.noOwn d cd r)
            · simp only [Bool.not_eq_true] at cd
              simp only [cd, Bool.not_false, if_true] at h
              cases hsea : fd.sea with
              | false => rw [hsea] at h; exact h.elim
              | true => rw [hsea] at h; exact h.elim
        | exc x env S' =>
          intro c dd σ' H' ρ' e s' _ r
          simp only [outOf] at h
          cases hsea : fd.sea with
          | false => rw [hsea] at h; exact h c dd H' ρ' e s' r
          | true => rw [hsea] at h; exact h c dd H' ρ' e s' r
        | bk env S' => cases hsea : fd.sea <;> rw [hsea] at h <;> exact h.elim
        | ct env S' => cases hsea : fd.sea <;> rw [hsea] at h <;> exact h.elim
        | bad => cases hsea : fd.sea <;> rw [hsea] at h <;> exact h.elim
      refine fin _ ?_
      cases hsea : fd.sea with
      | false => rw [hsea] at h; exact h
      | true => rw [hsea] at h; exact h
  · rw [if_neg hlen] at h; exact h.elim
end LT
set_option Elab.async false
set_option linter.all false
set_option maxRecDepth 100000
set_option maxHeartbeats 8000000
/-! Own layer, part K: zip's end and a list's block while an exception is handled. -/
namespace LT
open PySem PySem.Spec PyProof.Rows L2 LamX NdefX HotX L2H
section
variable {prog : Program} {w : World} {A : Around} {E : Value → Shared → Prop} {s : Shared}
theorem hot_ne_zip {x1 z TI TO : Addr} {f0 : Value} {h : Heap} (c : HotAt A x1 h) (hz : IsZip h z TI TO f0) : x1 ≠ z := fun e => by
  obtain ⟨_, o, vs, h1, d1, c1⟩ := c
  rw [e, hz] at h1
  cases h1
  cases d1
  simp at c1
theorem hot_ne_iter {x1 it l : Addr} {i : Nat} {h : Heap} (c : HotAt A x1 h) (hi : h.IsListIter it l i) : x1 ≠ it := fun e => by
  obtain ⟨_, o, vs, h1, d1, c1⟩ := c
  obtain ⟨o', h2, _, d2⟩ := hi
  rw [e, h2] at h1
  cases h1
  rw [d2] at d1
  cases d1
  simp at c1
theorem hot_but {x1 z : Addr} {h h' : Heap} (c : HotAt A x1 h) (sb : Heap.SameBut z h h') (n : x1 ≠ z) : HotAt A x1 h' := by
  obtain ⟨hh, o, vs, h1, d1, c1⟩ := c
  exact ⟨hh, o, vs, (sb.2 x1 n).trans h1, d1, c1⟩
/-- a list's iterator at its end, an exception handled -/
theorem listEnd_hot {x1 it l : Addr} {i : Nat} {items : Array Value} {Q : Value → Shared → Prop} (hot : HotAt A x1 s.heap)
    (hit : s.heap.IsListIter it l i) (hl : s.heap.IsList l items) (hx : items[i]? = none)
    (hE : ∀ h' e, (∀ c o, c ≠ it → s.heap.get? c = some o → h'.get? c = some o) → (∃ o, h'.get? e = some o ∧ o.cls = .type "StopIteration") → E (.ref e) { s with heap := h' }) :
    wpAny (model prog w) A (Builtin.SmallTypes.nextOf (.ref it)) Q E s := by
  have hne := hot_ne_iter hot hit
  obtain ⟨o, ho, hc, hd⟩ := id hit
  obtain ⟨ol, hol, _, nl, hdl⟩ := hl
  unfold Builtin.SmallTypes.nextOf
  refine wpAny_bind (wpAny_callSpecial?_slot (name := Str.ofString "__next__") hit.typeIs slot_listiter_next
    (wpAny_call_entry slot_listiter_next hit.typeIs entry_listiter_next ?_ (args_listiter_next _)))
  show wpAny _ _ (field (.ref it) 0 >>= _) _ _ s
  refine wpAny_bind (wpAny_field ho hd (x := .ref l) rfl ?_)
  show wpAny _ _ (if (Value.ref l == Value.none) = true then _ else _) _ _ s
  rw [if_neg (show ¬ ((Value.ref l == Value.none) = true) from Bool.false_ne_true)]
  show wpAny _ _ (field (.ref it) 1 >>= _) _ _ s
  refine wpAny_bind (wpAny_field ho hd (x := .int i 0) rfl ?_)
  show wpAny _ _ (seqItems? (.ref l) >>= _) _ _ s
  refine wpAny_bind (wpAny_seqItems hol hdl ?_)
  simp only [Int.toNat_natCast, hx]
  refine wpAny_bind (wpAny_rule (wpAny_bind (wpAny_setField ho hd (by simp) ?_)))
  show wpAny _ _ (newExc (.type "StopIteration") [] >>= _) _ _ _
  refine wpAny_bind ?_
  simp only [newExc, newTuple]
  refine wpAny_bind (wpAny_newObj_type ?_ (by size_fits))
  refine wpAny_bind (m := firstArgMember _ _) (wpAny_of_eq (a := Value.none) (by first | rfl | (simp only [firstArgMember]; rfl)) ?_)
  refine wpAny_newObj_type ?_ (by size_fits)
  obtain ⟨hh, o1, vs1, h1, d1, c1⟩ := hot
  have h1' : (s.heap.update it (Obj.mapFields (·.setIfInBounds 0 .none))).get? x1 = some o1 := by
    rw [Heap.get?_update_other _ _ (Ne.symm hne)]; exact h1
  refine raiseNew_hot (x1 := x1) ⟨hh, o1, vs1, Heap.get?_push_of_some _ (Heap.get?_push_of_some _ h1'), d1, c1⟩ (Nat.ne_of_lt (Heap.lt_size (Heap.get?_push_of_some _ h1'))) (Heap.get?_push_size _ rfl) rfl (by first | (simp; done) | (simp; omega) | (simp only [Array.size_append]; simp; omega)) ?_
  refine hE _ _ (fun c oc n q => ?_) ⟨_, Heap.get?_update_self _ (Heap.get?_push_size _ rfl) rfl, rfl⟩
  have q' : (s.heap.update it (Obj.mapFields (·.setIfInBounds 0 .none))).get? c = some oc := by
    rw [Heap.get?_update_other _ _ (Ne.symm n)]; exact q
  rw [Heap.get?_update_other _ _ (Nat.ne_of_gt (Heap.lt_size (Heap.get?_push_of_some _ q')))]
  exact Heap.get?_push_of_some _ (Heap.get?_push_of_some _ q')
/-- zip of two lists that end together -/
theorem zipEnd_hot {x1 z TI TO i1 i2 l1 l2 : Addr} {k1 k2 : Nat} {xs ys : Array Value} {a b : Value} {Q : Fin → Shared → Prop} (hot : HotAt A x1 s.heap) (D : ZipApart z TI TO i1 i2 l1 l2)
    (hz : IsZip s.heap z TI TO .none) (hTI : IsPair s.heap TI (.ref i1) (.ref i2)) (hTO : IsPair s.heap TO a b)
    (h1 : s.heap.IsListIter i1 l1 k1) (hl1 : s.heap.IsList l1 xs) (hx : xs[k1]? = none)
    (hE : ∀ h' e, (∀ c o, c ≠ z → c ≠ TO → c ≠ i1 → c ≠ i2 → s.heap.get? c = some o → h'.get? c = some o) → (∃ o, h'.get? e = some o ∧ o.cls = .type "StopIteration") → E (.ref e) { s with heap := h' }) :
    wpAny (model prog w) A (Builtin.«zip.__next__» ⟨[.ref z], []⟩) Q E s := by
  have nz := hot_ne_zip hot hz
  show wpAny _ _ (field (.ref z) 2 >>= _) _ _ _
  refine wpAny_bind (wpAny_field hz rfl (x := .bool false) rfl ?_)
  show wpAny _ _ (field (.ref z) 3 >>= _) _ _ _
  refine wpAny_bind (wpAny_field hz rfl (x := .ref TI) rfl ?_)
  refine wpAny_bind (wpAny_seqItems hTI rfl ?_)
  show wpAny _ _ (Builtin.SmallTypes.ownedTupleIsFree (.ref z) >>= _) _ _ _
  refine wpAny_bind ?_
  unfold Builtin.SmallTypes.ownedTupleIsFree
  refine wpAny_bind (wpAny_field hz rfl (x := .none) rfl (wpAny_pure ?_))
  simp only [if_true]
  refine wpAny_bind (wpAny_rule ?_)
  refine wpAny_bind (wpAny_field hz rfl (x := .ref TO) rfl ?_)
  refine wpAny_bind (wpAny_setField_rec hz (by simp) fun h₁ hz₁ hs₁ => ?_)
  replace hz₁ : IsZip h₁ z TI TO .ellipsis := hz₁
  refine wpAny_bind ?_
  simp only [List.zipIdx_cons, List.zipIdx_nil, List.forIn_cons, List.forIn_nil]
  refine wpAny_bind (wpAny_bind (wpAny_onRaise ?_))
  show wpAny _ _ (Builtin.SmallTypes.nextOf (.ref i1) >>= _) _ _ _
  refine wpAny_bind (listEnd_hot (hot_but hot hs₁ nz) (h1.extBut hs₁.extBut D.i1z) (hl1.extBut hs₁.extBut D.l1z) hx fun h₂ e hs₂ he => ?_)
  obtain ⟨oe, hoe, hce⟩ := he
  have hz₂ : IsZip h₂ z TI TO .ellipsis := hs₂ _ _ D.i1z.symm hz₁
  have hez : e ≠ z := fun x => by subst x; rw [hz₂] at hoe; cases hoe; simp at hce
  refine wpAny_setField_rec hz₂ (by simp) fun h₃ _ hs₃ => hE h₃ e (fun c o c1 _ c3 _ x => hs₃.extBut _ _ c1 (hs₂ _ _ c3 (hs₁.extBut _ _ c1 x))) ⟨oe, hs₃.extBut _ _ hez hoe, hce⟩
theorem zipNext_hot {x1 z TI TO i1 i2 l1 l2 : Addr} {k1 k2 : Nat} {xs ys : Array Value} {a b : Value} {Q : Option Value → Shared → Prop} (hot : HotAt A x1 s.heap) (D : ZipApart z TI TO i1 i2 l1 l2)
    (hz : IsZip s.heap z TI TO .none) (hTI : IsPair s.heap TI (.ref i1) (.ref i2)) (hTO : IsPair s.heap TO a b)
    (h1 : s.heap.IsListIter i1 l1 k1) (hl1 : s.heap.IsList l1 xs) (hx : xs[k1]? = none)
    (hQ : ∀ h', (∀ c o, c ≠ z → c ≠ TO → c ≠ i1 → c ≠ i2 → s.heap.get? c = some o → h'.get? c = some o) → Q none { s with heap := h' }) : wpAny (model prog w) A (pyNext (.ref z)) Q E s := by
  have hT : s.TypeIs (.ref z) "zip" := ⟨_, hz, rfl⟩
  unfold pyNext
  refine wpAny_bind (wpAny_attempt (wpAny_callSpecial?_slot (name := Str.ofString "__next__") hT F.slot_zip_next
    (wpAny_call_entry F.slot_zip_next hT F.entry_zip_next (zipEnd_hot (k2 := k2) (ys := ys) hot D hz hTI hTO h1 hl1 hx fun h' e hk he => ?_) (F.args_zip_next_1 _))))
  obtain ⟨o, ho, hc⟩ := he
  refine wpAny_bind (wpAny_isInstance (T := "StopIteration") (b := true) ⟨o, ho, hc⟩ isSubtype_stop ?_)
  exact wpAny_pure (hQ _ hk)
end
section
variable {prog : Program} {w : World} {A : Around} {E : Value → Shared → Prop} {s : Shared}
theorem tupEnd_hot {x1 it t : Addr} {i : Nat} {items : Array Value} {Q : Option Value → Shared → Prop} (hot : HotAt A x1 s.heap)
    (hit : IsTupIter s.heap it t i) (ht : IsTup s.heap t items) (hx : items[i]? = none)
    (hQ : ∀ h', Heap.ExtBut it s.heap h' → Q none { s with heap := h' }) : wpAny (model prog w) A (pyNext (.ref it)) Q E s := by
  have hne : x1 ≠ it := fun e => by
    obtain ⟨_, o, vs, h1, d1, c1⟩ := hot
    obtain ⟨o', h2, _, d2⟩ := hit
    rw [e, h2] at h1
    cases h1
    rw [d2] at d1
    cases d1
    simp at c1
  obtain ⟨o, ho, hc, hd⟩ := id hit
  obtain ⟨ol, hol, _, nl, hdl⟩ := ht
  have hT : s.TypeIs (.ref it) "tuple_iterator" := ⟨o, ho, hc⟩
  unfold pyNext
  refine wpAny_bind (wpAny_attempt (wpAny_callSpecial?_slot (name := Str.ofString "__next__") hT F.slot_tuple_iterator_next
    (wpAny_call_entry F.slot_tuple_iterator_next hT F.entry_tuple_iterator_next ?_ (F.args_tuple_iterator_next_1 _))))
  show wpAny _ _ (field (.ref it) 0 >>= _) _ _ s
  refine wpAny_bind (wpAny_field ho hd (x := .ref t) rfl ?_)
  show wpAny _ _ (if (Value.ref t == Value.none) = true then _ else _) _ _ s
  rw [if_neg (show ¬ ((Value.ref t == Value.none) = true) from Bool.false_ne_true)]
  show wpAny _ _ (field (.ref it) 1 >>= _) _ _ s
  refine wpAny_bind (wpAny_field ho hd (x := .int i 0) rfl ?_)
  show wpAny _ _ (seqItems? (.ref t) >>= _) _ _ s
  refine wpAny_bind (wpAny_seqItems hol hdl ?_)
  simp only [Int.toNat_natCast, hx]
  refine wpAny_bind (wpAny_rule (wpAny_bind (wpAny_setField ho hd (by simp) ?_)))
  show wpAny _ _ (newExc (.type "StopIteration") [] >>= _) _ _ _
  refine wpAny_bind ?_
  simp only [newExc, newTuple]
  refine wpAny_bind (wpAny_newObj_type ?_ (by size_fits))
  refine wpAny_bind (m := firstArgMember _ _) (wpAny_of_eq (a := Value.none) (by first | rfl | (simp only [firstArgMember]; rfl)) ?_)
  refine wpAny_newObj_type ?_ (by size_fits)
  obtain ⟨hh, o1, vs1, h1, d1, c1⟩ := hot
  have h1' : (s.heap.update it (Obj.mapFields (·.setIfInBounds 0 .none))).get? x1 = some o1 := by
    rw [Heap.get?_update_other _ _ (Ne.symm hne)]; exact h1
  refine raiseNew_hot (x1 := x1) ⟨hh, o1, vs1, Heap.get?_push_of_some _ (Heap.get?_push_of_some _ h1'), d1, c1⟩ (Nat.ne_of_lt (Heap.lt_size (Heap.get?_push_of_some _ h1'))) (Heap.get?_push_size _ rfl) rfl (by first | (simp; done) | (simp; omega) | (simp only [Array.size_append]; simp; omega)) ?_
  refine wpAny_bind (wpAny_isInstance (T := "StopIteration") (b := true) ⟨_, Heap.get?_update_self _ (Heap.get?_push_size _ rfl) rfl, rfl⟩ isSubtype_stop ?_)
  refine wpAny_pure (hQ _ fun c oc n q => ?_)
  have q' : (s.heap.update it (Obj.mapFields (·.setIfInBounds 0 .none))).get? c = some oc := by
    rw [Heap.get?_update_other _ _ (Ne.symm n)]; exact q
  rw [Heap.get?_update_other _ _ (Nat.ne_of_gt (Heap.lt_size (Heap.get?_push_of_some _ q')))]
  exact Heap.get?_push_of_some _ (Heap.get?_push_of_some _ q')
/-- a tuple to its names, an exception handled -/
theorem asgTup_hot {x1 : Addr} {env : Env} {elts : List Expr} {kk : Nat} {pos : Pos} {t : Addr} {items : Array Value} {Q : Unit → Shared → Prop} (hot : HotAt A x1 s.heap) (ht : IsTup s.heap t items)
    (hn : (assignEach elts env).length = items.size) (hstar : (assignEach elts env).findIdx? (·.1) = none)
    (h : ∀ h', Heap.ExtBut s.heap.objs.size s.heap h' → wpAny (model prog w) A (assignInOrder ((assignEach elts env).map (·.2)) items.toList) Q E { s with heap := h' }) :
    wpAny (model prog w) A (assign (.Tuple elts kk pos) env (.ref t)) Q E s := by
  rw [assign_Tuple]
  refine wpAny_bind (wpAny_standAt ?_)
  unfold unpack
  rw [hn, hstar]
  refine wpAny_bind (wpAny_holding ?_)
  have hlt : t ≠ s.heap.objs.size := by obtain ⟨o, ho, _⟩ := ht; exact Nat.ne_of_lt (Heap.lt_size ho)
  unfold unpackItems
  refine wpAny_bind ?_
  unfold notIterableAtAll
  refine wpAny_bind (wpAny_specialOf ht.typeIs slot_tuple_iter.lookup ?_)
  refine wpAny_pure ?_
  simp only [Bool.false_eq_true, if_false]
  refine wpAny_bind (wpAny_holding (iter_tuple ht ?_))
  refine wpAny_bind (wpAny_holding (draw_tuple hlt items.size 0 _ _ ⟨_, Heap.get?_push_size _ rfl, rfl, rfl⟩ (ht.push _) (by omega) fun h₁ hit₁ hs₁ => ?_))
  have hall : List.take items.size (List.drop 0 items.toList) = items.toList := by
    rw [List.drop_zero]; exact List.take_of_length_le (by simp)
  rw [hall]
  rw [if_neg (by simp)]
  have ht₁ : IsTup h₁ t items := (ht.push _).extBut hs₁.extBut hlt
  have hot₁ : HotAt A x1 h₁ := by
    obtain ⟨hh, o1, vs1, h1, d1, c1⟩ := hot
    exact ⟨hh, o1, vs1, hs₁.extBut _ _ (Nat.ne_of_lt (Heap.lt_size h1)) (Heap.get?_push_of_some _ h1), d1, c1⟩
  refine wpAny_bind (wpAny_holding (tupEnd_hot hot₁ hit₁ ht₁ (by simp) fun h₂ he₂ => ?_))
  simp only [Option.isSome_none, Bool.false_eq_true, if_false]
  exact wpAny_pure (h h₂ fun b o hb e => he₂ b o hb (hs₁.extBut b o hb (Heap.get?_push_of_some _ e)))
end
/-! ### the turns -/
/-- the iterator's turns where x1's exception is handled -/
structure TurnE (P : Program) (w : World) (K : PySem.W.Frag) (tg : Expr) (J : It) (fp : List Addr) (it : Addr) (tn : Nat → Heap → Prop) : Prop where
  mem : it ∈ fp
  obj : ∀ i h, tn i h → ∀ b ∈ fp, ∃ o, h.get? b = some o ∧ ∀ v, o.data ≠ .cell v
  keep : ∀ i h h', tn i h → (∀ b ∈ fp, ∀ o, h.get? b = some o → h'.get? b = some o) → tn i h'
  item : ∀ (X : Cx), X.prog = P → X.w = w → X.K = K → ∀ (i : Nat) (pins : List (Addr × Obj)) (s : Shared) (σ : L2.St) (H : Hp) (E : Value → Shared → Prop), Inv X pins σ H s → (∀ b ∈ fp, FpOk X pins H b) → tn i s.heap → J.go i H →
    wpAny (model P w) X.A (pyNext (.ref it)) (fun r s1 => ∃ u, r = some u ∧
      wpAny (model P w) X.A (letOwnedTupleGo tg (.ref it) u) (fun _ s2 => ∃ x H', Inv X pins σ H' s2 ∧ RelV x u ∧ J.yld i H x H' ∧ tn (i + 1) s2.heap ∧ ∀ b ∈ fp, H' b = none) E s1) E s
  done : ∀ (X : Cx), X.prog = P → X.w = w → X.K = K → ∀ (x1 : Addr) (i : Nat) (pins : List (Addr × Obj)) (s : Shared) (σ : L2.St) (H : Hp) (E : Value → Shared → Prop), HotAt X.A x1 s.heap → Inv X pins σ H s → (∀ b ∈ fp, FpOk X pins H b) → tn i s.heap → J.stop i H →
    wpAny (model P w) X.A (pyNext (.ref it)) (fun r s1 => r = none ∧ Inv X pins σ H s1) E s
  self : ∀ (A : Around) (i : Nat) (s : Shared) (Q : Value → Shared → Prop) (E : Value → Shared → Prop), tn i s.heap → Q (.ref it) s → wpAny (model P w) A (pyIter (.ref it)) Q E s
/-- zip of two lists of one length -/
def ItzE (K : PySem.W.Frag) (a b : Addr) : It :=
  ⟨(Itz K a b).go, (Itz K a b).yld, fun i H => ∃ xs ys : List V, SqL K H a xs ∧ SqL K H b ys ∧ xs.length ≤ i⟩
theorem turn_zipE {P : Program} {w : World} {K : PySem.W.Frag} {elts : List Expr} {kk : Nat} {tpos : Pos} {a b z TI TO i1 i2 : Addr} (D : ZipApart z TI TO i1 i2 a b) :
    TurnE P w K (.Tuple elts kk tpos) (ItzE K a b) [z, TI, TO, i1, i2] z (fun i h => IsZip h z TI TO .none ∧ IsPair h TI (.ref i1) (.ref i2) ∧ (∃ x y, IsPair h TO x y) ∧ h.IsListIter i1 a i ∧ h.IsListIter i2 b i) where
  mem := by simp
  obj := fun i h st c hc => (turn_zip (P := P) (w := w) (K := K) (elts := elts) (kk := kk) (tpos := tpos) D).obj i h st c hc
  keep := fun i h h' st k => (turn_zip (P := P) (w := w) (K := K) (elts := elts) (kk := kk) (tpos := tpos) D).keep i h h' st k
  item := by
    intro X hP hw hK i pins s σ H E I hf st hg
    subst hP hw hK
    obtain ⟨hz, hTI, ⟨x0, y0, hTO⟩, h1, h2⟩ := st
    obtain ⟨xs, ys, x, y, hqx, hqy, hx, hy⟩ := hg
    obtain ⟨its, rv, p, _⟩ := I.list hqx
    obtain ⟨its2, rv2, p2, _⟩ := I.list hqy
    obtain ⟨u, hu, ru⟩ := rv.get hx
    obtain ⟨u2, hu2, ru2⟩ := rv2.get hy
    have hzl : z < s.heap.objs.size := Heap.lt_size hz
    refine wpAny_pyNext_zip_item D hz hTI hTO h1 h2 p.isList p2.isList (x := u) (y := u2) (by simpa using hu) (by simpa using hu2) fun h' z' TO' h1' h2' hT hsz hk => ?_
    refine ⟨_, rfl, wpAny_letOwnedTupleGo_zip (s := { s with heap := h' }) z' fun h'' z'' sb => ?_⟩
    have hT2 : h''.get? s.heap.objs.size = some { cls := .type "tuple", data := .seq #[u, u2] } := (sb.2 _ (Nat.ne_of_gt hzl)).trans hT
    have new : ObjOk X.prog X.w (upd H s.heap.objs.size (.tup [x, y])) h'' s.heap.objs.size (.tup [x, y]) :=
      ⟨by show 2 ≤ sizeLine; decide, [u, u2], .cons ru (.cons ru2 .nil), ⟨_, hT2, rfl, _, rfl⟩⟩
    have I1 : Inv X pins σ (upd H s.heap.objs.size (.tup [x, y])) { s with heap := h'' } :=
      I.turnedNew (t' := s.toks) (ch := [z, TI, TO, i1, i2]) (fun c o hb q => (sb.2 c (fun q' => hb (by simp [q']))).trans (hk c o (fun q' => hb (by simp [q'])) (fun q' => hb (by simp [q'])) (fun q' => hb (by simp [q'])) (fun q' => hb (by simp [q'])) q)) hf (Nat.le_refl _) new
    refine ⟨.ref s.heap.objs.size, _, I1, rfl, ⟨_, x, y, rfl, I.hok.fresh (Nat.le_refl _), rfl, fun l hl => by rw [I.list_inj hl hqx]; exact hx, fun l hl => by rw [I.list_inj hl hqy]; exact hy⟩, ⟨z'', (sb.2 _ D.TIz).trans (hk _ _ D.TIz D.TITO D.TIi1 D.TIi2 hTI), ⟨u, u2, (sb.2 _ D.TOz).trans TO'⟩, h1'.at fun o q => (sb.2 _ D.i1z).trans q, h2'.at fun o q => (sb.2 _ D.i2z).trans q⟩, fun c hcm => ?_⟩
    have hlt : c < s.heap.objs.size := by
      rcases (by simpa using hcm : c = z ∨ c = TI ∨ c = TO ∨ c = i1 ∨ c = i2) with q | q | q | q | q <;> rw [q]
      · exact hzl
      · exact Heap.lt_size hTI
      · exact Heap.lt_size hTO
      · obtain ⟨_, e1, _⟩ := h1; exact Heap.lt_size e1
      · obtain ⟨_, e2, _⟩ := h2; exact Heap.lt_size e2
    rw [upd_ne (Nat.ne_of_lt hlt)]
    exact (hf c hcm).1
  done := by
    intro X hP hw hK x1 i pins s σ H E hot I hf st hg
    subst hP hw hK
    obtain ⟨hz, hTI, ⟨x0, y0, hTO⟩, h1, h2⟩ := st
    obtain ⟨xs, ys, hqx, hqy, hend⟩ := hg
    obtain ⟨its, rv, p, _⟩ := I.list hqx
    have l1 := rv.length
    exact zipNext_hot (k2 := i) (ys := #[]) hot D hz hTI hTO h1 p.isList (by simp; omega) fun h' hk => ⟨rfl, I.turnedL (t' := s.toks) (ch := [z, TI, TO, i1, i2]) (fun c o hb q =>
      hk c o (fun q' => hb (by simp [q'])) (fun q' => hb (by simp [q'])) (fun q' => hb (by simp [q'])) (fun q' => hb (by simp [q'])) q) hf⟩
  self := fun A i s Q E st h => wpAny_pyIter_zip st.1 h
end LT
set_option Elab.async false
set_option linter.all false
set_option maxRecDepth 100000
set_option maxHeartbeats 8000000
/-! Own layer, part K2: a list's block while an exception is handled. -/
namespace LT
open PySem PySem.Spec PyProof.Rows L2 LamX NdefX HotX L2H
def PIEE (X : Cx) (pins : List (Addr × Obj)) (σ : L2.St) (tg : Expr) (R : It → Hp → Prop) (itv : Value) (s2 : Shared) : Prop :=
  ∃ (it : Addr) (fp : List Addr) (tn : Nat → Heap → Prop) (J : It) (H' : Hp), itv = .ref it ∧ Inv X pins σ H' s2 ∧ TurnE X.prog X.w X.K tg J fp it tn ∧ tn 0 s2.heap ∧ (∀ b ∈ fp, FpOk X pins H' b) ∧ R J H'
structure PIX (X : Cx) (tg iter : Expr) (wi : TI) : Prop where
  run : ∀ (pins : List (Addr × Obj)) (s : Shared) (σ : L2.St) (H : Hp) (R : It → Hp → Prop), Inv X pins σ H s → wi σ H R →
    wpAny (model X.prog X.w) X.A (eval iter X.env) (fun v s1 => wpAny (model X.prog X.w) X.A (pyIter v) (PIEE X pins σ tg R) X.xe s1) X.xe s
/-- zip(e, e2), lists of one length -/
def iZipE (K : PySem.W.Frag) (ta : TA) : TI := fun σ H R => ta σ H fun vs H1 => ∃ a b xs ys, vs = [.ref a, .ref b] ∧ SqL K H1 a xs ∧ SqL K H1 b ys ∧ R (ItzE K a b) H1
theorem pix_zip {X : Cx} {e e2 : Expr} {ta : TA} {p pos tpos : Pos} {elts : List Expr} {kk : Nat} (hg : Gl X "zip") (hm : X.mg "zip" = none) (ha : PA X [e, e2] ta)
    (hs : starEach [e, e2] X.env = (false, eval e X.env) :: starEach [e2] X.env := by rfl) (hpl : (backTo pos (starEach [e2] X.env)).any (·.1) = false := by rfl) :
    PIX X (.Tuple elts kk tpos) (.Call (.Name "zip" p) [e, e2] [] pos) (iZipE X.K ta) := by
  refine ⟨fun pins s σ H R I h => ?_⟩
  refine Call_ (ld_blt I hg hm PyProof.Rows.boot_zip (PyProof.Rows.callWith_type1 (thn (ha.run pos pins s σ H _ I h) fun us s1 ⟨vs, H1, I1, r1, q1⟩ => ?_) hs hpl))
  obtain ⟨a, b, xs, ys, ex, hqx, hqy, q⟩ := q1
  subst ex
  obtain ⟨u, u2, rfl, rx, ry⟩ : ∃ u u2, us = [u, u2] ∧ RelV (.ref a) u ∧ RelV (.ref b) u2 := by
    cases r1 with
    | cons r rr => cases rr with
      | cons r' rr => cases rr; exact ⟨_, _, rfl, r, r'⟩
  cases rx
  cases ry
  obtain ⟨its, rv, p1, _⟩ := I1.list hqx
  obtain ⟨its2, rv2, p2, _⟩ := I1.list hqy
  refine call_zip_2 p1.isList p2.isList fun h' hz hTI hTO h1 h2 hsz hk => wpAny_pyIter_zip hz ?_
  have I2 : Inv X pins σ H1 { s1 with heap := h' } := I1.kept (t' := s1.toks) hk
  refine ⟨s1.heap.objs.size + 4, [s1.heap.objs.size + 4, s1.heap.objs.size + 2, s1.heap.objs.size + 3, s1.heap.objs.size, s1.heap.objs.size + 1], _, _, H1, rfl, I2, turn_zipE (PySem.W.ktu_apart s1.heap.objs.size a b p1.lt p2.lt), ⟨hz, hTI, ⟨_, _, hTO⟩, h1, h2⟩, fun c hcm => ?_, q⟩
  have hle : s1.heap.objs.size ≤ c := by
    rcases (by simpa using hcm : c = s1.heap.objs.size + 4 ∨ c = s1.heap.objs.size + 2 ∨ c = s1.heap.objs.size + 3 ∨ c = s1.heap.objs.size ∨ c = s1.heap.objs.size + 1) with z | z | z | z | z <;> rw [z]
    · exact Nat.le_add_right _ _
    · exact Nat.le_add_right _ _
    · exact Nat.le_add_right _ _
    · exact Nat.le_refl _
    · exact Nat.le_add_right _ _
  exact I1.fpOk hle (I1.hok.fresh hle)
section
variable {X : Cx}
/-- the handled exception is still there in a block -/
theorem hot_blk {pins pins' : List (Addr × Obj)} {σ σ' : L2.St} {H3 H' : Hp} {s3 s' : Shared} {scope : Scope} {ce : Env} {fp : List Addr} (hot : HotC X) (I3 : Inv X pins σ H3 s3) (hf : ∀ b ∈ fp, FpOk X pins H3 b) (I' : Inv (X.blk s3 H3 scope ce fp) pins' σ' H' s') : ∃ x1, HotAt X.A x1 s'.heap := by
  obtain ⟨p, ⟨hh, vs, d, c⟩, hp⟩ := hot
  have P := I3.pin p (List.mem_append_left _ hp)
  refine ⟨p.1, hh, p.2, vs, I'.base.keep p.1 p.2 P.1 P.2.1 (fun z => ?_) (fun z => ?_), d, c⟩
  · exact (List.mem_cons.mp (I3.stkSub p.1 z)).elim P.2.2.1 P.2.2.2.1
  · exact (hf _ z).2.2.2.2.2 p (List.mem_append_left _ hp) rfl
/-- the handled exception stands wherever the context is held -/
def HotI (X : Cx) : Prop := ∀ pins σ H s, Inv X pins σ H s → ∃ x1, HotAt X.A x1 s.heap
theorem HotC.toI {X : Cx} (hot : HotC X) : HotI X := fun _ _ _ _ I => L2H.HotC.at hot I
theorem lc_hot {pins : List (Addr × Obj)} {s : Shared} {σ : L2.St} {H : Hp} {Q : VK} {elt tg iter : Expr} {ifs : List Expr} {scope : Scope} {own : List (Str × Nat)} {pos pos' : Pos} {wi : TI} {g : TG} {tt : TT} {te : TE} {use : Option (Value → Sem Unit)} {Qf : Value → Shared → Prop}
    (hot : HotC X) (hN : X.N.Nodup) (I : Inv X pins σ H s) (hi : PIX X tg iter wi) (ok : BlkOk X.N X.env.scope scope own)
    (hg : ∀ (s : Shared) (H : Hp) (C : Addr) (cl : List (Str × Addr)) (fp : List Addr), HotI (X.blk s H scope (compEnvC scope cl C X.env) fp) → PG (X.blk s H scope (compEnvC scope cl C X.env) fp) tg g) (ht : ∀ (s : Shared) (H : Hp) (C : Addr) (cl : List (Str × Addr)) (fp : List Addr), PTs (X.blk s H scope (compEnvC scope cl C X.env) fp) ifs tt)
    (he : ∀ (s : Shared) (H : Hp) (C : Addr) (cl : List (Str × Addr)) (fp : List Addr), PE (X.blk s H scope (compEnvC scope cl C X.env) fp) elt te) (hs : ∀ x, foldedSetIterable iter X.env x = pure x)
    (h : tLc wi g tt te (own.map (·.2)) σ H Q)
    (hRR : ∀ D C s' m H', Inv X pins σ H' s' → Q (.ref D) H' → s'.heap.Ns C m → FpOk X pins H' C → compPost (model X.prog X.w) X.A X.xe use Qf (.ref D) C (.ok .next) s') :
    wpAny (model X.prog X.w) X.A (comprehension (.ListComp elt [⟨tg, iter, ifs, 0⟩] scope pos) scope X.env pos' (newList []) false (eval iter X.env) use) Qf X.xe s := by
  have hfree : ∀ y ∈ scope.names, y.2 = .free → ∃ c, X.env.cells.lookup y.1 = some c := fun y hy e => by
    rcases ok.free y hy e with k | k
    · exact I.ok.has _ (.inl k)
    · exact I.ok.has _ (.inr k)
  refine wpAny_comprehension_free (use := use) rfl hs (closure_ok hfree) ok.kind (fun y hy e => by rw [ok.uniq y hy, e])
    (thn (hi.run pins s σ H _ I h) fun xv s1 hx => thn hx fun itv s2 h2 => ?_)
  obtain ⟨it, fp, tn, J, H2, e, I2, T, st2, f2, q⟩ := h2
  subst e
  refine wpAny_newObj_type (newEnv_comp ?_) (by show 0 ≤ sizeLine; decide)
  generalize hD : s2.heap.objs.size = D
  have hDn : H2 D = none := I2.hok.fresh (Nat.le_of_eq hD)
  obtain ⟨W, ⟨m0, w0⟩, turn⟩ := q D hDn
  generalize hs3 : ({ s2 with heap := s2.heap.push { cls := .type "list", data := .seq ([] : List Value).toArray } } : Shared) = s3
  have I3 : Inv X pins σ (upd H2 D (.lst [])) s3 := by
    rw [← hs3]
    refine I2.laid (t' := s2.toks) (fun b o e => Heap.get?_push_of_some _ e) (Nat.le_of_eq hD) ⟨Nat.zero_le _, [], 0, .nil, ?_⟩
    rw [← hD]
    exact Heap.get?_push_size _ rfl
  have h3 : s3.heap = s2.heap.push { cls := .type "list", data := .seq ([] : List Value).toArray } := by rw [← hs3]
  have sz : ∀ b ∈ fp, b < s2.heap.objs.size := fun b hb => by
    obtain ⟨o, e, _⟩ := T.obj _ _ st2 b hb
    exact Heap.lt_size e
  have f3 : ∀ b ∈ fp, FpOk X pins (upd H2 D (.lst [])) b ∧ b < s3.heap.objs.size := fun b hb => by
    have hlt := sz b hb
    refine ⟨⟨?_, (f2 b hb).2⟩, by rw [h3, Heap.size_push]; exact Nat.lt_succ_of_lt hlt⟩
    rw [upd_ne (by rw [← hD]; exact Nat.ne_of_lt hlt)]
    exact (f2 b hb).1
  have st3 : tn 0 s3.heap := T.keep _ _ _ st2 fun b _ o e => by rw [h3]; exact Heap.get?_push_of_some _ e
  have I4 := block_start I3 ok hN f3
  have pg := hg s3 (upd H2 D (.lst [])) s3.heap.objs.size (cellsFrom (s3.heap.objs.size + 1) scope.names (cloFrom X.env.cells scope.names [])) fp fun pins' σ' H' s' I' => hot_blk (X := X) hot I3 (fun b hb => (f3 b hb).1) I'
  have pt := ht s3 (upd H2 D (.lst [])) s3.heap.objs.size (cellsFrom (s3.heap.objs.size + 1) scope.names (cloFrom X.env.cells scope.names [])) fp
  have pe := he s3 (upd H2 D (.lst [])) s3.heap.objs.size (cellsFrom (s3.heap.objs.size + 1) scope.names (cloFrom X.env.cells scope.names [])) fp
  show codeAny _ _ (.compStart (.ListComp elt [⟨tg, iter, ifs, 0⟩] scope pos) 0 (.ref it) (.ref D) (compEnvC scope (cellsFrom (s3.heap.objs.size + 1) scope.names (cloFrom X.env.cells scope.names [])) s3.heap.objs.size X.env)) (compPost (model X.prog X.w) X.A X.xe use Qf (.ref D) s3.heap.objs.size) { s3 with heap := pushCells (s3.heap.push { cls := .type "dict", data := .dict #[] }) scope.names }
  have nfp : ∀ b ∈ fp, (upd H2 D (.lst [])) b = none := fun b hb => (f3 b hb).1.1
  generalize hce : compEnvC scope (cellsFrom (s3.heap.objs.size + 1) scope.names (cloFrom X.env.cells scope.names [])) s3.heap.objs.size X.env = ce at I4 pg pt pe ⊢
  have cL : ce.locals = s3.heap.objs.size := by subst hce; rfl
  generalize hH3 : upd H2 D (.lst []) = H3 at I3 I4 pg pt pe w0 nfp f3
  generalize hs4 : ({ s3 with heap := pushCells (s3.heap.push { cls := .type "dict", data := .dict #[] }) scope.names } : Shared) = s4 at I4 ⊢
  have st4 : tn 0 s4.heap := T.keep _ _ _ st3 fun b _ o e => by rw [← hs4]; exact pushCells_keeps _ _ _ _ (Heap.get?_push_of_some _ e)
  have stat : ∀ {σ' : L2.St} {H' : Hp} {s' : Shared}, Inv (X.blk s3 H3 scope ce fp) [] σ' H' s' → (∀ b ∈ fp, H' b = none) → ∀ b ∈ fp, FpOk (X.blk s3 H3 scope ce fp) [] H' b := fun {σ' H' s'} I' hn b hb =>
    ⟨hn b hb, (I'.ok.exf b hb).1, I'.ok.exfs b hb, .inl hb, fun x c e => (I'.ok.exf b hb).2 x c e, fun p hp => absurd (show p ∈ ([] : List (Addr × Obj)) ++ [] from hp) (by simp)⟩
  have loop : codeAny (model X.prog X.w) X.A (.compLoop (.ListComp elt [⟨tg, iter, ifs, 0⟩] scope pos) 0 (.ref it) (.ref D) ce) (compPost (model X.prog X.w) X.A X.xe use Qf (.ref D) s3.heap.objs.size) s4 := by
    refine compLoop_any (fun n s' => ∃ i H', Inv (X.blk s3 H3 scope ce fp) [] (wipe σ (own.map (·.2))) H' s' ∧ tn i s'.heap ∧ (∀ b ∈ fp, H' b = none) ∧ W i n H') ?_ m0 ⟨0, H3, I4, st4, nfp, w0⟩
    rintro n s5 ⟨i, H5, I5, st5, n5, w5⟩
    rcases turn i n H5 w5 with ⟨stop, qq⟩ | ⟨go, Nx, hNx, step⟩
    · obtain ⟨x1, hot5⟩ := hot_blk hot I3 (fun b hb => (f3 b hb).1) I5
      have td := T.done (X.blk s3 H3 scope ce fp) rfl rfl rfl x1 i [] s5 _ H5 (fun _ _ => False) hot5 I5 (stat I5 n5) st5 stop
      refine thnF td fun r s6 ⟨hr, I6⟩ => ?_
      subst hr
      have I7 : Inv X pins σ H5 s6 := I3.call' (ch := fp) I6.os I6.base I6.hok I6.bare fun b hb => ⟨(f3 b hb).1.2.2.2.1, (f3 b hb).1.2.1, (f3 b hb).1.2.2.2.2.1, (f3 b hb).1.2.2.2.2.2⟩
      have nC : H5 s3.heap.objs.size = none := by
        have z : H5 ce.locals = none := I6.free
        rw [cL] at z
        exact z
      obtain ⟨m, hn, _⟩ := I6.loc
      have hn : s6.heap.Ns ce.locals m := hn
      rw [cL] at hn
      exact hRR D s3.heap.objs.size s6 m H5 I7 qq hn (I3.fpOk (Nat.le_refl _) nC)
    · have ti := T.item (X.blk s3 H3 scope ce fp) rfl rfl rfl i [] s5 _ H5 (fun _ _ => False) I5 (stat I5 n5) st5 go
      refine thnF ti fun r s6 ⟨u, hr, h6⟩ => ?_
      subst hr
      refine thnF h6 fun _ s7 ⟨x, H7, I7, r7, y7, st7, n7⟩ => ?_
      have I7' := I7.pinned (stat I7 n7) (T.obj _ _ st7)
      refine thnF (pg.run _ s7 _ H7 x u _ I7' r7 (step x H7 y7)) fun _ s8 ⟨σ8, H8, I8, hw8, q8⟩ => ?_
      refine thnF (pt.run _ s8 σ8 H8 _ I8 q8) fun b s9 ⟨H9, I9, q9⟩ => ?_
      have fin : ∀ {s' : Shared} {H' : Hp}, Inv (X.blk s3 H3 scope ce fp) ([] ++ pinsAt fp s7.heap) σ8 H' s' → Nx H' → ∃ m, m < n ∧ ∃ i H', Inv (X.blk s3 H3 scope ce fp) [] (wipe σ (own.map (·.2))) H' s' ∧ tn i s'.heap ∧ (∀ b ∈ fp, H' b = none) ∧ W i m H' := fun {s' H'} I' nx => by
        obtain ⟨m', hm, w'⟩ := hNx H' nx
        have pin' : ∀ b ∈ fp, ∀ o, s7.heap.get? b = some o → s'.heap.get? b = some o ∧ H' b = none := fun b hb o e =>
          let z := I'.pin (b, o) (List.mem_append_right _ (List.mem_append_right _ (mem_pinsAt hb e)))
          ⟨z.1, z.2.1⟩
        have hl : (wipe σ (own.map (·.2))).length = σ8.length := by rw [← hw8, wipe_length]
        refine ⟨m', hm, i + 1, H', (I'.unpinned (pins := [])).weak hl (fun j v e => ?_), T.keep _ _ _ st7 fun b hb o e => (pin' b hb o e).1, fun b hb => ?_, w'⟩
        · rw [← hw8] at e
          exact (wipe_some e).1
        · obtain ⟨o, e, _⟩ := T.obj _ _ st7 b hb
          exact (pin' b hb o e).2
      cases b with
      | false =>
        simp only [Bool.false_eq_true, if_false] at q9 ⊢
        exact fin I9 q9
      | true =>
        simp only [if_true] at q9 ⊢
        refine thnF (pe.run _ s9 σ8 H9 _ I9 q9) fun z s10 ⟨yv, H10, I10, r10, acc, hD10, hz10, nx⟩ => ?_
        exact app_ok (X := X.blk s3 H3 scope ce fp) I10 hD10 hz10 r10 fun s11 I11 => fin I11 nx
  exact codeAny_compStart_list loop (T.self X.A 0 _ _ _ st4 loop)
theorem pe_lcX {elt tg iter : Expr} {ifs : List Expr} {scope : Scope} {own : List (Str × Nat)} {pos : Pos} {wi : TI} {g : TG} {tt : TT} {te : TE} (hot : HotC X) (hN : X.N.Nodup) (hi : PIX X tg iter wi) (ok : BlkOk X.N X.env.scope scope own)
    (hg : ∀ (s : Shared) (H : Hp) (C : Addr) (cl : List (Str × Addr)) (fp : List Addr), HotI (X.blk s H scope (compEnvC scope cl C X.env) fp) → PG (X.blk s H scope (compEnvC scope cl C X.env) fp) tg g) (ht : ∀ (s : Shared) (H : Hp) (C : Addr) (cl : List (Str × Addr)) (fp : List Addr), PTs (X.blk s H scope (compEnvC scope cl C X.env) fp) ifs tt)
    (he : ∀ (s : Shared) (H : Hp) (C : Addr) (cl : List (Str × Addr)) (fp : List Addr), PE (X.blk s H scope (compEnvC scope cl C X.env) fp) elt te) (hs : ∀ x, foldedSetIterable iter X.env x = pure x) :
    PE X (.ListComp elt [⟨tg, iter, ifs, 0⟩] scope pos) (tLc wi g tt te (own.map (·.2))) := by
  refine ⟨fun pins s σ H Q I h => ?_⟩
  rw [eval_ListComp]
  refine lc_hot hot hN I hi ok hg ht he hs h fun D C s' m H' I' q hn f => ⟨m, hn, fun h'' sb => ?_⟩
  obtain ⟨f0, f1, f2, f3, f4, f5⟩ := f
  exact ⟨.ref D, H', I'.turned (t' := s'.toks) (fun b o hb e => (sb.2 b hb).trans e) f0 f1 f3 f4 f5, rfl, q⟩
end
end LT
namespace LT
open PySem PySem.Spec PyProof.Rows L2 LamX NdefX HotX L2H
theorem pg_tupX {X : Cx} {es : List Expr} {k : Nat} {t : TGs} {n : Nat} {pos : Pos} (hot : HotI X) (h : PGs X es t)
    (hn : (assignEach es X.env).length = n) (hst : (assignEach es X.env).findIdx? (·.1) = none) : PG X (.Tuple es k pos) (gTup X.K n t) := by
  refine ⟨fun pins s σ H v u Q I r hw => ?_⟩
  obtain ⟨a, xs, e1, hq, hl, hw⟩ := hw
  subst e1
  cases r
  obtain ⟨its, rv, ht, hz⟩ := I.tuple hq
  obtain ⟨x1, hx⟩ := hot pins σ H s I
  refine asgTup_hot hx ht (by simp [hn, ← hl, rv.length]) hst fun h' hx => ?_
  have I1 : Inv X pins σ H { s with heap := h' } := I.kept (t' := s.toks) fun b o e => hx b o (Nat.ne_of_lt (Heap.lt_size e)) e
  exact h.run pins _ σ H xs _ Q I1 (by simpa using rv) hw
end LT
set_option Elab.async false
set_option linter.all false
set_option maxRecDepth 100000
set_option maxHeartbeats 8000000
/-! Own layer, part K3: _law_kin. -/
namespace LT
open PySem PySem.Spec PyProof.Rows L2 LamX NdefX HotX L2H
/-! ### the syntax -/
def kinN : List Str := ["e", "some", "labels", "label", "good"]
def glB (sc : Scope) (x : Str) : Bool := decide (sc.names.lookup x = some .globalImplicit) && okN x
def kinRow (sc : Scope) : List Expr → Option (List Str)
  | [] => some []
  | e :: es => match callN e with
    | some (f, [x, y]) => (match nameE x, nameE y with
      | some ex, some c => if (decide (f = ("isinstance" : Str)) && decide (ex = ("e" : Str)) && glB sc f && glB sc c) = true then (kinRow sc es).map (c :: ·) else none
      | _, _ => none)
    | _ => none
def asgN (x : Str) (st : Stmt) : Option Expr := match asgS st with
  | some (t, v, _) => (match nameP t with | some (y, _) => if y = x then some v else none | none => none)
  | none => none
theorem asgN_eq {x : Str} {st : Stmt} {v : Expr} (h : asgN x st = some v) : ∃ p pos, st = .Assign [.Name x p] v pos := by
  unfold asgN at h
  cases q : asgS st with
  | none => rw [q] at h; cases h
  | some p =>
    obtain ⟨t, v', pos⟩ := p
    rw [q] at h
    have := asgS_eq q
    subst this
    dsimp only at h
    cases q2 : nameP t with
    | none => rw [q2] at h; cases h
    | some yp =>
      obtain ⟨y, p⟩ := yp
      rw [q2] at h
      have := nameP_eq q2
      subst this
      dsimp only at h
      split at h
      · rename_i e
        subst e
        cases h
        exact ⟨p, pos, rfl⟩
      · cases h
def addL (x : Str) (v : Expr) : Option (List Expr) := match binE v with
  | some (l, .Add, r) => (match nameE l with | some y => if y = x then lstE r else none | none => none)
  | _ => none
theorem addL_eq {x : Str} {v : Expr} {es : List Expr} (h : addL x v = some es) : ∃ p p2 pos, v = .BinOp (.Name x p) .Add (.List es p2) pos := by
  unfold addL at h
  cases q : binE v with
  | none => rw [q] at h; cases h
  | some t =>
    obtain ⟨l, o, r⟩ := t
    rw [q] at h
    obtain ⟨pos, rfl⟩ := binE_eq q
    cases o <;> first | (cases h; done) | skip
    replace h : (match nameE l with | some y => if y = x then lstE r else none | none => none) = some es := h
    cases q2 : nameE l with
    | none => rw [q2] at h; cases h
    | some y =>
      rw [q2] at h
      obtain ⟨p, rfl⟩ := nameE_eq q2
      by_cases e : y = x
      · subst e
        replace h : lstE r = some es := (if_pos rfl).symm.trans h
        obtain ⟨p2, rfl⟩ := lstE_eq h
        exact ⟨p, p2, pos, rfl⟩
      · exact absurd ((if_neg e).symm.trans h) (by simp)
def mth (n : Str) (v : Expr) : Option (Str × Expr) := match callA v with
  | some (o, m, ap, [e], pos) => if (decide (m = n) && (ap.endLine == pos.line)) = true then (match constE o with | some (.str s) => some (s, e) | _ => none) else none
  | _ => none
theorem mth_eq {n s : Str} {v e : Expr} (h : mth n v = some (s, e)) : ∃ j p ap pos, v = .Call (.Attribute (.Constant (.str s) j p) n ap) [e] [] pos ∧ (ap.endLine == pos.line) = true := by
  unfold mth at h
  cases q : callA v with
  | none => rw [q] at h; cases h
  | some t =>
    obtain ⟨o, m, ap, es, pos⟩ := t
    rw [q] at h
    have := callA_eq q
    subst this
    cases es with
    | nil => cases h
    | cons e' es => cases es with
      | cons _ _ => cases h
      | nil =>
        dsimp only at h
        split at h
        · rename_i c
          simp only [Bool.and_eq_true, decide_eq_true_eq] at c
          obtain ⟨rfl, c⟩ := c
          cases q2 : constE o with
          | none => rw [q2] at h; cases h
          | some k =>
            rw [q2] at h
            obtain ⟨j, p, rfl⟩ := constE_eq q2
            cases k <;> first | (cases h; done) | skip
            cases h
            exact ⟨j, p, ap, pos, rfl, c⟩
        · cases h
/-- the block's names -/
def kinLc (sc : Scope) (v : Expr) : Bool := match lcE v with
  | some (elt, tg, iter, ifs, s, _) => (match nameE elt, tupE tg, callN iter, ifs with
    | some l, some [t1, t2], some (z, [a, b]), [c] => decide (l = ("label" : Str)) && decide (nameE t1 = some "label") && decide (nameE t2 = some "good") && decide (z = ("zip" : Str)) && glB sc z && decide (nameE a = some "labels") && decide (nameE b = some "some") && decide (nameE c = some "good") &&
        blkB ⟨kinN, sc, fun _ => true, false, [], fun _ _ _ _ _ => false⟩ s [3, 4] && decide ((relS s sc).names.lookup ("label" : Str) = some .local) && decide ((relS s sc).names.lookup ("good" : Str) = some .local)
    | _, _, _, _ => false)
  | none => false
def kinP (sc : Scope) (body : List Stmt) : Option (List (List Str) × Str × Str × Str) := match body with
  | [s1, s2, s3, s4, s5, s6, s7] => do
    let r1 ← (asgN "some" s1).bind lstE
    let r2 ← (asgN "some" s2).bind (addL "some")
    let r3 ← (asgN "some" s3).bind (addL "some")
    let r4 ← (asgN "some" s4).bind (addL "some")
    let r5 ← (asgN "some" s5).bind (addL "some")
    let c1 ← kinRow sc r1
    let c2 ← kinRow sc r2
    let c3 ← kinRow sc r3
    let c4 ← kinRow sc r4
    let c5 ← kinRow sc r5
    let (txt, sp) ← (asgN "labels" s6).bind (mth "split")
    let v ← (retS s7).bind id
    let (jn, lc) ← mth "join" v
    let sep ← (constE sp).bind fun c => match c with | .str s => some s | _ => none
    if kinLc sc lc && decide (sc.names.lookup ("some" : Str) = some .local) && decide (sc.names.lookup ("labels" : Str) = some .local) && (decide (sc.names.lookup ("e" : Str) = some .local)) then some ([c1, c2, c3, c4, c5], txt, sep, jn) else none
  | _ => none
end LT
namespace LT
open PySem PySem.Spec PySem.Calls PyProof.Rows PySem.W
section
variable {prog : Program} {w : World} {A : Around} {E : Value → Shared → Prop} {s : Shared} {K : Frag} {x D : Addr} {ox : Obj} {od : Option Obj}
theorem findObj_dataX {C : Addr} {name : Str} {a g : Value} (hc : (clsIn K C).isSome = true) (ha : findIn K (.ref C) name = some (some a)) (hg : specialIn K a "__get__" = some (some g)) (ht : takesIn K a = some true) : findObj K C od name = some (.bind g a) := by
  obtain ⟨cd, hc⟩ := Option.isSome_iff_exists.mp hc
  unfold findObj
  rw [hc, Option.bind_some, ha, Option.bind_some]
  simp [hg, ht]
/-- e.__class__, e with a dict or without -/
theorem class_excX {Q : Option Value → Shared → Prop} (C : L2.ExcC K D) (X : K.In s.heap) (I : W.InstAt s.heap x ox D od) (h : Q (some (.ref D)) { s with toks := s.toks + 1 }) : wpAny (model prog w) A (getAttr? (.ref x) "__class__") Q E s := by
  have hf : findObj K D od "__class__" = some (.bind (.builtin "getset_descriptor.__get__") (.builtin "object.__class__")) := findObj_dataX (by obtain ⟨cd, hc, _⟩ := any_some C.hd; rw [hc]; rfl) C.ha C.hn C.ht
  have hm := C.hm
  obtain ⟨hp, g, d, t, os⟩ := s
  have L0 := I.type (M := model prog w)
  have L1 := looks_findIn (M := model prog w) X C.hg
  have L2 := looks_findIn (M := model prog w) X C.hk
  have L3 := looks_find (M := model prog w) X I hf
  have sub : Looks (model prog w) hp (isInstance (.ref x) (.type "BaseException")) true := L0.andThen (looks_subIn X C.hs)
  have hx0 : (false && onTheHeap (Value.builtin "BaseException.__getattribute__")) = false := rfl
  have hx2 : (Value.builtin "BaseException.__getattribute__" == Value.builtin "object.__getattribute__") = false := by decide +kernel
  have hx1 : (onTheHeap (Value.ref D) && Value.builtin "BaseException.__getattribute__" == Value.builtin "object.__getattribute__") = false := by rw [hx2]; rfl
  unfold getAttr? getAttrBy? getAttrBy
  refine wpAny_bind (wpAny_mkText (wpAny_bind (wpAny_attempt (wpAny_holding (wpAny_bind (L0.at (wpAny_bind (L1.at ?_))))))))
  show wpAny _ _ (if (onTheHeap (Value.ref D) && Value.builtin "BaseException.__getattribute__" == Value.builtin "object.__getattribute__") = true then _ else _) _ _ _
  rw [hx1, if_neg Bool.false_ne_true]
  unfold getAttrByItsOwn hookBefore
  refine wpAny_bind ?_
  rw [if_pos (show onTheHeap (Value.ref D) = true from rfl)]
  refine L2.at ?_
  refine wpAny_bind (wpAny_attempt (wpAny_holding ?_))
  unfold callGetattribute
  rw [hx0, if_neg Bool.false_ne_true]
  unfold boundAndCalled
  rw [PySem.F.excAttr_ValueError.ga.bind (.ref x)]
  refine wpAny_bind (wpAny_pure ?_)
  show wpAny _ _ (call (.builtin "BaseException.__getattribute__") [.ref x, .str "__class__" t]) _ _ _
  refine wpAny_call (codeAny_call_builtin PySem.F.excAttr_ValueError.ga.plain PySem.F.entry_bexc_ga ?_)
  refine @check_slot (model prog w) _ _ ⟨hp, g, d, t + 1, os⟩ "BaseException.__getattribute__" "BaseException" "__getattribute__" (.ref x) [.str "__class__" t] [] _ (by decide +kernel) (by decide +kernel) sub (PySem.F.args_bexc_ga (.ref x) (.str "__class__" t)) ?_
  unfold Builtin.«object.__getattribute__»
  refine wpAny_bind (wpAny_of_eq (a := ((Value.ref x : Value), [Value.str "__class__" t])) (by first | rfl | (simp only [slotArgs]; rfl)) ?_)
  refine wpAny_bind (wpAny_pure (wpAny_bind (L0.at (wpAny_bind (L3.at ?_)))))
  show wpAny _ _ (holding [Value.builtin "object.__class__"] (call (.builtin "getset_descriptor.__get__") [.builtin "object.__class__", .ref x, .ref D]) >>= ret) _ _ _
  refine wpAny_bind (wpAny_holding (wpAny_call (class_get (s := ⟨hp, g, d, t + 1, os⟩) (ox := ox) (od := od) X I hm ?_)))
  refine wpAny_pure ?_
  show wpAny _ _ (handedOut (.ref D)) _ _ _
  rw [handedOut_of (v := .ref D) rfl]
  first
    | exact wpAny_pure (wpAny_pure h)
    | exact wpAny_pure h
    | exact wpAny_pure (wpAny_bind (wpAny_pure (wpAny_pure (wpAny_pure h))))
theorem kitx_excX (C : L2.ExcC K D) : KitX K (.ref x) (.ref D) (fun h => ∃ od, W.InstAt h x ox D od) where
  ty := fun _ _ _ ⟨_, I⟩ => I.type
  it := fun _ _ X _ => by
    obtain ⟨cdD, hcD, _⟩ := any_some C.hd
    unfold clsIn at hcD
    split at hcD
    · rename_i c' d' cd' sl' ho
      intro A' Q' E' s' k q
      unfold isType loadHead
      exact wpAny_bind (wpAny_loadPart (k _ _ (X _ _ ho)) (wpAny_pure q))
    · cases hcD
  ne := fun h tp dd its n sl X htp => by
    obtain ⟨cdD, hcD, _⟩ := any_some C.hd
    refine Bool.eq_false_iff.mpr fun q => ?_
    have e : D = tp := Value.ref.inj (beq_iff_eq.mp q)
    subst e
    unfold clsIn at hcD
    split at hcD
    · rename_i c' d' cd' sl' ho
      have z := (X _ _ ho).symm.trans htp
      cases z
    · cases hcD
  ca := fun X ⟨_, I⟩ k => class_excX C X I k
end
end LT
namespace LT
open PySem PySem.Spec PyProof.Rows L2 LamX NdefX HotX L2H
/-! ### what it says -/
def kinF (K : PySem.W.Frag) (mg : Str → Option Value) (D : Addr) (x : Str) : Option Bool := match mg x with
  | some (.ref C) => PySem.W.kitOne K (.ref D) (.ref C)
  | some _ => none
  | none => if x = ("ValueError" : Str) then PySem.W.kitOne K (.ref D) (.type "ValueError") else none
def kinBs (K : PySem.W.Frag) (mg : Str → Option Value) (D : Addr) : List Str → Option (List Bool)
  | [] => some []
  | x :: xs => match kinF K mg D x, kinBs K mg D xs with
    | some b, some bs => some (b :: bs)
    | _, _ => none
def keptL : List Str → List Bool → List Str
  | l :: ls, b :: bs => if b then l :: keptL ls bs else keptL ls bs
  | _, _ => []
def HSub (H H' : Hp) : Prop := ∀ b o, H b = some o → H' b = some o
theorem HSub.refl {H : Hp} : HSub H H := fun _ _ h => h
theorem HSub.trans {H H1 H2 : Hp} (a : HSub H H1) (b : HSub H1 H2) : HSub H H2 := fun x o h => b x o (a x o h)
theorem HSub.upd {H : Hp} {p : Addr} {o : HO} (h : H p = none) : HSub H (upd H p o) := fun b o' e => by
  rw [upd_ne (fun z => by rw [z, h] at e; cases e)]; exact e
/-- the exception's dict is tracked -/
def DdOk (dd : Option Addr) (H : Hp) : Prop := ∀ d, dd = some d → ∃ o, H d = some o
theorem DdOk.sub {dd : Option Addr} {H H' : Hp} (h : DdOk dd H) (s : HSub H H') : DdOk dd H' := fun d e => let ⟨o, q⟩ := h d e; ⟨o, s d o q⟩
def rIsX (K : PySem.W.Frag) (D a : Addr) (dd : Option Addr) : List V → Hp → VK → Prop := fun xs H Q => ∃ (c : V) (cv : Value) (b : Bool), xs = [.ref a, c] ∧ DdOk dd H ∧ (∀ u, RelV c u → u = cv) ∧ PySem.W.kitOne K (.ref D) cv = some b ∧ Q (.bl b) H
/-- where _law_kin runs -/
structure KinX (X : Cx) (D a : Addr) (dd : Option Addr) : Prop where
  hot : HotC X
  N : X.N = kinN
  obj : ∃ oe, (a, oe) ∈ X.pn ∧ Zc (.ref D) dd oe ∧ ∃ vs, oe.data = .fields vs
  ec : ExcC X.K D
  isi : X.mg "isinstance" = none
  zip : X.mg "zip" = none
section
variable {X : Cx} {D a : Addr} {dd : Option Addr}
theorem KinX.isE (k : KinX X D a dd) : CallR X (.builtin "isinstance") (rIsX X.K D a dd) := by
  intro pins s σ H xs us Q I r h
  obtain ⟨c, cv, b, rfl, hdd, hcv, e, q⟩ := h
  obtain ⟨oe, hp, hz, vs, hv⟩ := k.obj
  cases r with
  | cons rx rr =>
    cases rr with
    | cons rt rr =>
      cases rr
      cases rx
      have ec := hcv _ rt
      subst ec
      obtain ⟨hget, _⟩ := I.pin (a, oe) (List.mem_append.mpr (.inl hp))
      have J : ∃ od, PySem.W.InstAt s.heap a oe D od := by
        obtain ⟨oc, od, oda, osl⟩ := oe
        obtain ⟨h1, h2⟩ := hz
        dsimp only at h1 h2 hv
        subst h1 hv h2
        cases od with
        | none => exact ⟨none, hget, rfl, rfl, trivial⟩
        | some d =>
          obtain ⟨o, ho⟩ := hdd d rfl
          obtain ⟨o', ho'⟩ := objOk_get (I.hok d o ho)
          exact ⟨some o', hget, rfl, rfl, ho'⟩
      exact PySem.W.kia_one (kitx_excX k.ec) I.kIn J e (fun z => nomatch z) fun tk => ⟨.bl b, H, I.kept (t' := tk) fun _ _ z => z, rfl, q⟩
theorem glB_ok {sc : Scope} {x : Str} (h : glB sc x = true) (e : X.env.scope = sc) : Gl X x ∧ (x == ("__debug__" : Str)) = false := by
  unfold glB at h
  simp only [Bool.and_eq_true, decide_eq_true_eq] at h
  exact ⟨by show X.env.scope.names.lookup x = _; rw [e]; exact h.1, (okN_ok h.2).1⟩
theorem KinX.row (k : KinX X D a dd) (hv : X.env.scope.names.lookup ("e" : Str) = some .local) : ∀ {es : List Expr} {cs : List Str} {bs : List Bool}, kinRow X.env.scope es = some cs → kinBs X.K X.mg D cs = some bs →
    PA X es (fun σ H Q => σ[0]? = some (some (.ref a)) ∧ DdOk dd H ∧ Q (bs.map V.bl) H)
  | [], cs, bs, h, hb => by
    simp only [kinRow, Option.some.injEq] at h
    subst h
    simp only [kinBs, Option.some.injEq] at hb
    subst hb
    exact PA.conseq pa_nil fun σ H Q h => h.2.2
  | e :: es, cs, bs, h, hb => by
    unfold kinRow at h
    cases q : callN e with
    | none => rw [q] at h; cases h
    | some t =>
      obtain ⟨f, as⟩ := t
      rw [q] at h
      obtain ⟨p, pos, rfl⟩ := callN_eq q
      cases as with
      | nil => cases h
      | cons x as => cases as with
        | nil => cases h
        | cons y as => cases as with
          | cons _ _ => cases h
          | nil =>
            dsimp only at h
            cases qx : nameE x with
            | none => rw [qx] at h; cases h
            | some ex => cases qy : nameE y with
              | none => rw [qx, qy] at h; cases h
              | some c =>
                rw [qx, qy] at h
                obtain ⟨px, rfl⟩ := nameE_eq qx
                obtain ⟨py, rfl⟩ := nameE_eq qy
                dsimp only at h
                split at h
                · rename_i cc
                  simp only [Bool.and_eq_true, decide_eq_true_eq] at cc
                  obtain ⟨⟨⟨rfl, rfl⟩, g1⟩, g2⟩ := cc
                  obtain ⟨g1, _⟩ := glB_ok (X := X) g1 rfl
                  obtain ⟨g2, g3⟩ := glB_ok (X := X) g2 rfl
                  rw [Option.map_eq_some_iff] at h
                  obtain ⟨cs', h, rfl⟩ := h
                  unfold kinBs at hb
                  cases qf : kinF X.K X.mg D c with
                  | none => rw [qf] at hb; cases hb
                  | some b => cases qb : kinBs X.K X.mg D cs' with
                    | none => rw [qf, qb] at hb; cases hb
                    | some bs' =>
                      rw [qf, qb] at hb
                      simp only [Option.some.injEq] at hb
                      subst hb
                      have hN0 : X.N[0]? = some ("e" : Str) := by rw [k.N]; rfl
                      -- the class
                      have hc : ∃ v cv, PE X (.Name c py) (tC v) ∧ (∀ u, RelV v u → u = cv) ∧ PySem.W.kitOne X.K (.ref D) cv = some b := by
                        unfold kinF at qf
                        cases qm : X.mg c with
                        | none =>
                          rw [qm] at qf
                          dsimp only at qf
                          split at qf
                          · rename_i e
                            subst e
                            exact ⟨.ty "ValueError", .type "ValueError", pe_bltn g2 qm (by kernel_rfl) rfl (by decide) g3, fun u r => r, qf⟩
                          · cases qf
                        | some u =>
                          rw [qm] at qf
                          cases u <;> first | (cases qf; done) | skip
                          rename_i C
                          exact ⟨.ref C, .ref C, pe_glob g2 qm rfl g3, fun u r => r, qf⟩
                      obtain ⟨v, cv, pc, hcv, hk⟩ := hc
                      have one := pe_callB (p := p) (pos := pos) k.isE g1 k.isi (by kernel_rfl) (pa_cons (pe_var (pos := px) hN0 (.inl hv)) (pa_cons pc pa_nil))
                      refine PA.conseq (pa_cons one (k.row hv h qb)) fun σ H Q hq => ?_
                      obtain ⟨h0, hdd, hq⟩ := hq
                      exact ⟨.ref a, h0, v, cv, b, rfl, hdd, hcv, hk, h0, hdd, hq⟩
                · cases h
end
end LT
set_option Elab.async false
set_option linter.all false
set_option maxRecDepth 100000
set_option maxHeartbeats 8000000
/-! Own layer, part K4: _law_kin, its steps. -/
namespace LT
open PySem PySem.Spec PyProof.Rows L2 LamX NdefX HotX L2H
section
variable {X : Cx} {D a : Addr} {dd : Option Addr}
/-- the row so far -/
def KSt (dd : Option Addr) (a : Addr) (acc : List Bool) (σ : L2.St) (H : Hp) : Prop := σ.length = 5 ∧ σ[0]? = some (some (.ref a)) ∧ ∃ p, σ[1]? = some (some (.ref p)) ∧ H p = some (.lst (acc.map V.bl)) ∧ DdOk dd H
def KFin (R : Str) (D : Ends) (H : Hp) : Prop := ∀ H', HSub H H' → D.rt (.str R) H'
theorem KFin.sub {R : Str} {D : Ends} {H H' : Hp} (h : KFin R D H) (s : HSub H H') : KFin R D H' := fun H2 s2 => h H2 (s.trans s2)
theorem locN {x : Str} (h : X.env.scope.names.lookup x = some .local) : Loc X.env.scope x := .inl h
theorem KinX.nd (k : KinX X D a dd) : X.N.Nodup := by rw [k.N]; decide
/-- some = [..] -/
theorem KinX.st1 (k : KinX X D a dd) (hv : X.env.scope.names.lookup ("e" : Str) = some .local) (hs : X.env.scope.names.lookup ("some" : Str) = some .local) {st : Stmt} {es : List Expr} {cs : List Str} {bs : List Bool} {rest : List Stmt} {R : Str}
    (e1 : (asgN "some" st).bind lstE = some es) (e2 : kinRow X.env.scope es = some cs) (e3 : kinBs X.K X.mg D cs = some bs) (hl : bs.length ≤ 1000)
    (hr : PSs X rest (fun Dn σ H => KSt dd a bs σ H ∧ KFin R Dn H)) : PSs X (st :: rest) (fun Dn σ H => (σ.length = 5 ∧ σ[0]? = some (some (.ref a)) ∧ DdOk dd H) ∧ KFin R Dn H) := by
  obtain ⟨v, q1, q2⟩ := Option.bind_eq_some_iff.mp e1
  obtain ⟨p, pos, rfl⟩ := asgN_eq q1
  obtain ⟨p2, rfl⟩ := lstE_eq q2
  have hN : X.N[1]? = some ("some" : Str) := by rw [k.N]; rfl
  refine PSs.conseq (pss_cons (ps_set k.nd hN (locN hs) (pe_lst (k.row hv e2 e3)) (hf := .inr hs)) hr) fun Dn σ H h => ?_
  obtain ⟨⟨hl5, h0, hdd⟩, hf⟩ := h
  refine ⟨h0, hdd, ?_, fun q hq => ?_⟩
  · rw [List.length_map]; exact Nat.le_trans hl (by decide)
  · refine ⟨⟨by rw [List.length_set]; exact hl5, ?_, q, ?_, ?_, hdd.sub (HSub.upd hq)⟩, hf.sub (HSub.upd hq)⟩
    · rw [List.getElem?_set_ne (by decide)]; exact h0
    · rw [List.getElem?_set_self (by omega)]
    · rw [upd_same]
/-- some = some + [..] -/
theorem KinX.st2 (k : KinX X D a dd) (hv : X.env.scope.names.lookup ("e" : Str) = some .local) (hs : X.env.scope.names.lookup ("some" : Str) = some .local) {st : Stmt} {es : List Expr} {cs : List Str} {acc bs : List Bool} {rest : List Stmt} {R : Str}
    (e1 : (asgN "some" st).bind (addL "some") = some es) (e2 : kinRow X.env.scope es = some cs) (e3 : kinBs X.K X.mg D cs = some bs) (hl : acc.length + bs.length ≤ 1000)
    (hr : PSs X rest (fun Dn σ H => KSt dd a (acc ++ bs) σ H ∧ KFin R Dn H)) : PSs X (st :: rest) (fun Dn σ H => KSt dd a acc σ H ∧ KFin R Dn H) := by
  obtain ⟨v, q1, q2⟩ := Option.bind_eq_some_iff.mp e1
  obtain ⟨p, pos, rfl⟩ := asgN_eq q1
  obtain ⟨p1, p2, p3, rfl⟩ := addL_eq q2
  have hN : X.N[1]? = some ("some" : Str) := by rw [k.N]; rfl
  refine PSs.conseq (pss_cons (ps_set k.nd hN (locN hs) (pe_op op_cat (pe_var (pos := p1) hN (.inl hs)) (pe_lst (k.row hv e2 e3))) (hf := .inr hs)) hr) fun Dn σ H h => ?_
  obtain ⟨⟨hl5, h0, l, h1, hL, hdd⟩, hf⟩ := h
  refine ⟨.ref l, h1, h0, hdd, ?_, fun q hq => ?_⟩
  · rw [List.length_map]; exact Nat.le_trans (by omega) (show 1000 ≤ sizeLine by decide)
  · have hlq : l ≠ q := fun z => by rw [z, hq] at hL; cases hL
    refine ⟨l, q, acc.map V.bl, bs.map V.bl, rfl, rfl, by rw [upd_ne hlq]; exact hL, by rw [upd_same], ?_, fun r hr => ?_⟩
    · rw [List.length_map, List.length_map]; exact Nat.le_trans hl (by decide)
    · refine ⟨⟨by rw [List.length_set]; exact hl5, ?_, r, ?_, ?_, hdd.sub ((HSub.upd hq).trans (HSub.upd hr))⟩, hf.sub ((HSub.upd hq).trans (HSub.upd hr))⟩
      · rw [List.getElem?_set_ne (by decide)]; exact h0
      · rw [List.getElem?_set_self (by omega)]
      · rw [upd_same, List.map_append]
/-- labels = text.split(sep) -/
theorem KinX.st3 (k : KinX X D a dd) (hs : X.env.scope.names.lookup ("labels" : Str) = some .local) {st : Stmt} {e : Expr} {txt sep : Str} {acc : List Bool} {rest : List Stmt} {R : Str}
    (e1 : (asgN "labels" st).bind (mth "split") = some (txt, e)) (e2 : constE e = some (.str sep)) (hsep : (sep.length == 0) = false) (htx : txt.length + 2 ≤ sizeLine)
    (hr : PSs X rest (fun Dn σ H => (KSt dd a acc σ H ∧ ∃ q, σ[2]? = some (some (.ref q)) ∧ H q = some (.lst ((Txt.split txt sep).map V.str))) ∧ KFin R Dn H)) : PSs X (st :: rest) (fun Dn σ H => KSt dd a acc σ H ∧ KFin R Dn H) := by
  obtain ⟨v, q1, q2⟩ := Option.bind_eq_some_iff.mp e1
  obtain ⟨p, pos, rfl⟩ := asgN_eq q1
  obtain ⟨j, p1, ap, p2, rfl, hl⟩ := mth_eq q2
  obtain ⟨j2, p3, rfl⟩ := constE_eq e2
  have hN : X.N[2]? = some ("labels" : Str) := by rw [k.N]; rfl
  refine PSs.conseq (pss_cons (ps_set k.nd hN (locN hs) (pe_split pe_str pe_str (hline := hl)) (hf := .inr hs)) hr) fun Dn σ H h => ?_
  obtain ⟨⟨hl5, h0, l, h1, hL, hdd⟩, hf⟩ := h
  refine ⟨⟨txt, rfl⟩, txt, sep, rfl, rfl, hsep, htx, fun q hq => ?_⟩
  have hlq : l ≠ q := fun z => by rw [z, hq] at hL; cases hL
  refine ⟨⟨⟨by rw [List.length_set]; exact hl5, ?_, l, ?_, by rw [upd_ne hlq]; exact hL, hdd.sub (HSub.upd hq)⟩, q, ?_, by rw [upd_same]⟩, hf.sub (HSub.upd hq)⟩
  · rw [List.getElem?_set_ne (by decide)]; exact h0
  · rw [List.getElem?_set_ne (by decide)]; exact h1
  · rw [List.getElem?_set_self (by omega)]
end
end LT
set_option Elab.async false
set_option linter.all false
set_option maxRecDepth 100000
set_option maxHeartbeats 8000000
/-! Own layer, part K5: _law_kin's last row. -/
namespace LT
open PySem PySem.Spec PyProof.Rows L2 LamX NdefX HotX L2H
section
variable {X : Cx} {D a : Addr} {dd : Option Addr}
theorem blk_raw {C : CC} (hN : X.N = C.N) (hs : X.env.scope = C.sc) {scope : Scope} {own : List Nat} (h : blkB C scope own = true) : BlkOk X.N X.env.scope scope (ownOf C.N own) ∧ (ownOf C.N own).map (·.2) = own := by
  unfold blkB at h
  simp only [Bool.and_eq_true, List.all_eq_true, decide_eq_true_eq, Bool.or_eq_true, Bool.not_eq_true', decide_eq_false_iff_not] at h
  obtain ⟨⟨⟨⟨h1, h2⟩, h3⟩, h4⟩, h5⟩ := h
  refine ⟨⟨h1, h2, fun p hp => ?_, fun y hy e => ?_, fun y hy e => ?_⟩, h3⟩
  · unfold ownOf at hp
    obtain ⟨i, _, hi⟩ := List.mem_filterMap.mp hp
    simp only [Option.map_eq_some_iff] at hi
    obtain ⟨x, hx, rfl⟩ := hi
    rw [hN]; exact hx
  · rw [hs]
    rcases h4 y hy with (z | z) | z
    · exact absurd e z
    · exact .inl z
    · exact .inr z
  · rcases h5 y hy with (z | z) | z
    · simp only [Bool.or_eq_false_iff, decide_eq_false_iff_not] at z
      rcases e with e | e
      · exact absurd e z.1
      · exact absurd e z.2
    · exact .inl (List.contains_iff_mem.mp z)
    · refine .inr fun m => ?_
      rw [hN] at m
      rw [List.contains_iff_mem.mpr m] at z; cases z
theorem keptL_snoc : ∀ {ls : List Str} {bs : List Bool} {i : Nat} {l : Str} {b : Bool}, ls[i]? = some l → bs[i]? = some b → keptL (ls.take (i + 1)) (bs.take (i + 1)) = keptL (ls.take i) (bs.take i) ++ (if b then [l] else [])
  | [], _, _, _, _, h, _ => by simp at h
  | _ :: _, [], _, _, _, _, h => by simp at h
  | l' :: ls, b' :: bs, 0, l, b, h1, h2 => by
    simp only [List.getElem?_cons_zero, Option.some.injEq] at h1 h2
    subst h1 h2
    simp [keptL]
  | l' :: ls, b' :: bs, i + 1, l, b, h1, h2 => by
    simp only [List.getElem?_cons_succ] at h1 h2
    have ih := keptL_snoc h1 h2
    simp only [List.take_succ_cons, keptL] at ih ⊢
    split
    · rw [ih, List.cons_append]
    · exact ih
theorem keptL_len : ∀ (ls : List Str) (bs : List Bool), (keptL ls bs).length ≤ ls.length
  | [], bs => by cases bs <;> simp [keptL]
  | l :: ls, [] => by simp [keptL]
  | l :: ls, b :: bs => by
    have := keptL_len ls bs
    simp only [keptL]
    split <;> simp <;> omega
theorem keptL_sum : ∀ (ls : List Str) (bs : List Bool), ((keptL ls bs).map (·.length)).sum ≤ (ls.map (·.length)).sum
  | [], bs => by cases bs <;> simp [keptL]
  | l :: ls, [] => by simp [keptL]
  | l :: ls, b :: bs => by
    have := keptL_sum ls bs
    simp only [keptL]
    split <;> simp <;> omega
/-- the block over zip -/
theorem kin_tLc {ls : List Str} {bs : List Bool} {l q : Addr} {σ : L2.St} {H : Hp} {Q : VK} (h5 : σ.length = 5) (h1 : σ[1]? = some (some (.ref l))) (hL : H l = some (.lst (bs.map V.bl))) (h2 : σ[2]? = some (some (.ref q))) (hq : H q = some (.lst (ls.map V.str))) (hl : ls.length = bs.length) (hz : ls.length ≤ 1000)
    (hQ : ∀ p H', HSub H H' → H' p = some (.lst ((keptL ls bs).map V.str)) → Q (.ref p) H') :
    tLc (iZipE X.K (tCons (tVar 2) (tCons (tVar 1) tNil))) (gTup X.K 2 (gCons (gName 3) (gCons (gName 4) gNil))) (tB (tVar 4)) (tVar 3) [3, 4] σ H Q := by
  refine ⟨.ref q, h2, .ref l, h1, q, l, ls.map V.str, bs.map V.bl, rfl, .inl (.inl hq), .inl (.inl hL), fun Dn hD => ?_⟩
  have hqD : q ≠ Dn := fun z => by rw [z, hD] at hq; cases hq
  have hlD : l ≠ Dn := fun z => by rw [z, hD] at hL; cases hL
  refine ⟨fun i m H' => m = ls.length - i ∧ i ≤ ls.length ∧ H' Dn = some (.lst ((keptL (ls.take i) (bs.take i)).map V.str)) ∧ HSub H H', ⟨_, rfl, Nat.zero_le _, by rw [upd_same]; simp [keptL], HSub.upd hD⟩, ?_⟩
  rintro i m H1 ⟨rfl, hi, hk, hs⟩
  have sq : SqL X.K H1 q (ls.map V.str) := .inl (.inl (hs _ _ hq))
  have sl : SqL X.K H1 l (bs.map V.bl) := .inl (.inl (hs _ _ hL))
  by_cases c : i < ls.length
  · have e1 : ls[i]? = some ls[i] := List.getElem?_eq_getElem c
    have c2 : i < bs.length := by omega
    have e2 : bs[i]? = some bs[i] := List.getElem?_eq_getElem c2
    have e1' : (ls.map V.str)[i]? = some (.str ls[i]) := by rw [List.getElem?_map, e1]; rfl
    have e2' : (bs.map V.bl)[i]? = some (.bl bs[i]) := by rw [List.getElem?_map, e2]; rfl
    refine .inr ⟨⟨_, _, _, _, sq, sl, e1', e2'⟩, fun H' => H' Dn = some (.lst ((keptL (ls.take (i + 1)) (bs.take (i + 1))).map V.str)) ∧ HSub H H', fun H' ⟨n1, n2⟩ => ⟨ls.length - (i + 1), by omega, rfl, c, n1, n2⟩, fun x H2 y => ?_⟩
    obtain ⟨T, x', y', rfl, hT, rfl, f1, f2⟩ := y
    have ex := f1 _ sq
    have ey := f2 _ sl
    rw [e1'] at ex
    rw [e2'] at ey
    simp only [Option.some.injEq] at ex ey
    subst ex ey
    have hT2 : Dn ≠ T := fun z => by rw [z, hT] at hk; cases hk
    have s2 : HSub H (upd H1 T (.tup [.str ls[i], .bl bs[i]])) := hs.trans (HSub.upd hT)
    refine ⟨T, [.str ls[i], .bl bs[i]], rfl, .inl (.inl upd_same), rfl, .str ls[i], [.bl bs[i]], rfl, .bl bs[i], [], rfl, rfl, ?_, ?_⟩
    · rw [wipe_set (by simp), wipe_set (by simp), wipe_wipe]
    · have w5 : (wipe σ [3, 4]).length = 5 := by rw [wipe_length]; exact h5
      refine ⟨.bl bs[i], by rw [List.getElem?_set_self (by rw [List.length_set]; omega)], bs[i], rfl, ?_⟩
      have hks := keptL_snoc e1 e2
      dsimp only
      split
      · rename_i cb
        rw [cb] at hks
        refine ⟨.str ls[i], by rw [List.getElem?_set_ne (by decide), List.getElem?_set_self (by omega)], _, by rw [upd_ne hT2]; exact hk, ?_, ?_, ?_⟩
        · rw [List.length_map]
          have := keptL_len (ls.take i) (bs.take i)
          rw [List.length_take] at this
          exact Nat.lt_of_le_of_lt (show _ ≤ 1000 by omega) (by decide)
        · rw [upd_same, hks]
          simp
        · intro b o e
          have hb : b ≠ Dn := fun z => by rw [z, hD] at e; cases e
          rw [upd_ne hb]
          exact s2 _ _ e
      · rename_i cb
        have cb : bs[i] = false := by simpa using cb
        rw [cb] at hks
        refine ⟨?_, s2⟩
        rw [upd_ne hT2, hks, hk]
        simp
  · have ei : i = ls.length := by omega
    subst ei
    refine .inl ⟨⟨_, _, sq, sl, by rw [List.length_map]; exact Nat.le_refl _⟩, hQ Dn H1 hs ?_⟩
    rw [hk, List.take_length, hl, List.take_length]
theorem relS_blk {H : Hp} {sh : Shared} {s : Scope} {cl : List (Str × Addr)} {C : Addr} {fp : List Addr} : (X.blk sh H s (compEnvC s cl C X.env) fp).env.scope = relS s X.env.scope := rfl
theorem KinX.st4 (k : KinX X D a dd) (hl0 : X.env.scope.names.lookup ("labels" : Str) = some .local) (hs0 : X.env.scope.names.lookup ("some" : Str) = some .local) {st : Stmt} {v lc : Expr} {jn : Str} {acc : List Bool} {ls : List Str}
    (e1 : (retS st).bind id = some v) (e2 : mth "join" v = some (jn, lc)) (e3 : kinLc X.env.scope lc = true) (hl : ls.length = acc.length) (hz : ls.length ≤ 1000) (hsum : (ls.map (·.length)).sum + ls.length * jn.length ≤ 16777216) :
    PSs X [st] (fun Dn σ H => (KSt dd a acc σ H ∧ ∃ q, σ[2]? = some (some (.ref q)) ∧ H q = some (.lst (ls.map V.str))) ∧ KFin (Txt.join jn (keptL ls acc)) Dn H) := by
  obtain ⟨o, q1, q2⟩ := Option.bind_eq_some_iff.mp e1
  obtain ⟨pos, rfl⟩ := retS_eq q1
  cases q2
  obtain ⟨j, p1, ap, p2, rfl, hln⟩ := mth_eq e2
  unfold kinLc at e3
  cases qc : lcE lc with
  | none => rw [qc] at e3; cases e3
  | some t =>
    obtain ⟨elt, tg, iter, ifs, s, lp⟩ := t
    rw [qc] at e3
    have := lcE_eq qc
    subst this
    dsimp only at e3
    cases qe : nameE elt with
    | none => rw [qe] at e3; cases e3
    | some l => cases qt : tupE tg with
      | none => rw [qe, qt] at e3; cases e3
      | some ts => cases qi : callN iter with
        | none => rw [qe, qt, qi] at e3; revert e3; cases ts with | nil => intro e3; cases e3 | cons t1 ts => cases ts with | nil => intro e3; cases e3 | cons t2 ts => cases ts <;> intro e3 <;> cases e3
        | some za =>
          obtain ⟨z, as⟩ := za
          rw [qe, qt, qi] at e3
          obtain ⟨pe, rfl⟩ := nameE_eq qe
          obtain ⟨kt, pt, rfl⟩ := tupE_eq qt
          obtain ⟨pz, pc, rfl⟩ := callN_eq qi
          match ts, as, ifs, e3 with
          | [t1, t2], [a1, b1], [c1], e3 =>
            simp only [Bool.and_eq_true, decide_eq_true_eq] at e3
            obtain ⟨⟨⟨⟨⟨⟨⟨⟨⟨⟨rfl, n1⟩, n2⟩, rfl⟩, gz⟩, n3⟩, n4⟩, n5⟩, bk⟩, r1⟩, r2⟩ := e3
            obtain ⟨x1, rfl⟩ := nameE_eq n1
            obtain ⟨x2, rfl⟩ := nameE_eq n2
            obtain ⟨x3, rfl⟩ := nameE_eq n3
            obtain ⟨x4, rfl⟩ := nameE_eq n4
            obtain ⟨x5, rfl⟩ := nameE_eq n5
            have hN1 : X.N[1]? = some ("some" : Str) := by rw [k.N]; rfl
            have hN2 : X.N[2]? = some ("labels" : Str) := by rw [k.N]; rfl
            have hN3 : X.N[3]? = some ("label" : Str) := by rw [k.N]; rfl
            have hN4 : X.N[4]? = some ("good" : Str) := by rw [k.N]; rfl
            obtain ⟨gz, _⟩ := glB_ok (X := X) gz rfl
            obtain ⟨bk1, bk2⟩ := blk_raw (X := X) (C := ⟨kinN, X.env.scope, fun _ => true, false, [], fun _ _ _ _ _ => false⟩) k.N rfl bk
            have zi := pix_zip (p := pz) (pos := pc) (tpos := pt) (elts := [.Name "label" x1, .Name "good" x2]) (kk := kt) gz k.zip (pa_cons (pe_var (pos := x3) hN2 (.inl hl0)) (pa_cons (pe_var (pos := x4) hN1 (.inl hs0)) pa_nil))
            have lcx := pe_lcX (g := gTup X.K 2 (gCons (gName 3) (gCons (gName 4) gNil))) (tt := tB (tVar 4)) (te := tVar 3) (elt := .Name "label" pe) (ifs := [.Name "good" x5]) (pos := lp) k.hot k.nd zi bk1
              (fun sh H C cl fp hot => pg_tupX (t := gCons (gName 3) (gCons (gName 4) gNil)) (pos := pt) (k := kt) (n := 2) hot (pgs_cons (pg_name k.nd hN3 (.inl (by rw [relS_blk]; exact r1)) (.inr (by rw [relS_blk]; exact r1))) (pgs_cons (pg_name k.nd hN4 (.inl (by rw [relS_blk]; exact r2)) (.inr (by rw [relS_blk]; exact r2))) pgs_nil)) rfl rfl)
              (fun sh H C cl fp => pts_one (pt_val (pe_var (pos := x5) hN4 (.inl (by rw [relS_blk]; exact r2))) (plain_t rfl _)))
              (fun sh H C cl fp => pe_var (pos := pe) hN3 (.inl (by rw [relS_blk]; exact r1))) (noSet rfl _)
            rw [bk2] at lcx
            refine PSs.conseq (pss_one (ps_ret (pe_join pe_str lcx (hline := hln)))) fun Dn σ H h => ?_
            obtain ⟨⟨⟨h5, h0, l, h1, hL, _⟩, q, h2, hq⟩, hf⟩ := h
            refine ⟨⟨jn, rfl⟩, kin_tLc h5 h1 hL h2 hq hl hz fun p H' s' hp => ⟨jn, p, keptL ls acc, rfl, rfl, .inl (.inl (.inl hp)), ?_, hf H' s'⟩⟩
            have b1 := keptL_len ls acc
            have b2 := keptL_sum ls acc
            have b3 : (keptL ls acc).length * jn.length ≤ ls.length * jn.length := Nat.mul_le_mul_right _ b1
            omega
end
end LT
set_option Elab.async false
set_option linter.all false
set_option maxRecDepth 100000
set_option maxHeartbeats 8000000
/-! Own layer, part K6: _law_kin(e) in a suite. -/
namespace LT
open PySem PySem.Spec PyProof.Rows L2 LamX NdefX HotX L2H
/-- a def called while p's exception is handled -/
theorem run_hot {CX : CXT} {P : Program} {w : World} {K : PySem.W.Frag} {mg : Str → Option Value} {base : Heap} {k : Nat} {f : Addr} {name qual : Str} {params : Arguments} {body : List Stmt} {scope : Scope} {dV kV doc pm cdv ct oc : Value} {an od : Option Addr}
    {osl : Array (Option Value)} {N ps : List Str} {A : Around} {outer : List Env} {s : Shared} {H : Hp} {args : Args} {us : List Value} {vs : List V} {Q : VK} {E : XK} {p : Addr × Obj} (lk : K.lookup f = some ⟨oc, od, .func (PySem.W.fnOf name qual params body scope dV kV doc pm an cdv ct), osl⟩) (hcd : PySem.W.codeIn K cdv qual = true) (S : FnScope N ps scope)
    (hr : RoomH (k + 1) A) (hpin : PinOk outer H s p) (e0 : Env0 P w K mg base A outer s H) (hb : BindsTo s (PySem.W.fnOf name qual params body scope dV kV doc pm an cdv ct) args (ps.zip us)) (r : Vals vs us) (hl : vs.length = ps.length)
    (hbody : ∃ t, PSs (cxH CX P w K mg base N qual scope f cdv A outer s H E p) body t ∧ t { nx := fun _ H' => Q .non H', rt := Q } (L2.start N vs) H) :
    codeAny (model P w) A (.call (.ref f) args) (CR CX outer P w H s Q E) s := by
  have KX : K.In s.heap := e0.mod.kin.keeps fun b o e => (e0.bs b o e).1
  have lim : s.heap.NoLimit := e0.mod.nolimit.keeps fun b o e => (e0.bs b o e).1
  have hkind : ∀ y ∈ ps.zip us, scope.names.lookup y.1 = some .local ∨ (scope.names.lookup y.1 = some .cell ∧ ((cellsFrom (s.heap.objs.size + 1) scope.names []).lookup y.1).isSome = true) := fun ⟨n, v⟩ hy => by
    rcases S.par n (List.of_mem_zip hy).1 with q | q
    · exact .inl q
    · exact .inr ⟨q, PySem.W.cellsFrom_some _ _ _ (.inl q)⟩
  refine codeAny_call_function hr.depth (KX _ _ lk) rfl S.co S.gen rfl (PySem.W.codeRec_of KX hcd) (hb _ _ _ _ ?_)
  refine wpAny_newFunctionEnv_cells S.kind hkind fun env he s1 x => ?_
  subst he
  refine ⟨lim.keeps x.toInCall.keep, codeAny_func ?_⟩
  obtain ⟨t, ht, hq⟩ := hbody
  have I : Inv (cxH CX P w K mg base N qual scope f cdv A outer s H E p) [] (L2.start N vs) H s1 := inv_startH S hpin e0 hl r x
  refine wpAny_mono (ht.run [] s1 (L2.start N vs) H _ I hq) (fun fl s' hs => ?_) fun e s' hs => hs
  have fin : ∀ {σ' : L2.St} {H' : Hp} {v : V} {u : Value}, Inv (cxH CX P w K mg base N qual scope f cdv A outer s H E p) [] σ' H' s' → RelV v u → Q v H' → CE outer P w H s Q u s' :=
    fun {σ' H' v u} J rv q => ⟨v, H', J.os, J.bare, J.base, J.hok, rv, q⟩
  cases fl with
  | ret u =>
    obtain ⟨v, σ', H', J, rv, q⟩ := hs
    exact fin J rv q
  | next =>
    obtain ⟨σ', H', J, q⟩ := hs
    exact fin (v := V.non) (u := Value.none) J rfl q
  | brk =>
    obtain ⟨_, _, _, q⟩ := hs
    exact False.elim q
  | cont =>
    obtain ⟨_, _, _, q⟩ := hs
    exact False.elim q
/-- .. of the class at D -/
def kinOf (K : PySem.W.Frag) (mg : Str → Option Value) (css : List (List Str)) (txt sep jn : Str) (D : Addr) : Option Str :=
  match kinBs K mg D css.flatten with
  | some bs => if (Txt.split txt sep).length = bs.length then some (Txt.join jn (keptL (Txt.split txt sep) bs)) else none
  | none => none
theorem kinBs_app {K : PySem.W.Frag} {mg : Str → Option Value} {D : Addr} : ∀ {xs ys : List Str} {bs : List Bool}, kinBs K mg D (xs ++ ys) = some bs → ∃ b1 b2, kinBs K mg D xs = some b1 ∧ kinBs K mg D ys = some b2 ∧ bs = b1 ++ b2
  | [], ys, bs, h => ⟨[], bs, rfl, h, rfl⟩
  | x :: xs, ys, bs, h => by
    rw [List.cons_append] at h
    unfold kinBs at h
    cases q1 : kinF K mg D x with
    | none => rw [q1] at h; cases h
    | some b => cases q2 : kinBs K mg D (xs ++ ys) with
      | none => rw [q1, q2] at h; cases h
      | some r =>
        rw [q1, q2] at h
        simp only [Option.some.injEq] at h
        subst h
        obtain ⟨b1, b2, h1, h2, rfl⟩ := kinBs_app q2
        refine ⟨b :: b1, b2, ?_, h2, rfl⟩
        unfold kinBs
        rw [q1, h1]
/-- its body -/
theorem kin_body {X : Cx} {D a : Addr} {dd : Option Addr} {body : List Stmt} {css : List (List Str)} {txt sep jn R : Str} (k : KinX X D a dd) (hp : kinP X.env.scope body = some (css, txt, sep, jn)) (hR : kinOf X.K X.mg css txt sep jn D = some R) (hsep : (sep.length == 0) = false) (htx : txt.length ≤ 1000) (hjn : jn.length ≤ 100)
    (h100 : (Txt.split txt sep).length ≤ 100) (hsum : ((Txt.split txt sep).map (·.length)).sum ≤ 1000) :
    PSs X body (fun Dn σ H => (σ.length = 5 ∧ σ[0]? = some (some (.ref a)) ∧ DdOk dd H) ∧ KFin R Dn H) := by
  unfold kinP at hp
  match body, hp with
  | [s1, s2, s3, s4, s5, s6, s7], hp =>
    simp only [Option.bind_eq_bind, Option.bind_eq_some_iff] at hp
    obtain ⟨r1, a1, r2, a2, r3, a3, r4, a4, r5, a5, c1, b1, c2, b2, c3, b3, c4, b4, c5, b5, ⟨t0, sp⟩, a6, v, a7, ⟨j0, lc⟩, a8, sep0, a9, hp⟩ := hp
    split at hp
    · rename_i cc
      simp only [Bool.and_eq_true, decide_eq_true_eq] at cc
      obtain ⟨⟨⟨g1, g2⟩, g3⟩, g4⟩ := cc
      simp only [Option.some.injEq, Prod.mk.injEq] at hp
      obtain ⟨rfl, rfl, rfl, rfl⟩ := hp
      obtain ⟨cst, q9, q10⟩ := a9
      have a9 : constE sp = some (.str sep0) := by
        cases cst <;> first | (cases q10; done) | skip
        cases q10
        exact q9
      unfold kinOf at hR
      cases qb : kinBs X.K X.mg D [c1, c2, c3, c4, c5].flatten with
      | none => rw [qb] at hR; cases hR
      | some bs =>
        rw [qb] at hR
        dsimp only at hR
        split at hR
        · rename_i hl
          cases hR
          simp only [List.flatten_cons, List.flatten_nil, List.append_nil] at qb
          obtain ⟨x1, y1, e1, qb1, h1⟩ := kinBs_app qb
          obtain ⟨x2, y2, e2, qb2, h2⟩ := kinBs_app qb1
          obtain ⟨x3, y3, e3, qb3, h3⟩ := kinBs_app qb2
          obtain ⟨x4, x5, e4, e5, h4⟩ := kinBs_app qb3
          subst h4
          subst h3
          subst h2
          subst h1
          simp only [List.length_append] at hl
          have m2 := Option.bind_eq_some_iff.mpr a2
          have m3 := Option.bind_eq_some_iff.mpr a3
          have m4 := Option.bind_eq_some_iff.mpr a4
          have m5 := Option.bind_eq_some_iff.mpr a5
          have f4 := k.st4 (ls := Txt.split t0 sep0) (acc := x1 ++ x2 ++ x3 ++ x4 ++ x5) g3 g2 (Option.bind_eq_some_iff.mpr a7) a8 g1 (by simp only [List.length_append]; omega) (by omega) (Nat.le_trans (Nat.add_le_add hsum (Nat.mul_le_mul h100 hjn)) (by decide))
          have f3 := k.st3 g3 (Option.bind_eq_some_iff.mpr a6) a9 hsep (Nat.le_trans (Nat.add_le_add_right htx 2) (by decide)) f4
          have e5' := k.st2 (acc := x1 ++ x2 ++ x3 ++ x4) g4 g2 m5 b5 e5 (by simp only [List.length_append]; omega) f3
          have e4' := k.st2 (acc := x1 ++ x2 ++ x3) g4 g2 m4 b4 e4 (by simp only [List.length_append]; omega) e5'
          have e3' := k.st2 (acc := x1 ++ x2) g4 g2 m3 b3 e3 (by simp only [List.length_append]; omega) e4'
          have e2' := k.st2 (acc := x1) g4 g2 m2 b2 e2 (by omega) e3'
          have fin := k.st1 g4 g2 (Option.bind_eq_some_iff.mpr a1) b1 e1 (by omega) e2'
          simpa only [List.append_assoc] using fin
        · cases hR
    · cases hp
end LT
set_option Elab.async false
set_option linter.all false
set_option maxRecDepth 100000
set_option maxHeartbeats 8000000
/-! Own layer, part K7: try, the suite `return (None, _law_kin(e))`. -/
namespace LT
open PySem PySem.Spec PyProof.Rows L2 LamX NdefX HotX L2H
/-! ### the syntax -/
def tryE : Stmt → Option (List Stmt × Str × Str × List Stmt)
  | .Try body [.ExceptHandler (some (.Name x _)) (some n) suite _] [] [] _ => some (body, x, n, suite)
  | _ => none
theorem tryE_eq {st : Stmt} {body suite : List Stmt} {x n : Str} (h : tryE st = some (body, x, n, suite)) : ∃ np pos pos', st = .Try body [.ExceptHandler (some (.Name x np)) (some n) suite pos'] [] [] pos := by
  unfold tryE at h
  split at h
  · cases h; exact ⟨_, _, _, rfl⟩
  · cases h
/-- return (None, _law_kin(e)) -/
def kinCall (C : CC) (n : Str) (b : Expr) : Bool := match callN b with
  | some (f, [x]) => decide (f = ("_law_kin" : Str)) && C.gl f && decide (nameE x = some n)
  | _ => false
theorem kinCall_eq {C : CC} {n : Str} {b : Expr} (h : kinCall C n b = true) : C.gl "_law_kin" = true ∧ ∃ p p2 pos, b = .Call (.Name "_law_kin" p) [.Name n p2] [] pos := by
  unfold kinCall at h
  split at h
  · rename_i f x q
    simp only [Bool.and_eq_true, decide_eq_true_eq] at h
    obtain ⟨⟨rfl, g⟩, nx⟩ := h
    obtain ⟨p, pos, rfl⟩ := callN_eq q
    obtain ⟨p2, rfl⟩ := nameE_eq nx
    exact ⟨g, p, p2, pos, rfl⟩
  · cases h
def isNoneE (a : Expr) : Bool := match constE a with
  | some .none => true
  | _ => false
theorem isNoneE_eq {a : Expr} (h : isNoneE a = true) : ∃ j p, a = .Constant .none j p := by
  unfold isNoneE at h
  split at h
  · rename_i q
    exact constE_eq q
  · cases h
def kinPair (C : CC) (n : Str) (v : Expr) : Bool := match tupE v with
  | some [a, b] => isNoneE a && kinCall C n b
  | _ => false
def kinSu (C : CC) (n : Str) (r : Stmt) : Bool := match retS r with
  | some (some v) => kinPair C n v
  | _ => false
theorem kinSu_eq {C : CC} {n : Str} {r : Stmt} (h : kinSu C n r = true) : C.gl "_law_kin" = true ∧ ∃ jc pc pf p2 pcl kt pt rp, r = .Return (some (.Tuple [.Constant .none jc pc, .Call (.Name "_law_kin" pf) [.Name n p2] [] pcl] kt pt)) rp := by
  unfold kinSu at h
  split at h
  · rename_i v q
    obtain ⟨rp, rfl⟩ := retS_eq q
    unfold kinPair at h
    split at h
    · rename_i a b q2
      obtain ⟨kt, pt, rfl⟩ := tupE_eq q2
      rw [Bool.and_eq_true] at h
      obtain ⟨jc, pc, rfl⟩ := isNoneE_eq h.1
      obtain ⟨g, p, p2, pos, rfl⟩ := kinCall_eq h.2
      exact ⟨g, jc, pc, p, p2, pos, kt, pt, rp, rfl⟩
    · cases h
  · cases h
def suB (C : CC) (n : Str) : Su → List Stmt → Bool
  | .kin, [r] => kinSu C n r
  | _, _ => false
def tcK (cs : Str → Bool) : TryC := fun C cls i su st => match tryE st with
  | some (body, x, n, suite) => if (decide (x = cls) && cs cls && C.gl x && decide (C.N[i]? = some n) && decide (C.sc.names.lookup n = some .local) && okN n && suB C n su suite) = true then some body else none
  | none => none
/-- what the text says of _law_kin -/
structure KinFn (K : PySem.W.Frag) (mg : Str → Option Value) (st : Stmt) (css : List (List Str)) (txt sep jn : Str) : Prop where
  ex : ∃ (f : Addr) (fdv : FuncData), C8.Def K mg "_law_kin" st f fdv ∧ Binds K fdv ["e"] []
  sc : C8.scC kinN ["e"] (C8.fnScope st) = true
  kp : kinP (C8.fnScope st) (C8.fnBody st) = some (css, txt, sep, jn)
  sep0 : (sep.length == 0) = false
  b1 : txt.length ≤ 1000
  b2 : jn.length ≤ 100
  b3 : (Txt.split txt sep).length ≤ 100
  b4 : ((Txt.split txt sep).map (·.length)).sum ≤ 1000
  isi : mg "isinstance" = none
  zip : mg "zip" = none
theorem tkin_room {k : Nat} {A : Around} {v : Option Value} (r : Room (k + 1) A) : RoomH 1 (A.mark v) := ⟨by have := r.dp; show A.depth + 3 * 1 + 5 < _; omega, by have := r.un; show A.units + 16 * 1 + 200 < _; omega⟩
/-- _law_kin(e) in its suite -/
theorem pe_kin {X : Cx} {st : Stmt} {css : List (List Str)} {txt sep jn R n : Str} {a D : Addr} {oe : Obj} {d : Option Addr} {pn : List (Addr × Obj)} {i : Nat} {q p pos : Pos} {k : Nat} (KF : KinFn X.K X.mg st css txt sep jn) (hz : L2N.Zn (.ref D) d oe) (hd : ∃ vs, oe.data = .fields vs) (ec : ExcC X.K D) (hR : kinOf X.K X.mg css txt sep jn D = some R)
    (rm : Room (k + 1) X.A) (hg : Gl X "_law_kin") (hN : X.N[i]? = some n) (hv : X.env.scope.names.lookup n = some .local) (hdb : (n == ("__debug__" : Str)) = false) (hcd : (n == ("__classdict__" : Str)) = false) :
    PE (X.suite a ((a, oe) :: pn)) (.Call (.Name "_law_kin" q) [.Name n p] [] pos) (fun σ H Q => σ[i]? = some (some (.ref a)) ∧ DdOk d H ∧ ∀ H', HSub H H' → Q (.str R) H') := by
  obtain ⟨f, fdv, Df, hb⟩ := KF.ex
  obtain ⟨oc, od, dV, kV, doc, pm, an, cdv, ct, osl, rfl, lk, hcd2⟩ := Df.fn.ex
  have SC := C8.fnScope_by KF.sc
  refine ⟨fun pins s σ H Q I h => ?_⟩
  obtain ⟨h0, hdd, h⟩ := h
  have hg' : Gl (X.suite a ((a, oe) :: pn)) "_law_kin" := hg
  refine wpAny_Call_Name_kw (ld_glob I hg' Df.mgf ?_ (by decide))
  have ha : PA (X.suite a ((a, oe) :: pn)) [.Name n p] (tCons (tVar i) tNil) := pa_cons (pe_var (pos := p) hN (.inl hv) hdb hcd) pa_nil
  refine PySem.W.callWith_K (h₀ := X.base) I.ok.mod.kin Df.kp (thn (ha.run pos pins s σ H (fun vs H1 => vs = [.ref a] ∧ H1 = H) I ⟨.ref a, h0, rfl, rfl⟩) fun us s1 ⟨vs, H1, I1, r, ev, eH⟩ => ⟨I1.kIn, ?_⟩) rfl rfl
  subst ev eH
  have hot : Hot1 (X.suite a ((a, oe) :: pn)).A (a, oe) := by
    obtain ⟨vs, hv⟩ := hd
    exact ⟨rfl, vs, hv, hz.2.2 vs hv⟩
  have hp : (a, oe) ∈ (X.suite a ((a, oe) :: pn)).pn := List.mem_cons_self
  have hl : us.length = 1 := by rw [← r.length]; rfl
  have b := hb s1 us I1.kIn (by rw [List.append_nil]; exact hl)
  rw [List.append_nil] at b
  have P1 := I1.pin (a, oe) (List.mem_append_left _ hp)
  have hpin : PinOk (X.suite a ((a, oe) :: pn)).stack H1 s1 (a, oe) := ⟨P1.1, P1.2.1, fun hm => (List.mem_cons.mp (I1.stkSub a hm)).elim P1.2.2.1 P1.2.2.2.1, P1.2.2.2.2⟩
  refine wpAny_call (codeAny_mono (run_hot (CX := fun _ _ _ _ _ _ => False) (E := fun _ _ _ => False) (Q := Q) (vs := [.ref a]) (k := 0) lk hcd2 SC (tkin_room rm) hpin I1.env0 b r rfl ?_) fun r s' hq => ?_)
  · refine ⟨_, kin_body (D := D) (a := a) (dd := d) ?_ KF.kp hR KF.sep0 KF.b1 KF.b2 KF.b3 KF.b4, ⟨rfl, rfl, hdd⟩, fun H' hs => h H' hs⟩
    exact ⟨⟨(a, oe), hot, List.mem_cons_self⟩, rfl, ⟨oe, List.mem_cons_self, hz.zc, hd⟩, ec, KF.isi, KF.zip⟩
  · cases r with
    | error e => exact hq.elim
    | ok fl =>
      cases fl with
      | ret u => exact I1.after hq
      | next => exact False.elim hq
      | brk => exact False.elim hq
      | cont => exact False.elim hq
end LT
set_option Elab.async false
set_option linter.all false
set_option maxRecDepth 100000
set_option maxHeartbeats 8000000
/-! Own layer, part K8: try. -/
namespace LT
open PySem PySem.Spec PyProof.Rows L2 LamX NdefX HotX L2H
/-- what the table says of the classes of exceptions -/
structure ExFacts (G : GI) (Xc : Xcs) (cs : Str → Bool) (css : List (List Str)) (txt sep jn : Str) : Prop where
  one : ∀ x, (Xc.field x).isSome = true → ∀ C, G.mg x = some (.ref C) → ExcC G.K C ∧ kinOf G.K G.mg css txt sep jn C = some (Xc.kin x)
  two : ∀ y, cs y = true → ∃ L, G.mg y = some (.ref L) ∧ ∀ x, (Xc.field x).isSome = true → ∀ C, G.mg x = some (.ref C) → PySem.W.exmOne G.K (.ref C) (.ref L) = some (Xc.sub x y)
section
variable {la : Nat → Arguments → Expr → Scope → List Str → Prop} {T : List NTab} {oc : Nat → Option Addr} {W : WX} {F : Fns} {X : Cx} {k : Nat} {C : CC} {Xc : Xcs} {cs : Str → Bool} {css : List (List Str)} {txt sep jn : Str} {stK : Stmt}
theorem SatS.tr (s : SatS la T oc W F X k C) {W' : WX} {pn : List (Addr × Obj)} {xe : Value → Shared → Prop} (tk : L2N.Takes (X.tr pn xe) W') (po : PassesOwn (model X.prog X.w) X.A X.env xe) : SatS la T oc W' F (X.tr pn xe) k C :=
  { nd := s.nd, calm := s.calm, hu := s.hu, rm := s.rm, tk := tk, pl := s.pl, lm := s.lm, N := s.N, sc := s.sc, fnb := s.fnb, clm := s.clm, lmx := fun h => ⟨(s.lmx h).1, (s.lmx h).2, (s.lmx h).3⟩, lam := s.lam, pf := s.pf, po := po, stk := s.stk, frm := s.frm, rm1 := s.rm1 }
theorem suOut_kin {C : Xcs} {cls : Str} {i : Nat} {x : Exc} {env : Env'} {S : Sto} : suOut C .kin cls i (.exc x env S) = if (C.field x.cls).isNone then .bad else if C.sub x.cls cls then .rt (.tup [.non, .str (C.kin x.cls)]) S else .exc x env S := rfl
theorem try_kin (KF : KinFn X.K X.mg stK css txt sep jn) (EF : ExFacts (gX X la T) Xc cs css txt sep jn) {cls : Str} {i : Nat} {su : Su} {st : Stmt} {b : List Stmt} {m : Env' → Sto → RS} (s : SatS la T oc W F X k C) (h : tcK cs C cls i su st = some b)
    (hb : ∀ {W' : WX} {X' : Cx}, X'.env = X.env → X'.N = X.N → SatS la T oc W' F X' k C → gX X' la T = gX X la T → DB X' la T oc W' m b) : DS X la T oc W (fun env S => suOut Xc su cls i (m env S)) st := by
  unfold tcK at h
  cases q : tryE st with
  | none => rw [q] at h; cases h
  | some t =>
    obtain ⟨body, x, n, suite⟩ := t
    rw [q] at h
    obtain ⟨np, pos, pos', rfl⟩ := tryE_eq q
    dsimp only at h
    by_cases cc : (decide (x = cls) && cs cls && C.gl x && decide (C.N[i]? = some n) && decide (C.sc.names.lookup n = some .local) && okN n && suB C n su suite) = true
    · rw [if_pos cc] at h
      cases h
      simp only [Bool.and_eq_true, decide_eq_true_eq] at cc
      obtain ⟨⟨⟨⟨⟨⟨rfl, hcs⟩, gx⟩, hN⟩, hln⟩, hok⟩, hsu⟩ := cc
      cases su with
      | fld f => cases hsu
      | setFld j f => cases hsu
      | kin => cases suite with
        | nil => cases hsu
        | cons r suite => cases suite with
          | cons _ _ => cases hsu
          | nil =>
            obtain ⟨gf, jc, pc, pf, pn1, pcl, kt, pt, rp, rfl⟩ := kinSu_eq hsu
            obtain ⟨L, mL, two⟩ := EF.two x hcs
            have gx' := s.gl gx
            have gf' := s.gl gf
            have hN' : X.N[i]? = some n := by rw [s.N]; exact hN
            have hln' : X.env.scope.names.lookup n = some .local := by rw [s.sc]; exact hln
            have hv := okN_ok (x := n) hok
            refine PS.conseq (L2N.ps_try_as (c := .ref L) (tb := fun W' => sM (gX X la T) oc W' m) (ts := fun a cls d Dn σ H => ∃ D R, cls = .ref D ∧ ExcC X.K D ∧ kinOf X.K X.mg css txt sep jn D = some R ∧ DdOk d H ∧ (i < σ.length → σ[i]? = some (some (.ref a))) ∧ ∀ H', HSub H H' → BareQ H' Dn.rt [.non, .str R])
              s.stk s.frm s.nd hN' hln' ⟨gx'.1, gx'.2, .inl mL⟩ s.tk (fun W' pn xe tk po => ?_) (fun a oe cls d pn hz hd => ?_)) fun Dn σ H hh => ?_
            · exact hb rfl rfl (s.tr tk po) rfl
            · refine ⟨fun pins s' σ H Dn I hq => ?_⟩
              obtain ⟨D, R, rfl, ec, hR, hdd, h0, hq⟩ := hq
              have pk := pe_kin (a := a) (pn := pn) (q := pf) (p := pn1) (pos := pcl) KF hz hd ec hR s.rm1 gf'.1 hN' hln' hv.1 hv.2
              have ps : PSs (X.suite a ((a, oe) :: pn)) [.Return (some (.Tuple [.Constant .none jc pc, .Call (.Name "_law_kin" pf) [.Name n pn1] [] pcl] kt pt)) rp] _ := pss_one (ps_ret (pe_tupB (pa_cons pe_non (pa_cons pk pa_nil))))
              refine ps.run pins s' σ H Dn I ?_
              exact ⟨h0 (by rw [I.len]; exact (List.getElem?_eq_some_iff.mp hN').1), hdd, fun H' hs => ⟨show 2 ≤ sizeLine by decide, hq H' hs⟩⟩
            · obtain ⟨env, ρ, S, er, sr, hh⟩ := hh
              refine ⟨env, ρ, S, er, sr, ?_⟩
              dsimp only at hh
              cases qm : m env S with
              | exc y env' S' =>
                rw [qm] at hh
                intro c dd σ' H' ρ' e' s' er' xr
                obtain ⟨Ca, rfl, mC, xf⟩ := xr
                rw [suOut_kin] at hh
                by_cases cf : (Xc.field y.cls).isNone = true
                · rw [if_pos cf] at hh; exact hh.elim
                · rw [if_neg cf] at hh
                  have cf : (Xc.field y.cls).isSome = true := by cases z : Xc.field y.cls <;> simp_all
                  obtain ⟨ec, hR⟩ := EF.one y.cls cf Ca mC
                  refine ⟨Xc.sub y.cls x, two y.cls cf Ca mC, fun hy a na => ?_, fun hy => ?_⟩
                  · rw [if_pos hy] at hh
                    refine ⟨Ca, _, rfl, ec, hR, ?_, ?_, fun H2 hs p oo ho hp => ?_⟩
                    · intro d hd
                      cases z : y.fld with
                      | none => rw [z] at xf; rw [xf] at hd; cases hd
                      | some fn =>
                        obtain ⟨f0, n0⟩ := fn
                        rw [z] at xf
                        obtain ⟨d', e1, e2⟩ := xf
                        rw [e1] at hd
                        cases hd
                        exact ⟨_, e2⟩
                    · intro hl; rw [List.getElem?_set_self (by rw [List.length_set] at hl; exact hl)]
                    · have e2 := e'.trans (ext_of (ρ := ρ') hs)
                      have s2 := s'.grow hs
                      obtain ⟨e3, s3⟩ := new_fix (o := .frz oo (.tup [.non, .str (Xc.kin y.cls)])) s2 hp
                      exact hh _ _ _ (e2.trans e3) s3 (new_tup s2 hp (.cons (by simp only [Rep]) (.cons (by simp only [Rep]) .nil)) ho)
                  · rw [if_neg (by rw [hy]; exact Bool.false_ne_true)] at hh
                    exact hh (.ref Ca) dd σ' H' ρ' e' s' er' ⟨Ca, rfl, mC, xf⟩
              | nx env' S' => rw [qm] at hh; exact hh
              | rt d S' => rw [qm] at hh; exact hh
              | bk env' S' => rw [qm] at hh; exact hh
              | ct env' S' => rw [qm] at hh; exact hh
              | bad => rw [qm] at hh; exact hh
    · rw [if_neg cc] at h
      cases h
end
end LT
set_option Elab.async false
set_option linter.all false
set_option maxRecDepth 100000
set_option maxHeartbeats 8000000
/-! Own layer, part L: the program. -/
namespace LT
open PySem PySem.Spec PyProof.Rows L2 LamX NdefX
/-- what is known of a def -/
structure FnRow (K : PySem.W.Frag) (mg : Str → Option Value) (base : Heap) (T : List NTab) (xc : Str → Bool) (tc : TryC) (fns : List (Str × Nat)) (lamc : Nat → Arguments → Expr → Scope → List Str → Bool) (x : Str) (fd : Fd) : Prop where
  ex : ∃ (st : Stmt) (f : Addr) (fdv : FuncData) (N ps : List Str), C8.Def K mg x st f fdv ∧ Binds K fdv ps [] ∧ C8.scC N ps (C8.fnScope st) = true ∧ ps.length = fd.pars ∧ N.length = fd.slots ∧ (C8.fnScope st).names.all (fun y => decide ((C8.fnScope st).names.lookup y.1 = some y.2)) = true ∧
    chkB xc tc fd.body ⟨N, C8.fnScope st, fun _ => true, fd.lm, fns, lamc⟩ (C8.fnBody st) = true ∧
    (fd.lm = true → ∀ oc od osl dV kV doc pm an cdv ct, K.lookup f = some ⟨oc, od, .func (PySem.W.fnOf x x (C8.fnArgs st) (C8.fnBody st) (C8.fnScope st) dV kV doc pm an cdv ct), osl⟩ → LmFact K mg base T x cdv)
/-- the program's parameters -/
def Prog.sig (p : Prog) : List (Str × Nat) := p.fns.map fun y => (y.1, y.2.pars)
theorem sig_lookup : ∀ (l : List (Str × Fd)) (x : Str) (n : Nat), (l.map fun y => (y.1, y.2.pars)).lookup x = some n → ∃ fd, l.lookup x = some fd ∧ fd.pars = n
  | [], x, n, h => by cases h
  | (y, fd) :: r, x, n, h => by
    rw [List.map_cons, List.lookup_cons] at h
    rw [List.lookup_cons]
    dsimp only at h ⊢
    split at h
    · exact ⟨fd, rfl, by simpa using h⟩
    · exact sig_lookup r x n h
theorem sig_some : ∀ (l : List (Str × Fd)) (x : Str) (fd : Fd), l.lookup x = some fd → (l.map fun y => (y.1, y.2.pars)).lookup x = some fd.pars
  | [], x, n, h => by cases h
  | (y, fd) :: r, x, n, h => by
    rw [List.lookup_cons] at h
    rw [List.map_cons, List.lookup_cons]
    dsimp only at h ⊢
    split at h
    · cases h; rfl
    · exact sig_some r x n h
end LT
namespace LT
open PySem PySem.Spec PyProof.Rows L2 LamX NdefX
/-- a lambda of the program, as the text has it -/
def chkLam (p : Prog) (j : Nat) (pr : Arguments) (b : Expr) (s : Scope) (fr : List Str) : Bool := match p.lams[j]?, argNames pr with
  | some l, some ps => decide (ps.length = l.pars) && decide (fr.length = l.caps) && decide (ps.length ≤ 0) && nscB (ps ++ fr) ps fr s && (chkP l.body).e ⟨ps ++ fr, s, fun _ => false, false, p.sig, fun _ _ _ _ _ => false⟩ b
  | _, _ => false
theorem argNames_eq {pr : Arguments} {ps : List Str} (h : argNames pr = some ps) : ∃ as, pr = ⟨[], as, none, [], [], none, []⟩ ∧ ps = as.map (·.arg) := by
  unfold argNames at h
  split at h
  · rename_i as
    cases h
    exact ⟨as, rfl, rfl⟩
  · cases h
theorem lam_bind {pr : Arguments} {ps : List Str} (h : argNames pr = some ps) (h2 : ps.length ≤ 0) {body : Expr} {scope : Scope} (q : Str) (cl : List (Str × Addr)) (pm cv ctv : Value) (us : List Value) (hl : us.length = ps.length) :
    bindArgs (PySem.W.kla_fn "<lambda>" q pr body scope cl pm cv ctv) ⟨us, []⟩ = pure (ps.zip us) := by
  obtain ⟨as, rfl, rfl⟩ := argNames_eq h
  match as, us, hl, h2 with
  | [], [], _, _ => rfl
  | _ :: _, _, _, h2 => exact absurd h2 (by simp)
end LT
set_option Elab.async false
set_option linter.all false
set_option maxRecDepth 100000
set_option maxHeartbeats 8000000
/-! Own layer, part L2: the program keeps what the evaluator says. -/
namespace LT
open PySem PySem.Spec PyProof.Rows L2 LamX NdefX
section
variable {P : Program} {w : World} {K : PySem.W.Frag} {mg : Str → Option Value} {base : Heap} {T : List NTab} {p : Prog} {xc : Str → Bool} {tc : TryC}
/-- the lambdas as the program has them -/
abbrev laOf (p : Prog) : Nat → Arguments → Expr → Scope → List Str → Prop := fun j pr b s fr => chkLam p j pr b s fr = true
abbrev gOf (P : Program) (w : World) (K : PySem.W.Frag) (mg : Str → Option Value) (base : Heap) (T : List NTab) (p : Prog) : GI := ⟨P, w, K, mg, base, laOf p, T⟩
/-- what is known of the program -/
structure PrOk (P : Program) (w : World) (K : PySem.W.Frag) (mg : Str → Option Value) (base : Heap) (T : List NTab) (p : Prog) (xc : Str → Bool) (tc : TryC) : Prop where
  fn : ∀ x fd, p.fns.lookup x = some fd → FnRow K mg base T xc tc p.sig (chkLam p) x fd
  xf : XF (laOf p) T p.xcs xc tc (gOf P w K mg base T p)
  con : ∀ x d, p.con x = some d → ∃ v u, mg x = some u ∧ RelV v u ∧ ∀ oc ρ H, Rep (gOf P w K mg base T p) oc ρ H d v
  blt : ∀ x ∈ bltNames, mg x = none
theorem prog_ok (h : PrOk P w K mg base T p xc tc) : ∀ n, PF (gOf P w K mg base T p) (p.at n) (2 * n) p.sig
  | 0 => by
    refine ⟨fun f m hm => ?_, fun f hf => ?_, fun j => ⟨?_⟩, h.con, h.blt⟩
    · obtain ⟨fd, h1, rfl⟩ := sig_lookup p.fns f m hm
      obtain ⟨st, fa, fdv, N, ps, Df, hb, hsc, hps, _⟩ := (h.fn f fd h1).ex
      refine ⟨fa, Df.mgf, Df.kp, fdv, ps, hps, hb, ⟨fun vs H Q E hs => hs.1.trans hps.symm, fun A outer s H args us vs Q E _ _ _ _ hs => ?_⟩⟩
      obtain ⟨_, ρ, S, ds, _, _, z⟩ := hs
      exact z.elim
    · have hf : (p.fns.lookup f).isSome = true := hf
      obtain ⟨fd, hfd⟩ := Option.isSome_iff_exists.mp hf
      exact ⟨fd.pars, sig_some _ _ _ hfd, fun xs S _ => rfl⟩
    · intro A outer s H f us vs caps ds ρ S Q E _ _ _ _ _ _ _ z
      exact z.elim
  | n + 1 => by
    have ih := prog_ok h n
    have cl : ∀ f fd, p.fns.lookup f = some fd → ∀ ds S, (p.at (n + 1)).call f ds S = runFd (p.at n) p.xcs fd ds S := fun f fd hf ds S => by
      show (match p.fns.lookup f with | some fd => runFd (p.at n) p.xcs fd ds S | none => .bad) = _
      rw [hf]
    refine ⟨fun f m hm => ?_, fun f hf => ?_, fun j => ?_, h.con, h.blt⟩
    · obtain ⟨fd, h1, rfl⟩ := sig_lookup p.fns f m hm
      obtain ⟨st, fa, fdv, N, ps, Df, hb, hsc, hps, hN, uq, hck, hlm⟩ := (h.fn f fd h1).ex
      refine ⟨fa, Df.mgf, Df.kp, fdv, ps, hps, hb, ?_⟩
      have key := def_ok (P := P) (w := w) (K := K) (mg := mg) (base := base) (la := laOf p) (T := T) (F := p.at (n + 1)) (F' := p.at n) (k := 2 * n) Df.fn hsc hps hN uq hck (cl f fd h1) ih h.xf (fun j p b s fr z => z) hlm
      rw [hps] at key
      exact key
    · have hf : (p.fns.lookup f).isSome = true := hf
      obtain ⟨fd, hfd⟩ := Option.isSome_iff_exists.mp hf
      refine ⟨fd.pars, sig_some _ _ _ hfd, fun xs S hx => ?_⟩
      rw [cl f fd hfd]
      unfold runFd
      rw [if_neg hx]
    · show LamOk (gOf P w K mg base T p) (p.at (n + 1)) (2 * n + 1 + 1) j
      cases ql : p.lams[j]? with
      | none =>
        refine ⟨fun A outer s H f us vs caps ds ρ S Q E _ _ _ _ _ _ _ z => ?_⟩
        have e : (p.at (n + 1)).lam j caps ds S = .bad := by
          show (match p.lams[j]? with | some l => runLm (p.at n) l caps ds S | none => .bad) = _
          rw [ql]
        rw [e] at z
        exact z.elim
      | some l =>
        refine lam_ok (l := l) (F' := p.at n) (fun caps ds S => ?_) fun params body scope fr hla => ?_
        · show (match p.lams[j]? with | some l => runLm (p.at n) l caps ds S | none => .bad) = _
          rw [ql]
        · have hla : chkLam p j params body scope fr = true := hla
          unfold chkLam at hla
          rw [ql] at hla
          cases qa : argNames params with
          | none => rw [qa] at hla; cases hla
          | some ps =>
            rw [qa] at hla
            simp only [Bool.and_eq_true, decide_eq_true_eq] at hla
            obtain ⟨⟨⟨⟨e1, e2⟩, e3⟩, e4⟩, e5⟩ := hla
            have NS := nscope_by e4
            refine ⟨ps, e1, e2, ⟨NS, fun q cl pm cv ctv us hl => lam_bind qa e3 q cl pm cv ctv us hl⟩, fun q cl c' f A outer s H E hr => ?_⟩
            generalize hX : NdefX.ncx (L2N.CX P w) P w K mg base (ps ++ fr) ⟨"<lambda>", q, params, [], scope, cl, c'⟩ f A outer s H E = X
            have hg : gX X (laOf p) T = gOf P w K mg base T p := by rw [← hX]; rfl
            have sat : Sat (laOf p) T oc0 (fun cls d _ H' => E cls d H') { p.at n with lm := false } X (2 * n) ⟨ps ++ fr, scope, fun _ => false, false, p.sig, fun _ _ _ _ _ => false⟩ := by
              refine { nd := ?_, calm := ?_, hu := ?_, rm := ?_, tk := ?_, pl := fun _ => rfl, lm := fun z => Bool.noConfusion z, N := ?_, sc := ?_, fnb := fun x z => Bool.noConfusion z, clm := rfl, lmx := fun z => Bool.noConfusion z, lam := fun _ _ _ _ _ z => Bool.noConfusion z, pf := ?_ }
              · rw [← hX]; exact NS.nd
              · rw [← hX]; rfl
              · rw [← hX]
                have z := hr.un
                show (A.deeper _).units + 100 < cLine
                omega
              · rw [← hX]; exact hr.mono (Nat.le_succ _)
              · rw [← hX]
                exact L2N.takes_of rfl rfl rfl rfl
              · rw [← hX]; rfl
              · rw [← hX]; rfl
              · rw [hg]
                exact ⟨fun f n h => (ih.call f n h).imp fun a c => ⟨c.mg, c.keep, c.ok⟩, ih.fnv, fun j => ⟨(ih.lam j).run⟩, ih.con, ih.blt⟩
            have key := ((snd l.body).go sat body).1 e5
            rw [hg] at key
            exact key
end
end LT
set_option Elab.async false
set_option linter.all false
set_option maxRecDepth 100000
set_option maxHeartbeats 8000000
/-! Own layer, part M: from the head's facts to the program's. -/
namespace LT
open PySem PySem.Spec PyProof.Rows L2 LamX NdefX
theorem filterMap_eq {α β : Type} {f g : α → Option β} : ∀ {l : List α}, (∀ x ∈ l, f x = g x) → l.filterMap f = l.filterMap g
  | [], _ => rfl
  | a :: l, h => by
    rw [List.filterMap_cons, List.filterMap_cons, h a List.mem_cons_self, filterMap_eq fun x hx => h x (List.mem_cons_of_mem _ hx)]
theorem zip_lookup {β : Type} : ∀ {ps : List Str} {us : List β}, ps.Nodup → us.length = ps.length → ps.filterMap (fun n => ((ps.zip us).lookup n).map (n, ·)) = ps.zip us ∧ ∀ n ∈ ps, ((ps.zip us).lookup n).isSome = true
  | [], us, _, _ => ⟨rfl, fun n h => absurd h (by simp)⟩
  | p :: ps, [], _, h => absurd h (by simp)
  | p :: ps, u :: us, nd, h => by
    rw [List.nodup_cons] at nd
    obtain ⟨ih1, ih2⟩ := zip_lookup (us := us) nd.2 (by simpa using h)
    have ne : ∀ n ∈ ps, (n == p) = false := fun n hn => by
      rw [beq_eq_false_iff_ne]
      rintro rfl
      exact nd.1 hn
    refine ⟨?_, fun n hn => ?_⟩
    · rw [List.zip_cons_cons, List.filterMap_cons, List.lookup_cons, beq_self_eq_true]
      simp only [Option.map_some]
      congr 1
      refine (filterMap_eq fun n hn => ?_).trans ih1
      rw [List.lookup_cons, ne n hn]
    · rw [List.zip_cons_cons, List.lookup_cons]
      rcases List.mem_cons.mp hn with rfl | hn
      · rw [beq_self_eq_true]; rfl
      · rw [ne n hn]; exact ih2 n hn
end LT
namespace LT
open PySem PySem.Spec PyProof.Rows L2 LamX NdefX
theorem bind_simple {fd : FuncData} {as : List Arg} (hp : fd.params = ⟨[], as, none, [], [], none, []⟩) (hd : fd.defaults = .none) (nd : (as.map (·.arg)).Nodup) {us : List Value} (hl : us.length = (as.map (·.arg)).length) : bindArgs fd ⟨us, []⟩ = pure ((as.map (·.arg)).zip us) := by
  obtain ⟨z1, z2⟩ := zip_lookup nd hl
  have z3 : ((as.map (·.arg)).take (as.map (·.arg)).length).filter (fun n => (((as.map (·.arg)).zip us).lookup n).isNone) = [] := by
    rw [List.take_length, List.filter_eq_nil_iff]
    intro n hn
    have := z2 n hn
    cases q : ((as.map (·.arg)).zip us).lookup n with
    | none => rw [q] at this; cases this
    | some v => simp
  unfold bindArgs
  rw [hp, hd]
  have e : seqItems? .none = (pure none : Sem (Option (Array Value))) := by first | rfl | simp [seqItems?]
  rw [e]
  simp only [List.map_nil, List.nil_append, List.forIn_nil, pure_bind]
  generalize as.map (·.arg) = l at *
  rw [List.take_length] at z3
  have h1 : ¬ (l.length < us.length) := by omega
  simp [h1, z3, z1, List.take_length]
end LT
set_option Elab.async false
set_option linter.all false
set_option maxRecDepth 100000
set_option maxHeartbeats 8000000
/-! Own layer, part M2: the head's facts, as one Bool, and what they give. -/
namespace LT
open PySem PySem.Spec PyProof.Rows L2 LamX NdefX He
/-- a def of the text: its name, its row, its frame's names -/
structure DefT where
  x : Str
  st : Stmt
  N : List Str
def DefT.d (t : DefT) : He.DefD := ⟨(t.x, none), t.x, t.x, C8.fnArgs t.st, C8.fnBody t.st, C8.fnScope t.st, [], []⟩
def ccOf (p : Prog) (t : DefT) (fd : Fd) : CC := ⟨t.N, C8.fnScope t.st, fun _ => true, fd.lm, p.sig, chkLam p⟩
def rowB (p : Prog) (xc : Str → Bool) (tc : TryC) (tfs : List Str) (t : DefT) (fd : Fd) : Bool :=
  match argNames (C8.fnArgs t.st) with
  | some ps => C8.scC t.N ps (C8.fnScope t.st) && decide ps.Nodup && decide (ps.length = fd.pars) && decide (t.N.length = fd.slots) && (C8.fnScope t.st).names.all (fun y => decide ((C8.fnScope t.st).names.lookup y.1 = some y.2)) && chkB xc tc fd.body (ccOf p t fd) (C8.fnBody t.st) && (!fd.lm || tfs.contains t.x)
  | none => false
theorem fun_binds {K : PySem.W.Frag} {x : Str} {st : Stmt} {f : Addr} {fd : FuncData} {ps : List Str} (F : FunD K x x (C8.fnArgs st) (C8.fnBody st) (C8.fnScope st) [] [] f fd) (ha : argNames (C8.fnArgs st) = some ps) (nd : ps.Nodup) : Binds K fd ps [] := by
  obtain ⟨as, e, rfl⟩ := argNames_eq ha
  exact F.bindsN fun kV doc pm an cdv ct us hl => bind_simple (as := as) e rfl nd hl
theorem fun_def {K : PySem.W.Frag} {mg : Str → Option Value} {x : Str} {st : Stmt} {f : Addr} {fd : FuncData} (F : FunD K x x (C8.fnArgs st) (C8.fnBody st) (C8.fnScope st) [] [] f fd) (hm : mg x = some (.ref f)) : C8.Def K mg x st f fd := by
  obtain ⟨oc, od, dV, kV, doc, pm, an, cdv, ct, osl, h1, h2, h3, _⟩ := F.ex
  exact ⟨⟨oc, od, dV, kV, doc, pm, an, cdv, ct, osl, h1, h2, h3⟩, hm, F.kp⟩
theorem fnRow_of {K : PySem.W.Frag} {mg : Str → Option Value} {base : Heap} {T : List NTab} {p : Prog} {xc : Str → Bool} {tc : TryC} {tfs : List Str} {t : DefT} {fd : Fd} {f : Addr} {fdv : FuncData} (h : rowB p xc tc tfs t fd = true)
    (F : FunD K t.x t.x (C8.fnArgs t.st) (C8.fnBody t.st) (C8.fnScope t.st) [] [] f fdv) (hm : mg t.x = some (.ref f))
    (hT : t.x ∈ tfs → ∀ oc od osl dV kV doc pm an cdv ct, K.lookup f = some ⟨oc, od, .func (PySem.W.fnOf t.x t.x (C8.fnArgs t.st) (C8.fnBody t.st) (C8.fnScope t.st) dV kV doc pm an cdv ct), osl⟩ → LmFact K mg base T t.x cdv) :
    FnRow K mg base T xc tc p.sig (chkLam p) t.x fd := by
  unfold rowB at h
  cases ha : argNames (C8.fnArgs t.st) with
  | none => rw [ha] at h; cases h
  | some ps =>
    rw [ha] at h
    simp only [Bool.and_eq_true, decide_eq_true_eq, Bool.or_eq_true, Bool.not_eq_true'] at h
    obtain ⟨⟨⟨⟨⟨⟨h1, h2⟩, h3⟩, h4⟩, h5⟩, h6⟩, h7⟩ := h
    refine ⟨t.st, f, fdv, t.N, ps, fun_def F hm, fun_binds F ha h2, h1, h3, h4, h5, h6, fun hl oc od osl dV kV doc pm an cdv ct lk => ?_⟩
    refine hT ?_ oc od osl dV kV doc pm an cdv ct lk
    rcases h7 with h7 | h7
    · rw [hl] at h7; cases h7
    · simpa using h7
/-! ### exceptions -/
def mgK (K : PySem.W.Frag) (x : Str) : Option Value := match PySem.W.nsIn K mainGlobals x with
  | some o => o
  | none => none
theorem mgK_eq {K : PySem.W.Frag} {h : Heap} {mg : Str → Option Value} (X : K.In h) (G : h.Ns mainGlobals mg) {x : Str} (c : (PySem.W.nsIn K mainGlobals x).isSome = true) : mg x = mgK K x := by
  unfold mgK
  cases e : PySem.W.nsIn K mainGlobals x with
  | none => rw [e] at c; cases c
  | some o => cases o with
    | none => exact PySem.W.mg_none_of X G e
    | some v => exact PySem.W.mg_of X G e
def excCB (K : PySem.W.Frag) (D : Addr) : Bool :=
  He.eqO (PySem.W.findIn K (.ref D) "__getattribute__") (some (some (.builtin "BaseException.__getattribute__"))) &&
  He.eqO (PySem.W.findIn K (.ref D) "__getattr__") (some none) &&
  decide (PySem.W.subIn K (.ref D) (.type "BaseException") = some true) && PySem.W.hasDictIn K D &&
  He.eqO (PySem.W.findIn K (.ref D) "__class__") (some (some (.builtin "object.__class__"))) &&
  He.eqO (PySem.W.specialIn K (.builtin "object.__class__") "__get__") (some (some (.builtin "getset_descriptor.__get__"))) &&
  decide (PySem.W.takesIn K (.builtin "object.__class__") = some true) && decide (PySem.W.mroIn K D (.type "object") = some true)
theorem excCB_ok {K : PySem.W.Frag} {D : Addr} (h : excCB K D = true) : ExcC K D := by
  unfold excCB at h
  simp only [Bool.and_eq_true, decide_eq_true_eq] at h
  obtain ⟨⟨⟨⟨⟨⟨⟨h1, h2⟩, h3⟩, h4⟩, h5⟩, h6⟩, h7⟩, h8⟩ := h
  exact ⟨He.eqO_ok h1, He.eqO_ok h2, h3, h4, He.eqO_ok h5, He.eqO_ok h6, h7, h8⟩
theorem kinBs_congr {K : PySem.W.Frag} {mg mg' : Str → Option Value} {D : Addr} : ∀ {l : List Str}, (∀ x ∈ l, mg x = mg' x) → kinBs K mg D l = kinBs K mg' D l
  | [], _ => rfl
  | x :: xs, h => by
    unfold kinBs
    have e : kinF K mg D x = kinF K mg' D x := by unfold kinF; rw [h x List.mem_cons_self]
    rw [e, kinBs_congr fun y hy => h y (List.mem_cons_of_mem _ hy)]
theorem kinOf_congr {K : PySem.W.Frag} {mg mg' : Str → Option Value} {D : Addr} {css : List (List Str)} {txt sep jn : Str} (h : ∀ x ∈ css.flatten, mg x = mg' x) : kinOf K mg css txt sep jn D = kinOf K mg' css txt sep jn D := by
  unfold kinOf
  rw [kinBs_congr h]
/-- what the law's _law_kin says, by its text -/
structure KinT where
  css : List (List Str)
  txt : Str
  sep : Str
  jn : Str
def exB (p : Prog) (cs : List Str) (kt : KinT) (K : PySem.W.Frag) : Bool :=
  (kt.css.flatten.all fun x => (PySem.W.nsIn K mainGlobals x).isSome) && (cs.all fun x => (Fa.glo x).ok K) &&
  p.xcs.cls.all fun y => (Fa.glo y.1).ok K && excCB K (ga K y.1) && decide (kinOf K (mgK K) kt.css kt.txt kt.sep kt.jn (ga K y.1) = some (p.xcs.kin y.1)) &&
    (cs.all fun L => decide (PySem.W.exmOne K (.ref (ga K y.1)) (.ref (ga K L)) = some (p.xcs.sub y.1 L)))
theorem mem_of_look {β : Type} {x : Str} : ∀ {l : List (Str × β)}, (l.lookup x).isSome = true → ∃ b, (x, b) ∈ l
  | [], h => by cases h
  | (y, c) :: r, h => by
    rw [List.lookup_cons] at h
    split at h
    · rename_i q
      rw [beq_iff_eq.mp q]
      exact ⟨c, List.mem_cons_self⟩
    · obtain ⟨b, hb⟩ := mem_of_look h
      exact ⟨b, List.mem_cons_of_mem _ hb⟩
theorem exFacts_of {G : GI} {h : Heap} {p : Prog} {cs : List Str} {kt : KinT} (X : G.K.In h) (N : h.Ns mainGlobals G.mg) (c : exB p cs kt G.K = true) : ExFacts G p.xcs (fun x => cs.contains x) kt.css kt.txt kt.sep kt.jn := by
  unfold exB at c
  simp only [Bool.and_eq_true, List.all_eq_true, decide_eq_true_eq] at c
  obtain ⟨⟨c1, c2⟩, c3⟩ := c
  have look : ∀ x, (p.xcs.field x).isSome = true → ∃ b, (x, b) ∈ p.xcs.cls := fun x hx => mem_of_look hx
  refine ⟨fun x hx C hC => ?_, fun y hy => ?_⟩
  · obtain ⟨b, hb⟩ := look x hx
    obtain ⟨⟨⟨d1, d2⟩, d3⟩, d4⟩ := c3 _ hb
    have e := hC.symm.trans (glo_ok X N d1)
    cases e
    refine ⟨excCB_ok d2, ?_⟩
    rw [← d3]
    exact kinOf_congr fun z hz => mgK_eq X N (c1 z hz)
  · have hy : y ∈ cs := by simpa using hy
    refine ⟨ga G.K y, glo_ok X N (c2 y hy), fun x hx C hC => ?_⟩
    obtain ⟨b, hb⟩ := look x hx
    obtain ⟨⟨⟨d1, d2⟩, d3⟩, d4⟩ := c3 _ hb
    have e := hC.symm.trans (glo_ok X N d1)
    cases e
    exact d4 y hy
theorem xplain_of {G : GI} {h : Heap} {x : Str} (X : G.K.In h) (N : h.Ns mainGlobals G.mg) (c1 : (Fa.glo x).ok G.K = true) (c2 : (Fa.exc x).ok G.K = true) : XPlain G x := by
  obtain ⟨a, b, c, d⟩ := exc_ok c2
  exact ⟨ga G.K x, _, _, _, _, PySem.F.excBase_ValueError, a, glo_ok X N c1, b, c, d⟩
/-! ### constants -/
def dvOf : D → Option Dv
  | .int i => some (.int i)
  | .str z => some (.str z)
  | .bl b => some (.bl b)
  | .non => some .non
  | _ => none
def dvsOf : List D → Option (List Dv)
  | [] => some []
  | d :: ds => match dvOf d, dvsOf ds with
    | some v, some vs => some (v :: vs)
    | _, _ => none
def bareB (K : PySem.W.Frag) (x : Str) : Bool := match K.lookup (ga K x) with
  | some o => o.dict.isNone
  | none => false
def conFB (K : PySem.W.Frag) (x : Str) : D → Bool
  | .int i => (Fa.int x i).ok K
  | .str z => (Fa.str x z).ok K
  | .tup ds => match dvsOf ds with
    | some vs => (Fa.glo x).ok K && (tupB K x vs && bareB K x)
    | none => false
  | _ => false
theorem dvsOf_rep {G : GI} {oc : Nat → Option Addr} {ρ : Pl} {H : Hp} {K : PySem.W.Frag} : ∀ {ds : List D} {vs : List Dv}, dvsOf ds = some vs → RepL G oc ρ H ds (vs.map (Dv.v K))
  | [], vs, h => by cases h; exact .nil
  | d :: ds, vs, h => by
    unfold dvsOf at h
    cases q1 : dvOf d with
    | none => rw [q1] at h; simp at h
    | some v => cases q2 : dvsOf ds with
      | none => rw [q1, q2] at h; simp at h
      | some r =>
        rw [q1, q2] at h
        cases h
        refine .cons ?_ (dvsOf_rep q2)
        cases d <;> simp only [dvOf, Option.some.injEq, reduceCtorEq] at q1
        all_goals (subst q1; simp only [Rep]; rfl)
theorem tupB_fz {G : GI} {x : Str} {vs : List Dv} (h : tupB G.K x vs = true) (hb : bareB G.K x = true) (ρ : Pl) (H : Hp) : FzT G ρ H (ga G.K x) (vs.map (Dv.v G.K)) := by
  unfold tupB at h
  unfold bareB at hb
  cases q : G.K.lookup (ga G.K x) with
  | none => rw [q] at h; cases h
  | some o =>
    obtain ⟨oc, od, dt, osl⟩ := o
    rw [q] at h hb
    cases oc with
    | type c =>
      cases dt with
      | seq its n =>
        obtain ⟨h1, h2⟩ := ba (show (decide (c = "tuple") && (decide (its.size ≤ sizeLine) && relAll (vs.map (Dv.v G.K)) its.toList)) = true from h)
        obtain ⟨h3, h4⟩ := ba h2
        exact .inr ⟨_, its, n, q, congrArg Value.type (of_decide_eq_true h1), Option.isNone_iff_eq_none.mp hb, rfl, of_decide_eq_true h3, relAll_ok h4⟩
      | _ => cases h
    | _ => cases dt <;> cases h
theorem con_of {G : GI} {h : Heap} {x : Str} {d : D} (X : G.K.In h) (N : h.Ns mainGlobals G.mg) (c : conFB G.K x d = true) : ∃ v u, G.mg x = some u ∧ RelV v u ∧ ∀ oc ρ H, Rep G oc ρ H d v := by
  cases d with
  | int i =>
    obtain ⟨t, e⟩ := int_ok X N (x := x) (i := i) c
    exact ⟨.int i, _, e, ⟨t, rfl⟩, fun oc ρ H => by simp only [Rep]⟩
  | str z =>
    obtain ⟨t, e⟩ := str_ok X N (x := x) (z := z) c
    exact ⟨.str z, _, e, ⟨t, rfl⟩, fun oc ρ H => by simp only [Rep]⟩
  | tup ds =>
    have c : (match dvsOf ds with | some vs => (Fa.glo x).ok G.K && (tupB G.K x vs && bareB G.K x) | none => false) = true := c
    cases q : dvsOf ds with
    | none => rw [q] at c; cases c
    | some vs =>
      rw [q] at c
      obtain ⟨c1, c2⟩ := ba c
      refine ⟨.ref (ga G.K x), _, glo_ok X N c1, rfl, fun oc ρ H => ?_⟩
      simp only [Rep]
      exact ⟨_, _, rfl, tupB_fz (ba c2).1 (ba c2).2 ρ H, dvsOf_rep q⟩
  | _ => cases c
end LT
set_option Elab.async false
set_option linter.all false
set_option maxRecDepth 100000
set_option maxHeartbeats 8000000
/-! Own layer, part M3: from the head to the law. -/
namespace LT
open PySem PySem.Spec PyProof.Rows L2 LamX NdefX He
/-- a law's text -/
structure LawT where
  p : Prog
  con : List (Str × D)
  defs : List DefT
  kin : Option (Stmt × KinT)
  cs : List Str
  tf : List Str
def LawT.kd (L : LawT) : List DefT := match L.kin with
  | some (st, _) => [⟨"_law_kin", st, kinN⟩]
  | none => []
def LawT.fn (L : LawT) : List DefD := (L.kd ++ L.defs).map DefT.d
def plainX (L : LawT) : List Str := (L.p.xcs.cls.filter fun y => y.2.isNone).map (·.1)
def LawT.fa (L : LawT) : List Fa := (L.kd ++ L.defs).map (fun t => Fa.glo t.x) ++ bltNames.map Fa.free ++ (plainX L).map Fa.glo ++ (plainX L).map Fa.exc
def LawT.tfd (L : LawT) : List Defn := L.tf.map fun x => (x, none)
def LawT.ex (L : LawT) (K : PySem.W.Frag) : Bool := (match L.kin with
    | some (_, kt) => exB L.p L.cs kt K
    | none => true) && (L.con.all fun y => conFB K y.1 y.2) && decide ((L.tfd.map fun q => (cT K q).2).Nodup)
def LawT.xc (L : LawT) : Str → Bool := fun x => decide (L.p.xcs.cls.lookup x = some none)
def LawT.tc (L : LawT) : TryC := match L.kin with
  | some _ => tcK fun x => L.cs.contains x
  | none => fun _ _ _ _ _ => none
def LawT.T (L : LawT) (K : PySem.W.Frag) : List NTab := L.tf.map fun x => ((cT K (x, none)).2, fun _ _ => (x ++ ".<locals>.") ++ "<lambda>")
def LawT.kinB (L : LawT) : Bool := match L.kin with
  | some (st, kt) => C8.scC kinN ["e"] (C8.fnScope st) && decide (kinP (C8.fnScope st) (C8.fnBody st) = some (kt.css, kt.txt, kt.sep, kt.jn)) && decide ((kt.sep.length == 0) = false) && decide (kt.txt.length ≤ 1000) && decide (kt.jn.length ≤ 100) && decide ((Txt.split kt.txt kt.sep).length ≤ 100) && decide (((Txt.split kt.txt kt.sep).map (·.length)).sum ≤ 1000) && decide (argNames (C8.fnArgs st) = some [("e" : Str)])
  | none => true
def LawT.rows (L : LawT) : Bool := L.p.fns.all fun y => L.defs.any fun t => decide (t.x = y.1) && rowB L.p L.xc L.tc L.tf t y.2
structure LawT.Ok (L : LawT) : Prop where
  rows : L.rows = true
  kin : L.kinB = true
  con : L.p.con = fun x => L.con.lookup x
  law : ∃ fd : Fd, L.p.fns.lookup ("law" : Str) = some fd ∧ fd.pars = 1
  tf : ∀ x ∈ L.tf, ∃ t ∈ L.kd ++ L.defs, t.x = x
section
variable {L : LawT} {w : World} {h : Heap} {P : Program} {K : PySem.W.Frag} {mg : Str → Option Value} {base : Heap}
theorem LawT.fun_ (c : SaysD L.fa L.fn K) {t : DefT} (ht : t ∈ L.kd ++ L.defs) (X : K.In h) (N : h.Ns mainGlobals mg) : ∃ fd, FunD K t.x t.x (C8.fnArgs t.st) (C8.fnBody t.st) (C8.fnScope t.st) [] [] (ga K t.x) fd ∧ mg t.x = some (.ref (ga K t.x)) := by
  obtain ⟨fd, F⟩ := c.defs (d := t.d) (List.mem_map.mpr ⟨t, ht, rfl⟩)
  refine ⟨fd, F, glo_ok X N (c.facts ?_)⟩
  unfold LawT.fa
  simp only [List.mem_append]
  exact .inl (.inl (.inl (List.mem_map.mpr ⟨t, ht, rfl⟩)))
theorem LawT.lm (hok : L.Ok) (c : SaysX L.fa L.fn [] L.tfd L.ex w h K) (X : K.In base) (N : base.Ns mainGlobals mg) (TB : ∀ q ∈ L.tfd.map (cT K), TabB base mg q.1 q.2) {t : DefT} (hx : t.x ∈ L.tf) {oc : Value} {od : Option Addr} {osl : Array (Option Value)} {dV kV doc pm : Value} {an : Option Addr} {cdv ct : Value}
    (F : ∃ fd, FunD K t.x t.x (C8.fnArgs t.st) (C8.fnBody t.st) (C8.fnScope t.st) [] [] (ga K t.x) fd)
    (lk : K.lookup (ga K t.x) = some ⟨oc, od, .func (PySem.W.fnOf t.x t.x (C8.fnArgs t.st) (C8.fnBody t.st) (C8.fnScope t.st) dV kV doc pm an cdv ct), osl⟩) : LmFact K mg base (L.T K) t.x cdv := by
  obtain ⟨fd, F⟩ := F
  obtain ⟨oc2, od2, dV2, kV2, doc2, pm2, an2, cdv2, ct2, osl2, rfl, h2, h3, _⟩ := F.ex
  rw [h2] at lk
  cases lk
  obtain ⟨a, rfl⟩ := codeIn_ref h3
  have e : codeOf K (t.x, none) = a := codeOf_eq (K := K) (p := (t.x, none)) h2 rfl
  refine ⟨a, (cT K (t.x, none)).2, rfl, ?_, ?_, ?_⟩
  · have z := TB (cT K (t.x, none)) (List.mem_map.mpr ⟨(t.x, none), List.mem_map.mpr ⟨t.x, hx, rfl⟩, rfl⟩)
    have e2 : (cT K (t.x, none)).1 = a := e
    rw [e2] at z
    exact z
  · exact List.mem_map.mpr ⟨t.x, hx, rfl⟩
  · intro q hq e3
    obtain ⟨y, hy, rfl⟩ := List.mem_map.mp hq
    have nd : (L.tfd.map fun q => (cT K q).2).Nodup := by
      have m := c.more
      unfold LawT.ex at m
      simp only [Bool.and_eq_true, decide_eq_true_eq] at m
      exact m.2
    have e4 : (cT K (y, none)).2 = (cT K (t.x, none)).2 := e3
    have : y = t.x := by
      obtain ⟨i, hi⟩ := List.mem_iff_getElem?.mp hy
      obtain ⟨j, hj⟩ := List.mem_iff_getElem?.mp hx
      obtain ⟨l1, _⟩ := List.getElem?_eq_some_iff.mp hi
      obtain ⟨l2, _⟩ := List.getElem?_eq_some_iff.mp hj
      unfold LawT.tfd at nd
      rw [List.map_map] at nd
      have a1 : (L.tf.map ((fun q => (cT K q).2) ∘ fun x => (x, none)))[i]? = some (cT K (y, none)).2 := by rw [List.getElem?_map, hi]; rfl
      have a2 : (L.tf.map ((fun q => (cT K q).2) ∘ fun x => (x, none)))[j]? = some (cT K (y, none)).2 := by rw [List.getElem?_map, hj, e4]; rfl
      obtain ⟨m1, b1⟩ := List.getElem?_eq_some_iff.mp a1
      obtain ⟨m2, b2⟩ := List.getElem?_eq_some_iff.mp a2
      have := (List.getElem_inj nd).mp (b1.trans b2.symm)
      subst this
      rw [hi] at hj
      exact Option.some.inj hj
    rw [this]
/-- the suites that call _law_kin -/
theorem tryOk_kin {la : Nat → Arguments → Expr → Scope → List Str → Prop} {T : List NTab} {Xc : Xcs} {cs : Str → Bool} {css : List (List Str)} {txt sep jn : Str} {stK : Stmt} {G : GI} (KF : KinFn G.K G.mg stK css txt sep jn) (EF : ExFacts G Xc cs css txt sep jn) : TryOk la T Xc (tcK cs) G :=
  ⟨fun {oc W F X k C cls i su st b m} e s h hb => by
    subst e
    exact try_kin KF EF s h hb⟩
theorem LawT.prOk (hok : L.Ok) (c : SaysX L.fa L.fn [] L.tfd L.ex w h K) (X : K.In base) (N : base.Ns mainGlobals mg) (TB : ∀ q ∈ L.tfd.map (cT K), TabB base mg q.1 q.2) : PrOk P w K mg base (L.T K) L.p L.xc L.tc := by
  have cd := c.t.d
  have blt : ∀ x ∈ bltNames, mg x = none := fun x hx => free_ok X N (cd.facts (f := .free x) (by
    unfold LawT.fa
    simp only [List.mem_append]
    exact .inl (.inl (.inr (List.mem_map.mpr ⟨x, hx, rfl⟩)))))
  have more := c.more
  unfold LawT.ex at more
  simp only [Bool.and_eq_true, decide_eq_true_eq] at more
  obtain ⟨⟨m1, m2⟩, _⟩ := more
  refine ⟨fun x fd hx => ?_, ⟨fun x hx => ?_, ?_⟩, fun x d hx => ?_, blt⟩
  · have hm := mem_of_lookup hx
    have r := List.all_eq_true.mp hok.rows _ hm
    obtain ⟨t, ht, r0⟩ := List.any_eq_true.mp r
    simp only [Bool.and_eq_true, decide_eq_true_eq] at r0
    obtain ⟨rfl, r1⟩ := r0
    obtain ⟨fdv, F, mgx⟩ := LawT.fun_ cd (List.mem_append_right _ ht) X N
    exact fnRow_of r1 F mgx fun hT oc od osl dV kV doc pm an cdv ct lk => LawT.lm hok c X N TB hT ⟨fdv, F⟩ lk
  · have hx : L.p.xcs.cls.lookup x = some none := by simpa [LawT.xc] using hx
    have hp : x ∈ plainX L := List.mem_map.mpr ⟨(x, none), List.mem_filter.mpr ⟨mem_of_lookup hx, rfl⟩, rfl⟩
    refine ⟨hx, xplain_of (h := base) X N (cd.facts ?_) (cd.facts ?_)⟩
    · unfold LawT.fa
      simp only [List.mem_append]
      exact .inl (.inr (List.mem_map.mpr ⟨x, hp, rfl⟩))
    · unfold LawT.fa
      simp only [List.mem_append]
      exact .inr (List.mem_map.mpr ⟨x, hp, rfl⟩)
  · cases q : L.kin with
    | none =>
      refine ⟨fun {oc W F X k C cls i su st b m} _ s hb _ => ?_⟩
      unfold LawT.tc at hb
      rw [q] at hb
      cases hb
    | some kp =>
      obtain ⟨st, kt⟩ := kp
      have hkd : (⟨"_law_kin", st, kinN⟩ : DefT) ∈ L.kd ++ L.defs := List.mem_append_left _ (by unfold LawT.kd; rw [q]; exact List.mem_cons_self)
      obtain ⟨fdv, F, mgx⟩ := LawT.fun_ cd hkd X N
      have kb := hok.kin
      unfold LawT.kinB at kb
      rw [q] at kb m1
      simp only [Bool.and_eq_true, decide_eq_true_eq] at kb
      obtain ⟨⟨⟨⟨⟨⟨⟨k1, k2⟩, k3⟩, k4⟩, k5⟩, k6⟩, k7⟩, k8⟩ := kb
      have KF : KinFn K mg st kt.css kt.txt kt.sep kt.jn := ⟨⟨_, fdv, fun_def F mgx, fun_binds F k8 (by decide)⟩, k1, k2, k3, k4, k5, k6, k7, blt _ (by decide), blt _ (by decide)⟩
      have EF : ExFacts (gOf P w K mg base (L.T K) L.p) L.p.xcs (fun x => L.cs.contains x) kt.css kt.txt kt.sep kt.jn := exFacts_of (G := gOf P w K mg base (L.T K) L.p) X N m1
      have e : L.tc = tcK fun x => L.cs.contains x := by unfold LawT.tc; rw [q]
      rw [e]
      exact tryOk_kin KF EF
  · rw [hok.con] at hx
    have hm := mem_of_lookup hx
    exact con_of (G := gOf P w K mg base (L.T K) L.p) X N (List.all_eq_true.mp m2 _ hm)
end
end LT
set_option Elab.async false
set_option linter.all false
set_option maxRecDepth 100000
set_option maxHeartbeats 8000000
/-! Own layer, part M4: the law's call. -/
namespace LT
open PySem PySem.Spec PyProof.Rows L2 LamX NdefX He
section
variable {L : LawT} {w : World} {h : Heap} {K : PySem.W.Frag} {mg : Str → Option Value}
theorem fnOk_conseq {P : Program} {base : Heap} {CX : CXT} {k : Nat} {f : Addr} {fd : FuncData} {ps : List Str} {sp sp' : Sp} (F : FnOk P w K mg base CX k f fd ps sp) (h : ∀ vs H Q E, sp' vs H Q E → sp vs H Q E) : FnOk P w K mg base CX k f fd ps sp' :=
  ⟨fun vs H Q E hs => F.len vs H Q E (h vs H Q E hs), fun A outer s H args us vs Q E hr he hb hv hs => F.run A outer s H args us vs Q E hr he hb hv (h vs H Q E hs)⟩
/-- the promise of the law's def, whatever the base -/
def spLaw (L : LawT) (P : Program) (w : World) (K : PySem.W.Frag) (mg : Str → Option Value) (n : Nat) : Sp := fun vs H Q E => ∀ base, spF (gOf P w K mg base (L.T K) L.p) (L.p.at n) "law" 1 vs H Q E
theorem LawT.at_ (hok : L.Ok) {l : PySem.W.OpenLaw} {fa : Addr} {n : Nat} (fin : ∀ ns : List Int, ns.length ≤ 63 → (∀ z ∈ ns, Builtin.Int.intBits z ≤ 1048576) → ∃ S, (L.p.at (n + 1)).call "law" [.scr ns] [] = .ok (.bl true) S)
    (ha : ∃ t ∈ L.defs, t.x = "law" ∧ argNames (C8.fnArgs t.st) = some [("script" : Str)] ∧ ∀ fd, L.p.fns.lookup ("law" : Str) = some fd → rowB L.p L.xc L.tc L.tf t fd = true)
    (c : SaysX L.fa L.fn [] L.tfd L.ex w h K) (X : K.In h) (N : h.Ns mainGlobals mg) (hfa : mg "law" = some (.ref fa)) : LawAtS l w K (L2N.CX l.prog w) (2 * n + 2) 63 "script" mg fa h := by
  obtain ⟨t, ht, tx, hargs, hrow⟩ := ha
  obtain ⟨fd, hlaw, hpars⟩ := hok.law
  obtain ⟨fdv, F, mgx⟩ := LawT.fun_ c.t.d (List.mem_append_right _ ht) X N
  have ef : ga K t.x = fa := by
    rw [tx] at mgx ⊢
    rw [hfa] at mgx
    injection mgx with z
    injection z with z
    exact z.symm
  have row := hrow fd hlaw
  refine ⟨fdv, L.tfd.map (cT K), spLaw L l.prog w K mg (n + 1), fun q hq => ?_, fun q hq => ?_, fun q hq => ?_, fun s u => ?_, fun H a ns hl hb hT hS => ?_, fun base hb Nb TB => ?_⟩
  · obtain ⟨d, hd, rfl⟩ := List.mem_map.mp hq
    exact c.empty d hd
  · obtain ⟨d, hd, rfl⟩ := List.mem_map.mp hq
    exact c.out d hd
  · obtain ⟨d, hd, rfl⟩ := List.mem_map.mp hq
    exact PySem.W.codeHd_of_K X (c.hd d hd)
  · obtain ⟨as, e, ea⟩ := argNames_eq hargs
    have b := FunD.bindsA (ps := ["script"]) F (fun kV doc pm an cdv ct us hl => by
      have z := bind_simple (fd := PySem.W.fnOf t.x t.x (C8.fnArgs t.st) (C8.fnBody t.st) (C8.fnScope t.st) .none kV doc pm an cdv ct) (as := as) e rfl (by rw [← ea]; decide) (us := us) (by rw [← ea]; exact hl)
      rw [← ea] at z
      exact z)
    exact b s [u] rfl
  · intro base
    refine ⟨rfl, ⟨[], []⟩, [], [.scr ns], ?_, .cons ?_ .nil, ?_⟩
    · refine ⟨rfl, List.nodup_nil, fun i o a h1 _ => ?_, fun a m => ?_, fun q hq => ?_⟩
      · simp at h1
      · simp at m
      · obtain ⟨x, hx, rfl⟩ := List.mem_map.mp hq
        exact TabN.nil (hT (cT K (x, none)) (List.mem_map.mpr ⟨(x, none), List.mem_map.mpr ⟨x, hx, rfl⟩, rfl⟩))
    · simp only [Rep]
      refine ⟨a, rfl, ?_⟩
      rcases hS with hS | hS
      · exact .inl ⟨hS, fun m => by simp [Pl.mem_iff] at m⟩
      · exact .inr hS
    · obtain ⟨S', e⟩ := fin ns hl hb
      rw [e]
      intro v H' ρ' _ _ r
      exact rep_bl.mp r
  · have PO := LawT.prOk (P := l.prog) hok c hb Nb TB
    have hm := mem_of_lookup hlaw
    have mgl : mg t.x = some (.ref fa) := by rw [tx]; exact hfa
    obtain ⟨ps, e1, h1, h2, h3, h4, h5, h6, h7⟩ : ∃ ps, argNames (C8.fnArgs t.st) = some ps ∧ C8.scC t.N ps (C8.fnScope t.st) = true ∧ ps.Nodup ∧ ps.length = fd.pars ∧ t.N.length = fd.slots ∧ (C8.fnScope t.st).names.all (fun y => decide ((C8.fnScope t.st).names.lookup y.1 = some y.2)) = true ∧ chkB L.xc L.tc fd.body (ccOf L.p t fd) (C8.fnBody t.st) = true ∧ (fd.lm = true → t.x ∈ L.tf) := by
      unfold rowB at row
      rw [hargs] at row
      simp only [Bool.and_eq_true, decide_eq_true_eq, Bool.or_eq_true, Bool.not_eq_true'] at row
      obtain ⟨⟨⟨⟨⟨⟨h1, h2⟩, h3⟩, h4⟩, h5⟩, h6⟩, h7⟩ := row
      refine ⟨_, hargs, h1, h2, h3, h4, h5, h6, fun hl => ?_⟩
      rcases h7 with h7 | h7
      · rw [hl] at h7; cases h7
      · simpa using h7
    have eps : ps = [("script" : Str)] := by rw [hargs] at e1; exact (Option.some.inj e1).symm
    subst eps
    have cl : ∀ ds S, (L.p.at (n + 1)).call "law" ds S = runFd (L.p.at n) L.p.xcs fd ds S := fun ds S => by
      show (match L.p.fns.lookup ("law" : Str) with | some fd => runFd (L.p.at n) L.p.xcs fd ds S | none => .bad) = _
      rw [hlaw]
    rw [ef] at F
    have Df := fun_def F mgl
    have key := def_ok (P := l.prog) (w := w) (K := K) (mg := mg) (base := base) (la := laOf L.p) (T := L.T K) (F := L.p.at (n + 1)) (F' := L.p.at n) (k := 2 * n) Df.fn h1 h3 h4 h5 h6 cl (prog_ok PO n) PO.xf (fun j p b s fr z => z) (fun hl oc od osl dV kV doc pm an cdv ct lk => by
      rw [← ef] at lk
      exact LawT.lm hok c hb Nb TB (h7 hl) ⟨fdv, by rw [ef]; exact F⟩ lk)
    exact fnOk_conseq key fun vs H Q E hs => hs base
/-- the end -/
theorem L2N_end {P : Program} (w : World) (H : Hp) (s : Shared) (e : Value) (s' : Shared) : L2N.CX P w [] H s (fun _ _ _ => False) e s' → False := by
  rintro ⟨_, _, _, _, _, _, _, _, _, _, _, _, z⟩
  exact z
/-- what the head looks at -/
def LawT.ob (L : LawT) (s : PySem.W.SharedT) : AlX := obsX 4 L.fa L.fn [] L.tfd L.ex (HandSHeadRun.getT s)
theorem LawT.ob_eq (L : LawT) (s : PySem.W.SharedT) : L.ob s = (hookX 4 L.fa L.fn [] L.tfd L.ex).obs s.abs := obsX_eq (HandSHeadRun.getT_eq s)
end
def kin1 : List Str := ["InvalidRule", "InvalidDeed", "InvalidKinds"]
def kin2 : List Str := ["InvalidPaper", "InvalidStock", "InvalidNumber"]
def kin3 : List Str := ["InvalidIndex", "Impossible", "NoNeighbour"]
def kin4 : List Str := ["Unlike", "NothingToUndo", "TooMany"]
def kin5 : List Str := ["InvalidText", "ValueError"]
/-- the text of _law_kin -/
def kinT0 : KinT := ⟨[kin1, kin2, kin3, kin4, kin5], "rule deed kinds paper stock number index impossible alone unlike undo many text value", " ", " "⟩
end LT
set_option Elab.async false
set_option linter.all false
set_option maxRecDepth 100000
/-! printed by irp2.py: defs that several laws' texts hold -/
namespace LT
open PySem

def ir_is_whole : List IS := [
  .ret (.and [(.isi .int (.var 0)), (.not (.isi .bool (.var 0))), (.chain .le .le (.var 1) (.var 0) (.var 2))])]
def fd_is_whole : Fd := ⟨3, 3, ir_is_whole, false, false⟩
def ir_is_split : List IS := [
  .ifs (.or [(.not (.isi .tuple (.var 0))), (.cmp .ne (.bi .len [(.var 0)]) (.int 2)), (.not (.isi .str (.idx (.var 0) (.int 0)))), (.cmp .nin (.idx (.var 0) (.int 0)) (.gcon "SPLITS"))]) [
    .ret (.bl false)] [],
  .ret (.ite (.cmp .eq (.idx (.var 0) (.int 0)) (.str "three")) (.call "is_whole" [(.idx (.var 0) (.int 1)), (.int 0), (.int 0)]) (.call "is_whole" [(.idx (.var 0) (.int 1)), (.var 2), (.bin .sub (.bin .add (.var 1) (.int 1)) (.var 2))]))]
def fd_is_split : Fd := ⟨3, 3, ir_is_split, false, false⟩
def ir_are_tolls : List IS := [
  .ret (.and [(.isi .tuple (.var 0)), (.cmp .eq (.bi .len [(.var 0)]) (.int 3)), (.bi .all [(.comp false [1] (.name 1) (.over (.var 0)) .none (.call "is_whole" [(.var 1), (.int 0), (.int 9)]))])])]
def fd_are_tolls : Fd := ⟨1, 2, ir_are_tolls, false, false⟩
def ir_is_right_rule : List IS := [
  .ifs (.or [(.not (.isi .tuple (.var 0))), (.cmp .ne (.bi .len [(.var 0)]) (.int 5)), (.not (.call "is_whole" [(.idx (.var 0) (.int 0)), (.int 2), (.int 7)]))]) [
    .ret (.bl false)] [],
  .asg (.tup [1, 2, 3, 4, 5]) (.var 0),
  .ifs (.or [(.not (.call "is_whole" [(.var 2), (.int 1), (.bin .fdiv (.bin .add (.var 1) (.int 1)) (.int 2))])), (.not (.call "is_whole" [(.var 4), (.bin .sub (.bin .mul (.int 2) (.var 2)) (.int 1)), (.var 1)]))]) [
    .ret (.bl false)] [],
  .ret (.and [(.call "is_split" [(.var 3), (.var 1), (.var 2)]), (.call "are_tolls" [(.var 5)])])]
def fd_is_right_rule : Fd := ⟨1, 6, ir_is_right_rule, false, false⟩
def ir_need_rule : List IS := [
  .ifs (.not (.call "is_right_rule" [(.var 0)])) [
    .raise_ "InvalidRule" .none] []]
def fd_need_rule : Fd := ⟨1, 1, ir_need_rule, false, false⟩
def ir_need_kinds : List IS := [
  .ifs (.or [(.not (.isi .str (.var 0))), (.cmp .nin (.var 0) (.gcon "KINDS"))]) [
    .raise_ "InvalidKinds" .none] []]
def fd_need_kinds : Fd := ⟨1, 1, ir_need_kinds, false, false⟩
def ir_deeds_of : List IS := [
  .asg (.tup [2, 3]) (.tup [(.idx (.var 0) (.int 0)), (.idx (.var 0) (.int 1))]),
  .asg (.name 4) (.comp false [5] (.name 5) (.range2 (.var 3) (.var 2)) .none (.tup [(.str "put"), (.var 5)])),
  .ifs (.cmp .eq (.idx (.idx (.var 0) (.int 2)) (.int 0)) (.str "part")) [
    .asg (.name 4) (.bin .add (.var 4) (.lst false [(.tup [(.str "put"), (.var 2)])]))] [
    .asg (.name 4) (.bin .add (.var 4) (.comp false [6] (.name 6) (.range2 (.var 3) (.bin .add (.var 2) (.int 1))) .none (.tup [(.str "put"), (.var 2), (.var 6)])))],
  .ifs (.cmp .eq (.var 1) (.str "all")) [
    .asg (.name 4) (.bin .add (.var 4) (.comp false [6] (.name 6) (.range2 (.var 3) (.bin .add (.var 2) (.int 1))) .none (.tup [(.str "take"), (.var 3), (.var 6)]))),
    .asg (.name 4) (.bin .add (.var 4) (.comp false [5] (.name 5) (.range2 (.bin .add (.var 3) (.int 1)) (.bin .add (.var 2) (.int 1))) .none (.tup [(.str "take"), (.var 5)])))] [],
  .ret (.bi .sorted [(.var 4)])]
def fd_deeds_of : Fd := ⟨2, 7, ir_deeds_of, false, false⟩
def ir_is_rule : List IS := [
  .ret (.call "is_right_rule" [(.var 0)])]
def fd_is_rule : Fd := ⟨1, 1, ir_is_rule, false, false⟩
def ir_deeds : List IS := [
  .expr (.call "need_rule" [(.var 0)]),
  .expr (.call "need_kinds" [(.var 1)]),
  .ret (.call "deeds_of" [(.var 0), (.var 1)])]
def fd_deeds : Fd := ⟨2, 2, ir_deeds, false, false⟩
def ir_law_spring : List IS := [
  .asg (.name 2) (.ite (.cmp .lt (.var 1) (.bi .len [(.var 0)])) (.bi .abs [(.bi .int [(.idx (.var 0) (.var 1))])]) (.bin .add (.bin .mul (.int 7013) (.var 1)) (.int 53))),
  .ret (.lst true [(.ite (.cmp .gt (.var 2) (.bin .pow (.int 10) (.int 16))) (.var 2) (.int 0)), (.bin .add (.bin .mod (.bi .int [(.bin .add (.bin .add (.bin .mul (.var 2) (.int 40503)) (.bin .mul (.int 8117) (.var 1))) (.int 29))]) (.int 2147483549)) (.int 1))])]
def fd_law_spring : Fd := ⟨2, 3, ir_law_spring, false, false⟩
def ir_law_pick : List IS := [
  .ifs (.cmp .gt (.idx (.var 0) (.int 0)) (.int 0)) [
    .asg (.name 2) (.bin .mod (.bi .int [(.idx (.var 0) (.int 0))]) (.var 1)),
    .asub (.var 0) (.int 0) (.bin .fdiv (.idx (.var 0) (.int 0)) (.var 1)),
    .ret (.var 2)] [],
  .asub (.var 0) (.int 1) (.bin .mod (.bi .int [(.bin .add (.bin .mul (.idx (.var 0) (.int 1)) (.int 39119)) (.int 71))]) (.int 2147483549)),
  .asg (.name 3) (.bin .mod (.bi .int [(.bin .mul (.idx (.var 0) (.int 1)) (.bin .add (.bin .fdiv (.idx (.var 0) (.int 1)) (.int 11)) (.int 7)))]) (.int 2147483543)),
  .ret (.bin .mod (.bi .int [(.bin .fdiv (.var 3) (.int 64))]) (.var 1))]
def fd_law_pick : Fd := ⟨2, 4, ir_law_pick, false, false⟩
def ir_law_chosen : List IS := [
  .ret (.idx (.var 1) (.call "_law_pick" [(.var 0), (.bi .len [(.var 1)])]))]
def fd_law_chosen : Fd := ⟨2, 2, ir_law_chosen, false, false⟩
def ir_law_drawn : List IS := [
  .asg (.name 2) (.bin .add (.int 2) (.call "_law_pick" [(.var 0), (.bin .sub (.var 1) (.int 1))])),
  .asg (.name 3) (.bin .add (.int 1) (.call "_law_pick" [(.var 0), (.bin .fdiv (.bin .add (.var 2) (.int 1)) (.int 2))])),
  .asg (.name 4) (.tup [(.call "_law_chosen" [(.var 0), (.lst false [(.str "part"), (.str "part"), (.str "share")])]), (.bin .add (.var 3) (.call "_law_pick" [(.var 0), (.bin .sub (.bin .add (.var 2) (.int 2)) (.bin .mul (.int 2) (.var 3)))]))]),
  .ifs (.cmp .eq (.call "_law_pick" [(.var 0), (.int 4)]) (.int 0)) [
    .asg (.name 4) (.tup [(.str "three"), (.int 0)])] [],
  .asg (.name 5) (.bin .add (.bin .sub (.bin .mul (.int 2) (.var 3)) (.int 1)) (.call "_law_pick" [(.var 0), (.bin .sub (.bin .add (.var 2) (.int 2)) (.bin .mul (.int 2) (.var 3)))])),
  .asg (.name 6) (.bi .tuple [(.comp false [7] (.name 7) (.range1 (.int 3)) .none (.call "_law_pick" [(.var 0), (.call "_law_chosen" [(.var 0), (.lst false [(.int 3), (.int 10)])])]))]),
  .ret (.tup [(.var 2), (.var 3), (.var 4), (.var 5), (.call "_law_chosen" [(.var 0), (.lst false [(.tup [(.int 1), (.int 2), (.int 2)]), (.tup [(.int 0), (.int 1), (.int 1)]), (.var 6), (.var 6)])])])]
def fd_law_drawn : Fd := ⟨2, 8, ir_law_drawn, false, false⟩
def ir_law_moves : List IS := [
  .asg (.tup [2, 3]) (.tup [(.idx (.var 0) (.int 0)), (.idx (.var 0) (.int 1))]),
  .asg (.name 4) (.comp false [5] (.name 5) (.range2 (.var 3) (.bin .add (.var 2) (.bi .int [(.cmp .eq (.idx (.idx (.var 0) (.int 2)) (.int 0)) (.str "part"))]))) .none (.tup [(.str "put"), (.var 5)])),
  .ifs (.cmp .ne (.idx (.idx (.var 0) (.int 2)) (.int 0)) (.str "part")) [
    .asg (.name 4) (.bin .add (.var 4) (.comp false [6] (.name 6) (.range2 (.var 3) (.bin .add (.var 2) (.int 1))) .none (.tup [(.str "put"), (.var 2), (.var 6)])))] [],
  .ifs (.cmp .eq (.var 1) (.str "all")) [
    .asg (.name 4) (.bin .add (.var 4) (.comp false [5] (.name 5) (.range2 (.bin .add (.var 3) (.int 1)) (.bin .add (.var 2) (.int 1))) .none (.tup [(.str "take"), (.var 5)]))),
    .asg (.name 4) (.bin .add (.var 4) (.comp false [6] (.name 6) (.range2 (.var 3) (.bin .add (.var 2) (.int 1))) .none (.tup [(.str "take"), (.var 3), (.var 6)])))] [],
  .ret (.bi .sorted [(.var 4)])]
def fd_law_moves : Fd := ⟨2, 7, ir_law_moves, false, false⟩
def ir_law_turn : List IS := [
  .asg (.tup [2, 3, 4, 5, 6]) (.var 0),
  .asg (.tup [7, 8]) (.sl (.var 1) .none (.some (.int 2))),
  .ifs (.and [(.cmp .eq (.var 7) (.str "put")), (.cmp .lt (.var 8) (.var 2))]) [
    .ret (.tup [(.lst false [(.var 8)]), (.lst false [(.bin .add (.var 8) (.int 1))]), (.idx (.var 6) (.int 0))])] [],
  .ifs (.and [(.cmp .eq (.var 7) (.str "take")), (.cmp .gt (.var 8) (.var 3))]) [
    .ret (.tup [(.lst false [(.var 8)]), (.lst false [(.bin .sub (.var 8) (.int 1))]), (.idx (.var 6) (.int 0))])] [],
  .ifs (.cmp .eq (.var 7) (.str "take")) [
    .ifs (.cmp .le (.bin .add (.bin .sub (.var 3) (.int 1)) (.idx (.var 1) (.int 2))) (.var 5)) [
      .ret (.tup [(.bi .sorted [(.lst false [(.var 3), (.idx (.var 1) (.int 2))])]), (.lst false [(.bin .add (.bin .sub (.var 3) (.int 1)) (.idx (.var 1) (.int 2)))]), (.bin .add (.idx (.var 6) (.int 0)) (.idx (.var 6) (.int 2)))])] [],
    .ret (.tup [(.bi .sorted [(.lst false [(.var 3), (.idx (.var 1) (.int 2))])]), (.bi .sorted [(.lst false [(.var 3), (.bin .sub (.idx (.var 1) (.int 2)) (.int 1))])]), (.bin .mul (.int 2) (.idx (.var 6) (.int 0)))])] [],
  .ifs (.cmp .eq (.idx (.var 4) (.int 0)) (.str "part")) [
    .ret (.tup [(.lst false [(.var 2)]), (.bi .sorted [(.lst false [(.idx (.var 4) (.int 1)), (.bin .sub (.bin .add (.var 2) (.int 1)) (.idx (.var 4) (.int 1)))])]), (.bin .add (.bin .mul (.int 2) (.idx (.var 6) (.int 0))) (.idx (.var 6) (.int 1)))])] [],
  .ifs (.cmp .lt (.idx (.var 1) (.int 2)) (.var 2)) [
    .ret (.tup [(.lst false [(.idx (.var 1) (.int 2)), (.var 2)]), (.lst false [(.bin .add (.idx (.var 1) (.int 2)) (.int 1)), (.var 2)]), (.bin .mul (.int 2) (.idx (.var 6) (.int 0)))])] [],
  .ifs (.cmp .eq (.idx (.var 4) (.int 0)) (.str "share")) [
    .ret (.tup [(.lst false [(.var 2), (.var 2)]), (.bi .sorted [(.lst false [(.idx (.var 4) (.int 1)), (.bin .sub (.bin .add (.var 2) (.int 1)) (.idx (.var 4) (.int 1))), (.var 2)])]), (.bin .add (.bin .mul (.int 2) (.idx (.var 6) (.int 0))) (.idx (.var 6) (.int 1)))])] [],
  .asg (.tup [9, 10]) (.tup [(.bin .fdiv (.bin .add (.bin .mul (.int 2) (.var 2)) (.int 1)) (.int 3)), (.bin .mod (.bin .add (.bin .mul (.int 2) (.var 2)) (.int 1)) (.int 3))]),
  .ret (.tup [(.lst false [(.var 2), (.var 2)]), (.bin .add (.bin .mul (.lst false [(.var 9)]) (.bin .sub (.int 3) (.var 10))) (.bin .mul (.lst false [(.bin .add (.var 9) (.int 1))]) (.var 10))), (.bin .add (.bin .mul (.int 3) (.idx (.var 6) (.int 0))) (.idx (.var 6) (.int 1)))])]
def fd_law_turn : Fd := ⟨2, 11, ir_law_turn, false, false⟩
def ir_law_came : List IS := [
  .try_ [
    .ret (.tup [(.callv 0 []), (.str "")])] "LeafError" 1 .kin]
def fd_law_came : Fd := ⟨1, 2, ir_law_came, false, false⟩
def ir_law_all_say : List IS := [
  .ret (.cmp .eq (.comp false [2] (.name 2) (.over (.var 0)) (.some (.cmp .ne (.call "_law_came" [(.var 2)]) (.tup [.non, (.bin .add (.var 1) (.str " value"))]))) (.var 2)) (.lst false []))]
def fd_law_all_say : Fd := ⟨2, 3, ir_law_all_say, false, false⟩
def ir_law_kind : List IS := [
  .ifs (.isi .bool (.var 0)) [
    .ret (.int 0)] [],
  .ifs (.isi .int (.var 0)) [
    .ret (.int 1)] [],
  .ifs (.isi .list (.var 0)) [
    .ret (.int 2)] [],
  .ifs (.isi .tuple (.var 0)) [
    .ret (.int 3)] [],
  .ret (.ite (.isi .str (.var 0)) (.int 4) (.int 5))]
def fd_law_kind : Fd := ⟨1, 1, ir_law_kind, false, false⟩
def ir_law_twins : List IS := [
  .ifs (.cmp .ne (.call "_law_kind" [(.var 0)]) (.call "_law_kind" [(.var 1)])) [
    .ret (.bl false)] [],
  .ifs (.cmp .in_ (.call "_law_kind" [(.var 0)]) (.lst false [(.int 2), (.int 3)])) [
    .ifs (.cmp .ne (.bi .len [(.var 0)]) (.bi .len [(.var 1)])) [
      .ret (.bl false)] [],
    .ret (.cmp .eq (.comp false [2, 3] (.tup [2, 3]) (.zip (.var 0) (.var 1)) (.some (.not (.call "_law_twins" [(.var 2), (.var 3)]))) (.int 1)) (.lst false []))] [],
  .ret (.cmp .eq (.var 0) (.var 1))]
def fd_law_twins : Fd := ⟨2, 4, ir_law_twins, false, false⟩
def ir_thirds : List IS := [
  .ret (.tup [(.bin .fdiv (.var 0) (.int 3)), (.bin .fdiv (.bin .add (.var 0) (.int 1)) (.int 3)), (.bin .fdiv (.bin .add (.var 0) (.int 2)) (.int 3))])]
def fd_thirds : Fd := ⟨1, 1, ir_thirds, false, false⟩
def ir_put_change : List IS := [
  .asg (.tup [2, 3, 4, 5, 6]) (.var 0),
  .asg (.name 7) (.idx (.var 1) (.int 0)),
  .ifs (.cmp .lt (.var 7) (.var 2)) [
    .ret (.tup [(.tup [(.var 7)]), (.tup [(.bin .add (.var 7) (.int 1))]), (.int 1), (.int 0), (.int 0)])] [],
  .asg (.name 8) (.tup [(.idx (.var 4) (.int 1)), (.bin .sub (.bin .add (.var 2) (.int 1)) (.idx (.var 4) (.int 1)))]),
  .ifs (.cmp .eq (.idx (.var 4) (.int 0)) (.str "part")) [
    .ret (.tup [(.tup [(.var 2)]), (.var 8), (.int 2), (.int 1), (.int 0)])] [],
  .asg (.name 9) (.idx (.var 1) (.int 1)),
  .ifs (.cmp .lt (.var 9) (.var 2)) [
    .ret (.tup [(.tup [(.var 9), (.var 2)]), (.tup [(.bin .add (.var 9) (.int 1)), (.var 2)]), (.int 2), (.int 0), (.int 0)])] [],
  .ifs (.cmp .eq (.idx (.var 4) (.int 0)) (.str "share")) [
    .ret (.tup [(.tup [(.var 2), (.var 2)]), (.bin .add (.var 8) (.tup [(.var 2)])), (.int 2), (.int 1), (.int 0)])] [],
  .ret (.tup [(.tup [(.var 2), (.var 2)]), (.call "thirds" [(.bin .add (.bin .mul (.int 2) (.var 2)) (.int 1))]), (.int 3), (.int 1), (.int 0)])]
def fd_put_change : Fd := ⟨2, 10, ir_put_change, false, false⟩
def ir_take_change : List IS := [
  .asg (.tup [2, 3, 4, 5, 6]) (.var 0),
  .asg (.name 7) (.idx (.var 1) (.int 0)),
  .ifs (.cmp .gt (.var 7) (.var 3)) [
    .ret (.tup [(.tup [(.var 7)]), (.tup [(.bin .sub (.var 7) (.int 1))]), (.int 1), (.int 0), (.int 0)])] [],
  .asg (.name 8) (.idx (.var 1) (.int 1)),
  .ifs (.cmp .le (.bin .add (.bin .sub (.var 3) (.int 1)) (.var 8)) (.var 5)) [
    .ret (.tup [(.tup [(.var 3), (.var 8)]), (.tup [(.bin .add (.bin .sub (.var 3) (.int 1)) (.var 8))]), (.int 1), (.int 0), (.int 1)])] [],
  .ret (.tup [(.tup [(.var 3), (.var 8)]), (.tup [(.var 3), (.bin .sub (.var 8) (.int 1))]), (.int 2), (.int 0), (.int 0)])]
def fd_take_change : Fd := ⟨2, 9, ir_take_change, false, false⟩
def ir_change_of : List IS := [
  .asg (.tup [2, 3, 4, 5, 6]) (.ite (.cmp .eq (.idx (.var 1) (.int 0)) (.str "put")) (.call "put_change" [(.var 0), (.sl (.var 1) (.some (.int 1)) .none)]) (.call "take_change" [(.var 0), (.sl (.var 1) (.some (.int 1)) .none)])),
  .asg (.name 7) (.idx (.var 0) (.int 4)),
  .asg (.name 8) (.bin .add (.bin .add (.bin .mul (.var 4) (.idx (.var 7) (.int 0))) (.bin .mul (.var 5) (.idx (.var 7) (.int 1)))) (.bin .mul (.var 6) (.idx (.var 7) (.int 2)))),
  .ret (.tup [(.bi .tuple [(.bi .sorted [(.var 2)])]), (.bi .tuple [(.bi .sorted [(.var 3)])]), (.var 8)])]
def fd_change_of : Fd := ⟨2, 9, ir_change_of, false, false⟩
def ir_is_right_deed : List IS := [
  .ifs (.or [(.not (.isi .tuple (.var 1))), (.cmp .nin (.bi .len [(.var 1)]) (.tup [(.int 2), (.int 3)])), (.not (.isi .str (.idx (.var 1) (.int 0))))]) [
    .ret (.bl false)] [],
  .ret (.and [(.bi .all [(.comp false [2] (.name 2) (.over (.sl (.var 1) (.some (.int 1)) .none)) .none (.call "is_whole" [(.var 2), (.int 1), (.int 7)]))]), (.cmp .in_ (.var 1) (.call "deeds_of" [(.var 0), (.str "all")]))])]
def fd_is_right_deed : Fd := ⟨2, 3, ir_is_right_deed, false, false⟩
def ir_need_deed : List IS := [
  .ifs (.not (.call "is_right_deed" [(.var 0), (.var 1)])) [
    .raise_ "InvalidDeed" .none] []]
def fd_need_deed : Fd := ⟨2, 2, ir_need_deed, false, false⟩
def ir_change : List IS := [
  .expr (.call "need_rule" [(.var 0)]),
  .expr (.call "need_deed" [(.var 0), (.var 1)]),
  .ret (.call "change_of" [(.var 0), (.var 1)])]
def fd_change : Fd := ⟨2, 2, ir_change, false, false⟩
def ir_law_known : List IS := [
  .asg (.tup [0, 1]) (.tup [(.tup [(.int 3), (.int 2), (.tup [(.str "part"), (.int 2)]), (.int 3), (.tup [(.int 1), (.int 2), (.int 2)])]), (.tup [(.int 3), (.int 1), (.tup [(.str "part"), (.int 2)]), (.int 1), (.tup [(.int 1), (.int 2), (.int 2)])])]),
  .ret (.tup [(.var 0), (.var 1), (.tup [(.int 3), (.int 2), (.tup [(.str "share"), (.int 2)]), (.int 3), (.tup [(.int 1), (.int 2), (.int 2)])]), (.tup [(.int 2), (.int 1), (.tup [(.str "part"), (.int 1)]), (.int 1), (.tup [(.int 1), (.int 0), (.int 0)])])])]
def fd_law_known : Fd := ⟨0, 2, ir_law_known, false, false⟩
def ir_measure : List IS := [
  .asg (.tup [0, 1]) (.tup [(.bi .abs [(.var 0)]), (.bi .abs [(.var 1)])]),
  .while_ (.cmp .ne (.var 1) (.int 0)) [
    .asg (.tup [0, 1]) (.tup [(.var 1), (.bin .mod (.var 0) (.var 1))])],
  .ret (.var 0)]
def fd_measure : Fd := ⟨2, 2, ir_measure, false, false⟩
def ir_lowest : List IS := [
  .ifs (.cmp .lt (.var 1) (.int 0)) [
    .asg (.tup [0, 1]) (.tup [(.neg (.var 0)), (.neg (.var 1))])] [],
  .asg (.name 2) (.call "measure" [(.var 0), (.var 1)]),
  .ret (.tup [(.bin .fdiv (.var 0) (.var 2)), (.bin .fdiv (.var 1) (.var 2))])]
def fd_lowest : Fd := ⟨2, 3, ir_lowest, false, false⟩
def ir_plus : List IS := [
  .ret (.call "lowest" [(.bin .add (.bin .mul (.idx (.var 0) (.int 0)) (.idx (.var 1) (.int 1))) (.bin .mul (.idx (.var 1) (.int 0)) (.idx (.var 0) (.int 1)))), (.bin .mul (.idx (.var 0) (.int 1)) (.idx (.var 1) (.int 1)))])]
def fd_plus : Fd := ⟨2, 2, ir_plus, false, false⟩
def ir_times : List IS := [
  .ret (.call "lowest" [(.bin .mul (.idx (.var 0) (.int 0)) (.idx (.var 1) (.int 0))), (.bin .mul (.idx (.var 0) (.int 1)) (.idx (.var 1) (.int 1)))])]
def fd_times : Fd := ⟨2, 2, ir_times, false, false⟩
def ir_over : List IS := [
  .ret (.call "lowest" [(.bin .mul (.idx (.var 0) (.int 0)) (.idx (.var 1) (.int 1))), (.bin .mul (.idx (.var 0) (.int 1)) (.idx (.var 1) (.int 0)))])]
def fd_over : Fd := ⟨2, 2, ir_over, false, false⟩
def ir_is_less : List IS := [
  .ret (.cmp .lt (.bin .mul (.idx (.var 0) (.int 0)) (.idx (.var 1) (.int 1))) (.bin .mul (.idx (.var 1) (.int 0)) (.idx (.var 0) (.int 1))))]
def fd_is_less : Fd := ⟨2, 2, ir_is_less, false, false⟩
def ir_nets_of : List IS := [
  .asg (.tup [2, 3, 4]) (.call "change_of" [(.var 0), (.var 1)]),
  .ret (.comp false [5] (.name 5) (.range2 (.idx (.var 0) (.int 1)) (.bin .add (.idx (.var 0) (.int 0)) (.int 1))) .none (.bin .sub (.meth .countT (.var 3) [(.var 5)]) (.meth .countT (.var 2) [(.var 5)])))]
def fd_nets_of : Fd := ⟨2, 6, ir_nets_of, false, false⟩
def ir_turned : List IS := [
  .asg (.name 4) (.idx (.idx (.var 0) (.var 2)) (.var 3)),
  .asg (.name 5) (.comp true [9] (.name 9) (.over (.idx (.var 0) (.var 2))) .none (.call "over" [(.tup [(.neg (.idx (.var 9) (.int 0))), (.idx (.var 9) (.int 1))]), (.var 4)])),
  .asub (.var 5) (.var 3) (.call "over" [(.gcon "ONE"), (.var 4)]),
  .asg (.name 6) (.lst true []),
  .for_ (.tup [7, 8]) (.enum (.var 0)) [
    .expr (.meth .append (.var 6) [(.ite (.cmp .eq (.var 7) (.var 2)) (.var 5) (.call "put_in" [(.var 8), (.var 5), (.var 3)]))])],
  .ret (.tup [(.var 6), (.call "put_in" [(.var 1), (.var 5), (.var 3)])])]
def fd_turned : Fd := ⟨4, 10, ir_turned, false, true⟩
def ir_put_in : List IS := [
  .asg (.name 3) (.idx (.var 0) (.var 2)),
  .asg (.name 4) (.comp true [5, 6] (.tup [5, 6]) (.zip (.var 0) (.var 1)) .none (.call "plus" [(.var 5), (.call "times" [(.var 3), (.var 6)])])),
  .asub (.var 4) (.var 2) (.call "times" [(.var 3), (.idx (.var 1) (.var 2))]),
  .ret (.var 4)]
def fd_put_in : Fd := ⟨3, 7, ir_put_in, false, true⟩
def ir_entering : List IS := [
  .asg (.name 3) .non,
  .for_ (.name 4) (.range2 (.int 1) (.bi .len [(.var 0)])) [
    .ifs (.cmp .gt (.idx (.idx (.var 0) (.var 4)) (.int 0)) (.int 0)) [
      .asg (.name 5) (.tup [(.call "over" [(.idx (.var 1) (.var 4)), (.idx (.var 0) (.var 4))]), (.idx (.var 2) (.var 4)), (.var 4)]),
      .ifs (.or [(.isN false (.var 3)), (.call "is_less" [(.idx (.var 5) (.int 0)), (.idx (.var 3) (.int 0))]), (.and [(.cmp .eq (.idx (.var 5) (.int 0)) (.idx (.var 3) (.int 0))), (.cmp .lt (.idx (.var 5) (.int 1)) (.idx (.var 3) (.int 1)))])]) [
        .asg (.name 3) (.var 5)] []] []],
  .ret (.idx (.var 3) (.int 2))]
def fd_entering : Fd := ⟨3, 6, ir_entering, false, false⟩
def ir_rate_of : List IS := [
  .ret (.idx (.call "solved" [(.var 0), (.var 1)]) (.int 0))]
def fd_rate_of : Fd := ⟨2, 2, ir_rate_of, false, false⟩
def ir_round_in : List IS := [
  .asg (.name 2) (.idx (.call "solved" [(.var 0), (.var 1)]) (.int 2)),
  .ifs (.cmp .eq (.var 2) (.lst false [])) [
    .asg (.name 2) (.idx (.call "solved" [(.bin .add (.sl (.var 0) .none (.some (.int 4))) (.tup [(.tup [(.int 1), (.int 0), (.int 0)])])), (.var 1)]) (.int 2))] [],
  .asg (.name 3) (.int 1),
  .for_ (.tup [4, 5]) (.over (.var 2)) [
    .asg (.name 3) (.bin .fdiv (.bin .mul (.var 3) (.idx (.var 5) (.int 1))) (.call "measure" [(.var 3), (.idx (.var 5) (.int 1))]))],
  .ret (.bi .tuple [(.comp false [4, 5] (.tup [4, 5]) (.over (.var 2)) .none (.tup [(.var 4), (.bin .fdiv (.bin .mul (.idx (.var 5) (.int 0)) (.var 3)) (.idx (.var 5) (.int 1)))]))])]
def fd_round_in : Fd := ⟨2, 6, ir_round_in, false, false⟩
def ir_rate : List IS := [
  .expr (.call "need_rule" [(.var 0)]),
  .expr (.call "need_kinds" [(.var 1)]),
  .ret (.call "rate_of" [(.var 0), (.var 1)])]
def fd_rate : Fd := ⟨2, 2, ir_rate, false, false⟩
def ir_worths : List IS := [
  .expr (.call "need_rule" [(.var 0)]),
  .expr (.call "need_kinds" [(.var 1)]),
  .ret (.idx (.call "solved" [(.var 0), (.var 1)]) (.int 1))]
def fd_worths : Fd := ⟨2, 2, ir_worths, false, false⟩
def ir_best_round : List IS := [
  .expr (.call "need_rule" [(.var 0)]),
  .expr (.call "need_kinds" [(.var 1)]),
  .ret (.call "round_in" [(.var 0), (.var 1)])]
def fd_best_round : Fd := ⟨2, 2, ir_best_round, false, false⟩
def ir_law_is_fraction : List IS := [
  .ifs (.or [(.not (.isi .tuple (.var 0))), (.cmp .ne (.bi .len [(.var 0)]) (.int 2)), (.cmp .ne (.comp false [1] (.name 1) (.over (.var 0)) .none (.call "_law_kind" [(.var 1)])) (.lst false [(.int 1), (.int 1)]))]) [
    .ret (.bl false)] [],
  .ret (.and [(.cmp .ge (.idx (.var 0) (.int 0)) (.int 0)), (.cmp .gt (.idx (.var 0) (.int 1)) (.int 0)), (.cmp .eq (.call "_law_low" [(.idx (.var 0) (.int 0)), (.idx (.var 0) (.int 1))]) (.var 0))])]
def fd_law_is_fraction : Fd := ⟨1, 2, ir_law_is_fraction, false, false⟩
def ir_law_sum : List IS := [
  .asg (.tup [3, 4]) (.tup [(.int 0), (.int 1)]),
  .for_ (.name 5) (.over (.var 1)) [
    .asg (.name 6) (.idx (.var 0) (.bin .sub (.var 5) (.var 2))),
    .asg (.tup [3, 4]) (.call "_law_low" [(.bin .add (.bin .mul (.var 3) (.idx (.var 6) (.int 1))) (.bin .mul (.idx (.var 6) (.int 0)) (.var 4))), (.bin .mul (.var 4) (.idx (.var 6) (.int 1)))])],
  .ret (.tup [(.var 3), (.var 4)])]
def fd_law_sum : Fd := ⟨3, 7, ir_law_sum, false, false⟩
def ir_law_shown : List IS := [
  .for_ (.name 4) (.over (.call "_law_moves" [(.var 0), (.var 1)])) [
    .asg (.tup [5, 6, 7]) (.call "_law_turn" [(.var 0), (.var 4)]),
    .asg (.tup [8, 9]) (.tup [(.call "_law_sum" [(.var 3), (.var 6), (.idx (.var 0) (.int 1))]), (.call "_law_sum" [(.var 3), (.var 5), (.idx (.var 0) (.int 1))])]),
    .asg (.name 10) (.bin .sub (.bin .add (.bin .mul (.bin .mul (.var 7) (.idx (.var 8) (.int 1))) (.idx (.var 9) (.int 1))) (.bin .mul (.idx (.var 8) (.int 0)) (.idx (.var 9) (.int 1)))) (.bin .mul (.idx (.var 9) (.int 0)) (.idx (.var 8) (.int 1)))),
    .ifs (.cmp .gt (.bin .mul (.var 10) (.idx (.var 2) (.int 1))) (.bin .mul (.bin .mul (.idx (.var 2) (.int 0)) (.idx (.var 8) (.int 1))) (.idx (.var 9) (.int 1)))) [
      .ret (.bl false)] []],
  .ret (.bl true)]
def fd_law_shown : Fd := ⟨4, 11, ir_law_shown, false, false⟩
def ir_law_left : List IS := [
  .asg (.name 2) (.bin .mulm (.lst false [(.int 0)]) (.bin .add (.bin .sub (.idx (.var 0) (.int 0)) (.idx (.var 0) (.int 1))) (.int 1))),
  .for_ (.tup [3, 4]) (.over (.var 1)) [
    .asg (.tup [5, 6, 7]) (.call "_law_turn" [(.var 0), (.var 3)]),
    .for_ (.name 8) (.over (.var 5)) [
      .asub (.var 2) (.bin .sub (.var 8) (.idx (.var 0) (.int 1))) (.bin .sub (.idx (.var 2) (.bin .sub (.var 8) (.idx (.var 0) (.int 1)))) (.var 4))],
    .for_ (.name 8) (.over (.var 6)) [
      .asub (.var 2) (.bin .sub (.var 8) (.idx (.var 0) (.int 1))) (.bin .add (.idx (.var 2) (.bin .sub (.var 8) (.idx (.var 0) (.int 1)))) (.var 4))]],
  .ret (.var 2)]
def fd_law_left : Fd := ⟨2, 9, ir_law_left, false, true⟩
def ir_law_mean : List IS := [
  .asg (.name 2) (.bi .sum [(.comp false [3, 4] (.tup [3, 4]) (.over (.var 1)) .none (.bin .mul (.var 4) (.idx (.call "_law_turn" [(.var 0), (.var 3)]) (.int 2))))]),
  .ret (.call "_law_low" [(.var 2), (.bi .sum [(.comp false [3, 4] (.tup [3, 4]) (.over (.var 1)) .none (.var 4))])])]
def fd_law_mean : Fd := ⟨2, 5, ir_law_mean, false, false⟩
def ir_law_is_paper : List IS := [
  .ifs (.or [(.not (.isi .tuple (.var 1))), (.cmp .ne (.bi .len [(.var 1)]) (.bin .add (.bin .sub (.idx (.var 0) (.int 0)) (.idx (.var 0) (.int 1))) (.int 1)))]) [
    .ret (.bl false)] [],
  .ret (.cmp .eq (.comp false [2] (.name 2) (.over (.var 1)) (.some (.not (.call "_law_is_fraction" [(.var 2)]))) (.var 2)) (.lst false []))]
def fd_law_is_paper : Fd := ⟨2, 3, ir_law_is_paper, false, false⟩
def ir_is_fraction : List IS := [
  .ifs (.or [(.not (.isi .tuple (.var 0))), (.cmp .ne (.bi .len [(.var 0)]) (.int 2)), (.not (.call "is_whole" [(.idx (.var 0) (.int 0)), (.int 0), (.bin .pow (.int 10) (.int 9))]))]) [
    .ret (.bl false)] [],
  .ret (.and [(.call "is_whole" [(.idx (.var 0) (.int 1)), (.int 1), (.bin .pow (.int 10) (.int 9))]), (.cmp .eq (.call "measure" [(.idx (.var 0) (.int 0)), (.idx (.var 0) (.int 1))]) (.int 1))])]
def fd_is_fraction : Fd := ⟨1, 1, ir_is_fraction, false, false⟩
def ir_are_right_worths : List IS := [
  .ifs (.or [(.not (.isi .tuple (.var 1))), (.cmp .ne (.bi .len [(.var 1)]) (.bin .add (.bin .sub (.idx (.var 0) (.int 0)) (.idx (.var 0) (.int 1))) (.int 1)))]) [
    .ret (.bl false)] [],
  .ret (.bi .all [(.comp false [2] (.name 2) (.over (.var 1)) .none (.call "is_fraction" [(.var 2)]))])]
def fd_are_right_worths : Fd := ⟨2, 3, ir_are_right_worths, false, false⟩
def ir_is_right_row : List IS := [
  .ifs (.or [(.not (.isi .tuple (.var 2))), (.cmp .eq (.var 2) (.tup []))]) [
    .ret (.bl false)] [],
  .asg (.name 3) (.call "deeds_of" [(.var 0), (.var 1)]),
  .for_ (.name 4) (.over (.var 2)) [
    .ifs (.or [(.not (.isi .tuple (.var 4))), (.cmp .ne (.bi .len [(.var 4)]) (.int 2)), (.not (.call "is_whole" [(.idx (.var 4) (.int 1)), (.int 1), (.gcon "MOST_TIMES")]))]) [
      .ret (.bl false)] [],
    .ifs (.or [(.not (.call "is_right_deed" [(.var 0), (.idx (.var 4) (.int 0))])), (.cmp .nin (.idx (.var 4) (.int 0)) (.var 3))]) [
      .ret (.bl false)] []],
  .ret (.bi .all [(.comp false [5, 6] (.tup [5, 6]) (.zip (.var 2) (.sl (.var 2) (.some (.int 1)) .none)) .none (.cmp .lt (.idx (.var 5) (.int 0)) (.idx (.var 6) (.int 0))))])]
def fd_is_right_row : Fd := ⟨3, 7, ir_is_right_row, false, false⟩
def ir_is_good_round : List IS := [
  .ifs (.not (.call "is_right_row" [(.var 0), (.var 1), (.var 2)])) [
    .ret (.bl false)] [],
  .asg (.name 3) (.bin .mul (.lst false [(.int 0)]) (.bin .add (.bin .sub (.idx (.var 0) (.int 0)) (.idx (.var 0) (.int 1))) (.int 1))),
  .for_ (.tup [4, 5]) (.over (.var 2)) [
    .asg (.name 3) (.comp false [6, 7] (.tup [6, 7]) (.zip (.var 3) (.call "nets_of" [(.var 0), (.var 4)])) .none (.bin .add (.var 6) (.bin .mul (.var 5) (.var 7))))],
  .ret (.bi .all [(.comp false [6] (.name 6) (.over (.var 3)) .none (.cmp .ge (.var 6) (.int 0)))])]
def fd_is_good_round : Fd := ⟨3, 8, ir_is_good_round, false, false⟩
def ir_toll_by : List IS := [
  .asg (.name 2) (.bi .sum [(.comp false [3, 4] (.tup [3, 4]) (.over (.var 1)) .none (.bin .mul (.var 4) (.idx (.call "change_of" [(.var 0), (.var 3)]) (.int 2))))]),
  .ret (.call "lowest" [(.var 2), (.bi .sum [(.comp false [3, 4] (.tup [3, 4]) (.over (.var 1)) .none (.var 4))])])]
def fd_toll_by : Fd := ⟨2, 5, ir_toll_by, false, false⟩
def ir_gain_of : List IS := [
  .asg (.name 3) (.tup [(.idx (.call "change_of" [(.var 0), (.var 2)]) (.int 2)), (.int 1)]),
  .for_ (.tup [4, 5]) (.zip (.call "nets_of" [(.var 0), (.var 2)]) (.var 1)) [
    .asg (.name 3) (.call "plus" [(.var 3), (.tup [(.bin .mul (.var 4) (.idx (.var 5) (.int 0))), (.idx (.var 5) (.int 1))])])],
  .ret (.var 3)]
def fd_gain_of : Fd := ⟨3, 6, ir_gain_of, false, false⟩
def ir_do_show : List IS := [
  .ret (.not (.bi .any [(.comp false [4] (.name 4) (.over (.call "deeds_of" [(.var 0), (.var 1)])) .none (.call "is_less" [(.var 2), (.call "gain_of" [(.var 0), (.var 3), (.var 4)])]))]))]
def fd_do_show : Fd := ⟨4, 5, ir_do_show, false, false⟩
def ir_need_rate : List IS := [
  .ifs (.not (.call "is_fraction" [(.var 0)])) [
    .raise_ "InvalidPaper" .none] []]
def fd_need_rate : Fd := ⟨1, 1, ir_need_rate, false, false⟩
def ir_shows : List IS := [
  .expr (.call "need_rule" [(.var 0)]),
  .expr (.call "need_kinds" [(.var 1)]),
  .expr (.call "need_rate" [(.var 2)]),
  .ifs (.not (.call "are_right_worths" [(.var 0), (.var 3)])) [
    .raise_ "InvalidPaper" .none] [],
  .ret (.call "do_show" [(.var 0), (.var 1), (.var 2), (.var 3)])]
def fd_shows : Fd := ⟨4, 4, ir_shows, false, false⟩
def ir_is_round : List IS := [
  .expr (.call "need_rule" [(.var 0)]),
  .expr (.call "need_kinds" [(.var 1)]),
  .ret (.call "is_good_round" [(.var 0), (.var 1), (.var 2)])]
def fd_is_round : Fd := ⟨3, 3, ir_is_round, false, false⟩
def ir_toll_of : List IS := [
  .expr (.call "need_rule" [(.var 0)]),
  .expr (.call "need_kinds" [(.var 1)]),
  .ifs (.not (.call "is_good_round" [(.var 0), (.var 1), (.var 2)])) [
    .raise_ "InvalidPaper" .none] [],
  .ret (.call "toll_by" [(.var 0), (.var 2)])]
def fd_toll_of : Fd := ⟨3, 3, ir_toll_of, false, false⟩
def ir_change_rate : List IS := [
  .expr (.call "need_rule" [(.var 0)]),
  .expr (.call "need_kinds" [(.var 1)]),
  .ret (.call "rate_of" [(.bin .add (.sl (.var 0) .none (.some (.int 4))) (.tup [(.tup [(.int 0), (.int 1), (.int 1)])])), (.var 1)])]
def fd_change_rate : Fd := ⟨2, 2, ir_change_rate, false, false⟩
def ir_rules_of : List IS := [
  .asg (.name 3) (.lst true []),
  .for_ (.name 4) (.range2 (.int 1) (.bin .add (.bin .fdiv (.bin .add (.var 0) (.int 1)) (.int 2)) (.int 1))) [
    .for_ (.name 5) (.range1 (.bin .add (.var 0) (.int 1))) [
      .for_ (.name 6) (.range2 (.int 1) (.bin .add (.var 0) (.int 1))) [
        .asg (.name 7) (.tup [(.var 0), (.var 4), (.tup [(.var 1), (.var 5)]), (.var 6), (.var 2)]),
        .ifs (.call "is_right_rule" [(.var 7)]) [
          .expr (.meth .append (.var 3) [(.var 7)])] []]]],
  .ret (.var 3)]
def fd_rules_of : Fd := ⟨3, 8, ir_rules_of, false, true⟩
def ir_compared : List IS := [
  .expr (.call "need_rule" [(.var 0)]),
  .expr (.call "need_rule" [(.var 1)]),
  .expr (.call "need_kinds" [(.var 2)]),
  .asg (.tup [3, 4]) (.tup [(.call "rate_of" [(.var 0), (.var 2)]), (.call "rate_of" [(.var 1), (.var 2)])]),
  .ifs (.cmp .eq (.var 3) (.var 4)) [
    .ret (.str "same")] [],
  .ret (.ite (.call "is_less" [(.var 3), (.var 4)]) (.str "cheaper") (.str "dearer"))]
def fd_compared : Fd := ⟨3, 5, ir_compared, false, false⟩
def ir_best_rules : List IS := [
  .ifs (.not (.call "is_whole" [(.var 0), (.int 2), (.int 4)])) [
    .raise_ "InvalidNumber" .none] [],
  .ifs (.or [(.not (.isi .str (.var 1))), (.cmp .nin (.var 1) (.gcon "SPLITS")), (.not (.call "are_tolls" [(.var 2)]))]) [
    .raise_ "InvalidRule" .none] [],
  .expr (.call "need_kinds" [(.var 3)]),
  .asg (.name 4) (.comp false [7] (.name 7) (.over (.call "rules_of" [(.var 0), (.var 1), (.var 2)])) .none (.tup [(.call "rate_of" [(.var 7), (.var 3)]), (.var 7)])),
  .asg (.name 5) (.idx (.idx (.var 4) (.int 0)) (.int 0)),
  .for_ (.tup [6, 7]) (.over (.var 4)) [
    .asg (.name 5) (.ite (.call "is_less" [(.var 6), (.var 5)]) (.var 6) (.var 5))],
  .ret (.tup [(.var 5), (.comp false [6, 7] (.tup [6, 7]) (.over (.var 4)) (.some (.cmp .eq (.var 6) (.var 5))) (.var 7))])]
def fd_best_rules : Fd := ⟨4, 8, ir_best_rules, false, false⟩
def ir_need_stock : List IS := [
  .asg (.name 2) (.bin .add (.bin .sub (.idx (.var 0) (.int 0)) (.idx (.var 0) (.int 1))) (.int 1)),
  .asg (.name 3) (.and [(.isi .tuple (.var 1)), (.cmp .eq (.bi .len [(.var 1)]) (.var 2))]),
  .ifs (.or [(.not (.var 3)), (.not (.bi .all [(.comp false [4] (.name 4) (.over (.var 1)) .none (.call "is_whole" [(.var 4), (.int 0), (.gcon "MOST_LEAVES")]))]))]) [
    .raise_ "InvalidStock" .none] []]
def fd_need_stock : Fd := ⟨2, 5, ir_need_stock, false, false⟩
def ir_need_row : List IS := [
  .ifs (.or [(.not (.isi .tuple (.var 1))), (.cmp .gt (.bi .len [(.var 1)]) (.gcon "MOST_DEEDS")), (.not (.bi .all [(.comp false [2] (.name 2) (.over (.var 1)) .none (.call "is_right_deed" [(.var 0), (.var 2)]))]))]) [
    .raise_ "InvalidDeed" .none] []]
def fd_need_row : Fd := ⟨2, 3, ir_need_row, false, false⟩
def ir_behind : List IS := [
  .asg (.tup [3, 4, 5]) (.call "change_of" [(.var 0), (.var 2)]),
  .asg (.name 6) (.lst true []),
  .for_ (.tup [7, 8]) (.enum (.var 1)) [
    .asg (.name 9) (.bin .add (.idx (.var 0) (.int 1)) (.var 7)),
    .ifs (.cmp .gt (.meth .countT (.var 3) [(.var 9)]) (.var 8)) [
      .ret .non] [],
    .expr (.meth .append (.var 6) [(.bin .add (.bin .sub (.var 8) (.meth .countT (.var 3) [(.var 9)])) (.meth .countT (.var 4) [(.var 9)]))])],
  .ret (.bi .tuple [(.var 6)])]
def fd_behind : Fd := ⟨3, 10, ir_behind, false, true⟩
def ir_keys_in : List IS := [
  .ret (.bi .sum [(.comp false [2, 3] (.tup [2, 3]) (.enum (.var 1)) .none (.bin .mul (.var 3) (.bin .add (.idx (.var 0) (.int 1)) (.var 2))))])]
def fd_keys_in : Fd := ⟨2, 4, ir_keys_in, false, false⟩
def ir_can : List IS := [
  .expr (.call "need_rule" [(.var 0)]),
  .expr (.call "need_stock" [(.var 0), (.var 1)]),
  .ret (.comp false [2] (.name 2) (.over (.call "deeds_of" [(.var 0), (.str "all")])) (.some (.isN true (.call "behind" [(.var 0), (.var 1), (.var 2)]))) (.var 2))]
def fd_can : Fd := ⟨2, 3, ir_can, false, false⟩
def ir_keys : List IS := [
  .expr (.call "need_rule" [(.var 0)]),
  .expr (.call "need_stock" [(.var 0), (.var 1)]),
  .ret (.call "keys_in" [(.var 0), (.var 1)])]
def fd_keys : Fd := ⟨2, 2, ir_keys, false, false⟩
def ir_done : List IS := [
  .expr (.call "need_rule" [(.var 0)]),
  .expr (.call "need_stock" [(.var 0), (.var 1)]),
  .expr (.call "need_deed" [(.var 0), (.var 2)]),
  .asg (.name 3) (.call "behind" [(.var 0), (.var 1), (.var 2)]),
  .ifs (.isN false (.var 3)) [
    .raise_ "Impossible" .none] [],
  .ret (.var 3)]
def fd_done : Fd := ⟨3, 4, ir_done, false, false⟩
def ir_played : List IS := [
  .expr (.call "need_rule" [(.var 0)]),
  .expr (.call "need_stock" [(.var 0), (.var 1)]),
  .expr (.call "need_row" [(.var 0), (.var 2)]),
  .asg (.name 3) (.int 0),
  .for_ (.name 4) (.over (.var 2)) [
    .asg (.tup [1, 3]) (.tup [(.call "behind" [(.var 0), (.var 1), (.var 4)]), (.bin .add (.var 3) (.idx (.call "change_of" [(.var 0), (.var 4)]) (.int 2)))]),
    .ifs (.isN false (.var 1)) [
      .raise_ "Impossible" .none] []],
  .ret (.tup [(.var 1), (.var 3)])]
def fd_played : Fd := ⟨3, 5, ir_played, false, false⟩
def ir_law_next : List IS := [
  .asg (.tup [3, 4, 5]) (.call "_law_turn" [(.var 0), (.var 2)]),
  .asg (.name 6) (.bi .listm [(.var 1)]),
  .for_ (.name 7) (.over (.var 3)) [
    .asub (.var 6) (.bin .sub (.var 7) (.idx (.var 0) (.int 1))) (.bin .sub (.idx (.var 6) (.bin .sub (.var 7) (.idx (.var 0) (.int 1)))) (.int 1))],
  .ifs (.cmp .lt (.bi .min [(.var 6)]) (.int 0)) [
    .ret .non] [],
  .for_ (.name 7) (.over (.var 4)) [
    .asub (.var 6) (.bin .sub (.var 7) (.idx (.var 0) (.int 1))) (.bin .add (.idx (.var 6) (.bin .sub (.var 7) (.idx (.var 0) (.int 1)))) (.int 1))],
  .ret (.bi .tuple [(.var 6)])]
def fd_law_next : Fd := ⟨3, 8, ir_law_next, false, true⟩
def ir_lines_of : List IS := [
  .asg (.tup [1, 2, 3, 4, 5]) (.var 0),
  .asg (.name 6) (.comp false [7] (.name 7) (.over (.var 5)) .none (.bi .str [(.var 7)])),
  .ret (.lst false [(.fstr [(.str "room "), (.var 1)]), (.fstr [(.str "low "), (.var 2)]), (.fstr [(.str "split "), (.idx (.var 3) (.int 0)), (.str " "), (.idx (.var 3) (.int 1))]), (.fstr [(.str "join "), (.var 4)]), (.bin .add (.str "tolls ") (.meth .join (.str " ") [(.var 6)]))])]
def fd_lines_of : Fd := ⟨1, 8, ir_lines_of, false, false⟩
def ir_figure : List IS := [
  .asg (.name 1) (.comp false [2] (.name 2) (.range1 (.int 10)) (.some (.cmp .eq (.bi .str [(.var 2)]) (.var 0))) (.var 2)),
  .ret (.ite (.cmp .ne (.var 1) (.lst false [])) (.idx (.var 1) (.int 0)) .non)]
def fd_figure : Fd := ⟨1, 3, ir_figure, false, false⟩
def ir_line_value : List IS := [
  .asg (.name 2) (.meth .split (.var 1) [(.str " ")]),
  .ifs (.cmp .ne (.idx (.var 2) (.int 0)) (.idx (.tup [(.str "room"), (.str "low"), (.str "split"), (.str "join"), (.str "tolls")]) (.var 0))) [
    .ret .non] [],
  .ifs (.cmp .eq (.var 0) (.int 2)) [
    .asg (.name 3) (.and [(.cmp .eq (.bi .len [(.var 2)]) (.int 3)), (.cmp .in_ (.idx (.var 2) (.int 1)) (.gcon "SPLITS")), (.isN true (.call "figure" [(.idx (.var 2) (.int 2))]))]),
    .ret (.ite (.var 3) (.tup [(.idx (.var 2) (.int 1)), (.call "figure" [(.idx (.var 2) (.int 2))])]) .non)] [],
  .asg (.name 4) (.bi .tuple [(.comp false [5] (.name 5) (.over (.sl (.var 2) (.some (.int 1)) .none)) .none (.call "figure" [(.var 5)]))]),
  .ifs (.or [(.cmp .in_ .non (.var 4)), (.cmp .ne (.bi .len [(.var 4)]) (.ite (.cmp .eq (.var 0) (.int 4)) (.int 3) (.int 1)))]) [
    .ret .non] [],
  .ret (.ite (.cmp .eq (.var 0) (.int 4)) (.var 4) (.idx (.var 4) (.int 0)))]
def fd_line_value : Fd := ⟨2, 6, ir_line_value, false, false⟩
def ir_rule_text : List IS := [
  .expr (.call "need_rule" [(.var 0)]),
  .ret (.meth .join (.str "\n") [(.call "lines_of" [(.var 0)])])]
def fd_rule_text : Fd := ⟨1, 1, ir_rule_text, false, false⟩
def ir_read_rule : List IS := [
  .ifs (.not (.isi .str (.var 0))) [
    .raise_ "InvalidText" (.some (.int 0))] [],
  .asg (.tup [1, 2]) (.tup [(.meth .split (.var 0) [(.str "\n")]), (.tup [])]),
  .for_ (.tup [3, 4]) (.enum (.var 1)) [
    .asg (.name 5) (.ite (.cmp .lt (.var 3) (.int 5)) (.call "line_value" [(.var 3), (.var 4)]) .non),
    .ifs (.isN false (.var 5)) [
      .raise_ "InvalidText" (.some (.bin .add (.var 3) (.int 1)))] [],
    .asg (.name 2) (.bin .add (.var 2) (.tup [(.var 5)]))],
  .ifs (.not (.call "is_right_rule" [(.var 2)])) [
    .raise_ "InvalidText" (.some (.bin .add (.bi .len [(.var 1)]) (.int 1)))] [],
  .ret (.var 2)]
def fd_read_rule : Fd := ⟨1, 6, ir_read_rule, false, false⟩
def ir_table_of : List IS := [
  .ret (.comp false [1] (.name 1) (.over (.call "deeds_of" [(.var 0), (.str "all")])) .none (.tup [(.var 1), (.call "change_of" [(.var 0), (.var 1)])]))]
def fd_table_of : Fd := ⟨1, 2, ir_table_of, false, false⟩
def ir_wall : List IS := [
  .while_ (.bl true) [
    .pass]]
def fd_wall : Fd := ⟨1, 1, ir_wall, false, false⟩
def ir_is_step : List IS := [
  .ifs (.or [(.not (.isi .tuple (.var 0))), (.cmp .ne (.bi .len [(.var 0)]) (.int 2)), (.not (.isi .str (.idx (.var 0) (.int 0))))]) [
    .ret (.bl false)] [],
  .ret (.and [(.cmp .in_ (.idx (.var 0) (.int 0)) (.tup [(.str "put"), (.str "take")])), (.call "is_whole" [(.idx (.var 0) (.int 1)), (.int 0), (.int 99)])])]
def fd_is_step : Fd := ⟨1, 1, ir_is_step, false, false⟩
/-- the program has this def -/
class HasF (p : Prog) (x : Str) (fd : outParam Fd) : Prop where
  h : p.fns.lookup x = some fd
end LT
set_option Elab.async false
set_option linter.all false
set_option maxRecDepth 100000
set_option maxHeartbeats 2000000
/-! Own layer, part Q: reading the evaluator. -/
namespace LT
open PySem
/-- the program's constant -/
class HasC (p : Prog) (x : Str) (d : outParam D) : Prop where
  h : p.con x = some d
section
variable {p : Prog} {x : Str} {fd : Fd} {d : D} {n : Nat} {ds : List D} {S : Sto} {env : Env'}
theorem at_call [h : HasF p x fd] : (p.at (n + 1)).call x ds S = runFd (p.at n) p.xcs fd ds S := by
  show (match p.fns.lookup x with | some fd => runFd (p.at n) p.xcs fd ds S | none => .bad) = _
  rw [h.h]
theorem at_lm : (p.at n).lm = false := by cases n <;> rfl
theorem at_con : (p.at n).con = p.con := by cases n <;> rfl
theorem at_fnv : (p.at n).fnv = p.fnv := by cases n <;> rfl
theorem fns_lm {F : Fns} (h : F.lm = false) : ({ F with lm := false } : Fns) = F := by obtain ⟨a, b, c, d, e⟩ := F; cases h; rfl
theorem at_with : ({ p.at n with lm := false } : Fns) = p.at n := fns_lm at_lm
theorem at_inC : (p.at n).inC = p.at n := fns_lm at_lm
theorem at_inC1 : ({ p.at n with lm := true } : Fns).inC = p.at n := at_with
theorem at_callE {f : Str} {xs : List D} : callE (p.at n) env f xs S = (p.at n).call f xs S := by
  unfold callE pubIf
  rw [at_lm]
  simp
  cases (p.at n).call f xs S <;> rfl
theorem at_bndC {tg : IT} {own : List Nat} : bndC (p.at n) tg own env d = bindT tg d (wipeE env own) := by
  unfold bndC envC
  rw [at_lm]
  simp
theorem at_bndC' {tg : IT} {own : List Nat} : bndC (p.at n) tg own env = fun d => bindT tg d (wipeE env own) := funext fun _ => at_bndC
@[simp] theorem at_envC : envC (p.at n) env = env := by unfold envC; rw [at_lm]; rfl
@[simp] theorem lineN_val : lineN = 16777216 := rfl
theorem at_gcon [h : HasC p x d] : (p.at n).con x = some d := by rw [at_con]; exact h.h
end
/-! ### ends -/
def Res.Sat {α : Type} (r : Res α) (Q : α → Sto → Prop) : Prop := match r with
  | .ok a S => Q a S
  | _ => False
section
variable {α β : Type} {r : Res α} {k : α → Sto → Res β} {Q Q' : α → Sto → Prop} {a : α} {S : Sto}
@[simp] theorem Res.sat_ok : (Res.ok a S).Sat Q = Q a S := rfl
@[simp] theorem Res.b_ok : (Res.ok a S).bind k = k a S := rfl
@[simp] theorem Res.b_exc {x : Exc} : (Res.exc x S : Res α).bind k = .exc x S := rfl
@[simp] theorem Res.b_bad : (Res.bad : Res α).bind k = .bad := rfl
theorem Res.sat_bind {Q : β → Sto → Prop} : (r.bind k).Sat Q = r.Sat fun a S => (k a S).Sat Q := by cases r <;> rfl
theorem Res.Sat.mono (h : r.Sat Q) (q : ∀ a S, Q a S → Q' a S) : r.Sat Q' := by cases r <;> first | exact q _ _ h | exact h.elim
theorem Res.Sat.ex (h : r.Sat Q) : ∃ a S, r = .ok a S ∧ Q a S := by cases r <;> first | exact ⟨_, _, rfl, h⟩ | exact h.elim
theorem Res.sat_iff : r.Sat Q ↔ ∃ a S, r = .ok a S ∧ Q a S := ⟨Res.Sat.ex, fun ⟨a, S, e, h⟩ => by rw [e]; exact h⟩
@[simp] theorem Res.calm_ok : (Res.ok a S).calm = .ok a S := rfl
theorem Res.calm_sat : r.calm.Sat Q = r.Sat Q := by cases r <;> rfl
end
def RS.Sat (r : RS) (N : Env' → Sto → Prop) (R : D → Sto → Prop) : Prop := match r with
  | .nx env S => N env S
  | .rt d S => R d S
  | _ => False
section
variable {α : Type} {r : Res α} {q : RS} {k : α → Sto → RS} {k2 : Env' → Sto → RS} {N N' : Env' → Sto → Prop} {R R' : D → Sto → Prop} {a : α} {d : D} {S : Sto} {env : Env'}
@[simp] theorem RS.sat_nx : (RS.nx env S).Sat N R = N env S := rfl
@[simp] theorem RS.sat_rt : (RS.rt d S).Sat N R = R d S := rfl
@[simp] theorem Res.toS_ok : (Res.ok a S).toS env k = k a S := rfl
@[simp] theorem Res.toS_exc {x : Exc} : (Res.exc x S : Res α).toS env k = .exc x env S := rfl
@[simp] theorem RS.next_nx : (RS.nx env S).next k2 = k2 env S := rfl
@[simp] theorem RS.next_rt : (RS.rt d S).next k2 = .rt d S := rfl
@[simp] theorem RS.next_exc {x : Exc} : (RS.exc x env S).next k2 = .exc x env S := rfl
theorem Res.toS_sat : (r.toS env k).Sat N R = r.Sat fun a S => (k a S).Sat N R := by cases r <;> rfl
theorem RS.next_sat : (q.next k2).Sat N R = q.Sat (fun e S => (k2 e S).Sat N R) R := by cases q <;> rfl
theorem RS.Sat.mono (h : q.Sat N R) (f : ∀ e S, N e S → N' e S) (g : ∀ d S, R d S → R' d S) : q.Sat N' R' := by cases q <;> first | exact f _ _ h | exact g _ _ h | exact h.elim
theorem RS.Sat.ex (h : q.Sat N R) : (∃ e S, q = .nx e S ∧ N e S) ∨ ∃ d S, q = .rt d S ∧ R d S := by cases q <;> first | exact .inl ⟨_, _, rfl, h⟩ | exact .inr ⟨_, _, rfl, h⟩ | exact h.elim
theorem outOf_sat {Q : D → Sto → Prop} (h : q.Sat (fun _ S => Q .non S) Q) : (outOf false q).Sat Q := by cases q <;> first | exact h | exact h.elim
theorem outOf_satE {Q : D → Sto → Prop} : (outOf false q).Sat Q = q.Sat (fun _ S => Q .non S) Q := by cases q <;> rfl
theorem toS_ite {c : Prop} [Decidable c] {a b : Res α} : (if c then a else b).toS env k = if c then a.toS env k else b.toS env k := by split <;> rfl
theorem bind_ite {β : Type} {c : Prop} [Decidable c] {a b : Res α} {k : α → Sto → Res β} : (if c then a else b).bind k = if c then a.bind k else b.bind k := by split <;> rfl
end
@[simp] theorem outOf_rt {d : D} {S : Sto} : outOf false (.rt d S) = .ok d S := rfl
@[simp] theorem outOf_nx {env : Env'} {S : Sto} : outOf false (.nx env S) = .ok .non S := rfl
@[simp] theorem outOf_exc {x : Exc} {env : Env'} {S : Sto} : outOf false (.exc x env S) = .exc x S := rfl
theorem sat_ite {α : Type} {c : Prop} [Decidable c] {a b : Res α} {Q : α → Sto → Prop} : (if c then a else b).Sat Q = if c then a.Sat Q else b.Sat Q := by split <;> rfl
theorem rsat_ite {c : Prop} [Decidable c] {a b : RS} {N : Env' → Sto → Prop} {R : D → Sto → Prop} : (if c then a else b).Sat N R = if c then a.Sat N R else b.Sat N R := by split <;> rfl
/-! ### what is walked, if nothing changes it -/
def Itr.fix? : Itr → Option (List D)
  | .one (.fix ds) => some ds
  | .rng lo n => some ((List.range n).map fun (i : Nat) => .int (lo + (i : Int)))
  | .zip (.fix a) (.fix b) => some (List.zipWith (fun x y => .tup [x, y]) a b)
  | .enum (.fix ds) => some ((ds.zipIdx).map fun x => .tup [.int (x.2 : Int), x.1])
  | _ => none
theorem Itr.fix_get {it : Itr} {ds : List D} (h : it.fix? = some ds) (S : Sto) (i : Nat) : it.get S i = some ds[i]? ∧ it.count S = ds.length := by
  unfold Itr.fix? at h
  split at h
  · cases h
    exact ⟨rfl, rfl⟩
  · rename_i lo n
    cases h
    refine ⟨?_, by simp [Itr.count]⟩
    simp only [Itr.get, List.getElem?_map]
    by_cases hi : i < n
    · simp [hi]
    · simp [hi]
  · rename_i a b
    cases h
    refine ⟨?_, by simp [Itr.count, Src.items]⟩
    simp only [Itr.get, Src.items, List.getElem?_zipWith]
    cases a[i]? <;> cases b[i]? <;> rfl
  · rename_i ds
    cases h
    refine ⟨?_, by simp [Itr.count, Src.items]⟩
    simp only [Itr.get, Src.items, List.getElem?_map, List.getElem?_zipIdx, Option.map_some]
    cases ds[i]? <;> simp
  · cases h
/-- a comprehension that changes nothing -/
theorem comp_go {it : Itr} {ds : List D} (hf : it.fix? = some ds) {bnd : D → Option Env'} {tst : Env' → Sto → Res Bool} {elt : Env' → Sto → Res D} {P : D → Bool} {g : D → D} {S : Sto}
    (h : ∀ d ∈ ds, ∃ env, bnd d = some env ∧ tst env S = .ok (P d) S ∧ (P d = true → elt env S = .ok (g d) S)) :
    ∀ (f i : Nat) (acc : List D), ds.length < f + i → compGo it bnd tst elt f i acc S = .ok (acc ++ ((ds.drop i).filter P).map g) S ∨ ds.length < i
  | 0, i, acc, hl => .inr (by omega)
  | f + 1, i, acc, hl => by
    by_cases hi : ds.length < i
    · exact .inr hi
    refine .inl ?_
    unfold compGo
    rw [(Itr.fix_get hf S i).1]
    by_cases hd : i < ds.length
    · rw [List.getElem?_eq_getElem hd]
      obtain ⟨env, e1, e2, e3⟩ := h ds[i] (List.getElem_mem hd)
      simp only [e1, e2, Res.b_ok]
      rw [List.drop_eq_getElem_cons hd]
      cases hp : P ds[i] with
      | true =>
        simp only [if_true, e3 hp, Res.b_ok, List.filter_cons, hp, List.map_cons]
        rcases comp_go hf h f (i + 1) (acc ++ [g ds[i]]) (by omega) with z | z
        · rw [z]; simp
        · omega
      | false =>
        simp only [Bool.false_eq_true, if_false, List.filter_cons, hp]
        rcases comp_go hf h f (i + 1) acc (by omega) with z | z
        · rw [z]
        · omega
    · rw [List.getElem?_eq_none (by omega), List.drop_eq_nil_of_le (by omega)]
      simp
/-- .. as it stands in the evaluator -/
theorem comp_eq {it : Itr} {ds : List D} (hf : it.fix? = some ds) {bnd : D → Option Env'} {tst : Env' → Sto → Res Bool} {elt : Env' → Sto → Res D} (P : D → Bool) (g : D → D) {S : Sto}
    (h : ∀ d ∈ ds, ∃ env, bnd d = some env ∧ tst env S = .ok (P d) S ∧ (P d = true → elt env S = .ok (g d) S)) :
    compGo it bnd tst elt (it.count S + 1) 0 [] S = .ok ((ds.filter P).map g) S := by
  rcases comp_go hf h (it.count S + 1) 0 [] (by rw [(Itr.fix_get hf S 0).2]; omega) with z | z
  · rw [z]; simp
  · omega
theorem comp_map {it : Itr} {ds : List D} (hf : it.fix? = some ds) {bnd : D → Option Env'} {tst : Env' → Sto → Res Bool} {elt : Env' → Sto → Res D} (g : D → D) {S : Sto}
    (h : ∀ d ∈ ds, ∃ env, bnd d = some env ∧ tst env S = .ok true S ∧ elt env S = .ok (g d) S) :
    compGo it bnd tst elt (it.count S + 1) 0 [] S = .ok (ds.map g) S := by
  rw [comp_eq hf (fun _ => true) g fun d hd => let ⟨e, a, b, c⟩ := h d hd; ⟨e, a, b, fun _ => c⟩]
  rw [List.filter_eq_self.mpr fun _ _ => rfl]
/-- a comprehension that may change the store -/
theorem comp_inv {it : Itr} {ds : List D} (hf : it.fix? = some ds) {bnd : D → Option Env'} {tst : Env' → Sto → Res Bool} {elt : Env' → Sto → Res D} (I : Nat → List D → Sto → Prop) {Q : List D → Sto → Prop}
    (h : ∀ i d acc S, ds[i]? = some d → I i acc S → ∃ env, bnd d = some env ∧ (tst env S).Sat fun b S1 => if b then (elt env S1).Sat fun y S2 => I (i + 1) (acc ++ [y]) S2 else I (i + 1) acc S1)
    (he : ∀ acc S, I ds.length acc S → Q acc S) :
    ∀ (f i : Nat) (acc : List D) (S : Sto), i ≤ ds.length → ds.length < f + i → I i acc S → (compGo it bnd tst elt f i acc S).Sat Q
  | 0, i, acc, S, h1, h2, _ => by omega
  | f + 1, i, acc, S, h1, h2, hI => by
    unfold compGo
    rw [(Itr.fix_get hf S i).1]
    by_cases hd : i < ds.length
    · have e0 : ds[i]? = some ds[i] := List.getElem?_eq_getElem hd
      rw [e0]
      obtain ⟨env, e1, e2⟩ := h i ds[i] acc S e0 hI
      simp only [e1, Res.sat_bind]
      refine e2.mono fun b S1 hb => ?_
      cases b with
      | true =>
        simp only [if_true, Res.sat_bind] at hb ⊢
        exact hb.mono fun y S2 hy => comp_inv hf I h he f (i + 1) _ S2 (by omega) (by omega) hy
      | false =>
        simp only [Bool.false_eq_true, if_false] at hb ⊢
        exact comp_inv hf I h he f (i + 1) _ S1 (by omega) (by omega) hb
    · rw [List.getElem?_eq_none (by omega)]
      have : i = ds.length := by omega
      subst this
      exact he acc S hI
/-- a loop, by an invariant -/
theorem for_inv {it : Itr} {ds : List D} (hf : it.fix? = some ds) {bnd : D → Env' → Option Env'} {body : Env' → Sto → RS} (I : Nat → Env' → Sto → Prop) {N : Env' → Sto → Prop} {R : D → Sto → Prop}
    (h : ∀ i d env S, ds[i]? = some d → I i env S → ∃ env1, bnd d env = some env1 ∧ (body env1 S).Sat (I (i + 1)) R)
    (he : ∀ env S, I ds.length env S → N env S) :
    ∀ (f i : Nat) (env : Env') (S : Sto), i ≤ ds.length → ds.length < f + i → I i env S → (forGo it bnd body f i env S).Sat N R
  | 0, i, env, S, h1, h2, _ => by omega
  | f + 1, i, env, S, h1, h2, hI => by
    unfold forGo
    rw [(Itr.fix_get hf S i).1]
    by_cases hd : i < ds.length
    · have e0 : ds[i]? = some ds[i] := List.getElem?_eq_getElem hd
      rw [e0]
      obtain ⟨env1, e1, e2⟩ := h i ds[i] env S e0 hI
      simp only [e1]
      rcases e2.ex with ⟨e, S1, q, hq⟩ | ⟨d, S1, q, hq⟩
      · rw [q]
        exact for_inv hf I h he f (i + 1) e S1 (by omega) (by omega) hq
      · rw [q]; exact hq
    · rw [List.getElem?_eq_none (by omega)]
      have : i = ds.length := by omega
      subst this
      exact he env S hI
theorem for_inv0 {it : Itr} {ds : List D} (hf : it.fix? = some ds) {bnd : D → Env' → Option Env'} {body : Env' → Sto → RS} (I : Nat → Env' → Sto → Prop) {N : Env' → Sto → Prop} {R : D → Sto → Prop} {env : Env'} {S : Sto}
    (h0 : I 0 env S) (h : ∀ i d env S, ds[i]? = some d → I i env S → ∃ env1, bnd d env = some env1 ∧ (body env1 S).Sat (I (i + 1)) R)
    (he : ∀ env S, I ds.length env S → N env S) : (forGo it bnd body (it.count S + 1) 0 env S).Sat N R :=
  for_inv hf I h he _ 0 env S (Nat.zero_le _) (by rw [(Itr.fix_get hf S 0).2]; omega) h0
/-! ### values -/
/-- simp takes no proof by rfl where a premise is asked -/
theorem nrfl {α : Type} {a b : α} (h : a = b) : a = b := h
/-- plain data -/
def D.dat : D → Bool
  | .non => true | .bl _ => true | .int _ => true | .str _ => true | .tup _ => true | .lst _ => true | _ => false
mutual
/-- .. all through -/
def D.deep : D → Bool
  | .non => true | .bl _ => true | .int _ => true | .str x => PyData.strOk x | .tup ds => D.deeps ds | .lst ds => D.deeps ds | _ => false
def D.deeps : List D → Bool
  | [] => true
  | d :: ds => d.deep && D.deeps ds
end
@[simp] theorem D.dat_non : D.non.dat = true := nrfl rfl
@[simp] theorem D.dat_bl {b : Bool} : (D.bl b).dat = true := nrfl rfl
@[simp] theorem D.dat_int {b : Int} : (D.int b).dat = true := nrfl rfl
@[simp] theorem D.dat_str {b : Str} : (D.str b).dat = true := nrfl rfl
@[simp] theorem D.dat_tup {b : List D} : (D.tup b).dat = true := nrfl rfl
@[simp] theorem D.dat_lst {b : List D} : (D.lst b).dat = true := nrfl rfl
theorem D.deep_dat {d : D} (h : d.deep = true) : d.dat = true := by cases d <;> simp_all [D.deep, D.dat]
theorem D.deeps_iff : ∀ {ds : List D}, D.deeps ds = true ↔ ∀ d ∈ ds, d.deep = true
  | [] => by simp [D.deeps]
  | d :: ds => by simp [D.deeps, D.deeps_iff (ds := ds)]
section
variable {S : Sto}
theorem eq_int {a b : Int} {ng : Bool} : eqD ng (.int a) (.int b) S = .ok (.bl (ng != (a == b))) S := by
  simp [eqD, Sto.view, D.toP, pdOk, PyData.canLay0, PyData.depth, PyData.eqv]
theorem eq_str {a b : Str} {ng : Bool} (ha : PyData.strOk a = true) (hb : PyData.strOk b = true) : eqD ng (.str a) (.str b) S = .ok (.bl (ng != (a == b))) S := by
  simp [eqD, Sto.view, D.toP, pdOk, PyData.canLay0, PyData.depth, PyData.eqv, ha, hb]
theorem eq_bl {a b : Bool} {ng : Bool} : eqD ng (.bl a) (.bl b) S = .ok (.bl (ng != (a == b))) S := by
  simp [eqD, Sto.view, D.toP, pdOk, PyData.canLay0, PyData.depth, PyData.eqv]
@[simp] theorem isiD_non {t : TyK} : isiD t S .non = some false := rfl
@[simp] theorem isiD_bl {t : TyK} {b : Bool} : isiD t S (.bl b) = some (decide (t = .bool ∨ t = .int)) := rfl
@[simp] theorem isiD_int {t : TyK} {b : Int} : isiD t S (.int b) = some (decide (t = .int)) := rfl
@[simp] theorem isiD_str {t : TyK} {b : Str} : isiD t S (.str b) = some (decide (t = .str)) := rfl
@[simp] theorem isiD_tup {t : TyK} {b : List D} : isiD t S (.tup b) = some (decide (t = .tuple)) := rfl
@[simp] theorem isiD_lst {t : TyK} {b : List D} : isiD t S (.lst b) = some (decide (t = .list)) := rfl
@[simp] theorem truthD_non : truthD S .non = some false := rfl
@[simp] theorem truthD_bl {b : Bool} : truthD S (.bl b) = some b := rfl
@[simp] theorem truthD_int {b : Int} : truthD S (.int b) = some (b != 0) := rfl
@[simp] theorem truthD_tup {b : List D} : truthD S (.tup b) = some (!b.isEmpty) := rfl
@[simp] theorem truthD_lst {b : List D} : truthD S (.lst b) = some (!b.isEmpty) := rfl
@[simp] theorem items_lst {ds : List D} : S.items (.lst ds) = some ds := rfl
@[simp] theorem items_tup {ds : List D} : S.items (.tup ds) = none := rfl
@[simp] theorem seq_lst {ds : List D} : S.seq (.lst ds) = some ds := rfl
@[simp] theorem seq_tup {ds : List D} : S.seq (.tup ds) = some ds := rfl
theorem atI_nat {α : Type} {l : List α} {i : Nat} : L2.atI l (i : Int) = l[i]? := by
  unfold L2.atI L2.ixN
  by_cases h : i < l.length
  · have h1 : ¬ ((i : Int) < 0) := by omega
    simp [h]
  · simp [h, List.getElem?_eq_none (Nat.le_of_not_lt h)]
theorem idx_tup {ds : List D} {i : Nat} {d : D} (h : ds[i]? = some d) : idxD (.tup ds) (.int i) S = .ok d S := by
  show (match L2.atI ds (i : Int) with | some d => Res.ok d S | none => .bad) = _
  rw [atI_nat, h]
theorem idx_lst {ds : List D} {i : Nat} {d : D} (h : ds[i]? = some d) : idxD (.lst ds) (.int i) S = .ok d S := by
  show (match L2.atI ds (i : Int) with | some d => Res.ok d S | none => .bad) = _
  rw [atI_nat, h]
@[simp] theorem idx_tup0 {a : D} {ds : List D} : idxD (.tup (a :: ds)) (.int 0) S = .ok a S := idx_tup (i := 0) rfl
@[simp] theorem idx_tup1 {a b : D} {ds : List D} : idxD (.tup (a :: b :: ds)) (.int 1) S = .ok b S := idx_tup (i := 1) rfl
@[simp] theorem idx_tup2 {a b c : D} {ds : List D} : idxD (.tup (a :: b :: c :: ds)) (.int 2) S = .ok c S := idx_tup (i := 2) rfl
@[simp] theorem idx_tup3 {a b c d : D} {ds : List D} : idxD (.tup (a :: b :: c :: d :: ds)) (.int 3) S = .ok d S := idx_tup (i := 3) rfl
@[simp] theorem idx_tup4 {a b c d e : D} {ds : List D} : idxD (.tup (a :: b :: c :: d :: e :: ds)) (.int 4) S = .ok e S := idx_tup (i := 4) rfl
@[simp] theorem idx_lst0 {a : D} {ds : List D} : idxD (.lst (a :: ds)) (.int 0) S = .ok a S := idx_lst (i := 0) rfl
@[simp] theorem idx_lst1 {a b : D} {ds : List D} : idxD (.lst (a :: b :: ds)) (.int 1) S = .ok b S := idx_lst (i := 1) rfl
@[simp] theorem bin_add_int {a b : Int} : binD .add (.int a) (.int b) S = .ok (.int (a + b)) S := rfl
@[simp] theorem bin_sub_int {a b : Int} : binD .sub (.int a) (.int b) S = .ok (.int (a - b)) S := rfl
theorem bin_mul_int {a b : Int} (h : mulOk a b = true) : binD .mul (.int a) (.int b) S = .ok (.int (a * b)) S := by
  show (if mulOk a b then (Res.ok (D.int (a * b)) S : Res D) else .bad) = _
  rw [if_pos h]
theorem mulOk_left {a b : Int} (h : a.natAbs < 2 ^ 64) : mulOk a b = true := by simp [mulOk, h]
theorem mulOk_right {a b : Int} (h : b.natAbs < 2 ^ 64) : mulOk a b = true := by simp [mulOk, h]
theorem bin_fdiv_int {a b : Int} (h : 0 < b) (h2 : b.natAbs.log2 < 9000) : binD .fdiv (.int a) (.int b) S = .ok (.int (a / b)) S := by
  show intD fdivI (.int a) (.int b) S = _
  simp [intD, fdivI, h, h2]
theorem bin_mod_int {a b : Int} (h : 0 < b) : binD .mod (.int a) (.int b) S = .ok (.int (a % b)) S := by
  show intD modI (.int a) (.int b) S = _
  simp [intD, modI, h]
theorem bin_add_tup {a b : List D} (h : a.length + b.length ≤ lineN) : binD .add (.tup a) (.tup b) S = .ok (.tup (a ++ b)) S := by
  show (if a.length + b.length ≤ lineN then (Res.ok (D.tup (a ++ b)) S : Res D) else .bad) = _
  rw [if_pos h]
theorem bin_add_lst {a b : List D} (h : a.length + b.length ≤ lineN) : binD .add (.lst a) (.lst b) S = .ok (.lst (a ++ b)) S := by
  show catD (.lst a) (.lst b) S = _
  unfold catD
  simp only [items_lst]
  rw [if_pos h]
theorem bin_add_str {a b : Str} (h : a.length + b.length ≤ lineN) : binD .add (.str a) (.str b) S = .ok (.str (a ++ b)) S := by
  show (if a.length + b.length ≤ lineN then (Res.ok (D.str (a ++ b)) S : Res D) else .bad) = _
  rw [if_pos h]
@[simp] theorem cmp_lt_int {a b : Int} : cmpD .lt (.int a) (.int b) S = .ok (.bl (decide (a < b))) S := rfl
@[simp] theorem cmp_le_int {a b : Int} : cmpD .le (.int a) (.int b) S = .ok (.bl (decide (a ≤ b))) S := rfl
@[simp] theorem cmp_gt_int {a b : Int} : cmpD .gt (.int a) (.int b) S = .ok (.bl (decide (b < a))) S := rfl
@[simp] theorem cmp_ge_int {a b : Int} : cmpD .ge (.int a) (.int b) S = .ok (.bl (decide (b ≤ a))) S := rfl
theorem cmp_eq {x y : D} : cmpD .eq x y S = eqD false x y S := rfl
theorem cmp_ne {x y : D} : cmpD .ne x y S = eqD true x y S := rfl
@[simp] theorem cmp_eq_int {a b : Int} : cmpD .eq (.int a) (.int b) S = .ok (.bl (a == b)) S := by rw [cmp_eq, eq_int]; simp
@[simp] theorem cmp_ne_int {a b : Int} : cmpD .ne (.int a) (.int b) S = .ok (.bl (a != b)) S := by rw [cmp_ne, eq_int]; simp [bne]
theorem cmp_eq_str {a b : Str} (ha : PyData.strOk a = true) (hb : PyData.strOk b = true) : cmpD .eq (.str a) (.str b) S = .ok (.bl (a == b)) S := by rw [cmp_eq, eq_str ha hb]; simp
theorem cmp_ne_str {a b : Str} (ha : PyData.strOk a = true) (hb : PyData.strOk b = true) : cmpD .ne (.str a) (.str b) S = .ok (.bl (a != b)) S := by rw [cmp_ne, eq_str ha hb]; simp [bne]
@[simp] theorem len_tup {ds : List D} : biD .len [.tup ds] S = .ok (.int ds.length) S := rfl
@[simp] theorem len_lst {ds : List D} : biD .len [.lst ds] S = .ok (.int ds.length) S := rfl
@[simp] theorem len_scr {ds : List Int} : biD .len [.scr ds] S = .ok (.int ds.length) S := rfl
@[simp] theorem bi_int_int {i : Int} : biD .int [.int i] S = .ok (.int i) S := rfl
@[simp] theorem bi_int_bl {b : Bool} : biD .int [.bl b] S = .ok (.int (if b then 1 else 0)) S := rfl
@[simp] theorem bi_abs {i : Int} : biD .abs [.int i] S = .ok (.int (if i < 0 then -i else i)) S := rfl
@[simp] theorem bi_tup_lst {ds : List D} : biD .tuple [.lst ds] S = .ok (.tup ds) S := rfl
@[simp] theorem bi_tup_tup {ds : List D} : biD .tuple [.tup ds] S = .ok (.tup ds) S := rfl
@[simp] theorem bi_lst_lst {ds : List D} : biD .list [.lst ds] S = .ok (.lst ds) S := rfl
@[simp] theorem bi_lst_tup {ds : List D} : biD .list [.tup ds] S = .ok (.lst ds) S := rfl
@[simp] theorem bi_min2 {i j : Int} : biD .min [.int i, .int j] S = .ok (.int (if j < i then j else i)) S := rfl
@[simp] theorem bi_max2 {i j : Int} : biD .max [.int i, .int j] S = .ok (.int (if j > i then j else i)) S := rfl
@[simp] theorem srcD_tup {ds : List D} : srcD S (.tup ds) = some (.fix ds) := rfl
@[simp] theorem srcD_lst {ds : List D} : srcD S (.lst ds) = some (.fix ds) := rfl
@[simp] theorem wipeE_nil {env : Env'} : wipeE env [] = env := rfl
@[simp] theorem wipeE_cons {env : Env'} {v : Nat} {vs : List Nat} : wipeE env (v :: vs) = (wipeE env vs).set v none := rfl
@[simp] theorem setAll_nil {env : Env'} : setAll [] [] env = some env := rfl
@[simp] theorem setAll_cons {env : Env'} {i : Nat} {is : List Nat} {d : D} {ds : List D} : setAll (i :: is) (d :: ds) env = setAll is ds (env.set i (some d)) := rfl
@[simp] theorem bindT_name {i : Nat} {d : D} {env : Env'} : bindT (.name i) d env = some (env.set i (some d)) := by cases d <;> rfl
@[simp] theorem bindT_tup {is : List Nat} {ds : List D} {env : Env'} : bindT (.tup is) (.tup ds) env = if is.length = ds.length then setAll is ds env else none := rfl
theorem beq_dec {α : Type} [BEq α] [LawfulBEq α] [DecidableEq α] (a b : α) : (a == b) = decide (a = b) := by by_cases h : a = b <;> simp [h]
theorem bi_all {ds : List D} {bs : List Bool} (h : blsOf ds = some bs) : biD .all [.lst ds] S = .ok (.bl (bs.all id)) S := by
  show (match (S.items (.lst ds)).bind blsOf with | some bs => Res.ok (D.bl (bs.all id)) S | none => Res.bad) = _
  rw [items_lst, Option.bind_some, h]
theorem bi_any {ds : List D} {bs : List Bool} (h : blsOf ds = some bs) : biD .any [.lst ds] S = .ok (.bl (bs.any id)) S := by
  show (match (S.items (.lst ds)).bind blsOf with | some bs => Res.ok (D.bl (bs.any id)) S | none => Res.bad) = _
  rw [items_lst, Option.bind_some, h]
theorem bi_sum {ds : List D} {ns : List Int} (h : intsOf ds = some ns) : biD .sum [.lst ds] S = .ok (.int ns.sum) S := by
  show (match (S.items (.lst ds)).bind intsOf with | some ns => Res.ok (D.int ns.sum) S | none => Res.bad) = _
  rw [items_lst, Option.bind_some, h]
theorem blsOf_map {α : Type} {f : α → Bool} : ∀ {l : List α}, blsOf (l.map fun a => .bl (f a)) = some (l.map f)
  | [] => rfl
  | a :: l => by simp [blsOf, blsOf_map (l := l)]
theorem intsOf_map {α : Type} {f : α → Int} : ∀ {l : List α}, intsOf (l.map fun a => .int (f a)) = some (l.map f)
  | [] => rfl
  | a :: l => by simp [intsOf, intsOf_map (l := l)]
theorem strOk_lit (z : String) (h : PyData.strOk (Str.ofString z) = true := by decide +kernel) : PyData.strOk (Str.ofString z) = true := h
end
end LT
set_option Elab.async false
set_option linter.all false
set_option maxRecDepth 100000
set_option maxHeartbeats 2000000
/-! Own layer, part Q1: what rules are. -/
namespace LT
open PySem
local macro_rules | `(tactic| walk_at "ev") => `(tactic| try simp only [at_with, runFd, List.length_cons, List.length_nil, if_true, if_false, Bool.false_eq_true, startE, List.map_cons, List.map_nil, List.cons_append, List.nil_append, Nat.add_one_sub_one, Nat.sub_self, Nat.reduceAdd, Nat.reduceSub, List.replicate_zero, List.replicate_succ, evalB, evalS, evalE, evalT, evalI, evP, evPs, evPO, evPI, Ev.mk', evEs, evAnd, evOr, evTAnd, evTOr, evO, evC, Res.b_ok, Res.b_exc, Res.b_bad, Res.toS_ok, Res.toS_exc, RS.next_nx, RS.next_rt, RS.next_exc, List.getElem?_cons_zero, List.getElem?_cons_succ, Option.join_some, at_callE, at_inC, at_bndC', List.set_cons_zero, List.set_cons_succ, bindT_name, bindT_tup, setAll_cons, setAll_nil, at_gcon])
local macro_rules | `(tactic| walk_at "st") => `(tactic| try simp only [Res.toS_sat, RS.next_sat, Res.sat_bind, outOf_satE, Res.sat_ok, RS.sat_nx, RS.sat_rt, List.getElem?_cons_zero, List.getElem?_cons_succ, Option.join_some, List.set_cons_zero, List.set_cons_succ, truthD_bl, truthD_int, truthD_non, truthD_tup, truthD_lst])
variable {p : Prog} {n : Nat} {S : Sto}
def isW (d : D) (lo hi : Int) : Bool := match d with | .int i => decide (lo ≤ i) && decide (i ≤ hi) | _ => false
theorem c_is_whole [HasF p "is_whole" fd_is_whole] {d : D} {lo hi : Int} (hd : d.dat = true) : (p.at (n + 1)).call "is_whole" [d, .int lo, .int hi] S = .ok (.bl (isW d lo hi)) S := by
  rw [at_call]
  simp only [fd_is_whole, ir_is_whole]
  walk_at "ev"
  cases d <;> simp [isiD, cmpD, isW, Sto.items, cmpI, D.dat, Res.b_ok, Res.toS_ok, RS.next_rt] at hd ⊢
  rename_i i
  cases h : decide (lo ≤ i) <;> simp [RS.next_rt, Res.b_ok, Res.toS_ok]
/-- the words for splits -/
def splitsD : D := .tup [.str "part", .str "share", .str "three"]
def kindsD : D := .tup [.str "all", .str "puts"]
def isSp (k : Str) : Bool := k == "part" || k == "share" || k == "three"
theorem in_splits {k : Str} : cmpD .in_ (.str k) splitsD S = .ok (.bl (isSp k)) S := by
  simp [cmpD, inD, splitsD, D.toP, D.toPs, flatD, isSp, PyData.eqv, Bool.or_assoc, BEq.comm]
theorem nin_splits {k : Str} : cmpD .nin (.str k) splitsD S = .ok (.bl (!isSp k)) S := by
  simp [cmpD, inD, splitsD, D.toP, D.toPs, flatD, isSp, PyData.eqv, Bool.or_assoc, BEq.comm]
def splitB (d : D) (room low : Int) : Bool := match d with
  | .tup [.str k, v] => isSp k && (if k = "three" then isW v 0 0 else isW v low (room + 1 - low))
  | _ => false
theorem c_is_split [HasF p "is_whole" fd_is_whole] [HasF p "is_split" fd_is_split] [HasC p "SPLITS" splitsD] {d : D} {room low : Int} (hd : d.deep = true) : (p.at (n + 2)).call "is_split" [d, .int room, .int low] S = .ok (.bl (splitB d room low)) S := by
  rw [at_call]
  simp only [fd_is_split, ir_is_split]
  walk_at "ev"
  cases d <;> simp only [D.deep, Bool.false_eq_true] at hd <;> try (simp [splitB]; done)
  rename_i ds
  rcases ds with _ | ⟨a, _ | ⟨b, _ | ⟨c, ds⟩⟩⟩
  · simp [splitB]
  · simp [splitB]
  · simp only [D.deeps, Bool.and_eq_true] at hd
    obtain ⟨ha, hb, _⟩ := hd
    cases a <;> simp only [D.deep, Bool.false_eq_true] at ha <;> try (simp [splitB]; done)
    rename_i k
    have hk3 : PyData.strOk "three" = true := strOk_lit _
    cases hk : isSp k
    · simp [nin_splits, splitB, hk]
    · by_cases h3 : k = "three"
      · subst h3
        simp [nin_splits, splitB, hk, cmp_eq_str hk3 hk3, c_is_whole (D.deep_dat hb)]
      · simp [nin_splits, splitB, hk, h3, cmp_eq_str ha hk3, c_is_whole (D.deep_dat hb)]
  · have : ¬ ((ds.length : Int) + 1 + 1 + 1 = 2) := by omega
    simp [splitB, this]
def tollsB (d : D) : Bool := match d with
  | .tup [a, b, c] => isW a 0 9 && isW b 0 9 && isW c 0 9
  | _ => false
theorem c_are_tolls [HasF p "is_whole" fd_is_whole] [HasF p "are_tolls" fd_are_tolls] {d : D} (hd : d.deep = true) : (p.at (n + 2)).call "are_tolls" [d] S = .ok (.bl (tollsB d)) S := by
  rw [at_call]
  simp only [fd_are_tolls, ir_are_tolls]
  walk_at "ev"
  cases d <;> simp only [D.deep, Bool.false_eq_true] at hd <;> try (simp [tollsB]; done)
  rename_i ds
  rcases ds with _ | ⟨a, _ | ⟨b, _ | ⟨c, _ | ⟨e, ds⟩⟩⟩⟩
  · simp [tollsB]
  · simp [tollsB]
  · simp [tollsB]
  · simp only [D.deeps, Bool.and_eq_true] at hd
    obtain ⟨ha, hb, hc, _⟩ := hd
    simp
    rw [comp_map (ds := [a, b, c]) rfl (fun d => .bl (isW d 0 9)) (fun d hd => ?_)]
    · simp [bi_all, blsOf, tollsB, Bool.and_assoc]
    · have hd' : d.dat = true := by
        simp only [List.mem_cons, List.not_mem_nil, or_false] at hd
        rcases hd with rfl | rfl | rfl <;> exact D.deep_dat (by assumption)
      exact ⟨_, rfl, rfl, by simp [c_is_whole hd']⟩
  · have h : ((ds.length : Int) + 1 + 1 + 1 + 1 == 3) = false := by simp; omega
    simp [tollsB, h]
/-- is it a rule -/
def ruleB (d : D) : Bool := match d with
  | .tup [a, b, s, f, t] => isW a 2 7 && (match a, b with
    | .int r, .int l => isW b 1 ((r + 1) / 2) && (isW f (2 * l - 1) r && (splitB s r l && tollsB t))
    | _, _ => false)
  | _ => false
theorem isW_int {d : D} {lo hi : Int} (h : isW d lo hi = true) : ∃ i, d = .int i ∧ lo ≤ i ∧ i ≤ hi := by
  cases d <;> simp [isW] at h
  exact ⟨_, rfl, h⟩
theorem isW_not {d : D} {lo hi : Int} (h : ∀ i, d ≠ .int i) : isW d lo hi = false := by
  cases d <;> first | rfl | exact absurd rfl (h _)
theorem c_is_right_rule [HasF p "is_whole" fd_is_whole] [HasF p "is_split" fd_is_split] [HasC p "SPLITS" splitsD] [HasF p "are_tolls" fd_are_tolls] [HasF p "is_right_rule" fd_is_right_rule] {d : D} (hd : d.deep = true) : (p.at (n + 3)).call "is_right_rule" [d] S = .ok (.bl (ruleB d)) S := by
  rw [at_call]
  simp only [fd_is_right_rule, ir_is_right_rule]
  walk_at "ev"
  cases d <;> simp only [D.deep, Bool.false_eq_true] at hd <;> try (simp [ruleB]; done)
  rename_i ds
  rcases ds with _ | ⟨a, _ | ⟨b, _ | ⟨c, _ | ⟨e, _ | ⟨f, _ | ⟨g, ds⟩⟩⟩⟩⟩⟩
  · simp [ruleB]
  · simp [ruleB]
  · simp [ruleB]
  · simp [ruleB]
  · simp [ruleB]
  · simp only [D.deeps, Bool.and_eq_true] at hd
    obtain ⟨ha, hb, hc, he, hf, _⟩ := hd
    simp [c_is_whole (D.deep_dat ha)]
    cases hr : isW a 2 7 with
    | false => simp [ruleB, hr]
    | true =>
      obtain ⟨r, rfl, hr1, hr2⟩ := isW_int hr
      have h2 : binD .fdiv (.int (r + 1)) (.int 2) S = .ok (.int ((r + 1) / 2)) S := bin_fdiv_int (by decide) (by decide)
      simp [h2, c_is_whole (D.deep_dat hb)]
      cases hl : isW b 1 ((r + 1) / 2) with
      | false => cases b <;> simp_all [ruleB]
      | true =>
        obtain ⟨l, rfl, hl1, hl2⟩ := isW_int hl
        have h3 : binD .mul (.int 2) (.int l) S = .ok (.int (2 * l)) S := bin_mul_int (mulOk_left (by decide))
        simp [h3, c_is_whole (D.deep_dat he)]
        simp only [ruleB, hr, hl, Bool.true_and]
        cases hfit : isW e (2 * l - 1) r with
        | false => simp
        | true =>
          simp [c_is_split hc, c_are_tolls hf]
          cases splitB c r l <;> simp
  · have : ¬ ((ds.length : Int) + 1 + 1 + 1 + 1 + 1 + 1 = 5) := by omega
    simp [ruleB, this]
end LT
set_option Elab.async false
set_option linter.all false
set_option maxRecDepth 100000
set_option maxHeartbeats 2000000
/-! Own layer, part Q2: what is drawn. -/
namespace LT
open PySem
local macro_rules | `(tactic| walk_at "ev") => `(tactic| try simp only [at_with, runFd, List.length_cons, List.length_nil, if_true, if_false, Bool.false_eq_true, startE, List.map_cons, List.map_nil, List.cons_append, List.nil_append, Nat.add_one_sub_one, Nat.sub_self, Nat.reduceAdd, Nat.reduceSub, List.replicate_zero, List.replicate_succ, evalB, evalS, evalE, evalT, evalI, evP, evPs, evPO, evPI, Ev.mk', evEs, evAnd, evOr, evTAnd, evTOr, evO, evC, Res.b_ok, Res.b_exc, Res.b_bad, Res.toS_ok, Res.toS_exc, RS.next_nx, RS.next_rt, RS.next_exc, List.getElem?_cons_zero, List.getElem?_cons_succ, Option.join_some, at_callE, at_inC, at_bndC', List.set_cons_zero, List.set_cons_succ, bindT_name, bindT_tup, setAll_cons, setAll_nil, at_gcon])
local macro_rules | `(tactic| walk_at "st") => `(tactic| try simp only [Res.toS_sat, RS.next_sat, Res.sat_bind, outOf_satE, Res.sat_ok, RS.sat_nx, RS.sat_rt, List.getElem?_cons_zero, List.getElem?_cons_succ, Option.join_some, List.set_cons_zero, List.set_cons_succ, truthD_bl, truthD_int, truthD_non, truthD_tup, truthD_lst])
variable {p : Prog} {n : Nat} {S S0 : Sto} {k : Nat}
/-- the store with a spring at k -/
def Spr (k : Nat) (S0 S : Sto) : Prop := ∃ a b : Int, S = S0.set k (.lst [.int a, .int b]) ∧ k < S0.length ∧ 0 ≤ a ∧ 0 ≤ b ∧ b ≤ 2147483549
theorem seq_cell {ds : List D} (h : S[k]? = some (.lst ds)) : S.seq (.cell k) = some ds := by
  show S.items (.cell k) = _
  show (match S[k]? with | some (.lst ds) => some ds | _ => none) = _
  rw [h]
theorem idx_cell {ds : List D} {i : Nat} {d : D} (h : S[k]? = some (.lst ds)) (hd : ds[i]? = some d) : idxD (.cell k) (.int i) S = .ok d S := by
  show (match S.seq (.cell k) with | some ds => (match L2.atI ds (i : Int) with | some d => Res.ok d S | none => .bad) | none => .bad) = _
  rw [seq_cell h]
  dsimp only
  rw [atI_nat, hd]
theorem asub_cell {ds : List D} {i : Nat} {v : D} (h : S[k]? = some (.lst ds)) (hi : i < ds.length) (hv : v.clean = true) : asubD (.cell k) (.int i) v S = .ok () (S.set k (.lst (ds.set i v))) := by
  show (match S[k]? with
      | some (.lst ds) => match L2.ixN ds.length (i : Int) with
        | some j => if v.clean then Res.ok () (S.set k (.lst (ds.set j v))) else .bad
        | none => .bad
      | _ => .bad) = _
  rw [h]
  have e : L2.ixN ds.length (i : Int) = some i := by
    unfold L2.ixN
    simp [hi]
  dsimp only
  rw [e]
  dsimp only
  rw [if_pos hv]
theorem c_pick [HasF p "_law_pick" fd_law_pick] {m : Int} (hm : 0 < m) (hm2 : m < 2 ^ 63) (h : Spr k S0 S) :
    ((p.at (n + 1)).call "_law_pick" [.cell k, .int m] S).Sat fun d S' => ∃ r : Int, d = .int r ∧ 0 ≤ r ∧ r < m ∧ Spr k S0 S' := by
  obtain ⟨a, b, rfl, hk, ha, hb, hb2⟩ := h
  have hS : (S0.set k (.lst [.int a, .int b]))[k]? = some (.lst [.int a, .int b]) := by simp [hk]
  have i0 : idxD (.cell k) (.int 0) (S0.set k (.lst [.int a, .int b])) = .ok (.int a) _ := idx_cell (i := 0) hS rfl
  have i1 : idxD (.cell k) (.int 1) (S0.set k (.lst [.int a, .int b])) = .ok (.int b) _ := idx_cell (i := 1) hS rfl
  have hl : m.natAbs.log2 < 9000 := by
    have : m.natAbs < 2 ^ 63 := by omega
    have := (Nat.log2_lt (n := m.natAbs) (k := 63) (by omega)).mpr this
    omega
  rw [at_call]
  simp only [fd_law_pick, ir_law_pick]
  walk_at "ev"
  by_cases h0 : 0 < a
  · have s0 : asubD (.cell k) (.int 0) (.int (a / m)) (S0.set k (.lst [.int a, .int b])) = .ok () _ := asub_cell (i := 0) (v := .int (a / m)) hS (by simp) rfl
    simp [i0, h0, bin_mod_int hm, bin_fdiv_int hm hl, s0]
    exact ⟨Int.emod_nonneg _ (by omega), Int.emod_lt_of_pos _ hm, a / m, b, rfl, hk, Int.ediv_nonneg ha (by omega), hb, hb2⟩
  · have m1 : binD .mul (.int b) (.int 39119) (S0.set k (.lst [.int a, .int b])) = .ok (.int (b * 39119)) _ := bin_mul_int (mulOk_right (by decide))
    have md : binD .mod (.int (b * 39119 + 71)) (.int 2147483549) (S0.set k (.lst [.int a, .int b])) = .ok (.int ((b * 39119 + 71) % 2147483549)) _ := bin_mod_int (by decide)
    generalize hb' : (b * 39119 + 71) % 2147483549 = b' at md
    have hb0 : 0 ≤ b' := by rw [← hb']; exact Int.emod_nonneg _ (by decide)
    have hb1 : b' < 2147483549 := by rw [← hb']; exact Int.emod_lt_of_pos _ (by decide)
    have s1 : asubD (.cell k) (.int 1) (.int b') (S0.set k (.lst [.int a, .int b])) = .ok () _ := asub_cell (i := 1) (v := .int b') hS (by simp) rfl
    have e : (S0.set k (.lst [.int a, .int b])).set k (.lst [.int a, .int b']) = S0.set k (.lst [.int a, .int b']) := by simp
    have hS' : (S0.set k (.lst [.int a, .int b']))[k]? = some (.lst [.int a, .int b']) := by simp [hk]
    have i1' : idxD (.cell k) (.int 1) (S0.set k (.lst [.int a, .int b'])) = .ok (.int b') _ := idx_cell (i := 1) hS' rfl
    have f1 : binD .fdiv (.int b') (.int 11) (S0.set k (.lst [.int a, .int b'])) = .ok (.int (b' / 11)) _ := bin_fdiv_int (by decide) (by decide)
    have m2 : binD .mul (.int b') (.int (b' / 11 + 7)) (S0.set k (.lst [.int a, .int b'])) = .ok (.int (b' * (b' / 11 + 7))) _ := bin_mul_int (mulOk_left (by omega))
    have d2 : ∀ z, binD .mod (.int z) (.int 2147483543) (S0.set k (.lst [.int a, .int b'])) = .ok (.int (z % 2147483543)) _ := fun z => bin_mod_int (by decide)
    have f2 : ∀ z, binD .fdiv (.int z) (.int 64) (S0.set k (.lst [.int a, .int b'])) = .ok (.int (z / 64)) _ := fun z => bin_fdiv_int (by decide) (by decide)
    simp [i0, h0, i1, m1, md, s1, i1', f1, m2, d2, f2, bin_mod_int hm]
    exact ⟨Int.emod_nonneg _ (by omega), Int.emod_lt_of_pos _ hm, a, b', rfl, hk, ha, hb0, by omega⟩
theorem c_chosen [HasF p "_law_pick" fd_law_pick] [HasF p "_law_chosen" fd_law_chosen] {ds : List D} (hd : ds ≠ []) (hl : ds.length < 2 ^ 62) (h : Spr k S0 S) :
    ((p.at (n + 2)).call "_law_chosen" [.cell k, .lst ds] S).Sat fun d S' => d ∈ ds ∧ Spr k S0 S' := by
  rw [at_call]
  simp only [fd_law_chosen, ir_law_chosen]
  walk_at "ev"
  simp only [len_lst]
  walk_at "ev"
  walk_at "st"
  have h0 : 0 < ds.length := List.length_pos_iff.mpr hd
  refine (c_pick (m := ds.length) (by omega) (by omega) h).mono ?_
  rintro _ S1 ⟨r, rfl, r0, r1, hS⟩
  obtain ⟨i, rfl⟩ := Int.eq_ofNat_of_zero_le r0
  have hi : i < ds.length := by omega
  rw [idx_lst (i := i) (List.getElem?_eq_getElem hi)]
  exact ⟨List.getElem_mem hi, hS⟩
/-- a rule -/
structure Rl where
  room : Int
  low : Int
  kind : Str
  first : Int
  fit : Int
  a : Int
  b : Int
  c : Int
def Rl.tl (R : Rl) : D := .tup [.int R.a, .int R.b, .int R.c]
def Rl.d (R : Rl) : D := .tup [.int R.room, .int R.low, .tup [.str R.kind, .int R.first], .int R.fit, R.tl]
structure Rl.Ok (R : Rl) : Prop where
  r1 : 2 ≤ R.room
  r2 : R.room ≤ 7
  l1 : 1 ≤ R.low
  l2 : R.low ≤ (R.room + 1) / 2
  f1 : 2 * R.low - 1 ≤ R.fit
  f2 : R.fit ≤ R.room
  sp : R.kind = "three" ∧ R.first = 0 ∨ (R.kind = "part" ∨ R.kind = "share") ∧ R.low ≤ R.first ∧ R.first ≤ R.room + 1 - R.low
  a1 : 0 ≤ R.a
  a2 : R.a ≤ 9
  b1 : 0 ≤ R.b
  b2 : R.b ≤ 9
  c1 : 0 ≤ R.c
  c2 : R.c ≤ 9
theorem part_three : ¬ (("part" : Str) = "three") := by decide +kernel
theorem share_three : ¬ (("share" : Str) = "three") := by decide +kernel
theorem part_share : ¬ (("part" : Str) = "share") := by decide +kernel
theorem Rl.Ok.b (R : Rl) (h : R.Ok) : ruleB R.d = true := by
  obtain ⟨h1, h2, h3, h4, h5, h6, h7, h8, h9, h10, h11, h12, h13⟩ := h
  simp only [ruleB, Rl.d, Rl.tl, isW, splitB, tollsB, isSp]
  rcases h7 with ⟨e, z⟩ | ⟨e | e, z⟩ <;> simp [*, part_three, share_three]
theorem rule_of {d : D} (h : ruleB d = true) : ∃ R : Rl, R.Ok ∧ d = R.d := by
  unfold ruleB at h
  split at h
  · rename_i a b s f t
    simp only [Bool.and_eq_true] at h
    obtain ⟨h1, h2⟩ := h
    obtain ⟨r, rfl, r1, r2⟩ := isW_int h1
    split at h2
    · rename_i x y r' l e
      cases e
      simp only [Bool.and_eq_true] at h2
      obtain ⟨h3, h4, h5, h6⟩ := h2
      obtain ⟨l', e, l1, l2⟩ := isW_int h3
      cases e
      obtain ⟨fi, rfl, f1, f2⟩ := isW_int h4
      unfold splitB at h5
      split at h5
      · rename_i k v
        unfold tollsB at h6
        split at h6
        · rename_i ta tb tc
          simp only [Bool.and_eq_true] at h5 h6
          obtain ⟨⟨h6, h7⟩, h8⟩ := h6
          obtain ⟨ta, rfl, _, _⟩ := isW_int h6
          obtain ⟨tb, rfl, _, _⟩ := isW_int h7
          obtain ⟨tc, rfl, _, _⟩ := isW_int h8
          obtain ⟨h9, h10⟩ := h5
          split at h10
          · rename_i e3
            subst e3
            obtain ⟨v, rfl, _, _⟩ := isW_int h10
            refine ⟨⟨r, l, "three", v, fi, ta, tb, tc⟩, ⟨r1, r2, l1, l2, f1, f2, .inl ⟨rfl, by dsimp only; omega⟩, ?_, ?_, ?_, ?_, ?_, ?_⟩, rfl⟩ <;> assumption
          · rename_i e3
            obtain ⟨v, rfl, v1, v2⟩ := isW_int h10
            have hk : k = "part" ∨ k = "share" := by
              simp only [isSp, Bool.or_eq_true, beq_iff_eq] at h9
              rcases h9 with (h9 | h9) | h9
              · exact .inl h9
              · exact .inr h9
              · exact absurd h9 e3
            refine ⟨⟨r, l, k, v, fi, ta, tb, tc⟩, ⟨r1, r2, l1, l2, f1, f2, .inr ⟨hk, v1, v2⟩, ?_, ?_, ?_, ?_, ?_, ?_⟩, rfl⟩ <;> assumption
        · cases h6
      · cases h5
    · cases h2
  · cases h
end LT
set_option Elab.async false
set_option linter.all false
set_option maxRecDepth 100000
set_option maxHeartbeats 4000000
/-! Own layer, part Q3: rules are drawn. -/
namespace LT
open PySem
local macro_rules | `(tactic| walk_at "ev") => `(tactic| try simp only [at_with, runFd, List.length_cons, List.length_nil, if_true, if_false, Bool.false_eq_true, startE, List.map_cons, List.map_nil, List.cons_append, List.nil_append, Nat.add_one_sub_one, Nat.sub_self, Nat.reduceAdd, Nat.reduceSub, List.replicate_zero, List.replicate_succ, evalB, evalS, evalE, evalT, evalI, evP, evPs, evPO, evPI, Ev.mk', evEs, evAnd, evOr, evTAnd, evTOr, evO, evC, Res.b_ok, Res.b_exc, Res.b_bad, Res.toS_ok, Res.toS_exc, RS.next_nx, RS.next_rt, RS.next_exc, List.getElem?_cons_zero, List.getElem?_cons_succ, Option.join_some, at_callE, at_inC, at_bndC', List.set_cons_zero, List.set_cons_succ, bindT_name, bindT_tup, setAll_cons, setAll_nil, at_gcon])
local macro_rules | `(tactic| walk_at "st") => `(tactic| try simp only [Res.toS_sat, RS.next_sat, Res.sat_bind, outOf_satE, Res.sat_ok, RS.sat_nx, RS.sat_rt, List.getElem?_cons_zero, List.getElem?_cons_succ, Option.join_some, List.set_cons_zero, List.set_cons_succ, truthD_bl, truthD_int, truthD_non, truthD_tup, truthD_lst])
variable {p : Prog} {n : Nat} {S S0 : Sto} {k : Nat}
theorem c_drawn [HasF p "_law_pick" fd_law_pick] [HasF p "_law_chosen" fd_law_chosen] [HasF p "_law_drawn" fd_law_drawn] {m : Int} (hm : 2 ≤ m) (hm2 : m ≤ 7) (h : Spr k S0 S) :
    ((p.at (n + 3)).call "_law_drawn" [.cell k, .int m] S).Sat fun d S' => ∃ R : Rl, R.Ok ∧ R.room ≤ m ∧ d = R.d ∧ Spr k S0 S' := by
  rw [at_call]
  simp only [fd_law_drawn, ir_law_drawn]
  walk_at "ev"
  simp only [bin_sub_int]
  walk_at "ev"
  walk_at "st"
  refine (c_pick (m := m - 1) (by omega) (by omega) h).mono ?_
  rintro _ S1 ⟨r, rfl, r0, r1, h1⟩
  simp only [bin_add_int]
  have fd : ∀ {z : Int} {S : Sto}, binD .fdiv (.int z) (.int 2) S = .ok (.int (z / 2)) S := bin_fdiv_int (by decide) (by decide)
  have ml : ∀ {z : Int} {S : Sto}, binD .mul (.int 2) (.int z) S = .ok (.int (2 * z)) S := bin_mul_int (mulOk_left (by decide))
  walk_at "ev"; walk_at "st"
  simp only [bin_add_int, fd]
  walk_at "ev"; walk_at "st"
  refine (c_pick (m := (2 + r + 1) / 2) (by omega) (by omega) h1).mono ?_
  rintro _ S2 ⟨l, rfl, l0, l1, h2⟩
  simp only [bin_add_int]
  walk_at "ev"; walk_at "st"
  refine (c_chosen (by simp) (by simp) h2).mono ?_
  rintro kd S3 ⟨hkd, h3⟩
  have hk : ∃ kk : Str, kd = .str kk ∧ (kk = "part" ∨ kk = "share") := by
    simp only [List.mem_cons, List.not_mem_nil, or_false] at hkd
    rcases hkd with rfl | rfl | rfl
    · exact ⟨_, rfl, .inl rfl⟩
    · exact ⟨_, rfl, .inl rfl⟩
    · exact ⟨_, rfl, .inr rfl⟩
  obtain ⟨kk, rfl, hkk⟩ := hk
  simp only [bin_add_int, ml, bin_sub_int]
  walk_at "ev"; walk_at "st"
  simp only [bin_add_int, ml, bin_sub_int]
  walk_at "ev"; walk_at "st"
  refine (c_pick (m := 2 + r + 2 - 2 * (1 + l)) (by omega) (by omega) h3).mono ?_
  rintro _ S4 ⟨f, rfl, f0, f1, h4⟩
  simp only [bin_add_int]
  walk_at "ev"; walk_at "st"
  refine (c_pick (m := 4) (by omega) (by omega) h4).mono ?_
  rintro _ S5 ⟨q, rfl, q0, q1, h5⟩
  simp only [cmp_eq_int]
  walk_at "ev"; walk_at "st"
  obtain ⟨kk, f, hf, e⟩ : ∃ (kk2 : Str) (f2 : Int), (kk2 = "three" ∧ f2 = 0 ∨ (kk2 = "part" ∨ kk2 = "share") ∧ 1 + l ≤ f2 ∧ f2 ≤ 2 + r + 1 - (1 + l)) ∧
      (if (q == 0) = true then RS.nx [some (.cell k), some (.int m), some (.int (2 + r)), some (.int (1 + l)), some (.tup [.str "three", .int 0]), none, none, none] S5
        else RS.nx [some (.cell k), some (.int m), some (.int (2 + r)), some (.int (1 + l)), some (.tup [.str kk, .int (1 + l + f)]), none, none, none] S5) =
      RS.nx [some (.cell k), some (.int m), some (.int (2 + r)), some (.int (1 + l)), some (.tup [.str kk2, .int f2]), none, none, none] S5 := by
    by_cases hq : q = 0
    · exact ⟨"three", 0, .inl ⟨rfl, rfl⟩, by simp [hq]⟩
    · exact ⟨kk, 1 + l + f, .inr ⟨hkk, by omega, by omega⟩, by simp [hq]⟩
  rw [e]
  walk_at "ev"; walk_at "st"
  simp only [bin_add_int, ml, bin_sub_int]
  walk_at "ev"; walk_at "st"
  simp only [bin_add_int, ml, bin_sub_int]
  walk_at "ev"; walk_at "st"
  refine (c_pick (m := 2 + r + 2 - 2 * (1 + l)) (by omega) (by omega) h5).mono ?_
  rintro _ S6 ⟨g, rfl, g0, g1, h6⟩
  simp only [bin_add_int]
  walk_at "ev"; walk_at "st"
  have h3r : (-(2 ^ 62 : Int) ≤ 3 ∧ (3 : Int) < 2 ^ 62) := by decide
  simp only [h3r, and_self, if_true]
  walk_at "ev"; walk_at "st"
  refine comp_inv (it := .rng 0 (3 : Int).toNat) (ds := [.int 0, .int 1, .int 2]) rfl (fun i acc S => acc.length = i ∧ (∀ d ∈ acc, ∃ z : Int, d = .int z ∧ 0 ≤ z ∧ z ≤ 9) ∧ Spr k S0 S) ?_ ?_ 4 0 [] S6 (by simp) (by simp) ⟨rfl, by simp, h6⟩
  · rintro i d acc S hd ⟨ha, hb, hS⟩
    refine ⟨_, rfl, ?_⟩
    simp only [Res.calm_ok]
    walk_at "st"
    simp only [if_true]
    simp only [Res.calm_sat]
    walk_at "st"
    refine (c_chosen (by simp) (by simp) hS).mono ?_
    rintro w S7 ⟨hw, h7⟩
    have hw : ∃ z : Int, w = .int z ∧ 3 ≤ z ∧ z ≤ 10 := by
      simp only [List.mem_cons, List.not_mem_nil, or_false] at hw
      rcases hw with rfl | rfl
      · exact ⟨_, rfl, by decide, by decide⟩
      · exact ⟨_, rfl, by decide, by decide⟩
    obtain ⟨z, rfl, z0, z1⟩ := hw
    walk_at "st"
    refine (c_pick (by omega) (by omega) h7).mono ?_
    rintro _ S8 ⟨y, rfl, y0, y1, h8⟩
    refine ⟨by simp [ha], fun d hd => ?_, h8⟩
    rcases List.mem_append.mp hd with hd | hd
    · exact hb d hd
    · simp only [List.mem_singleton] at hd
      exact ⟨y, hd, y0, by omega⟩
  · rintro acc S ⟨ha, hb, hS⟩
    have hl : acc.length ≤ lineN := by rw [ha]; simp
    rw [if_pos hl]
    obtain ⟨x, y, z, rfl⟩ : ∃ x y z, acc = [x, y, z] := by
      match acc, ha with
      | [x, y, z], _ => exact ⟨x, y, z, rfl⟩
    obtain ⟨x, rfl, x0, x1⟩ := hb x (by simp)
    obtain ⟨y, rfl, y0, y1⟩ := hb y (by simp)
    obtain ⟨z, rfl, z0, z1⟩ := hb z (by simp)
    walk_at "st"
    simp only [bi_tup_lst]
    walk_at "ev"; walk_at "st"
    refine (c_chosen (by simp) (by simp) hS).mono ?_
    rintro t S9 ⟨ht, h9⟩
    have ht : ∃ a b c : Int, t = .tup [.int a, .int b, .int c] ∧ 0 ≤ a ∧ a ≤ 9 ∧ 0 ≤ b ∧ b ≤ 9 ∧ 0 ≤ c ∧ c ≤ 9 := by
      simp only [List.mem_cons, List.not_mem_nil, or_false] at ht
      rcases ht with rfl | rfl | rfl | rfl
      · exact ⟨_, _, _, rfl, by decide⟩
      · exact ⟨_, _, _, rfl, by decide⟩
      · exact ⟨_, _, _, rfl, x0, x1, y0, y1, z0, z1⟩
      · exact ⟨_, _, _, rfl, x0, x1, y0, y1, z0, z1⟩
    obtain ⟨a, b, c, rfl, a0, a1, b0, b1, c0, c1⟩ := ht
    exact ⟨⟨2 + r, 1 + l, kk, f, 2 * (1 + l) - 1 + g, a, b, c⟩, ⟨by dsimp only; omega, by dsimp only; omega, by dsimp only; omega, by dsimp only; omega, by dsimp only; omega, by dsimp only; omega, hf, a0, a1, b0, b1, c0, c1⟩, by dsimp only; omega, rfl, h9⟩
end LT
set_option Elab.async false
set_option linter.all false
set_option maxRecDepth 100000
set_option maxHeartbeats 4000000
/-! Own layer, part Q4: data beside data. -/
namespace LT
open PySem
local macro_rules | `(tactic| walk_at "ev") => `(tactic| try simp only [at_with, runFd, List.length_cons, List.length_nil, if_true, if_false, Bool.false_eq_true, startE, List.map_cons, List.map_nil, List.cons_append, List.nil_append, Nat.add_one_sub_one, Nat.sub_self, Nat.reduceAdd, Nat.reduceSub, List.replicate_zero, List.replicate_succ, evalB, evalS, evalE, evalT, evalI, evP, evPs, evPO, evPI, Ev.mk', evEs, evAnd, evOr, evTAnd, evTOr, evO, evC, Res.b_ok, Res.b_exc, Res.b_bad, Res.toS_ok, Res.toS_exc, RS.next_nx, RS.next_rt, RS.next_exc, List.getElem?_cons_zero, List.getElem?_cons_succ, Option.join_some, at_callE, at_inC, at_bndC', List.set_cons_zero, List.set_cons_succ, bindT_name, bindT_tup, setAll_cons, setAll_nil, at_gcon])
local macro_rules | `(tactic| walk_at "st") => `(tactic| try simp only [Res.toS_sat, RS.next_sat, Res.sat_bind, outOf_satE, Res.sat_ok, RS.sat_nx, RS.sat_rt, List.getElem?_cons_zero, List.getElem?_cons_succ, Option.join_some, List.set_cons_zero, List.set_cons_succ, truthD_bl, truthD_int, truthD_non, truthD_tup, truthD_lst])
variable {p : Prog} {n : Nat} {S S0 : Sto} {k : Nat}
/-! ### data -/
mutual
def D.pd : D → PyData
  | .non => .none
  | .bl b => .bool b
  | .int i => .int i
  | .str x => .str x
  | .tup ds => .tuple (D.pds ds)
  | .lst ds => .list (D.pds ds)
  | _ => .none
def D.pds : List D → List PyData
  | [] => []
  | d :: ds => d.pd :: D.pds ds
end
mutual
/-- depth -/
def D.dep : D → Nat
  | .tup ds => D.deps ds + 1
  | .lst ds => D.deps ds + 1
  | _ => 0
def D.deps : List D → Nat
  | [] => 0
  | d :: ds => max d.dep (D.deps ds)
end
mutual
/-- no truth in it -/
def D.nob : D → Bool
  | .bl _ => false
  | .tup ds => D.nobs ds
  | .lst ds => D.nobs ds
  | _ => true
def D.nobs : List D → Bool
  | [] => true
  | d :: ds => d.nob && D.nobs ds
end
theorem D.nobs_iff : ∀ {ds : List D}, D.nobs ds = true ↔ ∀ d ∈ ds, d.nob = true
  | [] => by simp [D.nobs]
  | d :: ds => by simp [D.nobs, D.nobs_iff (ds := ds)]
theorem D.deps_le : ∀ {ds : List D} {m : Nat}, D.deps ds ≤ m ↔ ∀ d ∈ ds, d.dep ≤ m
  | [], m => by simp [D.deps]
  | d :: ds, m => by simp [D.deps, D.deps_le (ds := ds), Nat.max_le]
mutual
theorem D.toP_pd : ∀ {d : D}, d.deep = true → d.toP = some d.pd
  | .non, _ => by simp [D.toP, D.pd]
  | .bl _, _ => by simp [D.toP, D.pd]
  | .int _, _ => by simp [D.toP, D.pd]
  | .str _, _ => by simp [D.toP, D.pd]
  | .tup ds, h => by simp only [D.toP, D.pd, D.toPs_pd (ds := ds) (by simpa [D.deep] using h), Option.map_some]
  | .lst ds, h => by simp only [D.toP, D.pd, D.toPs_pd (ds := ds) (by simpa [D.deep] using h), Option.map_some]
  | .cell _, h => by simp [D.deep] at h
  | .scr _, h => by simp [D.deep] at h
  | .fn _, h => by simp [D.deep] at h
  | .own _ _, h => by simp [D.deep] at h
  | .clo _ _, h => by simp [D.deep] at h
theorem D.toPs_pd : ∀ {ds : List D}, D.deeps ds = true → D.toPs ds = some (D.pds ds)
  | [], _ => by simp [D.toPs, D.pds]
  | d :: ds, h => by
    simp only [D.deeps, Bool.and_eq_true] at h
    simp only [D.toPs, D.toP_pd h.1, D.toPs_pd h.2, D.pds]
end
mutual
theorem D.can_pd : ∀ {d : D}, d.deep = true → d.pd.canLay0 = true
  | .non, _ => by simp [D.pd, PyData.canLay0]
  | .bl _, _ => by simp [D.pd, PyData.canLay0]
  | .int _, _ => by simp [D.pd, PyData.canLay0]
  | .str _, h => by simpa [D.pd, PyData.canLay0, D.deep] using h
  | .tup ds, h => by simp only [D.pd, PyData.canLay0]; exact D.cans_pd (ds := ds) (by simpa [D.deep] using h)
  | .lst ds, h => by simp only [D.pd, PyData.canLay0]; exact D.cans_pd (ds := ds) (by simpa [D.deep] using h)
  | .cell _, h => by simp [D.deep] at h
  | .scr _, h => by simp [D.deep] at h
  | .fn _, h => by simp [D.deep] at h
  | .own _ _, h => by simp [D.deep] at h
  | .clo _ _, h => by simp [D.deep] at h
theorem D.cans_pd : ∀ {ds : List D}, D.deeps ds = true → PyData.canLayAll0 (D.pds ds) = true
  | [], _ => by simp [D.pds, PyData.canLayAll0]
  | d :: ds, h => by
    simp only [D.deeps, Bool.and_eq_true] at h
    simp only [D.pds, PyData.canLayAll0, D.can_pd h.1, D.cans_pd h.2, Bool.and_self]
end
mutual
theorem D.depth_pd : ∀ {d : D}, d.pd.depth = d.dep
  | .non => by simp [D.pd, D.dep, PyData.depth]
  | .bl _ => by simp [D.pd, D.dep, PyData.depth]
  | .int _ => by simp [D.pd, D.dep, PyData.depth]
  | .str _ => by simp [D.pd, D.dep, PyData.depth]
  | .tup ds => by simp only [D.pd, D.dep, PyData.depth, D.depths_pd (ds := ds)]
  | .lst ds => by simp only [D.pd, D.dep, PyData.depth, D.depths_pd (ds := ds)]
  | .cell _ => by simp [D.pd, D.dep, PyData.depth]
  | .scr _ => by simp [D.pd, D.dep, PyData.depth]
  | .fn _ => by simp [D.pd, D.dep, PyData.depth]
  | .own _ _ => by simp [D.pd, D.dep, PyData.depth]
  | .clo _ _ => by simp [D.pd, D.dep, PyData.depth]
theorem D.depths_pd : ∀ {ds : List D}, PyData.depthAll (D.pds ds) = D.deps ds
  | [] => by simp [D.pds, D.deps, PyData.depthAll]
  | d :: ds => by simp only [D.pds, D.deps, PyData.depthAll, D.depth_pd (d := d), D.depths_pd (ds := ds)]
end
theorem D.pdOk_pd {d : D} (h : d.deep = true) (hd : d.dep ≤ 64) : pdOk d.pd = true := by
  simp [pdOk, D.can_pd h, D.depth_pd, hd]
theorem eq_pd {a b : D} {ng : Bool} (ha : a.deep = true) (hb : b.deep = true) (da : a.dep ≤ 64) (db : b.dep ≤ 64) : eqD ng a b S = .ok (.bl (ng != PyData.eqv a.pd b.pd)) S := by
  have va : S.view a = a := by cases a <;> first | rfl | simp [D.deep] at ha
  have vb : S.view b = b := by cases b <;> first | rfl | simp [D.deep] at hb
  unfold eqD
  rw [va, vb, D.toP_pd ha, D.toP_pd hb]
  simp [D.pdOk_pd ha da, D.pdOk_pd hb db]
mutual
theorem eqv_nob : ∀ {a b : D}, a.deep = true → b.deep = true → a.nob = true → b.nob = true → PyData.eqv a.pd b.pd = decide (a = b)
  | .non, b, _, hb, _, nb => by cases b <;> simp_all [D.pd, PyData.eqv, D.deep, D.nob]
  | .bl _, b, _, hb, na, nb => by simp [D.nob] at na
  | .int i, b, _, hb, _, nb => by
    cases b <;> simp_all [D.pd, PyData.eqv, D.deep, D.nob, beq_dec]
  | .str i, b, _, hb, _, nb => by
    cases b <;> simp_all [D.pd, PyData.eqv, D.deep, D.nob, beq_dec]
  | .tup ds, b, ha, hb, na, nb => by
    cases b with
    | tup es =>
      simp only [D.pd, PyData.eqv]
      rw [eqvs_nob (by simpa [D.deep] using ha) (by simpa [D.deep] using hb) (by simpa [D.nob] using na) (by simpa [D.nob] using nb)]
      simp
    | _ => simp_all [D.pd, PyData.eqv, D.deep, D.nob]
  | .lst ds, b, ha, hb, na, nb => by
    cases b with
    | lst es =>
      simp only [D.pd, PyData.eqv]
      rw [eqvs_nob (by simpa [D.deep] using ha) (by simpa [D.deep] using hb) (by simpa [D.nob] using na) (by simpa [D.nob] using nb)]
      simp
    | _ => simp_all [D.pd, PyData.eqv, D.deep, D.nob]
  | .cell _, _, h, _, _, _ => by simp [D.deep] at h
  | .scr _, _, h, _, _, _ => by simp [D.deep] at h
  | .fn _, _, h, _, _, _ => by simp [D.deep] at h
  | .own _ _, _, h, _, _, _ => by simp [D.deep] at h
  | .clo _ _, _, h, _, _, _ => by simp [D.deep] at h
theorem eqvs_nob : ∀ {as bs : List D}, D.deeps as = true → D.deeps bs = true → D.nobs as = true → D.nobs bs = true → PyData.eqvAll (D.pds as) (D.pds bs) = decide (as = bs)
  | [], [], _, _, _, _ => by simp [D.pds, PyData.eqvAll]
  | [], b :: bs, _, _, _, _ => by simp [D.pds, PyData.eqvAll]
  | a :: as, [], _, _, _, _ => by simp [D.pds, PyData.eqvAll]
  | a :: as, b :: bs, ha, hb, na, nb => by
    simp only [D.deeps, D.nobs, Bool.and_eq_true] at ha hb na nb
    simp only [D.pds, PyData.eqvAll]
    rw [eqv_nob ha.1 hb.1 na.1 nb.1, eqvs_nob ha.2 hb.2 na.2 nb.2]
    by_cases h1 : a = b <;> by_cases h2 : as = bs <;> simp [h1, h2]
end
/-- two data without truths -/
theorem eq_nob {a b : D} {ng : Bool} (ha : a.deep = true) (hb : b.deep = true) (na : a.nob = true) (nb : b.nob = true) (da : a.dep ≤ 64) (db : b.dep ≤ 64) : eqD ng a b S = .ok (.bl (ng != decide (a = b))) S := by
  rw [eq_pd ha hb da db, eqv_nob ha hb na nb]
/-- is a list empty -/
theorem eq_nil {xs : List D} {ng : Bool} (ha : D.deeps xs = true) (da : D.deps xs ≤ 63) : eqD ng (.lst xs) (.lst []) S = .ok (.bl (ng != xs.isEmpty)) S := by
  rw [eq_pd (by simpa [D.deep] using ha) (by simp [D.deep, D.deeps]) (by simp only [D.dep]; omega) (by simp [D.dep, D.deps])]
  cases xs with
  | nil => simp [D.pd, D.pds, PyData.eqv, PyData.eqvAll]
  | cons x xs => simp [D.pd, D.pds, PyData.eqv, PyData.eqvAll]
/-! ### kinds, twins -/
def D.kd : D → Int
  | .bl _ => 0
  | .int _ => 1
  | .lst _ => 2
  | .tup _ => 3
  | .str _ => 4
  | _ => 5
theorem c_kind [HasF p "_law_kind" fd_law_kind] {d : D} (hd : d.dat = true) : (p.at (n + 1)).call "_law_kind" [d] S = .ok (.int d.kd) S := by
  rw [at_call]
  simp only [fd_law_kind, ir_law_kind]
  walk_at "ev"
  cases d <;> simp [D.dat, D.kd] at hd ⊢
mutual
/-- no longer than a line -/
def D.lens : D → Bool
  | .tup ds => decide (ds.length ≤ 16777216) && D.lenss ds
  | .lst ds => decide (ds.length ≤ 16777216) && D.lenss ds
  | _ => true
def D.lenss : List D → Bool
  | [] => true
  | d :: ds => d.lens && D.lenss ds
end
theorem D.lenss_iff : ∀ {ds : List D}, D.lenss ds = true ↔ ∀ d ∈ ds, d.lens = true
  | [] => by simp [D.lenss]
  | d :: ds => by simp [D.lenss, D.lenss_iff (ds := ds)]
theorem deeps_ones {α : Type} {l : List α} : D.deeps (l.map fun _ => D.int 1) = true := by
  rw [D.deeps_iff]
  intro d hd
  obtain ⟨_, _, rfl⟩ := List.mem_map.mp hd
  simp [D.deep]
theorem deps_ones {α : Type} {l : List α} : D.deps (l.map fun _ => D.int 1) ≤ 63 := by
  rw [D.deps_le]
  intro d hd
  obtain ⟨_, _, rfl⟩ := List.mem_map.mp hd
  simp [D.dep]
theorem zip_all_eq : ∀ {as bs : List D}, as.length = bs.length → ((List.zipWith (fun x y => (D.tup [x, y])) as bs).filter (fun d => match d with | .tup [x, y] => !decide (x = y) | _ => true)).isEmpty = decide (as = bs)
  | [], [], _ => by simp
  | a :: as, b :: bs, h => by
    have ih := zip_all_eq (as := as) (bs := bs) (by simpa using h)
    by_cases hab : a = b
    · subst hab
      simp only [List.zipWith_cons_cons, List.filter_cons, decide_true, Bool.not_true, Bool.false_eq_true, if_false, ih]
      simp
    · simp [List.zipWith_cons_cons, List.filter_cons, hab]
theorem in_23 {i : Int} : cmpD .in_ (.int i) (.lst [.int 2, .int 3]) S = .ok (.bl (2 == i || 3 == i)) S := by
  simp [cmpD, inD, inLs, Sto.items, D.toP, D.toPs, pdOk, PyData.canLay0, PyData.canLayAll0, PyData.depth, PyData.depthAll, PyData.eqv]
theorem twins_step [HasF p "_law_kind" fd_law_kind] [HasF p "_law_twins" fd_law_twins] {a b : D} (ha : a.deep = true) (hb : b.deep = true) (hl : a.lens = true)
    (rec : ∀ (ds es : List D), (a = .tup ds ∨ a = .lst ds) → (b = .tup es ∨ b = .lst es) → ∀ x ∈ ds, ∀ y ∈ es, (p.at (n + 1)).call "_law_twins" [x, y] S = .ok (.bl (decide (x = y))) S) :
    (p.at (n + 2)).call "_law_twins" [a, b] S = .ok (.bl (decide (a = b))) S := by
  have fin : ∀ (ds es : List D), (a = .tup ds ∨ a = .lst ds) → (b = .tup es ∨ b = .lst es) → ds.length = es.length → ds.length ≤ 16777216 →
      ∃ xs, (∀ (it : Itr) (bnd : D → Option Env') (tst : Env' → Sto → Res Bool), it.fix? = some (List.zipWith (fun x y => D.tup [x, y]) ds es) → (∀ x y, bnd (.tup [x, y]) = some [some a, some b, some x, some y]) →
      (∀ x ∈ ds, ∀ y ∈ es, tst [some a, some b, some x, some y] S = .ok (!decide (x = y)) S) → compGo it bnd tst (fun e S => Res.ok (.int 1) S) (it.count S + 1) 0 [] S = .ok xs S) ∧ xs.length ≤ 16777216 ∧ eqD false (.lst xs) (.lst []) S = .ok (.bl (decide (ds = es))) S := by
    intro ds es h1 h2 hlen h16
    refine ⟨_, fun it bnd tst hit hb ht => comp_eq hit (fun d => match d with | .tup [x, y] => !decide (x = y) | _ => true) (fun _ => .int 1) fun d hd => ?_, ?_, ?_⟩
    · obtain ⟨i, hi⟩ := List.mem_iff_getElem?.mp hd
      rw [List.getElem?_zipWith] at hi
      cases q1 : ds[i]? with
      | none => rw [q1] at hi; simp at hi
      | some x => cases q2 : es[i]? with
        | none => rw [q1, q2] at hi; simp at hi
        | some y =>
          rw [q1, q2] at hi
          simp only [Option.some.injEq] at hi
          subst hi
          exact ⟨_, hb x y, ht x (List.mem_of_getElem? q1) y (List.mem_of_getElem? q2), fun _ => rfl⟩
    · rw [List.length_map]
      have := List.length_filter_le (fun d : D => match d with | .tup [x, y] => !decide (x = y) | _ => true) (List.zipWith (fun x y => D.tup [x, y]) ds es)
      rw [List.length_zipWith] at this
      omega
    · rw [eq_nil deeps_ones deps_ones, ← zip_all_eq hlen]
      simp
  rw [at_call]
  simp only [fd_law_twins, ir_law_twins]
  walk_at "ev"
  simp only [c_kind (D.deep_dat ha), c_kind (D.deep_dat hb)]
  walk_at "ev"
  simp only [cmp_ne_int]
  walk_at "ev"
  by_cases hk : a.kd = b.kd
  · have hk2 : (a.kd != b.kd) = false := by simp [hk]
    simp only [hk2, truthD_bl]
    walk_at "ev"
    cases a with
    | non => cases b <;> simp [D.kd, D.deep, cmp_eq, c_kind, in_23] at hk hb ⊢; rw [eq_nob] <;> simp [D.deep, D.nob, D.dep]
    | bl x => cases b <;> simp [D.kd, D.deep, cmp_eq, eq_bl, beq_dec, c_kind, in_23] at hk hb ⊢
    | int x => cases b <;> simp [D.kd, D.deep, cmp_eq, eq_int, beq_dec, c_kind, in_23] at hk hb ⊢
    | str x => cases b <;> simp [D.kd, D.deep, cmp_eq, c_kind, in_23] at hk ha hb ⊢; rw [eq_str ha hb]; simp [beq_dec]
    | tup ds =>
      cases b with
      | tup es =>
        by_cases hlen : ds.length = es.length
        · have h16 : ds.length ≤ 16777216 := by simp [D.lens] at hl; exact hl.1
          simp [D.kd, hlen, isTupD, c_kind, in_23]
          obtain ⟨xs, c1, c2, c3⟩ := fin ds es (.inl rfl) (.inl rfl) hlen h16
          rw [c1]
          · simp [c2, cmp_eq, c3]
          · rfl
          · intro x y; simp
          · intro x hx y hy
            simp [rec ds es (.inl rfl) (.inl rfl) x hx y hy]
        · have hl2 : ¬ ((ds.length : Int) = es.length) := by omega
          have hne : ds ≠ es := fun z => hlen (by rw [z])
          simp [D.kd, hl2, isTupD, c_kind, in_23, hne]
      | _ => simp [D.kd, D.deep] at hk hb
    | lst ds =>
      cases b with
      | lst es =>
        by_cases hlen : ds.length = es.length
        · have h16 : ds.length ≤ 16777216 := by simp [D.lens] at hl; exact hl.1
          simp [D.kd, hlen, isTupD, c_kind, in_23]
          obtain ⟨xs, c1, c2, c3⟩ := fin ds es (.inr rfl) (.inr rfl) hlen h16
          rw [c1]
          · simp [c2, cmp_eq, c3]
          · rfl
          · intro x y; simp
          · intro x hx y hy
            simp [rec ds es (.inr rfl) (.inr rfl) x hx y hy]
        · have hl2 : ¬ ((ds.length : Int) = es.length) := by omega
          have hne : ds ≠ es := fun z => hlen (by rw [z])
          simp [D.kd, hl2, isTupD, c_kind, in_23, hne]
      | _ => simp [D.kd, D.deep] at hk hb
    | _ => simp [D.deep] at ha
  · have : a ≠ b := fun z => hk (by rw [z])
    simp [hk, this]
theorem c_twins [HasF p "_law_kind" fd_law_kind] [HasF p "_law_twins" fd_law_twins] : ∀ (m : Nat) {a b : D}, a.dep ≤ m → a.deep = true → b.deep = true → a.lens = true →
    (p.at (n + m + 2)).call "_law_twins" [a, b] S = .ok (.bl (decide (a = b))) S
  | 0, a, b, hm, ha, hb, hl => twins_step ha hb hl fun ds es h1 h2 x hx y hy => by
    rcases h1 with rfl | rfl <;> simp [D.dep] at hm
  | m + 1, a, b, hm, ha, hb, hl => by
    have e : n + (m + 1) + 2 = (n + m + 1) + 2 := by omega
    rw [e]
    refine twins_step ha hb hl fun ds es h1 h2 x hx y hy => ?_
    have e2 : n + m + 1 + 1 = n + m + 2 := by omega
    rw [e2]
    have hx3 : x.dep ≤ m ∧ x.deep = true ∧ x.lens = true := by
      rcases h1 with rfl | rfl <;> simp [D.dep, D.deep, D.lens, D.deps_le, D.deeps_iff, D.lenss_iff] at hm ha hl <;> exact ⟨hm x hx, ha x hx, hl.2 x hx⟩
    have hy3 : y.deep = true := by
      rcases h2 with rfl | rfl <;> simp [D.deep, D.deeps_iff] at hb <;> exact hb y hy
    exact c_twins m hx3.1 hx3.2.1 hy3 hx3.2.2
end LT
set_option Elab.async false
set_option linter.all false
set_option maxRecDepth 100000
set_option maxHeartbeats 4000000
/-! Own layer, part Q5: errors; lists of deeds. -/
namespace LT
open PySem
local macro_rules | `(tactic| walk_at "ev") => `(tactic| try simp only [at_with, runFd, List.length_cons, List.length_nil, if_true, if_false, Bool.false_eq_true, startE, List.map_cons, List.map_nil, List.cons_append, List.nil_append, Nat.add_one_sub_one, Nat.sub_self, Nat.reduceAdd, Nat.reduceSub, List.replicate_zero, List.replicate_succ, evalB, evalS, evalE, evalT, evalI, evP, evPs, evPO, evPI, Ev.mk', evEs, evAnd, evOr, evTAnd, evTOr, evO, evC, Res.b_ok, Res.b_exc, Res.b_bad, Res.toS_ok, Res.toS_exc, RS.next_nx, RS.next_rt, RS.next_exc, List.getElem?_cons_zero, List.getElem?_cons_succ, Option.join_some, at_callE, at_inC, at_bndC', List.set_cons_zero, List.set_cons_succ, bindT_name, bindT_tup, setAll_cons, setAll_nil, at_gcon])
local macro_rules | `(tactic| walk_at "st") => `(tactic| try simp only [Res.toS_sat, RS.next_sat, Res.sat_bind, outOf_satE, Res.sat_ok, RS.sat_nx, RS.sat_rt, List.getElem?_cons_zero, List.getElem?_cons_succ, Option.join_some, List.set_cons_zero, List.set_cons_succ, truthD_bl, truthD_int, truthD_non, truthD_tup, truthD_lst])
variable {p : Prog} {n : Nat} {S : Sto}
/-! ### errors -/
/-- the program's class of exceptions -/
class HasX (p : Prog) (x : Str) (f : outParam (Option Str)) : Prop where
  h : p.xcs.field x = some f
theorem fieldX {x : Str} {f : Option Str} [h : HasX p x f] : p.xcs.field x = some f := h.h
abbrev exc0 (x : Str) (S : Sto) : Res D := .exc ⟨x, none⟩ S
theorem c_need_rule [HasF p "is_whole" fd_is_whole] [HasF p "is_split" fd_is_split] [HasC p "SPLITS" splitsD] [HasF p "are_tolls" fd_are_tolls] [HasF p "is_right_rule" fd_is_right_rule] [HasF p "need_rule" fd_need_rule] [HasX p "InvalidRule" none] {d : D} (hd : d.deep = true) :
    (p.at (n + 4)).call "need_rule" [d] S = if ruleB d then .ok .non S else exc0 "InvalidRule" S := by
  rw [at_call]
  simp only [fd_need_rule, ir_need_rule]
  walk_at "ev"
  simp only [c_is_right_rule hd]
  walk_at "ev"
  cases ruleB d <;> simp [fieldX (p := p) (x := "InvalidRule")]
/-- is it one of both words -/
def kindB (d : D) : Bool := match d with
  | .str k => k == "all" || k == "puts"
  | _ => false
theorem nin_kinds {k : Str} : cmpD .nin (.str k) kindsD S = .ok (.bl (!kindB (.str k))) S := by
  simp [cmpD, inD, kindsD, D.toP, D.toPs, flatD, kindB, PyData.eqv, BEq.comm]
theorem c_need_kinds [HasC p "KINDS" kindsD] [HasF p "need_kinds" fd_need_kinds] [HasX p "InvalidKinds" none] {d : D} (hd : d.dat = true) :
    (p.at (n + 1)).call "need_kinds" [d] S = if kindB d then .ok .non S else exc0 "InvalidKinds" S := by
  rw [at_call]
  simp only [fd_need_kinds, ir_need_kinds]
  walk_at "ev"
  cases d <;> simp [D.dat] at hd <;> try (simp [kindB, fieldX (p := p) (x := "InvalidKinds")]; done)
  rename_i k
  simp [nin_kinds]
  cases kindB (.str k) <;> simp [fieldX (p := p) (x := "InvalidKinds")]
theorem c_is_rule [HasF p "is_whole" fd_is_whole] [HasF p "is_split" fd_is_split] [HasC p "SPLITS" splitsD] [HasF p "are_tolls" fd_are_tolls] [HasF p "is_right_rule" fd_is_right_rule] [HasF p "is_rule" fd_is_rule] {d : D} (hd : d.deep = true) :
    (p.at (n + 4)).call "is_rule" [d] S = .ok (.bl (ruleB d)) S := by
  rw [at_call]
  simp only [fd_is_rule, ir_is_rule]
  walk_at "ev"
  simp only [c_is_right_rule hd]
  simp
/-! ### deeds -/
/-- all deeds in order; part: no neighbour at a full leaf -/
def movesD (r l : Int) (part all : Bool) : List D :=
  ((List.range (r - l).toNat).map fun i : Nat => D.tup [.str "put", .int (l + i)]) ++
  (if part then [D.tup [.str "put", .int r]] else (List.range (r + 1 - l).toNat).map fun i : Nat => D.tup [.str "put", .int r, .int (l + i)]) ++
  (if all then ((List.range (r + 1 - l).toNat).map fun i : Nat => D.tup [.str "take", .int l, .int (l + i)]) ++
    ((List.range (r - l).toNat).map fun i : Nat => D.tup [.str "take", .int (l + 1 + i)]) else [])
def shapes : List (Int × Int) := [(2, 1), (3, 1), (3, 2), (4, 1), (4, 2), (5, 1), (5, 2), (5, 3), (6, 1), (6, 2), (6, 3), (7, 1), (7, 2), (7, 3), (7, 4)]
theorem shape_in {R : Rl} (h : R.Ok) : (R.room, R.low) ∈ shapes := by
  obtain ⟨h1, h2, h3, h4, _⟩ := h
  generalize R.room = r at *
  generalize R.low = l at *
  have : r = 2 ∨ r = 3 ∨ r = 4 ∨ r = 5 ∨ r = 6 ∨ r = 7 := by omega
  have : l = 1 ∨ l = 2 ∨ l = 3 ∨ l = 4 := by omega
  rcases ‹r = 2 ∨ _› with rfl | rfl | rfl | rfl | rfl | rfl <;> rcases ‹l = 1 ∨ _› with rfl | rfl | rfl | rfl <;> first | decide | omega
abbrev ruleD (r l : Int) (k : Str) (first fit tl : D) : D := .tup [.int r, .int l, .tup [.str k, first], fit, tl]
def runDeeds (F : Fns) (C : Xcs) (r l : Int) (k : Str) (all : Str) (first fit tl : D) (S : Sto) : Res D := runFd F C fd_deeds_of [ruleD r l k first fit tl, .str all] S
def runMoves (F : Fns) (C : Xcs) (r l : Int) (k : Str) (all : Str) (first fit tl : D) (S : Sto) : Res D := runFd F C fd_law_moves [ruleD r l k first fit tl, .str all] S
def deedsOk (F : Fns) (C : Xcs) (r l : Int) (first fit tl : D) (S : Sto) : Prop :=
  (runDeeds F C r l "part" "all" first fit tl S = .ok (.lst (movesD r l true true)) S ∧ runDeeds F C r l "part" "puts" first fit tl S = .ok (.lst (movesD r l true false)) S) ∧
  (runDeeds F C r l "share" "all" first fit tl S = .ok (.lst (movesD r l false true)) S ∧ runDeeds F C r l "share" "puts" first fit tl S = .ok (.lst (movesD r l false false)) S) ∧
  (runDeeds F C r l "three" "all" first fit tl S = .ok (.lst (movesD r l false true)) S ∧ runDeeds F C r l "three" "puts" first fit tl S = .ok (.lst (movesD r l false false)) S)
def movesOk (F : Fns) (C : Xcs) (r l : Int) (first fit tl : D) (S : Sto) : Prop :=
  (runMoves F C r l "part" "all" first fit tl S = .ok (.lst (movesD r l true true)) S ∧ runMoves F C r l "part" "puts" first fit tl S = .ok (.lst (movesD r l true false)) S) ∧
  (runMoves F C r l "share" "all" first fit tl S = .ok (.lst (movesD r l false true)) S ∧ runMoves F C r l "share" "puts" first fit tl S = .ok (.lst (movesD r l false false)) S) ∧
  (runMoves F C r l "three" "all" first fit tl S = .ok (.lst (movesD r l false true)) S ∧ runMoves F C r l "three" "puts" first fit tl S = .ok (.lst (movesD r l false false)) S)
set_option maxHeartbeats 0 in
theorem deedsOk_all (F : Fns) (C : Xcs) (first fit tl : D) (S : Sto) : ∀ q ∈ shapes, deedsOk F C q.1 q.2 first fit tl S := by
  intro q hq
  simp only [shapes, List.mem_cons, List.not_mem_nil, or_false] at hq
  rcases hq with rfl | rfl | rfl | rfl | rfl | rfl | rfl | rfl | rfl | rfl | rfl | rfl | rfl | rfl | rfl <;> refine ⟨⟨?_, ?_⟩, ⟨?_, ?_⟩, ?_, ?_⟩ <;> kernel_rfl
set_option maxHeartbeats 0 in
theorem movesOk_all (F : Fns) (C : Xcs) (first fit tl : D) (S : Sto) : ∀ q ∈ shapes, movesOk F C q.1 q.2 first fit tl S := by
  intro q hq
  simp only [shapes, List.mem_cons, List.not_mem_nil, or_false] at hq
  rcases hq with rfl | rfl | rfl | rfl | rfl | rfl | rfl | rfl | rfl | rfl | rfl | rfl | rfl | rfl | rfl <;> refine ⟨⟨?_, ?_⟩, ⟨?_, ?_⟩, ?_, ?_⟩ <;> kernel_rfl
/-- the rule's deeds -/
def Rl.moves (R : Rl) (all : Bool) : List D := movesD R.room R.low (R.kind == "part") all
theorem kind_cases {R : Rl} (h : R.Ok) : R.kind = "part" ∨ R.kind = "share" ∨ R.kind = "three" := by
  rcases h.sp with ⟨e, _⟩ | ⟨e | e, _⟩
  · exact .inr (.inr e)
  · exact .inl e
  · exact .inr (.inl e)
def wordOf (all : Bool) : Str := if all then "all" else "puts"
theorem share_part : (("share" : Str) == "part") = false := by decide +kernel
theorem three_part : (("three" : Str) == "part") = false := by decide +kernel
theorem c_deeds_of [HasF p "deeds_of" fd_deeds_of] {R : Rl} (h : R.Ok) (all : Bool) : (p.at (n + 1)).call "deeds_of" [R.d, .str (wordOf all)] S = .ok (.lst (R.moves all)) S := by
  rw [at_call]
  have z := deedsOk_all (p.at n) p.xcs (.int R.first) (.int R.fit) R.tl S _ (shape_in h)
  obtain ⟨⟨z1, z2⟩, ⟨z3, z4⟩, z5, z6⟩ := z
  have e : ∀ k, R.kind = k → runFd (p.at n) p.xcs fd_deeds_of [R.d, .str (wordOf all)] S = runDeeds (p.at n) p.xcs R.room R.low k (wordOf all) (.int R.first) (.int R.fit) R.tl S := fun k hk => by subst hk; rfl
  unfold Rl.moves
  rcases kind_cases h with hk | hk | hk <;> rw [e _ hk, hk] <;> cases all
  · rw [beq_self_eq_true]; exact z2
  · rw [beq_self_eq_true]; exact z1
  · rw [share_part]; exact z4
  · rw [share_part]; exact z3
  · rw [three_part]; exact z6
  · rw [three_part]; exact z5
theorem c_law_moves [HasF p "_law_moves" fd_law_moves] {R : Rl} (h : R.Ok) (all : Bool) : (p.at (n + 1)).call "_law_moves" [R.d, .str (wordOf all)] S = .ok (.lst (R.moves all)) S := by
  rw [at_call]
  have z := movesOk_all (p.at n) p.xcs (.int R.first) (.int R.fit) R.tl S _ (shape_in h)
  obtain ⟨⟨z1, z2⟩, ⟨z3, z4⟩, z5, z6⟩ := z
  have e : ∀ k, R.kind = k → runFd (p.at n) p.xcs fd_law_moves [R.d, .str (wordOf all)] S = runMoves (p.at n) p.xcs R.room R.low k (wordOf all) (.int R.first) (.int R.fit) R.tl S := fun k hk => by subst hk; rfl
  unfold Rl.moves
  rcases kind_cases h with hk | hk | hk <;> rw [e _ hk, hk] <;> cases all
  · rw [beq_self_eq_true]; exact z2
  · rw [beq_self_eq_true]; exact z1
  · rw [share_part]; exact z4
  · rw [share_part]; exact z3
  · rw [three_part]; exact z6
  · rw [three_part]; exact z5
theorem movesD_fit {r l : Int} {part all : Bool} (hr : r ≤ 7) (hl : 1 ≤ l) : (D.lst (movesD r l part all)).deep = true ∧ (D.lst (movesD r l part all)).dep ≤ 2 ∧ (D.lst (movesD r l part all)).lens = true ∧ (D.lst (movesD r l part all)).nob = true := by
  have hp : PyData.strOk "put" = true := strOk_lit _
  have ht : PyData.strOk "take" = true := strOk_lit _
  have key : ∀ d ∈ movesD r l part all, d.deep = true ∧ d.dep ≤ 1 ∧ d.lens = true ∧ d.nob = true := by
    intro d hd
    unfold movesD at hd
    simp only [List.mem_append, List.mem_map] at hd
    rcases hd with (⟨i, _, rfl⟩ | hd) | hd
    · simp [D.deep, D.deeps, D.dep, D.deps, D.lens, D.lenss, D.nob, D.nobs, hp]
    · cases part
      · simp only [Bool.false_eq_true, if_false, List.mem_map] at hd
        obtain ⟨i, _, rfl⟩ := hd
        simp [D.deep, D.deeps, D.dep, D.deps, D.lens, D.lenss, D.nob, D.nobs, hp]
      · simp only [if_true, List.mem_singleton] at hd
        subst hd
        simp [D.deep, D.deeps, D.dep, D.deps, D.lens, D.lenss, D.nob, D.nobs, hp]
    · cases all
      · simp at hd
      · simp only [if_true, List.mem_append, List.mem_map] at hd
        rcases hd with ⟨i, _, rfl⟩ | ⟨i, _, rfl⟩ <;> simp [D.deep, D.deeps, D.dep, D.deps, D.lens, D.lenss, D.nob, D.nobs, ht]
  have hlen : (movesD r l part all).length ≤ 16777216 := by
    unfold movesD
    cases part <;> cases all <;> simp <;> omega
  refine ⟨?_, ?_, ?_, ?_⟩
  · simp only [D.deep, D.deeps_iff]; exact fun d hd => (key d hd).1
  · simp only [D.dep]
    have : D.deps (movesD r l part all) ≤ 1 := D.deps_le.mpr fun d hd => (key d hd).2.1
    omega
  · simp only [D.lens, D.lenss_iff, Bool.and_eq_true, decide_eq_true_eq]
    exact ⟨hlen, fun d hd => (key d hd).2.2.1⟩
  · simp only [D.nob, D.nobs_iff]; exact fun d hd => (key d hd).2.2.2
/-- the word for kinds, as a datum -/
theorem kindB_iff {d : D} (h : kindB d = true) : ∃ all, d = .str (wordOf all) := by
  unfold kindB at h
  split at h
  · simp only [Bool.or_eq_true, beq_iff_eq] at h
    rcases h with rfl | rfl
    · exact ⟨true, rfl⟩
    · exact ⟨false, rfl⟩
  · cases h
theorem kindB_word {all : Bool} : kindB (.str (wordOf all)) = true := by cases all <;> decide +kernel
section
variable [HasF p "is_whole" fd_is_whole] [HasF p "is_split" fd_is_split] [HasC p "SPLITS" splitsD] [HasF p "are_tolls" fd_are_tolls] [HasF p "is_right_rule" fd_is_right_rule] [HasF p "need_rule" fd_need_rule] [HasX p "InvalidRule" none] [HasC p "KINDS" kindsD] [HasF p "need_kinds" fd_need_kinds] [HasX p "InvalidKinds" none] [HasF p "deeds_of" fd_deeds_of] [HasF p "deeds" fd_deeds]
theorem c_deeds {R : Rl} (h : R.Ok) (all : Bool) (hd : R.d.deep = true) : (p.at (n + 5)).call "deeds" [R.d, .str (wordOf all)] S = .ok (.lst (R.moves all)) S := by
  rw [at_call]
  simp only [fd_deeds, ir_deeds]
  walk_at "ev"
  simp only [c_need_rule hd, h.b, if_true]
  walk_at "ev"
  simp only [c_need_kinds (d := .str (wordOf all)) rfl, kindB_word, if_true]
  walk_at "ev"
  simp only [c_deeds_of h]
  simp
theorem c_deeds_rule {d e : D} (hd : d.deep = true) (h : ruleB d = false) : (p.at (n + 5)).call "deeds" [d, e] S = exc0 "InvalidRule" S := by
  rw [at_call]
  simp only [fd_deeds, ir_deeds]
  walk_at "ev"
  simp [c_need_rule hd, h]
theorem c_deeds_kinds {d e : D} (hd : d.deep = true) (h : ruleB d = true) (he : e.dat = true) (h2 : kindB e = false) : (p.at (n + 5)).call "deeds" [d, e] S = exc0 "InvalidKinds" S := by
  rw [at_call]
  simp only [fd_deeds, ir_deeds]
  walk_at "ev"
  simp only [c_need_rule hd, h, if_true]
  walk_at "ev"
  simp [c_need_kinds he, h2]
end
end LT
set_option Elab.async false
set_option linter.all false
set_option maxRecDepth 100000
set_option maxHeartbeats 4000000
/-! Own layer, part Q6: calls that raise. -/
namespace LT
open PySem
local macro_rules | `(tactic| walk_at "ev") => `(tactic| try simp only [at_with, runFd, List.length_cons, List.length_nil, if_true, if_false, Bool.false_eq_true, startE, List.map_cons, List.map_nil, List.cons_append, List.nil_append, Nat.add_one_sub_one, Nat.sub_self, Nat.reduceAdd, Nat.reduceSub, List.replicate_zero, List.replicate_succ, evalB, evalS, evalE, evalT, evalI, evP, evPs, evPO, evPI, Ev.mk', evEs, evAnd, evOr, evTAnd, evTOr, evO, evC, Res.b_ok, Res.b_exc, Res.b_bad, Res.toS_ok, Res.toS_exc, RS.next_nx, RS.next_rt, RS.next_exc, List.getElem?_cons_zero, List.getElem?_cons_succ, Option.join_some, at_callE, at_inC, at_bndC', List.set_cons_zero, List.set_cons_succ, bindT_name, bindT_tup, setAll_cons, setAll_nil, at_gcon])
local macro_rules | `(tactic| walk_at "st") => `(tactic| try simp only [Res.toS_sat, RS.next_sat, Res.sat_bind, outOf_satE, Res.sat_ok, RS.sat_nx, RS.sat_rt, List.getElem?_cons_zero, List.getElem?_cons_succ, Option.join_some, List.set_cons_zero, List.set_cons_succ, truthD_bl, truthD_int, truthD_non, truthD_tup, truthD_lst])
variable {p : Prog} {n : Nat} {S : Sto}
class HasL (p : Prog) (k : Nat) (l : outParam Lm) : Prop where
  h : p.lams[k]? = some l
theorem at_lam {k : Nat} {l : Lm} [h : HasL p k l] {caps ds : List D} : (p.at (n + 1)).lam k caps ds S = runLm (p.at n) l caps ds S := by
  show (match p.lams[k]? with | some l => runLm (p.at n) l caps ds S | none => .bad) = _
  rw [h.h]
/-- the class under LeafError, with its names -/
class XK (p : Prog) (x : Str) (w : outParam Str) : Prop where
  sub : p.xcs.sub x "LeafError" = true
  fld : (p.xcs.field x).isNone = false
  kin : p.xcs.kin x = w
theorem c_came_exc [HasF p "_law_came" fd_law_came] {k : Nat} {caps : List D} {x : Str} {f : Option (Str × Int)} {w : Str} [X : XK p x w] {S' : Sto} (h : (p.at n).lam k caps [] S = .exc ⟨x, f⟩ S') :
    (p.at (n + 1)).call "_law_came" [.clo k caps] S = .ok (.tup [.non, .str w]) S' := by
  rw [at_call]
  simp only [fd_law_came, ir_law_came]
  walk_at "ev"
  simp [at_lm, D.cleans, h, suOut, X.sub, X.fld, X.kin]
theorem c_came_ok [HasF p "_law_came" fd_law_came] {k : Nat} {caps : List D} {d : D} {S' : Sto} (h : (p.at n).lam k caps [] S = .ok d S') :
    (p.at (n + 1)).call "_law_came" [.clo k caps] S = .ok (.tup [d, .str ""]) S' := by
  rw [at_call]
  simp only [fd_law_came, ir_law_came]
  walk_at "ev"
  simp [at_lm, D.cleans, h, suOut]
/-- what _law_all_say asks of a call -/
def Says (p : Prog) (n : Nat) (S : Sto) (word : Str) (c : D) : Prop := ∃ (k : Nat) (caps : List D) (x : Str) (f : Option (Str × Int)), c = .clo k caps ∧ (∃ w, XK p x w ∧ w = word ++ " value") ∧ (p.at n).lam k caps [] S = .exc ⟨x, f⟩ S
theorem c_all_say [HasF p "_law_came" fd_law_came] [HasF p "_law_all_say" fd_law_all_say] {cs : List D} {word : Str} (hw : PyData.strOk (word ++ " value") = true) (hl : word.length ≤ 1000) (h : ∀ c ∈ cs, Says p n S word c) :
    (p.at (n + 2)).call "_law_all_say" [.lst cs, .str word] S = .ok (.bl true) S := by
  rw [at_call]
  simp only [fd_law_all_say, ir_law_all_say]
  walk_at "ev"
  simp only [srcD_lst]
  walk_at "ev"
  rw [comp_eq (it := .one (.fix cs)) rfl (fun _ => false) id fun c hc => ?_]
  · simp [List.filter_eq_nil_iff.mpr, cmp_eq, eq_nil (S := S) (xs := []) (by rfl) (by decide)]
  · obtain ⟨k, caps, x, f, rfl, ⟨_, X, rfl⟩, e⟩ := h c hc
    refine ⟨_, bindT_name, ?_, fun z => by cases z⟩
    have h6 : word.length + Str.length (" value" : Str) ≤ lineN := by
      have : Str.length (" value" : Str) = 6 := by decide +kernel
      rw [this, lineN_val]; omega
    simp [c_came_exc e, bin_add_str h6, cmp_ne, eq_nob, D.deep, D.deeps, D.nob, D.nobs, D.dep, D.deps, hw]
/-! ### frames with lambdas -/
def Prog.atL (p : Prog) (n : Nat) : Fns := { p.at n with lm := true }
theorem atL_eq : ({ p.at n with lm := true } : Fns) = p.atL n := rfl
theorem atL_inC : (p.atL n).inC = p.at n := at_with
theorem atL_lm : (p.atL n).lm = true := rfl
theorem atL_con {x : Str} {d : D} [h : HasC p x d] : (p.atL n).con x = some d := at_gcon
theorem atL_callE {env : Env'} {f : Str} {xs : List D} : callE (p.atL n) env f xs S = match D.pubs env xs with
    | some ys => ((p.at n).call f ys S).bind fun d S => if d.clean then .ok d S else .bad
    | none => .bad := by
  unfold callE pubIf
  rw [atL_lm]
  simp only [if_true, Bool.true_and]
  have e : (p.atL n).call = (p.at n).call := rfl
  rw [e]
  cases D.pubs env xs with
  | none => rfl
  | some ys =>
    dsimp only
    cases (p.at n).call f ys S with
    | ok d S => simp only [Res.b_ok]; cases d.clean <;> rfl
    | exc x S => rfl
    | bad => rfl
def envL (env : Env') : Env' := env.map fun o => o.bind fun d => if d.noOwn then some d else none
theorem atL_bndC {tg : IT} {own : List Nat} {env : Env'} : bndC (p.atL n) tg own env = fun d => if d.noOwn then bindT tg d (wipeE (envL env) own) else none := by
  funext d
  unfold bndC envC
  rw [atL_lm]
  simp only [if_true, Bool.true_and]
  cases d.noOwn <;> rfl
@[simp] theorem pubs_nil {env : Env'} : D.pubs env [] = some [] := by simp [D.pubs]
mutual
theorem pub_deep {env : Env'} : ∀ {d : D}, d.deep = true → D.pub env d = some d
  | .non, _ => by simp [D.pub]
  | .bl _, _ => by simp [D.pub]
  | .int _, _ => by simp [D.pub]
  | .str _, _ => by simp [D.pub]
  | .tup ds, h => by simp only [D.pub, pubs_deep (ds := ds) (by simpa [D.deep] using h), Option.map_some]
  | .lst ds, h => by simp only [D.pub, pubs_deep (ds := ds) (by simpa [D.deep] using h), Option.map_some]
  | .cell _, h => by simp [D.deep] at h
  | .scr _, h => by simp [D.deep] at h
  | .fn _, h => by simp [D.deep] at h
  | .own _ _, h => by simp [D.deep] at h
  | .clo _ _, h => by simp [D.deep] at h
theorem pubs_deep {env : Env'} : ∀ {ds : List D}, D.deeps ds = true → D.pubs env ds = some ds
  | [], _ => by simp [D.pubs]
  | d :: ds, h => by
    simp only [D.deeps, Bool.and_eq_true] at h
    simp only [D.pubs, pub_deep h.1, pubs_deep h.2]
end
mutual
theorem clean_deep : ∀ {d : D}, d.deep = true → d.clean = true
  | .non, _ => by simp [D.clean]
  | .bl _, _ => by simp [D.clean]
  | .int _, _ => by simp [D.clean]
  | .str _, _ => by simp [D.clean]
  | .tup ds, h => by simp only [D.clean]; exact cleans_deep (ds := ds) (by simpa [D.deep] using h)
  | .lst ds, h => by simp only [D.clean]; exact cleans_deep (ds := ds) (by simpa [D.deep] using h)
  | .cell _, h => by simp [D.deep] at h
  | .scr _, h => by simp [D.deep] at h
  | .fn _, h => by simp [D.deep] at h
  | .own _ _, h => by simp [D.deep] at h
  | .clo _ _, h => by simp [D.deep] at h
theorem cleans_deep : ∀ {ds : List D}, D.deeps ds = true → D.cleans ds = true
  | [], _ => by simp [D.cleans]
  | d :: ds, h => by
    simp only [D.deeps, Bool.and_eq_true] at h
    simp only [D.cleans, clean_deep h.1, cleans_deep h.2, Bool.and_self]
end
mutual
theorem noOwn_deep : ∀ {d : D}, d.deep = true → d.noOwn = true
  | .non, _ => by simp [D.noOwn]
  | .bl _, _ => by simp [D.noOwn]
  | .int _, _ => by simp [D.noOwn]
  | .str _, _ => by simp [D.noOwn]
  | .tup ds, h => by simp only [D.noOwn]; exact noOwns_deep (ds := ds) (by simpa [D.deep] using h)
  | .lst ds, h => by simp only [D.noOwn]; exact noOwns_deep (ds := ds) (by simpa [D.deep] using h)
  | .cell _, h => by simp [D.deep] at h
  | .scr _, h => by simp [D.deep] at h
  | .fn _, h => by simp [D.deep] at h
  | .own _ _, h => by simp [D.deep] at h
  | .clo _ _, h => by simp [D.deep] at h
theorem noOwns_deep : ∀ {ds : List D}, D.deeps ds = true → D.noOwns ds = true
  | [], _ => by simp [D.noOwns]
  | d :: ds, h => by
    simp only [D.deeps, Bool.and_eq_true] at h
    simp only [D.noOwns, noOwn_deep h.1, noOwns_deep h.2, Bool.and_self]
end
theorem pub_cell {env : Env'} {k : Nat} : D.pub env (.cell k) = some (.cell k) := by simp [D.pub]
/-- what a lambda captures -/
def capsOf (env : Env') : List Nat → Option (List D)
  | [] => some []
  | i :: is => match (env[i]?).join with
    | some d => if d.clean then (capsOf env is).map (d :: ·) else none
    | none => none
theorem pub_own {env : Env'} {k : Nat} {caps : List Nat} : D.pub env (.own k caps) = (capsOf env caps).map (.clo k) := by
  simp only [D.pub]
  congr 1
  induction caps with
  | nil => simp [capsOf]
  | cons i is ih =>
    rw [List.mapM_cons, ih]
    simp only [capsOf]
    cases h : env[i]? with
    | none => simp
    | some o => cases o with
      | none => simp
      | some d =>
        cases hd : d.clean
        · simp [hd]
        · simp [hd]
          cases capsOf env is <;> rfl
@[simp] theorem outOf_nxT {env : Env'} {S : Sto} : outOf true (.nx env S) = .ok .non S := rfl
@[simp] theorem outOf_excT {x : Exc} {env : Env'} {S : Sto} : outOf true (.exc x env S) = .exc x S := rfl
theorem outOf_rtT {d : D} {S : Sto} (h : d.noOwn = true) : outOf true (.rt d S) = .ok d S := by
  show (if true && !d.noOwn then Res.bad else Res.ok d S) = _
  rw [h]; rfl
@[simp] theorem outOf_blT {b : Bool} {S : Sto} : outOf true (.rt (.bl b) S) = .ok (.bl b) S := rfl
@[simp] theorem noOwn_bl {b : Bool} : (D.bl b).noOwn = true := nrfl (by simp [D.noOwn])
@[simp] theorem noOwn_str {b : Str} : (D.str b).noOwn = true := nrfl (by simp [D.noOwn])
@[simp] theorem noOwn_int {b : Int} : (D.int b).noOwn = true := nrfl (by simp [D.noOwn])
@[simp] theorem noOwn_non : D.non.noOwn = true := nrfl (by simp [D.noOwn])
@[simp] theorem clean_bl {b : Bool} : (D.bl b).clean = true := nrfl (by simp [D.clean])
@[simp] theorem clean_str {b : Str} : (D.str b).clean = true := nrfl (by simp [D.clean])
@[simp] theorem clean_int {b : Int} : (D.int b).clean = true := nrfl (by simp [D.clean])
@[simp] theorem clean_non : D.non.clean = true := nrfl (by simp [D.clean])
@[simp] theorem clean_cell {k : Nat} : (D.cell k).clean = true := nrfl (by simp [D.clean])
theorem pubs_cons {env : Env'} {d : D} {ds : List D} : D.pubs env (d :: ds) = match D.pub env d, D.pubs env ds with
    | some p, some ps => some (p :: ps)
    | _, _ => none := by first | (simp only [D.pubs]; done) | (simp only [D.pubs]; rfl)
theorem pub_lst {env : Env'} {ds : List D} : D.pub env (.lst ds) = (D.pubs env ds).map .lst := by simp only [D.pub]
theorem pub_str {env : Env'} {x : Str} : D.pub env (.str x) = some (.str x) := by simp only [D.pub]
theorem pub_int {env : Env'} {x : Int} : D.pub env (.int x) = some (.int x) := by simp only [D.pub]
theorem evalB_cons {F : Fns} {C : Xcs} {s : IS} {ss : List IS} {env : Env'} {S : Sto} : evalB F C (s :: ss) env S = (evalS F C s env S).next fun env S => evalB F C ss env S := by simp only [evalB]
theorem runFd_eq {F : Fns} {C : Xcs} {fd : Fd} {ds : List D} {S : Sto} (h : ds.length = fd.pars) (hs : fd.sea = false) (hl : F.lm = fd.lm) : runFd F C fd ds S = outOf fd.lm (evalB F C fd.body (startE fd.slots ds) S) := by
  unfold runFd
  rw [if_pos h, hs]
  simp only [Bool.false_eq_true, if_false]
  congr 1
  rw [← hl]
theorem runFd_eqL {p : Prog} {n : Nat} {C : Xcs} {fd : Fd} {ds : List D} {S : Sto} (h : ds.length = fd.pars) (hs : fd.sea = false) (hl : fd.lm = true) : runFd (p.at n) C fd ds S = outOf true (evalB (p.atL n) C fd.body (startE fd.slots ds) S) := by
  unfold runFd
  rw [if_pos h, hs, hl]
  rfl
theorem outOfT_sat {q : RS} {Q : D → Sto → Prop} (h : q.Sat (fun _ S => Q .non S) fun d S => d.noOwn = true ∧ Q d S) : (outOf true q).Sat Q := by
  cases q with
  | nx env S => exact h
  | rt d S =>
    obtain ⟨h1, h2⟩ := (show d.noOwn = true ∧ Q d S from h)
    rw [outOf_rtT h1]
    exact h2
  | _ => exact h.elim
/-- a statement, then the others, by what holds between them -/
theorem seq_sat {F : Fns} {C : Xcs} {s : IS} {ss : List IS} {env : Env'} {S : Sto} (M : Env' → Sto → Prop) {N : Env' → Sto → Prop} {R : D → Sto → Prop} (h1 : (evalS F C s env S).Sat M R) (h2 : ∀ e S', M e S' → (evalB F C ss e S').Sat N R) : (evalB F C (s :: ss) env S).Sat N R := by
  rw [evalB_cons, RS.next_sat]
  exact h1.mono h2 fun _ _ h => h
theorem nil_sat {F : Fns} {C : Xcs} {env : Env'} {S : Sto} {N : Env' → Sto → Prop} {R : D → Sto → Prop} (h : N env S) : (evalB F C [] env S).Sat N R := by
  simp only [evalB]; exact h
@[simp] theorem clean_scr {ns : List Int} : (D.scr ns).clean = true := nrfl (by simp [D.clean])
theorem pub_scr {env : Env'} {ns : List Int} : D.pub env (.scr ns) = some (.scr ns) := by simp only [D.pub]
theorem pub_bl {env : Env'} {b : Bool} : D.pub env (.bl b) = some (.bl b) := by simp only [D.pub]
theorem clean_sat {r : Res D} {Q : D → Sto → Prop} (h : r.Sat fun d S => d.clean = true ∧ Q d S) : r.Sat fun d S => (if d.clean = true then Res.ok d S else Res.bad).Sat Q :=
  h.mono fun d S ⟨a, b⟩ => by rw [if_pos a]; exact b
end LT
set_option Elab.async false
set_option linter.all false
set_option maxRecDepth 100000
set_option maxHeartbeats 4000000
/-! Own layer, part Q7: sizes; springs. -/
namespace LT
open PySem
theorem strOk_all (z : String) : PyData.strOk (Str.ofString z) = true := by
  rw [Str.ofString_eq_toList]
  unfold PyData.strOk
  simp only [List.all_toArray, List.all_map, List.all_eq_true]
  intro c _
  have := c.valid
  simp only [Function.comp, decide_eq_true_eq]
  have e : c.toNat = c.val.toNat := rfl
  rw [e]
  rcases this with h | ⟨_, h⟩
  · have : c.val.toNat < 0xd800 := h
    omega
  · have : c.val.toNat < 0x110000 := h
    omega
mutual
/-- ints and lengths are small -/
def D.bnd (B : Nat) : D → Bool
  | .int i => decide (i.natAbs ≤ B)
  | .tup ds => decide (ds.length ≤ B) && D.bnds B ds
  | .lst ds => decide (ds.length ≤ B) && D.bnds B ds
  | _ => true
def D.bnds (B : Nat) : List D → Bool
  | [] => true
  | d :: ds => d.bnd B && D.bnds B ds
end
theorem D.bnds_iff {B : Nat} : ∀ {ds : List D}, D.bnds B ds = true ↔ ∀ d ∈ ds, d.bnd B = true
  | [] => by simp [D.bnds]
  | d :: ds => by simp [D.bnds, D.bnds_iff (ds := ds)]
mutual
theorem D.bnd_mono {B C : Nat} (h : B ≤ C) : ∀ {d : D}, d.bnd B = true → d.bnd C = true
  | .non, _ => by simp [D.bnd]
  | .bl _, _ => by simp [D.bnd]
  | .int i, q => by simp [D.bnd] at q ⊢; omega
  | .str _, _ => by simp [D.bnd]
  | .tup ds, q => by simp only [D.bnd, Bool.and_eq_true, decide_eq_true_eq] at q ⊢; exact ⟨by omega, D.bnds_mono h q.2⟩
  | .lst ds, q => by simp only [D.bnd, Bool.and_eq_true, decide_eq_true_eq] at q ⊢; exact ⟨by omega, D.bnds_mono h q.2⟩
  | .cell _, _ => by simp [D.bnd]
  | .scr _, _ => by simp [D.bnd]
  | .fn _, _ => by simp [D.bnd]
  | .own _ _, _ => by simp [D.bnd]
  | .clo _ _, _ => by simp [D.bnd]
theorem D.bnds_mono {B C : Nat} (h : B ≤ C) : ∀ {ds : List D}, D.bnds B ds = true → D.bnds C ds = true
  | [], _ => by simp [D.bnds]
  | d :: ds, q => by
    simp only [D.bnds, Bool.and_eq_true] at q ⊢
    exact ⟨D.bnd_mono h q.1, D.bnds_mono h q.2⟩
end
/-- a value of at most such depth and size -/
structure Gd (m B : Nat) (d : D) : Prop where
  deep : d.deep = true
  dep : d.dep ≤ m
  bnd : d.bnd B = true
theorem Gd.mono {m m' B B' : Nat} {d : D} (h : Gd m B d) (a : m ≤ m') (b : B ≤ B') : Gd m' B' d := ⟨h.deep, by have := h.dep; omega, D.bnd_mono b h.bnd⟩
theorem gd_tup {m B : Nat} {ds : List D} : Gd (m + 1) B (.tup ds) ↔ ds.length ≤ B ∧ ∀ d ∈ ds, Gd m B d := by
  constructor
  · rintro ⟨a, b, c⟩
    simp only [D.deep, D.dep, D.bnd, D.deeps_iff, D.bnds_iff, Bool.and_eq_true, decide_eq_true_eq] at a b c
    have b : D.deps ds ≤ m := by omega
    rw [D.deps_le] at b
    exact ⟨c.1, fun d hd => ⟨a d hd, b d hd, c.2 d hd⟩⟩
  · rintro ⟨h1, h2⟩
    refine ⟨?_, ?_, ?_⟩
    · simp only [D.deep, D.deeps_iff]; exact fun d hd => (h2 d hd).deep
    · simp only [D.dep]
      have : D.deps ds ≤ m := D.deps_le.mpr fun d hd => (h2 d hd).dep
      omega
    · simp only [D.bnd, D.bnds_iff, Bool.and_eq_true, decide_eq_true_eq]
      exact ⟨h1, fun d hd => (h2 d hd).bnd⟩
theorem gd_lst {m B : Nat} {ds : List D} : Gd (m + 1) B (.lst ds) ↔ ds.length ≤ B ∧ ∀ d ∈ ds, Gd m B d := by
  constructor
  · rintro ⟨a, b, c⟩
    simp only [D.deep, D.dep, D.bnd, D.deeps_iff, D.bnds_iff, Bool.and_eq_true, decide_eq_true_eq] at a b c
    have b : D.deps ds ≤ m := by omega
    rw [D.deps_le] at b
    exact ⟨c.1, fun d hd => ⟨a d hd, b d hd, c.2 d hd⟩⟩
  · rintro ⟨h1, h2⟩
    refine ⟨?_, ?_, ?_⟩
    · simp only [D.deep, D.deeps_iff]; exact fun d hd => (h2 d hd).deep
    · simp only [D.dep]
      have : D.deps ds ≤ m := D.deps_le.mpr fun d hd => (h2 d hd).dep
      omega
    · simp only [D.bnd, D.bnds_iff, Bool.and_eq_true, decide_eq_true_eq]
      exact ⟨h1, fun d hd => (h2 d hd).bnd⟩
theorem gd_non {m B : Nat} : Gd m B .non := ⟨by simp [D.deep], by simp [D.dep], by simp [D.bnd]⟩
theorem gd_bl {m B : Nat} {b : Bool} : Gd m B (.bl b) := ⟨by simp [D.deep], by simp [D.dep], by simp [D.bnd]⟩
theorem gd_int {m B : Nat} {i : Int} (h : i.natAbs ≤ B) : Gd m B (.int i) := ⟨by simp [D.deep], by simp [D.dep], by simp [D.bnd, h]⟩
theorem gd_str {m B : Nat} {x : Str} (h : PyData.strOk x = true) : Gd m B (.str x) := ⟨by simp [D.deep, h], by simp [D.dep], by simp [D.bnd]⟩
theorem mem_cut {ds : List D} {lo hi : Option Int} {d : D} (h : d ∈ cutD ds lo hi) : d ∈ ds := List.mem_of_mem_drop (List.mem_of_mem_take h)
theorem len_cut {ds : List D} {lo hi : Option Int} : (cutD ds lo hi).length ≤ ds.length := by
  unfold cutD
  rw [List.length_take, List.length_drop]
  omega
section
variable {S : Sto}
@[simp] theorem sl_tup {ds : List D} {lo hi : Option Int} : slD (.tup ds) lo hi S = .ok (.tup (cutD ds lo hi)) S := rfl
@[simp] theorem sl_lst {ds : List D} {lo hi : Option Int} : slD (.lst ds) lo hi S = .ok (.lst (cutD ds lo hi)) S := rfl
@[simp] theorem rev_tup {ds : List D} : revD (.tup ds) S = .ok (.tup ds.reverse) S := rfl
@[simp] theorem rev_lst {ds : List D} : revD (.lst ds) S = .ok (.lst ds.reverse) S := rfl
theorem eqT_nil {xs : List D} {ng : Bool} (ha : D.deeps xs = true) (da : D.deps xs ≤ 63) : eqD ng (.tup xs) (.tup []) S = .ok (.bl (ng != xs.isEmpty)) S := by
  rw [eq_pd (by simpa [D.deep] using ha) (by simp [D.deep, D.deeps]) (by simp only [D.dep]; omega) (by simp [D.dep, D.deps])]
  cases xs with
  | nil => simp [D.pd, D.pds, PyData.eqv, PyData.eqvAll]
  | cons x xs => simp [D.pd, D.pds, PyData.eqv, PyData.eqvAll]
end
end LT
namespace LT
open PySem
local macro_rules | `(tactic| walk_at "ev") => `(tactic| try simp only [at_with, runFd, List.length_cons, List.length_nil, if_true, if_false, Bool.false_eq_true, startE, List.map_cons, List.map_nil, List.cons_append, List.nil_append, Nat.add_one_sub_one, Nat.sub_self, Nat.reduceAdd, Nat.reduceSub, List.replicate_zero, List.replicate_succ, evalB, evalS, evalE, evalT, evalI, evP, evPs, evPO, evPI, Ev.mk', evEs, evAnd, evOr, evTAnd, evTOr, evO, evC, Res.b_ok, Res.b_exc, Res.b_bad, Res.toS_ok, Res.toS_exc, RS.next_nx, RS.next_rt, RS.next_exc, List.getElem?_cons_zero, List.getElem?_cons_succ, Option.join_some, at_callE, at_inC, at_bndC', List.set_cons_zero, List.set_cons_succ, bindT_name, bindT_tup, setAll_cons, setAll_nil, at_gcon])
local macro_rules | `(tactic| walk_at "st") => `(tactic| try simp only [Res.toS_sat, RS.next_sat, Res.sat_bind, outOf_satE, Res.sat_ok, RS.sat_nx, RS.sat_rt, List.getElem?_cons_zero, List.getElem?_cons_succ, Option.join_some, List.set_cons_zero, List.set_cons_succ, truthD_bl, truthD_int, truthD_non, truthD_tup, truthD_lst])
local macro_rules | `(tactic| walk_at "evL") => `(tactic| try simp only [atL_eq, runFd, List.length_cons, List.length_nil, if_true, if_false, Bool.false_eq_true, startE, List.map_cons, List.map_nil, List.cons_append, List.nil_append, Nat.add_one_sub_one, Nat.sub_self, Nat.reduceAdd, Nat.reduceSub, List.replicate_zero, List.replicate_succ, evalB, evalS, evalE, evalT, evalI, evP, evPs, evPO, evPI, Ev.mk', evEs, evAnd, evOr, evTAnd, evTOr, evO, evC, Res.b_ok, Res.b_exc, Res.b_bad, Res.toS_ok, Res.toS_exc, RS.next_nx, RS.next_rt, RS.next_exc, List.getElem?_cons_zero, List.getElem?_cons_succ, Option.join_some, atL_callE, atL_inC, atL_bndC, atL_lm, at_callE, at_inC, at_bndC', List.set_cons_zero, List.set_cons_succ, bindT_name, bindT_tup, setAll_cons, setAll_nil, atL_con, at_gcon])
variable {p : Prog} {n : Nat} {S S0 : Sto} {k : Nat}
theorem rl_gd {R : Rl} (h : R.Ok) : Gd 2 12 R.d := by
  obtain ⟨h1, h2, h3, h4, h5, h6, h7, h8, h9, h10, h11, h12, h13⟩ := h
  have hk : PyData.strOk R.kind = true := by
    rcases h7 with ⟨e, _⟩ | ⟨e | e, _⟩ <;> rw [e] <;> exact strOk_all _
  have hf : R.first.natAbs ≤ 12 := by omega
  refine gd_tup.mpr ⟨by simp, ?_⟩
  intro d hd
  simp only [List.mem_cons, List.not_mem_nil, or_false] at hd
  rcases hd with rfl | rfl | rfl | rfl | rfl
  · exact gd_int (by omega)
  · exact gd_int (by omega)
  · refine gd_tup.mpr ⟨by simp, ?_⟩
    intro d hd
    simp only [List.mem_cons, List.not_mem_nil, or_false] at hd
    rcases hd with rfl | rfl
    · exact gd_str hk
    · exact gd_int hf
  · exact gd_int (by omega)
  · refine gd_tup.mpr ⟨by simp, ?_⟩
    intro d hd
    simp only [List.mem_cons, List.not_mem_nil, or_false] at hd
    rcases hd with rfl | rfl | rfl <;> exact gd_int (by omega)
theorem c_spring [HasF p "_law_spring" fd_law_spring] {ns : List Int} {i : Nat} : ((p.at (n + 1)).call "_law_spring" [.scr ns, .int i] S).Sat fun d S' => d = .cell S.length ∧ Spr S.length S' S' := by
  rw [at_call, runFd_eq rfl rfl at_lm]
  simp only [fd_law_spring, ir_law_spring]
  rw [evalB_cons]
  obtain ⟨cell, hc, e⟩ : ∃ cell : Int, 0 ≤ cell ∧ evalS (p.at n) p.xcs (.asg (.name 2) (.ite (.cmp .lt (.var 1) (.bi .len [(.var 0)])) (.bi .abs [(.bi .int [(.idx (.var 0) (.var 1))])]) (.bin .add (.bin .mul (.int 7013) (.var 1)) (.int 53)))) (startE 3 [.scr ns, .int i]) S = .nx [some (.scr ns), some (.int i), some (.int cell)] S := by
    by_cases h : i < ns.length
    · have hi : idxD (.scr ns) (.int i) S = .ok (.int ns[i]) S := by
        show (match L2.atI ns (i : Int) with | some n => Res.ok (D.int n) S | none => .bad) = _
        rw [atI_nat, List.getElem?_eq_getElem h]
      refine ⟨if ns[i] < 0 then -ns[i] else ns[i], by split <;> omega, ?_⟩
      walk_at "ev"
      simp [h, hi]
    · have m1 : binD .mul (.int 7013) (.int (i : Int)) S = .ok (.int (7013 * i)) S := bin_mul_int (mulOk_left (by decide))
      refine ⟨7013 * i + 53, by omega, ?_⟩
      walk_at "ev"
      simp [h, m1]
  rw [e, RS.next_nx]
  walk_at "ev"
  have pw : ∀ S, binD .pow (.int 10) (.int 16) S = .ok (.int 10000000000000000) S := fun S => by rfl
  have m1 : ∀ S, binD .mul (.int cell) (.int 40503) S = .ok (.int (cell * 40503)) S := fun S => bin_mul_int (mulOk_right (by decide))
  have m2 : ∀ S, binD .mul (.int 8117) (.int (i : Int)) S = .ok (.int (8117 * i)) S := fun S => bin_mul_int (mulOk_left (by decide))
  have md : ∀ z S, binD .mod (.int z) (.int 2147483549) S = .ok (.int (z % 2147483549)) S := fun z S => bin_mod_int (by decide)
  generalize hz : (cell * 40503 + 8117 * (i : Int) + 29) % 2147483549 = z
  have z0 : 0 ≤ z := by rw [← hz]; exact Int.emod_nonneg _ (by decide)
  have z1 : z < 2147483549 := by rw [← hz]; exact Int.emod_lt_of_pos _ (by decide)
  by_cases hg : 10000000000000000 < cell
  · simp [pw, hg, m1, m2, md, hz, D.cleans]
    exact ⟨cell, z + 1, by simp, by simp, hc, by omega, by omega⟩
  · simp [pw, hg, m1, m2, md, hz, D.cleans]
    exact ⟨0, z + 1, by simp, by simp, by omega, by omega, by omega⟩
theorem chosen_gd [HasF p "_law_pick" fd_law_pick] [HasF p "_law_chosen" fd_law_chosen] {ds : List D} {m B : Nat} (hd : ds ≠ []) (hl : ds.length < 2 ^ 62) (hg : ∀ d ∈ ds, Gd m B d) (h : Spr k S0 S) : ((p.at (n + 3)).call "_law_chosen" [.cell k, .lst ds] S).Sat fun d S' => Gd m B d ∧ Spr k S0 S' :=
  (c_chosen (n := n + 1) hd hl h).mono fun d S' q => ⟨hg d q.1, q.2⟩
end LT
set_option Elab.async false
set_option linter.all false
set_option maxRecDepth 100000
set_option maxHeartbeats 4000000
/-! Own layer, part R1: what deeds change. -/
namespace LT
open PySem
local macro_rules | `(tactic| walk_at "ev") => `(tactic| try simp only [at_with, runFd, List.length_cons, List.length_nil, if_true, if_false, Bool.false_eq_true, startE, List.map_cons, List.map_nil, List.cons_append, List.nil_append, Nat.add_one_sub_one, Nat.sub_self, Nat.reduceAdd, Nat.reduceSub, List.replicate_zero, List.replicate_succ, evalB, evalS, evalE, evalT, evalI, evP, evPs, evPO, evPI, Ev.mk', evEs, evAnd, evOr, evTAnd, evTOr, evO, evC, Res.b_ok, Res.b_exc, Res.b_bad, Res.toS_ok, Res.toS_exc, RS.next_nx, RS.next_rt, RS.next_exc, List.getElem?_cons_zero, List.getElem?_cons_succ, Option.join_some, at_callE, at_inC, at_bndC', List.set_cons_zero, List.set_cons_succ, bindT_name, bindT_tup, setAll_cons, setAll_nil, at_gcon])
local macro_rules | `(tactic| walk_at "st") => `(tactic| try simp only [Res.toS_sat, RS.next_sat, Res.sat_bind, outOf_satE, Res.sat_ok, RS.sat_nx, RS.sat_rt, List.getElem?_cons_zero, List.getElem?_cons_succ, Option.join_some, List.set_cons_zero, List.set_cons_succ, truthD_bl, truthD_int, truthD_non, truthD_tup, truthD_lst])
local macro_rules | `(tactic| walk_at "evL") => `(tactic| try simp only [atL_eq, runFd, List.length_cons, List.length_nil, if_true, if_false, Bool.false_eq_true, startE, List.map_cons, List.map_nil, List.cons_append, List.nil_append, Nat.add_one_sub_one, Nat.sub_self, Nat.reduceAdd, Nat.reduceSub, List.replicate_zero, List.replicate_succ, evalB, evalS, evalE, evalT, evalI, evP, evPs, evPO, evPI, Ev.mk', evEs, evAnd, evOr, evTAnd, evTOr, evO, evC, Res.b_ok, Res.b_exc, Res.b_bad, Res.toS_ok, Res.toS_exc, RS.next_nx, RS.next_rt, RS.next_exc, List.getElem?_cons_zero, List.getElem?_cons_succ, Option.join_some, atL_callE, atL_inC, atL_bndC, atL_lm, at_callE, at_inC, at_bndC', List.set_cons_zero, List.set_cons_succ, bindT_name, bindT_tup, setAll_cons, setAll_nil, atL_con, at_gcon])
variable {p : Prog} {n : Nat} {S : Sto}
/-! ### intsD in order -/
theorem leP_int {a b : Int} : leP (.int a) (.int b) = decide (a ≤ b) := by
  have e : PySem.W.dataLt (.int b) (.int a) = decide (b < a) := by
    unfold PySem.W.dataLt
    simp only [PySem.W.keyToks]
    rw [PyProof.Rows.lex_cons]
    show (decide (b < a) || (!decide (a < b) && false)) = _
    simp
  unfold leP
  rw [e]
  by_cases h : a ≤ b
  · have : ¬ b < a := by omega
    simp [h, this]
  · have : b < a := by omega
    simp [h, this]
def insI (a : Int) : List Int → List Int
  | [] => [a]
  | b :: r => if a ≤ b then a :: b :: r else b :: insI a r
def srtI : List Int → List Int
  | [] => []
  | a :: r => insI a (srtI r)
def intsD (l : List Int) : List D := l.map D.int
def intP (i : Int) : PyData × D := (.int i, .int i)
theorem insD_int {a : Int} : ∀ {l : List Int}, insD leP (intP a) (l.map intP) = (insI a l).map intP
  | [] => rfl
  | b :: r => by
    simp only [List.map_cons, insD, insI, intP, leP_int]
    by_cases h : a ≤ b
    · simp [h, intP]
    · have ih := insD_int (a := a) (l := r)
      simp only [intP] at ih
      simp [h, intP]
      exact ih
theorem srtD_int : ∀ {l : List Int}, srtD leP (l.map intP) = (srtI l).map intP
  | [] => rfl
  | a :: r => by
    simp only [List.map_cons, srtD, srtI]
    rw [srtD_int (l := r), insD_int]
theorem toPs_ints : ∀ {l : List Int}, D.toPs (intsD l) = some (l.map PyData.int)
  | [] => by simp [intsD, D.toPs]
  | a :: r => by
    have ih := toPs_ints (l := r)
    simp only [intsD] at ih
    simp [intsD, D.toPs, D.toP, ih]
theorem sorted_ints {l : List Int} : sortDs (intsD l) = some (intsD (srtI l)) := by
  unfold sortDs
  rw [toPs_ints]
  have ok : sortOk (l.map PyData.int) = true := by
    simp [sortOk, PySem.W.alike, PyData.depth]
  have z : (l.map PyData.int).zip (intsD l) = l.map intP := by
    simp only [intsD, List.zip_map']
    rfl
  dsimp only
  rw [if_pos ok, z, srtD_int]
  simp [intsD, intP]
theorem bi_sorted_tup {l : List Int} : biD .sorted [.tup (intsD l)] S = .ok (.lst (intsD (srtI l))) S := by
  show (match (S.seq (.tup (intsD l))).bind sortDs with | some r => Res.ok (D.lst r) S | none => Res.bad) = _
  rw [seq_tup, Option.bind_some, sorted_ints]
theorem bi_sorted_lst {l : List Int} : biD .sorted [.lst (intsD l)] S = .ok (.lst (intsD (srtI l))) S := by
  show (match (S.seq (.lst (intsD l))).bind sortDs with | some r => Res.ok (D.lst r) S | none => Res.bad) = _
  rw [seq_lst, Option.bind_some, sorted_ints]
theorem srt1 {a : Int} : srtI [a] = [a] := rfl
theorem srt2 {a b : Int} (h : a ≤ b) : srtI [a, b] = [a, b] := by simp [srtI, insI, h]
/-! ### deeds -/
abbrev put1 (c : Int) : D := .tup [.str "put", .int c]
abbrev put2 (c o : Int) : D := .tup [.str "put", .int c, .int o]
abbrev take1 (c : Int) : D := .tup [.str "take", .int c]
abbrev take2 (c o : Int) : D := .tup [.str "take", .int c, .int o]
theorem put_take : ¬ (("put" : Str) = "take") := by decide +kernel
theorem take_put : ¬ (("take" : Str) = "put") := by decide +kernel
theorem moves_cases {R : Rl} {all : Bool} {d : D} (hd : d ∈ R.moves all) :
    (∃ c, d = put1 c ∧ R.low ≤ c ∧ c < R.room) ∨ (R.kind = "part" ∧ d = put1 R.room) ∨ (R.kind ≠ "part" ∧ ∃ o, d = put2 R.room o ∧ R.low ≤ o ∧ o ≤ R.room) ∨
    (all = true ∧ ∃ o, d = take2 R.low o ∧ R.low ≤ o ∧ o ≤ R.room) ∨ (all = true ∧ ∃ c, d = take1 c ∧ R.low < c ∧ c ≤ R.room) := by
  unfold Rl.moves movesD at hd
  simp only [List.mem_append, List.mem_map, List.mem_range] at hd
  rcases hd with (⟨i, hi, rfl⟩ | hd) | hd
  · exact .inl ⟨_, rfl, by omega, by omega⟩
  · by_cases hk : R.kind = "part"
    · have : (R.kind == ("part" : Str)) = true := by simp [hk]
      rw [if_pos this] at hd
      exact .inr (.inl ⟨hk, List.mem_singleton.mp hd⟩)
    · have : ¬ (R.kind == ("part" : Str)) = true := by simp [hk]
      rw [if_neg this] at hd
      obtain ⟨i, hi, rfl⟩ := List.mem_map.mp hd
      rw [List.mem_range] at hi
      exact .inr (.inr (.inl ⟨hk, _, rfl, by omega, by omega⟩))
  · cases all with
    | false => simp at hd
    | true =>
      simp only [if_true, List.mem_append, List.mem_map, List.mem_range] at hd
      rcases hd with ⟨i, hi, rfl⟩ | ⟨i, hi, rfl⟩
      · exact .inr (.inr (.inr (.inl ⟨rfl, _, rfl, by omega, by omega⟩)))
      · exact .inr (.inr (.inr (.inr ⟨rfl, _, rfl, by omega, by omega⟩)))
def thirdsI (m : Int) : List Int := [m / 3, (m + 1) / 3, (m + 2) / 3]
/-- the leaves ahead, behind, the toll -/
def Rl.turn (R : Rl) : D → List Int × List Int × Int
  | .tup [.str w, .int c] => if w = "put" then (if c < R.room then ([c], [c + 1], R.a) else ([R.room], srtI [R.first, R.room + 1 - R.first], 2 * R.a + R.b)) else ([c], [c - 1], R.a)
  | .tup [.str w, .int c, .int o] => if w = "put" then (if o < R.room then ([o, R.room], [o + 1, R.room], 2 * R.a) else if R.kind = "share" then ([R.room, R.room], srtI [R.first, R.room + 1 - R.first, R.room], 2 * R.a + R.b) else ([R.room, R.room], thirdsI (2 * R.room + 1), 3 * R.a + R.b))
      else (if R.low - 1 + o ≤ R.fit then ([R.low, o], [R.low - 1 + o], R.a + R.c) else ([R.low, o], [R.low, o - 1], 2 * R.a))
  | _ => ([], [], 0)
def trioT (t : List Int × List Int × Int) : D := .tup [.tup (intsD t.1), .tup (intsD t.2.1), .int t.2.2]
def trioL (t : List Int × List Int × Int) : D := .tup [.lst (intsD t.1), .lst (intsD t.2.1), .int t.2.2]
@[simp] theorem cut_rest {a : D} {ds : List D} : cutD (a :: ds) (some 1) none = ds := by
  unfold cutD
  have h1 : HT.sIx (a :: ds).length 0 (some 1) = 1 := by simp [HT.sIx]
  have h2 : HT.sIx (a :: ds).length (a :: ds).length none = ds.length + 1 := by simp [HT.sIx]
  rw [h1, h2]
  simp
end LT
namespace LT
open PySem
local macro_rules | `(tactic| walk_at "ev") => `(tactic| try simp only [at_with, runFd, List.length_cons, List.length_nil, if_true, if_false, Bool.false_eq_true, startE, List.map_cons, List.map_nil, List.cons_append, List.nil_append, Nat.add_one_sub_one, Nat.sub_self, Nat.reduceAdd, Nat.reduceSub, List.replicate_zero, List.replicate_succ, evalB, evalS, evalE, evalT, evalI, evP, evPs, evPO, evPI, Ev.mk', evEs, evAnd, evOr, evTAnd, evTOr, evO, evC, Res.b_ok, Res.b_exc, Res.b_bad, Res.toS_ok, Res.toS_exc, RS.next_nx, RS.next_rt, RS.next_exc, List.getElem?_cons_zero, List.getElem?_cons_succ, Option.join_some, at_callE, at_inC, at_bndC', List.set_cons_zero, List.set_cons_succ, bindT_name, bindT_tup, setAll_cons, setAll_nil, at_gcon])
local macro_rules | `(tactic| walk_at "st") => `(tactic| try simp only [Res.toS_sat, RS.next_sat, Res.sat_bind, outOf_satE, Res.sat_ok, RS.sat_nx, RS.sat_rt, List.getElem?_cons_zero, List.getElem?_cons_succ, Option.join_some, List.set_cons_zero, List.set_cons_succ, truthD_bl, truthD_int, truthD_non, truthD_tup, truthD_lst])
local macro_rules | `(tactic| walk_at "evL") => `(tactic| try simp only [atL_eq, runFd, List.length_cons, List.length_nil, if_true, if_false, Bool.false_eq_true, startE, List.map_cons, List.map_nil, List.cons_append, List.nil_append, Nat.add_one_sub_one, Nat.sub_self, Nat.reduceAdd, Nat.reduceSub, List.replicate_zero, List.replicate_succ, evalB, evalS, evalE, evalT, evalI, evP, evPs, evPO, evPI, Ev.mk', evEs, evAnd, evOr, evTAnd, evTOr, evO, evC, Res.b_ok, Res.b_exc, Res.b_bad, Res.toS_ok, Res.toS_exc, RS.next_nx, RS.next_rt, RS.next_exc, List.getElem?_cons_zero, List.getElem?_cons_succ, Option.join_some, atL_callE, atL_inC, atL_bndC, atL_lm, at_callE, at_inC, at_bndC', List.set_cons_zero, List.set_cons_succ, bindT_name, bindT_tup, setAll_cons, setAll_nil, atL_con, at_gcon])
variable {p : Prog} {n : Nat} {S : Sto}
/-- what put_change, take_change say: ahead, behind, written, new, gone -/
abbrev five (xs ys : List Int) (w n g : Int) : D := .tup [.tup (intsD xs), .tup (intsD ys), .int w, .int n, .int g]
theorem c_thirds [HasF p "thirds" fd_thirds] {m : Int} : (p.at (n + 1)).call "thirds" [.int m] S = .ok (.tup (intsD (thirdsI m))) S := by
  rw [at_call]
  simp only [fd_thirds, ir_thirds]
  walk_at "ev"
  have fd : ∀ {z : Int} {S : Sto}, binD .fdiv (.int z) (.int 3) S = .ok (.int (z / 3)) S := bin_fdiv_int (by decide) (by decide)
  simp [fd, thirdsI, intsD]
theorem strK {R : Rl} (h : R.Ok) : PyData.strOk R.kind = true := by
  rcases kind_cases h with e | e | e <;> rw [e] <;> exact strOk_lit _
theorem c_put1 [HasF p "put_change" fd_put_change] {R : Rl} {c : Int} (hc : c < R.room) : (p.at (n + 2)).call "put_change" [R.d, .tup [.int c]] S = .ok (five [c] [c + 1] 1 0 0) S := by
  rw [at_call]
  simp only [fd_put_change, ir_put_change]
  walk_at "ev"
  simp [Rl.d, hc, intsD]
theorem c_put_part [HasF p "put_change" fd_put_change] {R : Rl} (hk : R.kind = "part") : (p.at (n + 2)).call "put_change" [R.d, .tup [.int R.room]] S = .ok (five [R.room] [R.first, R.room + 1 - R.first] 2 1 0) S := by
  have hp : PyData.strOk "part" = true := strOk_lit _
  rw [at_call]
  simp only [fd_put_change, ir_put_change]
  walk_at "ev"
  simp [Rl.d, intsD, hk, cmp_eq_str hp hp]
theorem c_put2 [HasF p "put_change" fd_put_change] [HasF p "thirds" fd_thirds] {R : Rl} (h : R.Ok) (hk : R.kind ≠ "part") {o : Int} (ho : o ≤ R.room) : (p.at (n + 2)).call "put_change" [R.d, .tup [.int R.room, .int o]] S =
    .ok (if o < R.room then five [o, R.room] [o + 1, R.room] 2 0 0 else if R.kind = "share" then five [R.room, R.room] [R.first, R.room + 1 - R.first, R.room] 2 1 0 else five [R.room, R.room] (thirdsI (2 * R.room + 1)) 3 1 0) S := by
  have hp : PyData.strOk "part" = true := strOk_lit _
  have hs : PyData.strOk "share" = true := strOk_lit _
  have ml : ∀ {z : Int} {S : Sto}, binD .mul (.int 2) (.int z) S = .ok (.int (2 * z)) S := bin_mul_int (mulOk_left (by decide))
  have e1 : (R.kind == ("part" : Str)) = false := by simp [hk]
  rw [at_call]
  simp only [fd_put_change, ir_put_change]
  walk_at "ev"
  simp [Rl.d, cmp_eq_str (strK h) hp, hk]
  by_cases h1 : o < R.room
  · simp [h1, intsD]
  · simp [h1, cmp_eq_str (strK h) hs]
    by_cases h2 : R.kind = "share"
    · have hb : ∀ S, binD .add (.tup [.int R.first, .int (R.room + 1 - R.first)]) (.tup [.int R.room]) S = .ok (.tup [.int R.first, .int (R.room + 1 - R.first), .int R.room]) S := fun S => bin_add_tup (by simp)
      simp [h2, hb, intsD]
    · simp [h2, ml, c_thirds, intsD]
theorem c_take1 [HasF p "take_change" fd_take_change] {R : Rl} {c : Int} (hc : R.low < c) : (p.at (n + 2)).call "take_change" [R.d, .tup [.int c]] S = .ok (five [c] [c - 1] 1 0 0) S := by
  rw [at_call]
  simp only [fd_take_change, ir_take_change]
  walk_at "ev"
  simp [Rl.d, hc, intsD]
theorem c_take2 [HasF p "take_change" fd_take_change] {R : Rl} {o : Int} : (p.at (n + 2)).call "take_change" [R.d, .tup [.int R.low, .int o]] S =
    .ok (if R.low - 1 + o ≤ R.fit then five [R.low, o] [R.low - 1 + o] 1 0 1 else five [R.low, o] [R.low, o - 1] 2 0 0) S := by
  rw [at_call]
  simp only [fd_take_change, ir_take_change]
  walk_at "ev"
  simp [Rl.d, intsD]
  by_cases h : R.low - 1 + o ≤ R.fit
  · simp [h, intsD]
  · simp [h, intsD]
theorem mul0 {z : Int} : binD .mul (.int 0) (.int z) S = .ok (.int (0 * z)) S := bin_mul_int (mulOk_left (by decide))
theorem mul1 {z : Int} : binD .mul (.int 1) (.int z) S = .ok (.int (1 * z)) S := bin_mul_int (mulOk_left (by decide))
theorem mul2 {z : Int} : binD .mul (.int 2) (.int z) S = .ok (.int (2 * z)) S := bin_mul_int (mulOk_left (by decide))
theorem mul3 {z : Int} : binD .mul (.int 3) (.int z) S = .ok (.int (3 * z)) S := bin_mul_int (mulOk_left (by decide))
section
variable [HasF p "put_change" fd_put_change] [HasF p "take_change" fd_take_change] [HasF p "thirds" fd_thirds] [HasF p "change_of" fd_change_of]
theorem change_end {R : Rl} {xs ys : List Int} {w n' g : Int} {d : D} {F : Fns} {C : Xcs} {e7 e8 : Option D}
    (hw : ∀ {z : Int} {S : Sto}, binD .mul (.int w) (.int z) S = .ok (.int (w * z)) S) (hn : ∀ {z : Int} {S : Sto}, binD .mul (.int n') (.int z) S = .ok (.int (n' * z)) S) (hg : ∀ {z : Int} {S : Sto}, binD .mul (.int g) (.int z) S = .ok (.int (g * z)) S) :
    evalB F C [.asg (.name 7) (.idx (.var 0) (.int 4)),
  .asg (.name 8) (.bin .add (.bin .add (.bin .mul (.var 4) (.idx (.var 7) (.int 0))) (.bin .mul (.var 5) (.idx (.var 7) (.int 1)))) (.bin .mul (.var 6) (.idx (.var 7) (.int 2)))),
  .ret (.tup [(.bi .tuple [(.bi .sorted [(.var 2)])]), (.bi .tuple [(.bi .sorted [(.var 3)])]), (.var 8)])] [some R.d, some d, some (.tup (intsD xs)), some (.tup (intsD ys)), some (.int w), some (.int n'), some (.int g), e7, e8] S =
    .rt (trioT (srtI xs, srtI ys, w * R.a + n' * R.b + g * R.c)) S := by
  walk_at "ev"
  simp [Rl.d, Rl.tl, hw, hn, hg, bi_sorted_tup, trioT]
theorem c_change_of {R : Rl} (h : R.Ok) {d : D} (hd : d ∈ R.moves true) : (p.at (n + 3)).call "change_of" [R.d, d] S = .ok (trioT (R.turn d)) S := by
  have hp : PyData.strOk "put" = true := strOk_lit _
  have ht : PyData.strOk "take" = true := strOk_lit _
  have e1 : (("take" : Str) == "put") = false := by simp [take_put]
  rw [at_call, runFd_eq rfl rfl at_lm]
  simp only [fd_change_of, ir_change_of]
  rw [evalB_cons]
  obtain ⟨xs, ys, w, n', g, hw, hn, hg, e, ex, ey, et⟩ : ∃ (xs ys : List Int) (w n' g : Int), (∀ {z : Int} {S : Sto}, binD .mul (.int w) (.int z) S = .ok (.int (w * z)) S) ∧ (∀ {z : Int} {S : Sto}, binD .mul (.int n') (.int z) S = .ok (.int (n' * z)) S) ∧ (∀ {z : Int} {S : Sto}, binD .mul (.int g) (.int z) S = .ok (.int (g * z)) S) ∧
      evalS (p.at (n + 2)) p.xcs (.asg (.tup [2, 3, 4, 5, 6]) (.ite (.cmp .eq (.idx (.var 1) (.int 0)) (.str "put")) (.call "put_change" [(.var 0), (.sl (.var 1) (.some (.int 1)) .none)]) (.call "take_change" [(.var 0), (.sl (.var 1) (.some (.int 1)) .none)]))) (startE 9 [R.d, d]) S =
        .nx [some R.d, some d, some (.tup (intsD xs)), some (.tup (intsD ys)), some (.int w), some (.int n'), some (.int g), none, none] S ∧ srtI xs = (R.turn d).1 ∧ srtI ys = (R.turn d).2.1 ∧ w * R.a + n' * R.b + g * R.c = (R.turn d).2.2 := by
    rcases moves_cases hd with ⟨c, rfl, c1, c2⟩ | ⟨hk, rfl⟩ | ⟨hk, o, rfl, o1, o2⟩ | ⟨_, o, rfl, o1, o2⟩ | ⟨_, c, rfl, c1, c2⟩
    · refine ⟨[c], [c + 1], 1, 0, 0, mul1, mul0, mul0, ?_, by simp [Rl.turn, c2, srt1], by simp [Rl.turn, c2, srt1], by simp [Rl.turn, c2]⟩
      walk_at "ev"
      simp [put1, put2, take1, take2, cmp_eq_str hp hp, c_put1 c2]
    · refine ⟨[R.room], [R.first, R.room + 1 - R.first], 2, 1, 0, mul2, mul1, mul0, ?_, by simp [Rl.turn, srt1], by simp [Rl.turn], by simp [Rl.turn]⟩
      walk_at "ev"
      simp [put1, put2, take1, take2, cmp_eq_str hp hp, c_put_part hk]
    · by_cases q1 : o < R.room
      · refine ⟨[o, R.room], [o + 1, R.room], 2, 0, 0, mul2, mul0, mul0, ?_, by simp [Rl.turn, q1]; exact srt2 (by omega), by simp [Rl.turn, q1]; exact srt2 (by omega), by simp [Rl.turn, q1]⟩
        walk_at "ev"
        simp [put1, put2, take1, take2, cmp_eq_str hp hp, c_put2 h hk o2, q1]
      · by_cases q2 : R.kind = "share"
        · refine ⟨[R.room, R.room], [R.first, R.room + 1 - R.first, R.room], 2, 1, 0, mul2, mul1, mul0, ?_, by simp [Rl.turn, q1, q2]; exact srt2 (by omega), by simp [Rl.turn, q1, q2], by simp [Rl.turn, q1, q2]⟩
          walk_at "ev"
          simp [put1, put2, take1, take2, cmp_eq_str hp hp, c_put2 h hk o2, q1, q2]
        · refine ⟨[R.room, R.room], thirdsI (2 * R.room + 1), 3, 1, 0, mul3, mul1, mul0, ?_, by simp [Rl.turn, q1, q2]; exact srt2 (by omega), ?_, by simp [Rl.turn, q1, q2]⟩
          · walk_at "ev"
            simp [put1, put2, take1, take2, cmp_eq_str hp hp, c_put2 h hk o2, q1, q2]
          · have a1 : (2 * R.room + 1) / 3 ≤ (2 * R.room + 1 + 1) / 3 := by omega
            have a2 : (2 * R.room + 1 + 1) / 3 ≤ (2 * R.room + 1 + 2) / 3 := by omega
            simp [Rl.turn, q1, q2, thirdsI, srtI, insI, a1, a2]
    · by_cases q : R.low - 1 + o ≤ R.fit
      · refine ⟨[R.low, o], [R.low - 1 + o], 1, 0, 1, mul1, mul0, mul1, ?_, by simp [Rl.turn, q, take_put]; exact srt2 (by omega), by simp [Rl.turn, q, take_put, srt1], by simp [Rl.turn, q, take_put]⟩
        walk_at "ev"
        simp [put1, put2, take1, take2, cmp_eq_str ht hp, take_put, c_take2, q]
      · refine ⟨[R.low, o], [R.low, o - 1], 2, 0, 0, mul2, mul0, mul0, ?_, by simp [Rl.turn, q, take_put]; exact srt2 (by omega), by simp [Rl.turn, q, take_put]; exact srt2 (by have := h.f1; omega), by simp [Rl.turn, q, take_put]⟩
        walk_at "ev"
        simp [put1, put2, take1, take2, cmp_eq_str ht hp, take_put, c_take2, q]
    · refine ⟨[c], [c - 1], 1, 0, 0, mul1, mul0, mul0, ?_, by simp [Rl.turn, srt1, take_put], by simp [Rl.turn, srt1, take_put], by simp [Rl.turn, take_put]⟩
      walk_at "ev"
      simp [put1, put2, take1, take2, cmp_eq_str ht hp, take_put, c_take1 c1]
  rw [e, RS.next_nx, change_end hw hn hg, outOf_rt, ex, ey, et]
end
end LT
set_option Elab.async false
set_option linter.all false
set_option maxRecDepth 100000
set_option maxHeartbeats 4000000
/-! Own layer, part R2: the law's own turn; what is a deed; change. -/
namespace LT
open PySem
local macro_rules | `(tactic| walk_at "ev") => `(tactic| try simp only [at_with, runFd, List.length_cons, List.length_nil, if_true, if_false, Bool.false_eq_true, startE, List.map_cons, List.map_nil, List.cons_append, List.nil_append, Nat.add_one_sub_one, Nat.sub_self, Nat.reduceAdd, Nat.reduceSub, List.replicate_zero, List.replicate_succ, evalB, evalS, evalE, evalT, evalI, evP, evPs, evPO, evPI, Ev.mk', evEs, evAnd, evOr, evTAnd, evTOr, evO, evC, Res.b_ok, Res.b_exc, Res.b_bad, Res.toS_ok, Res.toS_exc, RS.next_nx, RS.next_rt, RS.next_exc, List.getElem?_cons_zero, List.getElem?_cons_succ, Option.join_some, at_callE, at_inC, at_bndC', List.set_cons_zero, List.set_cons_succ, bindT_name, bindT_tup, setAll_cons, setAll_nil, at_gcon])
local macro_rules | `(tactic| walk_at "st") => `(tactic| try simp only [Res.toS_sat, RS.next_sat, Res.sat_bind, outOf_satE, Res.sat_ok, RS.sat_nx, RS.sat_rt, List.getElem?_cons_zero, List.getElem?_cons_succ, Option.join_some, List.set_cons_zero, List.set_cons_succ, truthD_bl, truthD_int, truthD_non, truthD_tup, truthD_lst])
local macro_rules | `(tactic| walk_at "evL") => `(tactic| try simp only [atL_eq, runFd, List.length_cons, List.length_nil, if_true, if_false, Bool.false_eq_true, startE, List.map_cons, List.map_nil, List.cons_append, List.nil_append, Nat.add_one_sub_one, Nat.sub_self, Nat.reduceAdd, Nat.reduceSub, List.replicate_zero, List.replicate_succ, evalB, evalS, evalE, evalT, evalI, evP, evPs, evPO, evPI, Ev.mk', evEs, evAnd, evOr, evTAnd, evTOr, evO, evC, Res.b_ok, Res.b_exc, Res.b_bad, Res.toS_ok, Res.toS_exc, RS.next_nx, RS.next_rt, RS.next_exc, List.getElem?_cons_zero, List.getElem?_cons_succ, Option.join_some, atL_callE, atL_inC, atL_bndC, atL_lm, at_callE, at_inC, at_bndC', List.set_cons_zero, List.set_cons_succ, bindT_name, bindT_tup, setAll_cons, setAll_nil, atL_con, at_gcon])
variable {p : Prog} {n : Nat} {S : Sto}
theorem mul_rep {a : D} {z : Int} (h0 : 0 ≤ z) (h : z ≤ 1000) : binD .mul (.lst [a]) (.int z) S = .ok (.lst (List.replicate z.toNat a)) S := by
  show (match S.items (.lst [a]) with | some ds => repD ds (.int z) S | none => .bad) = _
  rw [items_lst]
  dsimp only
  unfold repD
  dsimp only
  rw [if_pos ⟨h, by omega, by simp⟩]
  congr 2
  generalize z.toNat = m
  induction m with
  | zero => rfl
  | succ m ih => simp [List.replicate_succ, ih]
theorem cut_two {a b : D} {ds : List D} : cutD (a :: b :: ds) none (some 2) = [a, b] := by
  unfold cutD
  have h1 : HT.sIx (a :: b :: ds).length 0 none = 0 := by simp [HT.sIx]
  have h2 : HT.sIx (a :: b :: ds).length (a :: b :: ds).length (some 2) = 2 := by simp [HT.sIx]
  rw [h1, h2]
  simp
theorem c_law_turn [HasF p "_law_turn" fd_law_turn] {R : Rl} (h : R.Ok) {d : D} (hd : d ∈ R.moves true) : (p.at (n + 1)).call "_law_turn" [R.d, d] S = .ok (trioL (R.turn d)) S := by
  have hp : PyData.strOk "put" = true := strOk_lit _
  have ht : PyData.strOk "take" = true := strOk_lit _
  have hpp : PyData.strOk "part" = true := strOk_lit _
  have hsh : PyData.strOk "share" = true := strOk_lit _
  have hk := strK h
  have sp : ¬ (("share" : Str) = "part") := by decide +kernel
  have fd3 : ∀ {z : Int} {S : Sto}, binD .fdiv (.int z) (.int 3) S = .ok (.int (z / 3)) S := bin_fdiv_int (by decide) (by decide)
  have md3 : ∀ {z : Int} {S : Sto}, binD .mod (.int z) (.int 3) S = .ok (.int (z % 3)) S := bin_mod_int (by decide)
  have so : ∀ {l : List Int} {S : Sto}, biD .sorted [.lst (l.map D.int)] S = .ok (.lst (intsD (srtI l))) S := bi_sorted_lst
  rw [at_call]
  simp only [fd_law_turn, ir_law_turn]
  walk_at "ev"
  rcases moves_cases hd with ⟨c, rfl, c1, c2⟩ | ⟨hk, rfl⟩ | ⟨hk, o, rfl, o1, o2⟩ | ⟨_, o, rfl, o1, o2⟩ | ⟨_, c, rfl, c1, c2⟩
  · simp [put1, Rl.d, Rl.tl, cut_two, cmp_eq_str hp hp, c2, Rl.turn, trioL, intsD]
  · simp [put1, Rl.d, Rl.tl, cut_two, cmp_eq_str hp hp, cmp_eq_str hp ht, put_take, Rl.turn, trioL, hk, cmp_eq_str hpp hpp, mul2]
    have z := so (l := [R.first, R.room + 1 - R.first]) (S := S)
    simp only [List.map_cons, List.map_nil] at z
    simp [z, intsD]
  · by_cases q1 : o < R.room
    · simp [put2, Rl.d, Rl.tl, cut_two, cmp_eq_str hp hp, cmp_eq_str hp ht, put_take, Rl.turn, trioL, hk, cmp_eq_str (strK h) hpp, mul2, q1, intsD]
    · by_cases q2 : R.kind = "share"
      · have z := so (l := [R.first, R.room + 1 - R.first, R.room]) (S := S)
        simp only [List.map_cons, List.map_nil] at z
        simp [put2, Rl.d, Rl.tl, cut_two, cmp_eq_str hp hp, cmp_eq_str hp ht, put_take, Rl.turn, trioL, hk, cmp_eq_str hsh hpp, cmp_eq_str hsh hsh, sp, mul2, q1, q2, z, intsD]
      · simp [put2, Rl.d, Rl.tl, cut_two, cmp_eq_str hp hp, cmp_eq_str hp ht, put_take, Rl.turn, trioL, hk, cmp_eq_str (strK h) hpp, cmp_eq_str (strK h) hsh, mul2, mul3, q1, q2, intsD, fd3, md3]
        generalize hz : (2 * R.room + 1) / 3 = z
        generalize hw : (2 * R.room + 1) % 3 = w
        have w0 : 0 ≤ w := by omega
        have w3 : w < 3 := by omega
        rw [mul_rep (by omega) (by omega)]
        simp only [Res.b_ok]
        rw [mul_rep (by omega) (by omega)]
        simp only [Res.b_ok]
        rw [bin_add_lst (by simp; omega)]
        have : w = 0 ∨ w = 1 ∨ w = 2 := by omega
        rcases this with rfl | rfl | rfl
        · have a1 : (2 * R.room + 1 + 1) / 3 = z := by omega
          have a2 : (2 * R.room + 1 + 2) / 3 = z := by omega
          simp [thirdsI, hz, a1, a2, List.replicate_succ]
        · have a1 : (2 * R.room + 1 + 1) / 3 = z := by omega
          have a2 : (2 * R.room + 1 + 2) / 3 = z + 1 := by omega
          simp [thirdsI, hz, a1, a2, List.replicate_succ]
        · have a1 : (2 * R.room + 1 + 1) / 3 = z + 1 := by omega
          have a2 : (2 * R.room + 1 + 2) / 3 = z + 1 := by omega
          simp [thirdsI, hz, a1, a2, List.replicate_succ]
  · have z := so (l := [R.low, o]) (S := S)
    have z2 := so (l := [R.low, o - 1]) (S := S)
    simp only [List.map_cons, List.map_nil] at z z2
    rw [srt2 (by omega)] at z
    by_cases q : R.low - 1 + o ≤ R.fit
    · simp [take2, Rl.d, Rl.tl, cut_two, cmp_eq_str ht hp, cmp_eq_str ht ht, take_put, Rl.turn, trioL, q, z, intsD]
    · rw [srt2 (by have := h.f1; omega)] at z2
      simp [take2, Rl.d, Rl.tl, cut_two, cmp_eq_str ht hp, cmp_eq_str ht ht, take_put, Rl.turn, trioL, q, z, z2, intsD, mul2]
  · simp [take1, Rl.d, Rl.tl, cut_two, cmp_eq_str ht hp, cmp_eq_str ht ht, take_put, c1, Rl.turn, trioL, intsD]
end LT
set_option Elab.async false
set_option linter.all false
set_option maxRecDepth 100000
set_option maxHeartbeats 4000000
/-! Own layer, part R3: what is a deed; change. -/
namespace LT
open PySem
local macro_rules | `(tactic| walk_at "ev") => `(tactic| try simp only [at_with, runFd, List.length_cons, List.length_nil, if_true, if_false, Bool.false_eq_true, startE, List.map_cons, List.map_nil, List.cons_append, List.nil_append, Nat.add_one_sub_one, Nat.sub_self, Nat.reduceAdd, Nat.reduceSub, List.replicate_zero, List.replicate_succ, evalB, evalS, evalE, evalT, evalI, evP, evPs, evPO, evPI, Ev.mk', evEs, evAnd, evOr, evTAnd, evTOr, evO, evC, Res.b_ok, Res.b_exc, Res.b_bad, Res.toS_ok, Res.toS_exc, RS.next_nx, RS.next_rt, RS.next_exc, List.getElem?_cons_zero, List.getElem?_cons_succ, Option.join_some, at_callE, at_inC, at_bndC', List.set_cons_zero, List.set_cons_succ, bindT_name, bindT_tup, setAll_cons, setAll_nil, at_gcon])
local macro_rules | `(tactic| walk_at "st") => `(tactic| try simp only [Res.toS_sat, RS.next_sat, Res.sat_bind, outOf_satE, Res.sat_ok, RS.sat_nx, RS.sat_rt, List.getElem?_cons_zero, List.getElem?_cons_succ, Option.join_some, List.set_cons_zero, List.set_cons_succ, truthD_bl, truthD_int, truthD_non, truthD_tup, truthD_lst])
local macro_rules | `(tactic| walk_at "evL") => `(tactic| try simp only [atL_eq, runFd, List.length_cons, List.length_nil, if_true, if_false, Bool.false_eq_true, startE, List.map_cons, List.map_nil, List.cons_append, List.nil_append, Nat.add_one_sub_one, Nat.sub_self, Nat.reduceAdd, Nat.reduceSub, List.replicate_zero, List.replicate_succ, evalB, evalS, evalE, evalT, evalI, evP, evPs, evPO, evPI, Ev.mk', evEs, evAnd, evOr, evTAnd, evTOr, evO, evC, Res.b_ok, Res.b_exc, Res.b_bad, Res.toS_ok, Res.toS_exc, RS.next_nx, RS.next_rt, RS.next_exc, List.getElem?_cons_zero, List.getElem?_cons_succ, Option.join_some, atL_callE, atL_inC, atL_bndC, atL_lm, at_callE, at_inC, at_bndC', List.set_cons_zero, List.set_cons_succ, bindT_name, bindT_tup, setAll_cons, setAll_nil, atL_con, at_gcon])
variable {p : Prog} {n : Nat} {S : Sto}
theorem any_pds {v : D} (hv : v.deep = true) (nv : v.nob = true) : ∀ {ds : List D}, D.deeps ds = true → D.nobs ds = true → (D.pds ds).any (fun z => PyData.eqv z v.pd) = decide (v ∈ ds)
  | [], _, _ => by simp [D.pds]
  | d :: ds, h, q => by
    simp only [D.deeps, D.nobs, Bool.and_eq_true] at h q
    have ih := any_pds hv nv h.2 q.2
    simp only [D.pds, List.any_cons, ih, eqv_nob h.1 hv q.1 nv]
    by_cases h1 : d = v
    · subst h1; simp
    · have : ¬ (v = d) := fun z => h1 z.symm
      by_cases h2 : v ∈ ds <;> simp [h1, h2, this]
/-- x in a list, no truths about -/
theorem in_lst {v : D} {ds : List D} (hv : v.deep = true) (nv : v.nob = true) (dv : v.dep ≤ 64) (h : D.deeps ds = true) (q : D.nobs ds = true) (dd : D.deps ds ≤ 63) : cmpD .in_ v (.lst ds) S = .ok (.bl (decide (v ∈ ds))) S := by
  show (match S.items (.lst ds) with | some ds => inLs false ds v S | none => .bad) = _
  rw [items_lst]
  dsimp only
  unfold inLs
  rw [D.toP_pd hv, D.toPs_pd h]
  have e : pdOk (.list (D.pds ds)) = true := by
    have z := D.pdOk_pd (d := .lst ds) (by simpa [D.deep] using h) (by simp only [D.dep]; omega)
    simpa [D.pd] using z
  dsimp only
  rw [D.pdOk_pd hv dv, e, any_pds hv nv h q]
  simp
theorem nin_lst {v : D} {ds : List D} (hv : v.deep = true) (nv : v.nob = true) (dv : v.dep ≤ 64) (h : D.deeps ds = true) (q : D.nobs ds = true) (dd : D.deps ds ≤ 63) : cmpD .nin v (.lst ds) S = .ok (.bl (!decide (v ∈ ds))) S := by
  show (match S.items (.lst ds) with | some ds => inLs true ds v S | none => .bad) = _
  rw [items_lst]
  dsimp only
  unfold inLs
  rw [D.toP_pd hv, D.toPs_pd h]
  have e : pdOk (.list (D.pds ds)) = true := by
    have z := D.pdOk_pd (d := .lst ds) (by simpa [D.deep] using h) (by simp only [D.dep]; omega)
    simpa [D.pd] using z
  dsimp only
  rw [D.pdOk_pd hv dv, e, any_pds hv nv h q]
  simp
theorem nin_23 {k : Int} : cmpD .nin (.int k) (.tup [.int 2, .int 3]) S = .ok (.bl (!(2 == k || 3 == k))) S := by
  simp [cmpD, inD, D.toP, D.toPs, flatD, PyData.eqv]
theorem moves_form {R : Rl} (h : R.Ok) {all : Bool} {d : D} (hd : d ∈ R.moves all) : ∃ (w : Str) (c : Int), 1 ≤ c ∧ c ≤ 7 ∧ (d = .tup [.str w, .int c] ∨ ∃ o : Int, 1 ≤ o ∧ o ≤ 7 ∧ d = .tup [.str w, .int c, .int o]) := by
  have r1 := h.r1; have r2 := h.r2; have l1 := h.l1; have l2 := h.l2
  rcases moves_cases hd with ⟨c, rfl, c1, c2⟩ | ⟨hk, rfl⟩ | ⟨hk, o, rfl, o1, o2⟩ | ⟨_, o, rfl, o1, o2⟩ | ⟨_, c, rfl, c1, c2⟩
  · exact ⟨_, c, by omega, by omega, .inl rfl⟩
  · exact ⟨_, R.room, by omega, by omega, .inl rfl⟩
  · exact ⟨_, R.room, by omega, by omega, .inr ⟨o, by omega, by omega, rfl⟩⟩
  · exact ⟨_, R.low, by omega, by omega, .inr ⟨o, by omega, by omega, rfl⟩⟩
  · exact ⟨_, c, by omega, by omega, .inl rfl⟩
theorem not_move {R : Rl} (h : R.Ok) {d : D} (hd : ¬ ∃ (w : Str) (c : Int), 1 ≤ c ∧ c ≤ 7 ∧ (d = .tup [.str w, .int c] ∨ ∃ o : Int, 1 ≤ o ∧ o ≤ 7 ∧ d = .tup [.str w, .int c, .int o])) : decide (d ∈ R.moves true) = false :=
  decide_eq_false fun z => hd (moves_form h z)
theorem isW_iff {d : D} {lo hi : Int} : isW d lo hi = true ↔ ∃ i, d = .int i ∧ lo ≤ i ∧ i ≤ hi := ⟨isW_int, fun ⟨i, e, a, b⟩ => by subst e; simp [isW, a, b]⟩
theorem c_is_right_deed [HasF p "is_whole" fd_is_whole] [HasF p "deeds_of" fd_deeds_of] [HasF p "is_right_deed" fd_is_right_deed] {R : Rl} (h : R.Ok) {v : D} (hv : v.deep = true) :
    (p.at (n + 2)).call "is_right_deed" [R.d, v] S = .ok (.bl (decide (v ∈ R.moves true))) S := by
  obtain ⟨m1, m2, m3, m4⟩ := movesD_fit (part := R.kind == "part") (all := true) h.r2 h.l1
  have ms1 : D.deeps (R.moves true) = true := by simpa [D.deep, Rl.moves] using m1
  have ms2 : D.nobs (R.moves true) = true := by simpa [D.nob, Rl.moves] using m4
  have ms3 : D.deps (R.moves true) ≤ 63 := by simp only [D.dep] at m2; have : D.deps (R.moves true) + 1 ≤ 2 := m2; omega
  have dof : ∀ S, (p.at (n + 1)).call "deeds_of" [R.d, .str "all"] S = .ok (.lst (R.moves true)) S := fun S => c_deeds_of (n := n) h true
  rw [at_call]
  simp only [fd_is_right_deed, ir_is_right_deed]
  walk_at "ev"
  cases v <;> simp only [D.deep, Bool.false_eq_true] at hv <;> try (rw [not_move h (by simp)]; simp; done)
  rename_i ds
  rcases ds with _ | ⟨a, _ | ⟨b, _ | ⟨c, _ | ⟨e, ds⟩⟩⟩⟩
  · rw [not_move h (by simp)]
    simp [nin_23]
  · rw [not_move h (by simp)]
    simp [nin_23]
  · simp only [D.deeps, Bool.and_eq_true] at hv
    obtain ⟨ha, hb, _⟩ := hv
    cases a <;> simp only [D.deep, Bool.false_eq_true] at ha <;> try (rw [not_move h (by simp)]; simp [nin_23]; done)
    rename_i w
    simp [nin_23]
    rw [comp_map (ds := [b]) rfl (fun d => .bl (isW d 1 7)) (fun d hd => ?_)]
    · simp [bi_all, blsOf]
      cases hw : isW b 1 7 with
      | false =>
        have : ¬ (D.tup [.str w, b] ∈ R.moves true) := fun z => by
          obtain ⟨w2, c2, h1, h2, q⟩ := moves_form h z
          simp at q
          rw [q.2] at hw
          simp [isW, h1, h2] at hw
        simp [this]
      | true =>
        obtain ⟨i, rfl, i1, i2⟩ := isW_int hw
        simp [dof, in_lst (S := S) (v := .tup [.str w, .int i]) (by simp [D.deep, D.deeps, ha]) (by simp [D.nob, D.nobs]) (by simp [D.dep, D.deps]) ms1 ms2 ms3]
    · simp only [List.mem_singleton] at hd
      subst hd
      exact ⟨_, rfl, rfl, by simp [c_is_whole (D.deep_dat hb)]⟩
  · simp only [D.deeps, Bool.and_eq_true] at hv
    obtain ⟨ha, hb, hc, _⟩ := hv
    cases a <;> simp only [D.deep, Bool.false_eq_true] at ha <;> try (rw [not_move h (by simp)]; simp [nin_23]; done)
    rename_i w
    simp [nin_23]
    rw [comp_map (ds := [b, c]) rfl (fun d => .bl (isW d 1 7)) (fun d hd => ?_)]
    · simp [bi_all, blsOf]
      cases hw : isW b 1 7 with
      | false =>
        have : ¬ (D.tup [.str w, b, c] ∈ R.moves true) := fun z => by
          obtain ⟨w2, c2, h1, h2, q⟩ := moves_form h z
          simp at q
          obtain ⟨o, _, _, _, q, _⟩ := q
          rw [q] at hw
          simp [isW, h1, h2] at hw
        simp [this]
      | true =>
        cases hw2 : isW c 1 7 with
        | false =>
          have : ¬ (D.tup [.str w, b, c] ∈ R.moves true) := fun z => by
            obtain ⟨w2, c2, h1, h2, q⟩ := moves_form h z
            simp at q
            obtain ⟨o, h3, h4, _, _, q⟩ := q
            rw [q] at hw2
            simp [isW, h3, h4] at hw2
          simp [this]
        | true =>
          obtain ⟨i, rfl, i1, i2⟩ := isW_int hw
          obtain ⟨j, rfl, j1, j2⟩ := isW_int hw2
          simp [dof, in_lst (S := S) (v := .tup [.str w, .int i, .int j]) (by simp [D.deep, D.deeps, ha]) (by simp [D.nob, D.nobs]) (by simp [D.dep, D.deps]) ms1 ms2 ms3]
    · have hd' : d.dat = true := by
        simp only [List.mem_cons, List.not_mem_nil, or_false] at hd
        rcases hd with rfl | rfl <;> exact D.deep_dat (by assumption)
      exact ⟨_, rfl, rfl, by simp [c_is_whole hd']⟩
  · rw [not_move h (by simp)]
    have h2 : ¬ (2 = (ds.length : Int) + 1 + 1 + 1 + 1) := by omega
    have h3 : ¬ (3 = (ds.length : Int) + 1 + 1 + 1 + 1) := by omega
    simp [nin_23, h2, h3]
section
variable [HasF p "is_whole" fd_is_whole] [HasF p "deeds_of" fd_deeds_of] [HasF p "is_right_deed" fd_is_right_deed] [HasF p "need_deed" fd_need_deed] [HasX p "InvalidDeed" none]
theorem c_need_deed {R : Rl} (h : R.Ok) {v : D} (hv : v.deep = true) : (p.at (n + 3)).call "need_deed" [R.d, v] S = if v ∈ R.moves true then .ok .non S else exc0 "InvalidDeed" S := by
  rw [at_call]
  simp only [fd_need_deed, ir_need_deed]
  walk_at "ev"
  simp only [c_is_right_deed h hv]
  walk_at "ev"
  by_cases hm : v ∈ R.moves true <;> simp [hm, fieldX (p := p) (x := "InvalidDeed")]
variable [HasF p "is_split" fd_is_split] [HasC p "SPLITS" splitsD] [HasF p "are_tolls" fd_are_tolls] [HasF p "is_right_rule" fd_is_right_rule] [HasF p "need_rule" fd_need_rule] [HasX p "InvalidRule" none]
variable [HasF p "put_change" fd_put_change] [HasF p "take_change" fd_take_change] [HasF p "thirds" fd_thirds] [HasF p "change_of" fd_change_of] [HasF p "change" fd_change]
theorem c_change {R : Rl} (h : R.Ok) {v : D} (hv : v.deep = true) : (p.at (n + 5)).call "change" [R.d, v] S = if v ∈ R.moves true then .ok (trioT (R.turn v)) S else exc0 "InvalidDeed" S := by
  rw [at_call]
  simp only [fd_change, ir_change]
  walk_at "ev"
  simp only [c_need_rule (rl_gd h).deep, h.b, if_true]
  walk_at "ev"
  by_cases hm : v ∈ R.moves true
  · simp [c_need_deed h hv, hm, c_change_of h hm]
  · simp [c_need_deed h hv, hm]
theorem c_change_rule {d e : D} (hd : d.deep = true) (h : ruleB d = false) : (p.at (n + 5)).call "change" [d, e] S = exc0 "InvalidRule" S := by
  rw [at_call]
  simp only [fd_change, ir_change]
  walk_at "ev"
  simp [c_need_rule hd, h]
end
end LT
set_option Elab.async false
set_option linter.all false
set_option maxRecDepth 100000
set_option maxHeartbeats 4000000
/-! Own layer, part R4: what holds of turns. -/
namespace LT
open PySem
theorem insI_sum {a : Int} : ∀ {l : List Int}, (insI a l).sum = a + l.sum
  | [] => by simp [insI]
  | b :: r => by
    unfold insI
    split
    · simp
    · simp [insI_sum (a := a) (l := r)]; omega
theorem srtI_sum : ∀ {l : List Int}, (srtI l).sum = l.sum
  | [] => rfl
  | a :: r => by simp [srtI, insI_sum, srtI_sum (l := r)]
theorem insI_mem {a x : Int} : ∀ {l : List Int}, x ∈ insI a l ↔ x = a ∨ x ∈ l
  | [] => by simp [insI]
  | b :: r => by
    unfold insI
    split
    · simp
    · simp [insI_mem (a := a) (l := r)]
      constructor
      · rintro (h | h | h) <;> simp [h]
      · rintro (h | h | h) <;> simp [h]
theorem srtI_mem {x : Int} : ∀ {l : List Int}, x ∈ srtI l ↔ x ∈ l
  | [] => by simp [srtI]
  | a :: r => by simp [srtI, insI_mem, srtI_mem (l := r)]
theorem insI_len {a : Int} : ∀ {l : List Int}, (insI a l).length = l.length + 1
  | [] => by simp [insI]
  | b :: r => by
    unfold insI
    split
    · simp
    · simp [insI_len (a := a) (l := r)]
theorem srtI_len : ∀ {l : List Int}, (srtI l).length = l.length
  | [] => rfl
  | a :: r => by simp [srtI, insI_len, srtI_len (l := r)]
/-- is it a put -/
def isPut : D → Bool
  | .tup (.str w :: _) => w == "put"
  | _ => false
structure TurnOk (R : Rl) (d : D) : Prop where
  sum : (R.turn d).2.1.sum - (R.turn d).1.sum = if isPut d then 1 else -1
  ahead : ∀ x ∈ (R.turn d).1, R.low ≤ x ∧ x ≤ R.room
  after : ∀ x ∈ (R.turn d).2.1, R.low ≤ x ∧ x ≤ R.room
  n1 : (R.turn d).1 ≠ [] ∧ (R.turn d).1.length ≤ 2
  n2 : (R.turn d).2.1 ≠ [] ∧ (R.turn d).2.1.length ≤ 3
  t1 : 0 ≤ (R.turn d).2.2
  t2 : (R.turn d).2.2 ≤ 36
theorem part_first {R : Rl} (h : R.Ok) (hk : R.kind ≠ "three") : R.low ≤ R.first ∧ R.first ≤ R.room + 1 - R.low := by
  rcases h.sp with ⟨e, _⟩ | ⟨_, z⟩
  · exact absurd e hk
  · exact z
theorem turn_ok {R : Rl} (h : R.Ok) {all : Bool} {d : D} (hd : d ∈ R.moves all) : TurnOk R d := by
  have r1 := h.r1; have r2 := h.r2; have l1 := h.l1; have l2 := h.l2; have f1 := h.f1; have f2 := h.f2; have a1 := h.a1; have a2 := h.a2; have b1 := h.b1; have b2 := h.b2; have c1 := h.c1; have c2 := h.c2
  have isp : isPut (put1 0) = true := by decide +kernel
  have ep : (("put" : Str) == "put") = true := by decide +kernel
  have et : (("take" : Str) == "put") = false := by decide +kernel
  rcases moves_cases hd with ⟨c, rfl, c1, c2⟩ | ⟨hk, rfl⟩ | ⟨hk, o, rfl, o1, o2⟩ | ⟨_, o, rfl, o1, o2⟩ | ⟨_, c, rfl, c1, c2⟩
  · have e : R.turn (put1 c) = ([c], [c + 1], R.a) := by simp [Rl.turn, c2]
    refine ⟨?_, ?_, ?_, ?_, ?_, ?_, ?_⟩ <;> rw [e]
    · simp [isPut]; omega
    · simp; omega
    · simp; omega
    · simp
    · simp
    · exact a1
    · dsimp only; omega
  · have e : R.turn (put1 R.room) = ([R.room], srtI [R.first, R.room + 1 - R.first], 2 * R.a + R.b) := by simp [Rl.turn]
    have hf := part_first h (by rw [hk]; exact part_three)
    refine ⟨?_, ?_, ?_, ?_, ?_, ?_, ?_⟩ <;> rw [e]
    · simp [isPut, srtI_sum]; omega
    · simp; omega
    · intro x hx
      simp only [srtI_mem, List.mem_cons, List.not_mem_nil, or_false] at hx
      omega
    · simp
    · refine ⟨fun z => ?_, by simp [srtI_len]⟩
      have := congrArg List.length z
      simp [srtI_len] at this
    · dsimp only; omega
    · dsimp only; omega
  · by_cases q1 : o < R.room
    · have e : R.turn (put2 R.room o) = ([o, R.room], [o + 1, R.room], 2 * R.a) := by simp [Rl.turn, q1]
      refine ⟨?_, ?_, ?_, ?_, ?_, ?_, ?_⟩ <;> rw [e]
      · simp [isPut]; omega
      · simp; omega
      · simp; omega
      · simp
      · simp
      · dsimp only; omega
      · dsimp only; omega
    · by_cases q2 : R.kind = "share"
      · have e : R.turn (put2 R.room o) = ([R.room, R.room], srtI [R.first, R.room + 1 - R.first, R.room], 2 * R.a + R.b) := by simp [Rl.turn, q1, q2]
        have hf := part_first h (by rw [q2]; exact share_three)
        refine ⟨?_, ?_, ?_, ?_, ?_, ?_, ?_⟩ <;> rw [e]
        · simp [isPut, srtI_sum]; omega
        · simp; omega
        · intro x hx
          simp only [srtI_mem, List.mem_cons, List.not_mem_nil, or_false] at hx
          omega
        · simp
        · refine ⟨fun z => ?_, by simp [srtI_len]⟩
          have := congrArg List.length z
          simp [srtI_len] at this
        · dsimp only; omega
        · dsimp only; omega
      · have e : R.turn (put2 R.room o) = ([R.room, R.room], thirdsI (2 * R.room + 1), 3 * R.a + R.b) := by simp [Rl.turn, q1, q2]
        refine ⟨?_, ?_, ?_, ?_, ?_, ?_, ?_⟩ <;> rw [e]
        · simp [isPut, thirdsI]
          have : R.room = 2 ∨ R.room = 3 ∨ R.room = 4 ∨ R.room = 5 ∨ R.room = 6 ∨ R.room = 7 := by omega
          rcases this with z | z | z | z | z | z <;> rw [z] <;> decide
        · simp; omega
        · intro x hx
          simp only [thirdsI, List.mem_cons, List.not_mem_nil, or_false] at hx
          omega
        · simp
        · simp [thirdsI]
        · dsimp only; omega
        · dsimp only; omega
  · by_cases q : R.low - 1 + o ≤ R.fit
    · have e : R.turn (take2 R.low o) = ([R.low, o], [R.low - 1 + o], R.a + R.c) := by simp [Rl.turn, q, take_put]
      refine ⟨?_, ?_, ?_, ?_, ?_, ?_, ?_⟩ <;> rw [e]
      · simp [isPut, et]; omega
      · simp; omega
      · simp; omega
      · simp
      · simp
      · dsimp only; omega
      · dsimp only; omega
    · have e : R.turn (take2 R.low o) = ([R.low, o], [R.low, o - 1], 2 * R.a) := by simp [Rl.turn, q, take_put]
      refine ⟨?_, ?_, ?_, ?_, ?_, ?_, ?_⟩ <;> rw [e]
      · simp [isPut, et]; omega
      · simp; omega
      · simp; omega
      · simp
      · simp
      · dsimp only; omega
      · dsimp only; omega
  · have e : R.turn (take1 c) = ([c], [c - 1], R.a) := by simp [Rl.turn, take_put]
    refine ⟨?_, ?_, ?_, ?_, ?_, ?_, ?_⟩ <;> rw [e]
    · simp [isPut, et]; omega
    · simp; omega
    · simp; omega
    · simp
    · simp
    · exact a1
    · dsimp only; omega
section
variable {S : Sto}
theorem sum_ints {l : List Int} : biD .sum [.lst (intsD l)] S = .ok (.int l.sum) S := by
  rw [bi_sum (ns := l)]
  have := intsOf_map (f := id) (l := l)
  simpa [intsD] using this
theorem minI_le {m : Int} : ∀ {x : Int} {l : List Int}, m ≤ x → (∀ y ∈ l, m ≤ y) → m ≤ minI x l
  | x, [], h, _ => h
  | x, y :: r, h, g => by
    unfold minI
    refine minI_le ?_ fun z hz => g z (List.mem_cons_of_mem _ hz)
    have := g y List.mem_cons_self
    split <;> omega
theorem maxI_ge {m : Int} : ∀ {x : Int} {l : List Int}, x ≤ m → (∀ y ∈ l, y ≤ m) → maxI x l ≤ m
  | x, [], h, _ => h
  | x, y :: r, h, g => by
    unfold maxI
    refine maxI_ge ?_ fun z hz => g z (List.mem_cons_of_mem _ hz)
    have := g y List.mem_cons_self
    split <;> omega
theorem min_ints {x : Int} {l : List Int} : biD .min [.lst (intsD (x :: l))] S = .ok (.int (minI x l)) S := by
  show minL (.lst (intsD (x :: l))) S = _
  unfold minL
  have e : intsOf (intsD (x :: l)) = some (x :: l) := by
    have := intsOf_map (f := id) (l := x :: l)
    simpa [intsD] using this
  rw [items_lst, Option.bind_some, e]
theorem max_ints {x : Int} {l : List Int} : biD .max [.lst (intsD (x :: l))] S = .ok (.int (maxI x l)) S := by
  show maxL (.lst (intsD (x :: l))) S = _
  unfold maxL
  have e : intsOf (intsD (x :: l)) = some (x :: l) := by
    have := intsOf_map (f := id) (l := x :: l)
    simpa [intsD] using this
  rw [items_lst, Option.bind_some, e]
theorem deep_ints {l : List Int} : D.deeps (intsD l) = true := by
  rw [D.deeps_iff]; intro d hd; obtain ⟨_, _, rfl⟩ := List.mem_map.mp hd; simp [D.deep]
theorem deps_ints {l : List Int} : D.deps (intsD l) ≤ 0 := by
  rw [D.deps_le]; intro d hd; obtain ⟨_, _, rfl⟩ := List.mem_map.mp hd; simp [D.dep]
theorem lens_ints {l : List Int} : D.lenss (intsD l) = true := by
  rw [D.lenss_iff]; intro d hd; obtain ⟨_, _, rfl⟩ := List.mem_map.mp hd; simp [D.lens]
theorem nobs_ints {l : List Int} : D.nobs (intsD l) = true := by
  rw [D.nobs_iff]; intro d hd; obtain ⟨_, _, rfl⟩ := List.mem_map.mp hd; simp [D.nob]
theorem trioT_fit {t : List Int × List Int × Int} (h1 : t.1.length ≤ 100) (h2 : t.2.1.length ≤ 100) : (trioT t).deep = true ∧ (trioT t).dep ≤ 2 ∧ (trioT t).lens = true ∧ (trioT t).nob = true := by
  have d1 := deps_ints (l := t.1)
  have d2 := deps_ints (l := t.2.1)
  refine ⟨?_, ?_, ?_, ?_⟩
  · simp [trioT, D.deep, D.deeps, deep_ints]
  · simp only [trioT, D.dep, D.deps]; omega
  · have e1 : (intsD t.1).length ≤ 16777216 := by simp [intsD]; omega
    have e2 : (intsD t.2.1).length ≤ 16777216 := by simp [intsD]; omega
    simp [trioT, D.lens, D.lenss, lens_ints, e1, e2]
  · simp [trioT, D.nob, D.nobs, nobs_ints]
end
end LT
set_option Elab.async false
set_option linter.all false
set_option maxRecDepth 100000
set_option maxHeartbeats 4000000
/-! Own layer, part R5: lists that are written; defs that seal. -/
namespace LT
open PySem
mutual
theorem fz_deep {n : Nat} {g : Nat → Option D} : ∀ {d : D}, d.deep = true → D.fz n g d = some d
  | .non, _ => by simp [D.fz]
  | .bl _, _ => by simp [D.fz]
  | .int _, _ => by simp [D.fz]
  | .str _, _ => by simp [D.fz]
  | .tup ds, h => by simp only [D.fz, fzs_deep (ds := ds) (by simpa [D.deep] using h), Option.map_some]
  | .lst ds, h => by simp only [D.fz, fzs_deep (ds := ds) (by simpa [D.deep] using h), Option.map_some]
  | .cell _, h => by simp [D.deep] at h
  | .scr _, h => by simp [D.deep] at h
  | .fn _, h => by simp [D.deep] at h
  | .own _ _, h => by simp [D.deep] at h
  | .clo _ _, h => by simp [D.deep] at h
theorem fzs_deep {n : Nat} {g : Nat → Option D} : ∀ {ds : List D}, D.deeps ds = true → D.fzs n g ds = some ds
  | [], _ => by simp [D.fzs]
  | d :: ds, h => by
    simp only [D.deeps, Bool.and_eq_true] at h
    simp only [D.fzs, fz_deep h.1, fzs_deep h.2]
end
/-- what is sealed: the old store stands as it was -/
theorem seal_sat {r : Res D} {S : Sto} {Q : D → Prop} (h : r.Sat fun d S' => d.deep = true ∧ Q d ∧ ∃ T, S' = S ++ T) : (sealR S.length S r).Sat fun d S' => Q d ∧ S' = S := by
  obtain ⟨d, S', rfl, hd, hq, T, rfl⟩ := h.ex
  unfold sealR
  dsimp only
  rw [fz_deep hd, List.take_left, if_pos rfl]
  exact ⟨hq, rfl⟩
theorem runFd_seaL {p : Prog} {n : Nat} {C : Xcs} {fd : Fd} {ds : List D} {S : Sto} (h : ds.length = fd.pars) (hs : fd.sea = true) (hl : fd.lm = true) : runFd (p.at n) C fd ds S = sealR S.length S (outOf true (evalB (p.atL n) C fd.body (startE fd.slots ds) S)) := by
  unfold runFd
  rw [if_pos h, hs, hl]
  rfl
theorem runFd_sea {p : Prog} {n : Nat} {C : Xcs} {fd : Fd} {ds : List D} {S : Sto} (h : ds.length = fd.pars) (hs : fd.sea = true) (hl : fd.lm = false) : runFd (p.at n) C fd ds S = sealR S.length S (outOf false (evalB (p.at n) C fd.body (startE fd.slots ds) S)) := by
  unfold runFd
  rw [if_pos h, hs, hl, at_with]
  rfl
/-- a loop over a list that stands in the store, which the turns do not write -/
theorem for_invS {it : Itr} (ds : List D) {bnd : D → Env' → Option Env'} {body : Env' → Sto → RS} (I : Nat → Env' → Sto → Prop) {N : Env' → Sto → Prop} {R : D → Sto → Prop}
    (hg : ∀ i env S, I i env S → it.get S i = some ds[i]?)
    (h : ∀ i d env S, ds[i]? = some d → I i env S → ∃ env1, bnd d env = some env1 ∧ (body env1 S).Sat (I (i + 1)) R)
    (he : ∀ env S, I ds.length env S → N env S) :
    ∀ (f i : Nat) (env : Env') (S : Sto), i ≤ ds.length → ds.length < f + i → I i env S → (forGo it bnd body f i env S).Sat N R
  | 0, i, env, S, h1, h2, _ => by omega
  | f + 1, i, env, S, h1, h2, hI => by
    unfold forGo
    rw [hg i env S hI]
    by_cases hd : i < ds.length
    · have e0 : ds[i]? = some ds[i] := List.getElem?_eq_getElem hd
      rw [e0]
      obtain ⟨env1, e1, e2⟩ := h i ds[i] env S e0 hI
      simp only [e1]
      rcases e2.ex with ⟨e, S1, q, hq⟩ | ⟨d, S1, q, hq⟩
      · rw [q]
        exact for_invS ds I hg h he f (i + 1) e S1 (by omega) (by omega) hq
      · rw [q]; exact hq
    · rw [List.getElem?_eq_none (by omega)]
      have : i = ds.length := by omega
      subst this
      exact he env S hI
section
variable {S : Sto} {k : Nat}
theorem items_cell {ds : List D} (h : S[k]? = some (.lst ds)) : S.items (.cell k) = some ds := by
  show (match S[k]? with | some (.lst ds) => some ds | _ => none) = _
  rw [h]
theorem srcD_cell {ds : List D} (h : S[k]? = some (.lst ds)) : srcD S (.cell k) = some (.cl k) := by
  show (S.items (.cell k)).map _ = _
  rw [items_cell h]; rfl
theorem get_cell {ds : List D} {i : Nat} (h : S[k]? = some (.lst ds)) : (Itr.one (.cl k)).get S i = some ds[i]? := by
  show ((S.items (.cell k)).map fun ds => ds[i]?) = _
  rw [items_cell h]; rfl
theorem count_cell {ds : List D} (h : S[k]? = some (.lst ds)) : (Itr.one (.cl k)).count S = ds.length := by
  show ((S.items (.cell k)).getD []).length = _
  rw [items_cell h]; rfl
theorem bin_addm {xs ys : List D} {a b : D} (ha : S.items a = some xs) (hb : S.items b = some ys) (h : xs.length + ys.length ≤ 16777216) (hc : D.cleans (xs ++ ys) = true) : binD .addm a b S = .ok (.cell S.length) (S ++ [.lst (xs ++ ys)]) := by
  show addmD a b S = _
  unfold addmD
  rw [ha, hb]
  dsimp only
  rw [if_pos ⟨by rw [lineN_val]; exact h, hc⟩]
theorem append_cell {ds : List D} {x : D} (h : S[k]? = some (.lst ds)) (hl : ds.length < 16777216) (hc : D.cleans (ds ++ [x]) = true) : methD .append (.cell k) [x] S = .ok .non (S.set k (.lst (ds ++ [x]))) := by
  show cellD k S (fun ds => if ds.length < lineN then some (ds ++ [x]) else none) = _
  unfold cellD
  rw [h]
  dsimp only
  rw [if_pos (by rw [lineN_val]; exact hl)]
  dsimp only
  rw [if_pos hc]
theorem recv_cell {ds : List D} (h : S[k]? = some (.lst ds)) : recvOk .append (.cell k) S = true := by
  show (S.items (.cell k)).isSome = true
  rw [items_cell h]; rfl
theorem getLast_app {T : Sto} {o : SO} : (T ++ [o])[T.length]? = some o := by simp
end
theorem sat_eq {r : Res D} {d : D} {S : Sto} (h : r.Sat fun d' S' => d' = d ∧ S' = S) : r = .ok d S := by
  obtain ⟨_, _, e, rfl, rfl⟩ := h.ex
  exact e
end LT
set_option Elab.async false
set_option linter.all false
set_option maxRecDepth 100000
set_option maxHeartbeats 4000000
/-! Own layer, part S1: stocks, leaf by leaf. -/
namespace LT
open PySem
/-- what stands where the leaf c is the first one: those of bf gone, those of af come -/
def stepL (bf af : List Int) : Int → List Int → List Int
  | _, [] => []
  | c, x :: xs => (x - (bf.count c : Nat) + (af.count c : Nat)) :: stepL bf af (c + 1) xs
/-- are those of bf there -/
def fitL (bf : List Int) : Int → List Int → Bool
  | _, [] => true
  | c, x :: xs => decide (((bf.count c : Nat) : Int) ≤ x) && fitL bf (c + 1) xs
def keysL : Int → List Int → Int
  | _, [] => 0
  | c, x :: xs => x * c + keysL (c + 1) xs
section
variable {bf af : List Int}
theorem stepL_len : ∀ {xs : List Int} {c : Int}, (stepL bf af c xs).length = xs.length
  | [], _ => rfl
  | x :: xs, c => by simp [stepL, stepL_len (xs := xs)]
theorem stepL_app : ∀ {xs ys : List Int} {c : Int}, stepL bf af c (xs ++ ys) = stepL bf af c xs ++ stepL bf af (c + xs.length) ys
  | [], ys, c => by simp [stepL]
  | x :: xs, ys, c => by
    simp only [List.cons_append, stepL, stepL_app (xs := xs), List.length_cons]
    have : c + 1 + (xs.length : Int) = c + ((xs.length + 1 : Nat) : Int) := by omega
    rw [this]
theorem fitL_app : ∀ {xs ys : List Int} {c : Int}, fitL bf c (xs ++ ys) = (fitL bf c xs && fitL bf (c + xs.length) ys)
  | [], ys, c => by simp [fitL]
  | x :: xs, ys, c => by
    simp only [List.cons_append, fitL, fitL_app (xs := xs), List.length_cons, Bool.and_assoc]
    have : c + 1 + (xs.length : Int) = c + ((xs.length + 1 : Nat) : Int) := by omega
    rw [this]
theorem keysL_app : ∀ {xs ys : List Int} {c : Int}, keysL c (xs ++ ys) = keysL c xs + keysL (c + xs.length) ys
  | [], ys, c => by simp [keysL]
  | x :: xs, ys, c => by
    simp only [List.cons_append, keysL, keysL_app (xs := xs), List.length_cons]
    have : c + 1 + (xs.length : Int) = c + ((xs.length + 1 : Nat) : Int) := by omega
    rw [this]
    omega
theorem stepL_nil : ∀ {xs : List Int} {c : Int}, stepL [] [] c xs = xs
  | [], _ => rfl
  | x :: xs, c => by simp [stepL, stepL_nil (xs := xs)]
theorem count_snoc {l c : Int} {bs : List Int} : ((bs ++ [l]).count c : Nat) = bs.count c + if l = c then 1 else 0 := by
  rw [List.count_append]
  by_cases h : l = c
  · subst h; simp
  · simp [h, List.count_cons]
theorem stepL_outB : ∀ {xs : List Int} {c l : Int}, l < c → stepL (bf ++ [l]) af c xs = stepL bf af c xs
  | [], _, _, _ => rfl
  | x :: xs, c, l, h => by
    simp only [stepL, stepL_outB (xs := xs) (show l < c + 1 by omega), count_snoc]
    rw [if_neg (show ¬ l = c by omega)]
    simp
theorem stepL_outA : ∀ {xs : List Int} {c l : Int}, l < c → stepL bf (af ++ [l]) c xs = stepL bf af c xs
  | [], _, _, _ => rfl
  | x :: xs, c, l, h => by
    simp only [stepL, stepL_outA (xs := xs) (show l < c + 1 by omega), count_snoc]
    rw [if_neg (show ¬ l = c by omega)]
    simp
theorem stepL_setB : ∀ {xs : List Int} {c l : Int}, c ≤ l → l < c + xs.length → ∃ y, (stepL bf af c xs)[(l - c).toNat]? = some y ∧ (stepL bf af c xs).set (l - c).toNat (y - 1) = stepL (bf ++ [l]) af c xs
  | [], c, l, h1, h2 => by simp at h2; omega
  | x :: xs, c, l, h1, h2 => by
    by_cases h : l = c
    · subst h
      refine ⟨x - (bf.count l : Nat) + (af.count l : Nat), by simp [stepL], ?_⟩
      simp only [stepL, Int.sub_self, Int.toNat_zero, List.set_cons_zero, stepL_outB (xs := xs) (show l < l + 1 by omega), count_snoc, if_true]
      congr 1
      omega
    · obtain ⟨y, e1, e2⟩ := stepL_setB (xs := xs) (c := c + 1) (l := l) (by omega) (by simp at h2; omega)
      have e : (l - c).toNat = (l - (c + 1)).toNat + 1 := by omega
      refine ⟨y, by rw [e]; simpa [stepL] using e1, ?_⟩
      rw [e]
      simp only [stepL, List.set_cons_succ, e2, count_snoc]
      rw [if_neg h]
      simp
theorem stepL_setA : ∀ {xs : List Int} {c l : Int}, c ≤ l → l < c + xs.length → ∃ y, (stepL bf af c xs)[(l - c).toNat]? = some y ∧ (stepL bf af c xs).set (l - c).toNat (y + 1) = stepL bf (af ++ [l]) c xs
  | [], c, l, h1, h2 => by simp at h2; omega
  | x :: xs, c, l, h1, h2 => by
    by_cases h : l = c
    · subst h
      refine ⟨x - (bf.count l : Nat) + (af.count l : Nat), by simp [stepL], ?_⟩
      simp only [stepL, Int.sub_self, Int.toNat_zero, List.set_cons_zero, stepL_outA (xs := xs) (show l < l + 1 by omega), count_snoc, if_true]
      congr 1
      omega
    · obtain ⟨y, e1, e2⟩ := stepL_setA (xs := xs) (c := c + 1) (l := l) (by omega) (by simp at h2; omega)
      have e : (l - c).toNat = (l - (c + 1)).toNat + 1 := by omega
      refine ⟨y, by rw [e]; simpa [stepL] using e1, ?_⟩
      rw [e]
      simp only [stepL, List.set_cons_succ, e2, count_snoc]
      rw [if_neg h]
      simp
theorem fitL_iff : ∀ {xs : List Int} {c : Int}, fitL bf c xs = true ↔ ∀ y ∈ stepL bf [] c xs, 0 ≤ y
  | [], c => by simp [fitL, stepL]
  | x :: xs, c => by
    simp only [fitL, stepL, Bool.and_eq_true, decide_eq_true_eq, fitL_iff (xs := xs), List.mem_cons, forall_eq_or_imp, List.count_nil]
    constructor
    · rintro ⟨a, b⟩; exact ⟨by simp; omega, b⟩
    · rintro ⟨a, b⟩; exact ⟨by simp at a; omega, b⟩
theorem stepL_pos : ∀ {xs : List Int} {c : Int}, fitL bf c xs = true → ∀ y ∈ stepL bf af c xs, 0 ≤ y
  | [], c, _, y, h => by simp [stepL] at h
  | x :: xs, c, hf, y, h => by
    simp only [fitL, Bool.and_eq_true, decide_eq_true_eq] at hf
    simp only [stepL, List.mem_cons] at h
    rcases h with rfl | h
    · omega
    · exact stepL_pos hf.2 y h
theorem minI_mem : ∀ {x : Int} {l : List Int}, minI x l ≤ x ∧ ∀ y ∈ l, minI x l ≤ y
  | x, [] => by simp [minI]
  | x, y :: r => by
    unfold minI
    obtain ⟨a, b⟩ := minI_mem (x := if y < x then y else x) (l := r)
    refine ⟨by split at a <;> split <;> omega, fun z hz => ?_⟩
    rcases List.mem_cons.mp hz with rfl | hz
    · split at a <;> split <;> omega
    · exact b z hz
theorem minI_neg {x : Int} {l : List Int} : minI x l < 0 ↔ ¬ ∀ y ∈ x :: l, 0 ≤ y := by
  constructor
  · intro h g
    have := minI_le (m := 0) (g x List.mem_cons_self) fun y hy => g y (List.mem_cons_of_mem _ hy)
    omega
  · intro h
    by_cases c : minI x l < 0
    · exact c
    · refine absurd (fun y hy => ?_) h
      obtain ⟨a, b⟩ := minI_mem (x := x) (l := l)
      rcases List.mem_cons.mp hy with rfl | hy
      · omega
      · have := b y hy; omega
end
/-- what is left of a stock behind a deed -/
def Rl.beh (R : Rl) (xs : List Int) (d : D) : Option (List Int) := if fitL (R.turn d).1 R.low xs then some (stepL (R.turn d).1 (R.turn d).2.1 R.low xs) else none
def behD : Option (List Int) → D
  | some ys => .tup (intsD ys)
  | none => .non
theorem beh_pos {R : Rl} {xs ys : List Int} {d : D} (h : R.beh xs d = some ys) : ys.length = xs.length ∧ ∀ y ∈ ys, 0 ≤ y := by
  unfold Rl.beh at h
  split at h
  · rename_i hf
    cases h
    exact ⟨stepL_len, stepL_pos hf⟩
  · cases h
/-- a stock of the rule -/
def stockB (R : Rl) : D → Bool
  | .tup ds => decide ((ds.length : Int) = R.room - R.low + 1) && ds.all fun d => isW d 0 1000000000000
  | _ => false
structure Stk (R : Rl) (xs : List Int) : Prop where
  len : (xs.length : Int) = R.room - R.low + 1
  pos : ∀ x ∈ xs, 0 ≤ x
theorem stockB_ints {R : Rl} {xs : List Int} (h : Stk R xs) (hb : ∀ x ∈ xs, x ≤ 1000000000000) : stockB R (.tup (intsD xs)) = true := by
  simp only [stockB, intsD, List.length_map, Bool.and_eq_true, decide_eq_true_eq, List.all_map, List.all_eq_true]
  exact ⟨h.len, fun x hx => by simp [isW, h.pos x hx, hb x hx]⟩
/-! ### count -/
section
variable {S : Sto}
theorem countP_ints {c : Int} : ∀ {l : List Int}, (l.map PyData.int).countP (fun y => PyData.eqv y (.int c)) = l.count c
  | [] => rfl
  | x :: l => by
    rw [List.map_cons, List.countP_cons, countP_ints (l := l), List.count_cons]
    simp [PyData.eqv]
theorem plain_ints : ∀ {l : List Int}, PyData.plainAll (l.map PyData.int) = true
  | [] => by simp [PyData.plainAll]
  | x :: l => by simp [PyData.plainAll, PyData.plain, plain_ints (l := l)]
theorem can_ints : ∀ {l : List Int}, PyData.canLayAll0 (l.map PyData.int) = true
  | [] => by simp [PyData.canLayAll0]
  | x :: l => by simp [PyData.canLayAll0, PyData.canLay0, can_ints (l := l)]
theorem depth_ints : ∀ {l : List Int}, PyData.depthAll (l.map PyData.int) = 0
  | [] => by simp [PyData.depthAll]
  | x :: l => by simp [PyData.depthAll, PyData.depth, depth_ints (l := l)]
theorem countT_ints {l : List Int} {c : Int} : methD .countT (.tup (intsD l)) [.int c] S = .ok (.int (l.count c : Nat)) S := by
  show countD (.lst (intsD l)) [.int c] S = _
  unfold countD
  dsimp only
  rw [items_lst, Option.bind_some, toPs_ints]
  simp only [D.toP, countP_ints]
  simp [pdOk, PyData.canLay0, PyData.depth, PyData.plain, plain_ints, can_ints, depth_ints]
@[simp] theorem recv_tup {ds : List D} : recvOk .countT (.tup ds) S = true := rfl
end
end LT
set_option Elab.async false
set_option linter.all false
set_option maxRecDepth 100000
set_option maxHeartbeats 4000000
/-! Own layer, part S2: stocks: what the program does. -/
namespace LT
open PySem
local macro_rules | `(tactic| walk_at "ev") => `(tactic| try simp only [at_with, runFd, List.length_cons, List.length_nil, if_true, if_false, Bool.false_eq_true, startE, List.map_cons, List.map_nil, List.cons_append, List.nil_append, Nat.add_one_sub_one, Nat.sub_self, Nat.reduceAdd, Nat.reduceSub, List.replicate_zero, List.replicate_succ, evalB, evalS, evalE, evalT, evalI, evP, evPs, evPO, evPI, Ev.mk', evEs, evAnd, evOr, evTAnd, evTOr, evO, evC, Res.b_ok, Res.b_exc, Res.b_bad, Res.toS_ok, Res.toS_exc, RS.next_nx, RS.next_rt, RS.next_exc, List.getElem?_cons_zero, List.getElem?_cons_succ, Option.join_some, at_callE, at_inC, at_bndC', List.set_cons_zero, List.set_cons_succ, bindT_name, bindT_tup, setAll_cons, setAll_nil, at_gcon])
local macro_rules | `(tactic| walk_at "st") => `(tactic| try simp only [Res.toS_sat, RS.next_sat, Res.sat_bind, outOf_satE, Res.sat_ok, RS.sat_nx, RS.sat_rt, List.getElem?_cons_zero, List.getElem?_cons_succ, Option.join_some, List.set_cons_zero, List.set_cons_succ, truthD_bl, truthD_int, truthD_non, truthD_tup, truthD_lst])
local macro_rules | `(tactic| walk_at "evL") => `(tactic| try simp only [atL_eq, runFd, List.length_cons, List.length_nil, if_true, if_false, Bool.false_eq_true, startE, List.map_cons, List.map_nil, List.cons_append, List.nil_append, Nat.add_one_sub_one, Nat.sub_self, Nat.reduceAdd, Nat.reduceSub, List.replicate_zero, List.replicate_succ, evalB, evalS, evalE, evalT, evalI, evP, evPs, evPO, evPI, Ev.mk', evEs, evAnd, evOr, evTAnd, evTOr, evO, evC, Res.b_ok, Res.b_exc, Res.b_bad, Res.toS_ok, Res.toS_exc, RS.next_nx, RS.next_rt, RS.next_exc, List.getElem?_cons_zero, List.getElem?_cons_succ, Option.join_some, atL_callE, atL_inC, atL_bndC, atL_lm, at_callE, at_inC, at_bndC', List.set_cons_zero, List.set_cons_succ, bindT_name, bindT_tup, setAll_cons, setAll_nil, atL_con, at_gcon])
variable {p : Prog} {n : Nat} {S : Sto}
theorem isW_all {ds : List D} {lo hi : Int} : (ds.map fun d => isW d lo hi).all id = ds.all fun d => isW d lo hi := by
  rw [List.all_map]; rfl
theorem c_need_stock [HasF p "is_whole" fd_is_whole] [HasF p "need_stock" fd_need_stock] [HasC p "MOST_LEAVES" (.int 1000000000000)] [HasX p "InvalidStock" none] {R : Rl} (h : R.Ok) {v : D} (hv : v.deep = true) :
    (p.at (n + 2)).call "need_stock" [R.d, v] S = if stockB R v then .ok .non S else exc0 "InvalidStock" S := by
  rw [at_call]
  simp only [fd_need_stock, ir_need_stock]
  walk_at "ev"
  simp only [Rl.d, idx_tup0, idx_tup1]
  walk_at "ev"
  cases v <;> simp only [D.deep, Bool.false_eq_true] at hv <;> try (simp [stockB, fieldX (p := p) (x := "InvalidStock")]; done)
  rename_i ds
  by_cases hl : (ds.length : Int) = R.room - R.low + 1
  · have r2 := h.r2
    have l1 := h.l1
    have hz : ds.length ≤ 16777216 := by omega
    simp [hl]
    rw [comp_map (ds := ds) rfl (fun d => .bl (isW d 0 1000000000000)) (fun d hd => ?_)]
    · have e := blsOf_map (f := fun d => isW d 0 1000000000000) (l := ds)
      simp only [List.length_map, hz, if_true, Res.b_ok, bi_all e, isW_all, truthD_bl, stockB, hl, decide_true, Bool.true_and]
      cases hh : ds.all fun d => isW d 0 1000000000000 <;> simp [fieldX (p := p) (x := "InvalidStock")]
    · exact ⟨_, rfl, rfl, by simp [c_is_whole (D.deep_dat (D.deeps_iff.mp hv d hd))]⟩
  · simp [hl, stockB, fieldX (p := p) (x := "InvalidStock")]
def rowDB (R : Rl) : D → Bool
  | .tup ds => decide (ds.length ≤ 90) && ds.all fun d => decide (d ∈ R.moves true)
  | _ => false
theorem c_need_row [HasF p "is_whole" fd_is_whole] [HasF p "deeds_of" fd_deeds_of] [HasF p "is_right_deed" fd_is_right_deed] [HasF p "need_row" fd_need_row] [HasC p "MOST_DEEDS" (.int 90)] [HasX p "InvalidDeed" none] {R : Rl} (h : R.Ok) {v : D} (hv : v.deep = true) :
    (p.at (n + 3)).call "need_row" [R.d, v] S = if rowDB R v then .ok .non S else exc0 "InvalidDeed" S := by
  rw [at_call]
  simp only [fd_need_row, ir_need_row]
  walk_at "ev"
  cases v <;> simp only [D.deep, Bool.false_eq_true] at hv <;> try (simp [rowDB, fieldX (p := p) (x := "InvalidDeed")]; done)
  rename_i ds
  by_cases hl : (90 : Int) < ds.length
  · have h2 : ¬ ds.length ≤ 90 := by omega
    simp [hl, h2, rowDB, fieldX (p := p) (x := "InvalidDeed")]
  · have h2 : ds.length ≤ 90 := by omega
    simp [hl]
    rw [comp_map (ds := ds) rfl (fun d => .bl (decide (d ∈ R.moves true))) (fun d hd => ?_)]
    · have e := blsOf_map (f := fun d => decide (d ∈ R.moves true)) (l := ds)
      have e2 : (ds.map fun d => decide (d ∈ R.moves true)).all id = ds.all fun d => decide (d ∈ R.moves true) := by rw [List.all_map]; rfl
      have hz : ds.length ≤ 16777216 := by omega
      simp only [List.length_map, hz, if_true, bi_all e, e2, Res.b_ok, truthD_bl, rowDB, h2, decide_true, Bool.true_and]
      cases hh : ds.all fun d => decide (d ∈ R.moves true) <;> simp [fieldX (p := p) (x := "InvalidDeed")]
    · exact ⟨_, rfl, rfl, by simp [c_is_right_deed (p := p) (n := n) h (D.deeps_iff.mp hv d hd)]⟩
theorem zipIdx_get {ds : List D} {i : Nat} {d : D} (h : ((ds.zipIdx).map fun x => (D.tup [.int (x.2 : Int), x.1]))[i]? = some d) : ∃ e, ds[i]? = some e ∧ d = .tup [.int (i : Int), e] := by
  rw [List.getElem?_map, List.getElem?_zipIdx] at h
  cases q : ds[i]? with
  | none => rw [q] at h; simp at h
  | some e => rw [q] at h; simp at h; exact ⟨e, rfl, h.symm⟩
theorem ints_get {xs : List Int} {i : Nat} {d : D} (h : (intsD xs)[i]? = some d) : ∃ x, xs[i]? = some x ∧ d = .int x := by
  unfold intsD at h
  rw [List.getElem?_map] at h
  cases q : xs[i]? with
  | none => rw [q] at h; simp at h
  | some e => rw [q] at h; simp at h; exact ⟨e, rfl, h.symm⟩
theorem take_snoc {xs : List Int} {i : Nat} {x : Int} (h : xs[i]? = some x) : xs.take (i + 1) = xs.take i ++ [x] := by
  rw [List.take_add_one, h]; rfl
section
variable [HasF p "put_change" fd_put_change] [HasF p "take_change" fd_take_change] [HasF p "thirds" fd_thirds] [HasF p "change_of" fd_change_of] [HasF p "behind" fd_behind]
theorem c_behind {R : Rl} (h : R.Ok) {xs : List Int} {d : D} (hd : d ∈ R.moves true) (hx : xs.length ≤ 1000) : (p.at (n + 4)).call "behind" [R.d, .tup (intsD xs), d] S = .ok (behD (R.beh xs d)) S := by
  refine sat_eq ?_
  rw [at_call, runFd_sea rfl rfl rfl]
  refine seal_sat ?_
  rw [outOf_satE]
  simp only [fd_behind, ir_behind]
  have t := turn_ok h hd
  refine seq_sat (fun env S' => env = [some R.d, some (.tup (intsD xs)), some d, some (.tup (intsD (R.turn d).1)), some (.tup (intsD (R.turn d).2.1)), some (.int (R.turn d).2.2), none, none, none, none] ∧ S = S') ?_ ?_
  · walk_at "ev"
    simp [c_change_of h hd, trioT]
  rintro _ _ ⟨rfl, rfl⟩
  refine seq_sat (fun env S' => env = [some R.d, some (.tup (intsD xs)), some d, some (.tup (intsD (R.turn d).1)), some (.tup (intsD (R.turn d).2.1)), some (.int (R.turn d).2.2), some (.cell S.length), none, none, none] ∧ S' = S ++ [.lst []]) ?_ ?_
  · walk_at "ev"
    simp [D.cleans]
  rintro _ _ ⟨rfl, rfl⟩
  refine seq_sat (fun env S' => (∃ e7 e8 e9, env = [some R.d, some (.tup (intsD xs)), some d, some (.tup (intsD (R.turn d).1)), some (.tup (intsD (R.turn d).2.1)), some (.int (R.turn d).2.2), some (.cell S.length), e7, e8, e9]) ∧ fitL (R.turn d).1 R.low xs = true ∧ S' = S ++ [.lst (intsD (stepL (R.turn d).1 (R.turn d).2.1 R.low xs))]) ?_ ?_
  · rw [evalS]
    have ei : ∀ S', evalI (p.at (n + 3)) (.enum (.var 1)) [some R.d, some (.tup (intsD xs)), some d, some (.tup (intsD (R.turn d).1)), some (.tup (intsD (R.turn d).2.1)), some (.int (R.turn d).2.2), some (.cell S.length), none, none, none] S' = .ok (.enum (.fix (intsD xs))) S' := by
      intro S'
      walk_at "ev"
      simp
    rw [ei, Res.toS_ok]
    refine for_inv0 (ds := ((intsD xs).zipIdx).map fun x => .tup [.int (x.2 : Int), x.1]) rfl (fun i env S' => (∃ e7 e8 e9, env = [some R.d, some (.tup (intsD xs)), some d, some (.tup (intsD (R.turn d).1)), some (.tup (intsD (R.turn d).2.1)), some (.int (R.turn d).2.2), some (.cell S.length), e7, e8, e9]) ∧ fitL (R.turn d).1 R.low (xs.take i) = true ∧ S' = S ++ [.lst (intsD (stepL (R.turn d).1 (R.turn d).2.1 R.low (xs.take i)))]) ⟨⟨_, _, _, rfl⟩, by simp [fitL], by simp [stepL, intsD]⟩ ?_ ?_
    · rintro i q env S' hq ⟨⟨e7, e8, e9, rfl⟩, hf, rfl⟩
      obtain ⟨q', hq', rfl⟩ := zipIdx_get hq
      obtain ⟨x, hx', rfl⟩ := ints_get hq'
      have il : i < xs.length := (List.getElem?_eq_some_iff.mp hx').1
      refine ⟨_, by simp only [bindT_tup, List.length_cons, List.length_nil, if_true, setAll_cons, setAll_nil]; rfl, ?_⟩
      simp only [List.set_cons_zero, List.set_cons_succ]
      have tl : ((xs.take i).length : Int) = (i : Int) := by rw [List.length_take]; omega
      have sl : (stepL (R.turn d).1 (R.turn d).2.1 R.low (xs.take i)).length = i := by rw [stepL_len, List.length_take]; omega
      have st : stepL (R.turn d).1 (R.turn d).2.1 R.low (xs.take (i + 1)) = stepL (R.turn d).1 (R.turn d).2.1 R.low (xs.take i) ++ [x - ((R.turn d).1.count (R.low + i) : Nat) + ((R.turn d).2.1.count (R.low + i) : Nat)] := by
        rw [take_snoc hx', stepL_app, tl]; rfl
      have ft : fitL (R.turn d).1 R.low (xs.take (i + 1)) = decide ((((R.turn d).1.count (R.low + i) : Nat) : Int) ≤ x) := by
        rw [take_snoc hx', fitL_app, tl, hf]; simp [fitL]
      refine seq_sat (fun env S' => env = [some R.d, some (.tup (intsD xs)), some d, some (.tup (intsD (R.turn d).1)), some (.tup (intsD (R.turn d).2.1)), some (.int (R.turn d).2.2), some (.cell S.length), some (.int i), some (.int x), some (.int (R.low + i))] ∧ S' = S ++ [.lst (intsD (stepL (R.turn d).1 (R.turn d).2.1 R.low (xs.take i)))]) ?_ ?_
      · walk_at "ev"
        simp [Rl.d]
      rintro _ _ ⟨rfl, rfl⟩
      by_cases hb : (((R.turn d).1.count (R.low + i) : Nat) : Int) ≤ x
      · refine seq_sat (fun env S' => env = [some R.d, some (.tup (intsD xs)), some d, some (.tup (intsD (R.turn d).1)), some (.tup (intsD (R.turn d).2.1)), some (.int (R.turn d).2.2), some (.cell S.length), some (.int i), some (.int x), some (.int (R.low + i))] ∧ S' = S ++ [.lst (intsD (stepL (R.turn d).1 (R.turn d).2.1 R.low (xs.take i)))]) ?_ ?_
        · walk_at "ev"
          simp only [recv_tup, if_true, countT_ints, Res.b_ok, cmp_gt_int]
          have : ¬ x < (((R.turn d).1.count (R.low + i) : Nat) : Int) := by omega
          simp [this]
        rintro _ _ ⟨rfl, rfl⟩
        have g : (S ++ [SO.lst (intsD (stepL (R.turn d).1 (R.turn d).2.1 R.low (xs.take i)))])[S.length]? = some (.lst (intsD (stepL (R.turn d).1 (R.turn d).2.1 R.low (xs.take i)))) := getLast_app
        have ap := append_cell (x := .int (x - ((R.turn d).1.count (R.low + i) : Nat) + ((R.turn d).2.1.count (R.low + i) : Nat))) g (by simp [intsD, sl]; omega) (cleans_deep (by rw [D.deeps_iff]; intro z hz; simp [intsD] at hz; rcases hz with ⟨a, _, rfl⟩ | rfl <;> simp [D.deep]))
        walk_at "ev"
        simp only [recv_cell g, recv_tup, if_true, countT_ints, Res.b_ok, bin_sub_int, bin_add_int, ap]
        walk_at "ev"
        refine ⟨⟨_, _, _, rfl⟩, by rw [ft]; simpa using hb, ?_⟩
        rw [st]
        simp [intsD]
      · refine seq_sat (fun env S' => False) ?_ fun _ _ z => z.elim
        walk_at "ev"
        simp only [recv_tup, if_true, countT_ints, Res.b_ok, cmp_gt_int]
        have hb2 : x < (((R.turn d).1.count (R.low + i) : Nat) : Int) := by omega
        have nf : fitL (R.turn d).1 R.low xs = false := by
          have e : xs = xs.take (i + 1) ++ xs.drop (i + 1) := (List.take_append_drop _ _).symm
          rw [e, fitL_app, ft]
          simp [hb]
        simp [hb2, D.deep, Rl.beh, nf, behD]
    · rintro env S' ⟨e, hf, rfl⟩
      have el : (((intsD xs).zipIdx).map fun x => (D.tup [.int (x.2 : Int), x.1])).length = xs.length := by simp [intsD]
      rw [el, List.take_length] at hf
      rw [el, List.take_length]
      exact ⟨e, hf, rfl⟩
  rintro _ _ ⟨⟨e7, e8, e9, rfl⟩, hf, rfl⟩
  walk_at "ev"
  have g : (S ++ [SO.lst (intsD (stepL (R.turn d).1 (R.turn d).2.1 R.low xs))])[S.length]? = some (.lst (intsD (stepL (R.turn d).1 (R.turn d).2.1 R.low xs))) := getLast_app
  have tu : ∀ {a : D} {ds : List D} {S : Sto}, S.seq a = some ds → biD .tuple [a] S = .ok (.tup ds) S := fun {a ds S} q => by
    show (match S.seq a with | some es => Res.ok (D.tup es) S | none => Res.bad) = _
    rw [q]
  rw [tu (seq_cell g)]
  simp only [Res.b_ok, Res.toS_ok, RS.sat_rt, RS.next_rt]
  refine ⟨by simp only [D.deep, deep_ints], by simp [Rl.beh, hf, behD], _, rfl⟩
end
end LT
set_option Elab.async false
set_option linter.all false
set_option maxRecDepth 100000
set_option maxHeartbeats 4000000
/-! Own layer, part S3: keys, can, done, played. -/
namespace LT
open PySem
local macro_rules | `(tactic| walk_at "ev") => `(tactic| try simp only [at_with, runFd, List.length_cons, List.length_nil, if_true, if_false, Bool.false_eq_true, startE, List.map_cons, List.map_nil, List.cons_append, List.nil_append, Nat.add_one_sub_one, Nat.sub_self, Nat.reduceAdd, Nat.reduceSub, List.replicate_zero, List.replicate_succ, evalB, evalS, evalE, evalT, evalI, evP, evPs, evPO, evPI, Ev.mk', evEs, evAnd, evOr, evTAnd, evTOr, evO, evC, Res.b_ok, Res.b_exc, Res.b_bad, Res.toS_ok, Res.toS_exc, RS.next_nx, RS.next_rt, RS.next_exc, List.getElem?_cons_zero, List.getElem?_cons_succ, Option.join_some, at_callE, at_inC, at_bndC', List.set_cons_zero, List.set_cons_succ, bindT_name, bindT_tup, setAll_cons, setAll_nil, at_gcon])
local macro_rules | `(tactic| walk_at "st") => `(tactic| try simp only [Res.toS_sat, RS.next_sat, Res.sat_bind, outOf_satE, Res.sat_ok, RS.sat_nx, RS.sat_rt, List.getElem?_cons_zero, List.getElem?_cons_succ, Option.join_some, List.set_cons_zero, List.set_cons_succ, truthD_bl, truthD_int, truthD_non, truthD_tup, truthD_lst])
local macro_rules | `(tactic| walk_at "evL") => `(tactic| try simp only [atL_eq, runFd, List.length_cons, List.length_nil, if_true, if_false, Bool.false_eq_true, startE, List.map_cons, List.map_nil, List.cons_append, List.nil_append, Nat.add_one_sub_one, Nat.sub_self, Nat.reduceAdd, Nat.reduceSub, List.replicate_zero, List.replicate_succ, evalB, evalS, evalE, evalT, evalI, evP, evPs, evPO, evPI, Ev.mk', evEs, evAnd, evOr, evTAnd, evTOr, evO, evC, Res.b_ok, Res.b_exc, Res.b_bad, Res.toS_ok, Res.toS_exc, RS.next_nx, RS.next_rt, RS.next_exc, List.getElem?_cons_zero, List.getElem?_cons_succ, Option.join_some, atL_callE, atL_inC, atL_bndC, atL_lm, at_callE, at_inC, at_bndC', List.set_cons_zero, List.set_cons_succ, bindT_name, bindT_tup, setAll_cons, setAll_nil, atL_con, at_gcon])
/-! ### ends that may be errors -/
def RS.SatX (r : RS) (N : Env' → Sto → Prop) (R : D → Sto → Prop) (X : Exc → Sto → Prop) : Prop := match r with
  | .nx e S => N e S
  | .rt d S => R d S
  | .exc x _ S => X x S
  | _ => False
def Res.SatX {α : Type} (r : Res α) (Q : α → Sto → Prop) (X : Exc → Sto → Prop) : Prop := match r with
  | .ok a S => Q a S
  | .exc x S => X x S
  | .bad => False
section
variable {q : RS} {N N' : Env' → Sto → Prop} {R : D → Sto → Prop} {X : Exc → Sto → Prop}
theorem RS.Sat.satX (h : q.Sat N R) : q.SatX N R X := by cases q <;> first | exact h | exact h.elim
theorem RS.next_satX {k2 : Env' → Sto → RS} : (q.next k2).SatX N R X = q.SatX (fun e S => (k2 e S).SatX N R X) R X := by cases q <;> rfl
theorem seq_satX {F : Fns} {C : Xcs} {s : IS} {ss : List IS} {env : Env'} {S : Sto} (M : Env' → Sto → Prop) (h1 : (evalS F C s env S).SatX M R X) (h2 : ∀ e S', M e S' → (evalB F C ss e S').SatX N R X) : (evalB F C (s :: ss) env S).SatX N R X := by
  rw [evalB_cons, RS.next_satX]
  generalize evalS F C s env S = r at h1
  cases r <;> first | exact h2 _ _ h1 | exact h1
theorem outOf_satX {Q : D → Sto → Prop} (h : q.SatX (fun _ S => Q .non S) Q X) : (outOf false q).SatX Q X := by cases q <;> first | exact h | exact h.elim
theorem for_invX {it : Itr} {ds : List D} (hf : it.fix? = some ds) {bnd : D → Env' → Option Env'} {body : Env' → Sto → RS} (I : Nat → Env' → Sto → Prop)
    (h : ∀ i d env S, ds[i]? = some d → I i env S → ∃ env1, bnd d env = some env1 ∧ (body env1 S).SatX (I (i + 1)) R X)
    (he : ∀ env S, I ds.length env S → N env S) : ∀ (f i : Nat) (env : Env') (S : Sto), i ≤ ds.length → ds.length < f + i → I i env S → (forGo it bnd body f i env S).SatX N R X
  | 0, i, env, S, h1, h2, _ => by omega
  | f + 1, i, env, S, h1, h2, hI => by
    unfold forGo
    rw [(Itr.fix_get hf S i).1]
    by_cases hd : i < ds.length
    · have e0 : ds[i]? = some ds[i] := List.getElem?_eq_getElem hd
      rw [e0]
      obtain ⟨env1, e1, e2⟩ := h i ds[i] env S e0 hI
      simp only [e1]
      generalize body env1 S = r at e2
      cases r with
      | nx e S1 => exact for_invX hf I h he f (i + 1) e S1 (by omega) (by omega) e2
      | rt d S1 => exact e2
      | exc x e S1 => exact e2
      | bk e S1 => exact e2.elim
      | ct e S1 => exact e2.elim
      | bad => exact e2.elim
    · rw [List.getElem?_eq_none (by omega)]
      have : i = ds.length := by omega
      subst this
      exact he env S hI
end
/-! ### keys -/
def prods : Int → List Int → List Int
  | _, [] => []
  | c, x :: xs => x * c :: prods (c + 1) xs
theorem prods_sum : ∀ {xs : List Int} {c : Int}, (prods c xs).sum = keysL c xs
  | [], _ => rfl
  | x :: xs, c => by simp [prods, keysL, prods_sum (xs := xs)]
def prodD (low : Int) : D → D
  | .tup [.int i, .int x] => .int (x * (low + i))
  | _ => .non
theorem prods_map {low : Int} : ∀ {xs : List Int} {k : Nat}, (((intsD xs).zipIdx k).map fun x => D.tup [.int (x.2 : Int), x.1]).map (prodD low) = intsD (prods (low + (k : Int)) xs)
  | [], _ => rfl
  | x :: xs, k => by
    have := prods_map (low := low) (xs := xs) (k := k + 1)
    simp only [intsD, List.map_cons, List.zipIdx_cons, prodD, prods] at this ⊢
    rw [this]
    congr 3
    omega
variable {p : Prog} {n : Nat} {S : Sto}
theorem prods_len : ∀ {xs : List Int} {c : Int}, (prods c xs).length = xs.length
  | [], _ => rfl
  | x :: xs, c => by simp [prods, prods_len (xs := xs)]
theorem c_keys_in [HasF p "keys_in" fd_keys_in] {R : Rl} (h : R.Ok) {xs : List Int} (hx : xs.length ≤ 1000) : (p.at (n + 1)).call "keys_in" [R.d, .tup (intsD xs)] S = .ok (.int (keysL R.low xs)) S := by
  rw [at_call]
  simp only [fd_keys_in, ir_keys_in]
  walk_at "ev"
  simp only [srcD_tup, Res.b_ok]
  rw [comp_map (ds := ((intsD xs).zipIdx).map fun x => .tup [.int (x.2 : Int), x.1]) rfl (prodD R.low) (fun d hd => ?_)]
  · have e : (((intsD xs).zipIdx).map fun x => D.tup [.int (x.2 : Int), x.1]).map (prodD R.low) = intsD (prods R.low xs) := by
      have := prods_map (low := R.low) (xs := xs) (k := 0)
      simpa using this
    have hz : (intsD (prods R.low xs)).length ≤ 16777216 := by simp [intsD, prods_len]; omega
    rw [e]
    simp only [Res.b_ok, lineN_val, hz, if_true, sum_ints, prods_sum, Res.toS_ok, RS.next_rt, outOf_rt]
  · obtain ⟨i, hi⟩ := List.mem_iff_getElem?.mp hd
    obtain ⟨q', hq', rfl⟩ := zipIdx_get hi
    obtain ⟨x, hx', rfl⟩ := ints_get hq'
    have il : i < xs.length := (List.getElem?_eq_some_iff.mp hx').1
    have l1 := h.l1
    have l2 := h.l2
    have r2 := h.r2
    refine ⟨_, rfl, rfl, ?_⟩
    simp only [Rl.d, prodD]
    walk_at "ev"
    simp
    rw [bin_mul_int (mulOk_right (by omega))]
    rfl
section
variable [HasF p "is_whole" fd_is_whole] [HasF p "is_split" fd_is_split] [HasC p "SPLITS" splitsD] [HasF p "are_tolls" fd_are_tolls] [HasF p "is_right_rule" fd_is_right_rule] [HasF p "need_rule" fd_need_rule] [HasX p "InvalidRule" none]
variable [HasF p "need_stock" fd_need_stock] [HasC p "MOST_LEAVES" (.int 1000000000000)] [HasX p "InvalidStock" none]
theorem c_keys [HasF p "keys_in" fd_keys_in] [HasF p "keys" fd_keys] {R : Rl} (h : R.Ok) {xs : List Int} (hx : stockB R (.tup (intsD xs)) = true) (hl : xs.length ≤ 1000) : (p.at (n + 5)).call "keys" [R.d, .tup (intsD xs)] S = .ok (.int (keysL R.low xs)) S := by
  rw [at_call]
  simp only [fd_keys, ir_keys]
  walk_at "ev"
  have hv : (D.tup (intsD xs)).deep = true := by simp only [D.deep, deep_ints]
  simp [c_need_rule (rl_gd h).deep, h.b, c_need_stock h hv, hx, c_keys_in h hl]
theorem c_keys_stock [HasF p "keys" fd_keys] {R : Rl} (h : R.Ok) {v : D} (hv : v.deep = true) (hx : stockB R v = false) : (p.at (n + 5)).call "keys" [R.d, v] S = exc0 "InvalidStock" S := by
  rw [at_call]
  simp only [fd_keys, ir_keys]
  walk_at "ev"
  simp [c_need_rule (rl_gd h).deep, h.b, c_need_stock h hv, hx]
theorem c_keys_rule [HasF p "keys" fd_keys] {d e : D} (hd : d.deep = true) (h : ruleB d = false) : (p.at (n + 5)).call "keys" [d, e] S = exc0 "InvalidRule" S := by
  rw [at_call]
  simp only [fd_keys, ir_keys]
  walk_at "ev"
  simp [c_need_rule hd, h]
variable [HasF p "put_change" fd_put_change] [HasF p "take_change" fd_take_change] [HasF p "thirds" fd_thirds] [HasF p "change_of" fd_change_of] [HasF p "behind" fd_behind]
variable [HasF p "deeds_of" fd_deeds_of]
theorem isNon_beh {o : Option (List Int)} : isNonD (behD o) = o.isNone := by cases o <;> rfl
theorem moves_len {R : Rl} (h : R.Ok) : (R.moves true).length ≤ 1000 := by
  have r2 := h.r2; have l1 := h.l1; have l2 := h.l2; have r1 := h.r1
  unfold Rl.moves movesD
  have a1 : (R.room - R.low).toNat ≤ 10 := by omega
  have a2 : (R.room + 1 - R.low).toNat ≤ 10 := by omega
  have a3 : (R.room + 1 - (R.low + 1)).toNat ≤ 10 := by omega
  split <;> simp <;> omega
theorem c_can [HasF p "can" fd_can] {R : Rl} (h : R.Ok) {xs : List Int} (hx : stockB R (.tup (intsD xs)) = true) (hl : xs.length ≤ 1000) : (p.at (n + 6)).call "can" [R.d, .tup (intsD xs)] S = .ok (.lst ((R.moves true).filter fun d => (R.beh xs d).isSome)) S := by
  rw [at_call]
  simp only [fd_can, ir_can]
  walk_at "ev"
  have hv : (D.tup (intsD xs)).deep = true := by simp only [D.deep, deep_ints]
  have dof : ∀ S, (p.at (n + 5)).call "deeds_of" [R.d, .str "all"] S = .ok (.lst (R.moves true)) S := fun S => c_deeds_of (n := n + 4) h true
  simp only [c_need_rule (n := n + 1) (rl_gd h).deep, h.b, if_true]
  walk_at "ev"
  simp only [c_need_stock (n := n + 3) h hv, hx, if_true]
  walk_at "ev"
  simp only [dof]
  walk_at "ev"
  simp only [srcD_lst, Res.b_ok]
  rw [comp_eq (ds := R.moves true) rfl (fun d => (R.beh xs d).isSome) id (fun d hd => ?_)]
  · have hz : ((R.moves true).filter fun d => (R.beh xs d).isSome).length ≤ 16777216 := Nat.le_trans (List.length_filter_le _ _) (Nat.le_trans (moves_len h) (by decide))
    simp [hz]
  · refine ⟨_, rfl, ?_, fun _ => rfl⟩
    have e := c_behind (p := p) (n := n + 1) (S := S) h hd hl
    simp [e, isNon_beh, Option.not_isNone]
theorem c_can_stock [HasF p "can" fd_can] {R : Rl} (h : R.Ok) {v : D} (hv : v.deep = true) (hx : stockB R v = false) : (p.at (n + 5)).call "can" [R.d, v] S = exc0 "InvalidStock" S := by
  rw [at_call]
  simp only [fd_can, ir_can]
  walk_at "ev"
  simp [c_need_rule (rl_gd h).deep, h.b, c_need_stock h hv, hx]
theorem c_can_rule [HasF p "can" fd_can] {d e : D} (hd : d.deep = true) (h : ruleB d = false) : (p.at (n + 5)).call "can" [d, e] S = exc0 "InvalidRule" S := by
  rw [at_call]
  simp only [fd_can, ir_can]
  walk_at "ev"
  simp [c_need_rule hd, h]
variable [HasF p "is_right_deed" fd_is_right_deed] [HasF p "need_deed" fd_need_deed] [HasX p "InvalidDeed" none] [HasX p "Impossible" none]
theorem c_done [HasF p "done" fd_done] {R : Rl} (h : R.Ok) {xs : List Int} {v : D} (hv : v.deep = true) (hx : stockB R (.tup (intsD xs)) = true) (hl : xs.length ≤ 1000) : (p.at (n + 6)).call "done" [R.d, .tup (intsD xs), v] S =
    if v ∈ R.moves true then (match R.beh xs v with | some ys => .ok (.tup (intsD ys)) S | none => exc0 "Impossible" S) else exc0 "InvalidDeed" S := by
  rw [at_call]
  simp only [fd_done, ir_done]
  walk_at "ev"
  have hv2 : (D.tup (intsD xs)).deep = true := by simp only [D.deep, deep_ints]
  simp only [c_need_rule (n := n + 1) (rl_gd h).deep, h.b, if_true]
  walk_at "ev"
  simp only [c_need_stock (n := n + 3) h hv2, hx, if_true]
  walk_at "ev"
  simp only [c_need_deed (n := n + 2) h hv]
  by_cases hm : v ∈ R.moves true
  · have e := c_behind (p := p) (n := n + 1) (S := S) h hm hl
    cases hb : R.beh xs v with
    | none => simp [hm, e, hb, behD, isNonD, fieldX (p := p) (x := "Impossible")]
    | some ys => simp [hm, e, hb, behD, isNonD]
  · simp [hm]
theorem c_done_stock [HasF p "done" fd_done] {R : Rl} (h : R.Ok) {v w : D} (hv : v.deep = true) (hx : stockB R v = false) : (p.at (n + 5)).call "done" [R.d, v, w] S = exc0 "InvalidStock" S := by
  rw [at_call]
  simp only [fd_done, ir_done]
  walk_at "ev"
  simp [c_need_rule (rl_gd h).deep, h.b, c_need_stock h hv, hx]
theorem c_done_rule [HasF p "done" fd_done] {d e w : D} (hd : d.deep = true) (h : ruleB d = false) : (p.at (n + 5)).call "done" [d, e, w] S = exc0 "InvalidRule" S := by
  rw [at_call]
  simp only [fd_done, ir_done]
  walk_at "ev"
  simp [c_need_rule hd, h]
/-! ### rows -/
def Rl.play (R : Rl) : List Int → Int → List D → Option (List Int × Int)
  | xs, t, [] => some (xs, t)
  | xs, t, d :: ds => match R.beh xs d with
    | some ys => R.play ys (t + (R.turn d).2.2) ds
    | none => none
theorem play_app {R : Rl} : ∀ {ds es : List D} {xs : List Int} {t : Int}, R.play xs t (ds ++ es) = match R.play xs t ds with | some (ys, u) => R.play ys u es | none => none
  | [], es, xs, t => rfl
  | d :: ds, es, xs, t => by
    simp only [List.cons_append, Rl.play]
    cases R.beh xs d with
    | none => rfl
    | some ys => exact play_app
theorem play_len {R : Rl} : ∀ {ds : List D} {xs ys : List Int} {t u : Int}, R.play xs t ds = some (ys, u) → ys.length = xs.length
  | [], xs, ys, t, u, h => by simp [Rl.play] at h; rw [h.1]
  | d :: ds, xs, ys, t, u, h => by
    simp only [Rl.play] at h
    cases q : R.beh xs d with
    | none => rw [q] at h; cases h
    | some zs => rw [q] at h; rw [play_len h, (beh_pos q).1]
variable [HasF p "need_row" fd_need_row] [HasC p "MOST_DEEDS" (.int 90)]
theorem c_played [HasF p "played" fd_played] {R : Rl} (h : R.Ok) {xs : List Int} {ds : List D} (hd : D.deeps ds = true) (hr : rowDB R (.tup ds) = true) (hx : stockB R (.tup (intsD xs)) = true) (hl : xs.length ≤ 1000) : (p.at (n + 6)).call "played" [R.d, .tup (intsD xs), .tup ds] S =
    match R.play xs 0 ds with | some (ys, t) => .ok (.tup [.tup (intsD ys), .int t]) S | none => exc0 "Impossible" S := by
  have hv2 : (D.tup (intsD xs)).deep = true := by simp only [D.deep, deep_ints]
  have hv3 : (D.tup ds).deep = true := by simp only [D.deep, hd]
  have hm : ∀ d ∈ ds, d ∈ R.moves true := by
    simp only [rowDB, Bool.and_eq_true, List.all_eq_true, decide_eq_true_eq] at hr
    exact hr.2
  have key : ((p.at (n + 6)).call "played" [R.d, .tup (intsD xs), .tup ds] S).SatX (fun d S' => ∃ ys t, R.play xs 0 ds = some (ys, t) ∧ d = .tup [.tup (intsD ys), .int t] ∧ S' = S) (fun x S' => R.play xs 0 ds = none ∧ x = ⟨"Impossible", none⟩ ∧ S' = S) := by
    rw [at_call, runFd_eq rfl rfl at_lm]
    refine outOf_satX ?_
    simp only [fd_played, ir_played]
    refine seq_satX (fun env S' => env = [some R.d, some (.tup (intsD xs)), some (.tup ds), none, none] ∧ S = S') ?_ ?_
    · refine RS.Sat.satX ?_
      walk_at "ev"
      simp [c_need_rule (n := n + 1) (rl_gd h).deep, h.b]
    rintro _ _ ⟨rfl, rfl⟩
    refine seq_satX (fun env S' => env = [some R.d, some (.tup (intsD xs)), some (.tup ds), none, none] ∧ S = S') ?_ ?_
    · refine RS.Sat.satX ?_
      walk_at "ev"
      simp [c_need_stock (n := n + 3) h hv2, hx]
    rintro _ _ ⟨rfl, rfl⟩
    refine seq_satX (fun env S' => env = [some R.d, some (.tup (intsD xs)), some (.tup ds), none, none] ∧ S = S') ?_ ?_
    · refine RS.Sat.satX ?_
      walk_at "ev"
      simp [c_need_row (n := n + 2) h hv3, hr]
    rintro _ _ ⟨rfl, rfl⟩
    refine seq_satX (fun env S' => env = [some R.d, some (.tup (intsD xs)), some (.tup ds), some (.int 0), none] ∧ S = S') ?_ ?_
    · refine RS.Sat.satX ?_
      walk_at "ev"
      simp
    rintro _ _ ⟨rfl, rfl⟩
    refine seq_satX (fun env S' => ∃ ys t e4, R.play xs 0 ds = some (ys, t) ∧ env = [some R.d, some (.tup (intsD ys)), some (.tup ds), some (.int t), e4] ∧ S = S') ?_ ?_
    · rw [evalS]
      have ei : ∀ S', evalI (p.at (n + 5)) (.over (.var 2)) [some R.d, some (.tup (intsD xs)), some (.tup ds), some (.int 0), none] S' = .ok (.one (.fix ds)) S' := by
        intro S'
        walk_at "ev"
        simp
      rw [ei, Res.toS_ok]
      refine for_invX (ds := ds) rfl (fun i env S' => ∃ ys t e4, R.play xs 0 (ds.take i) = some (ys, t) ∧ env = [some R.d, some (.tup (intsD ys)), some (.tup ds), some (.int t), e4] ∧ S = S') ?_ (fun env S' q => by rwa [List.take_length] at q) _ 0 _ _ (Nat.zero_le _) (by show ds.length < ds.length + 1 + 0; omega) ⟨xs, 0, none, by simp [Rl.play], rfl, rfl⟩
      rintro i d env S' hi ⟨ys, t, e4, hp, rfl, rfl⟩
      have hdm := hm d (List.mem_of_getElem? hi)
      refine ⟨_, bindT_name, ?_⟩
      simp only [List.set_cons_zero, List.set_cons_succ]
      have hys : ys.length ≤ 1000 := by rw [play_len hp]; exact hl
      have tk : ds.take (i + 1) = ds.take i ++ [d] := by rw [List.take_add_one, hi]; rfl
      have e1 := c_behind (p := p) (n := n + 1) (S := S) h hdm hys
      have e2 := c_change_of (p := p) (n := n + 2) (S := S) h hdm
      have pl : R.play xs 0 (ds.take (i + 1)) = match R.beh ys d with | some zs => some (zs, t + (R.turn d).2.2) | none => none := by
        rw [tk, play_app, hp]
        simp only [Rl.play]
      refine seq_satX (fun env S' => env = [some R.d, some (behD (R.beh ys d)), some (.tup ds), some (.int (t + (R.turn d).2.2)), some d] ∧ S = S') ?_ ?_
      · refine RS.Sat.satX ?_
        walk_at "ev"
        simp [e1, e2, trioT]
      rintro _ _ ⟨rfl, rfl⟩
      walk_at "ev"
      rw [isNon_beh]
      cases hb : R.beh ys d with
      | none =>
        rw [hb] at pl
        have pn : R.play xs 0 ds = none := by
          have e : ds = ds.take (i + 1) ++ ds.drop (i + 1) := (List.take_append_drop _ _).symm
          rw [e, play_app, pl]
        simp [fieldX (p := p) (x := "Impossible"), RS.SatX, pn]
      | some zs =>
        rw [hb] at pl
        simp [RS.SatX, pl, behD]
    rintro _ _ ⟨ys, t, e4, hp, rfl, rfl⟩
    walk_at "ev"
    exact ⟨ys, t, hp, rfl, rfl⟩
  revert key
  generalize (p.at (n + 6)).call "played" [R.d, .tup (intsD xs), .tup ds] S = r
  intro key
  cases r with
  | ok d S' => obtain ⟨ys, t, e, rfl, rfl⟩ := key; rw [e]
  | exc x S' => obtain ⟨e, rfl, rfl⟩ := key; rw [e]
  | bad => exact key.elim
theorem c_played_row [HasF p "played" fd_played] {R : Rl} (h : R.Ok) {xs : List Int} {v : D} (hv : v.deep = true) (hr : rowDB R v = false) (hx : stockB R (.tup (intsD xs)) = true) : (p.at (n + 6)).call "played" [R.d, .tup (intsD xs), v] S = exc0 "InvalidDeed" S := by
  have hv2 : (D.tup (intsD xs)).deep = true := by simp only [D.deep, deep_ints]
  rw [at_call]
  simp only [fd_played, ir_played]
  walk_at "ev"
  simp [c_need_rule (n := n + 1) (rl_gd h).deep, h.b, c_need_stock (n := n + 3) h hv2, hx, c_need_row (n := n + 2) h hv, hr]
theorem c_played_stock [HasF p "played" fd_played] {R : Rl} (h : R.Ok) {v w : D} (hv : v.deep = true) (hx : stockB R v = false) : (p.at (n + 5)).call "played" [R.d, v, w] S = exc0 "InvalidStock" S := by
  rw [at_call]
  simp only [fd_played, ir_played]
  walk_at "ev"
  simp [c_need_rule (rl_gd h).deep, h.b, c_need_stock h hv, hx]
theorem c_played_rule [HasF p "played" fd_played] {d e w : D} (hd : d.deep = true) (h : ruleB d = false) : (p.at (n + 5)).call "played" [d, e, w] S = exc0 "InvalidRule" S := by
  rw [at_call]
  simp only [fd_played, ir_played]
  walk_at "ev"
  simp [c_need_rule hd, h]
end
end LT
set_option Elab.async false
set_option linter.all false
set_option maxRecDepth 100000
set_option maxHeartbeats 4000000
/-! Own layer, part S4: stocks: what the law does. -/
namespace LT
open PySem
local macro_rules | `(tactic| walk_at "ev") => `(tactic| try simp only [at_with, runFd, List.length_cons, List.length_nil, if_true, if_false, Bool.false_eq_true, startE, List.map_cons, List.map_nil, List.cons_append, List.nil_append, Nat.add_one_sub_one, Nat.sub_self, Nat.reduceAdd, Nat.reduceSub, List.replicate_zero, List.replicate_succ, evalB, evalS, evalE, evalT, evalI, evP, evPs, evPO, evPI, Ev.mk', evEs, evAnd, evOr, evTAnd, evTOr, evO, evC, Res.b_ok, Res.b_exc, Res.b_bad, Res.toS_ok, Res.toS_exc, RS.next_nx, RS.next_rt, RS.next_exc, List.getElem?_cons_zero, List.getElem?_cons_succ, Option.join_some, at_callE, at_inC, at_bndC', List.set_cons_zero, List.set_cons_succ, bindT_name, bindT_tup, setAll_cons, setAll_nil, at_gcon])
local macro_rules | `(tactic| walk_at "st") => `(tactic| try simp only [Res.toS_sat, RS.next_sat, Res.sat_bind, outOf_satE, Res.sat_ok, RS.sat_nx, RS.sat_rt, List.getElem?_cons_zero, List.getElem?_cons_succ, Option.join_some, List.set_cons_zero, List.set_cons_succ, truthD_bl, truthD_int, truthD_non, truthD_tup, truthD_lst])
local macro_rules | `(tactic| walk_at "evL") => `(tactic| try simp only [atL_eq, runFd, List.length_cons, List.length_nil, if_true, if_false, Bool.false_eq_true, startE, List.map_cons, List.map_nil, List.cons_append, List.nil_append, Nat.add_one_sub_one, Nat.sub_self, Nat.reduceAdd, Nat.reduceSub, List.replicate_zero, List.replicate_succ, evalB, evalS, evalE, evalT, evalI, evP, evPs, evPO, evPI, Ev.mk', evEs, evAnd, evOr, evTAnd, evTOr, evO, evC, Res.b_ok, Res.b_exc, Res.b_bad, Res.toS_ok, Res.toS_exc, RS.next_nx, RS.next_rt, RS.next_exc, List.getElem?_cons_zero, List.getElem?_cons_succ, Option.join_some, atL_callE, atL_inC, atL_bndC, atL_lm, at_callE, at_inC, at_bndC', List.set_cons_zero, List.set_cons_succ, bindT_name, bindT_tup, setAll_cons, setAll_nil, atL_con, at_gcon])
variable {p : Prog} {n : Nat} {S : Sto}
theorem min_cell {k : Nat} {x : Int} {l : List Int} (h : S[k]? = some (.lst (intsD (x :: l)))) : biD .min [.cell k] S = .ok (.int (minI x l)) S := by
  show minL (.cell k) S = _
  unfold minL
  have e : intsOf (intsD (x :: l)) = some (x :: l) := by
    have := intsOf_map (f := id) (l := x :: l)
    simpa [intsD] using this
  rw [items_cell h, Option.bind_some, e]
theorem tuple_cell {k : Nat} {ds : List D} (h : S[k]? = some (.lst ds)) : biD .tuple [.cell k] S = .ok (.tup ds) S := by
  show (match S.seq (.cell k) with | some es => Res.ok (D.tup es) S | none => Res.bad) = _
  rw [seq_cell h]
theorem clean_ints {l : List Int} : D.cleans (intsD l) = true := cleans_deep deep_ints
theorem set_last {T : Sto} {o o' : SO} : (T ++ [o]).set T.length o' = T ++ [o'] := by simp
theorem intsD_set {xs : List Int} {i : Nat} {y : Int} : (intsD xs).set i (.int y) = intsD (xs.set i y) := by simp [intsD, List.map_set]
section
variable [HasF p "_law_turn" fd_law_turn] [HasF p "_law_next" fd_law_next]
theorem c_law_next {R : Rl} (h : R.Ok) {xs : List Int} {d : D} (hd : d ∈ R.moves true) (hx : (xs.length : Int) = R.room - R.low + 1) : (p.at (n + 2)).call "_law_next" [R.d, .tup (intsD xs), d] S = .ok (behD (R.beh xs d)) S := by
  have r2 := h.r2
  have l1 := h.l1
  have t := turn_ok h hd
  have k1 : ∀ S, idxD R.d (.int 1) S = .ok (.int R.low) S := fun S => idx_tup1
  refine sat_eq ?_
  rw [at_call, runFd_sea rfl rfl rfl]
  refine seal_sat ?_
  rw [outOf_satE]
  simp only [fd_law_next, ir_law_next]
  refine seq_sat (fun env S' => env = [some R.d, some (.tup (intsD xs)), some d, some (.lst (intsD (R.turn d).1)), some (.lst (intsD (R.turn d).2.1)), some (.int (R.turn d).2.2), none, none] ∧ S = S') ?_ ?_
  · walk_at "ev"
    simp [c_law_turn h hd, trioL]
  rintro _ _ ⟨rfl, rfl⟩
  refine seq_sat (fun env S' => env = [some R.d, some (.tup (intsD xs)), some d, some (.lst (intsD (R.turn d).1)), some (.lst (intsD (R.turn d).2.1)), some (.int (R.turn d).2.2), some (.cell S.length), none] ∧ S' = S ++ [.lst (intsD xs)]) ?_ ?_
  · walk_at "ev"
    have e : biD .listm [.tup (intsD xs)] S = .ok (.cell S.length) (S ++ [.lst (intsD xs)]) := by
      show (match S.seq (.tup (intsD xs)) with | some es => if D.cleans es then Res.ok (D.cell S.length) (S ++ [SO.lst es]) else Res.bad | none => Res.bad) = _
      rw [seq_tup]
      simp [clean_ints]
    simp [e]
  rintro _ _ ⟨rfl, rfl⟩
  refine seq_sat (fun env S' => (∃ e7, env = [some R.d, some (.tup (intsD xs)), some d, some (.lst (intsD (R.turn d).1)), some (.lst (intsD (R.turn d).2.1)), some (.int (R.turn d).2.2), some (.cell S.length), e7]) ∧ S' = S ++ [.lst (intsD (stepL (R.turn d).1 [] R.low xs))]) ?_ ?_
  · rw [evalS]
    have ei : ∀ S', evalI (p.at (n + 1)) (.over (.var 3)) [some R.d, some (.tup (intsD xs)), some d, some (.lst (intsD (R.turn d).1)), some (.lst (intsD (R.turn d).2.1)), some (.int (R.turn d).2.2), some (.cell S.length), none] S' = .ok (.one (.fix (intsD (R.turn d).1))) S' := by
      intro S'
      walk_at "ev"
      simp
    rw [ei, Res.toS_ok]
    refine for_inv0 (ds := intsD (R.turn d).1) rfl (fun i env S' => (∃ e7, env = [some R.d, some (.tup (intsD xs)), some d, some (.lst (intsD (R.turn d).1)), some (.lst (intsD (R.turn d).2.1)), some (.int (R.turn d).2.2), some (.cell S.length), e7]) ∧ S' = S ++ [.lst (intsD (stepL ((R.turn d).1.take i) [] R.low xs))]) ⟨⟨_, rfl⟩, by simp [stepL_nil]⟩ ?_ ?_
    · rintro i q env S' hq ⟨⟨e7, rfl⟩, rfl⟩
      obtain ⟨l, hl, rfl⟩ := ints_get hq
      obtain ⟨g1, g2⟩ := t.ahead l (List.mem_of_getElem? hl)
      refine ⟨_, bindT_name, ?_⟩
      simp only [List.set_cons_zero, List.set_cons_succ]
      obtain ⟨y, y1, y2⟩ := stepL_setB (bf := (R.turn d).1.take i) (af := []) (xs := xs) (c := R.low) (l := l) g1 (by omega)
      have g : (S ++ [SO.lst (intsD (stepL ((R.turn d).1.take i) [] R.low xs))])[S.length]? = some (.lst (intsD (stepL ((R.turn d).1.take i) [] R.low xs))) := getLast_app
      have gy : (intsD (stepL ((R.turn d).1.take i) [] R.low xs))[(l - R.low).toNat]? = some (.int y) := by simp [intsD, y1]
      have ie : l - R.low = ((l - R.low).toNat : Int) := by omega
      have a1 := idx_cell g gy
      have a2 := asub_cell (v := .int (y - 1)) g (by simp [intsD, stepL_len]; omega : (l - R.low).toNat < _) rfl
      rw [← ie] at a1 a2
      walk_at "ev"
      simp only [k1, Res.b_ok, bin_sub_int, a1, a2, Res.toS_ok, RS.next_nx, RS.sat_nx]
      refine ⟨⟨_, rfl⟩, ?_⟩
      rw [set_last, intsD_set, y2]
      rw [take_snoc hl]
    · rintro env S' ⟨e, rfl⟩
      have el : (intsD (R.turn d).1).length = (R.turn d).1.length := by simp [intsD]
      rw [el, List.take_length]
      exact ⟨e, rfl⟩
  rintro _ _ ⟨⟨e7, rfl⟩, rfl⟩
  have g0 : (S ++ [SO.lst (intsD (stepL (R.turn d).1 [] R.low xs))])[S.length]? = some (.lst (intsD (stepL (R.turn d).1 [] R.low xs))) := getLast_app
  obtain ⟨x0, xr, ex⟩ : ∃ x0 xr, stepL (R.turn d).1 [] R.low xs = x0 :: xr := by
    have := stepL_len (bf := (R.turn d).1) (af := []) (xs := xs) (c := R.low)
    cases q : stepL (R.turn d).1 [] R.low xs with
    | nil => rw [q] at this; simp at this; have l2 := h.l2; have r1 := h.r1; omega
    | cons a b => exact ⟨a, b, rfl⟩
  have mn := min_cell (S := S ++ [SO.lst (intsD (stepL (R.turn d).1 [] R.low xs))]) (by rw [← ex]; exact g0)
  have fi : fitL (R.turn d).1 R.low xs = !decide (minI x0 xr < 0) := by
    have a := fitL_iff (bf := (R.turn d).1) (xs := xs) (c := R.low)
    rw [ex] at a
    have b := minI_neg (x := x0) (l := xr)
    by_cases c : minI x0 xr < 0
    · have : ¬ fitL (R.turn d).1 R.low xs = true := fun z => b.mp c (a.mp z)
      simp [c, this]
    · have : fitL (R.turn d).1 R.low xs = true := a.mpr (Classical.byContradiction fun z => c (b.mpr z))
      simp [c, this]
  by_cases hf : minI x0 xr < 0
  · refine seq_sat (fun env S' => False) ?_ fun _ _ z => z.elim
    walk_at "ev"
    simp only [mn, Res.b_ok, cmp_lt_int, hf, decide_true, truthD_bl, if_true]
    simp [D.deep, Rl.beh, fi, hf, behD]
  refine seq_sat (fun env S' => (∃ e7, env = [some R.d, some (.tup (intsD xs)), some d, some (.lst (intsD (R.turn d).1)), some (.lst (intsD (R.turn d).2.1)), some (.int (R.turn d).2.2), some (.cell S.length), e7]) ∧ S' = S ++ [.lst (intsD (stepL (R.turn d).1 [] R.low xs))]) ?_ ?_
  · walk_at "ev"
    simp only [mn, Res.b_ok, cmp_lt_int, hf, decide_false, truthD_bl, Bool.false_eq_true, if_false]
    exact ⟨⟨_, rfl⟩, rfl⟩
  rintro _ _ ⟨⟨e7, rfl⟩, rfl⟩
  refine seq_sat (fun env S' => (∃ e7, env = [some R.d, some (.tup (intsD xs)), some d, some (.lst (intsD (R.turn d).1)), some (.lst (intsD (R.turn d).2.1)), some (.int (R.turn d).2.2), some (.cell S.length), e7]) ∧ S' = S ++ [.lst (intsD (stepL (R.turn d).1 (R.turn d).2.1 R.low xs))]) ?_ ?_
  · rw [evalS]
    have ei : ∀ S', evalI (p.at (n + 1)) (.over (.var 4)) [some R.d, some (.tup (intsD xs)), some d, some (.lst (intsD (R.turn d).1)), some (.lst (intsD (R.turn d).2.1)), some (.int (R.turn d).2.2), some (.cell S.length), e7] S' = .ok (.one (.fix (intsD (R.turn d).2.1))) S' := by
      intro S'
      walk_at "ev"
      simp
    rw [ei, Res.toS_ok]
    refine for_inv0 (ds := intsD (R.turn d).2.1) rfl (fun i env S' => (∃ e7, env = [some R.d, some (.tup (intsD xs)), some d, some (.lst (intsD (R.turn d).1)), some (.lst (intsD (R.turn d).2.1)), some (.int (R.turn d).2.2), some (.cell S.length), e7]) ∧ S' = S ++ [.lst (intsD (stepL (R.turn d).1 ((R.turn d).2.1.take i) R.low xs))]) ⟨⟨_, rfl⟩, rfl⟩ ?_ ?_
    · rintro i q env S' hq ⟨⟨e7, rfl⟩, rfl⟩
      obtain ⟨l, hl, rfl⟩ := ints_get hq
      obtain ⟨g1, g2⟩ := t.after l (List.mem_of_getElem? hl)
      refine ⟨_, bindT_name, ?_⟩
      simp only [List.set_cons_zero, List.set_cons_succ]
      obtain ⟨y, y1, y2⟩ := stepL_setA (bf := (R.turn d).1) (af := (R.turn d).2.1.take i) (xs := xs) (c := R.low) (l := l) g1 (by omega)
      have g : (S ++ [SO.lst (intsD (stepL (R.turn d).1 ((R.turn d).2.1.take i) R.low xs))])[S.length]? = some (.lst (intsD (stepL (R.turn d).1 ((R.turn d).2.1.take i) R.low xs))) := getLast_app
      have gy : (intsD (stepL (R.turn d).1 ((R.turn d).2.1.take i) R.low xs))[(l - R.low).toNat]? = some (.int y) := by simp [intsD, y1]
      have ie : l - R.low = ((l - R.low).toNat : Int) := by omega
      have a1 := idx_cell g gy
      have a2 := asub_cell (v := .int (y + 1)) g (by simp [intsD, stepL_len]; omega : (l - R.low).toNat < _) rfl
      rw [← ie] at a1 a2
      walk_at "ev"
      simp only [k1, Res.b_ok, bin_sub_int, bin_add_int, a1, a2, Res.toS_ok, RS.next_nx, RS.sat_nx]
      refine ⟨⟨_, rfl⟩, ?_⟩
      rw [set_last, intsD_set, y2]
      rw [take_snoc hl]
    · rintro env S' ⟨e, rfl⟩
      have el : (intsD (R.turn d).2.1).length = (R.turn d).2.1.length := by simp [intsD]
      rw [el, List.take_length]
      exact ⟨e, rfl⟩
  rintro _ _ ⟨⟨e8, rfl⟩, rfl⟩
  walk_at "ev"
  have g : (S ++ [SO.lst (intsD (stepL (R.turn d).1 (R.turn d).2.1 R.low xs))])[S.length]? = some (.lst (intsD (stepL (R.turn d).1 (R.turn d).2.1 R.low xs))) := getLast_app
  rw [tuple_cell g]
  simp only [Res.b_ok, Res.toS_ok, RS.sat_rt, RS.next_rt]
  refine ⟨by simp only [D.deep, deep_ints], by simp [Rl.beh, fi, hf, behD], _, rfl⟩
end
end LT
set_option Elab.async false
set_option linter.all false
set_option maxRecDepth 100000
/-! printed by irp2.py -/
namespace LT.K07
open PySem LT

def ir_law_low : List IS := [
  .asg (.tup [2, 3]) (.tup [(.bi .abs [(.var 0)]), (.var 1)]),
  .while_ (.cmp .ne (.var 3) (.int 0)) [
    .asg (.tup [2, 3]) (.tup [(.var 3), (.bin .mod (.var 2) (.var 3))])],
  .ret (.tup [(.bin .fdiv (.var 0) (.var 2)), (.bin .fdiv (.var 1) (.var 2))])]
def fd_law_low : Fd := ⟨2, 4, ir_law_low, false, false⟩
def ir_law_is_round : List IS := [
  .ifs (.or [(.not (.isi .tuple (.var 2))), (.cmp .eq (.var 2) (.tup []))]) [
    .ret (.bl false)] [],
  .asg (.tup [3, 4]) (.tup [(.call "_law_moves" [(.var 0), (.var 1)]), .non]),
  .for_ (.name 5) (.over (.var 2)) [
    .ifs (.or [(.not (.isi .tuple (.var 5))), (.cmp .ne (.bi .len [(.var 5)]) (.int 2)), (.cmp .ne (.call "_law_kind" [(.idx (.var 5) (.int 1))]) (.int 1)), (.not (.chain .le .le (.int 1) (.idx (.var 5) (.int 1)) (.bin .pow (.int 10) (.int 12))))]) [
      .ret (.bl false)] [],
    .ifs (.or [(.cmp .eq (.comp false [6] (.name 6) (.over (.var 3)) (.some (.call "_law_twins" [(.var 6), (.idx (.var 5) (.int 0))])) (.var 6)) (.lst false [])), (.and [(.isN true (.var 4)), (.not (.cmp .lt (.var 4) (.idx (.var 5) (.int 0))))])]) [
      .ret (.bl false)] [],
    .asg (.name 4) (.idx (.var 5) (.int 0))],
  .ret (.cmp .ge (.bi .min [(.call "_law_left" [(.var 0), (.var 2)])]) (.int 0))]
def fd_law_is_round : Fd := ⟨3, 7, ir_law_is_round, false, false⟩
def ir_law_stock : List IS := [
  .asg (.name 2) (.call "_law_chosen" [(.var 0), (.lst false [(.int 2), (.int 4), (.bin .add (.bin .pow (.int 10) (.int 12)) (.int 1))])]),
  .ret (.bi .tuple [(.comp false [3] (.name 3) (.range2 (.idx (.var 1) (.int 1)) (.bin .add (.idx (.var 1) (.int 0)) (.int 1))) .none (.call "_law_pick" [(.var 0), (.var 2)]))])]
def fd_law_stock : Fd := ⟨2, 4, ir_law_stock, false, false⟩
def ir_law_row : List IS := [
  .asg (.tup [3, 4, 5]) (.tup [(.tup []), (.int 0), (.call "_law_moves" [(.var 1), (.str "all")])]),
  .for_ (.name 6) (.range1 (.call "_law_pick" [(.var 0), (.int 30)])) [
    .asg (.name 7) (.comp false [8] (.name 8) (.over (.var 5)) (.some (.isN true (.call "_law_next" [(.var 1), (.var 2), (.var 8)]))) (.var 8)),
    .asg (.name 8) (.call "_law_chosen" [(.var 0), (.ite (.or [(.cmp .eq (.var 7) (.lst false [])), (.cmp .eq (.call "_law_pick" [(.var 0), (.int 25)]) (.int 0))]) (.var 5) (.var 7))]),
    .asg (.tup [3, 4]) (.tup [(.bin .add (.var 3) (.tup [(.var 8)])), (.bin .add (.var 4) (.idx (.call "_law_turn" [(.var 1), (.var 8)]) (.int 2)))]),
    .asg (.name 2) (.call "_law_next" [(.var 1), (.var 2), (.var 8)]),
    .ifs (.isN false (.var 2)) [
      .ret (.tup [(.var 3), (.tup [.non, (.str "impossible value")])])] []],
  .ret (.tup [(.var 3), (.tup [(.tup [(.var 2), (.var 4)]), (.str "")])])]
def fd_law_row : Fd := ⟨3, 9, ir_law_row, false, false⟩
def ir_law_good : List IS := [
  .asg (.tup [2, 3]) (.tup [(.call "_law_stock" [(.var 0), (.var 1)]), (.int 0)]),
  .for_ (.tup [4, 5]) (.enum (.var 2)) [
    .asg (.name 3) (.bin .add (.var 3) (.bin .mul (.var 5) (.bin .add (.idx (.var 1) (.int 1)) (.var 4))))],
  .asg (.name 6) (.comp false [7] (.name 7) (.over (.call "_law_moves" [(.var 1), (.str "all")])) (.some (.isN true (.call "_law_next" [(.var 1), (.var 2), (.var 7)]))) (.var 7)),
  .ifs (.or [(.not (.call "_law_twins" [(.call "keys" [(.var 1), (.var 2)]), (.var 3)])), (.not (.call "_law_twins" [(.call "can" [(.var 1), (.var 2)]), (.var 6)]))]) [
    .ret (.bl false)] [],
  .for_ (.name 7) (.over (.call "_law_moves" [(.var 1), (.str "all")])) [
    .asg (.name 8) (.ite (.cmp .in_ (.var 7) (.var 6)) (.tup [(.call "_law_next" [(.var 1), (.var 2), (.var 7)]), (.str "")]) (.tup [.non, (.str "impossible value")])),
    .ifs (.not (.call "_law_twins" [(.call "_law_came" [(.lam 0 [1, 2, 7])]), (.var 8)])) [
      .ret (.bl false)] []],
  .asg (.tup [9, 8]) (.call "_law_row" [(.var 0), (.var 1), (.var 2)]),
  .ret (.call "_law_twins" [(.call "_law_came" [(.lam 1 [1, 2, 9])]), (.var 8)])]
def fd_law_good : Fd := ⟨2, 10, ir_law_good, true, false⟩
def ir_law_refused : List IS := [
  .asg (.name 2) (.lst false [.non, (.tup []), (.bi .list [(.var 1)]), (.sl (.var 1) (.some (.int 1)) .none), (.bin .add (.var 1) (.tup [(.int 0)])), (.bin .add (.tup [(.neg (.int 1))]) (.sl (.var 1) (.some (.int 1)) .none)), (.bin .add (.tup [(.bl true)]) (.sl (.var 1) (.some (.int 1)) .none))]),
  .for_ (.name 3) (.over (.bin .add (.var 2) (.lst false [(.bin .mul (.tup [(.bin .add (.bin .pow (.int 10) (.int 12)) (.int 1))]) (.bi .len [(.var 1)]))]))) [
    .asg (.name 4) (.lst false [(.lam 2 [0, 3])]),
    .asg (.name 4) (.bin .add (.var 4) (.lst false [(.lam 3 [0, 3])])),
    .asg (.name 4) (.bin .add (.var 4) (.lst false [(.lam 4 [0, 3])])),
    .ifs (.not (.call "_law_all_say" [(.bin .add (.var 4) (.lst false [(.lam 5 [0, 3])])), (.str "stock")])) [
      .ret (.bl false)] []],
  .asg (.name 5) (.tup [(.str "put"), (.idx (.var 0) (.int 1))]),
  .for_ (.name 3) (.over (.lst false [.non, (.tup []), (.tup [(.str "put")]), (.tup [(.str "put"), (.int 0)]), (.lst false [(.str "put"), (.idx (.var 0) (.int 1))]), (.tup [(.str "take"), (.idx (.var 0) (.int 1))])])) [
    .asg (.name 4) (.lst false [(.lam 6 [0, 1, 3])]),
    .ifs (.not (.call "_law_all_say" [(.bin .add (.var 4) (.lst false [(.lam 7 [0, 1, 5, 3])])), (.str "deed")])) [
      .ret (.bl false)] []],
  .for_ (.name 3) (.over (.lst false [.non, (.var 5), (.lst false [(.var 5)]), (.bin .mul (.tup [(.var 5)]) (.int 91))])) [
    .ifs (.not (.call "_law_all_say" [(.lst false [(.lam 8 [0, 1, 3])]), (.str "deed")])) [
      .ret (.bl false)] []],
  .asg (.name 4) (.lst false [(.lam 9 [0])]),
  .asg (.name 4) (.bin .add (.var 4) (.lst false [(.lam 10 [])])),
  .asg (.name 4) (.bin .add (.var 4) (.lst false [(.lam 11 [])])),
  .ret (.call "_law_all_say" [(.bin .add (.var 4) (.lst false [(.lam 12 [0])])), (.str "rule")])]
def fd_law_refused : Fd := ⟨2, 6, ir_law_refused, true, false⟩
def ir_law_written : List IS := [
  .asg (.tup [0, 1, 2, 3]) (.call "_law_known" []),
  .asg (.name 4) (.lst false [(.call "keys" [(.var 0), (.tup [(.int 2), (.int 1)])]), (.call "can" [(.var 0), (.tup [(.int 0), (.int 1)])]), (.call "can" [(.var 0), (.tup [(.int 2), (.int 0)])]), (.call "can" [(.var 0), (.tup [(.int 1), (.int 0)])]), (.call "can" [(.var 0), (.tup [(.int 0), (.int 0)])])]),
  .asg (.name 5) (.lst false [(.int 7), (.lst false [(.tup [(.str "put"), (.int 3)]), (.tup [(.str "take"), (.int 3)])]), (.lst false [(.tup [(.str "put"), (.int 2)]), (.tup [(.str "take"), (.int 2), (.int 2)])]), (.lst false [(.tup [(.str "put"), (.int 2)])]), (.lst false [])]),
  .ifs (.or [(.cmp .ne (.var 4) (.var 5)), (.cmp .ne (.call "done" [(.var 0), (.tup [(.int 0), (.int 1)]), (.tup [(.str "put"), (.int 3)])]) (.tup [(.int 2), (.int 0)]))]) [
    .ret (.bl false)] [],
  .ifs (.or [(.cmp .ne (.call "played" [(.var 0), (.tup [(.int 0), (.int 1)]), (.tup [(.tup [(.str "put"), (.int 3)]), (.tup [(.str "take"), (.int 2), (.int 2)])])]) (.tup [(.tup [(.int 0), (.int 1)]), (.int 7)])), (.cmp .ne (.call "played" [(.var 0), (.tup [(.int 5), (.int 5)]), (.tup [])]) (.tup [(.tup [(.int 5), (.int 5)]), (.int 0)]))]) [
    .ret (.bl false)] [],
  .ifs (.cmp .ne (.call "played" [(.var 3), (.tup [(.int 0), (.int 1)]), (.bin .mul (.tup [(.tup [(.str "put"), (.int 2)])]) (.int 3))]) (.tup [(.tup [(.int 3), (.int 1)]), (.int 6)])) [
    .ret (.bl false)] [],
  .ifs (.cmp .ne (.call "played" [(.var 3), (.tup [(.int 0), (.int 1)]), (.bin .mul (.tup [(.tup [(.str "put"), (.int 2)])]) (.int 90))]) (.tup [(.tup [(.int 90), (.int 1)]), (.int 180)])) [
    .ret (.bl false)] [],
  .asg (.name 6) (.lst false [(.lam 13 [0])]),
  .ret (.call "_law_all_say" [(.bin .add (.var 6) (.lst false [(.lam 14 [0])])), (.str "impossible")])]
def fd_law_written : Fd := ⟨0, 7, ir_law_written, true, false⟩
def ir_law : List IS := [
  .for_ (.name 1) (.range1 (.bi .max [(.int 5), (.bi .min [(.int 12), (.bi .len [(.var 0)])])])) [
    .asg (.name 2) (.call "_law_spring" [(.var 0), (.var 1)]),
    .asg (.name 3) (.call "_law_drawn" [(.var 2), (.int 7)]),
    .for_ (.name 4) (.range1 (.int 4)) [
      .ifs (.not (.call "_law_good" [(.var 2), (.var 3)])) [
        .ret (.bl false)] []],
    .ifs (.not (.call "_law_refused" [(.var 3), (.call "_law_stock" [(.var 2), (.var 3)])])) [
      .ret (.bl false)] []],
  .ret (.call "_law_written" [])]
def fd_law : Fd := ⟨1, 5, ir_law, false, false⟩
def lam0 : Lm := ⟨0, 3, (.call "done" [(.var 0), (.var 1), (.var 2)])⟩
def lam1 : Lm := ⟨0, 3, (.call "played" [(.var 0), (.var 1), (.var 2)])⟩
def lam2 : Lm := ⟨0, 2, (.call "keys" [(.var 0), (.var 1)])⟩
def lam3 : Lm := ⟨0, 2, (.call "can" [(.var 0), (.var 1)])⟩
def lam4 : Lm := ⟨0, 2, (.call "done" [(.var 0), (.var 1), .non])⟩
def lam5 : Lm := ⟨0, 2, (.call "played" [(.var 0), (.var 1), .non])⟩
def lam6 : Lm := ⟨0, 3, (.call "done" [(.var 0), (.var 1), (.var 2)])⟩
def lam7 : Lm := ⟨0, 4, (.call "played" [(.var 0), (.var 1), (.tup [(.var 2), (.var 3)])])⟩
def lam8 : Lm := ⟨0, 3, (.call "played" [(.var 0), (.var 1), (.var 2)])⟩
def lam9 : Lm := ⟨0, 1, (.call "keys" [(.sl (.var 0) .none (.some (.int 4))), .non])⟩
def lam10 : Lm := ⟨0, 0, (.call "can" [.non, .non])⟩
def lam11 : Lm := ⟨0, 0, (.call "done" [(.tup []), .non, .non])⟩
def lam12 : Lm := ⟨0, 1, (.call "played" [(.bi .list [(.var 0)]), .non, .non])⟩
def lam13 : Lm := ⟨0, 1, (.call "done" [(.var 0), (.tup [(.int 1), (.int 0)]), (.tup [(.str "take"), (.int 2), (.int 2)])])⟩
def lam14 : Lm := ⟨0, 1, (.call "played" [(.var 0), (.tup [(.int 1), (.int 0)]), (.tup [(.tup [(.str "put"), (.int 2)]), (.tup [(.str "put"), (.int 2)])])])⟩
def fnTab0 : List (Str × Fd) := [("is_whole", fd_is_whole), ("is_split", fd_is_split), ("are_tolls", fd_are_tolls), ("is_right_rule", fd_is_right_rule), ("need_rule", fd_need_rule), ("thirds", fd_thirds), ("put_change", fd_put_change), ("take_change", fd_take_change), ("change_of", fd_change_of), ("deeds_of", fd_deeds_of), ("is_right_deed", fd_is_right_deed), ("need_deed", fd_need_deed), ("need_stock", fd_need_stock), ("need_row", fd_need_row), ("behind", fd_behind), ("keys_in", fd_keys_in)]
def fnTab1 : List (Str × Fd) := [("can", fd_can), ("keys", fd_keys), ("done", fd_done), ("played", fd_played), ("_law_spring", fd_law_spring), ("_law_pick", fd_law_pick), ("_law_chosen", fd_law_chosen), ("_law_drawn", fd_law_drawn), ("_law_moves", fd_law_moves), ("_law_turn", fd_law_turn), ("_law_came", fd_law_came), ("_law_all_say", fd_law_all_say), ("_law_kind", fd_law_kind), ("_law_twins", fd_law_twins), ("_law_low", fd_law_low), ("_law_is_fraction", fd_law_is_fraction)]
def fnTab2 : List (Str × Fd) := [("_law_sum", fd_law_sum), ("_law_shown", fd_law_shown), ("_law_left", fd_law_left), ("_law_mean", fd_law_mean), ("_law_is_round", fd_law_is_round), ("_law_is_paper", fd_law_is_paper), ("_law_known", fd_law_known), ("_law_stock", fd_law_stock), ("_law_next", fd_law_next), ("_law_row", fd_law_row), ("_law_good", fd_law_good), ("_law_refused", fd_law_refused), ("_law_written", fd_law_written), ("law", fd_law)]
def fnTab : List (Str × Fd) := fnTab0 ++ fnTab1 ++ fnTab2
def lamTab : List Lm := [lam0, lam1, lam2, lam3, lam4, lam5, lam6, lam7, lam8, lam9, lam10, lam11, lam12, lam13, lam14]
def conTab : List (Str × D) := [("SPLITS", (.tup [(.str "part"), (.str "share"), (.str "three")])), ("MOST_DEEDS", (.int 90)), ("MOST_LEAVES", (.int 1000000000000))]
def xcs : Xcs := ⟨[("InvalidRule", none), ("InvalidDeed", none), ("InvalidKinds", none), ("InvalidPaper", none), ("InvalidStock", none), ("InvalidNumber", none), ("InvalidIndex", none), ("Impossible", none), ("NoNeighbour", none), ("Unlike", none), ("NothingToUndo", none), ("TooMany", some "limit"), ("InvalidText", some "line")], fun x y => x = y || y = "LeafError", fun x => (([("InvalidRule", "rule value"), ("InvalidDeed", "deed value"), ("InvalidKinds", "kinds value"), ("InvalidPaper", "paper value"), ("InvalidStock", "stock value"), ("InvalidNumber", "number value"), ("InvalidIndex", "index value"), ("Impossible", "impossible value"), ("NoNeighbour", "alone value"), ("Unlike", "unlike value"), ("NothingToUndo", "undo value"), ("TooMany", "many value"), ("InvalidText", "text value")] : List (Str × Str)).lookup x).getD ""⟩
def prog : Prog := ⟨fnTab, lamTab, fun x => conTab.lookup x, xcs⟩
instance : HasF prog "is_whole" fd_is_whole := ⟨rfl⟩
instance : HasF prog "is_split" fd_is_split := ⟨rfl⟩
instance : HasF prog "are_tolls" fd_are_tolls := ⟨rfl⟩
instance : HasF prog "is_right_rule" fd_is_right_rule := ⟨rfl⟩
instance : HasF prog "need_rule" fd_need_rule := ⟨rfl⟩
instance : HasF prog "thirds" fd_thirds := ⟨rfl⟩
instance : HasF prog "put_change" fd_put_change := ⟨rfl⟩
instance : HasF prog "take_change" fd_take_change := ⟨rfl⟩
instance : HasF prog "change_of" fd_change_of := ⟨rfl⟩
instance : HasF prog "deeds_of" fd_deeds_of := ⟨rfl⟩
instance : HasF prog "is_right_deed" fd_is_right_deed := ⟨rfl⟩
instance : HasF prog "need_deed" fd_need_deed := ⟨rfl⟩
instance : HasF prog "need_stock" fd_need_stock := ⟨rfl⟩
instance : HasF prog "need_row" fd_need_row := ⟨rfl⟩
instance : HasF prog "behind" fd_behind := ⟨rfl⟩
instance : HasF prog "keys_in" fd_keys_in := ⟨rfl⟩
instance : HasF prog "can" fd_can := ⟨rfl⟩
instance : HasF prog "keys" fd_keys := ⟨rfl⟩
instance : HasF prog "done" fd_done := ⟨rfl⟩
instance : HasF prog "played" fd_played := ⟨rfl⟩
instance : HasF prog "_law_spring" fd_law_spring := ⟨rfl⟩
instance : HasF prog "_law_pick" fd_law_pick := ⟨rfl⟩
instance : HasF prog "_law_chosen" fd_law_chosen := ⟨rfl⟩
instance : HasF prog "_law_drawn" fd_law_drawn := ⟨rfl⟩
instance : HasF prog "_law_moves" fd_law_moves := ⟨rfl⟩
instance : HasF prog "_law_turn" fd_law_turn := ⟨rfl⟩
instance : HasF prog "_law_came" fd_law_came := ⟨rfl⟩
instance : HasF prog "_law_all_say" fd_law_all_say := ⟨rfl⟩
instance : HasF prog "_law_kind" fd_law_kind := ⟨rfl⟩
instance : HasF prog "_law_twins" fd_law_twins := ⟨rfl⟩
instance : HasF prog "_law_low" fd_law_low := ⟨rfl⟩
instance : HasF prog "_law_is_fraction" fd_law_is_fraction := ⟨rfl⟩
instance : HasF prog "_law_sum" fd_law_sum := ⟨rfl⟩
instance : HasF prog "_law_shown" fd_law_shown := ⟨rfl⟩
instance : HasF prog "_law_left" fd_law_left := ⟨rfl⟩
instance : HasF prog "_law_mean" fd_law_mean := ⟨rfl⟩
instance : HasF prog "_law_is_round" fd_law_is_round := ⟨rfl⟩
instance : HasF prog "_law_is_paper" fd_law_is_paper := ⟨rfl⟩
instance : HasF prog "_law_known" fd_law_known := ⟨rfl⟩
instance : HasF prog "_law_stock" fd_law_stock := ⟨rfl⟩
instance : HasF prog "_law_next" fd_law_next := ⟨rfl⟩
instance : HasF prog "_law_row" fd_law_row := ⟨rfl⟩
instance : HasF prog "_law_good" fd_law_good := ⟨rfl⟩
instance : HasF prog "_law_refused" fd_law_refused := ⟨rfl⟩
instance : HasF prog "_law_written" fd_law_written := ⟨rfl⟩
instance : HasF prog "law" fd_law := ⟨rfl⟩
end LT.K07
set_option Elab.async false
set_option linter.all false
set_option maxRecDepth 100000
set_option maxHeartbeats 8000000
/-! printed by irp2.py: the head -/
namespace LT.K07
open PySem PySem.Spec PyProof.Rows L2 LamX NdefX He

def topS (i : Nat) : Stmt := PySem.Challenge.pw_leaftoll_k07_whole_stocks_led_by_deeds.main.body.getD i (.Pass ⟨0, 0, 0, 0⟩)
def defs0 : List DefT := [⟨"is_whole", topS 17, ["value", "low", "high"]⟩,
  ⟨"is_split", topS 18, ["value", "room", "low"]⟩,
  ⟨"are_tolls", topS 19, ["value", "toll"]⟩,
  ⟨"is_right_rule", topS 20, ["value", "room", "low", "split", "fit", "tolls"]⟩,
  ⟨"need_rule", topS 21, ["value"]⟩,
  ⟨"thirds", topS 22, ["many"]⟩,
  ⟨"put_change", topS 23, ["rule", "rest", "room", "low", "split", "fit", "tolls", "count", "parts", "other"]⟩,
  ⟨"take_change", topS 24, ["rule", "rest", "room", "low", "split", "fit", "tolls", "count", "other"]⟩,
  ⟨"change_of", topS 25, ["rule", "deed", "before", "after", "written", "new", "gone", "tolls", "toll"]⟩,
  ⟨"deeds_of", topS 26, ["rule", "kinds", "room", "low", "found", "count", "other"]⟩,
  ⟨"is_right_deed", topS 27, ["rule", "value", "part"]⟩,
  ⟨"need_deed", topS 28, ["rule", "value"]⟩,
  ⟨"need_stock", topS 32, ["rule", "value", "size", "good", "many"]⟩,
  ⟨"need_row", topS 33, ["rule", "value", "one"]⟩,
  ⟨"behind", topS 34, ["rule", "stock", "deed", "before", "after", "toll", "found", "at", "many", "count"]⟩,
  ⟨"keys_in", topS 35, ["rule", "stock", "at", "many"]⟩]
def defs1 : List DefT := [⟨"can", topS 36, ["rule", "stock", "deed"]⟩,
  ⟨"keys", topS 37, ["rule", "stock"]⟩,
  ⟨"done", topS 38, ["rule", "stock", "deed", "found"]⟩,
  ⟨"played", topS 39, ["rule", "stock", "row", "total", "deed"]⟩,
  ⟨"_law_spring", topS 41, ["script", "k", "cell"]⟩,
  ⟨"_law_pick", topS 42, ["spring", "many", "found", "far"]⟩,
  ⟨"_law_chosen", topS 43, ["spring", "some"]⟩,
  ⟨"_law_drawn", topS 44, ["spring", "most", "room", "low", "split", "fit", "some", "turn"]⟩,
  ⟨"_law_moves", topS 45, ["rule", "kinds", "room", "low", "found", "count", "other"]⟩,
  ⟨"_law_turn", topS 46, ["rule", "move", "room", "low", "split", "fit", "tolls", "word", "count", "whole", "rest"]⟩,
  ⟨"_law_came", topS 48, ["call", "e"]⟩,
  ⟨"_law_all_say", topS 49, ["calls", "word", "call"]⟩,
  ⟨"_law_kind", topS 50, ["value"]⟩,
  ⟨"_law_twins", topS 51, ["one", "other", "a", "b"]⟩,
  ⟨"_law_low", topS 52, ["top", "below", "one", "other"]⟩,
  ⟨"_law_is_fraction", topS 53, ["value", "part"]⟩]
def defs2 : List DefT := [⟨"_law_sum", topS 54, ["paper", "leaves", "low", "top", "below", "leaf", "one"]⟩,
  ⟨"_law_shown", topS 55, ["rule", "kinds", "due", "paper", "move", "ahead", "after", "toll", "one", "other", "top"]⟩,
  ⟨"_law_left", topS 56, ["rule", "some", "found", "move", "often", "ahead", "after", "toll", "leaf"]⟩,
  ⟨"_law_mean", topS 57, ["rule", "some", "total", "move", "often"]⟩,
  ⟨"_law_is_round", topS 58, ["rule", "kinds", "value", "moves", "last", "pair", "move"]⟩,
  ⟨"_law_is_paper", topS 59, ["rule", "value", "part"]⟩,
  ⟨"_law_known", topS 60, ["one", "two"]⟩,
  ⟨"_law_stock", topS 61, ["spring", "rule", "many", "count"]⟩,
  ⟨"_law_next", topS 62, ["rule", "stock", "move", "ahead", "after", "toll", "found", "leaf"]⟩,
  ⟨"_law_row", topS 63, ["spring", "rule", "stock", "row", "total", "moves", "turn", "some", "move"]⟩,
  ⟨"_law_good", topS 64, ["spring", "rule", "stock", "whole", "at", "many", "some", "move", "due", "row"]⟩,
  ⟨"_law_refused", topS 65, ["rule", "stock", "odds", "odd", "calls", "move"]⟩,
  ⟨"_law_written", topS 66, ["one", "two", "three", "four", "found", "due", "calls"]⟩,
  ⟨"law", topS 67, ["script", "k", "spring", "rule", "turn"]⟩]
def defs : List DefT := defs0 ++ defs1 ++ defs2
def L : LawT := ⟨prog, conTab, defs, some (topS 47, kinT0), ["LeafError"], ["_law_good", "_law_refused", "_law_written"]⟩
def loose0 : List Str := ["LeafError", "InvalidRule", "InvalidDeed", "InvalidKinds", "InvalidPaper", "InvalidStock", "InvalidNumber", "InvalidIndex", "Impossible", "NoNeighbour", "Unlike", "NothingToUndo", "TooMany", "InvalidText", "is_whole", "is_split", "are_tolls", "is_right_rule", "need_rule", "thirds"]
def loose1 : List Str := ["put_change", "take_change", "change_of", "deeds_of", "is_right_deed", "need_deed", "need_stock", "need_row", "behind", "keys_in", "can", "keys", "done", "played", "_law_spring", "_law_pick", "_law_chosen", "_law_drawn", "_law_moves", "_law_turn"]
def loose2 : List Str := ["_law_kin", "_law_came", "_law_all_say", "_law_kind", "_law_twins", "_law_low", "_law_is_fraction", "_law_sum", "_law_shown", "_law_left", "_law_mean", "_law_is_round", "_law_is_paper", "_law_known", "_law_stock", "_law_next", "_law_row", "_law_good", "_law_refused", "_law_written"]
def loose3 : List Str := ["SPLITS", "MOST_DEEDS", "MOST_LEAVES"]
def loose : List Str := loose0 ++ loose1 ++ loose2 ++ loose3
abbrev law_ix : Nat := 67
abbrev rw : PySem.W.OpenLaw := PySem.Challenge.rw_leaftoll_k07_whole_stocks_led_by_deeds
end LT.K07
set_option Elab.async false
set_option linter.all false
set_option maxRecDepth 100000
/-! printed by irp2.py: instances -/
namespace LT.K07
open PySem LT

instance : HasC prog "SPLITS" splitsD := ⟨rfl⟩
instance : HasC prog "MOST_DEEDS" (.int 90) := ⟨rfl⟩
instance : HasC prog "MOST_LEAVES" (.int 1000000000000) := ⟨rfl⟩
instance : HasX prog "InvalidRule" none := ⟨by kernel_rfl⟩
instance : XK prog "InvalidRule" "rule value" := ⟨by kernel_rfl, by kernel_rfl, by kernel_rfl⟩
instance : HasX prog "InvalidDeed" none := ⟨by kernel_rfl⟩
instance : XK prog "InvalidDeed" "deed value" := ⟨by kernel_rfl, by kernel_rfl, by kernel_rfl⟩
instance : HasX prog "InvalidKinds" none := ⟨by kernel_rfl⟩
instance : XK prog "InvalidKinds" "kinds value" := ⟨by kernel_rfl, by kernel_rfl, by kernel_rfl⟩
instance : HasX prog "InvalidPaper" none := ⟨by kernel_rfl⟩
instance : XK prog "InvalidPaper" "paper value" := ⟨by kernel_rfl, by kernel_rfl, by kernel_rfl⟩
instance : HasX prog "InvalidStock" none := ⟨by kernel_rfl⟩
instance : XK prog "InvalidStock" "stock value" := ⟨by kernel_rfl, by kernel_rfl, by kernel_rfl⟩
instance : HasX prog "InvalidNumber" none := ⟨by kernel_rfl⟩
instance : XK prog "InvalidNumber" "number value" := ⟨by kernel_rfl, by kernel_rfl, by kernel_rfl⟩
instance : HasX prog "InvalidIndex" none := ⟨by kernel_rfl⟩
instance : XK prog "InvalidIndex" "index value" := ⟨by kernel_rfl, by kernel_rfl, by kernel_rfl⟩
instance : HasX prog "Impossible" none := ⟨by kernel_rfl⟩
instance : XK prog "Impossible" "impossible value" := ⟨by kernel_rfl, by kernel_rfl, by kernel_rfl⟩
instance : HasX prog "NoNeighbour" none := ⟨by kernel_rfl⟩
instance : XK prog "NoNeighbour" "alone value" := ⟨by kernel_rfl, by kernel_rfl, by kernel_rfl⟩
instance : HasX prog "Unlike" none := ⟨by kernel_rfl⟩
instance : XK prog "Unlike" "unlike value" := ⟨by kernel_rfl, by kernel_rfl, by kernel_rfl⟩
instance : HasX prog "NothingToUndo" none := ⟨by kernel_rfl⟩
instance : XK prog "NothingToUndo" "undo value" := ⟨by kernel_rfl, by kernel_rfl, by kernel_rfl⟩
instance : HasX prog "TooMany" (some "limit") := ⟨by kernel_rfl⟩
instance : XK prog "TooMany" "many value" := ⟨by kernel_rfl, by kernel_rfl, by kernel_rfl⟩
instance : HasX prog "InvalidText" (some "line") := ⟨by kernel_rfl⟩
instance : XK prog "InvalidText" "text value" := ⟨by kernel_rfl, by kernel_rfl, by kernel_rfl⟩
instance : HasL prog 0 lam0 := ⟨rfl⟩
instance : HasL prog 1 lam1 := ⟨rfl⟩
instance : HasL prog 2 lam2 := ⟨rfl⟩
instance : HasL prog 3 lam3 := ⟨rfl⟩
instance : HasL prog 4 lam4 := ⟨rfl⟩
instance : HasL prog 5 lam5 := ⟨rfl⟩
instance : HasL prog 6 lam6 := ⟨rfl⟩
instance : HasL prog 7 lam7 := ⟨rfl⟩
instance : HasL prog 8 lam8 := ⟨rfl⟩
instance : HasL prog 9 lam9 := ⟨rfl⟩
instance : HasL prog 10 lam10 := ⟨rfl⟩
instance : HasL prog 11 lam11 := ⟨rfl⟩
instance : HasL prog 12 lam12 := ⟨rfl⟩
instance : HasL prog 13 lam13 := ⟨rfl⟩
instance : HasL prog 14 lam14 := ⟨rfl⟩
end LT.K07
set_option Elab.async false
set_option linter.all false
set_option maxRecDepth 100000
set_option maxHeartbeats 4000000
/-! k07: stocks, rows. -/
namespace LT.K07
open PySem LT
local macro_rules | `(tactic| walk_at "ev") => `(tactic| try simp only [at_with, runFd, List.length_cons, List.length_nil, if_true, if_false, Bool.false_eq_true, startE, List.map_cons, List.map_nil, List.cons_append, List.nil_append, Nat.add_one_sub_one, Nat.sub_self, Nat.reduceAdd, Nat.reduceSub, List.replicate_zero, List.replicate_succ, evalB, evalS, evalE, evalT, evalI, evP, evPs, evPO, evPI, Ev.mk', evEs, evAnd, evOr, evTAnd, evTOr, evO, evC, Res.b_ok, Res.b_exc, Res.b_bad, Res.toS_ok, Res.toS_exc, RS.next_nx, RS.next_rt, RS.next_exc, List.getElem?_cons_zero, List.getElem?_cons_succ, Option.join_some, at_callE, at_inC, at_bndC', List.set_cons_zero, List.set_cons_succ, bindT_name, bindT_tup, setAll_cons, setAll_nil, at_gcon])
local macro_rules | `(tactic| walk_at "st") => `(tactic| try simp only [Res.toS_sat, RS.next_sat, Res.sat_bind, outOf_satE, Res.sat_ok, RS.sat_nx, RS.sat_rt, List.getElem?_cons_zero, List.getElem?_cons_succ, Option.join_some, List.set_cons_zero, List.set_cons_succ, truthD_bl, truthD_int, truthD_non, truthD_tup, truthD_lst])
local macro_rules | `(tactic| walk_at "evL") => `(tactic| try simp only [atL_eq, runFd, List.length_cons, List.length_nil, if_true, if_false, Bool.false_eq_true, startE, List.map_cons, List.map_nil, List.cons_append, List.nil_append, Nat.add_one_sub_one, Nat.sub_self, Nat.reduceAdd, Nat.reduceSub, List.replicate_zero, List.replicate_succ, evalB, evalS, evalE, evalT, evalI, evP, evPs, evPO, evPI, Ev.mk', evEs, evAnd, evOr, evTAnd, evTOr, evO, evC, Res.b_ok, Res.b_exc, Res.b_bad, Res.toS_ok, Res.toS_exc, RS.next_nx, RS.next_rt, RS.next_exc, List.getElem?_cons_zero, List.getElem?_cons_succ, Option.join_some, atL_callE, atL_inC, atL_bndC, atL_lm, at_callE, at_inC, at_bndC', List.set_cons_zero, List.set_cons_succ, bindT_name, bindT_tup, setAll_cons, setAll_nil, atL_con, at_gcon])
abbrev p := prog
variable {n : Nat} {S S0 : Sto} {k : Nat}
/-- a stock of the rule, small enough -/
structure StkM (R : Rl) (xs : List Int) : Prop where
  len : (xs.length : Int) = R.room - R.low + 1
  bd : ∀ x ∈ xs, 0 ≤ x ∧ x ≤ 1000000000000
theorem StkM.ok {R : Rl} {xs : List Int} (h : StkM R xs) : stockB R (.tup (intsD xs)) = true := stockB_ints ⟨h.len, fun x hx => (h.bd x hx).1⟩ fun x hx => (h.bd x hx).2
theorem StkM.l8 {R : Rl} {xs : List Int} (h : StkM R xs) (hR : R.Ok) : xs.length ≤ 8 := by
  have := h.len; have := hR.r2; have := hR.l1; omega
theorem rng_get {lo : Int} {m i : Nat} {d : D} (h : ((List.range m).map fun (i : Nat) => D.int (lo + (i : Int)))[i]? = some d) : i < m ∧ d = .int (lo + (i : Int)) := by
  rw [List.getElem?_map] at h
  by_cases hi : i < m
  · rw [List.getElem?_range hi] at h
    simp at h
    exact ⟨hi, h.symm⟩
  · rw [List.getElem?_eq_none (by simp; omega)] at h
    simp at h
theorem c_law_stock {R : Rl} (h : R.Ok) (hs : Spr k S0 S) : ((p.at (n + 4)).call "_law_stock" [.cell k, R.d] S).Sat fun d S' => ∃ xs, d = .tup (intsD xs) ∧ StkM R xs ∧ Spr k S0 S' := by
  have r2 := h.r2; have l1 := h.l1; have r1 := h.r1; have l2 := h.l2
  rw [at_call, runFd_eq rfl rfl at_lm]
  simp only [fd_law_stock, ir_law_stock]
  rw [outOf_satE]
  have k0 : ∀ S, idxD R.d (.int 0) S = .ok (.int R.room) S := fun S => idx_tup0
  have k1 : ∀ S, idxD R.d (.int 1) S = .ok (.int R.low) S := fun S => idx_tup1
  have pw : ∀ S, binD .pow (.int 10) (.int 12) S = .ok (.int 1000000000000) S := fun S => by rfl
  refine seq_sat (fun env S' => ∃ m : Int, 0 < m ∧ m ≤ 1000000000001 ∧ env = [some (.cell k), some R.d, some (.int m), none] ∧ Spr k S0 S') ?_ ?_
  · walk_at "ev"
    simp only [pw, Res.b_ok, bin_add_int]
    walk_at "ev"
    walk_at "st"
    refine (c_chosen (n := n + 1) (by simp) (by simp) hs).mono ?_
    rintro d S' ⟨hd, h'⟩
    simp only [List.mem_cons, List.not_mem_nil, or_false] at hd
    rcases hd with rfl | rfl | rfl
    · exact ⟨2, by omega, by omega, rfl, h'⟩
    · exact ⟨4, by omega, by omega, rfl, h'⟩
    · exact ⟨_, by omega, by omega, rfl, h'⟩
  rintro _ S1 ⟨m, m0, m1, rfl, h1⟩
  walk_at "ev"
  simp only [k0, k1, Res.b_ok, bin_add_int]
  walk_at "st"
  rw [if_pos (show -2 ^ 62 ≤ R.low ∧ R.low < 2 ^ 62 ∧ -2 ^ 62 ≤ R.room + 1 ∧ R.room + 1 < 2 ^ 62 by omega), Res.sat_ok]
  refine comp_inv (it := .rng R.low (R.room + 1 - R.low).toNat) (ds := (List.range (R.room + 1 - R.low).toNat).map fun (i : Nat) => .int (R.low + (i : Int))) rfl (fun i acc S' => ∃ xs, acc = intsD xs ∧ xs.length = i ∧ (∀ x ∈ xs, 0 ≤ x ∧ x ≤ 1000000000000) ∧ Spr k S0 S') ?_ ?_ _ 0 [] _ (Nat.zero_le _) (by simp [Itr.count]) ⟨[], rfl, rfl, by simp, h1⟩
  · rintro i d acc S' hd ⟨xs, rfl, rfl, hx, h'⟩
    obtain ⟨_, rfl⟩ := rng_get hd
    refine ⟨_, rfl, ?_⟩
    walk_at "st"
    rw [Res.calm_ok, Res.sat_ok, if_pos rfl, Res.calm_sat]
    simp
    walk_at "st"
    refine (c_pick (n := n + 2) m0 (by omega) h').mono ?_
    rintro _ S2 ⟨r, rfl, r0, r1, h2⟩
    refine ⟨xs ++ [r], by simp [intsD], by simp, fun x hx' => ?_, h2⟩
    rcases List.mem_append.mp hx' with z | z
    · exact hx x z
    · rw [List.mem_singleton.mp z]; omega
  · rintro acc S' ⟨xs, rfl, hl, hx, h'⟩
    have hl2 : xs.length = (R.room + 1 - R.low).toNat := by rw [hl]; simp
    have hz : (intsD xs).length ≤ 16777216 := by simp [intsD]; omega
    simp [endC, hz]
    exact ⟨xs, rfl, ⟨by omega, hx⟩, h'⟩
/-- the words of a row -/
def dueD : Option (List Int × Int) → D
  | some (ys, t) => .tup [.tup [.tup (intsD ys), .int t], .str ""]
  | none => .tup [.non, .str "impossible value"]
theorem mem_put {R : Rl} {all : Bool} {c : Int} (h1 : R.low ≤ c) (h2 : c < R.room) : put1 c ∈ R.moves all := by
  unfold Rl.moves movesD
  refine List.mem_append_left _ (List.mem_append_left _ (List.mem_map.mpr ⟨(c - R.low).toNat, List.mem_range.mpr (by omega), ?_⟩))
  have : R.low + ((c - R.low).toNat : Int) = c := by omega
  rw [this]
theorem c_law_row {R : Rl} (h : R.Ok) {xs : List Int} (hx : (xs.length : Int) = R.room - R.low + 1) (hs : Spr k S0 S) : ((p.at (n + 4)).call "_law_row" [.cell k, R.d, .tup (intsD xs)] S).Sat fun d S' => ∃ ds, d = .tup [.tup ds, dueD (R.play xs 0 ds)] ∧ (∀ d ∈ ds, d ∈ R.moves true) ∧ ds.length ≤ 90 ∧ Spr k S0 S' := by
  have r2 := h.r2; have l1 := h.l1; have r1 := h.r1; have l2 := h.l2
  have mo : ∀ S, (p.at (n + 3)).call "_law_moves" [R.d, .str "all"] S = .ok (.lst (R.moves true)) S := fun S => c_law_moves (n := n + 2) h true
  obtain ⟨m1, m2, m3, m4⟩ := movesD_fit (part := R.kind == "part") (all := true) h.r2 h.l1
  have ms1 : D.deeps (R.moves true) = true := by simpa [D.deep, Rl.moves] using m1
  have ms3 : D.deps (R.moves true) ≤ 62 := by simp only [D.dep] at m2; have : D.deps (R.moves true) + 1 ≤ 2 := m2; omega
  have nx : ∀ ys : List Int, ys.length = xs.length → ∀ d ∈ R.moves true, ∀ S, (p.at (n + 3)).call "_law_next" [R.d, .tup (intsD ys), d] S = .ok (behD (R.beh ys d)) S := fun ys hy d hd S => c_law_next (n := n + 1) h hd (by rw [hy]; exact hx)
  have tu : ∀ d ∈ R.moves true, ∀ S, (p.at (n + 3)).call "_law_turn" [R.d, d] S = .ok (trioL (R.turn d)) S := fun d hd S => c_law_turn (n := n + 2) h hd
  have mne : R.moves true ≠ [] := by
    have : put1 R.low ∈ R.moves true := mem_put (by omega) (by omega)
    exact List.ne_nil_of_mem this
  rw [at_call, runFd_eq rfl rfl at_lm]
  simp only [fd_law_row, ir_law_row]
  rw [outOf_satE]
  refine seq_sat (fun env S' => env = [some (.cell k), some R.d, some (.tup (intsD xs)), some (.tup []), some (.int 0), some (.lst (R.moves true)), none, none, none] ∧ S = S') ?_ ?_
  · walk_at "ev"
    simp [mo]
  rintro _ _ ⟨rfl, rfl⟩
  refine seq_sat (fun env S' => ∃ ds ys t e6 e7 e8, env = [some (.cell k), some R.d, some (.tup (intsD ys)), some (.tup ds), some (.int t), some (.lst (R.moves true)), e6, e7, e8] ∧ R.play xs 0 ds = some (ys, t) ∧ (∀ d ∈ ds, d ∈ R.moves true) ∧ ds.length ≤ 90 ∧ Spr k S0 S') ?_ ?_
  · rw [evalS]
    have ei : (evalI (p.at (n + 3)) (.range1 (.call "_law_pick" [.var 0, .int 30])) [some (.cell k), some R.d, some (.tup (intsD xs)), some (.tup []), some (.int 0), some (.lst (R.moves true)), none, none, none] S).Sat fun J S' => ∃ m : Nat, m < 30 ∧ J = .rng 0 m ∧ Spr k S0 S' := by
      walk_at "ev"
      walk_at "st"
      refine (c_pick (n := n + 2) (by omega) (by omega) hs).mono ?_
      rintro _ S2 ⟨r, rfl, r0, r1, h2⟩
      dsimp only
      rw [if_pos (by omega)]
      exact ⟨r.toNat, by omega, rfl, h2⟩
    rw [Res.toS_sat]
    refine ei.mono ?_
    rintro _ S1 ⟨m, hm, rfl, h1⟩
    refine for_inv0 (ds := (List.range m).map fun (i : Nat) => .int (0 + (i : Int))) rfl (fun i env S' => ∃ ds ys t e6 e7 e8, env = [some (.cell k), some R.d, some (.tup (intsD ys)), some (.tup ds), some (.int t), some (.lst (R.moves true)), e6, e7, e8] ∧ R.play xs 0 ds = some (ys, t) ∧ (∀ d ∈ ds, d ∈ R.moves true) ∧ ds.length = i ∧ Spr k S0 S') ⟨[], xs, 0, none, none, none, rfl, rfl, by simp, rfl, h1⟩ ?_ ?_
    · rintro i q env S' hq ⟨ds, ys, t, e6, e7, e8, rfl, hp, hds, rfl, h'⟩
      obtain ⟨hi, rfl⟩ := rng_get hq
      have yl := play_len hp
      refine ⟨_, bindT_name, ?_⟩
      simp only [List.set_cons_zero, List.set_cons_succ]
      refine seq_sat (fun env S2 => env = [some (.cell k), some R.d, some (.tup (intsD ys)), some (.tup ds), some (.int t), some (.lst (R.moves true)), some (.int (0 + (ds.length : Int))), some (.lst ((R.moves true).filter fun d => (R.beh ys d).isSome)), e8] ∧ S' = S2) ?_ ?_
      · walk_at "ev"
        simp only [srcD_lst, Res.b_ok]
        rw [comp_eq (ds := R.moves true) rfl (fun d => (R.beh ys d).isSome) id (fun d hd => ?_)]
        · have hz : ((R.moves true).filter fun d => (R.beh ys d).isSome).length ≤ 16777216 := Nat.le_trans (List.length_filter_le _ _) (Nat.le_trans (moves_len h) (by decide))
          simp [hz]
        · refine ⟨_, rfl, ?_, fun _ => rfl⟩
          simp [nx ys yl d hd, isNon_beh, Option.not_isNone]
      rintro _ _ ⟨rfl, rfl⟩
      generalize hfl : (R.moves true).filter (fun d => (R.beh ys d).isSome) = fl
      have fls : ∀ d ∈ fl, d ∈ R.moves true := fun d hd => by rw [← hfl] at hd; exact (List.mem_filter.mp hd).1
      have fl1 : D.deeps fl = true := D.deeps_iff.mpr fun d hd => D.deeps_iff.mp ms1 d (fls d hd)
      have fl2 : D.deps fl ≤ 63 := Nat.le_trans (D.deps_le.mpr fun d hd => D.deps_le.mp ms3 d (fls d hd)) (by decide)
      have fll : fl.length ≤ 1000 := by rw [← hfl]; exact Nat.le_trans (List.length_filter_le _ _) (moves_len h)
      have mll := moves_len h
      refine seq_sat (fun env S2 => ∃ d, d ∈ R.moves true ∧ env = [some (.cell k), some R.d, some (.tup (intsD ys)), some (.tup ds), some (.int t), some (.lst (R.moves true)), some (.int (0 + (ds.length : Int))), some (.lst fl), some d] ∧ Spr k S0 S2) ?_ ?_
      · walk_at "ev"
        simp only [cmp_eq, eq_nil fl1 fl2]
        walk_at "ev"
        cases hne : fl.isEmpty with
        | true =>
          simp
          walk_at "st"
          refine (c_chosen (n := n + 1) mne (by omega) h').mono ?_
          rintro d S2 ⟨hd, h2⟩
          exact ⟨d, hd, rfl, h2⟩
        | false =>
          have fne : fl ≠ [] := fun z => by rw [z] at hne; cases hne
          simp
          walk_at "st"
          refine (c_pick (n := n + 2) (m := 25) (by omega) (by omega) h').mono ?_
          rintro _ S2 ⟨r, rfl, r0, r1, h2⟩
          by_cases hr : r = 0
          · simp [hr, eq_int]
            walk_at "st"
            refine (c_chosen (n := n + 1) mne (by omega) h2).mono ?_
            rintro d S2 ⟨hd, h2⟩
            exact ⟨d, hd, rfl, h2⟩
          · simp [hr, eq_int]
            walk_at "st"
            refine (c_chosen (n := n + 1) fne (by omega) h2).mono ?_
            rintro d S2 ⟨hd, h2⟩
            exact ⟨d, fls d hd, rfl, h2⟩
      rintro _ S2 ⟨d, hd, rfl, h2⟩
      have pl : R.play xs 0 (ds ++ [d]) = match R.beh ys d with | some zs => some (zs, t + (R.turn d).2.2) | none => none := by
        rw [play_app, hp]
        simp only [Rl.play]
        cases R.beh ys d <;> rfl
      refine seq_sat (fun env S3 => env = [some (.cell k), some R.d, some (.tup (intsD ys)), some (.tup (ds ++ [d])), some (.int (t + (R.turn d).2.2)), some (.lst (R.moves true)), some (.int (0 + (ds.length : Int))), some (.lst fl), some d] ∧ S2 = S3) ?_ ?_
      · walk_at "ev"
        have hz : ds.length + 1 ≤ 16777216 := by omega
        simp [bin_add_tup (a := ds) (b := [d]) (by simpa using hz), tu d hd, trioL]
      rintro _ _ ⟨rfl, rfl⟩
      refine seq_sat (fun env S3 => env = [some (.cell k), some R.d, some (behD (R.beh ys d)), some (.tup (ds ++ [d])), some (.int (t + (R.turn d).2.2)), some (.lst (R.moves true)), some (.int (0 + (ds.length : Int))), some (.lst fl), some d] ∧ S2 = S3) ?_ ?_
      · walk_at "ev"
        simp [nx ys yl d hd]
      rintro _ _ ⟨rfl, rfl⟩
      have hds2 : ∀ x ∈ ds ++ [d], x ∈ R.moves true := fun x hx => by
        rcases List.mem_append.mp hx with z | z
        · exact hds x z
        · rw [List.mem_singleton.mp z]; exact hd
      walk_at "ev"
      rw [isNon_beh]
      cases hb : R.beh ys d with
      | none =>
        rw [hb] at pl
        simp
        exact ⟨_, ⟨rfl, by rw [pl]; rfl⟩, hds2, by simp; omega, h2⟩
      | some zs =>
        rw [hb] at pl
        simp
        exact ⟨_, _, _, ⟨rfl, rfl, rfl⟩, pl, hds2, by simp, h2⟩
    · rintro env S' ⟨ds, ys, t, e6, e7, e8, rfl, hp, hds, hl, h'⟩
      exact ⟨ds, ys, t, e6, e7, e8, rfl, hp, hds, by rw [hl]; simp; omega, h'⟩
  rintro _ S2 ⟨ds, ys, t, e6, e7, e8, rfl, hp, hds, hl, h'⟩
  walk_at "ev"
  exact ⟨ds, by rw [hp]; rfl, hds, hl, h'⟩
end LT.K07
set_option Elab.async false
set_option linter.all false
set_option maxRecDepth 100000
set_option maxHeartbeats 4000000
/-! k07: what is right. -/
namespace LT.K07
open PySem LT
local macro_rules | `(tactic| walk_at "ev") => `(tactic| try simp only [at_with, runFd, List.length_cons, List.length_nil, if_true, if_false, Bool.false_eq_true, startE, List.map_cons, List.map_nil, List.cons_append, List.nil_append, Nat.add_one_sub_one, Nat.sub_self, Nat.reduceAdd, Nat.reduceSub, List.replicate_zero, List.replicate_succ, evalB, evalS, evalE, evalT, evalI, evP, evPs, evPO, evPI, Ev.mk', evEs, evAnd, evOr, evTAnd, evTOr, evO, evC, Res.b_ok, Res.b_exc, Res.b_bad, Res.toS_ok, Res.toS_exc, RS.next_nx, RS.next_rt, RS.next_exc, List.getElem?_cons_zero, List.getElem?_cons_succ, Option.join_some, at_callE, at_inC, at_bndC', List.set_cons_zero, List.set_cons_succ, bindT_name, bindT_tup, setAll_cons, setAll_nil, at_gcon])
local macro_rules | `(tactic| walk_at "st") => `(tactic| try simp only [Res.toS_sat, RS.next_sat, Res.sat_bind, outOf_satE, Res.sat_ok, RS.sat_nx, RS.sat_rt, List.getElem?_cons_zero, List.getElem?_cons_succ, Option.join_some, List.set_cons_zero, List.set_cons_succ, truthD_bl, truthD_int, truthD_non, truthD_tup, truthD_lst])
local macro_rules | `(tactic| walk_at "evL") => `(tactic| try simp only [atL_eq, runFd, List.length_cons, List.length_nil, if_true, if_false, Bool.false_eq_true, startE, List.map_cons, List.map_nil, List.cons_append, List.nil_append, Nat.add_one_sub_one, Nat.sub_self, Nat.reduceAdd, Nat.reduceSub, List.replicate_zero, List.replicate_succ, evalB, evalS, evalE, evalT, evalI, evP, evPs, evPO, evPI, Ev.mk', evEs, evAnd, evOr, evTAnd, evTOr, evO, evC, Res.b_ok, Res.b_exc, Res.b_bad, Res.toS_ok, Res.toS_exc, RS.next_nx, RS.next_rt, RS.next_exc, List.getElem?_cons_zero, List.getElem?_cons_succ, Option.join_some, atL_callE, atL_inC, atL_bndC, atL_lm, at_callE, at_inC, at_bndC', List.set_cons_zero, List.set_cons_succ, bindT_name, bindT_tup, setAll_cons, setAll_nil, atL_con, at_gcon])
variable {n : Nat} {S S0 : Sto} {k : Nat}
theorem twin_refl {m : Nat} {d : D} (h1 : d.dep ≤ m) (h2 : d.deep = true) (h3 : d.lens = true) : (p.at (n + m + 2)).call "_law_twins" [d, d] S = .ok (.bl true) S := by
  have z := c_twins (p := p) (n := n) (S := S) m h1 h2 h2 h3
  rwa [decide_eq_true rfl] at z
/-- what done comes to -/
def doneD : Option (List Int) → D
  | some ys => .tup [.tup (intsD ys), .str ""]
  | none => .tup [.non, .str "impossible value"]
theorem behD_deep {o : Option (List Int)} : (behD o).deep = true := by cases o <;> simp [behD, D.deep, deep_ints]
theorem doneD_fit {o : Option (List Int)} (h : ∀ ys, o = some ys → ys.length ≤ 1000) : (doneD o).deep = true ∧ (doneD o).dep ≤ 2 ∧ (doneD o).lens = true := by
  have s1 : PyData.strOk "" = true := strOk_all _
  have s2 : PyData.strOk "impossible value" = true := strOk_all _
  cases o with
  | none => simp [doneD, D.deep, D.deeps, D.dep, D.deps, D.lens, D.lenss, s2]
  | some ys =>
    have d1 := deps_ints (l := ys)
    have e1 : (intsD ys).length ≤ 16777216 := by have := h ys rfl; simp [intsD]; omega
    refine ⟨by simp [doneD, D.deep, D.deeps, deep_ints, s1], by simp only [doneD, D.dep, D.deps]; omega, by simp [doneD, D.lens, D.lenss, lens_ints, e1]⟩
theorem dueD_fit {o : Option (List Int × Int)} (h : ∀ ys t, o = some (ys, t) → ys.length ≤ 1000) : (dueD o).deep = true ∧ (dueD o).dep ≤ 3 ∧ (dueD o).lens = true := by
  have s1 : PyData.strOk "" = true := strOk_all _
  have s2 : PyData.strOk "impossible value" = true := strOk_all _
  cases o with
  | none => simp [dueD, D.deep, D.deeps, D.dep, D.deps, D.lens, D.lenss, s2]
  | some q =>
    obtain ⟨ys, t⟩ := q
    have d1 := deps_ints (l := ys)
    have e1 : (intsD ys).length ≤ 16777216 := by have := h ys t rfl; simp [intsD]; omega
    refine ⟨by simp [dueD, D.deep, D.deeps, deep_ints, s1], by simp only [dueD, D.dep, D.deps]; omega, by simp [dueD, D.lens, D.lenss, lens_ints, e1]⟩
theorem c_good {R : Rl} (h : R.Ok) (hs : Spr k S0 S) : ((p.at (n + 12)).call "_law_good" [.cell k, R.d] S).Sat fun d S' => d = .bl true ∧ Spr k S0 S' := by
  have gR := rl_gd h
  have r2 := h.r2; have l1 := h.l1; have r1 := h.r1; have l2 := h.l2
  have k1 : ∀ S, idxD R.d (.int 1) S = .ok (.int R.low) S := fun S => idx_tup1
  have mo : ∀ S, (p.at (n + 11)).call "_law_moves" [R.d, .str "all"] S = .ok (.lst (R.moves true)) S := fun S => c_law_moves (n := n + 10) h true
  obtain ⟨m1, m2, m3, m4⟩ := movesD_fit (part := R.kind == "part") (all := true) h.r2 h.l1
  have ms1 : D.deeps (R.moves true) = true := by simpa [D.deep, Rl.moves] using m1
  have ms2 : D.nobs (R.moves true) = true := by simpa [D.nob, Rl.moves] using m4
  have ms3 : D.deps (R.moves true) ≤ 1 := by simp only [D.dep] at m2; have : D.deps (R.moves true) + 1 ≤ 2 := m2; omega
  have ms4 : D.lenss (R.moves true) = true := by simp only [D.lens, Bool.and_eq_true] at m3; exact m3.2
  have mll := moves_len h
  rw [at_call, runFd_eqL rfl rfl rfl]
  refine outOfT_sat ?_
  simp only [fd_law_good, ir_law_good]
  refine seq_sat (fun env S' => ∃ xs, StkM R xs ∧ env = [some (.cell k), some R.d, some (.tup (intsD xs)), some (.int 0), none, none, none, none, none, none] ∧ Spr k S0 S') ?_ ?_
  · walk_at "evL"
    simp only [pubs_cons, pubs_nil, pub_cell, pub_deep gR.deep]
    walk_at "st"
    refine clean_sat ((c_law_stock (n := n + 7) h hs).mono ?_)
    rintro _ S' ⟨xs, rfl, hx, h'⟩
    exact ⟨clean_deep (by simp only [D.deep, deep_ints]), xs, hx, rfl, h'⟩
  rintro _ S1 ⟨xs, hx, rfl, h1⟩
  have hxl := hx.l8 h
  have xd : (D.tup (intsD xs)).deep = true := by simp only [D.deep, deep_ints]
  have nx : ∀ d ∈ R.moves true, ∀ S, (p.at (n + 11)).call "_law_next" [R.d, .tup (intsD xs), d] S = .ok (behD (R.beh xs d)) S := fun d hd S => c_law_next (n := n + 9) h hd hx.len
  refine seq_sat (fun env S' => (∃ e4 e5, env = [some (.cell k), some R.d, some (.tup (intsD xs)), some (.int (keysL R.low xs)), e4, e5, none, none, none, none]) ∧ S1 = S') ?_ ?_
  · rw [evalS]
    have ei : evalI (p.atL (n + 11)) (.enum (.var 2)) [some (.cell k), some R.d, some (.tup (intsD xs)), some (.int 0), none, none, none, none, none, none] S1 = .ok (.enum (.fix (intsD xs))) S1 := by
      walk_at "evL"
      simp
    rw [ei, Res.toS_ok]
    refine for_inv0 (ds := ((intsD xs).zipIdx).map fun x => .tup [.int (x.2 : Int), x.1]) rfl (fun i env S' => (∃ e4 e5, env = [some (.cell k), some R.d, some (.tup (intsD xs)), some (.int (keysL R.low (xs.take i))), e4, e5, none, none, none, none]) ∧ S1 = S') ⟨⟨_, _, rfl⟩, rfl⟩ ?_ ?_
    · rintro i q env S' hq ⟨⟨e4, e5, rfl⟩, rfl⟩
      obtain ⟨q', hq', rfl⟩ := zipIdx_get hq
      obtain ⟨x, hx', rfl⟩ := ints_get hq'
      have il : i < xs.length := (List.getElem?_eq_some_iff.mp hx').1
      refine ⟨_, by simp only [bindT_tup, List.length_cons, List.length_nil, if_true, setAll_cons, setAll_nil]; rfl, ?_⟩
      simp only [List.set_cons_zero, List.set_cons_succ]
      have tl : ((xs.take i).length : Int) = (i : Int) := by rw [List.length_take]; omega
      have kt : keysL R.low (xs.take (i + 1)) = keysL R.low (xs.take i) + x * (R.low + i) := by
        rw [take_snoc hx', keysL_app, tl]; simp [keysL]
      walk_at "evL"
      have mu : binD .mul (.int x) (.int (R.low + i)) S1 = .ok (.int (x * (R.low + i))) S1 := bin_mul_int (mulOk_right (by omega))
      simp only [k1, Res.b_ok, bin_add_int, mu, Res.toS_ok, RS.next_nx, RS.sat_nx]
      exact ⟨⟨_, _, by rw [kt]⟩, trivial⟩
    · rintro env S' ⟨⟨e4, e5, rfl⟩, rfl⟩
      have el : (((intsD xs).zipIdx).map fun x => (D.tup [.int (x.2 : Int), x.1])).length = xs.length := by simp [intsD]
      rw [el, List.take_length]
      exact ⟨⟨_, _, rfl⟩, rfl⟩
  rintro _ _ ⟨⟨e4, e5, rfl⟩, rfl⟩
  have no1 : R.d.noOwn = true := noOwn_deep gR.deep
  have no2 : (D.tup (intsD xs)).noOwn = true := noOwn_deep xd
  refine seq_sat (fun env S' => env = [some (.cell k), some R.d, some (.tup (intsD xs)), some (.int (keysL R.low xs)), e4, e5, some (.lst ((R.moves true).filter fun d => (R.beh xs d).isSome)), none, none, none] ∧ S1 = S') ?_ ?_
  · walk_at "evL"
    simp only [pubs_cons, pubs_nil, pub_deep gR.deep, pub_str, mo, Res.b_ok, clean_deep (show (D.lst (R.moves true)).deep = true by simpa only [D.deep] using ms1), if_true]
    walk_at "evL"
    simp only [srcD_lst, Res.b_ok]
    rw [comp_eq (ds := R.moves true) rfl (fun d => (R.beh xs d).isSome) id (fun d hd => ?_)]
    · have hz : ((R.moves true).filter fun d => (R.beh xs d).isSome).length ≤ 16777216 := Nat.le_trans (List.length_filter_le _ _) (Nat.le_trans mll (by decide))
      simp [hz]
    · have nd : d.noOwn = true := noOwn_deep (D.deeps_iff.mp ms1 d hd)
      refine ⟨_, by simp only [nd, if_true]; rfl, ?_, fun _ => rfl⟩
      simp [envL, no1, no2, nx d hd, isNon_beh, Option.not_isNone]
  rintro _ _ ⟨rfl, rfl⟩
  generalize hfl : (R.moves true).filter (fun d => (R.beh xs d).isSome) = fl
  have fls : ∀ d ∈ fl, d ∈ R.moves true := fun d hd => by rw [← hfl] at hd; exact (List.mem_filter.mp hd).1
  have fl1 : D.deeps fl = true := D.deeps_iff.mpr fun d hd => D.deeps_iff.mp ms1 d (fls d hd)
  have fl2 : D.nobs fl = true := D.nobs_iff.mpr fun d hd => D.nobs_iff.mp ms2 d (fls d hd)
  have fl3 : D.deps fl ≤ 1 := D.deps_le.mpr fun d hd => D.deps_le.mp ms3 d (fls d hd)
  have fl4 : D.lenss fl = true := D.lenss_iff.mpr fun d hd => D.lenss_iff.mp ms4 d (fls d hd)
  have fll : fl.length ≤ 1000 := by rw [← hfl]; exact Nat.le_trans (List.length_filter_le _ _) mll
  have fld : (D.lst fl).deep = true := by simpa only [D.deep] using fl1
  have ky : ∀ S, (p.at (n + 11)).call "keys" [R.d, .tup (intsD xs)] S = .ok (.int (keysL R.low xs)) S := fun S => c_keys (n := n + 6) h hx.ok (by omega)
  have cn : ∀ S, (p.at (n + 11)).call "can" [R.d, .tup (intsD xs)] S = .ok (.lst fl) S := fun S => by rw [← hfl]; exact c_can (n := n + 5) h hx.ok (by omega)
  have t1 : ∀ S, (p.at (n + 11)).call "_law_twins" [.int (keysL R.low xs), .int (keysL R.low xs)] S = .ok (.bl true) S := fun S => twin_refl (n := n + 9) (m := 0) (by simp [D.dep]) (by simp [D.deep]) (by simp [D.lens])
  have t2 : ∀ S, (p.at (n + 11)).call "_law_twins" [.lst fl, .lst fl] S = .ok (.bl true) S := fun S => twin_refl (n := n + 7) (m := 2) (by simp only [D.dep]; omega) fld (by simp only [D.lens, fl4, Bool.and_true, decide_eq_true_eq]; omega)
  refine seq_sat (fun env S' => env = [some (.cell k), some R.d, some (.tup (intsD xs)), some (.int (keysL R.low xs)), e4, e5, some (.lst fl), none, none, none] ∧ S1 = S') ?_ ?_
  · walk_at "evL"
    simp only [pubs_cons, pubs_nil, pub_deep gR.deep, pub_deep xd, pub_deep fld, pub_int, ky, cn, t1, t2, Res.b_ok, clean_deep fld, clean_int, clean_bl, if_true, truthD_bl, Bool.not_true, Bool.false_eq_true, if_false]
    simp
  rintro _ _ ⟨rfl, rfl⟩
  have s2 : PyData.strOk "impossible value" = true := strOk_all _
  have s1 : PyData.strOk "" = true := strOk_all _
  refine seq_sat (fun env S' => (∃ e7 e8, env = [some (.cell k), some R.d, some (.tup (intsD xs)), some (.int (keysL R.low xs)), e4, e5, some (.lst fl), e7, e8, none]) ∧ S1 = S') ?_ ?_
  · rw [evalS]
    have ei : evalI (p.atL (n + 11)) (.over (.call "_law_moves" [.var 1, .str "all"])) [some (.cell k), some R.d, some (.tup (intsD xs)), some (.int (keysL R.low xs)), e4, e5, some (.lst fl), none, none, none] S1 = .ok (.one (.fix (R.moves true))) S1 := by
      walk_at "evL"
      simp only [pubs_cons, pubs_nil, pub_deep gR.deep, pub_str, mo, Res.b_ok, clean_deep (show (D.lst (R.moves true)).deep = true by simpa only [D.deep] using ms1), if_true]
      simp
    rw [ei, Res.toS_ok]
    refine for_inv0 (ds := R.moves true) rfl (fun i env S' => (∃ e7 e8, env = [some (.cell k), some R.d, some (.tup (intsD xs)), some (.int (keysL R.low xs)), e4, e5, some (.lst fl), e7, e8, none]) ∧ S1 = S') ⟨⟨_, _, rfl⟩, rfl⟩ ?_ (fun env S' q => q)
    rintro i d env S' hq ⟨⟨e7, e8, rfl⟩, rfl⟩
    have hd := List.mem_of_getElem? hq
    have dd : d.deep = true := D.deeps_iff.mp ms1 d hd
    have dn : d.nob = true := D.nobs_iff.mp ms2 d hd
    have dp : d.dep ≤ 1 := D.deps_le.mp ms3 d hd
    have dfl : decide (d ∈ fl) = (R.beh xs d).isSome := by
      rw [← hfl]
      simp [List.mem_filter, hd]
    refine ⟨_, bindT_name, ?_⟩
    simp only [List.set_cons_zero, List.set_cons_succ]
    have hdo := doneD_fit (o := R.beh xs d) fun ys e => by rw [(beh_pos e).1]; omega
    refine seq_sat (fun env S' => env = [some (.cell k), some R.d, some (.tup (intsD xs)), some (.int (keysL R.low xs)), e4, e5, some (.lst fl), some d, some (doneD (R.beh xs d)), none] ∧ S1 = S') ?_ ?_
    · walk_at "evL"
      rw [in_lst dd dn (by omega) fl1 fl2 (by omega), dfl]
      cases hb : R.beh xs d with
      | none =>
        walk_at "evL"
        simp [doneD]
      | some ys =>
        have nx' := nx d hd S1
        rw [hb] at nx'
        walk_at "evL"
        simp only [pubs_cons, pubs_nil, pub_deep gR.deep, pub_deep xd, pub_deep dd, nx', Res.b_ok, clean_deep (behD_deep (o := some ys)), if_true]
        simp [doneD, behD, pub_deep gR.deep, pub_deep xd, pub_deep dd, nx', pubs_cons]
        have cl : (D.tup (intsD ys)).clean = true := clean_deep (by simp only [D.deep, deep_ints])
        simp [cl]
    rintro _ _ ⟨rfl, rfl⟩
    have cm : (p.at (n + 11)).call "_law_came" [.clo 0 [R.d, .tup (intsD xs), d]] S1 = .ok (doneD (R.beh xs d)) S1 := by
      have e : ∀ S, (p.at (n + 10)).lam 0 [R.d, .tup (intsD xs), d] [] S = runLm (p.at (n + 9)) lam0 [R.d, .tup (intsD xs), d] [] S := fun S => at_lam
      have z := c_done (p := p) (n := n + 3) (S := S1) h dd hx.ok (show xs.length ≤ 1000 by omega)
      rw [if_pos hd] at z
      cases hb : R.beh xs d with
      | none =>
        rw [hb] at z
        refine c_came_exc (n := n + 10) (x := "Impossible") (f := none) ?_
        rw [e]
        simp only [runLm, lam0, List.length_nil, List.length_cons, Nat.zero_add, Nat.reduceAdd, and_self, if_true, List.nil_append, List.map_cons, List.map_nil]
        walk_at "ev"
        exact z
      | some ys =>
        rw [hb] at z
        refine c_came_ok (n := n + 10) ?_
        rw [e]
        simp only [runLm, lam0, List.length_nil, List.length_cons, Nat.zero_add, Nat.reduceAdd, and_self, if_true, List.nil_append, List.map_cons, List.map_nil]
        walk_at "ev"
        exact z
    have tw : ∀ S, (p.at (n + 11)).call "_law_twins" [doneD (R.beh xs d), doneD (R.beh xs d)] S = .ok (.bl true) S := fun S => twin_refl (n := n + 7) (m := 2) hdo.2.1 hdo.1 hdo.2.2
    walk_at "evL"
    have own : D.pub [some (.cell k), some R.d, some (.tup (intsD xs)), some (.int (keysL R.low xs)), e4, e5, some (.lst fl), some d, some (doneD (R.beh xs d)), none] (.own 0 [1, 2, 7]) = some (.clo 0 [R.d, .tup (intsD xs), d]) := by
      rw [pub_own]
      simp [capsOf, clean_deep gR.deep, clean_deep dd, clean_deep xd]
    simp only [pubs_cons, pubs_nil, own, cm, Res.b_ok, clean_deep hdo.1, if_true, pub_deep hdo.1, tw, clean_bl]
    simp
  rintro _ _ ⟨⟨e7, e8, rfl⟩, rfl⟩
  refine seq_sat (fun env S' => ∃ ds, env = [some (.cell k), some R.d, some (.tup (intsD xs)), some (.int (keysL R.low xs)), e4, e5, some (.lst fl), e7, some (dueD (R.play xs 0 ds)), some (.tup ds)] ∧ (∀ d ∈ ds, d ∈ R.moves true) ∧ ds.length ≤ 90 ∧ Spr k S0 S') ?_ ?_
  · walk_at "evL"
    simp only [pubs_cons, pubs_nil, pub_cell, pub_deep gR.deep, pub_deep xd]
    walk_at "st"
    refine clean_sat ((c_law_row (n := n + 7) h hx.len h1).mono ?_)
    rintro _ S' ⟨ds, rfl, hds, hl, h'⟩
    have hdd : D.deeps ds = true := D.deeps_iff.mpr fun d hd => D.deeps_iff.mp ms1 d (hds d hd)
    have hdu := dueD_fit (o := R.play xs 0 ds) fun ys t e => by rw [play_len e]; omega
    refine ⟨clean_deep (by simp [D.deep, D.deeps, hdd, hdu.1]), ?_⟩
    simp
    exact ⟨ds, ⟨rfl, rfl⟩, hds, hl, h'⟩
  rintro _ S2 ⟨ds, rfl, hds, hl, h2⟩
  have hdd : D.deeps ds = true := D.deeps_iff.mpr fun d hd => D.deeps_iff.mp ms1 d (hds d hd)
  have hdd' : (D.tup ds).deep = true := by simpa only [D.deep] using hdd
  have hdu := dueD_fit (o := R.play xs 0 ds) fun ys t e => by rw [play_len e]; omega
  have hrow : rowDB R (.tup ds) = true := by
    simp only [rowDB, Bool.and_eq_true, decide_eq_true_eq, List.all_eq_true]
    exact ⟨hl, hds⟩
  have cm : (p.at (n + 11)).call "_law_came" [.clo 1 [R.d, .tup (intsD xs), .tup ds]] S2 = .ok (dueD (R.play xs 0 ds)) S2 := by
    have e : ∀ S, (p.at (n + 10)).lam 1 [R.d, .tup (intsD xs), .tup ds] [] S = runLm (p.at (n + 9)) lam1 [R.d, .tup (intsD xs), .tup ds] [] S := fun S => at_lam
    have z := c_played (p := p) (n := n + 3) (S := S2) h hdd hrow hx.ok (show xs.length ≤ 1000 by omega)
    cases hb : R.play xs 0 ds with
    | none =>
      rw [hb] at z
      refine c_came_exc (n := n + 10) (x := "Impossible") (f := none) ?_
      rw [e]
      simp only [runLm, lam1, List.length_nil, List.length_cons, Nat.zero_add, Nat.reduceAdd, and_self, if_true, List.nil_append, List.map_cons, List.map_nil]
      walk_at "ev"
      exact z
    | some q =>
      obtain ⟨ys, t⟩ := q
      rw [hb] at z
      refine c_came_ok (n := n + 10) ?_
      rw [e]
      simp only [runLm, lam1, List.length_nil, List.length_cons, Nat.zero_add, Nat.reduceAdd, and_self, if_true, List.nil_append, List.map_cons, List.map_nil]
      walk_at "ev"
      exact z
  have tw : (p.at (n + 11)).call "_law_twins" [dueD (R.play xs 0 ds), dueD (R.play xs 0 ds)] S2 = .ok (.bl true) S2 := twin_refl (n := n + 6) (m := 3) hdu.2.1 hdu.1 hdu.2.2
  walk_at "evL"
  have own : D.pub [some (.cell k), some R.d, some (.tup (intsD xs)), some (.int (keysL R.low xs)), e4, e5, some (.lst fl), e7, some (dueD (R.play xs 0 ds)), some (.tup ds)] (.own 1 [1, 2, 9]) = some (.clo 1 [R.d, .tup (intsD xs), .tup ds]) := by
    rw [pub_own]
    simp [capsOf, clean_deep gR.deep, clean_deep hdd', clean_deep xd]
  simp only [pubs_cons, pubs_nil, own, cm, Res.b_ok, clean_deep hdu.1, if_true, pub_deep hdu.1, tw, clean_bl]
  simp
  exact h2
end LT.K07
set_option Elab.async false
set_option linter.all false
set_option maxRecDepth 100000
set_option maxHeartbeats 4000000
/-! k07: what is refused. -/
namespace LT.K07
open PySem LT
local macro_rules | `(tactic| walk_at "ev") => `(tactic| try simp only [at_with, runFd, List.length_cons, List.length_nil, if_true, if_false, Bool.false_eq_true, startE, List.map_cons, List.map_nil, List.cons_append, List.nil_append, Nat.add_one_sub_one, Nat.sub_self, Nat.reduceAdd, Nat.reduceSub, List.replicate_zero, List.replicate_succ, evalB, evalS, evalE, evalT, evalI, evP, evPs, evPO, evPI, Ev.mk', evEs, evAnd, evOr, evTAnd, evTOr, evO, evC, Res.b_ok, Res.b_exc, Res.b_bad, Res.toS_ok, Res.toS_exc, RS.next_nx, RS.next_rt, RS.next_exc, List.getElem?_cons_zero, List.getElem?_cons_succ, Option.join_some, at_callE, at_inC, at_bndC', List.set_cons_zero, List.set_cons_succ, bindT_name, bindT_tup, setAll_cons, setAll_nil, at_gcon])
local macro_rules | `(tactic| walk_at "st") => `(tactic| try simp only [Res.toS_sat, RS.next_sat, Res.sat_bind, outOf_satE, Res.sat_ok, RS.sat_nx, RS.sat_rt, List.getElem?_cons_zero, List.getElem?_cons_succ, Option.join_some, List.set_cons_zero, List.set_cons_succ, truthD_bl, truthD_int, truthD_non, truthD_tup, truthD_lst])
local macro_rules | `(tactic| walk_at "evL") => `(tactic| try simp only [atL_eq, runFd, List.length_cons, List.length_nil, if_true, if_false, Bool.false_eq_true, startE, List.map_cons, List.map_nil, List.cons_append, List.nil_append, Nat.add_one_sub_one, Nat.sub_self, Nat.reduceAdd, Nat.reduceSub, List.replicate_zero, List.replicate_succ, evalB, evalS, evalE, evalT, evalI, evP, evPs, evPO, evPI, Ev.mk', evEs, evAnd, evOr, evTAnd, evTOr, evO, evC, Res.b_ok, Res.b_exc, Res.b_bad, Res.toS_ok, Res.toS_exc, RS.next_nx, RS.next_rt, RS.next_exc, List.getElem?_cons_zero, List.getElem?_cons_succ, Option.join_some, atL_callE, atL_inC, atL_bndC, atL_lm, at_callE, at_inC, at_bndC', List.set_cons_zero, List.set_cons_succ, bindT_name, bindT_tup, setAll_cons, setAll_nil, atL_con, at_gcon])
variable {n : Nat} {S S0 : Sto} {k : Nat}
theorem word_rule : ("rule value" : Str) = ("rule" : Str) ++ " value" := by decide +kernel
theorem word_deed : ("deed value" : Str) = ("deed" : Str) ++ " value" := by decide +kernel
theorem word_stock : ("stock value" : Str) = ("stock" : Str) ++ " value" := by decide +kernel
theorem word_imp : ("impossible value" : Str) = ("impossible" : Str) ++ " value" := by decide +kernel
open PyProof.Rows L2 in
theorem cut_tail {a : D} {ds : List D} : cutD (a :: ds) (some 1) none = ds := by
  unfold cutD
  have e : HT.sIx (a :: ds).length 0 (some 1) = 1 := by
    show (if (1 : Int) < 0 then ((1 : Int) + ((a :: ds).length : Nat)).toNat else min (1 : Int).toNat (a :: ds).length) = 1
    simp
  rw [e, HT.sIx_none]
  simp
def odds (xs xr : List Int) : List D := [.non, .tup [], .lst (intsD xs), .tup (intsD xr), .tup (intsD xs ++ [.int 0]), .tup (.int (-1) :: intsD xr), .tup (.bl true :: intsD xr)]
def big (xs : List Int) : D := .tup (List.replicate xs.length (.int 1000000000001))
theorem odds_bad {R : Rl} {x : Int} {xr : List Int} (hx : StkM R (x :: xr)) : ∀ v ∈ odds (x :: xr) xr ++ [big (x :: xr)], v.deep = true ∧ stockB R v = false := by
  have hl := hx.len
  simp only [List.length_cons] at hl
  have di := deep_ints (l := xr)
  have di2 := deep_ints (l := x :: xr)
  have il : (intsD xr).length = xr.length := by simp [intsD]
  intro v hv
  simp only [odds, List.cons_append, List.nil_append, List.mem_cons, List.not_mem_nil, or_false] at hv
  rcases hv with rfl | rfl | rfl | rfl | rfl | rfl | rfl | rfl
  · exact ⟨by simp [D.deep], rfl⟩
  · refine ⟨by simp [D.deep, D.deeps], ?_⟩
    have : ¬ (0 = R.room - R.low + 1) := by omega
    simp [stockB, this]
  · exact ⟨by simpa only [D.deep] using di2, rfl⟩
  · refine ⟨by simpa only [D.deep] using di, ?_⟩
    have : ¬ ((xr.length : Int) = R.room - R.low + 1) := by omega
    simp [stockB, il, this]
  · refine ⟨?_, ?_⟩
    · rw [D.deep, D.deeps_iff]
      intro d hd
      rcases List.mem_append.mp hd with z | z
      · exact D.deeps_iff.mp di2 d z
      · rw [List.mem_singleton.mp z]; simp [D.deep]
    · have : ¬ ((xr.length : Int) + 1 + 1 = R.room - R.low + 1) := by omega
      simp [stockB, intsD, this]
  · exact ⟨by simp [D.deep, D.deeps, di], by simp [stockB, isW]⟩
  · exact ⟨by simp [D.deep, D.deeps, di], by simp [stockB, isW]⟩
  · refine ⟨?_, ?_⟩
    · rw [big, D.deep, D.deeps_iff]
      intro d hd
      rw [List.eq_of_mem_replicate hd]; simp [D.deep]
    · simp [big, stockB, isW, List.replicate_succ]
theorem flat_one {a : D} : ∀ {m : Nat}, (List.replicate m [a]).flatten = List.replicate m a
  | 0 => rfl
  | m + 1 => by simp [List.replicate_succ, flat_one (m := m)]
theorem mul_tup {a : D} {z : Int} (h0 : 2 ≤ z) (h : z ≤ 1000) : binD .mul (.tup [a]) (.int z) S = .ok (.tup (List.replicate z.toNat a)) S := by
  show repT [a] (.int z) S = _
  unfold repT
  dsimp only
  rw [if_pos (by simp; omega), flat_one]
theorem say_of {m : Nat} {i : Nat} {l : Lm} [HasL p i l] {caps : List D} {x : Str} {w word : Str} [X : XK p x w] (hw : w = word ++ " value") (h : runLm (p.at m) l caps [] S = .exc ⟨x, none⟩ S) : Says p (m + 1) S word (.clo i caps) :=
  ⟨i, caps, x, none, rfl, ⟨w, X, hw⟩, by rw [at_lam]; exact h⟩
theorem c_refused {R : Rl} (h : R.Ok) {xs : List Int} (hx : StkM R xs) : ((p.at (n + 12)).call "_law_refused" [R.d, .tup (intsD xs)] S).Sat fun d S' => d = .bl true ∧ S = S' := by
  have gR := rl_gd h
  have r2 := h.r2; have l1 := h.l1; have r1 := h.r1; have l2 := h.l2
  have k1 : ∀ S, idxD R.d (.int 1) S = .ok (.int R.low) S := fun S => idx_tup1
  have xd : (D.tup (intsD xs)).deep = true := by simp only [D.deep, deep_ints]
  have hxl := hx.l8 h
  have hlen := hx.len
  have pw : ∀ S, binD .pow (.int 10) (.int 12) S = .ok (.int 1000000000000) S := fun S => by rfl
  have sp : PyData.strOk "put" = true := strOk_lit _
  have st : PyData.strOk "take" = true := strOk_lit _
  obtain ⟨x, xr, rfl⟩ : ∃ x xr, xs = x :: xr := by
    cases xs with
    | nil => simp at hlen; omega
    | cons a b => exact ⟨a, b, rfl⟩
  have bad := odds_bad hx
  have ix : intsD (x :: xr) = .int x :: intsD xr := rfl
  rw [at_call, runFd_eqL rfl rfl rfl]
  refine outOfT_sat ?_
  simp only [fd_law_refused, ir_law_refused]
  refine seq_sat (fun env S' => env = [some R.d, some (.tup (intsD (x :: xr))), some (.lst (odds (x :: xr) xr)), none, none, none] ∧ S = S') ?_ ?_
  · walk_at "evL"
    have b1 : ∀ S, binD .add (.tup (intsD (x :: xr))) (.tup [.int 0]) S = .ok (.tup (intsD (x :: xr) ++ [.int 0])) S := fun S => bin_add_tup (by simp [intsD]; simp at hxl; omega)
    have b2 : ∀ a S, binD .add (.tup [a]) (.tup (intsD xr)) S = .ok (.tup (a :: intsD xr)) S := fun a S => bin_add_tup (by simp [intsD]; simp at hxl; omega)
    simp only [bi_lst_tup, sl_tup, b1, Res.b_ok]
    simp only [ix, cut_tail]
    walk_at "evL"
    simp [b2, odds, ix]
  rintro _ _ ⟨rfl, rfl⟩
  refine seq_sat (fun env S' => (∃ e3 e4, env = [some R.d, some (.tup (intsD (x :: xr))), some (.lst (odds (x :: xr) xr)), e3, e4, none]) ∧ S = S') ?_ ?_
  · rw [evalS]
    have ei : evalI (p.atL (n + 11)) (.over (.bin .add (.var 2) (.lst false [.bin .mul (.tup [.bin .add (.bin .pow (.int 10) (.int 12)) (.int 1)]) (.bi .len [.var 1])]))) [some R.d, some (.tup (intsD (x :: xr))), some (.lst (odds (x :: xr) xr)), none, none, none] S = .ok (.one (.fix (odds (x :: xr) xr ++ [big (x :: xr)]))) S := by
      walk_at "evL"
      have b3 : binD .mul (.tup [.int (1000000000000 + 1)]) (.int ((intsD (x :: xr)).length : Int)) S = .ok (big (x :: xr)) S := by
        have e : (intsD (x :: xr)).length = (x :: xr).length := by simp [intsD]
        rw [e, mul_tup (by omega) (by omega)]
        rfl
      simp only [pw, Res.b_ok, bin_add_int]
      walk_at "evL"
      simp only [len_tup, Res.b_ok, b3]
      walk_at "evL"
      rw [bin_add_lst (by simp [odds])]
      simp
    rw [ei, Res.toS_ok]
    refine for_inv0 (ds := odds (x :: xr) xr ++ [big (x :: xr)]) rfl (fun i env S' => (∃ e3 e4, env = [some R.d, some (.tup (intsD (x :: xr))), some (.lst (odds (x :: xr) xr)), e3, e4, none]) ∧ S = S') ⟨⟨_, _, rfl⟩, rfl⟩ ?_ (fun env S' q => q)
    rintro i v env S' hq ⟨⟨e3, e4, rfl⟩, rfl⟩
    obtain ⟨b1, b2⟩ := bad v (List.mem_of_getElem? hq)
    refine ⟨_, bindT_name, ?_⟩
    simp only [List.set_cons_zero, List.set_cons_succ]
    have cV := clean_deep b1
    have cR := clean_deep gR.deep
    have own : ∀ (i : Nat) (e4 : Option D), D.pub [some R.d, some (.tup (intsD (x :: xr))), some (.lst (odds (x :: xr) xr)), some v, e4, none] (.own i [0, 3]) = some (.clo i [R.d, v]) := by
      intro i e4
      rw [pub_own]
      simp [capsOf, cR, cV]
    have say : (p.at (n + 11)).call "_law_all_say" [.lst [.clo 2 [R.d, v], .clo 3 [R.d, v], .clo 4 [R.d, v], .clo 5 [R.d, v]], .str "stock"] S = .ok (.bl true) S := by
      refine c_all_say (n := n + 9) (by rw [← word_stock]; exact strOk_all _) (by decide +kernel) fun c hc => ?_
      simp only [List.mem_cons, List.not_mem_nil, or_false] at hc
      rcases hc with rfl | rfl | rfl | rfl
      · refine say_of (x := "InvalidStock") word_stock ?_
        simp only [runLm, lam2, List.length_nil, List.length_cons, Nat.zero_add, Nat.reduceAdd, and_self, if_true, List.nil_append, List.map_cons, List.map_nil]
        walk_at "ev"
        exact c_keys_stock (n := n + 3) h b1 b2
      · refine say_of (x := "InvalidStock") word_stock ?_
        simp only [runLm, lam3, List.length_nil, List.length_cons, Nat.zero_add, Nat.reduceAdd, and_self, if_true, List.nil_append, List.map_cons, List.map_nil]
        walk_at "ev"
        exact c_can_stock (n := n + 3) h b1 b2
      · refine say_of (x := "InvalidStock") word_stock ?_
        simp only [runLm, lam4, List.length_nil, List.length_cons, Nat.zero_add, Nat.reduceAdd, and_self, if_true, List.nil_append, List.map_cons, List.map_nil]
        walk_at "ev"
        exact c_done_stock (n := n + 3) h b1 b2
      · refine say_of (x := "InvalidStock") word_stock ?_
        simp only [runLm, lam5, List.length_nil, List.length_cons, Nat.zero_add, Nat.reduceAdd, and_self, if_true, List.nil_append, List.map_cons, List.map_nil]
        walk_at "ev"
        exact c_played_stock (n := n + 3) h b1 b2
    have ad : ∀ (as bs : List D) S, as.length + bs.length ≤ 16777216 → binD .add (.lst as) (.lst bs) S = .ok (.lst (as ++ bs)) S := fun as bs S hh => bin_add_lst (by rw [lineN_val]; exact hh)
    walk_at "evL"
    simp only [ad _ _ _ (show [D.own 2 [0, 3]].length + [D.own 3 [0, 3]].length ≤ 16777216 by simp), Res.b_ok]
    walk_at "evL"
    simp only [ad _ _ _ (show [D.own 2 [0, 3], D.own 3 [0, 3]].length + [D.own 4 [0, 3]].length ≤ 16777216 by simp), Res.b_ok]
    walk_at "evL"
    simp only [ad _ _ _ (show [D.own 2 [0, 3], D.own 3 [0, 3], D.own 4 [0, 3]].length + [D.own 5 [0, 3]].length ≤ 16777216 by simp), Res.b_ok]
    walk_at "evL"
    simp only [pubs_cons, pubs_nil, pub_lst, own, pub_str, Option.map_some, say, Res.b_ok, clean_bl, if_true]
    simp
  rintro _ _ ⟨⟨e3, e4, rfl⟩, rfl⟩
  have ad : ∀ (as bs : List D) S, as.length + bs.length ≤ 16777216 → binD .add (.lst as) (.lst bs) S = .ok (.lst (as ++ bs)) S := fun as bs S hh => bin_add_lst (by rw [lineN_val]; exact hh)
  have cR := clean_deep gR.deep
  have cX := clean_deep xd
  have mvin : put1 R.low ∈ R.moves true := mem_put (by omega) (by omega)
  have mvd : (put1 R.low).deep = true := by simp [D.deep, D.deeps, sp]
  have cM := clean_deep mvd
  have no : ∀ v, (¬ (∃ c, v = put1 c ∧ R.low ≤ c ∧ c < R.room)) → (¬ (R.kind = "part" ∧ v = put1 R.room)) → (¬ (R.kind ≠ "part" ∧ ∃ o, v = put2 R.room o ∧ R.low ≤ o ∧ o ≤ R.room)) →
     (¬ ∃ o, v = take2 R.low o ∧ R.low ≤ o ∧ o ≤ R.room) → (¬ ∃ c, v = take1 c ∧ R.low < c ∧ c ≤ R.room) → v ∉ R.moves true := by
    intro v a b c d e z
    rcases moves_cases z with z | z | z | z | z
    · exact a z
    · exact b z
    · exact c z
    · exact d z.2
    · exact e z.2
  refine seq_sat (fun env S' => env = [some R.d, some (.tup (intsD (x :: xr))), some (.lst (odds (x :: xr) xr)), e3, e4, some (put1 R.low)] ∧ S = S') ?_ ?_
  · walk_at "evL"
    simp only [k1, Res.b_ok]
    walk_at "evL"
    exact ⟨rfl, rfl⟩
  rintro _ _ ⟨rfl, rfl⟩
  refine seq_sat (fun env S' => (∃ e3 e4, env = [some R.d, some (.tup (intsD (x :: xr))), some (.lst (odds (x :: xr) xr)), e3, e4, some (put1 R.low)]) ∧ S = S') ?_ ?_
  · rw [evalS]
    have ei : evalI (p.atL (n + 11)) (.over (.lst false [.non, .tup [], .tup [.str "put"], .tup [.str "put", .int 0], .lst false [.str "put", .idx (.var 0) (.int 1)], .tup [.str "take", .idx (.var 0) (.int 1)]])) [some R.d, some (.tup (intsD (x :: xr))), some (.lst (odds (x :: xr) xr)), e3, e4, some (put1 R.low)] S = .ok (.one (.fix [.non, .tup [], .tup [.str "put"], put1 0, .lst [.str "put", .int R.low], take1 R.low])) S := by
      walk_at "evL"
      simp only [k1, Res.b_ok]
      walk_at "evL"
      try simp only [k1, Res.b_ok]
      walk_at "evL"
      simp
    rw [ei, Res.toS_ok]
    refine for_inv0 (ds := [.non, .tup [], .tup [.str "put"], put1 0, .lst [.str "put", .int R.low], take1 R.low]) rfl (fun i env S' => (∃ e3 e4, env = [some R.d, some (.tup (intsD (x :: xr))), some (.lst (odds (x :: xr) xr)), e3, e4, some (put1 R.low)]) ∧ S = S') ⟨⟨_, _, rfl⟩, rfl⟩ ?_ (fun env S' q => q)
    rintro i v env S' hq ⟨⟨e3, e4, rfl⟩, rfl⟩
    obtain ⟨b1, b2⟩ : v.deep = true ∧ v ∉ R.moves true := by
      have hv := List.mem_of_getElem? hq
      simp only [List.mem_cons, List.not_mem_nil, or_false] at hv
      rcases hv with rfl | rfl | rfl | rfl | rfl | rfl
      all_goals first
        | (refine ⟨by simp [D.deep, D.deeps, sp, st], no _ ?_ ?_ ?_ ?_ ?_⟩ <;> simp [put_take, take_put] <;> omega)
        | (refine ⟨by simp [D.deep, D.deeps, sp, st], no _ ?_ ?_ ?_ ?_ ?_⟩ <;> simp [put_take, take_put])
    refine ⟨_, bindT_name, ?_⟩
    simp only [List.set_cons_zero, List.set_cons_succ]
    have cV := clean_deep b1
    have own6 : ∀ (e4 : Option D), D.pub [some R.d, some (.tup (intsD (x :: xr))), some (.lst (odds (x :: xr) xr)), some v, e4, some (put1 R.low)] (.own 6 [0, 1, 3]) = some (.clo 6 [R.d, .tup (intsD (x :: xr)), v]) := by
      intro e4
      rw [pub_own]
      simp [capsOf, cR, cV, cX]
    have own7 : ∀ (e4 : Option D), D.pub [some R.d, some (.tup (intsD (x :: xr))), some (.lst (odds (x :: xr) xr)), some v, e4, some (put1 R.low)] (.own 7 [0, 1, 5, 3]) = some (.clo 7 [R.d, .tup (intsD (x :: xr)), put1 R.low, v]) := by
      intro e4
      rw [pub_own]
      simp [capsOf, cR, cV, cX, cM]
    have say : (p.at (n + 11)).call "_law_all_say" [.lst [.clo 6 [R.d, .tup (intsD (x :: xr)), v], .clo 7 [R.d, .tup (intsD (x :: xr)), put1 R.low, v]], .str "deed"] S = .ok (.bl true) S := by
      refine c_all_say (n := n + 9) (by rw [← word_deed]; exact strOk_all _) (by decide +kernel) fun c hc => ?_
      simp only [List.mem_cons, List.not_mem_nil, or_false] at hc
      rcases hc with rfl | rfl
      · refine say_of (x := "InvalidDeed") word_deed ?_
        simp only [runLm, lam6, List.length_nil, List.length_cons, Nat.zero_add, Nat.reduceAdd, and_self, if_true, List.nil_append, List.map_cons, List.map_nil]
        walk_at "ev"
        have z := c_done (p := p) (n := n + 2) (S := S) h b1 hx.ok (by omega)
        rw [if_neg b2] at z
        exact z
      · refine say_of (x := "InvalidDeed") word_deed ?_
        simp only [runLm, lam7, List.length_nil, List.length_cons, Nat.zero_add, Nat.reduceAdd, and_self, if_true, List.nil_append, List.map_cons, List.map_nil]
        walk_at "ev"
        exact c_played_row (n := n + 2) h (by simp [D.deep, D.deeps, sp, b1]) (by simp [rowDB, b2]) hx.ok
    walk_at "evL"
    simp only [ad _ _ _ (show [D.own 6 [0, 1, 3]].length + [D.own 7 [0, 1, 5, 3]].length ≤ 16777216 by simp), Res.b_ok]
    walk_at "evL"
    simp only [pubs_cons, pubs_nil, pub_lst, own6, own7, pub_str, Option.map_some, say, Res.b_ok, clean_bl, if_true]
    simp
  rintro _ _ ⟨⟨e3, e4, rfl⟩, rfl⟩
  refine seq_sat (fun env S' => (∃ e3 e4, env = [some R.d, some (.tup (intsD (x :: xr))), some (.lst (odds (x :: xr) xr)), e3, e4, some (put1 R.low)]) ∧ S = S') ?_ ?_
  · rw [evalS]
    have ei : evalI (p.atL (n + 11)) (.over (.lst false [.non, .var 5, .lst false [.var 5], .bin .mul (.tup [.var 5]) (.int 91)])) [some R.d, some (.tup (intsD (x :: xr))), some (.lst (odds (x :: xr) xr)), e3, e4, some (put1 R.low)] S = .ok (.one (.fix [.non, put1 R.low, .lst [put1 R.low], .tup (List.replicate 91 (put1 R.low))])) S := by
      have m91 : binD .mul (.tup [put1 R.low]) (.int 91) S = .ok (.tup (List.replicate 91 (put1 R.low))) S := mul_tup (by omega) (by omega)
      walk_at "evL"
      simp only [m91, Res.b_ok]
      walk_at "evL"
      simp
    rw [ei, Res.toS_ok]
    refine for_inv0 (ds := [.non, put1 R.low, .lst [put1 R.low], .tup (List.replicate 91 (put1 R.low))]) rfl (fun i env S' => (∃ e3 e4, env = [some R.d, some (.tup (intsD (x :: xr))), some (.lst (odds (x :: xr) xr)), e3, e4, some (put1 R.low)]) ∧ S = S') ⟨⟨_, _, rfl⟩, rfl⟩ ?_ (fun env S' q => q)
    rintro i v env S' hq ⟨⟨e3, e4, rfl⟩, rfl⟩
    obtain ⟨b1, b2⟩ : v.deep = true ∧ rowDB R v = false := by
      have hv := List.mem_of_getElem? hq
      simp only [List.mem_cons, List.not_mem_nil, or_false] at hv
      rcases hv with rfl | rfl | rfl | rfl
      · exact ⟨by simp [D.deep], rfl⟩
      · refine ⟨mvd, ?_⟩
        have : D.str "put" ∉ R.moves true := by refine no _ ?_ ?_ ?_ ?_ ?_ <;> simp
        simp [rowDB, this]
      · exact ⟨by simp [D.deep, D.deeps, sp], rfl⟩
      · refine ⟨?_, by simp [rowDB]⟩
        rw [D.deep, D.deeps_iff]
        intro d hd
        rw [List.eq_of_mem_replicate hd]; exact mvd
    refine ⟨_, bindT_name, ?_⟩
    simp only [List.set_cons_zero, List.set_cons_succ]
    have cV := clean_deep b1
    have own8 : ∀ (e4 : Option D), D.pub [some R.d, some (.tup (intsD (x :: xr))), some (.lst (odds (x :: xr) xr)), some v, e4, some (put1 R.low)] (.own 8 [0, 1, 3]) = some (.clo 8 [R.d, .tup (intsD (x :: xr)), v]) := by
      intro e4
      rw [pub_own]
      simp [capsOf, cR, cV, cX]
    have say : (p.at (n + 11)).call "_law_all_say" [.lst [.clo 8 [R.d, .tup (intsD (x :: xr)), v]], .str "deed"] S = .ok (.bl true) S := by
      refine c_all_say (n := n + 9) (by rw [← word_deed]; exact strOk_all _) (by decide +kernel) fun c hc => ?_
      simp only [List.mem_cons, List.not_mem_nil, or_false] at hc
      subst hc
      refine say_of (x := "InvalidDeed") word_deed ?_
      simp only [runLm, lam8, List.length_nil, List.length_cons, Nat.zero_add, Nat.reduceAdd, and_self, if_true, List.nil_append, List.map_cons, List.map_nil]
      walk_at "ev"
      exact c_played_row (n := n + 2) h b1 b2 hx.ok
    walk_at "evL"
    simp only [pubs_cons, pubs_nil, pub_lst, own8, pub_str, Option.map_some, say, Res.b_ok, clean_bl, if_true]
    simp
  rintro _ _ ⟨⟨e3, e4, rfl⟩, rfl⟩
  have R5 : D.deeps [.int R.room, .int R.low, .tup [.str R.kind, .int R.first], .int R.fit, R.tl] = true := by simpa [D.deep, Rl.d] using gR.deep
  have R4 : (D.tup (cutD [.int R.room, .int R.low, .tup [.str R.kind, .int R.first], .int R.fit, R.tl] none (some 4))).deep = true := by
    rw [D.deep, D.deeps_iff]
    exact fun d hd => D.deeps_iff.mp R5 d (mem_cut hd)
  have R4b : ruleB (D.tup (cutD [.int R.room, .int R.low, .tup [.str R.kind, .int R.first], .int R.fit, R.tl] none (some 4))) = false := rfl
  have say : (p.at (n + 11)).call "_law_all_say" [.lst [.clo 9 [R.d], .clo 10 [], .clo 11 [], .clo 12 [R.d]], .str "rule"] S = .ok (.bl true) S := by
    refine c_all_say (n := n + 9) (by rw [← word_rule]; exact strOk_all _) (by decide +kernel) fun c hc => ?_
    simp only [List.mem_cons, List.not_mem_nil, or_false] at hc
    rcases hc with rfl | rfl | rfl | rfl
    · refine say_of (x := "InvalidRule") word_rule ?_
      simp only [runLm, lam9, List.length_nil, List.length_cons, Nat.zero_add, Nat.reduceAdd, and_self, if_true, List.nil_append, List.map_cons, List.map_nil]
      walk_at "ev"
      simp only [Rl.d, sl_tup, Res.b_ok]
      exact c_keys_rule (n := n + 3) R4 R4b
    · refine say_of (x := "InvalidRule") word_rule ?_
      simp only [runLm, lam10, List.length_nil, List.length_cons, Nat.zero_add, Nat.reduceAdd, and_self, if_true, List.nil_append, List.map_cons, List.map_nil]
      walk_at "ev"
      exact c_can_rule (n := n + 3) (by simp [D.deep]) rfl
    · refine say_of (x := "InvalidRule") word_rule ?_
      simp only [runLm, lam11, List.length_nil, List.length_cons, Nat.zero_add, Nat.reduceAdd, and_self, if_true, List.nil_append, List.map_cons, List.map_nil]
      walk_at "ev"
      exact c_done_rule (n := n + 3) (by simp [D.deep, D.deeps]) rfl
    · refine say_of (x := "InvalidRule") word_rule ?_
      simp only [runLm, lam12, List.length_nil, List.length_cons, Nat.zero_add, Nat.reduceAdd, and_self, if_true, List.nil_append, List.map_cons, List.map_nil]
      walk_at "ev"
      simp only [Rl.d, bi_lst_tup, Res.b_ok]
      exact c_played_rule (n := n + 3) (by simpa only [D.deep] using R5) rfl
  have own : ∀ (i : Nat) (e4 : Option D), D.pub [some R.d, some (.tup (intsD (x :: xr))), some (.lst (odds (x :: xr) xr)), e3, e4, some (put1 R.low)] (.own i [0]) = some (.clo i [R.d]) := by
    intro i e4
    rw [pub_own]
    simp [capsOf, cR]
  have own0 : ∀ (i : Nat) (e4 : Option D), D.pub [some R.d, some (.tup (intsD (x :: xr))), some (.lst (odds (x :: xr) xr)), e3, e4, some (put1 R.low)] (.own i []) = some (.clo i []) := by
    intro i e4
    rw [pub_own]
    simp [capsOf]
  walk_at "evL"
  simp only [ad _ _ _ (show [D.own 9 [0]].length + [D.own 10 []].length ≤ 16777216 by simp), Res.b_ok]
  walk_at "evL"
  simp only [ad _ _ _ (show [D.own 9 [0], D.own 10 []].length + [D.own 11 []].length ≤ 16777216 by simp), Res.b_ok]
  walk_at "evL"
  simp only [ad _ _ _ (show [D.own 9 [0], D.own 10 [], D.own 11 []].length + [D.own 12 [0]].length ≤ 16777216 by simp), Res.b_ok]
  walk_at "evL"
  simp only [pubs_cons, pubs_nil, pub_lst, own, own0, pub_str, Option.map_some, say, Res.b_ok, clean_bl, if_true]
  simp
end LT.K07
set_option Elab.async false
set_option linter.all false
set_option maxRecDepth 100000
set_option maxHeartbeats 4000000
/-! k07: the law. -/
namespace LT.K07
open PySem LT
local macro_rules | `(tactic| walk_at "ev") => `(tactic| try simp only [at_with, runFd, List.length_cons, List.length_nil, if_true, if_false, Bool.false_eq_true, startE, List.map_cons, List.map_nil, List.cons_append, List.nil_append, Nat.add_one_sub_one, Nat.sub_self, Nat.reduceAdd, Nat.reduceSub, List.replicate_zero, List.replicate_succ, evalB, evalS, evalE, evalT, evalI, evP, evPs, evPO, evPI, Ev.mk', evEs, evAnd, evOr, evTAnd, evTOr, evO, evC, Res.b_ok, Res.b_exc, Res.b_bad, Res.toS_ok, Res.toS_exc, RS.next_nx, RS.next_rt, RS.next_exc, List.getElem?_cons_zero, List.getElem?_cons_succ, Option.join_some, at_callE, at_inC, at_bndC', List.set_cons_zero, List.set_cons_succ, bindT_name, bindT_tup, setAll_cons, setAll_nil, at_gcon])
local macro_rules | `(tactic| walk_at "st") => `(tactic| try simp only [Res.toS_sat, RS.next_sat, Res.sat_bind, outOf_satE, Res.sat_ok, RS.sat_nx, RS.sat_rt, List.getElem?_cons_zero, List.getElem?_cons_succ, Option.join_some, List.set_cons_zero, List.set_cons_succ, truthD_bl, truthD_int, truthD_non, truthD_tup, truthD_lst])
local macro_rules | `(tactic| walk_at "evL") => `(tactic| try simp only [atL_eq, runFd, List.length_cons, List.length_nil, if_true, if_false, Bool.false_eq_true, startE, List.map_cons, List.map_nil, List.cons_append, List.nil_append, Nat.add_one_sub_one, Nat.sub_self, Nat.reduceAdd, Nat.reduceSub, List.replicate_zero, List.replicate_succ, evalB, evalS, evalE, evalT, evalI, evP, evPs, evPO, evPI, Ev.mk', evEs, evAnd, evOr, evTAnd, evTOr, evO, evC, Res.b_ok, Res.b_exc, Res.b_bad, Res.toS_ok, Res.toS_exc, RS.next_nx, RS.next_rt, RS.next_exc, List.getElem?_cons_zero, List.getElem?_cons_succ, Option.join_some, atL_callE, atL_inC, atL_bndC, atL_lm, at_callE, at_inC, at_bndC', List.set_cons_zero, List.set_cons_succ, bindT_name, bindT_tup, setAll_cons, setAll_nil, atL_con, at_gcon])
variable {n : Nat} {S S0 : Sto} {k : Nat}
def R1 : Rl := ⟨3, 2, "part", 2, 3, 1, 2, 2⟩
def R2 : Rl := ⟨3, 1, "part", 2, 1, 1, 2, 2⟩
def R3 : Rl := ⟨3, 2, "share", 2, 3, 1, 2, 2⟩
def R4 : Rl := ⟨2, 1, "part", 1, 1, 1, 0, 0⟩
theorem R1ok : R1.Ok := by
  obtain ⟨R, h, e⟩ := rule_of (d := R1.d) (by kernel_rfl)
  have : R = R1 := by
    obtain ⟨a1, a2, a3, a4, a5, a6, a7, a8⟩ := R
    simp [Rl.d, Rl.tl, R1] at e
    obtain ⟨rfl, rfl, ⟨rfl, rfl⟩, rfl, rfl, rfl, rfl⟩ := e
    rfl
  rw [← this]; exact h
theorem R4ok : R4.Ok := by
  obtain ⟨R, h, e⟩ := rule_of (d := R4.d) (by kernel_rfl)
  have : R = R4 := by
    obtain ⟨a1, a2, a3, a4, a5, a6, a7, a8⟩ := R
    simp [Rl.d, Rl.tl, R4] at e
    obtain ⟨rfl, rfl, ⟨rfl, rfl⟩, rfl, rfl, rfl, rfl⟩ := e
    rfl
  rw [← this]; exact h
theorem c_known : (p.at (n + 11)).call "_law_known" [] S = .ok (.tup [R1.d, R2.d, R3.d, R4.d]) S := by kernel_rfl
abbrev st2 (a b : Int) : D := .tup [.int a, .int b]
theorem w_keys : (p.at (n + 11)).call "keys" [R1.d, st2 2 1] S = .ok (.int 7) S := by
  have z := c_keys (p := p) (n := n + 6) (S := S) R1ok (xs := [2, 1]) (by kernel_rfl) (by decide)
  exact z
theorem w_can1 : (p.at (n + 11)).call "can" [R1.d, st2 0 1] S = .ok (.lst [put1 3, take1 3]) S := by
  have z := c_can (p := p) (n := n + 5) (S := S) R1ok (xs := [0, 1]) (by kernel_rfl) (by decide)
  have e : ((R1.moves true).filter fun d => (R1.beh [0, 1] d).isSome) = [put1 3, take1 3] := by kernel_rfl
  rw [e] at z; exact z
theorem w_can2 : (p.at (n + 11)).call "can" [R1.d, st2 2 0] S = .ok (.lst [put1 2, take2 2 2]) S := by
  have z := c_can (p := p) (n := n + 5) (S := S) R1ok (xs := [2, 0]) (by kernel_rfl) (by decide)
  have e : ((R1.moves true).filter fun d => (R1.beh [2, 0] d).isSome) = [put1 2, take2 2 2] := by kernel_rfl
  rw [e] at z; exact z
theorem w_can3 : (p.at (n + 11)).call "can" [R1.d, st2 1 0] S = .ok (.lst [put1 2]) S := by
  have z := c_can (p := p) (n := n + 5) (S := S) R1ok (xs := [1, 0]) (by kernel_rfl) (by decide)
  have e : ((R1.moves true).filter fun d => (R1.beh [1, 0] d).isSome) = [put1 2] := by kernel_rfl
  rw [e] at z; exact z
theorem w_can4 : (p.at (n + 11)).call "can" [R1.d, st2 0 0] S = .ok (.lst []) S := by
  have z := c_can (p := p) (n := n + 5) (S := S) R1ok (xs := [0, 0]) (by kernel_rfl) (by decide)
  have e : ((R1.moves true).filter fun d => (R1.beh [0, 0] d).isSome) = [] := by kernel_rfl
  rw [e] at z; exact z
theorem w_done : (p.at (n + 11)).call "done" [R1.d, st2 0 1, put1 3] S = .ok (st2 2 0) S := by
  have z := c_done (p := p) (n := n + 5) (S := S) R1ok (xs := [0, 1]) (v := put1 3) (by kernel_rfl) (by kernel_rfl) (by decide)
  have e : R1.beh [0, 1] (put1 3) = some [2, 0] := by kernel_rfl
  rw [if_pos (by decide +kernel), e] at z; exact z
theorem w_pl1 : (p.at (n + 11)).call "played" [R1.d, st2 0 1, .tup [put1 3, take2 2 2]] S = .ok (.tup [st2 0 1, .int 7]) S := by
  have z := c_played (p := p) (n := n + 5) (S := S) R1ok (xs := [0, 1]) (ds := [put1 3, take2 2 2]) (by kernel_rfl) (by kernel_rfl) (by kernel_rfl) (by decide)
  have e : R1.play [0, 1] 0 [put1 3, take2 2 2] = some ([0, 1], 7) := by kernel_rfl
  rw [e] at z; exact z
theorem w_pl2 : (p.at (n + 11)).call "played" [R1.d, st2 5 5, .tup []] S = .ok (.tup [st2 5 5, .int 0]) S := by
  have z := c_played (p := p) (n := n + 5) (S := S) R1ok (xs := [5, 5]) (ds := []) (by kernel_rfl) (by kernel_rfl) (by kernel_rfl) (by decide)
  have e : R1.play [5, 5] 0 [] = some ([5, 5], 0) := by kernel_rfl
  rw [e] at z; exact z
theorem w_pl3 : (p.at (n + 11)).call "played" [R4.d, st2 0 1, .tup (List.replicate 3 (put1 2))] S = .ok (.tup [st2 3 1, .int 6]) S := by
  have z := c_played (p := p) (n := n + 5) (S := S) R4ok (xs := [0, 1]) (ds := List.replicate 3 (put1 2)) (by kernel_rfl) (by kernel_rfl) (by kernel_rfl) (by decide)
  have e : R4.play [0, 1] 0 (List.replicate 3 (put1 2)) = some ([3, 1], 6) := by kernel_rfl
  rw [e] at z; exact z
theorem w_pl4 : (p.at (n + 11)).call "played" [R4.d, st2 0 1, .tup (List.replicate 90 (put1 2))] S = .ok (.tup [st2 90 1, .int 180]) S := by
  have z := c_played (p := p) (n := n + 5) (S := S) R4ok (xs := [0, 1]) (ds := List.replicate 90 (put1 2)) (by kernel_rfl) (by kernel_rfl) (by kernel_rfl) (by decide)
  have e : R4.play [0, 1] 0 (List.replicate 90 (put1 2)) = some ([90, 1], 180) := by kernel_rfl
  rw [e] at z; exact z
theorem w_say : (p.at (n + 11)).call "_law_all_say" [.lst [.clo 13 [R1.d], .clo 14 [R1.d]], .str "impossible"] S = .ok (.bl true) S := by
  refine c_all_say (n := n + 9) (by rw [← word_imp]; exact strOk_all _) (by decide +kernel) fun c hc => ?_
  simp only [List.mem_cons, List.not_mem_nil, or_false] at hc
  rcases hc with rfl | rfl
  · refine say_of (x := "Impossible") word_imp ?_
    simp only [runLm, lam13, List.length_nil, List.length_cons, Nat.zero_add, Nat.reduceAdd, and_self, if_true, List.nil_append, List.map_cons, List.map_nil]
    walk_at "ev"
    have z := c_done (p := p) (n := n + 2) (S := S) R1ok (xs := [1, 0]) (v := take2 2 2) (by kernel_rfl) (by kernel_rfl) (by decide)
    have e : R1.beh [1, 0] (take2 2 2) = none := by kernel_rfl
    rw [if_pos (by decide +kernel), e] at z; exact z
  · refine say_of (x := "Impossible") word_imp ?_
    simp only [runLm, lam14, List.length_nil, List.length_cons, Nat.zero_add, Nat.reduceAdd, and_self, if_true, List.nil_append, List.map_cons, List.map_nil]
    walk_at "ev"
    have z := c_played (p := p) (n := n + 2) (S := S) R1ok (xs := [1, 0]) (ds := [put1 2, put1 2]) (by kernel_rfl) (by kernel_rfl) (by kernel_rfl) (by decide)
    have e : R1.play [1, 0] 0 [put1 2, put1 2] = none := by kernel_rfl
    rw [e] at z; exact z
def foundD : D := .lst [.int 7, .lst [put1 3, take1 3], .lst [put1 2, take2 2 2], .lst [put1 2], .lst []]
theorem c_written : (p.at (n + 12)).call "_law_written" [] S = .ok (.bl true) S := by
  refine sat_eq ?_
  have d1 : R1.d.deep = true := by kernel_rfl
  have d4 : R4.d.deep = true := by kernel_rfl
  have fd : foundD.deep = true := by kernel_rfl
  rw [at_call, runFd_eqL rfl rfl rfl]
  refine outOfT_sat ?_
  simp only [fd_law_written, ir_law_written]
  refine seq_sat (fun env S' => env = [some R1.d, some R2.d, some R3.d, some R4.d, none, none, none] ∧ S = S') ?_ ?_
  · walk_at "evL"
    have cl : (D.tup [R1.d, R2.d, R3.d, R4.d]).clean = true := by kernel_rfl
    simp only [pubs_nil, c_known, Res.b_ok, cl, if_true]
    simp
  rintro _ _ ⟨rfl, rfl⟩
  have dp : ∀ a b, (st2 a b).deep = true := fun a b => by simp [D.deep, D.deeps]
  have c1 : (D.lst [put1 3, take1 3]).clean = true := by kernel_rfl
  have c2 : (D.lst [put1 2, take2 2 2]).clean = true := by kernel_rfl
  have c3 : (D.lst [put1 2]).clean = true := by kernel_rfl
  have c4 : (D.lst []).clean = true := by kernel_rfl
  refine seq_sat (fun env S' => env = [some R1.d, some R2.d, some R3.d, some R4.d, some foundD, none, none] ∧ S = S') ?_ ?_
  · walk_at "evL"
    simp only [pubs_cons, pubs_nil, pub_deep d1, pub_deep (dp _ _), w_keys, w_can1, w_can2, w_can3, w_can4, Res.b_ok, clean_int, c1, c2, c3, c4, if_true]
    exact ⟨rfl, rfl⟩
  rintro _ _ ⟨rfl, rfl⟩
  refine seq_sat (fun env S' => env = [some R1.d, some R2.d, some R3.d, some R4.d, some foundD, some foundD, none] ∧ S = S') ?_ ?_
  · walk_at "evL"
    exact ⟨rfl, rfl⟩
  rintro _ _ ⟨rfl, rfl⟩
  have p3 : (put1 3).deep = true := by kernel_rfl
  have ct : ∀ a b, (st2 a b).clean = true := fun a b => clean_deep (dp a b)
  refine seq_sat (fun env S' => env = [some R1.d, some R2.d, some R3.d, some R4.d, some foundD, some foundD, none] ∧ S = S') ?_ ?_
  · have q1 : cmpD .ne foundD foundD S = .ok (.bl false) S := by kernel_rfl
    have q2 : cmpD .ne (st2 2 0) (st2 2 0) S = .ok (.bl false) S := by kernel_rfl
    walk_at "evL"
    simp only [q1, Res.b_ok, truthD_bl, Bool.false_eq_true, if_false, pubs_cons, pubs_nil, pub_deep d1, pub_deep (dp _ _), pub_deep p3, w_done, ct, if_true, q2]
    simp
  rintro _ _ ⟨rfl, rfl⟩
  have r1 : (D.tup [put1 3, take2 2 2]).deep = true := by kernel_rfl
  have r0 : (D.tup []).deep = true := by kernel_rfl
  have r3 : (D.tup (List.replicate 3 (put1 2))).deep = true := by kernel_rfl
  have r90 : (D.tup (List.replicate 90 (put1 2))).deep = true := by kernel_rfl
  have cp : ∀ a b c, (D.tup [st2 a b, .int c]).clean = true := fun a b c => clean_deep (by simp [D.deep, D.deeps])
  refine seq_sat (fun env S' => env = [some R1.d, some R2.d, some R3.d, some R4.d, some foundD, some foundD, none] ∧ S = S') ?_ ?_
  · have q1 : cmpD .ne (.tup [st2 0 1, .int 7]) (.tup [st2 0 1, .int 7]) S = .ok (.bl false) S := by kernel_rfl
    have q2 : cmpD .ne (.tup [st2 5 5, .int 0]) (.tup [st2 5 5, .int 0]) S = .ok (.bl false) S := by kernel_rfl
    walk_at "evL"
    simp only [Res.b_ok, truthD_bl, Bool.false_eq_true, if_false, pubs_cons, pubs_nil, pub_deep d1, pub_deep (dp _ _), pub_deep r1, pub_deep r0, w_pl1, w_pl2, cp, if_true, q1, q2]
    simp
  rintro _ _ ⟨rfl, rfl⟩
  refine seq_sat (fun env S' => env = [some R1.d, some R2.d, some R3.d, some R4.d, some foundD, some foundD, none] ∧ S = S') ?_ ?_
  · have q1 : cmpD .ne (.tup [st2 3 1, .int 6]) (.tup [st2 3 1, .int 6]) S = .ok (.bl false) S := by kernel_rfl
    have m3 : binD .mul (.tup [put1 2]) (.int 3) S = .ok (.tup (List.replicate 3 (put1 2))) S := mul_tup (by omega) (by omega)
    walk_at "evL"
    simp only [m3, Res.b_ok, truthD_bl, Bool.false_eq_true, if_false, pubs_cons, pubs_nil, pub_deep d4, pub_deep (dp _ _), pub_deep r3, w_pl3, cp, if_true, q1]
    simp
  rintro _ _ ⟨rfl, rfl⟩
  refine seq_sat (fun env S' => env = [some R1.d, some R2.d, some R3.d, some R4.d, some foundD, some foundD, none] ∧ S = S') ?_ ?_
  · have q1 : cmpD .ne (.tup [st2 90 1, .int 180]) (.tup [st2 90 1, .int 180]) S = .ok (.bl false) S := by kernel_rfl
    have m3 : binD .mul (.tup [put1 2]) (.int 90) S = .ok (.tup (List.replicate 90 (put1 2))) S := mul_tup (by omega) (by omega)
    walk_at "evL"
    simp only [m3, Res.b_ok, truthD_bl, Bool.false_eq_true, if_false, pubs_cons, pubs_nil, pub_deep d4, pub_deep (dp _ _), pub_deep r90, w_pl4, cp, if_true, q1]
    simp
  rintro _ _ ⟨rfl, rfl⟩
  have cR := clean_deep d1
  have own : ∀ (i : Nat) (e6 : Option D), D.pub [some R1.d, some R2.d, some R3.d, some R4.d, some foundD, some foundD, e6] (.own i [0]) = some (.clo i [R1.d]) := by
    intro i e6
    rw [pub_own]
    simp [capsOf, cR]
  have ad : binD .add (.lst [.own 13 [0]]) (.lst [.own 14 [0]]) S = .ok (.lst [.own 13 [0], .own 14 [0]]) S := bin_add_lst (by simp)
  walk_at "evL"
  simp only [ad, Res.b_ok]
  walk_at "evL"
  simp only [pubs_cons, pubs_nil, pub_lst, own, pub_str, Option.map_some, w_say, Res.b_ok, clean_bl, if_true]
  simp
theorem c_law {ns : List Int} : ((p.at (n + 20)).call "law" [.scr ns] S).Sat fun d _ => d = .bl true := by
  rw [at_call, runFd_eq rfl rfl at_lm]
  simp only [fd_law, ir_law]
  rw [outOf_satE]
  refine seq_sat (fun _ _ => True) ?_ ?_
  · rw [evalS]
    have e0 : startE 5 [.scr ns] = [some (.scr ns), none, none, none, none] := rfl
    rw [e0]
    have er : ∃ m : Nat, evalI (p.at (n + 19)) (.range1 (.bi .max [.int 5, .bi .min [.int 12, .bi .len [.var 0]]])) [some (.scr ns), none, none, none, none] S = .ok (.rng 0 m) S := by
      walk_at "ev"
      simp
      refine ⟨Int.toNat (if 5 < (if (ns.length : Int) < 12 then (ns.length : Int) else 12) then (if (ns.length : Int) < 12 then (ns.length : Int) else 12) else 5), ?_⟩
      rw [if_pos]
      split <;> split <;> omega
    obtain ⟨m, er⟩ := er
    rw [er, Res.toS_ok]
    refine for_inv0 (ds := (List.range m).map fun (i : Nat) => .int (0 + (i : Int))) rfl (fun _ env _ => ∃ e1 e2 e3 e4, env = [some (.scr ns), e1, e2, e3, e4]) ⟨_, _, _, _, rfl⟩ ?_ fun _ _ _ => trivial
    rintro i d env S hd ⟨e1, e2, e3, e4, rfl⟩
    obtain ⟨_, rfl⟩ := rng_get hd
    refine ⟨_, bindT_name, ?_⟩
    simp only [List.set_cons_zero, List.set_cons_succ, Int.zero_add]
    refine seq_sat (fun env S => ∃ c, env = [some (.scr ns), some (.int i), some (.cell c), e3, e4] ∧ Spr c S S) ?_ ?_
    · walk_at "ev"
      walk_at "st"
      refine (c_spring (n := n + 18)).mono ?_
      rintro _ S1 ⟨rfl, h1⟩
      exact ⟨_, rfl, h1⟩
    rintro _ S1 ⟨c, rfl, h1⟩
    refine seq_sat (fun env S => ∃ R : Rl, R.Ok ∧ env = [some (.scr ns), some (.int i), some (.cell c), some R.d, e4] ∧ Spr c S1 S) ?_ ?_
    · walk_at "ev"
      walk_at "st"
      refine (c_drawn (n := n + 16) (by decide) (by decide) h1).mono ?_
      rintro _ S2 ⟨R, hR, _, rfl, h2⟩
      exact ⟨R, hR, rfl, h2⟩
    rintro _ S2 ⟨R, hR, rfl, h2⟩
    refine seq_sat (fun env S => ∃ e4, env = [some (.scr ns), some (.int i), some (.cell c), some R.d, e4] ∧ Spr c S1 S) ?_ ?_
    · rw [evalS]
      have er : evalI (p.at (n + 19)) (.range1 (.int 4)) [some (.scr ns), some (.int i), some (.cell c), some R.d, e4] S2 = .ok (.rng 0 4) S2 := by
        walk_at "ev"
        simp
      rw [er, Res.toS_ok]
      refine for_inv0 (ds := (List.range 4).map fun (i : Nat) => .int (0 + (i : Int))) rfl (fun _ env S => ∃ e4, env = [some (.scr ns), some (.int i), some (.cell c), some R.d, e4] ∧ Spr c S1 S) ⟨_, rfl, h2⟩ ?_ (fun env S q => q)
      rintro j q env S3 hq ⟨e4, rfl, h3⟩
      refine ⟨_, bindT_name, ?_⟩
      simp only [List.set_cons_zero, List.set_cons_succ]
      walk_at "ev"
      walk_at "st"
      refine (c_good (n := n + 7) hR h3).mono ?_
      rintro _ S4 ⟨rfl, h4⟩
      simp
      exact h4
    rintro _ S3 ⟨e4, rfl, h3⟩
    refine seq_sat (fun env S => ∃ e1 e2 e3 e4, env = [some (.scr ns), e1, e2, e3, e4]) ?_ fun env S q => nil_sat q
    walk_at "ev"
    walk_at "st"
    refine (c_law_stock (n := n + 15) hR h3).mono ?_
    rintro _ S4 ⟨xs, rfl, hx, h4⟩
    simp
    walk_at "st"
    refine (c_refused (n := n + 7) hR hx).mono ?_
    rintro _ S5 ⟨rfl, rfl⟩
    simp
  · rintro env S -
    walk_at "ev"
    have z : (p.at (n + 19)).call "_law_written" [] S = .ok (.bl true) S := c_written (n := n + 7)
    simp [z]
end LT.K07
set_option Elab.async false
set_option maxRecDepth 100000
set_option maxHeartbeats 0
namespace LT.K07
open PySem PySem.Spec PyProof.Rows L2 LamX NdefX He
theorem rowsOk : L.rows = true := by kernel_rfl
theorem kinOk : L.kinB = true := by kernel_rfl
theorem ok : L.Ok := ⟨rowsOk, kinOk, rfl, ⟨_, rfl, rfl⟩, by decide⟩
end LT.K07
set_option Elab.async false
set_option maxRecDepth 100000
set_option maxHeartbeats 0
namespace LT.K07
open PySem PySem.Spec PyProof.Rows L2 LamX NdefX He
abbrev R : PySem.W.OpenRow := PySem.W.OpenLaw.row rw
theorem run (w : World) : HandSHeadRun.RunEq R (PySem.W.view R.prog [law_ix]) (hookX 4 L.fa L.fn [] L.tfd L.ex) L.ob 12000 loose w := by
  intro os
  kernel_rfl
end LT.K07
set_option Elab.async false
set_option maxRecDepth 100000
set_option maxHeartbeats 0
namespace LT.K07
open PySem PySem.Spec PyProof.Rows L2 LamX NdefX He
theorem fin : ∀ ns : List Int, ns.length ≤ 63 → (∀ z ∈ ns, Builtin.Int.intBits z ≤ 1048576) → ∃ S, (L.p.at (39 + 1)).call "law" [.scr ns] [] = .ok (.bl true) S := by
  intro ns _ _
  obtain ⟨d, S, e, h⟩ := (c_law (n := 20) (ns := ns) (S := [])).ex
  subst h
  exact ⟨S, e⟩
theorem lawArgs : ∃ t ∈ L.defs, t.x = "law" ∧ argNames (C8.fnArgs t.st) = some [("script" : Str)] ∧ ∀ fd, L.p.fns.lookup ("law" : Str) = some fd → rowB L.p L.xc L.tc L.tf t fd = true := by
  refine ⟨L.defs.getLast (by decide), List.getLast_mem _, by kernel_rfl, by kernel_rfl, fun fd h => ?_⟩
  have e : fd = fd_law := by
    have z : L.p.fns.lookup ("law" : Str) = some fd_law := by kernel_rfl
    rw [z] at h
    exact (Option.some.inj h).symm
  subst e
  kernel_rfl
end LT.K07
open PySem PySem.W PySem.Calls PyProof.Rows LT LT.K07
theorem PySem.Challenge.cw_leaftoll_k07_whole_stocks_led_by_deeds_holds : PySem.Challenge.rw_leaftoll_k07_whole_stocks_led_by_deeds.Holds := by
  w_on; o_law
  refine HandSHeadRun.head_any (r := OpenLaw.row PySem.Challenge.rw_leaftoll_k07_whole_stocks_led_by_deeds) (q := view (OpenLaw.row PySem.Challenge.rw_leaftoll_k07_whole_stocks_led_by_deeds).prog [law_ix]) (H := He.hookX 4 K07.L.fa K07.L.fn [] K07.L.tfd K07.L.ex) (ob := K07.L.ob) (M := 12000) (loose := loose) (d := HandSHeadRun.topDef (OpenLaw.row PySem.Challenge.rw_leaftoll_k07_whole_stocks_led_by_deeds).prog law_ix) (kwd := []) K07.L.ob_eq
    (by kernel_rfl) (fun s => by kernel_rfl) K07.run (by kernel_rfl) (by kernel_rfl) (by kernel_rfl) (by rfl) (by first | assumption | decide +kernel) (by decide +kernel) ⟨rfl, rfl, rfl, rfl, rfl, by decide +kernel⟩ ?hw ?hc
  case hw => w_witness2
  case hc =>
    refine LamX.walk_ofTsE (l := PySem.Challenge.rw_leaftoll_k07_whole_stocks_led_by_deeds) (n := 63) (k := 80) (x := "script") (CX := fun w => L2N.CX PySem.Challenge.rw_leaftoll_k07_whole_stocks_led_by_deeds.prog w) rfl (by decide) (by kernel_rfl) ⟨rfl, by decide, by decide⟩ ?F (fun w H s e s' z => L2N_end w H s e s' z)
    intro w mg fa h Y G hmg0
    obtain ⟨K, KX, c⟩ := Y
    have hmg : mg ("law" : PySem.Str) = some (.ref fa) := by
      have e : (HandSHeadRun.topDef (OpenLaw.row PySem.Challenge.rw_leaftoll_k07_whole_stocks_led_by_deeds).prog law_ix).name = ("law" : PySem.Str) := by kernel_rfl
      rw [← e]
      exact hmg0
    exact ⟨K, KX, LawT.at_ K07.ok K07.fin K07.lawArgs c KX G hmg⟩
