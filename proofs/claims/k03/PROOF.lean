import PyProof.Rows.All
import Wide.All
import OpenK.AllK
import Wide.FinOn
import HandS.ForMost
import HandS.Exc
import HandS.ExcOwn
import HandS.HeadHook1
import KE.LtData
import HandS.DictComp
import HandS.More
import PyProof.Rows.ListMulArg
import HandS.TupAny
import HandS.Style
import KE.KEqNest
import HandS.IsInst
import HandS.Conv
import KE.KDictPairs
import KE.GoesMore
import KE.GoesEnum
import KE.GoesZip
import HandS.ExcInit
import HandS.ExcField
import HandS.ExcIs
import HandS.TryOnly
import KE.KExcInit
import KE.KExcIs
import HandS.Defaults
import HandS.Deep
import HandS.Text
import HandS.StrMore
import HandS.Strs
import HandS.Dict
import KE.KUnpackStar
import HandS.Small
import PyProof.AutoSeq1
import HandS.WordsExc
import HandS.Finally
import HandS.Codes
import HandS.HeadHook2
import HandS.Words
import HandS.Head0
import HandS.Head1
import HandS.Head2
import HandS.HeadEnd
import HandS.HeadHook3
import KE.KxText
import PyProof.P3Eq
import PySem.Challenge.RW_joinedrun_k03_parts
set_option Elab.async false
section
set_option Elab.async false
set_option linter.all false
set_option maxRecDepth 100000
set_option maxHeartbeats 4000000
/-! L3a: data without a heap (D), the store of what is shared and changes (DO), how both lie in the abstract heap. -/
namespace L3
open PySem PySem.Spec PyProof.Rows L2

/-- the keys of a dict: numbers and texts; tuples of these -/
inductive DK where
  | k | t
  deriving DecidableEq
/-- a value -/
inductive D where
  | non | bl (b : Bool) | int (i : Int) | str (x : Str) | ty (n : String)
  | tup (l : List D)
  | lst (l : List D)
  | dct (k : DK) (l : List (D × D))
  | ref (n : Nat)
  | fnv (f : Nat) (x : Str)
  deriving Inhabited
/-- an object of the store, or one that a slot alone holds -/
inductive DO where
  | lst (l : List D)
  | dct (k : DK) (l : List (D × D))
  | ins (c : Nat) (fs : List (Str × D))
  deriving Inhabited
/-- a slot: a value that stands still, or an object of its own -/
inductive Sl where
  | val (d : D)
  | own (o : DO)
  deriving Inhabited
abbrev Store := List DO
abbrev Env := List (Option Sl)
/-- what a thing is known to lie at: F stands still, ρ the store's places -/
structure G where
  F : Addr → Prop
  ρ : Nat → Option Addr
def keyD : Key → D
  | .inl i => .int i
  | .inr s => .str s

def StL (K : PySem.W.Frag) (a : Addr) (xs : List V) : Prop := ∃ (o : Obj) (its : Array Value) (n : Nat), K.lookup a = some o ∧ o.cls = .type "list" ∧ o.dict = none ∧ o.data = .seq its n ∧ its.size ≤ sizeLine ∧ Vals xs its.toList
def StT (K : PySem.W.Frag) (a : Addr) (xs : List V) : Prop := ∃ (o : Obj) (its : Array Value) (n : Nat), K.lookup a = some o ∧ o.cls = .type "tuple" ∧ o.dict = none ∧ o.data = .seq its n ∧ its.size ≤ sizeLine ∧ Vals xs its.toList
def FzL (K : PySem.W.Frag) (g : G) (H : Hp) (a : Addr) (vs : List V) : Prop := (g.F a ∧ Rd H a (.lst vs)) ∨ StL K a vs
def FzT (K : PySem.W.Frag) (g : G) (H : Hp) (a : Addr) (vs : List V) : Prop := (g.F a ∧ ∃ o, o.dict = none ∧ H a = some (.frz o (.tup vs))) ∨ StT K a vs

mutual
inductive RV (K : PySem.W.Frag) (g : G) (H : Hp) : V → D → Prop
  | non : RV K g H .non .non
  | bl (b : Bool) : RV K g H (.bl b) (.bl b)
  | int (i : Int) : RV K g H (.int i) (.int i)
  | str (x : Str) : RV K g H (.str x) (.str x)
  | ty (n : String) : RV K g H (.ty n) (.ty n)
  | tup {a : Addr} {vs : List V} {ds : List D} : FzT K g H a vs → RVs K g H vs ds → RV K g H (.ref a) (.tup ds)
  | lst {a : Addr} {vs : List V} {ds : List D} : FzL K g H a vs → RVs K g H vs ds → RV K g H (.ref a) (.lst ds)
  | dk {a : Addr} {kvs : List (Key × V)} {ds : List (D × D)} : g.F a → Rd H a (.dK kvs) → RKs K g H kvs ds → RV K g H (.ref a) (.dct .k ds)
  | dt {a : Addr} {kvs : List (List Key × V)} {ds : List (D × D)} : g.F a → Rd H a (.dT kvs) → RTs K g H kvs ds → RV K g H (.ref a) (.dct .t ds)
  | ref {n : Nat} {a : Addr} : g.ρ n = some a → RV K g H (.ref a) (.ref n)
  | fnv (f : Nat) (x : Str) : RV K g H (.ref (He.ga K x)) (.fnv f x)
inductive RVs (K : PySem.W.Frag) (g : G) (H : Hp) : List V → List D → Prop
  | nil : RVs K g H [] []
  | cons {v : V} {d : D} {vs : List V} {ds : List D} : RV K g H v d → RVs K g H vs ds → RVs K g H (v :: vs) (d :: ds)
inductive RKs (K : PySem.W.Frag) (g : G) (H : Hp) : List (Key × V) → List (D × D) → Prop
  | nil : RKs K g H [] []
  | cons {k : Key} {v : V} {d : D} {vs : List (Key × V)} {ds : List (D × D)} : RV K g H v d → RKs K g H vs ds → RKs K g H ((k, v) :: vs) ((keyD k, d) :: ds)
inductive RTs (K : PySem.W.Frag) (g : G) (H : Hp) : List (List Key × V) → List (D × D) → Prop
  | nil : RTs K g H [] []
  | cons {k : List Key} {v : V} {d : D} {vs : List (List Key × V)} {ds : List (D × D)} : RV K g H v d → RTs K g H vs ds → RTs K g H ((k, v) :: vs) ((.tup (k.map keyD), d) :: ds)
end

/-- what stood still stands still -/
structure Ext (g : G) (H : Hp) (g' : G) (H' : Hp) : Prop where
  F : ∀ a, g.F a → g'.F a
  rd : ∀ a u, g.F a → Rd H a u → Rd H' a u
  tp : ∀ a o u, g.F a → H a = some (.frz o u) → H' a = some (.frz o u)
  ρ : ∀ n a, g.ρ n = some a → g'.ρ n = some a
theorem Ext.refl (g : G) (H : Hp) : Ext g H g H := ⟨fun _ h => h, fun _ _ _ h => h, fun _ _ _ _ h => h, fun _ _ h => h⟩
theorem Ext.trans {g g1 g2 : G} {H H1 H2 : Hp} (a : Ext g H g1 H1) (b : Ext g1 H1 g2 H2) : Ext g H g2 H2 :=
  ⟨fun x h => b.F x (a.F x h), fun x u f h => b.rd x u (a.F x f) (a.rd x u f h), fun x o u f h => b.tp x o u (a.F x f) (a.tp x o u f h), fun n x h => b.ρ n x (a.ρ n x h)⟩
section
variable {K : PySem.W.Frag} {g g' : G} {H H' : Hp}
theorem FzL.ext (e : Ext g H g' H') {a : Addr} {vs : List V} (h : FzL K g H a vs) : FzL K g' H' a vs := h.imp (fun ⟨f, r⟩ => ⟨e.F a f, e.rd a _ f r⟩) id
theorem FzT.ext (e : Ext g H g' H') {a : Addr} {vs : List V} (h : FzT K g H a vs) : FzT K g' H' a vs := h.imp (fun ⟨f, o, d, r⟩ => ⟨e.F a f, o, d, e.tp a _ _ f r⟩) id
mutual
theorem RV.ext (e : Ext g H g' H') {v : V} {d : D} : RV K g H v d → RV K g' H' v d
  | .non => .non
  | .bl b => .bl b
  | .int i => .int i
  | .str x => .str x
  | .ty n => .ty n
  | .tup h r => .tup (h.ext e) (RVs.ext e r)
  | .lst h r => .lst (h.ext e) (RVs.ext e r)
  | .dk f h r => .dk (e.F _ f) (e.rd _ _ f h) (RKs.ext e r)
  | .dt f h r => .dt (e.F _ f) (e.rd _ _ f h) (RTs.ext e r)
  | .ref h => .ref (e.ρ _ _ h)
  | .fnv f x => .fnv f x
theorem RVs.ext (e : Ext g H g' H') {vs : List V} {ds : List D} : RVs K g H vs ds → RVs K g' H' vs ds
  | .nil => .nil
  | .cons h r => .cons (RV.ext e h) (RVs.ext e r)
theorem RKs.ext (e : Ext g H g' H') {vs : List (Key × V)} {ds : List (D × D)} : RKs K g H vs ds → RKs K g' H' vs ds
  | .nil => .nil
  | .cons h r => .cons (RV.ext e h) (RKs.ext e r)
theorem RTs.ext (e : Ext g H g' H') {vs : List (List Key × V)} {ds : List (D × D)} : RTs K g H vs ds → RTs K g' H' vs ds
  | .nil => .nil
  | .cons h r => .cons (RV.ext e h) (RTs.ext e r)
end
theorem FzL.sq {a : Addr} {vs : List V} (h : FzL K g H a vs) : SqL K H a vs := h.imp (·.2) id
theorem FzT.sq {a : Addr} {vs : List V} (h : FzT K g H a vs) : SqT K H a vs := h.imp (fun ⟨_, o, _, r⟩ => .inr ⟨o, r⟩) fun ⟨o, its, n, a, b, _, c⟩ => ⟨o, its, n, a, b, c⟩
theorem RVs.length {vs : List V} {ds : List D} (h : RVs K g H vs ds) : vs.length = ds.length := by
  induction vs generalizing ds with
  | nil => cases h; rfl
  | cons v r ih => cases h with | cons _ t => rw [List.length_cons, List.length_cons, ih t]
theorem RVs.append : ∀ {vs ws : List V} {ds es : List D}, RVs K g H vs ds → RVs K g H ws es → RVs K g H (vs ++ ws) (ds ++ es)
  | [], _, _, _, .nil, h => h
  | _ :: _, _, _, _, .cons h r, t => .cons h (RVs.append r t)
theorem RVs.snoc {vs : List V} {ds : List D} {v : V} {d : D} (h : RVs K g H vs ds) (r : RV K g H v d) : RVs K g H (vs ++ [v]) (ds ++ [d]) := h.append (.cons r .nil)
theorem RVs.get : ∀ {vs : List V} {ds : List D} {i : Nat} {d : D}, RVs K g H vs ds → ds[i]? = some d → ∃ v, vs[i]? = some v ∧ RV K g H v d
  | _, _, _, _, .nil, e => by simp at e
  | _, _, 0, _, .cons h _, e => by simp at e; subst e; exact ⟨_, rfl, h⟩
  | _, _, i + 1, d, .cons _ r, e => by
    obtain ⟨v, h1, h2⟩ := RVs.get (i := i) (d := d) r (by simpa using e)
    exact ⟨v, by simpa using h1, h2⟩
theorem RVs.getV : ∀ {vs : List V} {ds : List D} {i : Nat} {v : V}, RVs K g H vs ds → vs[i]? = some v → ∃ d, ds[i]? = some d ∧ RV K g H v d
  | _, _, _, _, .nil, e => by simp at e
  | _, _, 0, _, .cons h _, e => by simp at e; subst e; exact ⟨_, rfl, h⟩
  | _, _, i + 1, v, .cons _ r, e => by
    obtain ⟨d, h1, h2⟩ := RVs.getV (i := i) (v := v) r (by simpa using e)
    exact ⟨d, by simpa using h1, h2⟩
theorem RVs.set {v : V} {d : D} (r : RV K g H v d) : ∀ {vs : List V} {ds : List D} (i : Nat), RVs K g H vs ds → RVs K g H (vs.set i v) (ds.set i d)
  | _, _, _, .nil => .nil
  | _, _, 0, .cons _ t => .cons r t
  | _, _, i + 1, .cons q t => .cons q (RVs.set r i t)
theorem RVs.take : ∀ {vs : List V} {ds : List D} (n : Nat), RVs K g H vs ds → RVs K g H (vs.take n) (ds.take n)
  | _, _, 0, _ => .nil
  | _, _, _ + 1, .nil => .nil
  | _, _, n + 1, .cons r t => .cons r (RVs.take n t)
theorem RVs.drop : ∀ {vs : List V} {ds : List D} (n : Nat), RVs K g H vs ds → RVs K g H (vs.drop n) (ds.drop n)
  | _, _, 0, r => r
  | _, _, _ + 1, .nil => .nil
  | _, _, n + 1, .cons _ t => RVs.drop n t
theorem RVs.reverse : ∀ {vs : List V} {ds : List D}, RVs K g H vs ds → RVs K g H vs.reverse ds.reverse
  | _, _, .nil => .nil
  | _, _, .cons r t => by rw [List.reverse_cons, List.reverse_cons]; exact (RVs.reverse t).snoc r
theorem RVs.dropLast {vs : List V} {ds : List D} (h : RVs K g H vs ds) : RVs K g H vs.dropLast ds.dropLast := by
  rw [List.dropLast_eq_take, List.dropLast_eq_take, h.length]
  exact h.take _
end

/-! ### objects, the store -/
inductive RFs (K : PySem.W.Frag) (g : G) (H : Hp) : List (Str × V) → List (Str × D) → Prop
  | nil : RFs K g H [] []
  | cons {f : Str} {v : V} {d : D} {vs : List (Str × V)} {ds : List (Str × D)} : RV K g H v d → RFs K g H vs ds → RFs K g H ((f, v) :: vs) ((f, d) :: ds)
theorem RFs.ext {K : PySem.W.Frag} {g g' : G} {H H' : Hp} (e : Ext g H g' H') {vs : List (Str × V)} {ds : List (Str × D)} (h : RFs K g H vs ds) : RFs K g' H' vs ds := by
  induction h with
  | nil => exact .nil
  | cons r _ ih => exact .cons (r.ext e) ih
/-- the object o stands at a -/
def RO (K : PySem.W.Frag) (cls : Nat → Addr) (g : G) (H : Hp) (a : Addr) : DO → Prop
  | .lst l => ∃ vs, H a = some (.lst vs) ∧ RVs K g H vs l
  | .dct .k l => ∃ kvs, H a = some (.dK kvs) ∧ RKs K g H kvs l
  | .dct .t l => ∃ kvs, H a = some (.dT kvs) ∧ RTs K g H kvs l
  | .ins c fs => ∃ dx vs, H a = some (.ins (cls c) dx vs) ∧ RFs K g H vs fs
theorem RO.ext {K : PySem.W.Frag} {cls : Nat → Addr} {g g' : G} {H H' : Hp} (e : Ext g H g' H') {a : Addr} (ha : ∀ o, H a = some o → H' a = some o) : ∀ {o : DO}, RO K cls g H a o → RO K cls g' H' a o
  | .lst l, ⟨vs, h, r⟩ => ⟨vs, ha _ h, r.ext e⟩
  | .dct .k l, ⟨vs, h, r⟩ => ⟨vs, ha _ h, r.ext e⟩
  | .dct .t l, ⟨vs, h, r⟩ => ⟨vs, ha _ h, r.ext e⟩
  | .ins c fs, ⟨dx, vs, h, r⟩ => ⟨dx, vs, ha _ h, r.ext e⟩
theorem RO.there {K : PySem.W.Frag} {cls : Nat → Addr} {g : G} {H : Hp} {a : Addr} : ∀ {o : DO}, RO K cls g H a o → ∃ u, H a = some u
  | .lst l, ⟨vs, h, r⟩ => ⟨_, h⟩
  | .dct .k l, ⟨vs, h, r⟩ => ⟨_, h⟩
  | .dct .t l, ⟨vs, h, r⟩ => ⟨_, h⟩
  | .ins c fs, ⟨dx, vs, h, r⟩ => ⟨_, h⟩
structure RS (K : PySem.W.Frag) (cls : Nat → Addr) (g : G) (H : Hp) (st : Store) : Prop where
  obj : ∀ n o, st[n]? = some o → ∃ a, g.ρ n = some a ∧ RO K cls g H a o
  lt : ∀ n a, g.ρ n = some a → n < st.length
  inj : ∀ n m a, g.ρ n = some a → g.ρ m = some a → n = m
  nf : ∀ n a, g.ρ n = some a → ¬ g.F a
theorem RS.there {K : PySem.W.Frag} {cls : Nat → Addr} {g : G} {H : Hp} {st : Store} (r : RS K cls g H st) {n : Nat} {a : Addr} (h : g.ρ n = some a) : ∃ o u, st[n]? = some o ∧ RO K cls g H a o ∧ H a = some u := by
  have hl := r.lt n a h
  obtain ⟨b, hb, ro⟩ := r.obj n st[n] (by simp [hl])
  rw [h] at hb
  cases hb
  obtain ⟨u, hu⟩ := ro.there
  exact ⟨_, u, by simp [hl], ro, hu⟩
/-- from (g0, H0) on nothing was touched but the store -/
structure Frm (g0 : G) (H0 : Hp) (g : G) (H : Hp) : Prop where
  F : ∀ a, g0.F a → g.F a
  Fn : ∀ a, g.F a → g0.F a ∨ H0 a = none
  ρ : ∀ n a, g0.ρ n = some a → g.ρ n = some a
  ρn : ∀ n a, g.ρ n = some a → g0.ρ n = some a ∨ H0 a = none
  keep : ∀ a o, H0 a = some o → (∀ n, g0.ρ n ≠ some a) → H a = some o
theorem Frm.refl (g : G) (H : Hp) : Frm g H g H := ⟨fun _ h => h, fun _ h => .inl h, fun _ _ h => h, fun _ _ h => .inl h, fun _ _ h _ => h⟩
/-- what a body stands in -/
structure Ct where
  K : PySem.W.Frag
  cls : Nat → Addr
  xc : Nat → Value
  g0 : G
  H0 : Hp
  pr : List (Addr × HO)
  W : WX
structure Rep (C : Ct) (g : G) (σ : L2.St) (H : Hp) (env : Env) (st : Store) : Prop where
  len : env.length = σ.length
  val : ∀ (i : Nat) d, env[i]? = some (some (.val d)) → ∃ v, σ[i]? = some (some v) ∧ RV C.K g H v d
  own : ∀ (i : Nat) o, env[i]? = some (some (.own o)) → ∃ a, σ[i]? = some (some (.ref a)) ∧ RO C.K C.cls g H a o ∧ ¬ g.F a ∧ (∀ n, g.ρ n ≠ some a) ∧ C.H0 a = none ∧ ∀ q ∈ C.pr, q.1 ≠ a
  inj : ∀ (i j : Nat) o o' a, env[i]? = some (some (.own o)) → env[j]? = some (some (.own o')) → σ[i]? = some (some (.ref a)) → σ[j]? = some (some (.ref a)) → i = j
  sto : RS C.K C.cls g H st
  fz : ∀ a, g.F a → ∃ o, H a = some o
  fr : Frm C.g0 C.H0 g H
  prv : ∀ q ∈ C.pr, H q.1 = some q.2 ∧ ¬ g.F q.1 ∧ (∀ n, g.ρ n ≠ some q.1) ∧ C.H0 q.1 = none
  prd : (C.pr.map (·.1)).Nodup

/-! ### growing -/
/-- new things that stand still, nothing else -/
structure Grow (g : G) (H : Hp) (g' : G) (H' : Hp) : Prop where
  F : ∀ a, g.F a → g'.F a
  Fn : ∀ a, g'.F a → g.F a ∨ H a = none
  fz : ∀ a, g'.F a → g.F a ∨ ∃ o, H' a = some o
  ρ : g'.ρ = g.ρ
  same : ∀ a o, H a = some o → H' a = some o
theorem Grow.refl (g : G) (H : Hp) : Grow g H g H := ⟨fun _ h => h, fun _ h => .inl h, fun _ h => .inl h, rfl, fun _ _ h => h⟩
theorem Grow.ext {g g' : G} {H H' : Hp} (e : Grow g H g' H') : Ext g H g' H' :=
  ⟨e.F, fun a u _ h => h.imp (e.same a _) fun ⟨o, q⟩ => ⟨o, e.same a _ q⟩, fun a o u _ h => e.same a _ h, fun n a h => by rw [e.ρ]; exact h⟩
theorem Grow.trans {g g1 g2 : G} {H H1 H2 : Hp} (a : Grow g H g1 H1) (b : Grow g1 H1 g2 H2) : Grow g H g2 H2 where
  F := fun x h => b.F x (a.F x h)
  Fn := fun x h => by
    rcases b.Fn x h with h | h
    · exact a.Fn x h
    · right
      cases q : H x with
      | none => rfl
      | some o => rw [a.same x o q] at h; cases h
  fz := fun x h => by
    rcases b.fz x h with h | h
    · rcases a.fz x h with h | ⟨o, h⟩
      · exact .inl h
      · exact .inr ⟨o, b.same x o h⟩
    · exact .inr h
  ρ := b.ρ.trans a.ρ
  same := fun x o h => b.same x o (a.same x o h)
/-- one thing more that stands still -/
def G.add (g : G) (p : Addr) : G := ⟨fun a => g.F a ∨ a = p, g.ρ⟩
theorem Grow.new {g : G} {H : Hp} {p : Addr} {o : HO} (h : H p = none) : Grow g H (g.add p) (upd H p o) where
  F := fun _ h => .inl h
  Fn := fun a q => q.imp id fun e => by rw [e]; exact h
  fz := fun a q => q.imp id fun e => ⟨o, by rw [e]; exact upd_same⟩
  ρ := rfl
  same := fun a u e => by rw [upd_ne (ne_of_none e h)]; exact e
/-- a new thing that nobody holds yet -/
theorem Grow.lay {g : G} {H : Hp} {p : Addr} {o : HO} (h : H p = none) : Grow g H g (upd H p o) where
  F := fun _ h => h
  Fn := fun a q => .inl q
  fz := fun a q => .inl q
  ρ := rfl
  same := fun a u e => by rw [upd_ne (ne_of_none e h)]; exact e
theorem Rep.grow {C : Ct} {g g' : G} {σ : L2.St} {H H' : Hp} {env : Env} {st : Store} (r : Rep C g σ H env st) (e : Grow g H g' H') : Rep C g' σ H' env st where
  len := r.len
  val := fun i d h => let ⟨v, a, b⟩ := r.val i d h; ⟨v, a, b.ext e.ext⟩
  own := fun i o h => by
    obtain ⟨a, h1, h2, h3, h4, h5⟩ := r.own i o h
    obtain ⟨u, hu⟩ := h2.there
    refine ⟨a, h1, h2.ext e.ext (e.same a), fun f => ?_, fun n => by rw [e.ρ]; exact h4 n, h5⟩
    rcases e.Fn a f with f | f
    · exact h3 f
    · rw [hu] at f; cases f
  inj := r.inj
  sto := by
    refine ⟨fun n o h => ?_, fun n a h => r.sto.lt n a (by rw [← e.ρ]; exact h), fun n m a h h' => r.sto.inj n m a (by rw [← e.ρ]; exact h) (by rw [← e.ρ]; exact h'), fun n a h f => ?_⟩
    · obtain ⟨a, h1, h2⟩ := r.sto.obj n o h
      exact ⟨a, by rw [e.ρ]; exact h1, h2.ext e.ext (e.same a)⟩
    · rw [e.ρ] at h
      rcases e.Fn a f with f | f
      · exact r.sto.nf n a h f
      · obtain ⟨_, u, _, _, hu⟩ := r.sto.there h
        rw [hu] at f; cases f
  fz := fun a f => by
    rcases e.fz a f with f | f
    · obtain ⟨o, h⟩ := r.fz a f
      exact ⟨o, e.same a o h⟩
    · exact f
  fr := by
    refine ⟨fun a h => e.F a (r.fr.F a h), fun a f => ?_, fun n a h => by rw [e.ρ]; exact r.fr.ρ n a h, fun n a h => r.fr.ρn n a (by rw [← e.ρ]; exact h), fun a o h n => e.same a o (r.fr.keep a o h n)⟩
    rcases e.Fn a f with f | f
    · exact r.fr.Fn a f
    · cases q : C.H0 a with
      | none => exact .inr rfl
      | some o =>
        left
        by_cases hn : ∀ n, C.g0.ρ n ≠ some a
        · rw [r.fr.keep a o q hn] at f; cases f
        · obtain ⟨n, hn⟩ := Classical.not_forall.mp hn
          have hn := Classical.not_not.mp hn
          obtain ⟨_, u, _, _, hu⟩ := r.sto.there (r.fr.ρ n a hn)
          rw [hu] at f; cases f
  prv := fun q hq => by
    obtain ⟨h1, h2, h3, h4⟩ := r.prv q hq
    refine ⟨e.same _ _ h1, fun f => ?_, fun n => by rw [e.ρ]; exact h3 n, h4⟩
    rcases e.Fn _ f with f | f
    · exact h2 f
    · rw [h1] at f; cases f
  prd := r.prd
end L3
end

section
set_option Elab.async false
set_option linter.all false
set_option maxRecDepth 100000
set_option maxHeartbeats 4000000
/-! L3b: the small language, and what it comes to. -/
namespace L3
open PySem PySem.Spec PyProof.Rows L2

/-- an exception: its class by number, its fields -/
structure Exn where
  cls : Nat
  fs : List (Str × D)
inductive Res (α : Type) where
  | ok (a : α) (st : Store)
  | ex (e : Exn) (st : Store)
  | no
def Res.bind {α β : Type} (r : Res α) (f : α → Store → Res β) : Res β := match r with
  | .ok a st => f a st
  | .ex e st => .ex e st
  | .no => .no
@[simp] theorem bind_ok {α β : Type} (a : α) (st : Store) (f : α → Store → Res β) : (Res.ok a st).bind f = f a st := rfl
@[simp] theorem bind_ex {α β : Type} (e : Exn) (st : Store) (f : α → Store → Res β) : (Res.ex e st : Res α).bind f = .ex e st := rfl
@[simp] theorem bind_no {α β : Type} (f : α → Store → Res β) : (Res.no : Res α).bind f = .no := rfl
def Res.of {α : Type} (o : Option α) (st : Store) : Res α := match o with
  | some a => .ok a st
  | none => .no
@[simp] theorem of_some {α : Type} (a : α) (st : Store) : Res.of (some a) st = .ok a st := rfl
@[simp] theorem of_none {α : Type} (st : Store) : Res.of (none : Option α) st = .no := rfl

/-! ### values -/
mutual
def toPy : D → Option PyData
  | .non => some .none
  | .bl b => some (.bool b)
  | .int i => some (.int i)
  | .str x => some (.str x)
  | .tup l => (toPys l).map .tuple
  | .lst l => (toPys l).map .list
  | _ => none
def toPys : List D → Option (List PyData)
  | [] => some []
  | d :: r => match toPy d, toPys r with
    | some x, some xs => some (x :: xs)
    | _, _ => none
end
def toKey : D → Option Key
  | .int i => some (.inl i)
  | .str x => some (.inr x)
  | _ => none
def toKeys : List D → Option (List Key)
  | [] => some []
  | d :: r => match toKey d, toKeys r with
    | some k, some ks => some (k :: ks)
    | _, _ => none
/-- are two flat values the very same -/
def sameF : D → D → Bool
  | .non, .non => true
  | .bl a, .bl b => a == b
  | .int i, .int j => i == j
  | .str a, .str b => decide (a = b)
  | _, _ => false
def keyEq : D → D → Bool
  | .int i, .int j => decide (i = j)
  | .str x, .str y => decide (x = y)
  | .tup l, .tup m => decide (toKeys l = toKeys m)
  | _, _ => false
def lookD (l : List (D × D)) (k : D) : Option D := (l.find? fun p => keyEq p.1 k).map (·.2)
/-- two dicts of flat values that are alike -/
def sameK (l m : List (D × D)) : Bool := decide (l.length = m.length) && l.all fun p => match lookD m p.1 with
  | some e => sameF p.2 e
  | none => false
def eqK (x y : D) : Option Bool := match x, y with
  | .dct .k l, .dct .k m => if sameK l m then some true else none
  | _, _ => none
def eqD (x y : D) : Option Bool := match toPy x, toPy y with
  | some a, some b => if SeqAt.shaped a && SeqAt.shaped b then some (PyData.eqv a b) else none
  | _, _ => eqK x y
def DO.toD : DO → Option D
  | .lst l => some (.lst l)
  | .dct k l => some (.dct k l)
  | .ins _ _ => none
/-- a list or dict of the store as a value, to be read at once -/
def drf (st : Store) : D → D
  | .ref n => match st[n]? with
    | some (.lst l) => .lst l
    | some (.dct k l) => .dct k l
    | _ => .ref n
  | d => d
def small (n : Nat) : Bool := decide (n ≤ sizeLine)
/-- place by place, lists and dicts of the store read at once -/
def allEq (st : Store) : List D → List D → Bool
  | [], [] => true
  | d :: ds, e :: es => (match eqD (drf st d) (drf st e) with
    | some b => b
    | none => false) && allEq st ds es
  | _, _ => false
def putD (l : List (D × D)) (k v : D) : List (D × D) := if l.any (fun p => keyEq p.1 k) then l.map (fun p => if keyEq p.1 k then (p.1, v) else p) else l ++ [(k, v)]
/-- may a thing be a key of such a dict -/
def isKey : DK → D → Bool
  | .k, d => (toKey d).isSome
  | .t, _ => false
def truD (st : Store) (d : D) : Option Bool := match drf st d with
  | .non => some false
  | .bl b => some b
  | .int i => some (i != 0)
  | .str x => if small x.length then some (x.length != 0) else none
  | .tup l => some (!l.isEmpty)
  | .lst l => some (!l.isEmpty)
  | _ => none
def mulOk (i j : Int) : Bool := decide (i.natAbs < 2 ^ 64) || decide (j.natAbs < 2 ^ 64)
def powOk (i j : Int) : Bool := decide (0 ≤ j) && decide (j ≤ 1000) && decide (i.natAbs < 2 ^ 1000)
def binD (op : Operator) (x y : D) : Option D := match op, x, y with
  | .Add, .int i, .int j => some (.int (i + j))
  | .Add, .str a, .str b => if small (a.length + b.length) then some (.str (a ++ b)) else none
  | .Add, .tup a, .tup b => if small (a.length + b.length) then some (.tup (a ++ b)) else none
  | .Add, .lst a, .lst b => if small (a.length + b.length) then some (.lst (a ++ b)) else none
  | .Sub, .int i, .int j => some (.int (i - j))
  | .Mult, .int i, .int j => if mulOk i j then some (.int (i * j)) else none
  | .Mod, .int i, .int j => if 0 < j then some (.int (i % j)) else none
  | .FloorDiv, .int i, .int j => if 0 < j ∧ j < 1073741824 then some (.int (i / j)) else none
  | .Pow, .int i, .int j => if powOk i j then some (.int (i ^ j.toNat)) else none
  | .Mult, .lst l, .int k => if decide (-(2 ^ 63) ≤ k) && decide (k < 2 ^ 63) && small (l.length * k.toNat) then some (.lst (List.replicate k.toNat l).flatten) else none
  | _, _, _ => none
/-- two lists, read at once -/
def catD (x y : D) : Option D := match x, y with
  | .lst a, .lst b => if small (a.length + b.length) then some (.lst (a ++ b)) else none
  | _, _ => none
def augD (op : Operator) (x y : D) : Option D := match op, x, y with
  | .Add, .int i, .int j => some (.int (i + j))
  | .Add, .str a, .str b => if small (a.length + b.length) then some (.str (a ++ b)) else none
  | .Sub, .int i, .int j => some (.int (i - j))
  | .Mult, .int i, .int j => if mulOk i j then some (.int (i * j)) else none
  | .Mod, .int i, .int j => if 0 < j then some (.int (i % j)) else none
  | .FloorDiv, .int i, .int j => if 0 < j ∧ j < 1073741824 then some (.int (i / j)) else none
  | .Add, .tup a, .tup b => if small (a.length + b.length) then some (.tup (a ++ b)) else none
  | _, _, _ => none
def noneP : PyData → Bool
  | .none => true
  | _ => false
/-- a < b of texts, numbers, tuples and lists of such, place by place -/
def ltD (x y : D) : Option Bool := match toPy x, toPy y with
  | some a, some b => if PySem.W.alike a b && decide (min a.depth b.depth ≤ 64) && !noneP a then some (PySem.W.dataLt a b) else none
  | _, _ => none
/-- a list's or a tuple's items -/
def seqD : D → Option (List D)
  | .lst l => some l
  | .tup l => some l
  | _ => none
def flatD : D → Bool
  | .non => true
  | .bl _ => true
  | .int _ => true
  | .str _ => true
  | _ => false
def flatEq (x y : D) : Bool := match x, y with
  | .non, .non => true
  | .bl a, .bl b => a == b
  | .bl a, .int j => (if a then 1 else 0) == j
  | .int i, .bl b => i == (if b then 1 else 0)
  | .int i, .int j => i == j
  | .str a, .str b => decide (a = b)
  | _, _ => false
def inD (x y : D) : Option Bool := match y with
  | .lst l => if flatD x && l.all flatD then some (l.any fun d => flatEq d x) else none
  | .tup l => if flatD x && l.all flatD then some (l.any fun d => flatEq d x) else none
  | .dct k l => if isKey k x then some (lookD l x).isSome else none
  | .str s => match x with
    | .str a => some (!(Builtin.Str.occurrences s a 0 s.length 1).isEmpty)
    | _ => none
  | _ => none
def isNon : D → Bool
  | .non => true
  | _ => false
def isD (x y : D) : Option Bool := match y with
  | .non => some (isNon x)
  | .bl b => match x with
    | .bl a => some (decide (a = b))
    | _ => none
  | _ => none
def cmpD (op : CmpOp) (x y : D) : Option Bool := match op with
  | .Eq => eqD x y
  | .NotEq => (eqD x y).map (!·)
  | .Lt => match x, y with
    | .int i, .int j => some (decide (i < j))
    | .str a, .str b => some (decide (a.cps.toList < b.cps.toList))
    | x, y => ltD x y
  | .LtE => match x, y with
    | .int i, .int j => some (decide (i ≤ j))
    | _, _ => none
  | .Gt => match x, y with
    | .int i, .int j => some (decide (j < i))
    | _, _ => none
  | .GtE => match x, y with
    | .int i, .int j => some (decide (j ≤ i))
    | _, _ => none
  | .In => inD x y
  | .NotIn => (inD x y).map (!·)
  | .Is => isD x y
  | .IsNot => (isD x y).map (!·)
def idxD (x y : D) : Option D := match x with
  | .lst l => match y with
    | .int i => atI l i
    | _ => none
  | .tup l => match y with
    | .int i => atI l i
    | _ => none
  | .str s => match y with
    | .int i => if small s.length then (atI s.cps.toList i).map fun c => .str ⟨#[c]⟩ else none
    | _ => none
  | .dct k l => if isKey k y then lookD l y else none
  | _ => none
/-- a cut's place -/
def cutL {α : Type} (xs : List α) (lo hi : Option Int) : List α := (xs.drop (HT.sIx xs.length 0 lo)).take (HT.sIx xs.length xs.length hi - HT.sIx xs.length 0 lo)
def slD (x : D) (lo hi : Option Int) : Option D := match x with
  | .lst l => some (.lst (cutL l lo hi))
  | .tup l => some (.tup (cutL l lo hi))
  | .str s => if small s.length then some (.str ⟨(cutL s.cps.toList lo hi).toArray⟩) else none
  | _ => none

/-! ### built-in functions and methods -/
inductive Prim where
  | len | abs | int_ | min2 | max2 | list_ | tuple_ | dict_ | all_ | any_ | sum | isi | divmod | str1 | sorted_
  deriving DecidableEq
/-- methods of built-in things -/
inductive Mth where
  | join | get2 | index | sw | ew | rp | split | part | find | tidx
  deriving DecidableEq
/-- the last of equal keys wins, at the first one's place -/
def mergeD (acc : List (D × D)) (ps : List (D × D)) : List (D × D) := ps.foldl (fun a p => putD a p.1 p.2) acc
def pairOf : D → Option (D × D)
  | .tup [a, b] => some (a, b)
  | _ => none
def pairsOf : List D → Option (List (D × D))
  | [] => some []
  | d :: r => match pairOf d, pairsOf r with
    | some p, some ps => some (p :: ps)
    | _, _ => none
def boolsOf : List D → Option (List Bool)
  | [] => some []
  | .bl b :: r => (boolsOf r).map (b :: ·)
  | _ => none
def intsOf : List D → Option (List Int)
  | [] => some []
  | .int b :: r => (intsOf r).map (b :: ·)
  | _ => none
def strsOf : List D → Option (List Str)
  | [] => some []
  | .str b :: r => (strsOf r).map (b :: ·)
  | _ => none
def rngD (a b : Int) : List D := (List.range (b - a).toNat).map fun (i : Nat) => .int (a + (i : Int))
def tyN (T : String) : Bool := decide (T ∈ ["int", "str", "bool", "tuple", "list"])
def isiD (T : String) (d : D) : Option Bool := match d with
  | .bl _ => some (T == "bool" || T == "int")
  | .int _ => some (T == "int")
  | .str _ => some (T == "str")
  | .tup _ => some (T == "tuple")
  | .lst _ => some (T == "list")
  | .non => some false
  | _ => none
/-- texts in order -/
def leS (a b : Str) : Bool := !decide (b.cps.toList < a.cps.toList)
def insS (x : Str) : List Str → List Str
  | [] => [x]
  | y :: r => if leS x y then x :: y :: r else y :: insS x r
def sortS (l : List Str) : List Str := l.foldr insS []
def primD (p : Prim) (vs : List D) : Option D := match p, vs with
  | .len, [.lst l] => some (.int l.length)
  | .len, [.tup l] => some (.int l.length)
  | .len, [.dct k l] => match k with
    | .k => some (.int l.length)
    | .t => none
  | .len, [.str s] => if small s.length then some (.int s.length) else none
  | .abs, [.int i] => some (.int (if i < 0 then -i else i))
  | .int_, [.int i] => some (.int i)
  | .int_, [.bl b] => some (.int (if b then 1 else 0))
  | .min2, [.int i, .int j] => some (.int (if j < i then j else i))
  | .max2, [.int i, .int j] => some (.int (if j > i then j else i))
  | .list_, [.lst l] => some (.lst l)
  | .list_, [.tup l] => some (.lst l)
  | .tuple_, [.lst l] => some (.tup l)
  | .tuple_, [.tup l] => some (.tup l)
  | .dict_, [.tup l] => match pairsOf l with
    | some ps => if ps.all (fun p => (toKey p.1).isSome) && small ps.length then some (.dct .k (mergeD [] ps)) else none
    | none => none
  | .dict_, [.lst l] => match pairsOf l with
    | some ps => if ps.all (fun p => (toKey p.1).isSome) && small ps.length then some (.dct .k (mergeD [] ps)) else none
    | none => none
  | .all_, [.lst l] => (boolsOf l).map fun bs => .bl (bs.all id)
  | .any_, [.lst l] => (boolsOf l).map fun bs => .bl (bs.any id)
  | .sum, [.lst l] => (intsOf l).map fun ns => .int ns.sum
  | .isi, [d, .ty T] => if tyN T then (isiD T d).map .bl else none
  | .str1, [.int i] => if decide (i.natAbs < 2 ^ 64) then some (.str (toString i)) else none
  | .divmod, [.int i, .int j] => if 0 < j ∧ j < 1073741824 then some (.tup [.int (i / j), .int (i % j)]) else none
  | .int_, [.str s] => if decide (s.length ≤ 640) then (PySem.intText? s).map .int else none
  | .sorted_, [.lst l] => match strsOf l with
    | some ss => if decide (ss.length < 64) then some (.lst ((sortS ss).map .str)) else none
    | none => none
  | _, _ => none
/-- of what a method is one -/
def mTy (m : Mth) (d : D) : Bool := match m, d with
  | .join, .str _ => true
  | .get2, .dct .k _ => true
  | .index, .lst _ => true
  | .tidx, .tup _ => true
  | .sw, .str _ => true
  | .ew, .str _ => true
  | .rp, .str _ => true
  | .split, .str _ => true
  | .part, .str _ => true
  | .find, .str _ => true
  | _, _ => false
/-- the first place of an equal one -/
def indexD (l : List D) (x : D) : Option D := match toPys l, toPy x with
  | some ps, some p => if SeqAt.shaped (.list ps) && SeqAt.shaped p then (ps.findIdx? fun z => PyData.eqv z p).map fun (j : Nat) => .int j else none
  | _, _ => none
def mthD (m : Mth) (x : D) (vs : List D) : Option D := match m, x, vs with
  | .join, .str s, [.lst l] => match strsOf l with
    | some ss => if decide ((ss.map Str.length).sum + ss.length * s.length ≤ 1000000) then some (.str (Txt.join s ss)) else none
    | none => none
  | .get2, .dct k l, [x, d] => if isKey k x && flatD d then some ((lookD l x).getD d) else none
  | .index, .lst l, [x] => indexD l x
  | .sw, .str a, [.str b] => some (.bl (Txt.startswith a b))
  | .ew, .str a, [.str b] => some (.bl (Txt.endswith a b))
  | .rp, .str a, [.str b] => if small a.length then some (.str (Txt.removeprefix a b)) else none
  | .split, .str a, [.str b] => if !(b.length == 0) && small (a.length + 2) then some (.lst ((Txt.split a b).map .str)) else none
  | .part, .str a, [.str b] => if !(b.length == 0) && small a.length then some (.tup [.str (Txt.partition a b).1, .str (Txt.partition a b).2.1, .str (Txt.partition a b).2.2]) else none
  | .find, .str a, [.str b] => some (.int (Txt.find a b))
  | .tidx, .tup l, [.str z] => match strsOf l with
    | some ss => (ss.findIdx? fun s => decide (s = z)).map fun (j : Nat) => .int j
    | none => none
  | _, _, _ => none

/-! ### the syntax -/
mutual
inductive Pat where
  | nm (i : Nat)
  | tp (l : Pats)
inductive Pats where
  | nil
  | cons (p : Pat) (l : Pats)
end
mutual
inductive A where
  | var (i : Nat)
  | lit (d : D)
  | glo (k : Nat)
  | bin (op : Operator) (a b : A)
  | cat (a b : A)
  | neg (a : A)
  | cmp (op : CmpOp) (a b : A)
  | chn (op o2 : CmpOp) (a b c : A)
  | andL (l : As)
  | orL (l : As)
  | not_ (a : A)
  | ite (c a b : A)
  | tup (l : As)
  | lst (l : As)
  | lsr (l : As)
  | idx (a b : A)
  | sl (a : A) (lo hi : Ao)
  | rev (a : A)
  | call (f : Nat) (l : As)
  | callK (c : Nat) (l lk : As)
  | prim (p : Prim) (l : As)
  | ty (n : String)
  | lrng (it : It)
  | mth (m : Mth) (a : A) (l : As)
  | fnc (f : Nat) (x : Str)
  | callV (i : Nat) (cs : List (Nat × Str)) (l : As)
  | inK (neg : Bool) (x : Str) (ks : List Str) (a : A)
  | pop (o i : A)
  | lref (a : A)
  | comp (own : List Nat) (p : Pat) (it : It) (c : Ao) (e : A)
  | dcomp (own : List Nat) (p : Pat) (it : It) (c : Ao) (k v : A)
  | new (a : A)
  | attr (cs : List Nat) (o : A) (f : Str)
  | make (c : Nat) (x : Str) (f : Nat) (l : As)
  | callM (m : Str) (cs : List (Nat × Nat)) (o : A) (l : As)
  | disp (ks : List Str) (l : As)
  | tabI (x : Str) (t : List (Str × D)) (a : A)
  | tabG (x : Str) (t : List (Str × D)) (a b : A)
  | eqT (l m : As)
  | isiO (cs : List Nat) (a : A) (n : String)
inductive As where
  | nil
  | cons (a : A) (l : As)
inductive Ao where
  | no
  | so (a : A)
inductive It where
  | seq (a : A)
  | rng1 (a : A)
  | rng2 (a b : A)
  | enum (a : A)
  | zip2 (a b : A)
  | zipS (a b : A)
  | revd (a : A)
end
/-! what an except suite may tell: the caught one's fields, tests of its class -/
mutual
inductive HE where
  | lit (d : D)
  | var (i : Nat)
  | fld (f : Str)
  | isi (c : Nat) (tup : Bool) (l : List (Bool × Str)) (b : Bool)
  | not_ (a : HE)
  | and_ (a b : HE)
  | or_ (a b : HE)
  | ite (c a b : HE)
  | tup (l : HEs)
  | cmp (op : CmpOp) (a b : HE)
inductive HEs where
  | nil
  | cons (a : HE) (l : HEs)
end
inductive HS where
  | ret (a : HE)
  | ifr (c a : HE) (r : HS)
  | nx
  | ct
mutual
inductive S where
  | asg (p : Pat) (a : A)
  | asgO (i : Nat) (a : A)
  | asgS (i j : Nat) (a : A)
  | par2 (i j : Nat) (a b : A)
  | aug (op : Operator) (i : Nat) (a : A)
  | setR (o i v : A)
  | setS (i : Nat) (b v : A)
  | app (i : Nat) (a : A)
  | appR (o a : A)
  | ext (i : Nat) (a : A)
  | expr (a : A)
  | ret (a : A)
  | if_ (c : A) (t e : Ss)
  | for_ (p : Pat) (it : It) (b : Ss)
  | brk
  | cnt
  | pass
  | frz (i : Nat) (s : S)
  | setA (cs : List Nat) (o : A) (f : Str) (v : A)
  | augA (op : Operator) (cs : List Nat) (o : A) (f : Str) (v : A)
  | asgM (hs : List Nat) (j : Nat) (a : A)
  | nope
  | clr (o : A)
  | rais (c : Nat) (x : Str) (fl : List Str) (l : As)
  | tryA (b : Ss) (c : Nat) (x : Str) (all : List Nat) (i : Option Nat) (h : HS)
  | wh (n : Nat) (c : A) (b : Ss)
inductive Ss where
  | nil
  | cons (s : S) (l : Ss)
end

/-! ### what it comes to -/
/-- a call's shape: the function, the number of positional arguments and of keywords, the parameters' order -/
structure KC where
  f : Nat
  n : Nat
  nk : Nat
  p : List (Sum Nat D)
/-- the functions by number; the module's constants; the calls with keywords or defaults -/
structure Tb where
  fn : Nat → List D → Store → Res D
  con : Nat → D
  kp : Nat → KC
mutual
def bindP : Pat → D → Env → Option Env
  | .nm i, d, env => some (env.set i (some (.val d)))
  | .tp l, d, env => match d with
    | .tup ds => bindPs l ds env
    | _ => none
def bindPs : Pats → List D → Env → Option Env
  | .nil, ds, env => match ds with
    | [] => some env
    | _ :: _ => none
  | .cons p l, ds, env => match ds with
    | [] => none
    | d :: r => match bindP p d env with
      | some e => bindPs l r e
      | none => none
end
def valAt (env : Env) (i : Nat) : Option D := match env[i]? with
  | some (some (.val d)) => some d
  | _ => none
def ownAt (env : Env) (i : Nat) : Option DO := match env[i]? with
  | some (some (.own o)) => some o
  | _ => none
/-- a slot's own object, to be read at once -/
def borAt (env : Env) (i : Nat) : Option D := match env[i]? with
  | some (some (.val d)) => some d
  | some (some (.own o)) => o.toD
  | _ => none
def wipeE (env : Env) : List Nat → Env
  | [] => env
  | v :: vs => (wipeE env vs).set v none
/-- the arguments in the def's order -/
def permD (ds : List D) : List (Sum Nat D) → Option (List D)
  | [] => some []
  | .inl i :: r => match ds[i]?, permD ds r with
    | some d, some l => some (d :: l)
    | _, _ => none
  | .inr d :: r => (permD ds r).map (d :: ·)
def permK (k : KC) (ds es : List D) : Option (List D) := if ds.length = k.n ∧ es.length = k.nk then permD (ds ++ es) k.p else none
def compGo {α : Type} (f : D → α → Store → Res α) : List D → α → Store → Res α
  | [], acc, st => .ok acc st
  | x :: r, acc, st => (f x acc st).bind fun acc' st' => compGo f r acc' st'
/-- a text's signs, one by one -/
def chrs (x : Str) : List D := x.cps.toList.map fun c => .str ⟨#[c]⟩
/-- l.pop(i) of a list of the store -/
def popD (st : Store) (x i : D) : Res D := match x with
  | .ref n => match st[n]? with
    | some (.lst l) => match i with
      | .int k => if decide (-(2 ^ 63) ≤ k) && decide (k < 2 ^ 63) then match seqIndex? k l.length with
        | some j => match l[j]? with
          | some d => .ok d (st.set n (.lst (l.eraseIdx j)))
          | none => .no
        | none => .no
        else .no
      | _ => .no
    | _ => .no
  | _ => .no
def isLs (st : Store) : D → Bool
  | .ref n => match st[n]? with
    | some (.lst _) => true
    | _ => false
  | _ => false
/-- is the text one of these -/
def inKD (neg : Bool) (ks : List Str) : D → Option D
  | .str z => some (.bl (if neg then !decide (z ∈ ks) else decide (z ∈ ks)))
  | _ => none
/-- a value as an object of its own -/
def D.toO : D → Option DO
  | .lst l => some (.lst l)
  | .dct k l => some (.dct k l)
  | _ => none
/-- the attribute of an instance of one of some classes -/
def attrD (cs : List Nat) (st : Store) (x : D) (f : Str) : Option D := match x with
  | .ref n => match st[n]? with
    | some (.ins c fs) => if decide (c ∈ cs) then fs.lookup f else none
    | _ => none
  | _ => none
/-- .. with its class -/
def attrC (cs : List Nat) (st : Store) (x : D) (f : Str) : Option (Nat × D) := match x with
  | .ref n => match st[n]? with
    | some (.ins c fs) => if decide (c ∈ cs) then (fs.lookup f).map fun d => (c, d) else none
    | _ => none
  | _ => none
def putFD (f : Str) (v : D) : List (Str × D) → List (Str × D)
  | [] => [(f, v)]
  | (g, x) :: r => if g = f then (g, v) :: r else (g, x) :: putFD f v r
/-- an attribute is set -/
def setFD (cs : List Nat) (st : Store) (x : D) (f : Str) (v : D) : Option Store := match x with
  | .ref n => match st[n]? with
    | some (.ins c fs) => if decide (c ∈ cs) && decide (fs.length < 1000) then some (st.set n (.ins c (putFD f v fs))) else none
    | _ => none
  | _ => none
/-- the method of an instance's class -/
def methD (cs : List (Nat × Nat)) (st : Store) (x : D) (m : Str) : Option Nat := match x with
  | .ref n => match st[n]? with
    | some (.ins c fs) => if (fs.lookup m).isNone then cs.lookup c else none
    | _ => none
  | _ => none
def dispD (ks : List Str) (ds : List D) : Option D := if ks.length = ds.length ∧ ks.length ≤ 15 then some (.dct .k (mergeD [] ((ks.map D.str).zip ds))) else none
def tabD (t : List (Str × D)) : D → Option D
  | .str z => t.lookup z
  | _ => none
def tabGD (t : List (Str × D)) (d : D) : D → Option D
  | .str z => some ((t.lookup z).getD d)
  | _ => none
def clrD (st : Store) (x : D) : Option Store := match x with
  | .ref n => match st[n]? with
    | some (.dct .k _) => some (st.set n (.dct .k []))
    | _ => none
  | _ => none
/-- several first ones -/
def setHs (env : Env) : List Nat → List D → Env
  | i :: r, d :: ds => setHs (env.set i (some (.val d))) r ds
  | _, _ => env
def fnvAt (env : Env) (i : Nat) : Option (Nat × Str) := match env[i]? with
  | some (some (.val (.fnv f x))) => some (f, x)
  | _ => none
/-- the operand as it is read at once -/
def evB (a : A) (env : Env) (st : Store) (r : Res D) : Res D := match a with
  | .var i => .of (borAt env i) st
  | _ => r
/-- no exception leaves -/
def Res.nox {α : Type} (r : Res α) : Res α := match r with
  | .ok a st => .ok a st
  | _ => .no
@[simp] theorem nox_ok {α : Type} (a : α) (st : Store) : (Res.ok a st).nox = .ok a st := rfl
@[simp] theorem nox_ex {α : Type} (e : Exn) (st : Store) : (Res.ex e st : Res α).nox = .no := rfl
@[simp] theorem nox_no {α : Type} : (Res.no : Res α).nox = .no := rfl
/-- isinstance of a value, or of an instance of such classes (these are of no such type) -/
def isiOD (cs : List Nat) (n : String) (st : Store) (x : D) : Option D := match drf st x with
  | .ref m => match st[m]? with
    | some (.ins c _) => if c ∈ cs ∧ tyN n = true then some (.bl false) else none
    | _ => none
  | d => if tyN n then (isiD n d).map .bl else none
mutual
def ev (T : Tb) : A → Env → Store → Res D
  | .var i, env, st => .of (valAt env i) st
  | .lit d, _, st => .ok d st
  | .glo k, _, st => .ok (T.con k) st
  | .bin op a b, env, st => (ev T a env st).bind fun x st => (ev T b env st).bind fun y st => .of (binD op x y) st
  | .cat a b, env, st => (evB a env st (ev T a env st)).bind fun x st => (evB b env st (ev T b env st)).bind fun y st => .of (catD (drf st x) (drf st y)) st
  | .neg a, env, st => (ev T a env st).bind fun x st => match x with
    | .int i => .ok (.int (-i)) st
    | _ => .no
  | .cmp op a b, env, st => (evB a env st (ev T a env st)).bind fun x st => (evB b env st (ev T b env st)).bind fun y st => .of ((cmpD op (drf st x) (drf st y)).map .bl) st
  | .chn o1 o2 a b c, env, st => (ev T a env st).bind fun x st => (ev T b env st).bind fun y st => (Res.of (cmpD o1 (drf st x) (drf st y)) st).bind fun k st =>
      if k then (ev T c env st).bind fun z st => .of ((cmpD o2 (drf st y) (drf st z)).map .bl) st else .ok (.bl false) st
  | .andL l, env, st => evAnd T l env st
  | .orL l, env, st => evOr T l env st
  | .not_ a, env, st => (evB a env st (ev T a env st)).bind fun x st => .of ((truD st x).map fun k => .bl (!k)) st
  | .ite c a b, env, st => (evB c env st (ev T c env st)).bind fun x st => (Res.of (truD st x) st).bind fun k st => if k then ev T a env st else ev T b env st
  | .tup l, env, st => (evs T l env st).bind fun ds st => if small ds.length then .ok (.tup ds) st else .no
  | .lst l, env, st => (evs T l env st).bind fun ds st => if small ds.length then .ok (.lst ds) st else .no
  | .lsr l, env, st => (evs T l env st).bind fun ds st => if small ds.length then .ok (.ref st.length) (st ++ [.lst ds]) else .no
  | .idx a b, env, st => (evB a env st (ev T a env st)).bind fun x st => (ev T b env st).bind fun y st => .of (idxD (drf st x) y) st
  | .sl a lo hi, env, st => (evB a env st (ev T a env st)).bind fun x st => (evo T lo env st).bind fun l st => (evo T hi env st).bind fun h st => .of (slD (drf st x) l h) st
  | .rev a, env, st => (evB a env st (ev T a env st)).bind fun x st => match drf st x with
    | .lst l => .ok (.lst l.reverse) st
    | _ => .no
  | .call f l, env, st => (evs T l env st).bind fun ds st => T.fn f ds st
  | .callK c l lk, env, st => (evs T l env st).bind fun ds st => (evs T lk env st).bind fun es st => (Res.of (permK (T.kp c) ds es) st).bind fun as st => T.fn (T.kp c).f as st
  | .prim p l, env, st => (evbs T l env st).bind fun ds st => .of (primD p (ds.map (drf st))) st
  | .ty n, _, st => .ok (.ty n) st
  | .lrng it, env, st => (evi T false it env st).bind fun l st => if decide (l.length ≤ 2 ^ 24) then .ok (.lst l) st else .no
  | .mth m a l, env, st => (evB a env st (ev T a env st)).bind fun d st => if mTy m (drf st d) then (evbs T l env st).bind fun ds st => .of (mthD m (drf st d) (ds.map (drf st))) st else .no
  | .fnc f x, _, st => .ok (.fnv f x) st
  | .callV i cs l, env, st => match fnvAt env i with
    | some p => if decide (p ∈ cs) then (evs T l env st).bind fun ds st => T.fn p.1 ds st else .no
    | none => .no
  | .inK neg _ ks a, env, st => (ev T a env st).bind fun x st => .of (inKD neg ks x) st
  | .pop o i, env, st => (ev T o env st).bind fun x st => if isLs st x then (ev T i env st).bind fun y st => popD st x y else .no
  | .lref a, env, st => (evB a env st (ev T a env st)).bind fun d st => match seqD (drf st d) with
    | some l => if small l.length then .ok (.ref st.length) (st ++ [.lst l]) else .no
    | none => .no
  | .comp own p it c e, env, st => if own.any (fun i => (ownAt env i).isSome) then .no else (evi T true it env st).bind fun xs st =>
      (compGo (fun x acc st => (Res.of (bindP p x (wipeE env own)) st).bind fun env' st =>
        (evc T c env' st).nox.bind fun k st => if k then (ev T e env' st).nox.bind fun d st => if decide (acc.length < sizeLine) then .ok (acc ++ [d]) st else .no else .ok acc st) xs [] st).bind fun ds st => .ok (.lst ds) st
  | .dcomp own p it c k v, env, st => if own.any (fun i => (ownAt env i).isSome) then .no else (evi T true it env st).bind fun xs st =>
      (compGo (fun x acc st => (Res.of (bindP p x (wipeE env own)) st).bind fun env' st =>
        (evc T c env' st).nox.bind fun b st => if b then (ev T k env' st).nox.bind fun y st => (ev T v env' st).nox.bind fun z st => if isKey .k y && decide (acc.length < sizeLine) then .ok (putD acc y z) st else .no else .ok acc st) xs [] st).bind fun l st => .ok (.dct .k l) st
  | .new a, env, st => (ev T a env st).bind fun d st => match d.toO with
    | some o => .ok (.ref st.length) (st ++ [o])
    | none => .no
  | .attr cs o f, env, st => (ev T o env st).bind fun x st => .of (attrD cs st x f) st
  | .make c _ f l, env, st => (evs T l env st).bind fun ds st => (T.fn f (.ref st.length :: ds) (st ++ [.ins c []])).bind fun d st2 => match d with
    | .non => .ok (.ref st.length) st2
    | _ => .no
  | .callM m cs o l, env, st => (ev T o env st).bind fun x st => (Res.of (methD cs st x m) st).bind fun f st => (evs T l env st).bind fun ds st => T.fn f (x :: ds) st
  | .disp ks l, env, st => (evs T l env st).bind fun ds st => .of (dispD ks ds) st
  | .tabI _ t a, env, st => (ev T a env st).bind fun d st => .of (tabD t d) st
  | .tabG _ t a b, env, st => (ev T a env st).bind fun d st => (ev T b env st).bind fun e st => .of (tabGD t e d) st
  | .isiO cs a n, env, st => (ev T a env st).bind fun x st => .of (isiOD cs n st x) st
  | .eqT l m, env, st => (evs T l env st).bind fun ds st => (if small ds.length then (evs T m env st).bind fun es st => if allEq st ds es && small es.length then .ok (.bl true) st else .no else .no : Res D)
def evs (T : Tb) : As → Env → Store → Res (List D)
  | .nil, _, st => .ok [] st
  | .cons a l, env, st => (ev T a env st).bind fun d st => (evs T l env st).bind fun ds st => .ok (d :: ds) st
def evbs (T : Tb) : As → Env → Store → Res (List D)
  | .nil, _, st => .ok [] st
  | .cons a l, env, st => (evB a env st (ev T a env st)).bind fun d st => (evbs T l env st).bind fun ds st => .ok (d :: ds) st
def evAnd (T : Tb) : As → Env → Store → Res D
  | .nil, _, _ => .no
  | .cons a l, env, st => match l with
    | .nil => ev T a env st
    | .cons _ _ => (ev T a env st).bind fun x st => match x with
      | .bl k => if k then evAnd T l env st else .ok (.bl false) st
      | _ => .no
def evOr (T : Tb) : As → Env → Store → Res D
  | .nil, _, _ => .no
  | .cons a l, env, st => match l with
    | .nil => ev T a env st
    | .cons _ _ => (ev T a env st).bind fun x st => match x with
      | .bl k => if k then .ok (.bl true) st else evOr T l env st
      | _ => .no
def evo (T : Tb) : Ao → Env → Store → Res (Option Int)
  | .no, _, st => .ok none st
  | .so a, env, st => (ev T a env st).bind fun d st => match d with
    | .int i => .ok (some i) st
    | _ => .no
def evc (T : Tb) : Ao → Env → Store → Res Bool
  | .no, _, st => .ok true st
  | .so a, env, st => (evB a env st (ev T a env st)).bind fun d st => .of (truD st d) st
def evi (T : Tb) (bor : Bool) : It → Env → Store → Res (List D)
  | .seq a, env, st => (if bor then evB a env st (ev T a env st) else ev T a env st).bind fun d st => match d with
    | .lst l => .ok l st
    | .tup l => .ok l st
    | .str x => .ok (chrs x) st
    | _ => .no
  | .rng1 a, env, st => (ev T a env st).bind fun d st => match d with
    | .int n => if decide (-(2 ^ 62) ≤ n) && decide (n < 2 ^ 62) then .ok (rngD 0 n) st else .no
    | _ => .no
  | .rng2 a b, env, st => (ev T a env st).bind fun x st => (ev T b env st).bind fun y st => match x, y with
    | .int i, .int j => if decide (-(2 ^ 62) ≤ i) && decide (i < 2 ^ 62) && decide (-(2 ^ 62) ≤ j) && decide (j < 2 ^ 62) then .ok (rngD i j) st else .no
    | _, _ => .no
  | .enum a, env, st => (ev T a env st).bind fun d st => match d with
    | .lst l => .ok (l.zipIdx.map fun p => .tup [.int p.2, p.1]) st
    | .tup l => .ok (l.zipIdx.map fun p => .tup [.int p.2, p.1]) st
    | _ => .no
  | .zip2 a b, env, st => (ev T a env st).bind fun x st => (ev T b env st).bind fun y st => match seqD x, seqD y with
    | some l, some m => .ok ((l.zip m).map fun p => .tup [p.1, p.2]) st
    | _, _ => .no
  | .zipS a b, env, st => (ev T a env st).bind fun x st => (ev T b env st).bind fun y st => match seqD x, seqD y with
    | some l, some m => if decide (l.length = m.length) then .ok ((l.zip m).map fun p => .tup [p.1, p.2]) st else .no
    | _, _ => .no
  | .revd a, env, st => (ev T a env st).bind fun d st => match d with
    | .lst l => .ok l.reverse st
    | _ => .no
end
inductive Fl where
  | nx | bk | ct
  | rt (d : D)
inductive SR where
  | ok (f : Fl) (env : Env) (st : Store)
  | ex (e : Exn) (env : Env) (st : Store)
  | no
def Res.go {α : Type} (r : Res α) (env : Env) (f : α → Store → SR) : SR := match r with
  | .ok a st => f a st
  | .ex e st => .ex e env st
  | .no => .no
@[simp] theorem go_ok {α : Type} (a : α) (st : Store) (env : Env) (f : α → Store → SR) : (Res.ok a st).go env f = f a st := rfl
@[simp] theorem go_ex {α : Type} (e : Exn) (st : Store) (env : Env) (f : α → Store → SR) : (Res.ex e st : Res α).go env f = .ex e env st := rfl
@[simp] theorem go_no {α : Type} (env : Env) (f : α → Store → SR) : (Res.no : Res α).go env f = .no := rfl
def SR.then (r : SR) (f : Env → Store → SR) : SR := match r with
  | .ok .nx env st => f env st
  | r => r
def oSR (o : Option Env) (st : Store) : SR := match o with
  | some e => .ok .nx e st
  | none => .no
def forGo (p : Pat) (f : Env → Store → SR) : List D → Env → Store → SR
  | [], env, st => .ok .nx env st
  | x :: r, env, st => match bindP p x env with
    | none => .no
    | some e => match f e st with
      | .ok .nx e' st' => forGo p f r e' st'
      | .ok .ct e' st' => forGo p f r e' st'
      | .ok .bk e' st' => .ok .nx e' st'
      | r => r
def noRefD : D → Bool
  | .ref _ => false
  | _ => true
/-- while: at most so many looks at the test -/
def whGo (c : Env → Store → Res Bool) (f : Env → Store → SR) : Nat → Env → Store → SR
  | 0, _, _ => .no
  | n + 1, env, st => (c env st).go env fun k st => if k then (match f env st with
      | .ok .nx e' st' => whGo c f n e' st'
      | .ok .ct e' st' => whGo c f n e' st'
      | .ok .bk e' st' => .ok .nx e' st'
      | r => r) else .ok .nx env st
mutual
def hev : HE → Exn → Env → Option D
  | .lit d, _, _ => some d
  | .var i, _, env => valAt env i
  | .fld f, e, _ => e.fs.lookup f
  | .isi c _ _ b, e, _ => if e.cls = c then some (.bl b) else none
  | .not_ a, e, env => match hev a e env with
    | some (.bl b) => some (.bl (!b))
    | _ => none
  | .and_ a b, e, env => match hev a e env with
    | some (.bl k) => if k then hev b e env else some (.bl false)
    | _ => none
  | .or_ a b, e, env => match hev a e env with
    | some (.bl k) => if k then some (.bl true) else hev b e env
    | _ => none
  | .ite c a b, e, env => match hev c e env with
    | some (.bl k) => if k then hev a e env else hev b e env
    | _ => none
  | .tup l, e, env => match hevs l e env with
    | some ds => if small ds.length then some (.tup ds) else none
    | none => none
  | .cmp op a b, e, env => match hev a e env with
    | some x => match hev b e env with
      | some y => if noRefD x && noRefD y then (cmpD op x y).map .bl else none
      | none => none
    | none => none
def hevs : HEs → Exn → Env → Option (List D)
  | .nil, _, _ => some []
  | .cons a l, e, env => match hev a e env with
    | some d => match hevs l e env with
      | some ds => some (d :: ds)
      | none => none
    | none => none
end
def hsv : HS → Exn → Env → Option Fl
  | .ret a, e, env => (hev a e env).map .rt
  | .ifr c a r, e, env => match hev c e env with
    | some (.bl k) => if k then (hev a e env).map .rt else hsv r e env
    | _ => none
  | .nx, _, _ => some .nx
  | .ct, _, _ => some .ct
def hasO (env : Env) : Option Nat → Bool
  | some i => decide (i < env.length)
  | none => true
def wipO (env : Env) : Option Nat → Env
  | some i => env.set i none
  | none => env
/-- o[i] = v of an object -/
def setO (o : DO) (i v : D) : Option DO := match o with
  | .lst l => match i with
    | .int k => (ixN l.length k).map fun j => .lst (l.set j v)
    | _ => none
  | .dct k l => if isKey k i && decide (l.length < sizeLine) then some (.dct k (putD l i v)) else none
  | .ins _ _ => none
mutual
def ex (T : Tb) : S → Env → Store → SR
  | .asg p a, env, st => (ev T a env st).go env fun d st => oSR (bindP p d env) st
  | .asgO i a, env, st => (ev T a env st).go env fun d st => oSR (d.toO.map fun o => env.set i (some (.own o))) st
  | .asgS i j a, env, st => (ev T a env st).go env fun d st => match d with
    | .lst (x :: r) => if decide (r.length < 16384) then .ok .nx ((env.set i (some (.val x))).set j (some (.val (.lst r)))) st else .no
    | _ => .no
  | .par2 i j a b, env, st => (ev T a env st).go env fun x st => (ev T b env st).go env fun y st => .ok .nx ((env.set i (some (.val x))).set j (some (.val y))) st
  | .aug op i a, env, st => (Res.of (valAt env i) st).go env fun x st => (ev T a env st).go env fun y st => (Res.of (augD op x y) st).go env fun z st => .ok .nx (env.set i (some (.val z))) st
  | .setS i b v, env, st => match ownAt env i with
    | some ob => (ev T v env st).go env fun z st => (ev T b env st).go env fun y st => match setO ob y z with
      | some ob' => .ok .nx (env.set i (some (.own ob'))) st
      | none => .no
    | none => .no
  | .setR o i v, env, st => (ev T v env st).go env fun z st => (ev T o env st).go env fun x st => (ev T i env st).go env fun y st => match x with
    | .ref n => match st[n]? with
      | some ob => match setO ob y z with
        | some ob' => .ok .nx env (st.set n ob')
        | none => .no
      | none => .no
    | _ => .no
  | .app i a, env, st => match ownAt env i with
    | some (.lst l) => (ev T a env st).go env fun d st => if decide (l.length < sizeLine) then .ok .nx (env.set i (some (.own (.lst (l ++ [d]))))) st else .no
    | _ => .no
  | .appR o a, env, st => (ev T o env st).go env fun x st => match x with
    | .ref n => match st[n]? with
      | some (.lst _) => (ev T a env st).go env fun d st => match st[n]? with
        | some (.lst l) => if decide (l.length < sizeLine) then .ok .nx env (st.set n (.lst (l ++ [d]))) else .no
        | _ => .no
      | _ => .no
    | _ => .no
  | .ext i a, env, st => match ownAt env i with
    | some (.lst l) => (evB a env st (ev T a env st)).go env fun d st => match drf st d with
      | .lst m => if decide (l.length + m.length ≤ sizeLine) then .ok .nx (env.set i (some (.own (.lst (l ++ m))))) st else .no
      | _ => .no
    | _ => .no
  | .expr a, env, st => (ev T a env st).go env fun _ st => .ok .nx env st
  | .ret a, env, st => (ev T a env st).go env fun d st => .ok (.rt d) env st
  | .if_ c t e, env, st => (evB c env st (ev T c env st)).go env fun x st => (Res.of (truD st x) st).go env fun k st => if k then exs T t env st else exs T e env st
  | .for_ p it b, env, st => (evi T false it env st).go env fun xs st => forGo p (fun e s => exs T b e s) xs env st
  | .brk, env, st => .ok .bk env st
  | .cnt, env, st => .ok .ct env st
  | .pass, env, st => .ok .nx env st
  | .frz i s, env, st => match (ownAt env i).bind DO.toD with
    | some d => ex T s (env.set i (some (.val d))) st
    | none => match valAt env i with
      | some _ => ex T s env st
      | none => .no
  | .setA cs o f v, env, st => (ev T v env st).go env fun z st => (ev T o env st).go env fun x st => (Res.of (setFD cs st x f z) st).go env fun st2 _ => .ok .nx env st2
  | .augA op cs o f v, env, st => (ev T o env st).go env fun x st => (Res.of (attrC cs st x f) st).go env fun w st => (ev T v env st).go env fun y st => (Res.of (augD op w.2 y) st).go env fun z st => (Res.of (setFD [w.1] st x f z) st).go env fun st2 _ => .ok .nx env st2
  | .asgM hs j a, env, st => (ev T a env st).go env fun d st => match d with
    | .tup l => if decide (hs.length ≤ l.length) && decide (l.length < 16384) then .ok .nx ((setHs env hs (l.take hs.length)).set j (some (.val (.lst (l.drop hs.length))))) st else .no
    | _ => .no
  | .nope, _, _ => .no
  | .clr o, env, st => (ev T o env st).go env fun x st => (Res.of (clrD st x) st).go env fun st2 _ => .ok .nx env st2
  | .rais c _ fl l, env, st => (evs T l env st).go env fun ds st => if ds.length = fl.length then .ex ⟨c, (fl.zip ds).reverse⟩ env st else .no
  | .tryA b c _ all i h, env, st => match exs T b env st with
    | .ex e env' st' => if e.cls = c then (if hasO env' i then (match hsv h e (wipO env' i) with
        | some f => .ok f (wipO env' i) st'
        | none => .no) else .no) else if e.cls ∈ all then .ex e env' st' else .no
    | r => r
  | .wh n c b, env, st => whGo (fun e s => (evB c e s (ev T c e s)).bind fun d s => .of (truD s d) s) (fun e s => exs T b e s) n env st
def exs (T : Tb) : Ss → Env → Store → SR
  | .nil, env, st => .ok .nx env st
  | .cons s l, env, st => (ex T s env st).then fun env st => exs T l env st
end
/-- a def's body at its arguments -/
def runF (T : Tb) (n many : Nat) (b : Ss) (args : List D) (st : Store) : Res D :=
  if args.length = n then match exs T b (args.map (fun d => some (.val d)) ++ List.replicate (many - n) none) st with
    | .ok (.rt d) _ st => .ok d st
    | .ok .nx _ st => .ok .non st
    | .ex e _ st => .ex e st
    | _ => .no
  else .no
end L3
end

section
set_option Elab.async false
set_option linter.all false
set_option maxRecDepth 100000
set_option maxHeartbeats 4000000
/-! L3c: what a reading gives, over the abstract heap. -/
namespace L3
open PySem PySem.Spec PyProof.Rows L2

/-- how an exception lies -/
def RX (C : Ct) (g : G) (H : Hp) (cls : Value) (dO : Option Addr) (e : Exn) : Prop := cls = C.xc e.cls ∧ ((e.fs = [] ∧ dO = none) ∨ ∃ d vs, dO = some d ∧ H d = some (.xd vs) ∧ RFs C.K g H vs e.fs)
def Go {α β : Type} (C : Ct) (σ : L2.St) (env : Env) (R : G → Hp → β → α → Prop) (g : G) (H : Hp) (r : Res α) (Q : β → Hp → Prop) : Prop := match r with
  | .ok d st => ∀ g' H' x, Ext g H g' H' → Rep C g' σ H' env st → R g' H' x d → Q x H'
  | .ex e st => ∀ g' H' cls dO, Ext g H g' H' → Rep C g' σ H' env st → RX C g' H' cls dO e → C.W cls dO σ H'
  | .no => False
abbrev Rl (β α : Type) := L2.St → Env → G → Hp → β → α → Prop
def rd {α β : Type} (C : Ct) (R : Rl β α) (m : Env → Store → Res α) : L2.St → Hp → (β → Hp → Prop) → Prop := fun σ H Q => ∃ g env st, Rep C g σ H env st ∧ Go C σ env (R σ env) g H (m env st) Q
def rV (C : Ct) : Rl V D := fun _ _ g H x d => RV C.K g H x d
def rVs (C : Ct) : Rl (List V) (List D) := fun _ _ g H x d => RVs C.K g H x d
def rI {α : Type} : Rl α α := fun _ _ _ _ x y => x = y
/-- a value, or what a slot holds of its own -/
def RB (C : Ct) : Rl V D := fun σ env g H x d => RV C.K g H x d ∨ ∃ (i : Nat) (o : DO), env[i]? = some (some (.own o)) ∧ σ[i]? = some (some x) ∧ o.toD = some d
inductive RBs (C : Ct) (σ : L2.St) (env : Env) (g : G) (H : Hp) : List V → List D → Prop
  | nil : RBs C σ env g H [] []
  | cons {v : V} {d : D} {vs : List V} {ds : List D} : RB C σ env g H v d → RBs C σ env g H vs ds → RBs C σ env g H (v :: vs) (d :: ds)
def Stb {β α : Type} (R : Rl β α) : Prop := ∀ σ env g H g' H' x d, Ext g H g' H' → R σ env g H x d → R σ env g' H' x d
theorem stV {C : Ct} : Stb (rV C) := fun _ _ _ _ _ _ _ _ e h => RV.ext e h
theorem stVs {C : Ct} : Stb (rVs C) := fun _ _ _ _ _ _ _ _ e h => RVs.ext e h
theorem stI {α : Type} : Stb (rI (α := α)) := fun _ _ _ _ _ _ _ _ _ h => h
theorem stB {C : Ct} : Stb (RB C) := fun _ _ _ _ _ _ _ _ e h => h.imp (RV.ext e) id
theorem stBs {C : Ct} : Stb (RBs C) := fun σ env g H g' H' x d e h => by
  induction h with
  | nil => exact .nil
  | cons h _ ih => exact .cons (stB _ _ _ _ _ _ _ _ e h) ih

section
variable {α β γ δ : Type} {C : Ct} {σ : L2.St} {env : Env} {R : G → Hp → β → α → Prop} {R' : G → Hp → δ → γ → Prop} {g g' : G} {H H' : Hp}
theorem Go.mono {r : Res α} {Q : β → Hp → Prop} (h : Go C σ env R g H r Q) (e : Ext g H g' H') : Go C σ env R g' H' r Q := by
  cases r with
  | ok d st => exact fun g2 H2 x e2 => h g2 H2 x (e.trans e2)
  | ex x st => exact fun g2 H2 c d e2 => h g2 H2 c d (e.trans e2)
  | no => exact h
theorem Go.imp {r : Res α} {Q Q' : β → Hp → Prop} (h : Go C σ env R g H r Q) (hq : ∀ x H', Q x H' → Q' x H') : Go C σ env R g H r Q' := by
  cases r with
  | ok d st => exact fun g2 H2 x e2 r2 v => hq _ _ (h g2 H2 x e2 r2 v)
  | ex x st => exact h
  | no => exact h
/-- behind a first part -/
def Aft (C : Ct) (σ : L2.St) (env : Env) (R : G → Hp → β → α → Prop) (R' : G → Hp → δ → γ → Prop) (g : G) (H : Hp) (f : α → Store → Res γ) (Q : δ → Hp → Prop) (x : β) (H1 : Hp) : Prop :=
  ∃ d st1 g1, Ext g H g1 H1 ∧ Rep C g1 σ H1 env st1 ∧ R g1 H1 x d ∧ Go C σ env R' g1 H1 (f d st1) Q
theorem Go.bind {r : Res α} {f : α → Store → Res γ} {Q : δ → Hp → Prop} (h : Go C σ env R' g H (r.bind f) Q) : Go C σ env R g H r (Aft C σ env R R' g H f Q) := by
  cases r with
  | ok d st => exact fun g1 H1 x e1 r1 v1 => ⟨d, st, g1, e1, r1, v1, Go.mono h e1⟩
  | ex x st => exact h
  | no => exact h
theorem Go.end_ {d : α} {st : Store} {x : β} {Q : β → Hp → Prop} (h : Go C σ env R g H (.ok d st) Q) (rep : Rep C g σ H env st) (r : R g H x d) : Q x H := h g H x (Ext.refl g H) rep r
theorem Go.end' {d : α} {st : Store} {x : β} {Q : β → Hp → Prop} (h : Go C σ env R g H (.ok d st) Q) (rep : Rep C g σ H env st) (e : Grow g H g' H') (r : R g' H' x d) : Q x H' := h g' H' x e.ext (rep.grow e) r
theorem Go.of {o : Option α} {st : Store} {Q : β → Hp → Prop} (h : Go C σ env R g H (.of o st) Q) : ∃ d, o = some d ∧ Go C σ env R g H (.ok d st) Q := by
  cases o with
  | none => exact h.elim
  | some d => exact ⟨d, rfl, h⟩
theorem Go.ofB {γ : Type} {o : Option γ} {st : Store} {f : γ → Store → Res α} {Q : β → Hp → Prop} (h : Go C σ env R g H ((Res.of o st).bind f) Q) : ∃ d, o = some d ∧ Go C σ env R g H (f d st) Q := by
  cases o with
  | none => exact h.elim
  | some d => exact ⟨d, rfl, h⟩
end

section
variable {C : Ct} {σ : L2.St} {env : Env} {g : G} {H : Hp} {st : Store}
/-- a tuple's object -/
abbrev tupO (us : List Value) : Obj := { cls := .type "tuple", data := .seq us.toArray }
/-- a new tuple, a new list -/
theorem Go.tup {vs : List V} {ds : List D} {Q : VK} (h : Go C σ env (rV C σ env) g H (.ok (.tup ds) st) Q) (rep : Rep C g σ H env st) (r : RVs C.K g H vs ds) : ∀ p o, H p = none → o.dict = none → Q (.ref p) (upd H p (.frz o (.tup vs))) := fun p o hp hd =>
  h.end' rep (Grow.new hp) (.tup (.inl ⟨.inr rfl, o, hd, upd_same⟩) (r.ext (Grow.new hp).ext))
theorem Go.lst {vs : List V} {ds : List D} {Q : VK} (h : Go C σ env (rV C σ env) g H (.ok (.lst ds) st) Q) (rep : Rep C g σ H env st) (r : RVs C.K g H vs ds) : ∀ p, H p = none → Q (.ref p) (upd H p (.lst vs)) := fun p hp =>
  h.end' rep (Grow.new hp) (.lst (.inl ⟨.inr rfl, .inl upd_same⟩) (r.ext (Grow.new hp).ext))
theorem Go.dk {kvs : List (Key × V)} {ds : List (D × D)} {Q : VK} (h : Go C σ env (rV C σ env) g H (.ok (.dct .k ds) st) Q) (rep : Rep C g σ H env st) (r : RKs C.K g H kvs ds) : ∀ p, H p = none → Q (.ref p) (upd H p (.dK kvs)) := fun p hp =>
  h.end' rep (Grow.new hp) (.dk (.inr rfl) (.inl upd_same) (r.ext (Grow.new hp).ext))
/-- what is seen of a value, or of an object, at once -/
def See (K : PySem.W.Frag) (g : G) (H : Hp) (x : V) : D → Prop
  | .lst l => ∃ a vs, x = .ref a ∧ SqL K H a vs ∧ RVs K g H vs l
  | .tup l => ∃ a vs, x = .ref a ∧ FzT K g H a vs ∧ RVs K g H vs l
  | .dct .k l => ∃ a kvs, x = .ref a ∧ Rd H a (.dK kvs) ∧ RKs K g H kvs l
  | .dct .t l => ∃ a kvs, x = .ref a ∧ Rd H a (.dT kvs) ∧ RTs K g H kvs l
  | .ref n => ∃ a, x = .ref a ∧ g.ρ n = some a
  | d => RV K g H x d
theorem RV.see {K : PySem.W.Frag} {x : V} {d : D} (h : RV K g H x d) : See K g H x d := by
  cases h with
  | tup a b => exact ⟨_, _, rfl, a, b⟩
  | lst a b => exact ⟨_, _, rfl, a.sq, b⟩
  | dk a b c => exact ⟨_, _, rfl, b, c⟩
  | dt a b c => exact ⟨_, _, rfl, b, c⟩
  | ref a => exact ⟨_, rfl, a⟩
  | non => exact .non
  | bl b => exact .bl b
  | int b => exact .int b
  | str b => exact .str b
  | ty b => exact .ty b
  | fnv f b => exact .fnv f b
theorem RO.see {K : PySem.W.Frag} {cls : Nat → Addr} {a : Addr} {o : DO} {d : D} (h : RO K cls g H a o) (e : o.toD = some d) : See K g H (.ref a) d := by
  cases o with
  | lst l =>
    obtain ⟨vs, h, r⟩ := h
    cases e
    exact ⟨a, vs, rfl, .inl (.inl h), r⟩
  | dct k l =>
    cases e
    cases k with
    | k =>
      obtain ⟨vs, h, r⟩ := h
      exact ⟨a, vs, rfl, .inl h, r⟩
    | t =>
      obtain ⟨vs, h, r⟩ := h
      exact ⟨a, vs, rfl, .inl h, r⟩
  | ins c fs => cases e
theorem RV.seeD {x : V} {d : D} (h : RV C.K g H x d) (rep : Rep C g σ H env st) : See C.K g H x (drf st d) := by
  cases h with
  | ref a =>
    rename_i n ad
    show See C.K g H (.ref ad) (drf st (.ref n))
    obtain ⟨o, u, e, ro, hu⟩ := rep.sto.there a
    simp only [drf, e]
    cases o with
    | lst l => exact ro.see rfl
    | dct k l => exact ro.see rfl
    | ins c fs => exact ⟨_, rfl, a⟩
  | tup a b => exact ⟨_, _, rfl, a, b⟩
  | lst a b => exact ⟨_, _, rfl, a.sq, b⟩
  | dk a b c => exact ⟨_, _, rfl, b, c⟩
  | dt a b c => exact ⟨_, _, rfl, b, c⟩
  | non => exact .non
  | bl b => exact .bl b
  | int b => exact .int b
  | str b => exact .str b
  | ty b => exact .ty b
  | fnv f b => exact .fnv f b
theorem drf_toD {o : DO} {d : D} (e : o.toD = some d) : drf st d = d := by
  cases o with
  | lst l => cases e; rfl
  | dct k l => cases e; rfl
  | ins c fs => cases e
theorem RB.see {x : V} {d : D} (h : RB C σ env g H x d) (rep : Rep C g σ H env st) : See C.K g H x (drf st d) := by
  rcases h with h | ⟨i, o, e1, e2, e3⟩
  · exact h.seeD rep
  · obtain ⟨a, q1, q2, _⟩ := rep.own i o e1
    rw [e2] at q1
    cases q1
    rw [drf_toD e3]
    exact q2.see e3
end

/-! ### two places -/
theorem _root_.L2.PE.of {X : Cx} {e : Expr} {t t' : TE} (h : PE X e t) (i : ∀ σ H Q, t' σ H Q → t σ H Q) : PE X e t' := ⟨fun pins s σ H Q I q => h.run pins s σ H Q I (i σ H Q q)⟩
theorem _root_.L2.PT.of {X : Cx} {e : Expr} {t t' : TT} (h : PT X e t) (i : ∀ σ H Q, t' σ H Q → t σ H Q) : PT X e t' := ⟨fun pins s σ H Q I q => h.run pins s σ H Q I (i σ H Q q)⟩
theorem _root_.L2.PW.of {X : Cx} {e : Expr} {t t' : TT} (h : PW X e t) (i : ∀ σ H Q, t' σ H Q → t σ H Q) : PW X e t' := ⟨fun wh pins s σ H Q I q => h.run wh pins s σ H Q I (i σ H Q q)⟩
theorem _root_.L2.PA.of {X : Cx} {e : List Expr} {t t' : TA} (h : PA X e t) (i : ∀ σ H Q, t' σ H Q → t σ H Q) : PA X e t' := ⟨fun pos pins s σ H Q I q => h.run pos pins s σ H Q I (i σ H Q q)⟩
theorem _root_.L2.PS.of {X : Cx} {e : Stmt} {t t' : TS} (h : PS X e t) (i : ∀ D σ H, t' D σ H → t D σ H) : PS X e t' := ⟨fun pins s σ H D I q => h.run pins s σ H D I (i D σ H q)⟩
theorem _root_.L2.PSs.of {X : Cx} {e : List Stmt} {t t' : TS} (h : PSs X e t) (i : ∀ D σ H, t' D σ H → t D σ H) : PSs X e t' := ⟨fun pins s σ H D I q => h.run pins s σ H D I (i D σ H q)⟩
/-- an operation of two values -/
def r2 (C : Ct) (R1 R2 : Rl V D) (f : D → D → Store → Res D) : L2.R2 := fun x y H Q => ∃ g σ env st dx dy, Rep C g σ H env st ∧ R1 σ env g H x dx ∧ R2 σ env g H y dy ∧ Go C σ env (rV C σ env) g H (f dx dy st) Q
theorem rd_op {C : Ct} {R1 R2 : Rl V D} {f : D → D → Store → Res D} {ma mb : Env → Store → Res D} (s1 : Stb R1) {σ : L2.St} {H : Hp} {Q : VK}
    (h : rd C (rV C) (fun env st => (ma env st).bind fun x st => (mb env st).bind fun y st => f x y st) σ H Q) : tOp (r2 C R1 R2 f) (rd C R1 ma) (rd C R2 mb) σ H Q := by
  obtain ⟨g, env, st, rep, go⟩ := h
  refine ⟨g, env, st, rep, (Go.bind (R := R1 σ env) go).imp fun x H1 ⟨d, st1, g1, e1, rep1, v1, go1⟩ => ?_⟩
  refine ⟨g1, env, st1, rep1, (Go.bind (R := R2 σ env) go1).imp fun y H2 ⟨d2, st2, g2, e2, rep2, v2, go2⟩ => ?_⟩
  exact ⟨g2, σ, env, st2, d, d2, rep2, s1 _ _ _ _ _ _ _ _ e2 v1, v2, go2⟩

/-! ### + - * % // ** -/
theorem bits_lt {a : Int} {k : Nat} (h : a.natAbs < 2 ^ k) : Builtin.Int.intBits a ≤ k := by
  unfold Builtin.Int.intBits
  by_cases h0 : a = 0
  · subst h0; simp
  · have hb : (a == 0) = false := beq_eq_false_iff_ne.mpr h0
    rw [hb]
    have hn : a.natAbs ≠ 0 := by omega
    have := (Nat.log2_lt hn).mpr h
    simp only [Bool.false_eq_true, if_false]
    omega
theorem mul_ok {i j : Int} (h : mulOk i j = true) : IntMulOk i j := by
  unfold mulOk at h
  rcases Bool.or_eq_true_iff.mp h with h | h
  · exact .of_left (bits_lt (of_decide_eq_true h))
  · exact .of_right (bits_lt (of_decide_eq_true h))
section
variable {X : Cx} {C : Ct}
theorem list_cat {v u : Value} {pins : List (Addr × Obj)} {s : Shared} {σ : L2.St} {H : Hp} {Q : VK} {l b : Addr} {xs zs : List V} (I : Inv X pins σ H s) (rx : RelV (.ref l) v) (ry : RelV (.ref b) u)
    (hH : SqL X.K H l xs) (hB : SqL X.K H b zs) (hz : xs.length + zs.length ≤ sizeLine) (q : ∀ p, H p = none → Q (.ref p) (upd H p (.lst (xs ++ zs)))) :
    wpAny (model X.prog X.w) X.A (binaryOp .Add v u) (EP X pins σ Q) X.xe s := by
  cases rx
  cases ry
  obtain ⟨its, r, ⟨o, n, e, c1, d1, s1⟩, z⟩ := I.list hH
  obtain ⟨its2, r2, ⟨o2, n2, e2, c2, d2, s2⟩, z2⟩ := I.list hB
  obtain ⟨cls, dct, dat, sl⟩ := o
  obtain ⟨cls2, dct2, dat2, sl2⟩ := o2
  cases c1; cases d1; cases s1; cases c2; cases d2; cases s2
  have l1 := r.length
  have l2 := r2.length
  refine concat_meets ⟨_, e, rfl⟩ ⟨_, e2, rfl⟩ noFill_list_add seq_list_add PySem.F.slot_list_add PySem.F.entry_list_add (PySem.F.args_list_add_2 _ _) (list_addW l b its.toArray its2.toArray n n2 none none _ _ (by rw [List.size_toArray, List.size_toArray]; omega)) ⟨e, e2, ?_⟩
  have ea : its.toArray ++ its2.toArray = (its ++ its2).toArray := by simp
  rw [ea]
  exact ⟨.ref _, _, I.lnew (t' := s.toks) (r.append r2) (by rw [List.length_append]; omega), rfl, q _ I.fresh⟩
/-- a new tuple, told wholly -/
theorem _root_.L2.Inv.laidT {pins : List (Addr × Obj)} {σ : L2.St} {H : Hp} {s : Shared} {xs : List V} {us : List Value} (I : Inv X pins σ H s) (r : Vals xs us) (z : xs.length ≤ sizeLine) (t' : Nat) :
    Inv X pins σ (upd H s.heap.objs.size (.frz (tupO us) (.tup xs))) { s with heap := s.heap.push (tupO us), toks := t' } :=
  I.laid (t' := t') (o := .frz (tupO us) (.tup xs)) (fun b u e => Heap.get?_push_of_some _ e) (Nat.le_refl _) (show _ ∧ ObjOk X.prog X.w _ _ _ (.tup xs) from ⟨Heap.get?_push_size _ rfl, z, us, r, IsTup.new _ _⟩)
/-- (a, b, ..) -/
def tTupF (t : TA) : TE := fun σ H Q => t σ H fun xs H1 => xs.length ≤ sizeLine ∧ ∀ p o, H1 p = none → o.dict = none → Q (.ref p) (upd H1 p (.frz o (.tup xs)))
/-- a tuple just laid, as an answer -/
theorem tup_new {pins : List (Addr × Obj)} {s : Shared} {σ : L2.St} {H : Hp} {Q : VK} {xs : List V} {us : List Value} (I : Inv X pins σ H s) (r : Vals xs us) (room : xs.length ≤ sizeLine) (tk : Nat)
    (q : ∀ p o, H p = none → o.dict = none → Q (.ref p) (upd H p (.frz o (.tup xs)))) : EP X pins σ Q (.ref s.heap.objs.size) { s with heap := s.heap.push (tupO us), toks := tk } :=
  have fresh := I.hok.fresh (Nat.le_refl _)
  ⟨V.ref s.heap.objs.size, _, I.laidT r room tk, rfl, q _ (tupO us) fresh rfl⟩
theorem pe_tupF {es : List Expr} {t : TA} {pos : Pos} {x1 : Nat} (h : PA X es t) : PE X (.Tuple es x1 pos) (tTupF t) where
  run pins s σ H Q I hq := wpAny_Tuple_spliced (thn (h.run pos pins s σ H _ I hq) fun _ s1 ⟨_, _, J, r, room, q⟩ => ⟨Nat.le_trans (Nat.le_of_eq r.length.symm) room, tup_new J r room s1.toks q⟩)
theorem tup_cat {v u : Value} {pins : List (Addr × Obj)} {s : Shared} {σ : L2.St} {H : Hp} {Q : VK} {a b : Addr} {xs ys : List V} (I : Inv X pins σ H s) (rx : RelV (.ref a) v) (ry : RelV (.ref b) u)
    (ha : SqT X.K H a xs) (hb : SqT X.K H b ys) (hz : xs.length + ys.length ≤ sizeLine) (q0 : xs = [] → Q (.ref b) H) (q1 : xs ≠ [] → ys = [] → Q (.ref a) H) (q2 : ∀ p o, H p = none → o.dict = none → Q (.ref p) (upd H p (.frz o (.tup (xs ++ ys))))) :
    wpAny (model X.prog X.w) X.A (binaryOp .Add v u) (EP X pins σ Q) X.xe s := by
  obtain rfl : v = Value.ref a := rx
  obtain rfl : u = Value.ref b := ry
  have ⟨vs, rv, atA, _⟩ := I.tuple ha
  have ⟨ws, rw, atB, _⟩ := I.tuple hb
  cases vs with
  | nil => exact cat_tup0 atA atB ⟨V.ref b, H, I, rfl, q0 (rv.nil_iff.mp rfl)⟩
  | cons z zs =>
    have some_ : xs ≠ [] := fun e => List.cons_ne_nil z zs (rv.nil_iff.mpr e)
    have both : (xs ++ ys).length ≤ sizeLine := by rw [List.length_append]; exact hz
    exact HT.cat_tup atA atB (List.cons_ne_nil _ _) (fun e => ⟨V.ref a, H, I, rfl, q1 some_ (rw.nil_iff.mp e)⟩) (fun _ => tup_new I (rv.append rw) both s.toks q2) (by rw [← rv.length, ← rw.length]; exact hz)
theorem RVs.rep {K : PySem.W.Frag} {g : G} {H : Hp} {vs : List V} {ds : List D} (h : RVs K g H vs ds) : ∀ k : Nat, RVs K g H (List.replicate k vs).flatten (List.replicate k ds).flatten
  | 0 => .nil
  | k + 1 => by
    rw [List.replicate_succ, List.replicate_succ, List.flatten_cons, List.flatten_cons]
    exact h.append (RVs.rep h k)
theorem list_rep {v u : Value} {pins : List (Addr × Obj)} {s : Shared} {σ : L2.St} {H : Hp} {Q : VK} {l : Addr} {k : Int} {xs : List V} (I : Inv X pins σ H s) (rx : RelV (.ref l) v) (ry : RelV (.int k) u)
    (hq : SqL X.K H l xs) (h1 : -(2 ^ 63) ≤ k) (h2 : k < 2 ^ 63) (hz : xs.length * k.toNat ≤ sizeLine) (q : ∀ p, H p = none → Q (.ref p) (upd H p (.lst (List.replicate k.toNat xs).flatten))) :
    wpAny (model X.prog X.w) X.A (binaryOp .Mult v u) (EP X pins σ Q) X.xe s := by
  obtain rfl : v = Value.ref l := rx
  obtain ⟨t, rfl⟩ := ry
  have ⟨us, r, ⟨⟨_, _, _, sl⟩, n, at_, c1, c2, c3⟩, _⟩ := I.list hq
  obtain rfl : _ = Value.type "list" := c1
  obtain rfl : _ = (none : Option Addr) := c2
  obtain rfl : _ = Data.seq us.toArray n := c3
  have room : us.toArray.size * k.toNat ≤ sizeLine := by simpa [← r.length] using hz
  have line : (sizeLine : Nat) ≤ (2 ^ 63 - 1) / 8 := by decide
  have isL : s.TypeIs (.ref l) "list" := ⟨_, at_, rfl⟩
  have made : EP X pins σ Q (.ref s.heap.objs.size) { s with heap := s.heap.push { cls := .type "list", data := .seq (List.replicate k.toNat us).flatten.toArray } } :=
    ⟨V.ref s.heap.objs.size, _, I.lnew (t' := s.toks) (r.rep k.toNat) (by rw [PyProof.Rows.lm_len_rep_flat, Nat.mul_comm]; exact hz), rfl, q _ I.fresh⟩
  have times := call_meets (prog := X.prog) (w := X.w) (A := X.A) (E := X.xe) (Q := EP X pins σ Q) (s := s) PySem.F.slot_list_mul isL PySem.F.entry_list_mul (PySem.F.args_list_mul_2 _ _) (lm_list_mul_any l us.toArray n none sl k t (by rw [fitsIndex_both h1 h2]; decide) (Nat.not_lt.mpr (Nat.le_trans room line)) (by rw [notLongL room]; decide))
  refine wpAny_binaryOp_repeat_ref (T := "list") (U := "int") (by decide) isL (fun s' => typeIs_int s' k t) noFill_list_mul PySem.F.fills_int_mul PySem.F.slot_int_rmul repeat_list PySem.F.slot_int_index.lookup ?_
  refine call_meets PySem.F.slot_int_rmul (typeIs_int s k t) PySem.F.entry_int_rmul (PySem.F.args_int_rmul_2 _ _) (lm_int_rmul_list_any k t l us.toArray n none sl) ⟨at_, rfl, isL, times ⟨at_, ?_⟩⟩
  rw [listMul_foldl_if]
  exact made
theorem bin_ok (hK : X.K = C.K) (op : Operator) : OpR X (binaryOp op) (r2 C (rV C) (rV C) fun x y st => .of (binD op x y) st) := by
  intro pins s σ H x y v u Q I rx ry h
  obtain ⟨g, σ', env, st, dx, dy, rep, vx, vy, go⟩ := h
  obtain ⟨d, hd, go⟩ := go.of
  have vx : RV C.K g H x dx := vx
  have vy : RV C.K g H y dy := vy
  unfold binD at hd
  split at hd
  · cases vx; cases vy; cases hd
    exact op_add pins s σ H _ _ v u Q I rx ry ⟨_, _, rfl, rfl, go.end_ rep (.int _)⟩
  · cases vx; cases vy
    split at hd
    · rename_i hz
      cases hd
      exact op_add_str pins s σ H _ _ v u Q I rx ry ⟨_, _, rfl, rfl, of_decide_eq_true hz, go.end_ rep (.str _)⟩
    · cases hd
  · cases vx with
    | tup f1 r1 =>
      cases vy with
      | tup f2 r2 =>
        split at hd
        · rename_i hz
          cases hd
          have hz := of_decide_eq_true hz
          rename_i a1 vs1 a2 vs2
          refine tup_cat I rx ry (by rw [hK]; exact f1.sq) (by rw [hK]; exact f2.sq) (by rw [r1.length, r2.length]; exact hz) (fun e => ?_) (fun _ e => ?_) (go.tup rep (r1.append r2))
          · subst e
            cases r1
            exact go.end_ rep (.tup f2 r2)
          · subst e
            cases r2
            rw [List.append_nil] at go
            exact go.end_ rep (.tup f1 r1)
        · cases hd
  · cases vx with
    | lst f1 r1 =>
      cases vy with
      | lst f2 r2 =>
        split at hd
        · rename_i hz
          cases hd
          have hz := of_decide_eq_true hz
          exact list_cat I rx ry (by rw [hK]; exact f1.sq) (by rw [hK]; exact f2.sq) (by rw [r1.length, r2.length]; exact hz) (go.lst rep (r1.append r2))
        · cases hd
  · cases vx; cases vy; cases hd
    exact op_sub pins s σ H _ _ v u Q I rx ry ⟨_, _, rfl, rfl, go.end_ rep (.int _)⟩
  · cases vx; cases vy
    split at hd
    · rename_i hz
      cases hd
      obtain ⟨t, rfl⟩ := rx
      obtain ⟨t', rfl⟩ := ry
      exact mul_int ⟨.int _, H, I.tok _, ⟨_, rfl⟩, go.end_ rep (.int _)⟩ (mul_ok hz)
    · cases hd
  · cases vx; cases vy
    split at hd
    · rename_i hz
      cases hd
      exact op_mod pins s σ H _ _ v u Q I rx ry ⟨_, _, rfl, rfl, hz, go.end_ rep (.int _)⟩
    · cases hd
  · cases vx; cases vy
    split at hd
    · rename_i hz
      cases hd
      exact op_fdiv pins s σ H _ _ v u Q I rx ry ⟨_, _, rfl, rfl, hz, go.end_ rep (.int _)⟩
    · cases hd
  · cases vx; cases vy
    split at hd
    · rename_i hz
      cases hd
      unfold powOk at hz
      simp only [Bool.and_eq_true, decide_eq_true_eq] at hz
      obtain ⟨t, rfl⟩ := rx
      obtain ⟨t', rfl⟩ := ry
      refine pow_int hz.1.1 ?_ ⟨.int _, H, I.tok _, ⟨_, rfl⟩, go.end_ rep (.int _)⟩
      have hb := bits_lt hz.2
      have h0 := hz.1.1
      have h1 := hz.1.2
      have hb' : ((Builtin.Int.intBits _ : Nat) : Int) ≤ 1000 := Int.ofNat_le.mpr hb
      exact Int.le_trans (Int.mul_le_mul hb' h1 h0 (by decide)) (by decide)
    · cases hd
  · cases vx with
    | lst f1 r1 =>
      cases vy
      split at hd
      · rename_i hz
        cases hd
        simp only [Bool.and_eq_true, decide_eq_true_eq] at hz
        exact list_rep I rx ry (by rw [hK]; exact f1.sq) hz.1.1 hz.1.2 (by rw [r1.length]; exact of_decide_eq_true hz.2) (go.lst rep (r1.rep _))
      · cases hd
  · cases hd

theorem cat_ok (hK : X.K = C.K) : OpR X (binaryOp .Add) (r2 C (RB C) (RB C) fun x y st => .of (catD (drf st x) (drf st y)) st) := by
  intro pins s σ H x y v u Q I rx ry h
  obtain ⟨g, σ', env, st, dx, dy, rep, vx, vy, go⟩ := h
  obtain ⟨d, hd, go2⟩ := go.of
  clear go
  have vx := RB.see vx rep
  have vy := RB.see vy rep
  revert vx vy hd
  generalize drf st dx = ex
  generalize drf st dy = ey
  intro hd vx vy
  unfold catD at hd
  split at hd
  · split at hd
    · rename_i hz
      cases hd
      obtain ⟨a, vs, rfl, hq, r⟩ := vx
      obtain ⟨b, ws, rfl, hq2, r2⟩ := vy
      exact list_cat I rx ry (by rw [hK]; exact hq) (by rw [hK]; exact hq2) (by rw [r.length, r2.length]; exact of_decide_eq_true hz) (go2.lst rep (r.append r2))
    · cases hd
  · cases hd
/-! ### comparisons -/
mutual
theorem dp_of {K : PySem.W.Frag} {g : G} {H : Hp} : ∀ {d : D} {v : V} {p : PyData}, RV K g H v d → toPy d = some p → Dp K H v p
  | .non, _, _, .non, e => by cases e; exact .non
  | .bl b, _, _, .bl _, e => by cases e; exact .bl b
  | .int i, _, _, .int _, e => by cases e; exact .int i
  | .str x, _, _, .str _, e => by cases e; exact .str x
  | .tup l, _, _, .tup f r, e => by
    unfold toPy at e
    obtain ⟨ps, e1, e2⟩ := Option.map_eq_some_iff.mp e
    subst e2
    exact .tup f.sq (dps_of r e1)
  | .lst l, _, _, .lst f r, e => by
    unfold toPy at e
    obtain ⟨ps, e1, e2⟩ := Option.map_eq_some_iff.mp e
    subst e2
    exact .lst f.sq (dps_of r e1)
  | .ty _, _, _, _, e => by unfold toPy at e; cases e
  | .dct _ _, _, _, _, e => by unfold toPy at e; cases e
  | .ref _, _, _, _, e => by unfold toPy at e; cases e
  | .fnv _ _, _, _, _, e => by unfold toPy at e; cases e
theorem dps_of {K : PySem.W.Frag} {g : G} {H : Hp} : ∀ {ds : List D} {vs : List V} {ps : List PyData}, RVs K g H vs ds → toPys ds = some ps → DpAll K H vs ps
  | [], _, _, .nil, e => by unfold toPys at e; cases e; exact .nil
  | d :: r, _, _, .cons h t, e => by
    unfold toPys at e
    split at e
    · rename_i p ps e1 e2
      cases e
      exact .cons (dp_of h e1) (dps_of t e2)
    · cases e
end
theorem see_dp {K : PySem.W.Frag} {g : G} {H : Hp} {v : V} {d : D} {p : PyData} (h : See K g H v d) (e : toPy d = some p) : Dp K H v p := by
  cases d with
  | lst l =>
    obtain ⟨a, vs, rfl, f, r⟩ := h
    unfold toPy at e
    obtain ⟨ps, e1, e2⟩ := Option.map_eq_some_iff.mp e
    subst e2
    exact .lst f (dps_of r e1)
  | tup l =>
    obtain ⟨a, vs, rfl, f, r⟩ := h
    unfold toPy at e
    obtain ⟨ps, e1, e2⟩ := Option.map_eq_some_iff.mp e
    subst e2
    exact .tup f.sq (dps_of r e1)
  | non => exact dp_of (show RV K g H v .non from h) e
  | bl b => exact dp_of (show RV K g H v (.bl b) from h) e
  | int b => exact dp_of (show RV K g H v (.int b) from h) e
  | str b => exact dp_of (show RV K g H v (.str b) from h) e
  | ty b => cases e
  | dct k l => cases e
  | ref n => cases e
  | fnv f b => cases e
theorem flat_of {K : PySem.W.Frag} {g : G} {H : Hp} {v : V} {d : D} (h : RV K g H v d) (f : flatD d = true) : flatV v = true := by
  cases h <;> first | rfl | cases f
theorem flats_of {K : PySem.W.Frag} {g : G} {H : Hp} {vs : List V} {ds : List D} (h : RVs K g H vs ds) (f : ds.all flatD = true) : vs.all flatV = true := by
  induction vs generalizing ds with
  | nil => rfl
  | cons v r ih =>
    cases h with
    | cons h t =>
      simp only [List.all_cons, Bool.and_eq_true] at f ⊢
      exact ⟨flat_of h f.1, ih t f.2⟩
theorem eqV_of {K : PySem.W.Frag} {g : G} {H : Hp} {x y : V} {d e : D} (h : RV K g H x d) (k : RV K g H y e) (f : flatD d = true) (f' : flatD e = true) : eqV x y = flatEq d e := by
  cases h <;> first | (cases f; done) | (cases k <;> first | (cases f'; done) | rfl | (simp [eqV, flatEq]; done))
theorem inV_of {K : PySem.W.Frag} {g : G} {H : Hp} {x : V} {d : D} (h : RV K g H x d) (f : flatD d = true) {vs : List V} {ds : List D} (r : RVs K g H vs ds) (f' : ds.all flatD = true) : inV x vs = ds.any fun e => flatEq e d := by
  unfold inV
  induction vs generalizing ds with
  | nil => cases r; rfl
  | cons v t ih =>
    cases r with
    | cons h' t' =>
      simp only [List.all_cons, Bool.and_eq_true] at f'
      rw [List.any_cons, List.any_cons, ih t' f'.2, eqV_of h' h f'.1 f]
end

/-- the keys' values -/
theorem keyD_of {K : PySem.W.Frag} {g : G} {H : Hp} {v : V} {d : D} {k : Key} (h : RV K g H v d) (e : toKey d = some k) : v = kV k ∧ d = keyD k := by
  cases h <;> first | (cases e; done) | (cases e; exact ⟨rfl, rfl⟩)
theorem keyEq_k (k : Key) : ∀ d : D, keyEq (keyD k) d = decide (toKey d = some k) := by
  intro d
  cases k <;> cases d <;> simp [keyEq, keyD, toKey] <;> exact ⟨fun h => h.symm, fun h => h.symm⟩
theorem look_ks {K : PySem.W.Frag} {g : G} {H : Hp} {d : D} {k : Key} (e : toKey d = some k) : ∀ {kvs : List (Key × V)} {l : List (D × D)}, RKs K g H kvs l →
    (∀ x, lookD l d = some x → ∃ v, valV kvs k = some v ∧ RV K g H v x) ∧ (lookD l d = none → valV kvs k = none)
  | [], _, .nil => ⟨fun x h => (by cases h), fun _ => rfl⟩
  | (k', v) :: r, _, .cons (d := d') (ds := ds) h t => by
    obtain ⟨i1, i2⟩ := look_ks e t
    have hk : keyEq (keyD k') d = decide (k' = k) := by
      rw [keyEq_k, e]
      by_cases z : k' = k
      · subst z; simp
      · rw [decide_eq_false z, decide_eq_false]
        intro q
        exact z (Option.some.inj q).symm
    by_cases z : k' = k
    · have e1 : lookD ((keyD k', d') :: ds) d = some d' := by
        rw [decide_eq_true z] at hk
        simp [lookD, List.find?_cons, hk]
      rw [e1]
      refine ⟨fun x q => ?_, fun q => by cases q⟩
      cases q
      exact ⟨v, valV_pos z, h⟩
    · have e1 : lookD ((keyD k', d') :: ds) d = lookD ds d := by rw [decide_eq_false z] at hk; simp [lookD, List.find?_cons, hk]
      rw [e1, valV_neg z]
      exact ⟨i1, i2⟩
theorem look_some {K : PySem.W.Frag} {g : G} {H : Hp} {d : D} {k : Key} (e : toKey d = some k) {kvs : List (Key × V)} {l : List (D × D)} (h : RKs K g H kvs l) : (valV kvs k).isSome = (lookD l d).isSome := by
  obtain ⟨i1, i2⟩ := look_ks e h
  cases q : lookD l d with
  | none => rw [i2 q]; rfl
  | some x =>
    obtain ⟨v, hv, _⟩ := i1 x q
    rw [hv]; rfl

section
variable {X : Cx} {C : Ct}
/-- in, not in -/
theorem in_ok (hK : X.K = C.K) (hu : X.A.units + 1 < cLine) (neg : Bool) {pins : List (Addr × Obj)} {s : Shared} {σ : L2.St} {H : Hp} {x y : V} {v u : Value} {Q : VK} {K' : PySem.W.Frag} {g : G} {dx dy : D} {b : Bool}
    (I : Inv X pins σ H s) (rx : RelV x v) (ry : RelV y u) (vx : See C.K g H x dx) (vy : See C.K g H y dy) (h : inD dx dy = some b) (q : Q (.bl (if neg then !b else b)) H) :
    wpAny (model X.prog X.w) X.A (compareOp (if neg then .NotIn else .In) v u) (EP X pins σ Q) X.xe s := by
  unfold inD at h
  have seq : ∀ (a : Addr) (vs : List V) (l : List D), y = .ref a → (SqL X.K H a vs ∨ SqT X.K H a vs) → RVs C.K g H vs l → (if flatD dx && l.all flatD then some (l.any fun d => flatEq d dx) else none) = some b →
      wpAny (model X.prog X.w) X.A (compareOp (if neg then .NotIn else .In) v u) (EP X pins σ Q) X.xe s := by
    intro a vs l ey hs r h
    split at h
    · rename_i hf
      simp only [Bool.and_eq_true] at hf
      cases h
      have vx' : RV C.K g H x dx := by
        cases dx <;> first | exact vx | cases hf.1
      have e := inV_of vx' hf.1 r hf.2
      cases neg with
      | false => exact op_in_seq pins s σ H x y v u Q I rx ry ⟨a, vs, ey, hs, flat_of vx' hf.1, flats_of r hf.2, by rw [e]; exact q⟩
      | true => exact op_notIn_seq pins s σ H x y v u Q I rx ry ⟨a, vs, ey, hs, flat_of vx' hf.1, flats_of r hf.2, by rw [e]; exact q⟩
    · cases h
  cases dy with
  | lst l =>
    obtain ⟨a, vs, ey, hs, r⟩ := vy
    exact seq a vs l ey (.inl (by rw [hK]; exact hs)) r h
  | tup l =>
    obtain ⟨a, vs, ey, hs, r⟩ := vy
    exact seq a vs l ey (.inr (by rw [hK]; exact hs.sq)) r h
  | dct k l =>
    simp only at h
    split at h
    · rename_i hk
      cases h
      cases k with
      | k =>
        obtain ⟨a, kvs, ey, hr, r⟩ := vy
        subst ey
        obtain ⟨k, e⟩ := Option.isSome_iff_exists.mp hk
        have vx' : RV C.K g H x dx := by
          cases dx <;> first | exact vx | cases e
        obtain ⟨e1, e2⟩ := keyD_of vx' e
        obtain rfl : u = Value.ref a := ry
        have dg : DGet H a x (valV kvs k) := .inl ⟨kvs, k, hr, e1, rfl⟩
        have es := look_some e r
        cases neg with
        | false => exact d_in hu I dg rx fun s3 I3 => ⟨.bl _, H, I3, rfl, by rw [es]; exact q⟩
        | true => exact d_notIn hu I dg rx fun s3 I3 => ⟨.bl _, H, I3, rfl, by rw [es]; exact q⟩
      | t => cases hk
    · cases h
  | str z =>
    cases dx <;> try (cases h; done)
    rename_i a
    cases (show RV C.K g H x (.str a) from vx)
    cases (show RV C.K g H y (.str z) from vy)
    cases h
    cases neg with
    | false => exact op_in_str pins s σ H _ _ v u Q I rx ry ⟨_, _, rfl, rfl, q⟩
    | true => exact L2.op_notIn_str pins s σ H _ _ v u Q I rx ry ⟨_, _, rfl, rfl, q⟩
  | _ => cases h
/-- dicts alike -/
theorem sameF_rv {K : PySem.W.Frag} {g : G} {H : Hp} {v w : V} {d e : D} (h : RV K g H v d) (k : RV K g H w e) (q : sameF d e = true) : v = w ∧ flatB v = true := by
  cases h <;> cases k <;> first | (cases q; done) | skip
  · exact ⟨rfl, rfl⟩
  · cases eq_of_beq q; exact ⟨rfl, rfl⟩
  · cases eq_of_beq q; exact ⟨rfl, rfl⟩
  · cases of_decide_eq_true q; exact ⟨rfl, rfl⟩
theorem toKey_D (k : Key) : toKey (keyD k) = some k := by cases k <;> rfl
theorem sameK_rv {K : PySem.W.Frag} {g : G} {H : Hp} {ms : List (Key × V)} {m : List (D × D)} (hm : RKs K g H ms m) : ∀ {ks : List (Key × V)} {l : List (D × D)}, RKs K g H ks l → (l.all fun p => match lookD m p.1 with | some e => sameF p.2 e | none => false) = true → ∀ p ∈ ks, valV ms p.1 = some p.2 ∧ flatB p.2 = true
  | [], _, .nil, _ => fun p hp => by cases hp
  | (k, v) :: r, _, .cons (d := d) (ds := ds) h t, q => by
    rw [List.all_cons, Bool.and_eq_true] at q
    intro p hp
    rcases List.mem_cons.mp hp with z | z
    · subst z
      have q1 := q.1
      obtain ⟨i1, _⟩ := look_ks (toKey_D k) hm
      cases e : lookD m (keyD k) with
      | none => rw [e] at q1; cases q1
      | some x =>
        rw [e] at q1
        obtain ⟨w, hw, rw_⟩ := i1 x e
        obtain ⟨e2, f⟩ := sameF_rv h rw_ q1
        exact ⟨by rw [hw, e2], f⟩
    · exact sameK_rv hm t q.2 p z
theorem rks_len {K : PySem.W.Frag} {g : G} {H : Hp} : ∀ {vs : List (Key × V)} {ds : List (D × D)}, RKs K g H vs ds → vs.length = ds.length
  | [], _, .nil => rfl
  | _ :: _, _, .cons _ t => by rw [List.length_cons, List.length_cons, rks_len t]
theorem eqK_see {K : PySem.W.Frag} {g : G} {H : Hp} {x y : V} {dx dy : D} {b : Bool} (vx : See K g H x dx) (vy : See K g H y dy) (h : eqK dx dy = some b) : b = true ∧ ∃ a b ks ls, x = .ref a ∧ y = .ref b ∧ Rd H a (.dK ks) ∧ Rd H b (.dK ls) ∧ ks.length = ls.length ∧ (∀ p ∈ ks, valV ls p.1 = some p.2 ∧ flatB p.2 = true) := by
  unfold eqK at h
  split at h
  · split at h
    · rename_i hs
      cases h
      obtain ⟨a, ks, rfl, r1, k1⟩ := vx
      obtain ⟨b, ls, rfl, r2, k2⟩ := vy
      unfold sameK at hs
      rw [Bool.and_eq_true] at hs
      exact ⟨rfl, a, b, ks, ls, rfl, rfl, r1, r2, by rw [rks_len k1, rks_len k2]; exact of_decide_eq_true hs.1, sameK_rv k2 k1 hs.2⟩
    · cases h
  · cases h
/-- two dicts of as many keys, each key of one with an equal value in the other -/
structure Alike (X : Cx) (H : Hp) (a b : Addr) (ks ls : List (Key × V)) : Prop where
  one : Rd H a (.dK ks)
  two : Rd H b (.dK ls)
  many : ks.length = ls.length
  each : ∀ p ∈ ks, valV ls p.1 = some p.2 ∧ flatB p.2 = true
theorem Alike.raw {pins : List (Addr × Obj)} {s : Shared} {σ : L2.St} {H : Hp} {a b : Addr} {ks ls : List (Key × V)} (D : Alike X H a b ks ls) (I : Inv X pins σ H s) : ((a == sysModules) = false ∧ (b == sysModules) = false) ∧
    ∃ va vb : List (Key × Value), (va.length == vb.length && true) = true ∧ Heap.DictOf (mixKind X.prog X.w) s.heap a va ∧ Heap.DictOf (mixKind X.prog X.w) s.heap b vb ∧ ∀ A, PySem.W.KeqHits A s vb va true := by
  have ⟨_, na, va, ra, da⟩ := dk_rd I.hok D.one
  have ⟨_, nb, vb, rb, db⟩ := dk_rd I.hok D.two
  have eq : va.length = vb.length := ra.length.symm.trans (D.many.trans rb.length)
  exact ⟨⟨na, nb⟩, va, vb, by simp [eq], da, db, fun _ => hits_all rb ra D.each⟩
theorem eq_dicts {pins : List (Addr × Obj)} {s : Shared} {σ : L2.St} {H : Hp} {x y : V} {v u : Value} {Q : VK} {a b : Addr} {ks ls : List (Key × V)} (hu : X.A.units < cLine) (I : Inv X pins σ H s) (rx : RelV x v) (ry : RelV y u) (ex : x = .ref a) (ey : y = .ref b) (D : Alike X H a b ks ls) (q : Q (.bl true) H) :
    wpAny (model X.prog X.w) X.A (compareOp .Eq v u) (EP X pins σ Q) X.xe s := by
  subst ex ey
  have ⟨⟨na, nb⟩, _, _, eq, da, db, hit⟩ := D.raw I
  rw [show v = Value.ref a from rx, show u = Value.ref b from ry]
  exact PySem.W.keq_eq na nb da db hu (fun _ => hit _) (fin_bl I q eq.symm)
theorem ne_dicts {pins : List (Addr × Obj)} {s : Shared} {σ : L2.St} {H : Hp} {x y : V} {v u : Value} {Q : VK} {a b : Addr} {ks ls : List (Key × V)} (hu : X.A.units < cLine) (I : Inv X pins σ H s) (rx : RelV x v) (ry : RelV y u) (ex : x = .ref a) (ey : y = .ref b) (D : Alike X H a b ks ls) (q : Q (.bl false) H) :
    wpAny (model X.prog X.w) X.A (compareOp .NotEq v u) (EP X pins σ Q) X.xe s := by
  subst ex ey
  have ⟨⟨na, nb⟩, _, _, eq, da, db, hit⟩ := D.raw I
  rw [show v = Value.ref a from rx, show u = Value.ref b from ry]
  exact PySem.W.keq_ne na nb da db hu (fun _ => hit _) (fin_bl I q (by rw [eq]; rfl))
/-- two things are alike, or not, and how one sees it -/
def EqC (K : PySem.W.Frag) (H : Hp) (x y : V) (b' : Bool) : Prop := (∃ p1 p2, Dp K H x p1 ∧ Dp K H y p2 ∧ SeqAt.shaped p1 = true ∧ SeqAt.shaped p2 = true ∧ PyData.eqv p1 p2 = b') ∨ (b' = true ∧ ∃ a b ks ls, x = .ref a ∧ y = .ref b ∧ Rd H a (.dK ks) ∧ Rd H b (.dK ls) ∧ ks.length = ls.length ∧ (∀ p ∈ ks, valV ls p.1 = some p.2 ∧ flatB p.2 = true))
theorem eq_cases (hK : X.K = C.K) {g : G} {H : Hp} {x y : V} {ex ey : D} {b' : Bool} (vx : See C.K g H x ex) (vy : See C.K g H y ey) (e : eqD ex ey = some b') : EqC X.K H x y b' := by
  unfold eqD at e
  split at e
  · rename_i p1 p2 e1 e2
    split at e
    · rename_i hs
      simp only [Bool.and_eq_true] at hs
      cases e
      exact .inl ⟨p1, p2, by rw [hK]; exact see_dp vx e1, by rw [hK]; exact see_dp vy e2, hs.1, hs.2, rfl⟩
    · cases e
  · exact .inr (eqK_see vx vy e)
theorem eqIn_cases {A : Around} (hu : A.units + 64 < cLine) {pins : List (Addr × Obj)} {s : Shared} {σ : L2.St} {H : Hp} {x y : V} {v u : Value} {b : Bool} (I : Inv X pins σ H s) (rx : RelV x v) (ry : RelV y u) (h : EqC X.K H x y b) : SeqAt.EqIn X.prog X.w A s v u b := by
  rcases h with ⟨p1, p2, h1, h2, s1, s2, rfl⟩ | ⟨rfl, a, b, ks, ls, rfl, rfl, r1, r2, l1, l2⟩
  · obtain ⟨as, q1⟩ := Dp.reads I p1 x v h1 rx
    obtain ⟨bs, q2⟩ := Dp.reads I p2 y u h2 ry
    exact (SeqAt.eqAt_reads p1 p2 A s v u as bs q1 q2 (SeqAt.canLay_of_shaped s1) (SeqAt.canLay_of_shaped s2) (SeqAt.room_of_shaped s1 hu)).inModel _ _
  · obtain rfl : v = Value.ref a := rx
    obtain rfl : u = Value.ref b := ry
    by_cases hab : a = b
    · subst hab
      exact (SeqAt.EqAt.same _).inModel _ _
    · refine SeqAt.EqIn.of_refs hab fun E Q hq => ?_
      obtain ⟨_, ya, va, ra, da⟩ := dk_rd I.hok r1
      obtain ⟨_, yb, vb, rb, db⟩ := dk_rd I.hok r2
      have hl : va.length = vb.length := by rw [← ra.length, ← rb.length]; exact l1
      exact PySem.W.keq_eq (knd := mixKind X.prog X.w) (r := true) ya yb da db (by omega) (fun _ => hits_all rb ra l2) (by simpa [hl] using hq)
theorem allEq_cases (hK : X.K = C.K) {g : G} {σ : L2.St} {H : Hp} {env : Env} {st : Store} (rep : Rep C g σ H env st) : ∀ {vs ws : List V} {ds es : List D}, RVs C.K g H vs ds → RVs C.K g H ws es → allEq st ds es = true → vs.length = ws.length ∧ ∀ j (h1 : j < vs.length) (h2 : j < ws.length), EqC X.K H vs[j] ws[j] true
  | [], [], _, _, .nil, .nil, _ => ⟨rfl, fun j h1 _ => absurd h1 (Nat.not_lt_zero _)⟩
  | [], _ :: _, _, _, .nil, .cons _ _, h => by cases h
  | _ :: _, [], _, _, .cons _ _, .nil, h => by cases h
  | _ :: _, _ :: _, _, _, .cons h1 t1, .cons h2 t2, h => by
    rename_i d ds e es
    have h : ((match eqD (drf st d) (drf st e) with | some b => b | none => false) && allEq st ds es) = true := h
    rw [Bool.and_eq_true] at h
    obtain ⟨l, q⟩ := allEq_cases hK rep t1 t2 h.2
    have he : eqD (drf st d) (drf st e) = some true := by
      have := h.1
      split at this
      · rename_i b hb; subst this; exact hb
      · cases this
    refine ⟨by rw [List.length_cons, List.length_cons, l], fun j => ?_⟩
    cases j with
    | zero => exact fun _ _ => eq_cases hK (h1.seeD rep) (h2.seeD rep) he
    | succ j => exact fun z1 z2 => q j (Nat.lt_of_succ_lt_succ z1) (Nat.lt_of_succ_lt_succ z2)
theorem valsIx : ∀ {xs : List V} {us : List Value}, Vals xs us → ∀ j (h1 : j < xs.length) (h2 : j < us.length), RelV xs[j] us[j]
  | _, _, .nil, j, h1, _ => absurd h1 (Nat.not_lt_zero _)
  | _, _, .cons h t, j, h1, h2 => by
    cases j with
    | zero => exact h
    | succ j => exact valsIx t j (Nat.lt_of_succ_lt_succ h1) (Nat.lt_of_succ_lt_succ h2)
/-- (a, b, ..) == (c, d, ..) of things that are alike -/
def rTups (C : Ct) : L2.R2 := fun x y H Q => ∃ g σ env st a b vs ws ds es, Rep C g σ H env st ∧ x = .ref a ∧ y = .ref b ∧ SqT C.K H a vs ∧ SqT C.K H b ws ∧ RVs C.K g H vs ds ∧ RVs C.K g H ws es ∧ allEq st ds es = true ∧ Q (.bl true) H
theorem tups_ok (hK : X.K = C.K) (hu : X.A.units + 65 < cLine) : OpR X (compareOp .Eq) (rTups C) := by
  intro pins s σ H x y v u Q I rx ry h
  obtain ⟨g, σ', env, st, a, b, vs, ws, ds, es, rep, rfl, rfl, q1, q2, r1, r2, ha, q⟩ := h
  obtain rfl : v = Value.ref a := rx
  obtain rfl : u = Value.ref b := ry
  obtain ⟨hl, hc⟩ := allEq_cases hK rep r1 r2 ha
  rw [← hK] at q1 q2
  obtain ⟨its, rv, p1, _⟩ := I.tuple q1
  obtain ⟨jts, rw', p2, _⟩ := I.tuple q2
  have l1 := rv.length
  have l2 := rw'.length
  have l3 : its.length = jts.length := by omega
  refine SeqAt.rcIn_tuples (e := fun _ => true) p1 p2 (by omega) (fun j h1 h2 => ?_) ?_
  · have h1' : j < its.length := by simpa using h1
    have h2' : j < jts.length := by simpa using h2
    have e1 : j < vs.length := by omega
    have e2 : j < ws.length := by omega
    exact eqIn_cases (by show X.A.units + 1 + 64 < cLine; omega) I (valsIx rv j e1 h1') (valsIx rw' j e2 h2') (hc j e1 e2)
  · exact ⟨.bl true, H, I, by simp [l3, L2.RelV], q⟩
/-- a comparison of two things seen -/
theorem cmp_ok (hK : X.K = C.K) (hu : X.A.units + 64 < cLine) (op : CmpOp) : OpR X (compareOp op) (r2 C (RB C) (RB C) fun x y st => .of ((cmpD op (drf st x) (drf st y)).map .bl) st) := by
  intro pins s σ H x y v u Q I rx ry h
  obtain ⟨g, σ', env, st, dx, dy, rep, vx, vy, go⟩ := h
  obtain ⟨d, hd, go⟩ := go.of
  obtain ⟨b, hb, rfl⟩ := Option.map_eq_some_iff.mp hd
  have vx := RB.see vx rep
  have vy := RB.see vy rep
  revert vx vy hb
  generalize drf st dx = ex
  generalize drf st dy = ey
  intro hb vx vy
  have q : Q (.bl b) H := go.end_ rep (.bl b)
  have eqs : ∀ b', eqD ex ey = some b' → EqC X.K H x y b' := fun b' e => eq_cases hK vx vy e
  cases op with
  | Eq =>
    rcases eqs b hb with ⟨p1, p2, h1, h2, s1, s2, e⟩ | ⟨rfl, a, b, ks, ls, e1, e2, r1, r2, l1, l2⟩
    · exact op_eqD hu pins s σ H x y v u Q I rx ry ⟨p1, p2, h1, h2, s1, s2, by rw [e]; exact q⟩
    · exact eq_dicts (by omega) I rx ry e1 e2 ⟨r1, r2, l1, l2⟩ q
  | NotEq =>
    obtain ⟨b', hb', e'⟩ := Option.map_eq_some_iff.mp (show (eqD ex ey).map (!·) = some b from hb)
    rcases eqs b' hb' with ⟨p1, p2, h1, h2, s1, s2, e⟩ | ⟨rfl, a, b, ks, ls, e1, e2, r1, r2, l1, l2⟩
    · exact op_neD hu pins s σ H x y v u Q I rx ry ⟨p1, p2, h1, h2, s1, s2, by rw [e, e']; exact q⟩
    · subst e'
      exact ne_dicts (by omega) I rx ry e1 e2 ⟨r1, r2, l1, l2⟩ q
  | Lt =>
    simp only [cmpD] at hb
    split at hb
    · cases (show RV C.K g H x (.int _) from vx); cases (show RV C.K g H y (.int _) from vy); cases hb
      exact op_lt pins s σ H _ _ v u Q I rx ry ⟨_, _, rfl, rfl, q⟩
    · cases (show RV C.K g H x (.str _) from vx); cases (show RV C.K g H y (.str _) from vy); cases hb
      exact op_lt_str pins s σ H _ _ v u Q I rx ry ⟨_, _, rfl, rfl, q⟩
    · unfold ltD at hb
      split at hb
      · rename_i p1 p2 e1 e2
        obtain ⟨hs, hb⟩ : (PySem.W.alike p1 p2 = true ∧ min p1.depth p2.depth ≤ 64 ∧ p1 ≠ .none) ∧ PySem.W.dataLt p1 p2 = b := by
          by_cases hq : (PySem.W.alike p1 p2 && decide (min p1.depth p2.depth ≤ 64) && !noneP p1) = true
          · rw [if_pos hq] at hb
            simp only [Bool.and_eq_true, decide_eq_true_eq] at hq
            refine ⟨⟨hq.1.1, hq.1.2, fun z => ?_⟩, Option.some.inj hb⟩
            rw [z] at hq
            exact Bool.noConfusion hq.2
          · rw [if_neg hq] at hb; cases hb
        · subst hb
          obtain ⟨as, r1⟩ := Dp.reads I p1 x v (by rw [hK]; exact see_dp vx e1) rx
          obtain ⟨bs, r2⟩ := Dp.reads I p2 y u (by rw [hK]; exact see_dp vy e2) ry
          exact PySem.W.rcLt_alike p1 p2 X.A s v u as bs r1 r2 hs.1 hs.2.2 (by have := hs.2.1; omega) _ _ _ _ ⟨.bl _, H, I, rfl, q⟩
      · cases hb
  | LtE =>
    simp only [cmpD] at hb
    split at hb
    · cases (show RV C.K g H x (.int _) from vx); cases (show RV C.K g H y (.int _) from vy); cases hb
      exact op_le pins s σ H _ _ v u Q I rx ry ⟨_, _, rfl, rfl, q⟩
    · cases hb
  | Gt =>
    simp only [cmpD] at hb
    split at hb
    · cases (show RV C.K g H x (.int _) from vx); cases (show RV C.K g H y (.int _) from vy); cases hb
      exact op_gt pins s σ H _ _ v u Q I rx ry ⟨_, _, rfl, rfl, q⟩
    · cases hb
  | GtE =>
    simp only [cmpD] at hb
    split at hb
    · cases (show RV C.K g H x (.int _) from vx); cases (show RV C.K g H y (.int _) from vy); cases hb
      exact op_ge pins s σ H _ _ v u Q I rx ry ⟨_, _, rfl, rfl, q⟩
    · cases hb
  | In => exact in_ok (K' := C.K) hK (by omega) false I rx ry vx vy hb q
  | NotIn =>
    obtain ⟨b', hb', e'⟩ := Option.map_eq_some_iff.mp (show (inD ex ey).map (!·) = some b from hb)
    exact in_ok (K' := C.K) hK (by omega) true I rx ry vx vy hb' (by subst e'; exact q)
  | Is =>
    simp only [cmpD, isD] at hb
    split at hb
    · cases (show RV C.K g H y .non from vy)
      cases hb
      have e : decide (x = .non) = isNon ex := by
        cases ex with
        | non => cases (show RV C.K g H x .non from vx); rfl
        | lst l => obtain ⟨a, vs, rfl, _⟩ := vx; rfl
        | tup l => obtain ⟨a, vs, rfl, _⟩ := vx; rfl
        | dct k l => cases k <;> (obtain ⟨a, vs, rfl, _⟩ := vx; rfl)
        | ref l => obtain ⟨a, rfl, _⟩ := vx; rfl
        | bl l => cases (show RV C.K g H x (.bl l) from vx); rfl
        | int l => cases (show RV C.K g H x (.int l) from vx); rfl
        | str l => cases (show RV C.K g H x (.str l) from vx); rfl
        | ty l => cases (show RV C.K g H x (.ty l) from vx); rfl
        | fnv f l => cases (show RV C.K g H x (.fnv f l) from vx); rfl
      exact op_isN pins s σ H x _ v u Q I rx ry ⟨rfl, by rw [e]; exact q⟩
    · split at hb
      · cases (show RV C.K g H x (.bl _) from vx); cases (show RV C.K g H y (.bl _) from vy); cases hb
        exact op_isBl pins s σ H _ _ v u Q I rx ry ⟨_, _, rfl, rfl, q⟩
      · cases hb
    · cases hb
  | IsNot =>
    obtain ⟨b', hb', e'⟩ := Option.map_eq_some_iff.mp (show (isD ex ey).map (!·) = some b from hb)
    subst e'
    unfold isD at hb'
    split at hb'
    · cases (show RV C.K g H y .non from vy)
      cases hb'
      have e : decide (x = .non) = isNon ex := by
        cases ex with
        | non => cases (show RV C.K g H x .non from vx); rfl
        | lst l => obtain ⟨a, vs, rfl, _⟩ := vx; rfl
        | tup l => obtain ⟨a, vs, rfl, _⟩ := vx; rfl
        | dct k l => cases k <;> (obtain ⟨a, vs, rfl, _⟩ := vx; rfl)
        | ref l => obtain ⟨a, rfl, _⟩ := vx; rfl
        | bl l => cases (show RV C.K g H x (.bl l) from vx); rfl
        | int l => cases (show RV C.K g H x (.int l) from vx); rfl
        | str l => cases (show RV C.K g H x (.str l) from vx); rfl
        | ty l => cases (show RV C.K g H x (.ty l) from vx); rfl
        | fnv f l => cases (show RV C.K g H x (.fnv f l) from vx); rfl
      exact op_notN pins s σ H x _ v u Q I rx ry ⟨rfl, by rw [e]; exact q⟩
    · split at hb'
      · cases (show RV C.K g H x (.bl _) from vx); cases (show RV C.K g H y (.bl _) from vy); cases hb'
        exact op_notBl pins s σ H _ _ v u Q I rx ry ⟨_, _, rfl, rfl, q⟩
      · cases hb'
    · cases hb'
end
end L3
end

section
set_option Elab.async false
set_option linter.all false
set_option maxRecDepth 100000
set_option maxHeartbeats 4000000
/-! L3d: subscripts, slices, built-in functions. -/
namespace L3
open PySem PySem.Spec PyProof.Rows L2

theorem atI_map {K : PySem.W.Frag} {g : G} {H : Hp} {vs : List V} {ds : List D} (r : RVs K g H vs ds) {i : Int} {d : D} (h : atI ds i = some d) : ∃ v, atI vs i = some v ∧ RV K g H v d := by
  unfold atI at h ⊢
  obtain ⟨j, h1, h2⟩ := Option.bind_eq_some_iff.mp h
  obtain ⟨v, hv, rv⟩ := r.get h2
  exact ⟨v, Option.bind_eq_some_iff.mpr ⟨j, by rw [r.length]; exact h1, hv⟩, rv⟩
section
variable {X : Cx} {C : Ct}
def rIxD : R2 := fun x y H Q => ∃ a v, x = .ref a ∧ DGet H a y (some v) ∧ Q v H
theorem ix_dict (hu : X.A.units + 1 < cLine) : IxR X rIxD := by
  intro value slice pins s σ H x y v u Q I rx ry h hs
  obtain ⟨a, z, rfl, g, q⟩ := h
  obtain rfl : v = Value.ref a := rx
  exact tail_any (dict_typeIs I g) PySem.F.slot_dict_getitem.lookup (d_getItem hu I g ry fun w' s3 I3 rw' => ⟨z, H, I3, rw', q⟩) hs
theorem idx_ok (hK : X.K = C.K) (hu : X.A.units + 1 < cLine) : IxR X (r2 C (RB C) (rV C) fun x y st => .of (idxD (drf st x) y) st) := by
  intro value slice pins s σ H x y v u Q I rx ry h hs
  obtain ⟨g, σ', env, st, dx, dy, rep, vx, vy, go⟩ := h
  obtain ⟨d, hd, go2⟩ := go.of
  clear go
  have go := go2
  clear go2
  have vx := RB.see vx rep
  revert vx hd
  generalize drf st dx = ex
  intro hd vx
  have vy : RV C.K g H y dy := vy
  unfold idxD at hd
  split at hd
  · obtain ⟨a, vs, rfl, hq, r⟩ := vx
    split at hd
    · cases vy
      obtain ⟨z, hz, rz⟩ := atI_map r hd
      exact ix_list value slice pins s σ H _ _ v u Q I rx ry ⟨a, vs, _, z, rfl, rfl, by rw [hK]; exact hq, hz, go.end_ rep rz⟩ hs
    · cases hd
  · obtain ⟨a, vs, rfl, hq, r⟩ := vx
    split at hd
    · cases vy
      obtain ⟨z, hz, rz⟩ := atI_map r hd
      exact ix_tup value slice pins s σ H _ _ v u Q I rx ry ⟨a, vs, _, z, rfl, rfl, by rw [hK]; exact hq.sq, hz, go.end_ rep rz⟩ hs
    · cases hd
  · cases (show RV C.K g H x (.str _) from vx)
    split at hd
    · cases vy
      split at hd
      · rename_i hz
        obtain ⟨c, hc, rfl⟩ := Option.map_eq_some_iff.mp hd
        exact ix_str value slice pins s σ H _ _ v u Q I rx ry ⟨_, _, c, rfl, rfl, of_decide_eq_true hz, hc, go.end_ rep (.str _)⟩ hs
      · cases hd
    · cases hd
  · rename_i k l
    split at hd
    · rename_i hk
      cases k with
      | k =>
        obtain ⟨a, kvs, rfl, hr, r⟩ := vx
        obtain ⟨k, e⟩ := Option.isSome_iff_exists.mp hk
        obtain ⟨e1, e2⟩ := keyD_of vy e
        obtain ⟨z, hz, rz⟩ := (look_ks e r).1 d hd
        exact ix_dict hu value slice pins s σ H _ y v u Q I rx ry ⟨a, z, rfl, .inl ⟨kvs, k, hr, e1, hz.symm⟩, go.end_ rep rz⟩ hs
      | t => cases hk
    · cases hd
  · cases hd

/-! ### slices -/
theorem cut_rvs {K : PySem.W.Frag} {g : G} {H : Hp} {vs : List V} {ds : List D} (r : RVs K g H vs ds) (lo hi : Option Int) : RVs K g H (cutV vs lo hi) (cutL ds lo hi) := by
  unfold cutV cutL
  rw [r.length]
  exact (r.drop _).take _
def rSl (C : Ct) : V → Option Int → Option Int → Hp → VK → Prop := fun x lo hi H Q => ∃ g σ env st d, Rep C g σ H env st ∧ RB C σ env g H x d ∧ Go C σ env (rV C σ env) g H (.of (slD (drf st d) lo hi) st) Q
theorem sl_tupF {pins : List (Addr × Obj)} {s : Shared} {σ : L2.St} {H : Hp} {v vl vu : Value} {lo hi : Option Int} {sl : Addr} {Q : VK} {a : Addr} {xs : List V} (I : Inv X pins σ H s) (rx : RelV (.ref a) v) (hs : s.heap.IsSliceOf sl vl vu .none) (pl : IsPart vl lo) (pu : IsPart vu hi)
    (hx : SqT X.K H a xs) (q1 : HT.sIx xs.length 0 lo = 0 ∧ HT.sIx xs.length xs.length hi = xs.length → Q (.ref a) H) (q2 : ∀ p o, H p = none → o.dict = none → Q (.ref p) (upd H p (.frz o (.tup (cutV xs lo hi))))) :
    ∃ T id, typeLookup (.type T) "__getitem__" = pure (some (.builtin id)) ∧ s.TypeIs v T ∧ wpAny (model X.prog X.w) X.A (getItem v (.ref sl)) (EP X pins σ Q) X.xe s := by
  obtain rfl : v = Value.ref a := rx
  have ⟨us, r, at_, room⟩ := I.tuple hx
  have size : us.toArray.size = xs.length := List.size_toArray.trans r.length.symm
  refine ⟨"tuple", _, PyProof.Rows.slot_tuple_getitem.lookup, at_.typeIs, ?_⟩
  by_cases whole : HT.sIx xs.length 0 lo = 0 ∧ HT.sIx xs.length xs.length hi = xs.length
  · exact getItem_tuple_whole at_ hs pl pu (size ▸ whole) ⟨V.ref a, H, I, rfl, q1 whole⟩
  · have new := tup_new I ((r.drop (HT.sIx xs.length 0 lo)).take (HT.sIx xs.length xs.length hi - HT.sIx xs.length 0 lo)) (Nat.le_trans (cutV_length xs lo hi) room) s.toks q2
    exact HT.getItem_tuple_cut at_ hs pl pu (size ▸ whole) (by rw [size]; exact new) (size ▸ room)
theorem sl_ok (hK : X.K = C.K) : SlR X (rSl C) := by
  intro pins s σ H x v vl vu lo hi sl Q I rx hs pl pu h
  obtain ⟨g, σ', env, st, dx, rep, vx, go⟩ := h
  obtain ⟨d, hd, go2⟩ := go.of
  clear go
  have go := go2
  clear go2
  have vx := RB.see vx rep
  revert vx hd
  generalize drf st dx = ex
  intro hd vx
  unfold slD at hd
  split at hd
  · obtain ⟨a, vs, rfl, hq, r⟩ := vx
    cases hd
    exact sl_list pins s σ H _ v vl vu lo hi sl Q I rx hs pl pu ⟨a, vs, rfl, by rw [hK]; exact hq, go.lst rep (cut_rvs r lo hi)⟩
  · obtain ⟨a, vs, rfl, hq, r⟩ := vx
    cases hd
    refine sl_tupF I rx hs pl pu (by rw [hK]; exact hq.sq) (fun e => ?_) (go.tup rep (cut_rvs r lo hi))
    refine go.end_ rep (.tup hq ?_)
    have e2 := cut_rvs r lo hi
    unfold cutV at e2
    rw [e.1, e.2, List.drop_zero, Nat.sub_zero, List.take_length] at e2
    exact e2
  · cases (show RV C.K g H x (.str _) from vx)
    split at hd
    · rename_i z _ hz
      cases hd
      refine sl_str pins s σ H _ v vl vu lo hi sl Q I rx hs pl pu ⟨_, rfl, of_decide_eq_true hz, ?_⟩
      have e : cutS z lo hi = ⟨(cutL z.cps.toList lo hi).toArray⟩ := by
        unfold cutS cutL
        simp [Str.length]
      rw [e]
      exact go.end_ rep (.str _)
    · cases hd
  · cases hd

/-! ### truth -/
theorem tru_see (hK : X.K = C.K) {pins : List (Addr × Obj)} {s : Shared} {σ σ' : L2.St} {H : Hp} {x : V} {v : Value} {Q : Bool → Hp → Prop} {g : G} {env : Env} {st : Store} {d : D} {b : Bool}
    (I : Inv X pins σ H s) (rx : RelV x v) (rep : Rep C g σ' H env st) (vx : RB C σ' env g H x d) (h : truD st d = some b) (q : Q b H) : wpAny (model X.prog X.w) X.A (truthy v) (TP X pins σ Q) X.xe s := by
  have vx := RB.see vx rep
  unfold truD at h
  revert vx h
  generalize drf st d = ex
  intro h vx
  refine tru_ok pins s σ H x v Q I rx ⟨b, ?_, q⟩
  split at h
  · cases (show RV C.K g H x .non from vx); cases h; rfl
  · cases (show RV C.K g H x (.bl _) from vx); cases h; rfl
  · cases (show RV C.K g H x (.int _) from vx); cases h; rfl
  · cases (show RV C.K g H x (.str _) from vx)
    split at h
    · rename_i hz
      cases h
      refine ⟨of_decide_eq_true hz, ?_⟩
      rename_i z _
      cases hl : z.length with
      | zero => rfl
      | succ n =>
        have e1 : (n + 1 != 0) = true := by simp
        have e2 : (((n + 1 : Nat) : Int) != 0) = true := by rw [bne_iff_ne]; omega
        rw [e1, e2]
    · cases h
  · obtain ⟨a, vs, rfl, hq, r⟩ := vx
    cases h
    exact .inr (.inl ⟨vs, by rw [hK]; exact hq.sq, by cases r <;> rfl⟩)
  · obtain ⟨a, vs, rfl, hq, r⟩ := vx
    cases h
    exact .inl ⟨vs, by rw [hK]; exact hq, by cases r <;> rfl⟩
  · cases h

/-! ### built-in functions -/
inductive Sees (K : PySem.W.Frag) (g : G) (H : Hp) : List V → List D → Prop
  | nil : Sees K g H [] []
  | cons {v : V} {d : D} {vs : List V} {ds : List D} : See K g H v d → Sees K g H vs ds → Sees K g H (v :: vs) (d :: ds)
theorem RBs.sees {σ : L2.St} {env : Env} {g : G} {H : Hp} {st : Store} {vs : List V} {ds : List D} (h : RBs C σ env g H vs ds) (rep : Rep C g σ H env st) : Sees C.K g H vs (ds.map (drf st)) := by
  induction h with
  | nil => exact .nil
  | cons h _ ih => exact .cons (RB.see h rep) ih
def rc (C : Ct) (f : List D → Option D) : List V → Hp → VK → Prop := fun xs H Q => ∃ g σ env st ds, Rep C g σ H env st ∧ RBs C σ env g H xs ds ∧ Go C σ env (rV C σ env) g H (.of (f (ds.map (drf st))) st) Q
theorem boolsOf_map {K : PySem.W.Frag} {g : G} {H : Hp} : ∀ {vs : List V} {ds : List D} {bs : List Bool}, RVs K g H vs ds → boolsOf ds = some bs → vs = bs.map V.bl
  | [], _, bs, .nil, e => by cases e; rfl
  | v :: r, _, bs, .cons (d := d) h t, e => by
    cases d <;> try (cases e; done)
    cases h
    obtain ⟨bs', e1, e2⟩ := Option.map_eq_some_iff.mp (show (boolsOf _).map (_ :: ·) = some bs from e)
    subst e2
    rw [List.map_cons, ← boolsOf_map t e1]
theorem intsOf_map {K : PySem.W.Frag} {g : G} {H : Hp} : ∀ {vs : List V} {ds : List D} {bs : List Int}, RVs K g H vs ds → intsOf ds = some bs → vs = bs.map V.int
  | [], _, bs, .nil, e => by cases e; rfl
  | v :: r, _, bs, .cons (d := d) h t, e => by
    cases d <;> try (cases e; done)
    cases h
    obtain ⟨bs', e1, e2⟩ := Option.map_eq_some_iff.mp (show (intsOf _).map (_ :: ·) = some bs from e)
    subst e2
    rw [List.map_cons, ← intsOf_map t e1]
theorem strsOf_map {K : PySem.W.Frag} {g : G} {H : Hp} : ∀ {vs : List V} {ds : List D} {bs : List Str}, RVs K g H vs ds → strsOf ds = some bs → vs = bs.map V.str
  | [], _, bs, .nil, e => by cases e; rfl
  | v :: r, _, bs, .cons (d := d) h t, e => by
    cases d <;> try (cases e; done)
    cases h
    obtain ⟨bs', e1, e2⟩ := Option.map_eq_some_iff.mp (show (strsOf _).map (_ :: ·) = some bs from e)
    subst e2
    rw [List.map_cons, ← strsOf_map t e1]
/-! ### texts in order -/
theorem leS_iff {a b : Str} : leS a b = true ↔ a.cps.toList ≤ b.cps.toList := by
  unfold leS
  rw [Bool.not_eq_true', decide_eq_false_iff_not]
  exact Iff.rfl
theorem ins_perm (x : Str) : ∀ l : List Str, (insS x l).Perm (x :: l)
  | [] => .refl _
  | y :: r => by
    unfold insS
    split
    · exact .refl _
    · exact ((ins_perm x r).cons y).trans (.swap _ _ _)
theorem sort_perm : ∀ l : List Str, (sortS l).Perm l
  | [] => .refl _
  | x :: r => (ins_perm x (sortS r)).trans ((sort_perm r).cons x)
theorem ins_pw (x : Str) : ∀ l : List Str, l.Pairwise (fun a b => leS a b = true) → (insS x l).Pairwise fun a b => leS a b = true
  | [], _ => List.pairwise_singleton _ _
  | y :: r, h => by
    unfold insS
    have h' := List.pairwise_cons.mp h
    by_cases hl : leS x y = true
    · rw [if_pos hl]
      refine List.pairwise_cons.mpr ⟨fun z hz => ?_, h⟩
      rcases List.mem_cons.mp hz with e | hz
      · rw [e]; exact hl
      · exact leS_iff.mpr (List.le_trans (leS_iff.mp hl) (leS_iff.mp (h'.1 z hz)))
    · rw [if_neg hl]
      refine List.pairwise_cons.mpr ⟨fun z hz => ?_, ins_pw x r h'.2⟩
      rcases List.mem_cons.mp ((ins_perm x r).mem_iff.mp hz) with e | hz
      · rw [e]
        rcases List.le_total x.cps.toList y.cps.toList with q | q
        · exact (hl (leS_iff.mpr q)).elim
        · exact leS_iff.mpr q
      · exact h'.1 z hz
theorem sort_pw : ∀ l : List Str, (sortS l).Pairwise fun a b => leS a b = true
  | [] => List.Pairwise.nil
  | x :: r => ins_pw x _ (sort_pw r)
theorem rising_pw : ∀ (l : List Str) (p : Str), risingS p l = true → (p :: l).Pairwise fun a b => leS a b = true
  | [], p, _ => List.pairwise_singleton _ _
  | x :: r, p, h => by
    have h : (!ltCps x.cps.toList p.cps.toList && risingS x r) = true := h
    rw [Bool.and_eq_true, ltCps_eq] at h
    have ih := rising_pw r x h.2
    have h1 : leS p x = true := h.1
    refine List.pairwise_cons.mpr ⟨fun z hz => ?_, ih⟩
    rcases List.mem_cons.mp hz with e | hz
    · rw [e]; exact h1
    · exact leS_iff.mpr (List.le_trans (leS_iff.mp h1) (leS_iff.mp ((List.pairwise_cons.mp ih).1 z hz)))
theorem sortedS_pw : ∀ l : List Str, sortedS l = true → l.Pairwise fun a b => leS a b = true
  | [], _ => List.Pairwise.nil
  | x :: r, h => rising_pw r x h
theorem str_ext {a b : Str} (h : a.cps.toList = b.cps.toList) : a = b := by
  cases a; cases b
  congr
  exact Array.toList_inj.mp h
theorem sortS_eq {xs ys : List Str} (h1 : ys.Perm xs) (h2 : sortedS ys = true) : ys = sortS xs :=
  List.Perm.eq_of_pairwise (le := fun a b => leS a b = true) (fun a b _ _ x y => str_ext (List.le_antisymm (leS_iff.mp x) (leS_iff.mp y))) (sortedS_pw ys h2) (sort_pw xs) (h1.trans (sort_perm xs).symm)
theorem strs_rv {K : PySem.W.Frag} {g : G} {H : Hp} : ∀ ss : List Str, RVs K g H (ss.map V.str) (ss.map D.str)
  | [] => .nil
  | x :: r => .cons (.str x) (strs_rv r)
/-- the built-in of a name -/
def primId : Prim → Option (Str × Value)
  | .len => some ("len", .builtin "len")
  | .abs => some ("abs", .builtin "abs")
  | .int_ => some ("int", .type "int")
  | .min2 => some ("min", .builtin "min")
  | .max2 => some ("max", .builtin "max")
  | .list_ => some ("list", .type "list")
  | .tuple_ => some ("tuple", .type "tuple")
  | .dict_ => some ("dict", .type "dict")
  | .all_ => some ("all", .builtin "all")
  | .any_ => some ("any", .builtin "any")
  | .sum => some ("sum", .builtin "sum")
  | .isi => some ("isinstance", .builtin "isinstance")
  | .divmod => some ("divmod", .builtin "divmod")
  | .str1 => some ("str", .type "str")
  | .sorted_ => some ("sorted", .builtin "sorted")

/-- a put into a dict's pairs -/
theorem any_key {K : PySem.W.Frag} {g : G} {H : Hp} {d : D} {k : Key} (e : toKey d = some k) : ∀ {kvs : List (Key × V)} {l : List (D × D)}, RKs K g H kvs l → (l.any fun p => keyEq p.1 d) = kvs.any fun kv => decide (kv.1 = k)
  | [], _, .nil => rfl
  | (k', v) :: r, _, .cons (d := d') (ds := ds) h t => by
    have hk : keyEq (keyD k') d = decide (k' = k) := by
      rw [keyEq_k, e]
      by_cases z : k' = k
      · subst z; simp
      · rw [decide_eq_false z, decide_eq_false]
        intro q
        exact z (Option.some.inj q).symm
    rw [List.any_cons, List.any_cons, any_key e t]
    show (keyEq (keyD k') d || _) = _
    rw [hk]
theorem map_key {K : PySem.W.Frag} {g : G} {H : Hp} {d x : D} {k : Key} {y : V} (e : toKey d = some k) (hx : RV K g H y x) : ∀ {kvs : List (Key × V)} {l : List (D × D)}, RKs K g H kvs l →
    RKs K g H (kvs.map fun kv => if kv.1 = k then (kv.1, y) else kv) (l.map fun p => if keyEq p.1 d then (p.1, x) else p)
  | [], _, .nil => .nil
  | (k', v) :: r, _, .cons (d := d') (ds := ds) h t => by
    have hk : keyEq (keyD k') d = decide (k' = k) := by
      rw [keyEq_k, e]
      by_cases z : k' = k
      · subst z; simp
      · rw [decide_eq_false z, decide_eq_false]
        intro q
        exact z (Option.some.inj q).symm
    rw [List.map_cons, List.map_cons]
    show RKs K g H ((if k' = k then (k', y) else (k', v)) :: _) ((if keyEq (keyD k') d then (keyD k', x) else (keyD k', d')) :: _)
    rw [hk]
    by_cases z : k' = k
    · rw [if_pos z, decide_eq_true z, if_pos rfl]
      exact .cons hx (map_key e hx t)
    · rw [if_neg z, decide_eq_false z, if_neg Bool.false_ne_true]
      exact .cons h (map_key e hx t)
theorem RKs.append {K : PySem.W.Frag} {g : G} {H : Hp} : ∀ {vs ws : List (Key × V)} {ds es : List (D × D)}, RKs K g H vs ds → RKs K g H ws es → RKs K g H (vs ++ ws) (ds ++ es)
  | [], _, _, _, .nil, h => h
  | _ :: _, _, _, _, .cons h r, t => .cons h (RKs.append r t)
theorem put_rks {K : PySem.W.Frag} {g : G} {H : Hp} {d x : D} {k : Key} {y : V} (e : toKey d = some k) (hx : RV K g H y x) {kvs : List (Key × V)} {l : List (D × D)} (r : RKs K g H kvs l) : RKs K g H (putK kvs k y) (putD l d x) := by
  unfold putK putD
  rw [any_key e r]
  split
  · exact map_key e hx r
  · have ed : d = keyD k := by
      cases d <;> first | (cases e; done) | (cases e; rfl)
    rw [ed]
    exact r.append (.cons hx .nil)
theorem RKs.length {K : PySem.W.Frag} {g : G} {H : Hp} {vs : List (Key × V)} {ds : List (D × D)} (h : RKs K g H vs ds) : vs.length = ds.length := by
  induction vs generalizing ds with
  | nil => cases h; rfl
  | cons v r ih => cases h with | cons _ t => rw [List.length_cons, List.length_cons, ih t]
/-- pairs as a dict takes them -/
theorem merge_rks {K : PySem.W.Frag} {g : G} {H : Hp} : ∀ {more : List (Key × V)} {ms : List (D × D)} {kvs : List (Key × V)} {l : List (D × D)}, RKs K g H more ms → RKs K g H kvs l → RKs K g H (mergeK kvs more) (mergeD l ms)
  | [], _, _, _, h0, h => by cases h0; exact h
  | (k, v) :: r, _, _, _, h0, q => by
    cases h0 with
    | cons h t =>
      have e : toKey (keyD k) = some k := by cases k <;> rfl
      have z := merge_rks t (put_rks e h q)
      exact z
theorem pairs_rv {C : Ct} {X : Cx} (hK : X.K = C.K) {g : G} {H : Hp} : ∀ {vs : List V} {l : List D} {ps : List (D × D)}, RVs C.K g H vs l → pairsOf l = some ps → (ps.all fun p => (toKey p.1).isSome) = true →
    ∃ (as : List Addr) (kvs : List (Key × V)), vs = as.map V.ref ∧ Paired (fun p kv => SqT X.K H p [kV kv.1, kv.2]) as kvs ∧ RKs C.K g H kvs ps ∧ as.length = ps.length
  | [], _, ps, .nil, e, _ => by cases e; exact ⟨[], [], rfl, .nil, .nil, rfl⟩
  | v :: r, _, ps, .cons (d := d) (ds := ds) h t, e, q => by
    unfold pairsOf at e
    split at e
    · rename_i p ps' e1 e2
      cases e
      simp only [List.all_cons, Bool.and_eq_true] at q
      obtain ⟨as, kvs, h1, h2, h3, h4⟩ := pairs_rv hK t e2 q.2
      unfold pairOf at e1
      split at e1
      · rename_i a b
        cases e1
        cases h with
        | tup f rr =>
          rename_i ad vs
          cases rr with
          | cons ra rr =>
            cases rr with
            | cons rb rr =>
              cases rr
              obtain ⟨k, hk⟩ := Option.isSome_iff_exists.mp q.1
              obtain ⟨e3, e4⟩ := keyD_of ra hk
              subst e3
              rename_i vb
              refine ⟨ad :: as, (k, vb) :: kvs, by rw [h1]; rfl, .cons (by rw [hK]; exact f.sq) h2, ?_, by rw [List.length_cons, List.length_cons, h4]⟩
              show RKs C.K g H ((k, vb) :: kvs) ((a, b) :: ps')
              rw [e4]
              exact .cons rb h3
      · cases e1
    · cases e
/-- a tuple that is told wholly -/
def XT (K : PySem.W.Frag) (H : Hp) (a : Addr) (vs : List V) : Prop := (∃ o, o.dict = none ∧ H a = some (.frz o (.tup vs))) ∨ StT K a vs
theorem FzT.xt {K : PySem.W.Frag} {g : G} {H : Hp} {a : Addr} {vs : List V} (h : FzT K g H a vs) : XT K H a vs := h.imp (·.2) id
theorem xt_at {pins : List (Addr × Obj)} {s : Shared} {σ : L2.St} {H : Hp} {a : Addr} {vs : List V} (I : Inv X pins σ H s) (h : XT X.K H a vs) : ∃ its : List Value, Vals vs its ∧ PlainSeq "tuple" s.heap a its.toArray ∧ vs.length ≤ sizeLine := by
  rcases h with ⟨o, hd, h⟩ | ⟨o, its, n, hk, hc, hd, hs, hz, r⟩
  · obtain ⟨e, z, its, r, o', e', c', n, d'⟩ := (show ObjOk X.prog X.w H s.heap a (.frz o (.tup vs)) from I.hok a _ h)
    rw [e] at e'
    cases e'
    exact ⟨its, r, ⟨o, n, e, c', hd, d'⟩, z⟩
  · refine ⟨its.toList, r, ⟨o, n, I.kIn a o hk, hc, hd, by simpa using hs⟩, ?_⟩
    have e := r.length
    simp only [Array.length_toList] at e
    omega
/-- pairs of the store, told as the machine draws them: what each holds, and its key's value -/
theorem pairs_drawn {P : Program} {w : World} {h : Heap} {ps : List Addr} {prs : List (Key × Value)} (many : prs.length = ps.length) (each : ∀ (j : Nat) (q : Key × Value), prs[j]? = some q → ∃ (b : Addr) (u : Value), ps[j]? = some b ∧ IsTup h b #[u, q.2] ∧ keyIs q.1 u = true) :
    ∃ (Ts : Nat → Addr) (qs : List (Value × Value)), qs.length = ps.length ∧ PairItems h (ps.map Value.ref).toArray Ts qs ∧ PairsHave (mixKind P w) qs.length (PairRel qs) prs := by
  have pick : ∀ j : Nat, ∃ u : Value, ∀ q, prs[j]? = some q → ∃ b, ps[j]? = some b ∧ IsTup h b #[u, q.2] ∧ keyIs q.1 u = true := fun j => by
    cases e : prs[j]? with
    | none => exact ⟨.none, fun q z => nomatch z⟩
    | some q0 =>
      have ⟨b, u, z⟩ := each j q0 e
      exact ⟨u, fun q e2 => by cases e2; exact ⟨b, z⟩⟩
  have ⟨U, hU⟩ := Classical.axiomOfChoice pick
  have back : ∀ {j : Nat} {kv : Value × Value}, (prs.mapIdx fun j q => (U j, q.2))[j]? = some kv → ∃ q, prs[j]? = some q ∧ kv = (U j, q.2) := fun {j kv} e => by
    rw [List.getElem?_mapIdx] at e
    obtain ⟨q, e1, e2⟩ := Option.map_eq_some_iff.mp e
    exact ⟨q, e1, e2.symm⟩
  have long : (prs.mapIdx fun j q => (U j, q.2)).length = ps.length := by rw [List.length_mapIdx, many]
  refine ⟨fun j => ps.getD j 0, _, long, ⟨by rw [List.size_toArray, List.length_map, long], fun j k v e => ?_⟩, by rw [List.length_mapIdx], fun i key v e => ?_⟩
  · obtain ⟨q, e1, e2⟩ := back e
    cases e2
    obtain ⟨b, at_, tup, _⟩ := hU j q e1
    have here : ps.getD j 0 = b := by rw [List.getD_eq_getElem?_getD, at_]; rfl
    refine ⟨by show (List.map Value.ref ps).toArray[j]? = some (Value.ref (ps.getD j 0)); rw [here]; simp [at_], ?_⟩
    show PairAt h (ps.getD j 0) _ _
    rw [here]
    exact .inl tup
  · obtain ⟨q, e1, e2⟩ := back (show (prs.mapIdx fun j q => (U j, q.2))[i]? = some (key, v) from e)
    cases e2
    obtain ⟨_, _, _, key_⟩ := hU i q e1
    exact ⟨q.1, e1, key_⟩
theorem call_dictT (hcalm : X.calm = true) : CallR X (.type "dict") (fun xs H Q => ∃ (a : Addr) (ps : List Addr) (kvs : List (Key × V)), xs = [.ref a] ∧ XT X.K H a (ps.map V.ref) ∧ Paired (fun p kv => SqT X.K H p [kV kv.1, kv.2]) ps kvs ∧
    ∀ p, H p = none → Q (.ref p) (upd H p (.dK (mergeK [] kvs)))) := fun pins s σ H xs us Q I r ⟨a, ps, kvs, e, hq, hp, q⟩ => by
  subst e
  obtain ⟨u, rfl, ru⟩ := vals1 r
  obtain rfl : u = Value.ref a := ru
  have ⟨its, rv, at_, room⟩ := xt_at I hq
  obtain rfl := refs_at rv
  rw [List.length_map] at room
  have ⟨prs, rel, many, each⟩ := pairs_of I hp
  have ⟨Ts, qs, l1, items, have_⟩ := pairs_drawn (P := X.prog) (w := X.w) many each
  refine PySem.call_dict_pairs (PairArg.tuple a (ps.map Value.ref).toArray Ts qs) (I.ok.hd hcalm) ⟨at_, items⟩ have_ (by rw [l1]; exact room) fun h' tk made keep => ?_
  have len : (mergeK [] kvs).length ≤ sizeLine := Nat.le_trans (length_mergeK kvs []) (by rw [List.length_nil, Nat.zero_add, rel.length, many]; exact room)
  have ok : ObjOk X.prog X.w (upd H s.heap.objs.size (.dK (mergeK [] kvs))) h' s.heap.objs.size (.dK (mergeK [] kvs)) := ⟨len, by simpa using Nat.ne_of_gt I.big, merged [] prs, KV.merge rel .nil, made⟩
  exact ⟨V.ref s.heap.objs.size, _, I.laid (t' := tk) (fun b o z => keep b o (by simp) z) (Nat.le_refl _) ok, rfl, q _ (I.hok.fresh (Nat.le_refl _))⟩
/-- tuple(x) -/
theorem call_tupF : CallR X (.type "tuple") (fun xs H Q => ∃ p ys, xs = [.ref p] ∧ ((SqL X.K H p ys ∧ ∀ l o, H l = none → o.dict = none → Q (.ref l) (upd H l (.frz o (.tup ys)))) ∨ (SqT X.K H p ys ∧ Q (.ref p) H))) := fun pins s σ H xs us Q I r ⟨p, ys, e, h⟩ => by
  subst e
  obtain ⟨u, rfl, ru⟩ := vals1 r
  obtain rfl : u = Value.ref p := ru
  cases h with
  | inr h =>
    have ⟨_, _, at_, _⟩ := I.tuple h.1
    exact call_tuple_same at_ ⟨V.ref p, H, I, rfl, h.2⟩
  | inl h =>
    have ⟨vs, rv, at_, room⟩ := I.list h.1
    have few : vs.toArray.size ≤ sizeLine := by simpa [← rv.length] using room
    exact call_tuple_list at_.isList (fun h' keep => tup_new (s := { s with heap := h' }) (I.kept (t' := s.toks) keep) rv room s.toks h.2) few
theorem rc1 {xs : List V} {K : PySem.W.Frag} {g : G} {H : Hp} {d : D} (h : Sees K g H xs [d]) : ∃ x, xs = [x] ∧ See K g H x d := by
  cases h with
  | cons a t => cases t; exact ⟨_, rfl, a⟩
theorem rc2 {xs : List V} {K : PySem.W.Frag} {g : G} {H : Hp} {d e : D} (h : Sees K g H xs [d, e]) : ∃ x y, xs = [x, y] ∧ See K g H x d ∧ See K g H y e := by
  cases h with
  | cons a t =>
    cases t with
    | cons b t => cases t; exact ⟨_, _, rfl, a, b⟩
theorem isi_tab : (["int", "str", "bool", "tuple", "list"] : List String).all (fun T => decide (kitB "bool" T = some (T == "bool" || T == "int")) && decide (kitB "int" T = some (T == "int")) && decide (kitB "str" T = some (T == "str")) && decide (kitB "tuple" T = some (T == "tuple")) && decide (kitB "list" T = some (T == "list")) && decide (kitB "NoneType" T = some false)) = true := by decide +kernel
theorem isi_ok {K : PySem.W.Frag} {g : G} {H : Hp} {x : V} {d : D} {T : String} {b : Bool} (hT : tyN T = true) (s : See K g H x d) (hd : isiD T d = some b) : ∃ t, TyX K H x (.type t) ∧ kitB t T = some b := by
  have h := List.all_eq_true.mp isi_tab T (of_decide_eq_true hT)
  simp only [Bool.and_eq_true, decide_eq_true_eq] at h
  obtain ⟨⟨⟨⟨⟨h1, h2⟩, h3⟩, h4⟩, h5⟩, h6⟩ := h
  cases d <;> try (cases hd; done)
  · cases (show RV K g H x .non from s); cases hd
    exact ⟨_, .base .non, h6⟩
  · cases (show RV K g H x (.bl _) from s); cases hd
    exact ⟨_, .base (.bl _), h1⟩
  · cases (show RV K g H x (.int _) from s); cases hd
    exact ⟨_, .base (.int _), h2⟩
  · cases (show RV K g H x (.str _) from s); cases hd
    exact ⟨_, .base (.str _), h3⟩
  · obtain ⟨a, vs, rfl, hq, _⟩ := s
    cases hd
    rcases hq with ⟨_, o, _, e⟩ | ⟨o, its, n, e, c, _⟩
    · exact ⟨_, .fTuple e, h4⟩
    · exact ⟨_, .kTuple e c, h4⟩
  · obtain ⟨a, vs, rfl, hq, _⟩ := s
    cases hd
    rcases hq with hq | ⟨o, its, n, e, c, _⟩
    · rcases hq with e | ⟨o, e⟩
      · exact ⟨_, .base (.lst e), h5⟩
      · exact ⟨_, .base (.frz e), h5⟩
    · exact ⟨_, .kList e c, h5⟩
/-- divmod: a new tuple -/
theorem call_divmodF : CallR X (.builtin "divmod") (fun xs H Q => ∃ i j, xs = [.int i, .int j] ∧ CDiv i j ∧ ∀ p o, H p = none → o.dict = none → Q (.ref p) (upd H p (.frz o (.tup [.int (i / j), .int (i % j)])))) := fun pins s σ H xs us Q I r ⟨i, j, e, c, q⟩ => by
  subst e
  obtain ⟨_, _, rfl, ⟨_, rfl⟩, ⟨_, rfl⟩⟩ := vals2 r
  have pos := c.1
  have low := c.2
  have two : Vals [V.int (i / j), .int (i % j)] [Value.int (i / j) s.toks, .int (i % j) (s.toks + 1)] := .cons ⟨_, rfl⟩ (.cons ⟨_, rfl⟩ .nil)
  have new := tup_new I two (show 2 ≤ sizeLine by decide) (s.toks + 1 + 1) q
  rw [← Int.fdiv_eq_ediv_of_nonneg i (by omega), ← Int.fmod_eq_emod_of_nonneg i (by omega)] at new
  exact divmod_int (by omega) new (.inl (PyProof.noPylong_small (by omega)))
theorem log_small {n : Nat} (h : n < 2 ^ 64) : n.log2 < 1920 := by
  by_cases h0 : n = 0
  · subst h0; decide
  · exact Nat.lt_of_lt_of_le ((Nat.log2_lt h0).mpr h) (by decide)
theorem prim_ok (hK : X.K = C.K) (hc : X.calm = true) {p : Prim} {nm : Str} {f : Value} (hp : primId p = some (nm, f)) : CallR X f (rc C (primD p)) := by
  intro pins s σ H xs us Q I r h
  obtain ⟨g, σ', env, st, ds, rep, vs, go⟩ := h
  obtain ⟨d, hd, go2⟩ := go.of
  clear go
  have go := go2
  clear go2
  have vs := vs.sees rep
  revert vs hd
  generalize ds.map (drf st) = es
  intro hd vs
  unfold primD at hd
  split at hd
  -- len
  · cases hp; cases hd
    obtain ⟨x, rfl, a, ws, rfl, hq, rr⟩ := rc1 vs
    exact call_len_seq pins s σ H _ us Q I r ⟨a, ws, rfl, .inl (by rw [hK]; exact hq), by rw [rr.length]; exact go.end_ rep (.int _)⟩
  · cases hp; cases hd
    obtain ⟨x, rfl, a, ws, rfl, hq, rr⟩ := rc1 vs
    exact call_len_seq pins s σ H _ us Q I r ⟨a, ws, rfl, .inr (by rw [hK]; exact hq.sq), by rw [rr.length]; exact go.end_ rep (.int _)⟩
  · cases hp
    rename_i k l
    cases k with
    | k =>
      cases hd
      obtain ⟨x, rfl, a, kvs, rfl, hr, rr⟩ := rc1 vs
      obtain ⟨u, rfl, ru⟩ := vals1 r
      cases ru
      exact d_len I hr fun t s' I' => ⟨.int kvs.length, H, I', ⟨t, rfl⟩, by rw [rr.length]; exact go.end_ rep (.int _)⟩
    | t => cases hd
  · cases hp
    split at hd
    · rename_i hz
      cases hd
      obtain ⟨x, rfl, vx⟩ := rc1 vs
      cases (show RV C.K g H x (.str _) from vx)
      exact call_len_str pins s σ H _ us Q I r ⟨_, rfl, of_decide_eq_true hz, go.end_ rep (.int _)⟩
    · cases hd
  · cases hp; cases hd
    obtain ⟨x, rfl, vx⟩ := rc1 vs
    cases (show RV C.K g H x (.int _) from vx)
    exact call_abs pins s σ H _ us Q I r ⟨_, rfl, go.end_ rep (.int _)⟩
  · cases hp; cases hd
    obtain ⟨x, rfl, vx⟩ := rc1 vs
    cases (show RV C.K g H x (.int _) from vx)
    exact call_int1 pins s σ H _ us Q I r (.inl ⟨_, rfl, go.end_ rep (.int _)⟩)
  · cases hp; cases hd
    obtain ⟨x, rfl, vx⟩ := rc1 vs
    cases (show RV C.K g H x (.bl _) from vx)
    exact call_int1 pins s σ H _ us Q I r (.inr ⟨_, rfl, go.end_ rep (.int _)⟩)
  · cases hp; cases hd
    obtain ⟨x, y, rfl, vx, vy⟩ := rc2 vs
    cases (show RV C.K g H x (.int _) from vx)
    cases (show RV C.K g H y (.int _) from vy)
    exact call_min2 hc pins s σ H _ us Q I r ⟨_, _, rfl, go.end_ rep (.int _)⟩
  · cases hp; cases hd
    obtain ⟨x, y, rfl, vx, vy⟩ := rc2 vs
    cases (show RV C.K g H x (.int _) from vx)
    cases (show RV C.K g H y (.int _) from vy)
    exact call_max2 hc pins s σ H _ us Q I r ⟨_, _, rfl, go.end_ rep (.int _)⟩
  · cases hp; cases hd
    obtain ⟨x, rfl, a, ws, rfl, hq, rr⟩ := rc1 vs
    exact call_list_of pins s σ H _ us Q I r ⟨a, ws, rfl, .inl (by rw [hK]; exact hq), go.lst rep rr⟩
  · cases hp; cases hd
    obtain ⟨x, rfl, a, ws, rfl, hq, rr⟩ := rc1 vs
    exact call_list_of pins s σ H _ us Q I r ⟨a, ws, rfl, .inr (by rw [hK]; exact hq.sq), go.lst rep rr⟩
  · cases hp; cases hd
    obtain ⟨x, rfl, a, ws, rfl, hq, rr⟩ := rc1 vs
    exact call_tupF pins s σ H _ us Q I r ⟨a, ws, rfl, .inl ⟨by rw [hK]; exact hq, go.tup rep rr⟩⟩
  · cases hp; cases hd
    obtain ⟨x, rfl, a, ws, rfl, hq, rr⟩ := rc1 vs
    exact call_tupF pins s σ H _ us Q I r ⟨a, ws, rfl, .inr ⟨by rw [hK]; exact hq.sq, go.end_ rep (.tup hq rr)⟩⟩
  · cases hp
    split at hd
    · rename_i ps e1
      split at hd
      · rename_i hz
        cases hd
        simp only [Bool.and_eq_true] at hz
        obtain ⟨x, rfl, a, ws, rfl, hq, rr⟩ := rc1 vs
        obtain ⟨as, kvs, h1, h2, h3, h4⟩ := pairs_rv hK rr e1 hz.1
        subst h1
        exact call_dictT hc pins s σ H _ us Q I r ⟨a, as, kvs, rfl, by rw [hK]; exact hq.xt, h2, go.dk rep (merge_rks h3 .nil)⟩
      · cases hd
    · cases hd
  · cases hp
    split at hd
    · rename_i ps e1
      split at hd
      · rename_i hz
        cases hd
        simp only [Bool.and_eq_true] at hz
        obtain ⟨x, rfl, a, ws, rfl, hq, rr⟩ := rc1 vs
        obtain ⟨as, kvs, h1, h2, h3, h4⟩ := pairs_rv hK rr e1 hz.1
        subst h1
        exact call_dictP hc pins s σ H _ us Q I r ⟨a, as, kvs, rfl, by rw [hK]; exact hq, h2, go.dk rep (merge_rks h3 .nil)⟩
      · cases hd
    · cases hd
  · cases hp
    obtain ⟨bs, e1, rfl⟩ := Option.map_eq_some_iff.mp hd
    obtain ⟨x, rfl, a, ws, rfl, hq, rr⟩ := rc1 vs
    have e2 := boolsOf_map rr e1
    subst e2
    exact cr_all hc pins s σ H _ us Q I r ⟨a, bs, rfl, by rw [hK]; exact hq, go.end_ rep (.bl _)⟩
  · cases hp
    obtain ⟨bs, e1, rfl⟩ := Option.map_eq_some_iff.mp hd
    obtain ⟨x, rfl, a, ws, rfl, hq, rr⟩ := rc1 vs
    have e2 := boolsOf_map rr e1
    subst e2
    exact cr_any hc pins s σ H _ us Q I r ⟨a, bs, rfl, by rw [hK]; exact hq, go.end_ rep (.bl _)⟩
  · cases hp
    obtain ⟨bs, e1, rfl⟩ := Option.map_eq_some_iff.mp hd
    obtain ⟨x, rfl, a, ws, rfl, hq, rr⟩ := rc1 vs
    have e2 := intsOf_map rr e1
    subst e2
    exact cr_sum hc pins s σ H _ us Q I r ⟨a, bs, rfl, by rw [hK]; exact hq, go.end_ rep (.int _)⟩
  · cases hp
    split at hd
    · rename_i hT
      obtain ⟨b, e1, rfl⟩ := Option.map_eq_some_iff.mp hd
      obtain ⟨x, y, rfl, vx, vy⟩ := rc2 vs
      cases (show RV C.K g H y (.ty _) from vy)
      obtain ⟨t, h1, h2⟩ := isi_ok hT vx e1
      exact call_isi pins s σ H _ us Q I r ⟨_, _, _, _, b, rfl, .ty _, by rw [hK]; exact h1, kit_ty h2, go.end_ rep (.bl _)⟩
    · cases hd
  · cases hp
    split at hd
    · rename_i i hz
      cases hd
      obtain ⟨x, rfl, vx⟩ := rc1 vs
      cases (show RV C.K g H x (.int _) from vx)
      exact call_str_int pins s σ H _ us Q I r ⟨_, rfl, log_small (of_decide_eq_true hz), go.end_ rep (.str _)⟩
    · cases hd
  · cases hp
    split at hd
    · rename_i hz
      cases hd
      obtain ⟨x, y, rfl, vx, vy⟩ := rc2 vs
      cases (show RV C.K g H x (.int _) from vx)
      cases (show RV C.K g H y (.int _) from vy)
      exact call_divmodF pins s σ H _ us Q I r ⟨_, _, rfl, hz, go.tup rep (.cons (.int _) (.cons (.int _) .nil))⟩
    · cases hd
  · cases hp
    split at hd
    · rename_i hz
      obtain ⟨i, e1, rfl⟩ := Option.map_eq_some_iff.mp hd
      obtain ⟨x, rfl, vx⟩ := rc1 vs
      cases (show RV C.K g H x (.str _) from vx)
      exact call_int_str pins s σ H _ us Q I r ⟨_, _, rfl, e1, of_decide_eq_true hz, go.end_ rep (.int _)⟩
    · cases hd
  · cases hp
    split at hd
    · rename_i ss e1
      split at hd
      · rename_i hz
        cases hd
        obtain ⟨x, rfl, a, ws, rfl, hq, rr⟩ := rc1 vs
        have e2 := strsOf_map rr e1
        subst e2
        refine cr_sortedS pins s σ H _ us Q I r ⟨a, ss, rfl, by rw [hK]; exact hq, of_decide_eq_true hz, fun ys p h1 h2 h3 => ?_⟩
        obtain rfl := sortS_eq h1 h2
        exact go.lst rep (strs_rv _) p h3
      · cases hd
    · cases hd
  all_goals first | (cases hd; done) | (cases hp; done)
end
end L3
end

section
set_option Elab.async false
set_option linter.all false
set_option maxRecDepth 100000
set_option maxHeartbeats 4000000
/-! L3e: states behind calls and new objects; what is walked. -/
namespace L3
open PySem PySem.Spec PyProof.Rows L2

/-! ### a call's frame -/
theorem none_back {g0 g : G} {H0 H : Hp} {K : PySem.W.Frag} {cls : Nat → Addr} {st : Store} (f : Frm g0 H0 g H) (r : RS K cls g H st) {a : Addr} (h : H a = none) : H0 a = none := by
  cases q : H0 a with
  | none => rfl
  | some o =>
    by_cases hn : ∀ n, g0.ρ n ≠ some a
    · rw [f.keep a o q hn] at h; cases h
    · obtain ⟨n, hn⟩ := Classical.not_forall.mp hn
      have hn := Classical.not_not.mp hn
      obtain ⟨_, u, _, _, hu⟩ := r.there (f.ρ n a hn)
      rw [hu] at h; cases h
theorem Frm.trans {g0 g g' : G} {H0 H H' : Hp} {K : PySem.W.Frag} {cls : Nat → Addr} {st : Store} (a : Frm g0 H0 g H) (r : RS K cls g H st) (b : Frm g H g' H') : Frm g0 H0 g' H' where
  F := fun x h => b.F x (a.F x h)
  Fn := fun x h => by
    rcases b.Fn x h with h | h
    · exact a.Fn x h
    · exact .inr (none_back a r h)
  ρ := fun n x h => b.ρ n x (a.ρ n x h)
  ρn := fun n x h => by
    rcases b.ρn n x h with h | h
    · exact a.ρn n x h
    · exact .inr (none_back a r h)
  keep := fun x o h hn => b.keep x o (a.keep x o h hn) fun n q => by
    rcases a.ρn n x q with q | q
    · exact hn n q
    · rw [h] at q; cases q
theorem Frm.ext {g g' : G} {H H' : Hp} {K : PySem.W.Frag} {cls : Nat → Addr} {st : Store} (b : Frm g H g' H') (r : RS K cls g H st) (fz : ∀ a, g.F a → ∃ o, H a = some o) : Ext g H g' H' where
  F := b.F
  ρ := b.ρ
  tp := fun a o u f h => b.keep a _ h fun n q => r.nf n a q f
  rd := fun a u f h => h.imp (fun h => b.keep a _ h fun n q => r.nf n a q f) fun ⟨o, h⟩ => ⟨o, b.keep a _ h fun n q => r.nf n a q f⟩
section
variable {C : Ct} {g g' : G} {σ : L2.St} {H H' : Hp} {env : Env} {st st' : Store}
theorem Rep.call (rep : Rep C g σ H env st) (f : Frm g H g' H') (fz : ∀ a, g'.F a → ∃ o, H' a = some o) (rs : RS C.K C.cls g' H' st') : Rep C g' σ H' env st' where
  len := rep.len
  val := fun i d h => let ⟨v, a, b⟩ := rep.val i d h; ⟨v, a, b.ext (f.ext rep.sto rep.fz)⟩
  own := fun i o h => by
    obtain ⟨a, h1, h2, h3, h4, h5⟩ := rep.own i o h
    obtain ⟨u, hu⟩ := h2.there
    refine ⟨a, h1, h2.ext (f.ext rep.sto rep.fz) (fun o q => f.keep a o q h4), fun z => ?_, fun n z => ?_, h5⟩
    · rcases f.Fn a z with z | z
      · exact h3 z
      · rw [hu] at z; cases z
    · rcases f.ρn n a z with z | z
      · exact h4 n z
      · rw [hu] at z; cases z
  inj := rep.inj
  sto := rs
  fz := fz
  fr := rep.fr.trans rep.sto f
  prv := fun q hq => by
    obtain ⟨h1, h2, h3, h4⟩ := rep.prv q hq
    refine ⟨f.keep _ _ h1 h3, fun z => ?_, fun n z => ?_, h4⟩
    · rcases f.Fn _ z with z | z
      · exact h2 z
      · rw [h1] at z; cases z
    · rcases f.ρn n _ z with z | z
      · exact h3 n z
      · rw [h1] at z; cases z
  prd := rep.prd
/-- a new place of the store -/
def G.bind (g : G) (n : Nat) (p : Addr) : G := ⟨g.F, fun m => if m = n then some p else g.ρ m⟩
theorem Ext.alloc {o : HO} {p : Addr} (rs : RS C.K C.cls g H st) (hp : H p = none) : Ext g H (g.bind st.length p) (upd H p o) where
  F := fun _ h => h
  tp := fun a o u f h => by rw [upd_ne (ne_of_none h hp)]; exact h
  rd := fun a u f h => h.imp (fun h => by rw [upd_ne (ne_of_none h hp)]; exact h) fun ⟨o, h⟩ => ⟨o, by rw [upd_ne (ne_of_none h hp)]; exact h⟩
  ρ := fun n a h => by
    have := rs.lt n a h
    show (if n = st.length then some p else g.ρ n) = some a
    rw [if_neg (by omega)]
    exact h
theorem Rep.alloc {o : DO} {ho : HO} {p : Addr} (rep : Rep C g σ H env st) (hp : H p = none) (ro : RO C.K C.cls (g.bind st.length p) (upd H p ho) p o) : Rep C (g.bind st.length p) σ (upd H p ho) env (st ++ [o]) := by
  have ex := Ext.alloc (o := ho) rep.sto hp
  have keep : ∀ a o, H a = some o → upd H p ho a = some o := fun a o h => by rw [upd_ne (ne_of_none h hp)]; exact h
  have nF : ¬ g.F p := fun f => by
    obtain ⟨o, h⟩ := rep.fz p f
    rw [hp] at h; cases h
  have nρ : ∀ n, g.ρ n ≠ some p := fun n h => by
    obtain ⟨_, u, _, _, hu⟩ := rep.sto.there h
    rw [hp] at hu; cases hu
  have case : ∀ n a, (g.bind st.length p).ρ n = some a → (n = st.length ∧ a = p) ∨ (n ≠ st.length ∧ g.ρ n = some a) := fun n a h => by
    have h : (if n = st.length then some p else g.ρ n) = some a := h
    split at h
    · exact .inl ⟨by assumption, by cases h; rfl⟩
    · exact .inr ⟨by assumption, h⟩
  refine ⟨rep.len, fun i d h => ?_, fun i o h => ?_, rep.inj, ⟨fun n o h => ?_, fun n a h => ?_, fun n m a h h' => ?_, fun n a h f => ?_⟩, fun a f => ?_, ⟨rep.fr.F, rep.fr.Fn, fun n a h => ex.ρ n a (rep.fr.ρ n a h), fun n a h => ?_, fun a o h hn => keep a o (rep.fr.keep a o h hn)⟩, fun q hq => ?_, rep.prd⟩
  · obtain ⟨v, a, b⟩ := rep.val i d h
    exact ⟨v, a, b.ext ex⟩
  · obtain ⟨a, h1, h2, h3, h4, h5⟩ := rep.own i o h
    refine ⟨a, h1, h2.ext ex (keep a), h3, fun n z => ?_, h5⟩
    rcases case n a z with ⟨_, z⟩ | ⟨_, z⟩
    · obtain ⟨u, hu⟩ := h2.there
      rw [z, hp] at hu; cases hu
    · exact h4 n z
  · by_cases hn : n < st.length
    · rw [List.getElem?_append_left hn] at h
      obtain ⟨a, h1, h2⟩ := rep.sto.obj n o h
      exact ⟨a, ex.ρ n a h1, h2.ext ex (keep a)⟩
    · rw [List.getElem?_append_right (by omega)] at h
      have e : n = st.length := by
        by_cases z : n - st.length = 0
        · omega
        · rw [List.getElem?_eq_none (by simp; omega)] at h; cases h
      subst e
      simp at h
      subst h
      exact ⟨p, by show (if st.length = st.length then some p else _) = some p; rw [if_pos rfl], ro⟩
  · rw [List.length_append, List.length_singleton]
    rcases case n a h with ⟨z, _⟩ | ⟨_, z⟩
    · omega
    · have := rep.sto.lt n a z
      omega
  · rcases case n a h with ⟨z, e⟩ | ⟨z, e⟩ <;> rcases case m a h' with ⟨z', e'⟩ | ⟨z', e'⟩
    · omega
    · rw [e] at e'; exact (nρ _ e').elim
    · rw [e'] at e; exact (nρ _ e).elim
    · exact rep.sto.inj n m a e e'
  · rcases case n a h with ⟨_, z⟩ | ⟨_, z⟩
    · rw [z] at f; exact nF f
    · exact rep.sto.nf n a z f
  · obtain ⟨o, h⟩ := rep.fz a f
    exact ⟨o, keep a o h⟩
  · rcases case n a h with ⟨_, z⟩ | ⟨_, z⟩
    · rw [z]; exact .inr (none_back rep.fr rep.sto hp)
    · exact rep.fr.ρn n a z
  · obtain ⟨h1, h2, h3, h4⟩ := rep.prv q hq
    refine ⟨keep _ _ h1, h2, fun n z => ?_, h4⟩
    rcases case n _ z with ⟨_, z⟩ | ⟨_, z⟩
    · rw [z, hp] at h1; cases h1
    · exact h3 n z
end
/-- a def's promise -/
def spD (C : Ct) (n : Nat) (m : List D → Store → Res D) : Sp := fun vs H Q E => vs.length = n ∧ ∃ g args st, RVs C.K g H vs args ∧ RS C.K C.cls g H st ∧ (∀ a, g.F a → ∃ o, H a = some o) ∧
  match m args st with
  | .ok d st' => ∀ g' H' x, Frm g H g' H' → (∀ a, g'.F a → ∃ o, H' a = some o) → RS C.K C.cls g' H' st' → RV C.K g' H' x d → Q x H'
  | .ex e st' => ∀ g' H' cls dO, Frm g H g' H' → (∀ a, g'.F a → ∃ o, H' a = some o) → RS C.K C.cls g' H' st' → RX C g' H' cls dO e → E cls dO H'
  | .no => False
theorem spD_go {C : Ct} {n : Nat} {m : List D → Store → Res D} {σ : L2.St} {env : Env} {g : G} {H : Hp} {st : Store} {vs : List V} {ds : List D} {Q : VK} (rep : Rep C g σ H env st) (r : RVs C.K g H vs ds) (hl : vs.length = n)
    (go : Go C σ env (rV C σ env) g H (m ds st) Q) : spD C n m vs H Q (WE C.W σ) := by
  refine ⟨hl, g, ds, st, r, rep.sto, rep.fz, ?_⟩
  cases e : m ds st with
  | ok d st' =>
    rw [e] at go
    exact fun g' H' x f fz rs v => go g' H' x (f.ext rep.sto rep.fz) (rep.call f fz rs) v
  | ex x st' =>
    rw [e] at go
    exact fun g' H' c d f fz rs v => go g' H' c d (f.ext rep.sto rep.fz) (rep.call f fz rs) v
  | no => rw [e] at go; exact go
end L3
end

section
set_option Elab.async false
set_option linter.all false
set_option maxRecDepth 100000
set_option maxHeartbeats 4000000
/-! L3y: zip and enumerate over lists and tuples, mixed as one likes. -/
namespace L3
open PySem PySem.Spec PyProof.Rows L2

/-- a list (true) or a tuple (false) at an address -/
def SqA (b : Bool) (K : PySem.W.Frag) (H : Hp) (a : Addr) (xs : List V) : Prop := if b = true then SqL K H a xs else SqT K H a xs
def ItA (b : Bool) (h : Heap) (i l : Addr) (k : Nat) : Prop := if b = true then h.IsListIter i l k else h.IsTupleIter i l k
def PlA (b : Bool) (h : Heap) (l : Addr) (vs : Array Value) : Prop := if b = true then h.IsList l vs else h.IsTuple l vs
theorem drawsA {P : Program} {w : World} {A : Around} (b : Bool) (hh : A.handled = none) (i l : Addr) (ne : l ≠ i) (vs : Array Value) : Draws P w A i [i, l] vs.size (fun k v => vs[k]? = some v) (fun k h => ItA b h i l k ∧ PlA b h l vs) := by
  cases b
  · exact Draws.tuple hh i l ne vs
  · exact Draws.list hh i l ne vs
def itO : Bool → Addr → Obj
  | true, l => { cls := .type "list_iterator", data := .fields #[.ref l, .int 0 0] }
  | false, l => { cls := .type "tuple_iterator", data := .fields #[.ref l, .int 0 0] }
theorem beginsA (b : Bool) (l : Addr) (vs : Array Value) : Begins (.ref l) (itO b l) fun h => PlA b h l vs := by
  cases b
  · exact begins_tuple l vs
  · exact begins_list l vs
theorem itA_new {b : Bool} {h : Heap} {i l : Addr} (e : h.get? i = some (itO b l)) : ItA b h i l 0 := by
  cases b
  · exact ⟨_, e, rfl, rfl⟩
  · exact ⟨_, e, rfl, rfl⟩
theorem ItA.obj {b : Bool} {h : Heap} {i l : Addr} {k : Nat} (s : ItA b h i l k) : ∃ o, h.get? i = some o ∧ ∀ v, o.data ≠ .cell v := by
  cases b
  · obtain ⟨o, e, _, d⟩ := s
    exact ⟨o, e, fun v q => by rw [d] at q; cases q⟩
  · obtain ⟨o, e, _, d⟩ := s
    exact ⟨o, e, fun v q => by rw [d] at q; cases q⟩
theorem ItA.at {b : Bool} {h h' : Heap} {i l : Addr} {k : Nat} (s : ItA b h i l k) (q : ∀ o, h.get? i = some o → h'.get? i = some o) : ItA b h' i l k := by
  cases b
  · exact Heap.IsTupleIter.at s q
  · exact Heap.IsListIter.at s q
section
variable {X : Cx} {pins : List (Addr × Obj)} {σ : L2.St} {H : Hp} {s : Shared}
theorem sqA_at {b : Bool} {a : Addr} {xs : List V} (I : Inv X pins σ H s) (h : SqA b X.K H a xs) : ∃ us : List Value, Vals xs us ∧ PlA b s.heap a us.toArray ∧ a < s.heap.objs.size := by
  cases b
  · obtain ⟨us, r, p, _⟩ := I.tuple h
    exact ⟨us, r, p, p.lt⟩
  · obtain ⟨us, r, p, _⟩ := I.list h
    exact ⟨us, r, p.isList, p.lt⟩
theorem sqA_inj {b : Bool} {a : Addr} {xs ys : List V} (I : Inv X pins σ H s) (h : SqA b X.K H a xs) (k : SqA b X.K H a ys) : xs = ys := by
  cases b
  · exact I.tuple_inj h k
  · exact I.list_inj h k
end
theorem nz {N i j : Nat} (h : i ≠ j) : (N + i : Nat) ≠ N + j := by omega
theorem nz0 {N j : Nat} (h : 0 < j) : (N : Nat) ≠ N + j := by omega
theorem nz5 {N d M : Nat} (h : N + 4 < M) (hd : d ∈ [N + 4, N + 2, N + 3, N, N + 1]) : d < M := by
  simp only [List.mem_cons, List.not_mem_nil, or_false] at hd
  omega
theorem nz2 {N d M : Nat} (h : N + 1 < M) (hd : d ∈ [N + 1, N]) : d < M := by
  simp only [List.mem_cons, List.not_mem_nil, or_false] at hd
  omega
theorem nz6 {d M : Nat} (hd : d ∈ [M + 4, M + 2, M + 3, M, M + 1]) : M ≤ d := by
  simp only [List.mem_cons, List.not_mem_nil, or_false] at hd
  omega
theorem nz3 {d M : Nat} (hd : d ∈ [M + 1, M]) : M ≤ d := by
  simp only [List.mem_cons, List.not_mem_nil, or_false] at hd
  omega
/-- pairs of the items at l and at m, as they stand -/
def ItzA (K : PySem.W.Frag) (b c : Bool) (l m : Addr) : L2.It :=
  ⟨fun i H => ∃ (xs ys : List V) (x y : V), SqA b K H l xs ∧ SqA c K H m ys ∧ xs[i]? = some x ∧ ys[i]? = some y,
    fun i H v H' => ∃ N x y, v = .ref N ∧ H N = none ∧ H' = upd H N (.tup [x, y]) ∧ (∀ xs, SqA b K H l xs → xs[i]? = some x) ∧ ∀ ys, SqA c K H m ys → ys[i]? = some y,
    fun i H => ∃ xs ys : List V, SqA b K H l xs ∧ SqA c K H m ys ∧ i ≤ xs.length ∧ i ≤ ys.length ∧ (xs.length = i ∨ ys.length = i)⟩
/-- the five new cells of a zip, and what it walks -/
structure Apt (N l m : Addr) : Prop where
  l : l < N
  m : m < N
theorem Apt.sep {N l m : Addr} (D : Apt N l m) : ZipSep2 (N + 4) (N + 2) (N + 3) N (N + 1) [N, l] [N + 1, m] :=
  zip_sep2 (fun b hb => by rw [List.mem_singleton.mp hb]; exact D.l) (fun b hb => by rw [List.mem_singleton.mp hb]; exact D.m)
theorem turn_zA {P : Program} {w : World} {K : PySem.W.Frag} {elts : List Expr} {kk : Nat} {tpos : Pos} {b c : Bool} {N l m : Addr} (D : Apt N l m) :
    Turn P w K (.Tuple elts kk tpos) (ItzA K b c l m) [N + 4, N + 2, N + 3, N, N + 1] (N + 4) (fun i h => IsZip h (N + 4) (N + 2) (N + 3) .none ∧ IsTupOf2 h (N + 2) (.ref N) (.ref (N + 1)) ∧ (∃ x y, IsTupOf2 h (N + 3) x y) ∧ ItA b h N l i ∧ ItA c h (N + 1) m i) where
  mem := List.mem_cons_self
  obj := fun i h st d hd => by
    obtain ⟨s1, s2, ⟨x, y, s3⟩, s4, s5⟩ := st
    simp only [List.mem_cons, List.not_mem_nil, or_false] at hd
    rcases hd with e | e | e | e | e
    · exact ⟨_, by rw [e]; exact s1, fun v q => by cases (show Data.fields _ = Data.cell v from q)⟩
    · exact ⟨_, by rw [e]; exact s2, fun v q => by cases (show Data.seq _ = Data.cell v from q)⟩
    · exact ⟨_, by rw [e]; exact s3, fun v q => by cases (show Data.seq _ = Data.cell v from q)⟩
    · rw [e]; exact s4.obj
    · rw [e]; exact s5.obj
  keep := fun i h h' st k => by
    obtain ⟨s1, s2, ⟨x, y, s3⟩, s4, s5⟩ := st
    exact ⟨k _ (by simp) _ s1, k _ (by simp) _ s2, ⟨x, y, k _ (by simp) _ s3⟩, s4.at fun o => k _ (by simp) o, s5.at fun o => k _ (by simp) o⟩
  item := by
    intro X hP hw hK hc i pins s σ H E I hf st hg
    subst hP hw hK
    obtain ⟨s1, s2, ⟨x0, y0, s3⟩, s4, s5⟩ := st
    obtain ⟨xs, ys, x, y, qx, qy, gx, gy⟩ := hg
    obtain ⟨us, rx, px, lx⟩ := sqA_at I qx
    obtain ⟨ws, ry, py, ly⟩ := sqA_at I qy
    obtain ⟨u, hu, ru⟩ := rx.get gx
    obtain ⟨u', hu', ru'⟩ := ry.get gy
    have hhd : X.A.in1.handled = none := I.ok.hd hc
    have zl : N + 4 < s.heap.objs.size := Heap.lt_size s1
    have hu1 : us.toArray[i]? = some u := by simpa using hu
    have hu2 : ws.toArray[i]? = some u' := by simpa using hu'
    refine wpAny_pyNext_zipD2_item D.sep (drawsA b hhd N l (Nat.ne_of_lt D.l) us.toArray) (drawsA c hhd (N + 1) m (Nat.ne_of_lt (Nat.lt_succ_of_lt D.m)) ws.toArray) s1 s2 s3 ⟨s4, px⟩ ⟨s5, py⟩ (Array.getElem?_eq_some_iff.mp hu1).1 (Array.getElem?_eq_some_iff.mp hu2).1 fun v v' h' tk e1 e2 t1 t2 t3 t4 t5 t6 t7 => ?_
    rw [hu1] at e1
    rw [hu2] at e2
    cases e1
    cases e2
    refine ⟨_, rfl, wpAny_letOwnedTupleGo_zip (s := { s with heap := h', toks := tk }) t1 fun h2 z2 sb => ?_⟩
    have hN : h2.get? s.heap.objs.size = some { cls := .type "tuple", data := .seq #[u, u'] } := (sb.2 _ (Nat.ne_of_gt zl)).trans t5
    have old : ∀ d o, d ≠ N + 4 → d ≠ N + 3 → d ≠ N → d ≠ N + 1 → s.heap.get? d = some o → h2.get? d = some o := fun d o d1 d2 d3 d4 e => (sb.2 d d1).trans (t7 d o d1 d2 d3 d4 e)
    have new : ObjOk X.prog X.w (upd H s.heap.objs.size (.tup [x, y])) h2 s.heap.objs.size (.tup [x, y]) := ⟨by show 2 ≤ sizeLine; decide, [u, u'], .cons ru (.cons ru' .nil), ⟨_, hN, rfl, _, rfl⟩⟩
    have J : Inv X pins σ (upd H s.heap.objs.size (.tup [x, y])) { s with heap := h2, toks := tk } :=
      I.turnedNew (ch := [N + 4, N + 2, N + 3, N, N + 1]) (fun d o hd e => old d o (fun q => hd (by simp [q])) (fun q => hd (by simp [q])) (fun q => hd (by simp [q])) (fun q => hd (by simp [q])) e) hf (Nat.le_refl _) new
    refine ⟨.ref s.heap.objs.size, _, J, rfl, ⟨_, x, y, rfl, I.hok.fresh (Nat.le_refl _), rfl, fun zs hz => by rw [sqA_inj I hz qx]; exact gx, fun zs hz => by rw [sqA_inj I hz qy]; exact gy⟩, ⟨z2, old (N + 2) _ (nz (by decide)) (nz (by decide)) (nz0 (by decide)).symm (nz (by decide)) s2, ⟨u, u', (sb.2 (N + 3) (nz (by decide))).trans t2⟩, t3.1.at fun o => (sb.2 N (nz0 (by decide))).trans, t4.1.at fun o => (sb.2 (N + 1) (nz (by decide))).trans⟩, fun d hd => ?_⟩
    have dl : d < s.heap.objs.size := nz5 zl hd
    rw [upd_ne (Nat.ne_of_lt dl)]
    exact (hf d hd).1
  done := by
    intro X hP hw hK hc i pins s σ H E I hf st hg
    subst hP hw hK
    obtain ⟨s1, s2, ⟨x0, y0, s3⟩, s4, s5⟩ := st
    obtain ⟨xs, ys, qx, qy, lx, ly, fin⟩ := hg
    obtain ⟨us, rx, px, _⟩ := sqA_at I qx
    obtain ⟨ws, ry, py, _⟩ := sqA_at I qy
    have hhd : X.A.in1.handled = none := I.ok.hd hc
    have e1 := rx.length
    have e2 := ry.length
    refine wpAny_pyNext_zipD2_end D.sep (drawsA b hhd N l (Nat.ne_of_lt D.l) us.toArray) (drawsA c hhd (N + 1) m (Nat.ne_of_lt (Nat.lt_succ_of_lt D.m)) ws.toArray) s1 s2 s3 ⟨s4, px⟩ ⟨s5, py⟩ (by simp; omega) (by simp; omega) (by simp; omega) fun h' tk k => ⟨rfl, ?_⟩
    exact I.turnedL (ch := [N + 4, N + 2, N + 3, N, N + 1]) (fun d o hd e => k d o (fun q => hd (by simp [q])) (fun q => hd (by simp [q])) (fun q => hd (by simp [q])) (fun q => hd (by simp [q])) e) hf
  self := fun A i s Q E st h => wpAny_pyIter_zip st.1 h
def iZA (K : PySem.W.Frag) (ta : TA) : TI := fun σ H R => ta σ H fun vs H1 => ∃ b c l m xs ys, vs = [.ref l, .ref m] ∧ SqA b K H1 l xs ∧ SqA c K H1 m ys ∧ R (ItzA K b c l m) H1
theorem pi_zA {X : Cx} {e e2 : Expr} {ta : TA} {p pos tpos : Pos} {elts : List Expr} {kk : Nat} (named : Gl X "zip" ∧ X.mg "zip" = none) (ha : PA X [e, e2] ta) (stars : starEach [e, e2] X.env = (false, eval e X.env) :: starEach [e2] X.env ∧ (backTo pos (starEach [e2] X.env)).any (·.1) = false) :
    PI X (.Tuple elts kk tpos) (.Call (.Name "zip" p) [e, e2] [] pos) (iZA X.K ta) where
  run pins s σ H R I h := by
    have made : ∀ (us : List Value) (vs : List V) (s1 : Shared) (H1 : Hp), Inv X pins σ H1 s1 → Vals vs us → (∃ b c l m xs ys, vs = [.ref l, .ref m] ∧ SqA b X.K H1 l xs ∧ SqA c X.K H1 m ys ∧ R (ItzA X.K b c l m) H1) → wpAny (model X.prog X.w) X.A (call (.type "zip") us) (fun v s2 => wpAny (model X.prog X.w) X.A (pyIter v) (PIE X pins σ (Expr.Tuple elts kk tpos) R) X.xe s2) X.xe s1 := fun us vs s1 H1 J rel ⟨b, c, l, m, xs, ys, ev, sx, sy, q⟩ => by
      subst ev
      obtain ⟨u1, u2, rfl, ru, rw⟩ := vals2 rel
      obtain rfl : u1 = Value.ref l := ru
      obtain rfl : u2 = Value.ref m := rw
      have ⟨us, _, px, lx⟩ := sqA_at J sx
      have ⟨ws, _, py, ly⟩ := sqA_at J sy
      refine zip_begins2 (beginsA b l us.toArray) (beginsA c m ws.toArray) px py fun h' z1 z2 z3 z4 z5 _ keep => wpAny_pyIter_zip z1 ?_
      exact ⟨_, [_, _, _, _, _], _, _, H1, rfl, J.kept (t' := s1.toks) keep, turn_zA ⟨lx, ly⟩, ⟨z1, z2, ⟨_, _, z3⟩, itA_new z4, itA_new z5⟩, fun d hd => J.fpOk (nz6 hd) (J.hok.fresh (nz6 hd)), q⟩
    exact Call_ (ld_blt I named.1 named.2 PyProof.Rows.boot_zip (PyProof.Rows.callWith_type1 (thn (ha.run pos pins s σ H _ I h) fun us s1 ⟨vs, H1, J, rel, q⟩ => made us vs s1 H1 J rel q) stars.1 stars.2))
/-! ### enumerate -/
def IteA (K : PySem.W.Frag) (b : Bool) (l : Addr) : L2.It :=
  ⟨fun i H => ∃ (xs : List V) (x : V), SqA b K H l xs ∧ xs[i]? = some x, fun i H v H' => ∃ N x, v = .ref N ∧ H N = none ∧ H' = upd H N (.tup [.int (i : Nat), x]) ∧ ∀ xs, SqA b K H l xs → xs[i]? = some x, fun i H => ∃ xs : List V, SqA b K H l xs ∧ xs.length = i⟩
theorem turn_eA {P : Program} {w : World} {K : PySem.W.Frag} {elts : List Expr} {kk : Nat} {tpos : Pos} {b : Bool} {N l : Addr} (D : l < N) :
    Turn P w K (.Tuple elts kk tpos) (IteA K b l) [N + 1, N] (N + 1) (fun i h => (∃ old, IsEnum h (N + 1) N ((i : Nat) : Int) old) ∧ ItA b h N l i) where
  mem := List.mem_cons_self
  obj := fun i h st d hd => by
    obtain ⟨⟨old, s1⟩, s2⟩ := st
    simp only [List.mem_cons, List.not_mem_nil, or_false] at hd
    rcases hd with e | e
    · exact ⟨_, by rw [e]; exact s1, fun v q => by cases (show Data.fields _ = Data.cell v from q)⟩
    · rw [e]; exact s2.obj
  keep := fun i h h' st k => ⟨let ⟨old, s1⟩ := st.1; ⟨old, k _ (by simp) _ s1⟩, st.2.at fun o => k _ (by simp) o⟩
  item := by
    intro X hP hw hK hc i pins s σ H E I hf st hg
    subst hP hw hK
    obtain ⟨⟨old, s1⟩, s2⟩ := st
    obtain ⟨xs, x, qx, gx⟩ := hg
    obtain ⟨us, rx, px, lx⟩ := sqA_at I qx
    obtain ⟨u, hu, ru⟩ := rx.get gx
    have hu1 : us.toArray[i]? = some u := by simpa using hu
    have hhd : X.A.in1.handled = none := I.ok.hd hc
    have el : N + 1 < s.heap.objs.size := Heap.lt_size s1
    refine wpAny_pyNext_enum_itemD (drawsA b hhd N l (Nat.ne_of_lt D) us.toArray) s1 ⟨s2, px⟩ (Array.getElem?_eq_some_iff.mp hu1).1 (nz0 (by decide)).symm (fun q => by rcases List.mem_cons.mp q with q | q; exact (nz0 (by decide)).symm q; exact Nat.lt_asymm D (by rw [← show N + 1 = l from List.mem_singleton.mp q]; exact Nat.lt_succ_self N)) fun v h' tk e1 t1 t2 t3 t4 t5 => ?_
    rw [hu1] at e1
    cases e1
    refine ⟨_, rfl, wpAny_letOwnedTupleGo_enum (s := { s with heap := h', toks := tk + 1 }) t1 fun h2 z2 sb => ?_⟩
    have hN : h2.get? s.heap.objs.size = some { cls := .type "tuple", data := .seq #[.int i tk, u] } := (sb.2 _ (Nat.ne_of_gt el)).trans t3
    have new : ObjOk X.prog X.w (upd H s.heap.objs.size (.tup [.int (i : Nat), x])) h2 s.heap.objs.size (.tup [.int (i : Nat), x]) := ⟨by show 2 ≤ sizeLine; decide, [.int i tk, u], .cons ⟨_, rfl⟩ (.cons ru .nil), ⟨_, hN, rfl, _, rfl⟩⟩
    have J : Inv X pins σ (upd H s.heap.objs.size (.tup [.int (i : Nat), x])) { s with heap := h2, toks := tk + 1 } :=
      I.turnedNew (ch := [N + 1, N]) (fun d o hd e => (sb.2 d (fun q => hd (by simp [q]))).trans (t5 d o (fun q => hd (by simp [q])) (fun q => hd (by simp [q])) e)) hf (Nat.le_refl _) new
    refine ⟨.ref s.heap.objs.size, _, J, rfl, ⟨_, x, rfl, I.hok.fresh (Nat.le_refl _), rfl, fun zs hz => by rw [sqA_inj I hz qx]; exact gx⟩, ⟨⟨u, ?_⟩, t2.1.at fun o => (sb.2 N (nz0 (by decide))).trans⟩, fun d hd => ?_⟩
    · have e : ((i + 1 : Nat) : Int) = (i : Int) + 1 := by omega
      rw [e]
      exact z2
    · have dl : d < s.heap.objs.size := nz2 el hd
      rw [upd_ne (Nat.ne_of_lt dl)]
      exact (hf d hd).1
  done := by
    intro X hP hw hK hc i pins s σ H E I hf st hg
    subst hP hw hK
    obtain ⟨⟨old, s1⟩, s2⟩ := st
    obtain ⟨xs, qx, hl⟩ := hg
    obtain ⟨us, rx, px, lx⟩ := sqA_at I qx
    have hhd : X.A.in1.handled = none := I.ok.hd hc
    have e1 := rx.length
    have hn : i = us.toArray.size := by simp; omega
    obtain ⟨f0, f1, f2, f3, f4, f5⟩ := hf N (by simp)
    exact wpAny_pyNext_enum_endD (drawsA b hhd N l (Nat.ne_of_lt D) us.toArray) s1 (by rw [← hn]; exact ⟨s2, px⟩) fun h' eb => ⟨rfl, I.turned (t' := s.toks) (fun d o hd q => eb d o hd q) f0 f1 f3 f4 f5⟩
  self := fun A i s Q E st h => let ⟨⟨_, he⟩, _⟩ := st; wpAny_pyIter_enum he h
/-- an enumerate at nought over the iterator at i -/
abbrev enO (i : Addr) : Obj := { cls := .type "enumerate", data := .fields #[.none, .bool false, .ref i, rawInt 0, .none, .none] }
theorem meets_enum1 {v : Value} {o : Obj} {G : Heap → Prop} (B : Begins v o G) : Meets (Builtin.«enumerate.__new__» ⟨[.type "enumerate", v], []⟩) fun _ R s => G s.heap ∧ R (.ok (.ret (.ref (s.heap.push o).objs.size))) { s with heap := (s.heap.push o).push (enO s.heap.objs.size) } :=
  .of_wp fun prog w A R ⟨h, gn, dr, tk, os⟩ ⟨ready, fin⟩ => by
    have known := sub_enumerate
    have begins : ∀ {B' : Around} {E : Value → Shared → Prop} {Q : Value → Shared → Prop}, Q (.ref h.objs.size) ⟨h.push o, gn, dr, tk, os⟩ → wpAny (model prog w) B' (pyIter v) Q E ⟨h, gn, dr, tk, os⟩ := fun q => B.iter prog w _ _ _ _ ready q
    wp_walk using begins
    refine wpAny_stack_any fun st => wpAny_pure ?_
    split
    · rename_i c _ _ _ _ _
      by_cases e : (c == Value.type "enumerate") = true <;> (simp only [e]; wp_walk using begins; exact ⟨_, rfl, fin⟩)
    · wp_walk using begins
      exact ⟨_, rfl, fin⟩
theorem call_enumA {P : Program} {w : World} {A : Around} {E : Value → Shared → Prop} {s : Shared} {v : Value} {o : Obj} {G : Heap → Prop} {Q : Value → Shared → Prop} (B : Begins v o G) (ready : G s.heap)
    (h : ∀ h', IsEnum h' (s.heap.objs.size + 1) s.heap.objs.size 0 .none → h'.get? s.heap.objs.size = some o → (∀ d ob, s.heap.get? d = some ob → h'.get? d = some ob) → Q (.ref (s.heap.objs.size + 1)) { s with heap := h' }) :
    wpAny (model P w) A (call (.type "enumerate") [v]) Q E s := by
  have next : (s.heap.push o).objs.size = s.heap.objs.size + 1 := Heap.size_push ..
  have at_ : ((s.heap.push o).push (enO s.heap.objs.size)).get? (s.heap.objs.size + 1) = some (enO s.heap.objs.size) := next ▸ Heap.get?_push_size (s.heap.push o) rfl
  have fin := h _ at_ (Heap.get?_push_of_some _ (Heap.get?_push_size _ B.free)) fun d ob x => Heap.get?_push_of_some _ (Heap.get?_push_of_some _ x)
  refine callType_new F.called_enumerate (by decide) (F.typeCall_enumerate_1 _) (F.newCall_enumerate_1 _) (fun ob => F.args_object_init_2 ob _) F.entry_enumerate_new (meets_enum1 B) ⟨ready, ?_⟩
  show _ ∧ _
  rw [next]
  exact ⟨⟨_, at_, rfl⟩, fin⟩
def iEA (K : PySem.W.Frag) (ta : TA) : TI := fun σ H R => ta σ H fun vs H1 => ∃ b l xs, vs = [.ref l] ∧ SqA b K H1 l xs ∧ R (IteA K b l) H1
theorem pi_eA {X : Cx} {e : Expr} {ta : TA} {p pos tpos : Pos} {elts : List Expr} {kk : Nat} (named : Gl X "enumerate" ∧ X.mg "enumerate" = none) (ha : PA X [e] ta) (star : starEach [e] X.env = [(false, eval e X.env)]) :
    PI X (.Tuple elts kk tpos) (.Call (.Name "enumerate" p) [e] [] pos) (iEA X.K ta) where
  run pins s σ H R I h := by
    have made : ∀ (us : List Value) (vs : List V) (s1 : Shared) (H1 : Hp), Inv X pins σ H1 s1 → Vals vs us → (∃ b l xs, vs = [.ref l] ∧ SqA b X.K H1 l xs ∧ R (IteA X.K b l) H1) → wpAny (model X.prog X.w) X.A (call (.type "enumerate") us) (fun v s2 => wpAny (model X.prog X.w) X.A (pyIter v) (PIE X pins σ (Expr.Tuple elts kk tpos) R) X.xe s2) X.xe s1 := fun us vs s1 H1 J rel ⟨b, l, xs, ev, sx, q⟩ => by
      subst ev
      obtain ⟨u, rfl, ru⟩ := vals1 rel
      obtain rfl : u = Value.ref l := ru
      have ⟨us, _, px, lx⟩ := sqA_at J sx
      refine call_enumA (beginsA b l us.toArray) px fun h' z1 z2 keep => wpAny_pyIter_enum z1 ?_
      exact ⟨_, [_, _], _, _, H1, rfl, J.kept (t' := s1.toks) keep, turn_eA lx, ⟨⟨.none, z1⟩, itA_new z2⟩, fun d hd => J.fpOk (nz3 hd) (J.hok.fresh (nz3 hd)), q⟩
    exact Call_ (ld_blt I named.1 named.2 boot_enumerate (PyProof.Rows.callWith_type1 (thn (ha.run pos pins s σ H _ I h) fun us s1 ⟨vs, H1, J, rel, q⟩ => made us vs s1 H1 J rel q) star rfl))
end L3
end

section
set_option Elab.async false
set_option linter.all false
set_option maxRecDepth 100000
set_option maxHeartbeats 4000000
/-! L3f: slots, patterns, what is walked, comprehensions. -/
namespace L3
open PySem PySem.Spec PyProof.Rows L2

/-! ### slots -/
section
variable {C : Ct} {g g' : G} {σ : L2.St} {H H' : Hp} {env : Env} {st st' : Store}
theorem ne_F {g : G} {p a : Addr} (nF : ¬ g.F p) (f : g.F a) : a ≠ p := fun e => nF (by rw [← e]; exact f)
theorem ne_R {o : Option Addr} {p a : Addr} (n : o ≠ some p) (f : o = some a) : a ≠ p := fun e => n (by rw [← e]; exact f)
theorem set_get {α : Type} {l : List α} {i j : Nat} {x y : α} (h : (l.set i x)[j]? = some y) : (i = j ∧ i < l.length ∧ y = x) ∨ (i ≠ j ∧ l[j]? = some y) := by
  by_cases e : i = j
  · subst e
    by_cases hl : i < l.length
    · rw [List.getElem?_set_self hl] at h
      exact .inl ⟨rfl, hl, (Option.some.inj h).symm⟩
    · rw [List.getElem?_eq_none (by rw [List.length_set]; omega)] at h
      cases h
  · rw [List.getElem?_set_ne e] at h
    exact .inr ⟨e, h⟩
theorem Rep.set (rep : Rep C g σ H env st) (i : Nat) {v : V} {d : D} (r : RV C.K g H v d) : Rep C g (σ.set i (some v)) H (env.set i (some (.val d))) st where
  len := by rw [List.length_set, List.length_set]; exact rep.len
  val := fun j d' h => by
    rcases set_get h with ⟨e, hl, h1⟩ | ⟨e, h⟩
    · subst e
      cases h1
      exact ⟨v, by rw [List.getElem?_set_self (by rw [← rep.len]; exact hl)], r⟩
    · obtain ⟨w, a, b⟩ := rep.val j d' h
      exact ⟨w, by rw [List.getElem?_set_ne e]; exact a, b⟩
  own := fun j o h => by
    rcases set_get h with ⟨e, hl, h⟩ | ⟨e, h⟩
    · cases h
    · obtain ⟨a, h1, h2⟩ := rep.own j o h
      exact ⟨a, by rw [List.getElem?_set_ne e]; exact h1, h2⟩
  inj := fun j k o o' a h1 h2 h3 h4 => by
    rcases set_get h1 with ⟨e, hl, h⟩ | ⟨e, h1⟩
    · cases h
    rcases set_get h2 with ⟨e', hl, h⟩ | ⟨e', h2⟩
    · cases h
    rw [List.getElem?_set_ne e] at h3
    rw [List.getElem?_set_ne e'] at h4
    exact rep.inj j k o o' a h1 h2 h3 h4
  sto := rep.sto
  fz := rep.fz
  fr := rep.fr
  prv := rep.prv
  prd := rep.prd
theorem Rep.drop (rep : Rep C g σ H env st) (i : Nat) : Rep C g (σ.set i none) H (env.set i none) st where
  len := by rw [List.length_set, List.length_set]; exact rep.len
  val := fun j d' h => by
    rcases set_get h with ⟨e, hl, h⟩ | ⟨e, h⟩
    · cases h
    · obtain ⟨w, a, b⟩ := rep.val j d' h
      exact ⟨w, by rw [List.getElem?_set_ne e]; exact a, b⟩
  own := fun j o h => by
    rcases set_get h with ⟨e, hl, h⟩ | ⟨e, h⟩
    · cases h
    · obtain ⟨a, h1, h2⟩ := rep.own j o h
      exact ⟨a, by rw [List.getElem?_set_ne e]; exact h1, h2⟩
  inj := fun j k o o' a h1 h2 h3 h4 => by
    rcases set_get h1 with ⟨e, hl, h⟩ | ⟨e, h1⟩
    · cases h
    rcases set_get h2 with ⟨e', hl, h⟩ | ⟨e', h2⟩
    · cases h
    rw [List.getElem?_set_ne e] at h3
    rw [List.getElem?_set_ne e'] at h4
    exact rep.inj j k o o' a h1 h2 h3 h4
  sto := rep.sto
  fz := rep.fz
  fr := rep.fr
  prv := rep.prv
  prd := rep.prd
theorem Rep.wipe (rep : Rep C g σ H env st) : ∀ vs : List Nat, Rep C g (L2.wipe σ vs) H (wipeE env vs) st
  | [] => rep
  | v :: vs => (Rep.wipe rep vs).drop v
/-- the context of a comprehension's block -/
def Ct.blk (C : Ct) (pr : List (Addr × HO)) : Ct := { C with pr := pr, W := fun _ _ _ _ => False }
def Ct.pr' (C : Ct) (pr : List (Addr × HO)) : Ct := { C with pr := pr }
theorem Rep.blk {pr : List (Addr × HO)} (rep : Rep (C.pr' pr) g σ H env st) : Rep (C.blk pr) g σ H env st := ⟨rep.len, rep.val, rep.own, rep.inj, rep.sto, rep.fz, rep.fr, rep.prv, rep.prd⟩
theorem Rep.unblk {pr : List (Addr × HO)} (rep : Rep (C.blk pr) g σ H env st) : Rep (C.pr' pr) g σ H env st := ⟨rep.len, rep.val, rep.own, rep.inj, rep.sto, rep.fz, rep.fr, rep.prv, rep.prd⟩
/-- a new thing that the block's maker holds -/
theorem Rep.prAdd {p : Addr} {o : HO} (rep : Rep C g σ H env st) (hp : H p = none) : Rep (C.pr' ((p, o) :: C.pr)) g σ (upd H p o) env st := by
  have r := rep.grow (Grow.lay (o := o) hp)
  have nF : ¬ g.F p := fun f => by
    obtain ⟨u, h⟩ := rep.fz p f
    rw [hp] at h; cases h
  have nρ : ∀ n, g.ρ n ≠ some p := fun n h => by
    obtain ⟨_, u, _, _, hu⟩ := rep.sto.there h
    rw [hp] at hu; cases hu
  refine ⟨r.len, r.val, fun i u h => ?_, r.inj, r.sto, r.fz, r.fr, fun q hq => ?_, ?_⟩
  · obtain ⟨a, h1, h2, h3, h4, h5, h6⟩ := rep.own i u h
    obtain ⟨a', h1', h2', h3', h4', h5', h6'⟩ := r.own i u h
    rw [h1] at h1'
    cases h1'
    refine ⟨a, h1, h2', h3', h4', h5', fun q hq => ?_⟩
    rcases List.mem_cons.mp (show q ∈ (p, o) :: C.pr from hq) with e | hq
    · rw [e]
      obtain ⟨u, hu⟩ := h2.there
      intro z
      have z : p = a := z
      rw [← z, hp] at hu
      cases hu
    · exact h6 q hq
  · rcases List.mem_cons.mp (show q ∈ (p, o) :: C.pr from hq) with e | hq
    · rw [e]
      exact ⟨upd_same, nF, nρ, none_back rep.fr rep.sto hp⟩
    · exact r.prv q hq
  · refine List.nodup_cons.mpr ⟨fun z => ?_, rep.prd⟩
    obtain ⟨q, hq, e⟩ := List.mem_map.mp z
    have h := (rep.prv q hq).1
    rw [e, hp] at h
    cases h
/-- it changes -/
theorem Ext.prv {p : Addr} {o : HO} (nF : ¬ g.F p) : Ext g H g (upd H p o) where
  F := fun _ h => h
  tp := fun a o u f h => by rw [upd_ne (ne_F nF f)]; exact h
  rd := fun a u f h => h.imp (fun h => by rw [upd_ne (ne_F nF f)]; exact h) fun ⟨o, h⟩ => ⟨o, by rw [upd_ne (ne_F nF f)]; exact h⟩
  ρ := fun _ _ h => h
theorem Rep.prSet {p : Addr} {o o' : HO} {pr : List (Addr × HO)} (rep : Rep (C.pr' ((p, o) :: pr)) g σ H env st) : Rep (C.pr' ((p, o') :: pr)) g σ (upd H p o') env st := by
  obtain ⟨q1, q2, q3, q4⟩ := rep.prv (p, o) List.mem_cons_self
  have ex : Ext g H g (upd H p o') := Ext.prv q2
  have hn : ∀ q ∈ pr, q.1 ≠ p := fun q hq e => (List.nodup_cons.mp (show ((p, o) :: pr).map (·.1) |>.Nodup from rep.prd)).1 (List.mem_map.mpr ⟨q, hq, e⟩)
  refine ⟨rep.len, fun i d h => let ⟨v, a, b⟩ := rep.val i d h; ⟨v, a, b.ext ex⟩, fun i u h => ?_, rep.inj, ⟨fun n u h => ?_, rep.sto.lt, rep.sto.inj, rep.sto.nf⟩, fun a f => ?_, ⟨rep.fr.F, rep.fr.Fn, rep.fr.ρ, rep.fr.ρn, fun a u h hn => ?_⟩, fun q hq => ?_, rep.prd⟩
  · obtain ⟨a, h1, h2, h3, h4, h5, h6⟩ := rep.own i u h
    have ne : a ≠ p := fun e => h6 (p, o) List.mem_cons_self e.symm
    refine ⟨a, h1, h2.ext ex (fun w hw => by rw [upd_ne ne]; exact hw), h3, h4, h5, fun q hq => ?_⟩
    rcases List.mem_cons.mp (show q ∈ (p, o') :: pr from hq) with e | hq
    · rw [e]; exact fun z => ne z.symm
    · exact h6 q (List.mem_cons_of_mem _ hq)
  · obtain ⟨a, h1, h2⟩ := rep.sto.obj n u h
    exact ⟨a, h1, h2.ext ex fun w hw => by rw [upd_ne (ne_R (q3 n) h1)]; exact hw⟩
  · obtain ⟨w, hw⟩ := rep.fz a f
    exact ⟨w, by rw [upd_ne (ne_F q2 f)]; exact hw⟩
  · have h' := rep.fr.keep a u h hn
    by_cases e : a = p
    · rw [e] at h
      have h : C.H0 p = some u := h
      rw [show C.H0 p = none from q4] at h
      cases h
    · rw [upd_ne e]; exact h'
  · rcases List.mem_cons.mp (show q ∈ (p, o') :: pr from hq) with e | hq
    · rw [e]; exact ⟨upd_same, q2, q3, q4⟩
    · obtain ⟨z1, z2⟩ := rep.prv q (List.mem_cons_of_mem _ hq)
      exact ⟨by rw [upd_ne (hn q hq)]; exact z1, z2⟩
/-- it stands still from here on -/
theorem Ext.add {p : Addr} : Ext g H (g.add p) H := ⟨fun _ h => .inl h, fun _ _ _ h => h, fun _ _ _ _ h => h, fun _ _ h => h⟩
theorem Rep.prFreeze {p : Addr} {o : HO} (rep : Rep (C.pr' ((p, o) :: C.pr)) g σ H env st) : Rep C (g.add p) σ H env st := by
  obtain ⟨q1, q2, q3, q4⟩ := rep.prv (p, o) List.mem_cons_self
  have ex : Ext g H (g.add p) H := Ext.add
  have hn : ∀ q ∈ C.pr, q.1 ≠ p := fun q hq e => (List.nodup_cons.mp (show ((p, o) :: C.pr).map (·.1) |>.Nodup from rep.prd)).1 (List.mem_map.mpr ⟨q, hq, e⟩)
  refine ⟨rep.len, fun i d h => let ⟨v, a, b⟩ := rep.val i d h; ⟨v, a, b.ext ex⟩, fun i u h => ?_, rep.inj, ⟨fun n u h => ?_, rep.sto.lt, rep.sto.inj, fun n a h f => ?_⟩, fun a f => ?_, ⟨fun a f => .inl (rep.fr.F a f), fun a f => ?_, rep.fr.ρ, rep.fr.ρn, rep.fr.keep⟩, fun q hq => ?_, (List.nodup_cons.mp (show ((p, o) :: C.pr).map (·.1) |>.Nodup from rep.prd)).2⟩
  · obtain ⟨a, h1, h2, h3, h4, h5, h6⟩ := rep.own i u h
    have ne : a ≠ p := fun e => h6 (p, o) List.mem_cons_self e.symm
    exact ⟨a, h1, h2.ext ex (fun w hw => hw), fun f => f.elim h3 ne, h4, h5, fun q hq => h6 q (List.mem_cons_of_mem _ hq)⟩
  · obtain ⟨a, h1, h2⟩ := rep.sto.obj n u h
    exact ⟨a, h1, h2.ext ex fun w hw => hw⟩
  · rcases f with f | f
    · exact rep.sto.nf n a h f
    · rw [f] at h; exact q3 n h
  · rcases f with f | f
    · exact rep.fz a f
    · rw [f]; exact ⟨_, q1⟩
  · rcases f with f | f
    · exact rep.fr.Fn a f
    · rw [f]; exact .inr q4
  · obtain ⟨z1, z2, z3⟩ := rep.prv q (List.mem_cons_of_mem _ hq)
    exact ⟨z1, fun f => f.elim z2 (hn q hq), z3⟩
end

/-! ### patterns -/
mutual
def slotsP : Pat → List Nat
  | .nm i => [i]
  | .tp l => slotsPs l
def slotsPs : Pats → List Nat
  | .nil => []
  | .cons p l => slotsP p ++ slotsPs l
end
/-- what a loop's turn gives: a value, or a tuple that is taken apart at once -/
def RI (K : PySem.W.Frag) (nm : Bool) (g : G) (H : Hp) (x : V) (d : D) : Prop := RV K g H x d ∨ (nm = false ∧ ∃ a vs ds, x = .ref a ∧ d = .tup ds ∧ SqT K H a vs ∧ RVs K g H vs ds)
/-- σ' is σ but at these slots -/
def But (l : List Nat) (σ σ' : L2.St) : Prop := σ'.length = σ.length ∧ ∀ i, i ∉ l → σ'[i]? = σ[i]?
def gPat (C : Ct) (nm : Bool) (p : Pat) : TG := fun v σ H Q => ∃ g env st d env', Rep C g σ H env st ∧ RI C.K nm g H v d ∧ bindP p d env = some env' ∧ ∀ σ', Rep C g σ' H env' st → But (slotsP p) σ σ' → Q σ' H
def gPats (C : Ct) (p : Pats) : TGs := fun vs σ H Q => ∃ g env st ds env', Rep C g σ H env st ∧ RVs C.K g H vs ds ∧ bindPs p ds env = some env' ∧ ∀ σ', Rep C g σ' H env' st → But (slotsPs p) σ σ' → Q σ' H
/-- what is known of classes: fields by class, methods by class and function, makers by class, name and __init__; the module's tables -/
structure ClI where
  ca : List (Nat × Str)
  cm : List (Nat × Str × Nat)
  ck : List (Nat × Str × Nat)
  tv : List (Str × List (Str × D))
  /-- exception classes: number, name, fields -/
  xs : List (Nat × Str × List Str)
  /-- answers of isinstance: the class's number, is it a tuple, own classes and built-in ones, the answer -/
  xi : List (Nat × Bool × List (Bool × Str) × Bool)
  /-- own classes that are of no such built-in type -/
  co : List (Nat × String)
/-- the signature: slots' names, functions' names, constants' names -/
structure Sig where
  N : List Str
  fn : List (Option Str)
  cn : List Str
  kc : List (Str × List Str)
  kd : List (Str × List Str)
  cl : ClI
def locB (sc : Scope) (x : Str) : Bool := match sc.names.lookup x with
  | some .local => true
  | some .cell => true
  | _ => false
mutual
def chkP (S : Sig) (sc : Scope) : Pat → Expr → Bool
  | .nm i, e => match e with
    | .Name x _ => decide (S.N[i]? = some x) && locB sc x
    | _ => false
  | .tp l, e => match e with
    | .Tuple es _ _ => chkPs S sc l es
    | _ => false
def chkPs (S : Sig) (sc : Scope) : Pats → List Expr → Bool
  | .nil, es => match es with
    | [] => true
    | _ :: _ => false
  | .cons p l, es => match es with
    | [] => false
    | e :: r => chkP S sc p e && chkPs S sc l r
end
theorem chkP_star {S : Sig} {sc : Scope} {p : Pat} {e : Expr} (h : chkP S sc p e = true) (r : List Expr) (env : PySem.Env) : assignEach (e :: r) env = (false, assign e env) :: assignEach r env := by
  cases p <;> (unfold chkP at h; split at h <;> first | (cases h; done) | rfl)
theorem chkPs_each {S : Sig} {sc : Scope} (env : PySem.Env) : ∀ {l : Pats} {es : List Expr}, chkPs S sc l es = true → (assignEach es env).length = es.length ∧ (assignEach es env).findIdx? (·.1) = none
  | .nil, es, h => by
    unfold chkPs at h
    split at h
    · exact ⟨rfl, rfl⟩
    · cases h
  | .cons p l, es, h => by
    unfold chkPs at h
    split at h
    · cases h
    · simp only [Bool.and_eq_true] at h
      obtain ⟨i1, i2⟩ := chkPs_each env h.2
      rw [chkP_star h.1]
      exact ⟨by rw [List.length_cons, List.length_cons, i1], by rw [List.findIdx?_cons]; simp [i2]⟩
def nPats : Pats → Nat
  | .nil => 0
  | .cons _ l => nPats l + 1
theorem chkPs_n {S : Sig} {sc : Scope} : ∀ {l : Pats} {es : List Expr}, chkPs S sc l es = true → es.length = nPats l
  | .nil, es, h => by
    unfold chkPs at h
    split at h
    · rfl
    · cases h
  | .cons p l, es, h => by
    unfold chkPs at h
    split at h
    · cases h
    · simp only [Bool.and_eq_true] at h
      rw [List.length_cons, chkPs_n h.2]; rfl
theorem bindPs_n : ∀ {l : Pats} {ds : List D} {env env' : Env}, bindPs l ds env = some env' → ds.length = nPats l
  | .nil, ds, env, env', h => by
    unfold bindPs at h
    split at h
    · rfl
    · cases h
  | .cons p l, ds, env, env', h => by
    unfold bindPs at h
    split at h
    · cases h
    · split at h
      · rw [List.length_cons, bindPs_n h]; rfl
      · cases h
/-- what a body stands in -/
structure Slots (S : Sig) (sc : Scope) (X : Cx) : Prop where
  hN : X.N = S.N
  nd : S.N.Nodup
  loc : ∀ x, sc.names.lookup x = some .local → X.env.scope.names.lookup x = some .local
  cel : ∀ x, sc.names.lookup x = some .cell → X.env.scope.names.lookup x = some .cell ∧ X.fn x = true
theorem loc_of {sc : Scope} {x : Str} (h : locB sc x = true) : Loc sc x := by
  unfold locB at h
  split at h
  · exact .inl (by assumption)
  · exact .inr (by assumption)
  · cases h
theorem But.trans {l m : List Nat} {σ σ1 σ2 : L2.St} (a : But l σ σ1) (b : But m σ1 σ2) : But (l ++ m) σ σ2 :=
  ⟨b.1.trans a.1, fun i h => by
    simp only [List.mem_append, not_or] at h
    rw [b.2 i h.2, a.2 i h.1]⟩
mutual
theorem sP {S : Sig} {sc : Scope} {X : Cx} {C : Ct} (hK : X.K = C.K) (hc : X.calm = true) (Z : Slots S sc X) : ∀ (p : Pat) (e : Expr) (nm : Bool), chkP S sc p e = true → (nm = true ∨ ∃ l, p = .tp l) → PG X e (gPat C nm p)
  | .nm i, e, nm, h, hn => by
    have hnm : nm = true := by
      rcases hn with z | ⟨l, z⟩
      · exact z
      · cases z
    unfold chkP at h
    split at h
    · rename_i x pos
      simp only [Bool.and_eq_true, decide_eq_true_eq] at h
      have hlf : Loc X.env.scope x ∧ (X.fn x = true ∨ X.env.scope.names.lookup x = some .local) := by
        rcases loc_of h.2 with z | z
        · exact ⟨.inl (Z.loc x z), .inr (Z.loc x z)⟩
        · exact ⟨.inr (Z.cel x z).1, .inl (Z.cel x z).2⟩
      obtain ⟨hl, hf⟩ := hlf
      have hp : PG X (.Name x pos) (gName i) := pg_name (by rw [Z.hN]; exact Z.nd) (by rw [Z.hN]; exact h.1) hl hf
      refine ⟨fun pins s σ H v u Q I r q => hp.run pins s σ H v u Q I r ?_⟩
      obtain ⟨g, env, st, d, env', rep, ri, hb, k⟩ := q
      unfold bindP at hb
      cases hb
      rcases ri with rv | ⟨z, _⟩
      · refine k _ (rep.set i rv) ⟨List.length_set, fun j hj => ?_⟩
        rw [List.getElem?_set_ne]
        intro z
        exact hj (by rw [z]; exact List.mem_cons_self)
      · rw [hnm] at z; cases z
    · cases h
  | .tp l, e, nm, h, hn => by
    unfold chkP at h
    split at h
    · rename_i es kk pos
      obtain ⟨e1, e2⟩ := chkPs_each X.env h
      have hp : PG X (.Tuple es kk pos) (gTup X.K es.length (gPats C l)) := pg_tup hc (sPs hK hc Z l es h) e1 e2
      refine ⟨fun pins s σ H v u Q I r q => hp.run pins s σ H v u Q I r ?_⟩
      obtain ⟨g, env, st, d, env', rep, ri, hb, k⟩ := q
      unfold bindP at hb
      split at hb
      · rename_i ds
        have fin : ∀ a vs, v = .ref a → SqT C.K H a vs → RVs C.K g H vs ds → gTup X.K es.length (gPats C l) v σ H Q := fun a vs ev hq rv => by
          refine ⟨a, vs, ev, by rw [hK]; exact hq, ?_, g, env, st, ds, env', rep, rv, hb, k⟩
          rw [rv.length, bindPs_n hb, chkPs_n h]
        rcases ri with rv | ⟨_, a, vs, ds', ev, ed, hq, rv⟩
        · cases rv with
          | tup f r => exact fin _ _ rfl f.sq r
        · cases ed
          exact fin a vs ev hq rv
      · cases hb
    · cases h
theorem sPs {S : Sig} {sc : Scope} {X : Cx} {C : Ct} (hK : X.K = C.K) (hc : X.calm = true) (Z : Slots S sc X) : ∀ (l : Pats) (es : List Expr), chkPs S sc l es = true → PGs X es (gPats C l)
  | .nil, es, h => by
    unfold chkPs at h
    split at h
    · refine ⟨fun pins s σ H vs us Q I r q => (pgs_nil (X := X)).run pins s σ H vs us Q I r ?_⟩
      obtain ⟨g, env, st, ds, env', rep, rv, hb, k⟩ := q
      unfold bindPs at hb
      split at hb
      · cases hb
        cases rv
        exact ⟨rfl, k σ rep ⟨rfl, fun _ _ => rfl⟩⟩
      · cases hb
    · cases h
  | .cons p l, es, h => by
    unfold chkPs at h
    split at h
    · cases h
    · rename_i e r'
      simp only [Bool.and_eq_true] at h
      have hp : PGs X (e :: r') (gCons (gPat C true p) (gPats C l)) := pgs_cons (sP hK hc Z p e true h.1 (.inl rfl)) (sPs hK hc Z l r' h.2) (by rw [chkP_star h.1]; rfl)
      refine ⟨fun pins s σ H vs us Q I r q => hp.run pins s σ H vs us Q I r ?_⟩
      obtain ⟨g, env, st, ds, env', rep, rv, hb, k⟩ := q
      unfold bindPs at hb
      split at hb
      · cases hb
      · split at hb
        · rename_i e1 he1
          cases rv with
          | cons r1 r2 =>
            exact ⟨_, _, rfl, g, env, st, _, e1, rep, .inl r1, he1, fun σ1 rep1 b1 => ⟨g, e1, st, _, env', rep1, r2, hb, fun σ2 rep2 b2 => k σ2 rep2 (b1.trans b2)⟩⟩
        · cases hb
end

/-! ### what is walked -/
theorem _root_.L2.PI.of {X : Cx} {tg e : Expr} {t t' : TI} (h : PI X tg e t) (i : ∀ σ H Q, t' σ H Q → t σ H Q) : PI X tg e t' := ⟨fun pins s σ H Q I q => h.run pins s σ H Q I (i σ H Q q)⟩
theorem pi_seq {X : Cx} {tg l : Expr} {tl : TE} (hl : PE X l tl) : PI X tg l (fun σ H R => tl σ H fun x H1 => (∃ a, x = .ref a ∧ (∃ xs, SqL X.K H1 a xs) ∧ R (Itl X.K a) H1) ∨ (∃ a, x = .ref a ∧ (∃ xs, SqT X.K H1 a xs) ∧ R (Itt X.K a) H1) ∨ (∃ z, x = .str z ∧ R (Its z) H1)) where
  run pins s σ H R I h := thn (hl.run pins s σ H _ I h) fun v s1 ⟨x, H1, J, r, q⟩ => by
    rcases q with ⟨a, rfl, ⟨xs, sq⟩, q⟩ | ⟨a, rfl, ⟨xs, sq⟩, q⟩ | ⟨z, rfl, q⟩
    · obtain rfl : v = Value.ref a := r
      exact wpAny_pyIter_list (J.list sq).choose_spec.2.1.isList (pi_one (tk := s1.toks) J _ (turn_list a _) ⟨_, Heap.get?_push_size _ rfl, rfl, rfl⟩ q)
    · obtain rfl : v = Value.ref a := r
      have at_ : s1.heap.IsTuple a _ := (J.tuple sq).choose_spec.2.1
      exact wpAny_pyIter_tuple at_ (pi_one (tk := s1.toks) J _ (turn_tuple a _) ⟨_, Heap.get?_push_size _ rfl, rfl, rfl⟩ q)
    · obtain ⟨t, rfl⟩ := r
      cases low : z.cps.all (· < 128)
      · exact wpAny_pyIter_wide low (pi_one (tk := s1.toks) J _ (turn_str _ z t _ (.inr rfl)) ⟨_, Heap.get?_push_size _ rfl, rfl, rfl⟩ q)
      · exact wpAny_pyIter_ascii low (pi_one (tk := s1.toks) J _ (turn_str _ z t _ (.inl rfl)) ⟨_, Heap.get?_push_size _ rfl, rfl, rfl⟩ q)
/-- the walk J goes through ds wherever P holds -/
structure ItOk (K : PySem.W.Frag) (nm : Bool) (P : G → Hp → Prop) (J : L2.It) (ds : List D) : Prop where
  go : ∀ i g H, i < ds.length → P g H → J.go i H
  yld : ∀ i d g H x H', ds[i]? = some d → P g H → J.yld i H x H' → Grow g H g H' ∧ RI K nm g H' x d
  stop : ∀ g H, P g H → J.stop ds.length H
def Prm (C : Ct) (bor : Bool) (σ : L2.St) (env : Env) (g1 : G) (H1 : Hp) (g : G) (H : Hp) : Prop :=
  Ext g1 H1 g H ∧ (bor = true → ∀ (i : Nat) (o : DO) (a : Addr), env[i]? = some (some (.own o)) → σ[i]? = some (some (.ref a)) → RO C.K C.cls g H a o)
def rIt (C : Ct) (bor nm : Bool) : Rl L2.It (List D) := fun σ env g H J ds => ItOk C.K nm (Prm C bor σ env g H) J ds
theorem itok_l {K : PySem.W.Frag} {nm : Bool} {P : G → Hp → Prop} {a : Addr} {ds : List D} (h : ∀ g H, P g H → ∃ vs, SqL K H a vs ∧ RVs K g H vs ds) : ItOk K nm P (Itl K a) ds where
  go := fun i g H hi p => by
    obtain ⟨vs, hq, r⟩ := h g H p
    exact ⟨vs, vs[i]'(by rw [r.length]; exact hi), hq, List.getElem?_eq_getElem _⟩
  yld := fun i d g H x H' hd p y => by
    obtain ⟨e, y⟩ := y
    subst e
    obtain ⟨vs, hq, r⟩ := h g _ p
    obtain ⟨v, hv, rv⟩ := r.get hd
    rw [y vs hq] at hv
    cases hv
    exact ⟨Grow.refl _ _, .inl rv⟩
  stop := fun g H p => by
    obtain ⟨vs, hq, r⟩ := h g H p
    exact ⟨vs, hq, by rw [r.length]; exact Nat.le_refl _⟩
theorem itok_t {K : PySem.W.Frag} {nm : Bool} {P : G → Hp → Prop} {a : Addr} {ds : List D} (h : ∀ g H, P g H → ∃ vs, SqT K H a vs ∧ RVs K g H vs ds) : ItOk K nm P (Itt K a) ds where
  go := fun i g H hi p => by
    obtain ⟨vs, hq, r⟩ := h g H p
    exact ⟨vs, vs[i]'(by rw [r.length]; exact hi), hq, List.getElem?_eq_getElem _⟩
  yld := fun i d g H x H' hd p y => by
    obtain ⟨e, y⟩ := y
    subst e
    obtain ⟨vs, hq, r⟩ := h g _ p
    obtain ⟨v, hv, rv⟩ := r.get hd
    rw [y vs hq] at hv
    cases hv
    exact ⟨Grow.refl _ _, .inl rv⟩
  stop := fun g H p => by
    obtain ⟨vs, hq, r⟩ := h g H p
    exact ⟨vs, hq, by rw [r.length]; exact Nat.le_refl _⟩
theorem itok_r {K : PySem.W.Frag} {nm : Bool} {P : G → Hp → Prop} {lo hi : Int} : ItOk K nm P (Itr lo (hi - lo).toNat) (rngD lo hi) where
  go := fun i g H h p => by
    unfold rngD at h
    rw [List.length_map, List.length_range] at h
    exact h
  yld := fun i d g H x H' hd p y => by
    obtain ⟨e, y⟩ := y
    subst e y
    unfold rngD at hd
    rw [List.getElem?_map] at hd
    obtain ⟨j, h1, h2⟩ := Option.map_eq_some_iff.mp hd
    have hj : j = i := by
      obtain ⟨h3, h4⟩ := List.getElem?_eq_some_iff.mp h1
      rw [← h4, List.getElem_range]
    subst hj h2
    exact ⟨Grow.refl _ _, .inl (.int _)⟩
  stop := fun g H p => by
    unfold rngD
    rw [List.length_map, List.length_range]
    exact Nat.le_refl _
theorem itok_s {K : PySem.W.Frag} {nm : Bool} {P : G → Hp → Prop} {z : Str} : ItOk K nm P (Its z) (chrs z) where
  go := fun i g H h p => by
    unfold chrs at h
    rw [List.length_map, Array.length_toList] at h
    exact h
  yld := fun i d g H x H' hd p y => by
    obtain ⟨e, c, hc, y⟩ := y
    subst e y
    unfold chrs at hd
    rw [List.getElem?_map, Array.getElem?_toList, hc] at hd
    cases hd
    exact ⟨Grow.refl _ _, .inl (.str _)⟩
  stop := fun g H p => by
    unfold chrs
    rw [List.length_map, Array.length_toList]
    exact Nat.le_refl _
theorem itok_v {K : PySem.W.Frag} {nm : Bool} {P : G → Hp → Prop} {a : Addr} {ds : List D} (h : ∀ g H, P g H → ∃ vs, SqL K H a vs ∧ RVs K g H vs ds) : ItOk K nm P (Itv K a ds.length) ds.reverse where
  go := fun i g H hi p => by
    obtain ⟨vs, hq, r⟩ := h g H p
    rw [List.length_reverse] at hi
    exact ⟨hi, vs, vs[ds.length - 1 - i]'(by rw [r.length]; omega), hq, List.getElem?_eq_getElem _⟩
  yld := fun i d g H x H' hd p y => by
    obtain ⟨e, y⟩ := y
    subst e
    obtain ⟨vs, hq, r⟩ := h g _ p
    have hi : i < ds.length := by
      have := (List.getElem?_eq_some_iff.mp hd).1
      rwa [List.length_reverse] at this
    rw [List.getElem?_reverse hi] at hd
    obtain ⟨v, hv, rv⟩ := r.get hd
    rw [y vs hq] at hv
    cases hv
    exact ⟨Grow.refl _ _, .inl rv⟩
  stop := fun g H p => by
    rw [List.length_reverse]
    exact Nat.le_refl _
theorem itok_e {K : PySem.W.Frag} {P : G → Hp → Prop} {b : Bool} {a : Addr} {ds : List D} (h : ∀ g H, P g H → ∃ vs, SqA b K H a vs ∧ RVs K g H vs ds) : ItOk K false P (IteA K b a) (ds.zipIdx.map fun p => .tup [.int p.2, p.1]) where
  go := fun i g H hi p => by
    obtain ⟨vs, hq, r⟩ := h g H p
    rw [List.length_map, List.length_zipIdx] at hi
    exact ⟨vs, vs[i]'(by rw [r.length]; exact hi), hq, List.getElem?_eq_getElem _⟩
  yld := fun i d g H x H' hd p y => by
    obtain ⟨T, z, e1, hT, e2, y⟩ := y
    obtain ⟨vs, hq, r⟩ := h g H p
    rw [List.getElem?_map, List.getElem?_zipIdx] at hd
    obtain ⟨q, hd1, e3⟩ := Option.map_eq_some_iff.mp hd
    obtain ⟨d0, hd2, e4⟩ := Option.map_eq_some_iff.mp hd1
    subst e1 e2 e4
    obtain ⟨v, hv, rv⟩ := r.get hd2
    rw [y vs hq] at hv
    cases hv
    refine ⟨Grow.lay hT, .inr ⟨rfl, T, _, _, rfl, e3.symm, .inl (.inl upd_same), ?_⟩⟩
    rw [Nat.zero_add]
    exact .cons (.int _) (.cons (rv.ext (Grow.lay hT).ext) .nil)
  stop := fun g H p => by
    obtain ⟨vs, hq, r⟩ := h g H p
    rw [List.length_map, List.length_zipIdx]
    exact ⟨vs, hq, r.length⟩
theorem itok_z {K : PySem.W.Frag} {P : G → Hp → Prop} {b c : Bool} {l m : Addr} {ds es : List D} (h : ∀ g H, P g H → ∃ vs, SqA b K H l vs ∧ RVs K g H vs ds) (h' : ∀ g H, P g H → ∃ vs, SqA c K H m vs ∧ RVs K g H vs es) :
    ItOk K false P (ItzA K b c l m) ((ds.zip es).map fun p => .tup [p.1, p.2]) where
  go := fun i g H hi p => by
    obtain ⟨vs, hq, r⟩ := h g H p
    obtain ⟨ws, hq', r'⟩ := h' g H p
    rw [List.length_map, List.length_zip] at hi
    exact ⟨vs, ws, vs[i]'(by rw [r.length]; omega), ws[i]'(by rw [r'.length]; omega), hq, hq', List.getElem?_eq_getElem _, List.getElem?_eq_getElem _⟩
  yld := fun i d g H x H' hd p y => by
    obtain ⟨T, z, z', e1, hT, e2, y, y'⟩ := y
    obtain ⟨vs, hq, r⟩ := h g H p
    obtain ⟨ws, hq', r'⟩ := h' g H p
    rw [List.getElem?_map] at hd
    obtain ⟨q, hd, e3⟩ := Option.map_eq_some_iff.mp hd
    rw [List.getElem?_zip_eq_some] at hd
    subst e1 e2
    obtain ⟨v, hv, rv⟩ := r.get hd.1
    obtain ⟨v', hv', rv'⟩ := r'.get hd.2
    rw [y vs hq] at hv
    rw [y' ws hq'] at hv'
    cases hv
    cases hv'
    exact ⟨Grow.lay hT, .inr ⟨rfl, T, _, _, rfl, e3.symm, .inl (.inl upd_same), .cons (rv.ext (Grow.lay hT).ext) (.cons (rv'.ext (Grow.lay hT).ext) .nil)⟩⟩
  stop := fun g H p => by
    obtain ⟨vs, hq, r⟩ := h g H p
    obtain ⟨ws, hq', r'⟩ := h' g H p
    rw [List.length_map, List.length_zip]
    exact ⟨vs, ws, hq, hq', by rw [r.length]; omega, by rw [r'.length]; omega, by rw [r.length, r'.length]; omega⟩
/-- a list or tuple value's place -/
theorem seq_of {K : PySem.W.Frag} {g : G} {H : Hp} {v : V} {d : D} {ds : List D} (h : RV K g H v d) (e : seqD d = some ds) : ∃ b a vs, v = .ref a ∧ RVs K g H vs ds ∧ ∀ g' H', Ext g H g' H' → SqA b K H' a vs := by
  cases d <;> try (cases e; done)
  · cases e
    cases h with
    | tup f r => exact ⟨false, _, _, rfl, r, fun g' H' x => (f.ext x).sq⟩
  · cases e
    cases h with
    | lst f r => exact ⟨true, _, _, rfl, r, fun g' H' x => (f.ext x).sq⟩
end L3
end

section
set_option Elab.async false
set_option linter.all false
set_option maxRecDepth 100000
set_option maxHeartbeats 4000000
/-! L3s: exceptions of own classes over any base: made, stored to, asked. -/
namespace L3
open PySem PySem.Spec PyProof.Rows L2

/-! ### bases -/
def bmOf (b : String) : List Value := match b with
  | "ValueError" => [.type "ValueError", .type "Exception", .type "BaseException", .type "object"]
  | "TypeError" => [.type "TypeError", .type "Exception", .type "BaseException", .type "object"]
  | "RuntimeError" => [.type "RuntimeError", .type "Exception", .type "BaseException", .type "object"]
  | "LookupError" => [.type "LookupError", .type "Exception", .type "BaseException", .type "object"]
  | "ArithmeticError" => [.type "ArithmeticError", .type "Exception", .type "BaseException", .type "object"]
  | "IndexError" => [.type "IndexError", .type "LookupError", .type "Exception", .type "BaseException", .type "object"]
  | "OverflowError" => [.type "OverflowError", .type "ArithmeticError", .type "Exception", .type "BaseException", .type "object"]
  | "NotImplementedError" => [.type "NotImplementedError", .type "RuntimeError", .type "Exception", .type "BaseException", .type "object"]
  | "Exception" => [.type "Exception", .type "BaseException", .type "object"]
  | _ => []
def bases : List String := ["ValueError", "TypeError", "RuntimeError", "LookupError", "ArithmeticError", "IndexError", "OverflowError", "NotImplementedError", "Exception"]
def newOf (b : String) : String := match b with
  | "ValueError" => "ValueError.__new__"
  | "TypeError" => "TypeError.__new__"
  | "RuntimeError" => "RuntimeError.__new__"
  | "LookupError" => "LookupError.__new__"
  | "ArithmeticError" => "ArithmeticError.__new__"
  | "IndexError" => "IndexError.__new__"
  | "OverflowError" => "OverflowError.__new__"
  | "NotImplementedError" => "NotImplementedError.__new__"
  | "Exception" => "Exception.__new__"
  | _ => ""
def BaseOk (b : String) : Prop := ∃ initId, ExcBaseFacts b (newOf b) initId (bmOf b) ∧ StoreFacts b (bmOf b) "object.__setattr__" "object"
theorem base_ok : ∀ b ∈ bases, BaseOk b := fun b h => by
  simp only [bases, List.mem_cons, List.not_mem_nil, or_false] at h
  rcases h with rfl | rfl | rfl | rfl | rfl | rfl | rfl | rfl | rfl
  · exact ⟨_, F.excBase_ValueError, F.store_ValueError⟩
  · exact ⟨_, F.excBase_TypeError, F.store_TypeError⟩
  · exact ⟨_, F.excBase_RuntimeError, F.store_RuntimeError⟩
  · exact ⟨_, F.excBase_LookupError, F.store_LookupError⟩
  · exact ⟨_, F.excBase_ArithmeticError, F.store_ArithmeticError⟩
  · exact ⟨_, F.excBase_IndexError, F.store_IndexError⟩
  · exact ⟨_, F.excBase_OverflowError, F.store_OverflowError⟩
  · exact ⟨_, F.excBase_NotImplementedError, F.store_NotImplementedError⟩
  · exact ⟨_, F.excBase_Exception, F.store_Exception⟩
/-- what an own exception class is asked for by name, and what answers -/
def xcAsk : List (Str × Option Value) := [("__setattr__", some (.builtin "object.__setattr__")), ("__getattribute__", some (.builtin "BaseException.__getattribute__")),
  ("__getattr__", none), ("__class__", some (.builtin "object.__class__"))]
def xcRest (K : PySem.W.Frag) (C : Addr) : Bool := PySem.W.hasDictIn K C && PySem.W.keepIn K (.ref C) && [(PySem.W.subIn K (.ref C) (.type "BaseException")), PySem.W.takesIn K (.builtin "object.__class__"), PySem.W.mroIn K C (.type "object")].all (· == some true) &&
  decide (PySem.W.typeIn K (.ref C) = some (.type "type")) && decide (PySem.W.specialIn K (.builtin "object.__class__") "__get__" = some (some (.builtin "getset_descriptor.__get__")))
/-- what the written part says of an own exception class over the base b -/
def xcB (K : PySem.W.Frag) (C : Addr) (b : String) : Bool := decide (b ∈ bases) && (PySem.W.excInitIn K C (bmOf b) (newOf b) && PySem.W.excOver K C (bmOf b)) &&
  xcAsk.all (fun q => decide (PySem.W.findIn K (.ref C) q.1 = some q.2)) && xcRest K C
structure XcB (K : PySem.W.Frag) (C : Addr) : Prop where
  bs : ∃ b, BaseOk b ∧ PySem.W.excInitIn K C (bmOf b) (newOf b) = true ∧ PySem.W.excOver K C (bmOf b) = true
  ask : ∀ q ∈ xcAsk, PySem.W.findIn K (.ref C) q.1 = some q.2
  rest : xcRest K C = true
theorem xcB_ok {K : PySem.W.Frag} {C : Addr} {b : String} (h : xcB K C b = true) : XcB K C := by
  unfold xcB at h
  rw [Bool.and_eq_true, Bool.and_eq_true, Bool.and_eq_true, Bool.and_eq_true] at h
  exact ⟨⟨b, base_ok b (of_decide_eq_true h.1.1.1), h.1.1.2⟩, fun q hq => of_decide_eq_true (List.all_eq_true.mp h.1.2 q hq), h.2⟩
section
variable {K : PySem.W.Frag} {C : Addr}
theorem XcB.split (T : XcB K C) : ((((PySem.W.hasDictIn K C = true ∧ PySem.W.keepIn K (.ref C) = true) ∧ PySem.W.subIn K (.ref C) (.type "BaseException") = some true ∧ PySem.W.takesIn K (.builtin "object.__class__") = some true ∧ PySem.W.mroIn K C (.type "object") = some true) ∧
    PySem.W.typeIn K (.ref C) = some (.type "type")) ∧ PySem.W.specialIn K (.builtin "object.__class__") "__get__" = some (some (.builtin "getset_descriptor.__get__"))) := by
  have h := T.rest
  unfold xcRest at h
  simpa only [Bool.and_eq_true, List.all_cons, List.all_nil, Bool.and_true, beq_iff_eq, decide_eq_true_eq] using h
theorem XcB.sets (T : XcB K C) : PySem.W.findIn K (.ref C) "__setattr__" = some (some (.builtin "object.__setattr__")) := T.ask _ (.head _)
theorem XcB.gets (T : XcB K C) : PySem.W.findIn K (.ref C) "__getattribute__" = some (some (.builtin "BaseException.__getattribute__")) := T.ask _ (.tail _ (.head _))
theorem XcB.gets2 (T : XcB K C) : PySem.W.findIn K (.ref C) "__getattr__" = some none := T.ask _ (.tail _ (.tail _ (.head _)))
theorem XcB.cls (T : XcB K C) : PySem.W.findIn K (.ref C) "__class__" = some (some (.builtin "object.__class__")) := T.ask _ (.tail _ (.tail _ (.tail _ (.head _))))
theorem XcB.known (T : XcB K C) : ∃ cd, PySem.W.clsIn K C = some cd ∧ cd.hasDict = true := PySem.W.any_some T.split.1.1.1.1
end
/-! ### self.f = y -/
/-- a place that holds something of no account -/
def anyX : HO := .ext fun _ => True
theorem anyX_ok {P : Program} {w : World} {H : Hp} {h : Heap} {a : Addr} {o : Obj} (e : h.get? a = some o) : ObjOk P w H h a anyX := ⟨trivial, ⟨o, e⟩, fun _ _ _ _ => trivial⟩
/-- what a store to an exception wants and leads to: its first one gives it a dict, a later one adds to that -/
abbrev StoX (K : PySem.W.Frag) (a C : Addr) (f : Str) (y : V) (H : Hp) (P : Hp → Prop) : Prop := XcB K C ∧ PySem.W.findIn K (.ref C) f = some none ∧
  ((H a = some (exo a C none) ∧ ∀ dx, H dx = none → dx ≠ a → P (upd (upd H dx (exd dx [(f, y)])) a (exo a C (some dx)))) ∨
    (∃ (dx : Addr) (fs : List (Str × V)), H a = some (exo a C (some dx)) ∧ H dx = some (exd dx fs) ∧ fs.length ≤ 900 ∧ P (upd H dx (exd dx ((f, y) :: fs)))))
theorem upd_turn {H : Hp} {a b : Addr} {o u v : HO} (h : b ≠ a) : upd (upd (upd H b o) a u) b v = upd (upd H b v) a u := by
  funext c
  by_cases h1 : c = b
  · rw [h1, upd_same, upd_ne h, upd_same]
  · rw [upd_ne h1]
    by_cases h2 : c = a
    · rw [h2, upd_same, upd_same]
    · rw [upd_ne h2, upd_ne h2, upd_ne h1, upd_ne h1]
theorem sto_ok {X : Cx} {pins : List (Addr × Obj)} {σ : L2.St} {H : Hp} {s : Shared} {a C : Addr} {f : Str} {y : V} {u : Value} {P : Hp → Prop} {E : Value → Shared → Prop} (I : Inv X pins σ H s) (ry : RelV y u) (q : StoX X.K a C f y H P) :
    wpAny (model X.prog X.w) X.A (setAttr (.ref a) f u) (fun _ s' => ∃ H', Inv X pins σ H' s' ∧ P H') E s := by
  obtain ⟨T, hno, q⟩ := q
  obtain ⟨_, ⟨_, _, SF⟩, _, ov⟩ := T.bs
  have htk : PySem.W.takerIn X.K C f = some none := by unfold PySem.W.takerIn; rw [hno]; rfl
  obtain ⟨cd, hcd, hdct⟩ := T.known
  have look := PySem.W.looks_clsIn (M := model X.prog X.w) I.kIn hcd
  rcases q with ⟨ea, q⟩ | ⟨dx, fs, ea, ed, hl, q⟩
  · -- the dict is made, hung in, written to
    obtain ⟨t1, ho⟩ := exo_at I.hok ea
    refine PySem.W.set_plain I.kIn (ox := PySem.W.excObj C t1 none .none) (od := none) ⟨ho, rfl, rfl, trivial⟩ T.sets ?_
    refine PySem.W.osa_openX (s := { s with toks := s.toks + 1 }) (od := none) SF I.kIn ⟨ho, rfl, rfl, trivial⟩ ov htk fun b => ?_
    refine wpAny_bind (wpAny_pure (wpAny_bind (PySem.W.instanceDict_exc (s := { s with toks := s.toks + 1 }) ho look hdct ?_)))
    generalize hdx : s.heap.objs.size = dx
    have hn : H dx = none := I.hok.fresh (Nat.le_of_eq hdx)
    have hne : dx ≠ a := fun e => by rw [e, ea] at hn; cases hn
    have hd0 : (s.heap.push (PySem.W.dictOf [] 0)).get? dx = some (PySem.W.dictOf [] 0) := by rw [← hdx]; exact Heap.get?_push_size _ rfl
    have ha0 := Heap.get?_push_of_some (PySem.W.dictOf [] 0) ho
    have I1 := I.laid (t' := s.toks) (o := anyX) (fun b o e => Heap.get?_push_of_some (PySem.W.dictOf [] 0) e) (Nat.le_of_eq hdx) (anyX_ok hd0)
    generalize s.heap.push (PySem.W.dictOf [] 0) = hp1 at hd0 ha0 I1 ⊢
    generalize hs2 : hp1.update a (fun o => { cls := o.cls, dict := some dx, data := o.data, slots := o.slots }) = hp2
    have ha2 : hp2.get? a = some (PySem.W.excObj C t1 (some dx) .none) := by rw [← hs2]; exact Heap.get?_update_self _ ha0 rfl
    have k2 : ∀ (b : Addr) (o : Obj), b ≠ a → hp1.get? b = some o → hp2.get? b = some o := fun b o nb e => by rw [← hs2]; exact (Heap.get?_update_ne _ _ _ _ nb).trans e
    have I2 := I1.write (h' := hp2) (t' := s.toks) (x := a) (e := a) (o := exo a C (some dx)) (by rw [upd_ne (fun e => hne e.symm), ea]; trivial) (.inl rfl) k2 ⟨_, ha2⟩ (exo_ok ha2)
    show wpAny _ _ (Builtin.ObjectAttr.storeInDict dx (.str f _) f u) _ _ _
    refine PySem.HandSPX.store_in_new ⟨_, #[], _, k2 dx _ hne hd0, rfl, fun e he => absurd he (by simp), fun _ => rfl⟩ fun h' tk' hn' sb => ?_
    have hd' : ∃ o, h'.get? dx = some o := let ⟨o, _, _, z, _⟩ := hn'; ⟨o, z⟩
    have I3 := I2.write (h' := h') (t' := tk') (x := dx) (e := dx) (o := exd dx [(f, y)]) (by rw [upd_ne hne, upd_same]; trivial) (.inl rfl) (fun b o nb e => (sb.2 b nb).trans e) hd' (exd_ok hn' (relO_put (fs := []) ry fun _ => trivial))
    rw [upd_turn hne] at I3
    exact ⟨_, I3, q dx hn hne⟩
  · obtain ⟨t1, ho⟩ := exo_at I.hok ea
    obtain ⟨mA, hns, rel⟩ := exd_at I.hok ed
    obtain ⟨oD, _, _, hoD, _⟩ := hns.count (within_of rel)
    refine PySem.W.set_plain I.kIn (ox := PySem.W.excObj C t1 (some dx) .none) (od := some oD) ⟨ho, rfl, rfl, hoD⟩ T.sets ?_
    refine PySem.W.osa_openX (s := { s with toks := s.toks + 1 }) (od := some oD) SF I.kIn ⟨ho, rfl, rfl, hoD⟩ ov htk fun b => ?_
    refine wpAny_bind (wpAny_pure (wpAny_bind (wpAny_bind (wpAny_loadPart ho (wpAny_bind (PySem.W.Looks.here (s := { s with toks := s.toks + 1 }) look ?_))))))
    rw [hdct]
    refine wpAny_pure (a := some dx) (PySem.OEX.store_in_old hns (within_of rel) (by rw [List.length_map]; omega) fun h' tk' hn' sb => ?_)
    have hd' : ∃ o, h'.get? dx = some o := let ⟨o, _, _, z, _⟩ := hn'; ⟨o, z⟩
    exact ⟨_, I.write (t' := tk') (x := dx) (e := dx) (by rw [ed]; trivial) (.inl rfl) (fun b o nb e => (sb.2 b nb).trans e) hd' (exd_ok hn' (relO_put ry rel)), q⟩
/-- self.f = e -/
def tOstX (K : PySem.W.Frag) (f : Str) (to te : TE) : TS := fun D σ H => te σ H fun y H1 => to σ H1 fun x H2 => ∃ a C : Addr, x = .ref a ∧ StoX K a C f y H2 (D.nx σ)
theorem ps_ostX {X : Cx} {o e : Expr} {to te : TE} {f : Str} {p' pos : Pos} (ho : PE X o to) (he : PE X e te) (hs : swapsWith e (some (.Attribute o f p')) pos.line X.env = pure false := by rfl) : PS X (.Assign [.Attribute o f p'] e pos) (tOstX X.K f to te) where
  run pins s σ H D I h := by
    have go : ∀ (v : Value) (y : V) (s1 : Shared) (H1 : Hp), Inv X pins σ H1 s1 → RelV y v → to σ H1 (fun x H2 => ∃ a C : Addr, x = .ref a ∧ StoX X.K a C f y H2 (D.nx σ)) →
        wpAny (model X.prog X.w) X.A (eval o X.env) (fun u s2 => wpAny (model X.prog X.w) X.A (setAttr u f v) (fun _ s3 => SP X pins D .next s3) X.xe s2) X.xe s1 := fun v y s1 H1 I1 ry q =>
      thn (ho.run pins s1 σ H1 _ I1 q) fun u s2 hx => by
        obtain ⟨x, H2, I2, rx, a, C, rfl, st⟩ := hx
        obtain rfl : u = Value.ref a := rx
        exact thn (sto_ok I2 ry st) fun _ s3 ⟨H3, I3, n⟩ => ⟨σ, H3, I3, n⟩
    exact plainObj_wpAny_Assign_Attribute (thn (he.run pins s σ H _ I h) fun v s1 ⟨y, H1, I1, ry, q⟩ => go v y s1 H1 I1 ry q) hs
/-! ### C(e, ..) -/
/-- behind a heap: the tuple of what is handed, and the bare exception -/
abbrev bornH (h : Heap) (us : List Value) (C : Addr) : Heap := (h.push (PySem.W.kdv_tup us)).push (PySem.HandSPX.excO C h.objs.size)
theorem bornH_keep {h : Heap} {us : List Value} {C : Addr} (b : Addr) (o : Obj) (e : h.get? b = some o) : (bornH h us C).get? b = some o := Heap.get?_push_of_some _ (Heap.get?_push_of_some _ e)
theorem bornH_at {h : Heap} {us : List Value} {C : Addr} : (bornH h us C).get? (h.objs.size + 1) = some (PySem.HandSPX.excO C h.objs.size) := by heap_get
theorem born_inv {X : Cx} {pins : List (Addr × Obj)} {σ : L2.St} {H : Hp} {s : Shared} {us : List Value} {C : Addr} (I : Inv X pins σ H s) : Inv X pins σ (upd H (s.heap.objs.size + 1) (exo (s.heap.objs.size + 1) C none)) { s with heap := bornH s.heap us C } :=
  I.laid (t' := s.toks) bornH_keep (Nat.le_succ _) (exo_ok bornH_at)
/-- an own class whose __init__ keeps sp, ready to be called -/
structure OwnInit (X : Cx) (CX : CXT) (C fI : Addr) (k : Nat) (fd : FuncData) (ps : List Str) (sp : Sp) (ds : List Value) (dvs : List V) : Prop where
  own : XcB X.K C
  finds : PySem.W.findIn X.K (.ref C) "__init__" = some (some (.ref fI)) ∧ PySem.W.typeIn X.K (.ref fI) = some (.type "function")
  keeps : FnOk X.prog X.w X.K X.mg X.base CX k fI fd ps sp
  room : Room (k + 1) X.A
  given : Binds X.K fd ps ds ∧ Vals dvs ds
  quiet : Passes CX X (fun _ _ _ => False)
section
variable {X : Cx} {CX : CXT} {C fI : Addr} {k : Nat} {fd : FuncData} {ps : List Str} {sp : Sp} {ds : List Value} {dvs : List V}
/-- the class called, its own __init__ keeping sp -/
theorem own_made {pins : List (Addr × Obj)} {σ : L2.St} {H : Hp} {Q : XK} {s : Shared} {us : List Value} {vs : List V} (O : OwnInit X CX C fI k fd ps sp ds dvs) (I : Inv X pins σ H s) (r : Vals vs us) (few : vs.length ≤ 1000)
    (q : ∀ a, H a = none → sp (.ref a :: (vs ++ dvs)) (upd H a (exo a C none)) (fun v H2 => v = .non ∧ ∃ (d : Addr) (fs : List (Str × V)), H2 a = some (exo a C (some d)) ∧ H2 d = some (exd d fs) ∧ H d = none ∧ Q (.ref C) (some d) (upd (del H2 a) d (HO.xd fs))) fun _ _ _ => False) :
    wpAny (model X.prog X.w) X.A (call (.ref C) us) (MkP X pins σ Q) X.xe s := by
  obtain ⟨_, ⟨_, FB, _⟩, qi, _⟩ := O.own.bs
  obtain ⟨_, _, _, _, _, _, _, _, _, _, _, _, _, _, _, _, hC, hT⟩ := PySem.W.excInit_of I.kIn qi
  have J := born_inv (us := us) (C := C) I
  have rel : Vals (V.ref (s.heap.objs.size + 1) :: (vs ++ dvs)) (Value.ref (s.heap.objs.size + 1) :: (us ++ ds)) := .cons rfl (r.append O.given.2)
  have hsp := q _ (I.hok.fresh (Nat.le_succ _))
  have many : (Value.ref (s.heap.objs.size + 1) :: us ++ ds).length = ps.length := (rel.length.symm.trans (O.keeps.len _ _ _ _ hsp))
  have room : us.length ≤ sizeLine := Nat.le_trans (Nat.le_of_eq r.length.symm) (Nat.le_trans few (by decide))
  have body := O.keeps.run _ X.stack _ _ ⟨Value.ref (s.heap.objs.size + 1) :: us, []⟩ _ _ _ (fun _ _ _ => False) (O.room.make C us []) (J.env0.make C us []) (O.given.1 _ (Value.ref (s.heap.objs.size + 1) :: us) J.kIn many) rel hsp
  refine wpAny_call (PySem.HandSPX.call_own FB hT hC (PySem.W.looks_findIn I.kIn O.finds.1) (fun self => PySem.W.bind_fn I.kIn self O.finds.2) room (codeAny_mono body fun res s2 hres => ?_))
  match res, hres with
  | .error e, hres => exact O.quiet pins σ _ _ e s2 J hres
  | .ok (.ret _), ⟨_, _, hos, bare, un, hok, rv, rfl, _, _, e1, e2, fresh, fin⟩ => exact ⟨rv, mk_end (raises_own O.own.split.1.1.2.1 O.own.split.1.2) I (Nat.le_succ _) bornH_keep un hok hos bare e1 e2 fresh fin⟩
/-- a class called by its global name, one plain argument at least -/
structure Called (X : Cx) (x : Str) (C : Addr) (e : Expr) (es : List Expr) (pos : Pos) : Prop where
  name : (Gl X x ∧ X.mg x = some (.ref C)) ∧ (x == ("__debug__" : Str)) = false
  plain : starEach (e :: es) X.env = (false, eval e X.env) :: starEach es X.env ∧ (backTo pos (starEach es X.env)).any (·.1) = false
theorem pmk_oexX {x : Str} {e : Expr} {es : List Expr} {ta : TA} {p pos : Pos} (O : OwnInit X CX C fI k fd ps sp ds dvs) (N : Called X x C e es pos) (ha : PA X (e :: es) ta) : PMk X (.Call (.Name x p) (e :: es) [] pos) (tMkO C sp dvs ta) := fun pins s σ H Q I h =>
  have args := thn (ha.run pos pins s σ H _ I h) fun us s1 ⟨vs, H1, I1, r1, few, q⟩ => (⟨I1.kIn, own_made O I1 r1 few q⟩ : X.K.In s1.heap ∧ wpAny (model X.prog X.w) X.A (call (.ref C) us) (MkP X pins σ Q) X.xe s1)
  wpAny_Call_Name_kw (ld_glob I N.name.1.1 N.name.1.2 (PySem.W.callWith_K (h₀ := X.base) I.ok.mod.kin O.own.split.1.1.1.2 args N.plain.1 N.plain.2) N.name.2)
end
/-! ### isinstance of a caught one -/
def rIsX (K : PySem.W.Frag) (D a : Addr) (d : Option Addr) : List V → Hp → VK → Prop := fun xs H Q => (d = none ∨ ∃ dd fs, d = some dd ∧ H dd = some (.xd fs)) ∧
  ((∃ (c : V) (cv : Value) (b : Bool), xs = [.ref a, c] ∧ ClsV c cv ∧ PySem.W.kitOne K (.ref D) cv = some b ∧ Q (.bl b) H) ∨
   ∃ (tp : Addr) (cs : List V) (us : List Value) (b : Bool), xs = [.ref a, .ref tp] ∧ H tp = some (.tup cs) ∧ Paired ClsV cs us ∧ PySem.W.kitAny K (.ref D) us = some b ∧ Q (.bl b) H)
theorem inst_at {X : Cx} {pins : List (Addr × Obj)} {σ : L2.St} {H : Hp} {s : Shared} {a D : Addr} {oe : Obj} {d : Option Addr} (I : Inv X pins σ H s) (e : s.heap.get? a = some oe) (hz : Zc (.ref D) d oe) (hf : ∃ vs, oe.data = .fields vs) (hd : d = none ∨ ∃ dd fs, d = some dd ∧ H dd = some (.xd fs)) : ∃ od, PySem.W.InstAt s.heap a oe D od := by
  have plain : PySem.W.notCls oe = true := by
    obtain ⟨_, hv⟩ := hf
    unfold PySem.W.notCls
    rw [hv] <;> rfl
  have what : ∃ od : Option Obj, match d with
      | none => od = none
      | some dd => ∃ o, od = some o ∧ s.heap.get? dd = some o := by
    rcases hd with rfl | ⟨dd, fs, rfl, ed⟩
    · exact ⟨none, rfl⟩
    · obtain ⟨_, ns, _⟩ := (show ObjOk X.prog X.w H s.heap dd (.xd fs) from I.hok dd _ ed)
      obtain ⟨o, ho, _⟩ := lookIn_ns ns
      exact ⟨some o, o, rfl, ho⟩
  obtain ⟨od, hod⟩ := what
  refine ⟨od, e, hz.1, plain, ?_⟩
  rw [hz.2]
  cases d with
  | none => rw [show od = none from hod]; trivial
  | some dd =>
    obtain ⟨o, rfl, ho⟩ := hod
    exact ho
theorem call_isX {X : Cx} {a D : Addr} {oe : Obj} {d : Option Addr} {pn : List (Addr × Obj)} (T : XcB X.K D) (hz : Zc (.ref D) d oe) (hf : ∃ vs, oe.data = .fields vs) : CallR (X.suite a ((a, oe) :: pn)) (.builtin "isinstance") (rIsX X.K D a d) := fun pins s σ H xs us Q I r ⟨hd, h⟩ => by
  obtain ⟨od, J⟩ := inst_at I (I.pin (a, oe) (List.mem_append_left _ List.mem_cons_self)).1 hz hf hd
  obtain ⟨cd, hcd, _⟩ := T.known
  obtain ⟨⟨⟨_, sub, tak, mro⟩, _⟩, spc⟩ := T.split
  have Z := PySem.W.kitx_exc (x := a) (ox := oe) (od := od) (by rw [hcd]; rfl) T.gets T.gets2 sub T.cls spc tak mro
  have done : ∀ b : Bool, Q (.bl b) H → ∀ tk, ∃ v H', Inv (X.suite a ((a, oe) :: pn)) pins σ H' { s with toks := tk } ∧ RelV v (.bool b) ∧ Q v H' := fun b q tk => ⟨.bl b, H, I.tok tk, rfl, q⟩
  rcases h with ⟨c, cv, b, rfl, k, e, q⟩ | ⟨tp, cs, ws, b, rfl, ht, k, e, q⟩
  · obtain ⟨_, _, rfl, ra, rc⟩ := vals2 r
    obtain rfl := (show _ = Value.ref a from ra)
    obtain rfl := k.eq rc
    exact PySem.W.kia_one Z I.kIn J e (fun z => nomatch z) (done b q)
  · obtain ⟨_, _, rfl, ra, rt⟩ := vals2 r
    obtain rfl := (show _ = Value.ref a from ra)
    obtain rfl := (show _ = Value.ref tp from rt)
    obtain ⟨_, its, rv, ⟨oc, odd, dt, sl⟩, at1, c1, n, s1⟩ := (show ObjOk X.prog X.w H s.heap tp (.tup cs) from I.hok tp _ ht)
    obtain rfl : oc = _ := c1
    obtain rfl : dt = _ := s1
    obtain rfl := ClsV.all k rv
    exact PySem.W.kia_tup Z I.kIn J at1 e (fun z => nomatch z) (done b q)
end L3
end

section
set_option Elab.async false
set_option linter.all false
set_option maxRecDepth 100000
set_option maxHeartbeats 4000000
/-! L3g: expressions: the look at a text, and that it does what is said. -/
namespace L3
open PySem PySem.Spec PyProof.Rows L2

/-! ### the look -/
def visB (sc : Scope) (x : Str) : Bool := (match sc.names.lookup x with
  | some .local => true
  | some .cell => true
  | some .free => true
  | _ => false) && !(x == ("__debug__" : Str)) && !(x == ("__classdict__" : Str))
def glbB (sc : Scope) (x : Str) : Bool := decide (sc.names.lookup x = some .globalImplicit) && !(x == ("__debug__" : Str))
def litB (d : D) (c : Const) : Bool := match d, c with
  | .non, .none => true
  | .bl a, .bool b => a == b
  | .int i, .int j => i == j
  | .str s, .str t => decide (s = t)
  | _, _ => false
/-- what may stand as an operand -/
def opB : Expr → Bool
  | .Starred _ _ => false
  | .Slice _ _ _ _ => false
  | .Set _ _ _ => false
  | .NamedExpr _ _ _ => false
  | _ => true
def ownN (S : Sig) (own : List Nat) : List (Str × Nat) := own.map fun i => (S.N.getD i Str.empty, i)
/-- two targets at once -/
def isTp : Pat → Bool
  | .tp _ => true
  | .nm _ => false
def nmIt : It → Bool
  | .enum _ => false
  | .zip2 _ _ => false
  | .zipS _ _ => false
  | _ => true
def mNm : Mth → Str
  | .join => "join"
  | .get2 => "get"
  | .index => "index"
  | .sw => "startswith"
  | .ew => "endswith"
  | .rp => "removeprefix"
  | .split => "split"
  | .part => "partition"
  | .find => "find"
  | .tidx => "index"
def mAr : Mth → Nat
  | .get2 => 2
  | _ => 1
/-- no super() -/
def baseB : Expr → Bool
  | .Call (.Name x _) [] [] _ => !(x == ("super" : Str))
  | _ => true
theorem base_of {o : Expr} (h : baseB o = true) (m : Str) (env : PySem.Env) (w : Sem Value) : attributeBase o m env w = w := by
  unfold attributeBase
  split
  · rename_i x p q
    have h : (!(x == ("super" : Str))) = true := h
    have hx : (x != ("super" : Str)) = true := h
    rw [hx]
    rfl
  · rfl
def tyNames : List (Str × String) := [("int", "int"), ("str", "str"), ("bool", "bool"), ("tuple", "tuple"), ("list", "list"), ("dict", "dict"), ("set", "set")]
def rngI : It → Bool
  | .rng1 _ => true
  | .rng2 _ _ => true
  | _ => false
/-- what makes a new thing -/
def newA : A → Bool
  | .lst _ => true
  | .comp _ _ _ _ _ => true
  | .dcomp _ _ _ _ _ _ => true
  | .disp _ _ => true
  | .prim .dict_ _ => true
  | _ => false
/-- written keys -/
def keysB : List Str → List (Option Expr) → Bool
  | [], es => es.isEmpty
  | k :: ks, es => match es with
    | some (.Constant (.str s) _ _) :: r => decide (s = k) && keysB ks r
    | _ => false
def tabEq : List (Str × D) → List (Str × D) → Bool
  | [], l => l.isEmpty
  | (x, d) :: r, l => match l with
    | (y, e) :: q => decide (x = y) && sameF d e && tabEq r q
    | [] => false
theorem sameF_eq {d e : D} (h : sameF d e = true) : d = e := by
  cases d <;> cases e <;> first | (cases h; done) | rfl | (cases eq_of_beq h; rfl) | (cases of_decide_eq_true h; rfl)
theorem tabEq_eq : ∀ {a b : List (Str × D)}, tabEq a b = true → a = b
  | [], [], _ => rfl
  | [], _ :: _, h => by cases h
  | _ :: _, [], h => by cases h
  | (x, d) :: r, (y, e) :: q, h => by
    have h : (decide (x = y) && sameF d e && tabEq r q) = true := h
    simp only [Bool.and_eq_true, decide_eq_true_eq] at h
    rw [h.1.1, sameF_eq h.1.2, tabEq_eq h.2]
mutual
def chkE (S : Sig) (sc : Scope) : A → Expr → Bool
  | .var i, e => match e with
    | .Name x _ => decide (S.N[i]? = some x) && visB sc x
    | _ => false
  | .lit d, e => match e with
    | .Constant c _ _ => litB d c
    | _ => false
  | .glo k, e => match e with
    | .Name x _ => decide (S.cn[k]? = some x) && glbB sc x
    | _ => false
  | .bin op a b, e => match e with
    | .BinOp l o r _ => decide (o = op) && chkE S sc a l && chkE S sc b r
    | _ => false
  | .cat a b, e => match e with
    | .BinOp l o r _ => decide (o = .Add) && chkE S sc a l && chkE S sc b r
    | _ => false
  | .neg a, e => match e with
    | .UnaryOp .USub x _ => chkE S sc a x
    | _ => false
  | .cmp op a b, e => match e with
    | .Compare l [o] [r] _ => decide (o = op) && !(behindInMarks op r) && chkE S sc a l && chkE S sc b r
    | _ => false
  | .chn o1 o2 a b c, e => match e with
    | .Compare l [p1, p2] [r1, r2] _ => decide (p1 = o1) && decide (p2 = o2) && !(lastMarks [o1, o2] [r1, r2]) && chkE S sc a l && chkE S sc b r1 && chkE S sc c r2
    | _ => false
  | .andL l, e => match e with
    | .BoolOp .And es _ => chkAs S sc l es
    | _ => false
  | .orL l, e => match e with
    | .BoolOp .Or es _ => chkAs S sc l es
    | _ => false
  | .not_ a, e => match e with
    | .UnaryOp .Not x _ => chkE S sc a x
    | _ => false
  | .ite c a b, e => match e with
    | .IfExp t x y _ => chkE S sc c t && tstA c && chkE S sc a x && chkE S sc b y
    | _ => false
  | .tup l, e => match e with
    | .Tuple es _ _ => chkAs S sc l es
    | _ => false
  | .lst l, e => match e with
    | .List es _ => chkAs S sc l es
    | _ => false
  | .lsr l, e => match e with
    | .List es _ => chkAs S sc l es
    | _ => false
  | .idx a b, e => match e with
    | .Subscript x y _ => chkE S sc a x && chkE S sc b y && opB y
    | _ => false
  | .sl a lo hi, e => match e with
    | .Subscript x (.Slice l h none _) _ => chkE S sc a x && chkAo S sc lo l && chkAo S sc hi h
    | _ => false
  | .rev a, e => match e with
    | .Subscript x (.Slice none none (some (.UnaryOp .USub (.Constant (.int 1) _ _) _)) _) _ => chkE S sc a x
    | _ => false
  | .call f l, e => match e with
    | .Call (.Name x _) es [] _ => decide (S.fn[f]? = some (some x)) && glbB sc x && chkAs S sc l es
    | _ => false
  | .callK c l lk, e => match e with
    | .Call (.Name x _) es kws _ => (match S.kc[c]? with
      | some (y, ks) => decide (x = y) && glbB sc x && chkAs S sc l es && chkKs S sc lk ks kws
      | none => false)
    | _ => false
  | .prim p l, e => match e with
    | .Call (.Name x _) (e0 :: es) [] _ => (match primId p with
      | some (nm, _) => decide (x = nm) && glbB sc x && chkAs S sc l (e0 :: es)
      | none => false)
    | _ => false
  | .ty n, e => match e with
    | .Name x _ => decide (tyNames.lookup x = some n) && glbB sc x
    | _ => false
  | .lrng it, e => match e with
    | .Call (.Name x _) [y] [] _ => decide (x = "list") && glbB sc x && rngI it && chkIt S sc it y y
    | _ => false
  | .mth m a l, e => match e with
    | .Call (.Attribute o x ap) es [] q => decide (x = mNm m) && decide (es.length = mAr m) && (ap.endLine == q.line) && baseB o && chkE S sc a o && chkAs S sc l es
    | _ => false
  | .fnc f x, e => match e with
    | .Name y _ => decide (y = x) && decide (S.fn[f]? = some (some x)) && glbB sc x
    | _ => false
  | .callV i cs l, e => match e with
    | .Call (.Name x _) (e0 :: es) [] _ => decide (S.N[i]? = some x) && visB sc x && cs.all (fun p => decide (S.fn[p.1]? = some (some p.2))) && chkAs S sc l (e0 :: es)
    | _ => false
  | .inK neg x ks a, e => match e with
    | .Compare l [o] [.Name y py] _ => decide (o = if neg then .NotIn else .In) && decide (y = x) && glbB sc x && decide ((x, ks) ∈ S.kd) && !(behindInMarks o (.Name y py)) && chkE S sc a l
    | _ => false
  | .pop o i, e => match e with
    | .Call (.Attribute eo m ap) [ei] [] q => decide (m = "pop") && (ap.endLine == q.line) && baseB eo && chkE S sc o eo && chkE S sc i ei
    | _ => false
  | .lref a, e => match e with
    | .Call (.Name x _) [y] [] _ => decide (x = "list") && glbB sc x && chkE S sc a y
    | _ => false
  | .comp own p it c e, x => match x with
    | .ListComp elt [⟨tg, iter, ifs, 0⟩] scope _ => blkC S.N sc scope (ownN S own) && (slotsP p).all (fun i => decide (i ∈ own)) && chkP S scope p tg && (nmIt it || isTp p) && chkIt S sc it iter tg && opB iter && chkC S (relS scope sc) c ifs && chkE S (relS scope sc) e elt
    | _ => false
  | .dcomp own p it c k v, x => match x with
    | .DictComp kx vx [⟨tg, iter, ifs, 0⟩] scope _ => blkC S.N sc scope (ownN S own) && (slotsP p).all (fun i => decide (i ∈ own)) && chkP S scope p tg && (nmIt it || isTp p) && chkIt S sc it iter tg && opB iter && chkC S (relS scope sc) c ifs && chkE S (relS scope sc) k kx && chkE S (relS scope sc) v vx
    | _ => false
  | .new a, e => newA a && chkE S sc a e
  | .attr cs o f, e => match e with
    | .Attribute eo x _ => decide (x = f) && baseB eo && chkE S sc o eo && cs.all (fun c => decide ((c, f) ∈ S.cl.ca))
    | _ => false
  | .make c x f l, e => match e with
    | .Call (.Name y _) es [] _ => decide (y = x) && glbB sc y && decide ((c, x, f) ∈ S.cl.ck) && chkAs S sc l es
    | _ => false
  | .callM m cs o l, e => match e with
    | .Call (.Attribute eo x ap) es [] q => decide (x = m) && decide (es.length < 20) && (ap.endLine == q.line) && baseB eo && chkE S sc o eo && chkAs S sc l es && cs.all (fun p => decide ((p.1, m, p.2) ∈ S.cl.cm))
    | _ => false
  | .disp ks l, e => match e with
    | .Dict keys vals _ => keysB ks keys && decide (keys.length = vals.length) && decide (keys.length ≤ 15) && chkAs S sc l vals
    | _ => false
  | .tabI x t a, e => match e with
    | .Subscript (.Name y _) ei _ => decide (y = x) && glbB sc y && S.cl.tv.any (fun p => decide (p.1 = x) && tabEq p.2 t) && chkE S sc a ei && opB ei
    | _ => false
  | .tabG x t a b, e => match e with
    | .Call (.Attribute (.Name y _) m ap) [ea, eb] [] q => decide (y = x) && decide (m = "get") && (ap.endLine == q.line) && glbB sc y && S.cl.tv.any (fun p => decide (p.1 = x) && tabEq p.2 t) && chkE S sc a ea && chkE S sc b eb
    | _ => false
  | .eqT l m, e => match e with
    | .Compare (.Tuple es _ _) [.Eq] [.Tuple fs k2 p2] _ => !(behindInMarks .Eq (.Tuple fs k2 p2)) && chkAs S sc l es && chkAs S sc m fs
    | _ => false
  | .isiO cs a n, e => match e with
    | .Call (.Name y _) [ea, .Name z _] [] _ => decide (y = "isinstance") && glbB sc y && decide (tyNames.lookup z = some n) && glbB sc z && chkE S sc a ea && cs.all (fun c => decide ((c, n) ∈ S.cl.co))
    | _ => false
/-- may it stand as a test -/
def tstA : A → Bool
  | .ite _ _ _ => false
  | .andL l => tstAs l
  | .orL l => tstAs l
  | .not_ a => tstA a
  | _ => true
def tstAs : As → Bool
  | .nil => true
  | .cons a l => tstA a && tstAs l
def chkAs (S : Sig) (sc : Scope) : As → List Expr → Bool
  | .nil, es => match es with
    | [] => true
    | _ :: _ => false
  | .cons a l, es => match es with
    | [] => false
    | e :: r => chkE S sc a e && chkAs S sc l r
def chkKs (S : Sig) (sc : Scope) : As → List Str → List Keyword → Bool
  | .nil, ks, kws => match ks, kws with
    | [], [] => true
    | _, _ => false
  | .cons a l, ks, kws => match ks, kws with
    | k :: ks, ⟨some k2, e, _⟩ :: r => decide (k = k2) && chkE S sc a e && chkKs S sc l ks r
    | _, _ => false
def chkAo (S : Sig) (sc : Scope) : Ao → Option Expr → Bool
  | .no, o => match o with
    | none => true
    | some _ => false
  | .so a, o => match o with
    | none => false
    | some e => chkE S sc a e
def chkC (S : Sig) (sc : Scope) : Ao → List Expr → Bool
  | .no, o => match o with
    | [] => true
    | _ :: _ => false
  | .so a, o => match o with
    | [e] => chkE S sc a e && tstA a
    | _ => false
def chkIt (S : Sig) (sc : Scope) : It → Expr → Expr → Bool
  | .seq a, e, _ => chkE S sc a e
  | .rng1 a, e, _ => match e with
    | .Call (.Name x _) [y] [] _ => decide (x = "range") && glbB sc x && chkE S sc a y
    | _ => false
  | .rng2 a b, e, _ => match e with
    | .Call (.Name x _) [y, z] [] _ => decide (x = "range") && glbB sc x && chkE S sc a y && chkE S sc b z
    | _ => false
  | .enum a, e, tg => match e with
    | .Call (.Name x _) [y] [] _ => decide (x = "enumerate") && glbB sc x && chkE S sc a y && (match tg with | .Tuple _ _ _ => true | _ => false)
    | _ => false
  | .zip2 a b, e, tg => match e with
    | .Call (.Name x _) [y, z] [] _ => decide (x = "zip") && glbB sc x && chkE S sc a y && chkE S sc b z && (match tg with | .Tuple _ _ _ => true | _ => false)
    | _ => false
  | .zipS _ _, _, _ => false
  | .revd a, e, _ => match e with
    | .Call (.Name x _) [y] [] _ => decide (x = "reversed") && glbB sc x && chkE S sc a y
    | _ => false
end

/-! ### where a body stands -/
/-- the built-in names that a text may use -/
def bltNames : List Str := ["len", "abs", "int", "min", "max", "list", "tuple", "dict", "all", "any", "sum", "range", "enumerate", "zip", "reversed", "isinstance", "divmod", "sorted", "str", "bool", "set", "repr"]
def CallOk (C : Ct) (T : Tb) (X : Cx) (f : Nat) (x : Str) : Prop := ∃ (a : Addr) (fd : FuncData) (k : Nat) (ps : List Str), X.mg x = some (.ref a) ∧ PySem.W.keepIn X.K (.ref a) = true ∧ Binds X.K fd ps [] ∧ Room k X.A ∧
  FnOk X.prog X.w X.K X.mg X.base (L2.CX X.prog X.w) k a fd ps (spD C ps.length (T.fn f)) ∧ (∀ ds st, ds.length ≠ ps.length → T.fn f ds st = .no) ∧ a = He.ga X.K x
/-- a call with keywords, or with defaults left out -/
def CallKOk (C : Ct) (T : Tb) (X : Cx) (x : Str) (ks : List Str) (c : KC) : Prop := ∃ (a : Addr) (fd : FuncData) (k : Nat) (ps : List Str) (gU : List Value → List Value → List Value) (gV : List V → List V → List V),
  X.mg x = some (.ref a) ∧ PySem.W.keepIn X.K (.ref a) = true ∧ KBn X.K fd ps c.n ks gU gV ∧ Room k X.A ∧
  FnOk X.prog X.w X.K X.mg X.base (L2.CX X.prog X.w) k a fd ps (spD C ps.length (T.fn c.f)) ∧ (∀ ds st, ds.length ≠ ps.length → T.fn c.f ds st = .no) ∧ c.nk = ks.length ∧
  ∀ (g : G) (H : Hp) (vs zs : List V) (ds es as : List D), RVs C.K g H vs ds → RVs C.K g H zs es → permK c ds es = some as → RVs C.K g H (gV vs zs) as
def ConOk (C : Ct) (T : Tb) (X : Cx) (k : Nat) (x : Str) : Prop := ∃ u v, X.mg x = some u ∧ RelV v u ∧ ∀ g H, RV C.K g H v (T.con k)
/-- a dict of the module by texts: these are its keys -/
def KdOk (X : Cx) (x : Str) (ks : List Str) : Prop := ∃ d es n, X.mg x = some (.ref d) ∧ KDict X.K X.w d es n ∧ ∀ z, ∃ r, PySem.W.nsIn X.K d z = some r ∧ r.isSome = decide (z ∈ ks)
def AttrOk (C : Ct) (X : Cx) (c : Nat) (f : Str) : Prop := Cls X.K (C.cls c) ∧ NoAttr X.K (C.cls c) f
def MethOk (C : Ct) (T : Tb) (X : Cx) (c : Nat) (m : Str) (f : Nat) : Prop := ∃ (a : Addr) (fd : FuncData) (k : Nat) (ps : List Str), Cls X.K (C.cls c) ∧ Meth X.K (C.cls c) m a ∧ Binds X.K fd ps [] ∧ Room k X.A ∧
  FnOk X.prog X.w X.K X.mg X.base (L2.CX X.prog X.w) k a fd ps (spD C ps.length (T.fn f)) ∧ ∀ ds st, ds.length ≠ ps.length → T.fn f ds st = .no
def MakeOk (C : Ct) (T : Tb) (X : Cx) (c : Nat) (x : Str) (f : Nat) : Prop := ∃ (a : Addr) (fd : FuncData) (k : Nat) (ps : List Str), Mk X.K (C.cls c) a ∧ X.mg x = some (.ref (C.cls c)) ∧ Binds X.K fd ps [] ∧ Room (k + 1) X.A ∧
  FnOk X.prog X.w X.K X.mg X.base (L2.CX X.prog X.w) k a fd ps (spD C ps.length (T.fn f)) ∧ ∀ ds st, ds.length ≠ ps.length → T.fn f ds st = .no
/-- a dict of the module by texts, with its values -/
def TvOk (X : Cx) (x : Str) (t : List (Str × D)) : Prop := ∃ d es n, X.mg x = some (.ref d) ∧ KDict X.K X.w d es n ∧ ∀ z, match t.lookup z with
  | some e => ∃ u v, PySem.W.nsIn X.K d z = some (some u) ∧ RelV v u ∧ ∀ g H, RV X.K g H v e
  | none => PySem.W.nsIn X.K d z = some none
/-- a class as a value: one of one's own, or a built-in one -/
inductive ClsAt (mg : Str → Option Value) : Bool × Str → V → Value → Prop
  | own {x : Str} {D : Addr} : mg x = some (.ref D) → ClsAt mg (true, x) (.ref D) (.ref D)
  | blt {x : Str} {n : String} : mg x = none → bootBuiltins x = some (.type n) → x ≠ "__name__" → ClsAt mg (false, x) (.ty n) (.type n)
/-- what is promised of a making that only stores -/
def spI (C : Addr) (fl : List Str) : Sp := fun vs H Q E => ∃ (a : Addr) (ws : List V), vs = .ref a :: ws ∧ ws.length = fl.length ∧ fl ≠ [] ∧ fl.length ≤ 8 ∧ H a = some (exo a C none) ∧
  ∀ d H2, H2 a = some (exo a C (some d)) → H2 d = some (exd d (fl.zip ws).reverse) → H d = none → d ≠ a → (∀ b, b ≠ a → b ≠ d → H2 b = H b) → Q .non H2
def ExcOk (C : Ct) (X : Cx) (c : Nat) (x : Str) (fl : List Str) : Prop := ∃ D : Addr, C.xc c = .ref D ∧ X.mg x = some (.ref D) ∧ XcB X.K D ∧ (∀ f ∈ fl, PySem.W.findIn X.K (.ref D) f = some none) ∧
  (fl ≠ [] → ∃ (fI : Addr) (fd : FuncData) (k : Nat) (ps : List Str), PySem.W.findIn X.K (.ref D) "__init__" = some (some (.ref fI)) ∧ PySem.W.typeIn X.K (.ref fI) = some (.type "function") ∧ Binds X.K fd ps [] ∧ Room (k + 1) X.A ∧
    FnOk X.prog X.w X.K X.mg X.base (L2.CX X.prog X.w) k fI fd ps (spI D fl))
def IsiOk (C : Ct) (X : Cx) (c : Nat) (tup : Bool) (l : List (Bool × Str)) (b : Bool) : Prop := ∃ (cs : List V) (us : List Value), (∀ (j : Nat) p, l[j]? = some p → ∃ v u, cs[j]? = some v ∧ us[j]? = some u ∧ ClsAt X.mg p v u) ∧ cs.length = l.length ∧ us.length = l.length ∧
  (if tup then PySem.W.kitAny X.K (C.xc c) us = some b else ∃ u, us = [u] ∧ PySem.W.kitOne X.K (C.xc c) u = some b)
/-- instances of the class at D are of no built-in type n -/
structure InsIs (K : PySem.W.Frag) (D : Addr) (n : String) : Prop where
  cl : Cls K D
  ha : PySem.W.findIn K (.ref D) "__class__" = some (some (.builtin "object.__class__"))
  hn : PySem.W.specialIn K (.builtin "object.__class__") "__get__" = some (some (.builtin "getset_descriptor.__get__"))
  ht : PySem.W.takesIn K (.builtin "object.__class__") = some true
  hm : PySem.W.mroIn K D (.type "object") = some true
  no : PySem.W.kitOne K (.ref D) (.type n) = some false
structure Good (C : Ct) (T : Tb) (S : Sig) (sc : Scope) (X : Cx) : Prop where
  hN : X.N = S.N
  nd : S.N.Nodup
  scp : X.env.scope = sc
  calm : X.calm = true
  K : X.K = C.K
  tk : Takes X C.W
  hu : X.A.units + 65 < cLine
  blt : ∀ x ∈ bltNames, X.mg x = none
  fn : ∀ f x, S.fn[f]? = some (some x) → CallOk C T X f x
  con : ∀ k x, S.cn[k]? = some x → ConOk C T X k x
  kc : ∀ c x ks, S.kc[c]? = some (x, ks) → CallKOk C T X x ks (T.kp c)
  kd : ∀ x ks, (x, ks) ∈ S.kd → KdOk X x ks
  ca : ∀ c f, (c, f) ∈ S.cl.ca → AttrOk C X c f
  cm : ∀ c m f, (c, m, f) ∈ S.cl.cm → MethOk C T X c m f
  ck : ∀ c x f, (c, x, f) ∈ S.cl.ck → MakeOk C T X c x f
  tv : ∀ x t, (x, t) ∈ S.cl.tv → TvOk X x t
  xs : ∀ c x fl, (c, x, fl) ∈ S.cl.xs → ExcOk C X c x fl
  xm : ∀ c x fl d y gl, (c, x, fl) ∈ S.cl.xs → (d, y, gl) ∈ S.cl.xs → PySem.W.exmOne X.K (C.xc c) (C.xc d) = some (decide (c = d))
  xi : ∀ c tup l b, (c, tup, l, b) ∈ S.cl.xi → IsiOk C X c tup l b
  co : ∀ c n, (c, n) ∈ S.cl.co → InsIs X.K (C.cls c) n
theorem Good.hu1 {C : Ct} {T : Tb} {S : Sig} {sc : Scope} {X : Cx} (Z : Good C T S sc X) : X.A.units + 1 < cLine := by
  have := Z.hu
  omega
theorem vis_of {sc : Scope} {x : Str} (h : visB sc x = true) : Vis sc x ∧ (x == ("__debug__" : Str)) = false ∧ (x == ("__classdict__" : Str)) = false := by
  unfold visB at h
  simp only [Bool.and_eq_true, Bool.not_eq_true'] at h
  refine ⟨?_, h.1.2, h.2⟩
  have h := h.1.1
  split at h
  · exact .inl (by assumption)
  · exact .inr (.inl (by assumption))
  · exact .inr (.inr (by assumption))
  · cases h
theorem glb_of {sc : Scope} {x : Str} (h : glbB sc x = true) : sc.names.lookup x = some .globalImplicit ∧ (x == ("__debug__" : Str)) = false := by
  unfold glbB at h
  simp only [Bool.and_eq_true, decide_eq_true_eq, Bool.not_eq_true'] at h
  exact h
theorem star_of {e : Expr} (h : opB e = true) (r : List Expr) (env : PySem.Env) : starEach (e :: r) env = (false, eval e env) :: starEach r env := by
  cases e <;> first | rfl | cases h
theorem ix_of {e : Expr} (h : opB e = true) : PlainIx e := by
  cases e <;> first | (intro o i; rfl) | cases h
theorem fold_of {e : Expr} (h : opB e = true) (env : PySem.Env) (x : Value) : foldedSetIterable e env x = pure x := by
  cases e <;> first | rfl | cases h
theorem chk_op {S : Sig} {sc : Scope} {a : A} {e : Expr} (h : chkE S sc a e = true) : opB e = true := by
  cases a with
  | new a =>
    unfold chkE at h
    obtain ⟨hn, h⟩ := Bool.and_eq_true_iff.mp h
    cases a <;> first | (cases hn; done) | (unfold chkE at h; split at h <;> first | rfl | (cases h; done))
  | _ => first | (cases h; done) | (unfold chkE at h; split at h <;> first | rfl | (cases h; done))
theorem backTo_any (pos : Pos) (l : List (Bool × Sem Value)) : (backTo pos l).any (·.1) = l.any (·.1) := by
  unfold backTo
  rw [List.any_map]
  rfl
theorem chks_star {S : Sig} {sc : Scope} (env : PySem.Env) : ∀ {l : As} {es : List Expr}, chkAs S sc l es = true → (starEach es env).any (·.1) = false
  | .nil, es, h => by
    unfold chkAs at h
    split at h
    · rfl
    · cases h
  | .cons a l, es, h => by
    unfold chkAs at h
    split at h
    · cases h
    · simp only [Bool.and_eq_true] at h
      rw [star_of (chk_op h.1), List.any_cons, chks_star env h.2]
      rfl

/-! ### small steps -/
section
variable {C : Ct} {X : Cx} {T : Tb} {S : Sig} {sc : Scope}
/-- an operand read at once -/
theorem bor_of (Z : Good C T S sc X) {a : A} {e : Expr} (h : chkE S sc a e = true) (hE : PE X e (rd C (rV C) fun env st => ev T a env st)) : PE X e (rd C (RB C) fun env st => evB a env st (ev T a env st)) := by
  have other : (∀ i, a ≠ .var i) → PE X e (rd C (RB C) fun env st => evB a env st (ev T a env st)) := fun hn => by
    refine hE.of fun σ H Q q => ?_
    obtain ⟨g, env, st, rep, go⟩ := q
    have e1 : evB a env st (ev T a env st) = ev T a env st := by
      unfold evB
      split
      · exact (hn _ rfl).elim
      · rfl
    refine ⟨g, env, st, rep, ?_⟩
    have go : Go C σ env (RB C σ env) g H (evB a env st (ev T a env st)) Q := go
    rw [e1] at go
    show Go C σ env (rV C σ env) g H (ev T a env st) Q
    cases he : ev T a env st with
    | ok d st' =>
      rw [he] at go
      exact fun g' H' x ex rp rv => go g' H' x ex rp (.inl rv)
    | ex x st' => rw [he] at go; exact go
    | no => rw [he] at go; exact go
  cases a with
  | var i =>
    unfold chkE at h
    split at h
    · rename_i x pos
      simp only [Bool.and_eq_true, decide_eq_true_eq] at h
      obtain ⟨v1, v2, v3⟩ := vis_of h.2
      have hp : PE X (.Name x pos) (tVar i) := pe_var (by rw [Z.hN]; exact h.1) (by rw [Z.scp]; exact v1) v2 v3
      refine hp.of fun σ H Q q => ?_
      obtain ⟨g, env, st, rep, go⟩ := q
      obtain ⟨d, hd, go2⟩ := Go.of (show Go C σ env (RB C σ env) g H (.of (borAt env i) st) Q from go)
      unfold borAt at hd
      split at hd
      · cases hd
        rename_i e0
        obtain ⟨v, hv, rv⟩ := rep.val i _ e0
        exact ⟨v, hv, go2.end_ rep (.inl rv)⟩
      · rename_i o e0
        obtain ⟨a, ha, _⟩ := rep.own i o e0
        exact ⟨_, ha, go2.end_ rep (.inr ⟨i, o, e0, ha, hd⟩)⟩
      · cases hd
    · cases h
  | _ => exact other fun i z => by cases z
theorem evB_ok {T : Tb} {a : A} {env : Env} {st st' : Store} {d : D} (h : ev T a env st = .ok d st') : evB a env st (ev T a env st) = .ok d st' := by
  unfold evB
  split
  · rename_i i
    have h : Res.of (valAt env i) st = .ok d st' := h
    unfold valAt at h
    split at h
    · rename_i e
      cases h
      simp [borAt, e]
    · cases h
  · exact h
theorem evB_ex {T : Tb} {a : A} {env : Env} {st st' : Store} {x : Exn} (h : ev T a env st = .ex x st') : evB a env st (ev T a env st) = .ex x st' := by
  unfold evB
  split
  · rename_i i
    have h : Res.of (valAt env i) st = .ex x st' := h
    unfold valAt at h
    split at h <;> cases h
  · exact h
/-- a test by truth -/
theorem pt_gen (hK : X.K = C.K) {e : Expr} {m : Env → Store → Res D} (hB : PE X e (rd C (RB C) m)) (he : ∀ whole, isTrue e X.env whole = (do let v ← whole; standAt e.pos; holding [v] (truthy v))) :
    PT X e (rd C rI fun env st => (m env st).bind fun d st => .of (truD st d) st) := by
  refine ⟨fun pins s σ H Q I q => ?_⟩
  obtain ⟨g, env, st, rep, go⟩ := q
  refine isTrue_plain (thn (hB.run pins s σ H _ I ⟨g, env, st, rep, Go.bind (R := RB C σ env) go⟩) fun v s1 ⟨x, H1, I1, r1, d, st1, g1, e1, rep1, v1, go1⟩ => ?_) (he _)
  obtain ⟨b, hb, go2⟩ := go1.of
  exact tru_see hK I1 r1 rep1 v1 hb (go2.end_ rep1 rfl)
/-- a test whose expression tells a bool -/
theorem rd_tst {m : Env → Store → Res D} (hm : ∀ env st d st', m env st = .ok d st' → ∃ k, d = .bl k) {σ : L2.St} {H : Hp} {Q : Bool → Hp → Prop} (h : rd C rI (fun env st => (m env st).bind fun d st => .of (truD st d) st) σ H Q) :
    rd C (rV C) m σ H fun x H' => ∃ k, x = .bl k ∧ Q k H' := by
  obtain ⟨g, env, st, rep, go⟩ := h
  have go : Go C σ env (rI σ env) g H ((m env st).bind fun d st => .of (truD st d) st) Q := go
  refine ⟨g, env, st, rep, ?_⟩
  cases he : m env st with
  | ok d st' =>
    obtain ⟨k, rfl⟩ := hm env st d st' he
    rw [he] at go
    have go : Go C σ env (rI σ env) g H (.ok k st') Q := go
    intro g' H' x ex rp rv
    cases rv
    exact ⟨k, rfl, go g' H' k ex rp rfl⟩
  | ex x st' => rw [he] at go; exact go
  | no => rw [he] at go; exact go
end

section
variable {C : Ct} {X : Cx} {T : Tb} {S : Sig} {sc : Scope}
theorem rd_ex {α β : Type} {R : Rl β α} {m m' : Env → Store → Res α} (e : ∀ env st, m env st = m' env st) {σ : L2.St} {H : Hp} {Q : β → Hp → Prop} (h : rd C R m σ H Q) : rd C R m' σ H Q := by
  have : m = m' := by funext a b; exact e a b
  rw [← this]
  exact h
theorem of_map_bl {o : Option Bool} {st st' : Store} {d : D} (h : Res.of (o.map D.bl) st = .ok d st') : ∃ k, d = .bl k := by
  cases o with
  | none => cases h
  | some k => cases h; exact ⟨k, rfl⟩
theorem bind_bl {α : Type} {r : Res α} {f : α → Store → Res D} {st' : Store} {d : D} (hf : ∀ a st, f a st = .ok d st' → ∃ k, d = .bl k) (h : r.bind f = .ok d st') : ∃ k, d = .bl k := by
  cases r with
  | ok a st => exact hf a st h
  | ex x st => cases h
  | no => cases h
theorem eqT_bl {T : Tb} {l m : As} (env : Env) (st : Store) (d : D) (st' : Store) (h : ev T (.eqT l m) env st = .ok d st') : ∃ k, d = .bl k := by
  have h : ((evs T l env st).bind fun ds st => (if small ds.length then (evs T m env st).bind fun es st => if allEq st ds es && small es.length then .ok (.bl true) st else .no else .no : Res D)) = .ok d st' := h
  cases h1 : evs T l env st with
  | no => rw [h1] at h; cases h
  | ex e s => rw [h1] at h; cases h
  | ok ds s1 =>
    rw [h1, bind_ok] at h
    split at h
    · cases h2 : evs T m env s1 with
      | no => rw [h2] at h; cases h
      | ex e s => rw [h2] at h; cases h
      | ok es s2 =>
        rw [h2, bind_ok] at h
        split at h
        · cases h; exact ⟨_, rfl⟩
        · cases h
    · cases h
theorem cmp_bl {T : Tb} {op : CmpOp} {a b : A} (env : Env) (st : Store) (d : D) (st' : Store) (h : ev T (.cmp op a b) env st = .ok d st') : ∃ k, d = .bl k := by
  unfold ev at h
  exact bind_bl (fun x s1 h => bind_bl (fun y s2 h => of_map_bl h) h) h
theorem chn_bl {T : Tb} {op op2 : CmpOp} {a b c : A} (env : Env) (st : Store) (d : D) (st' : Store) (h : ev T (.chn op op2 a b c) env st = .ok d st') : ∃ k, d = .bl k := by
  unfold ev at h
  refine bind_bl (fun x s1 h => bind_bl (fun y s2 h => bind_bl (fun k s3 h => ?_) h) h) h
  split at h
  · exact bind_bl (fun z s4 h => of_map_bl h) h
  · cases h; exact ⟨_, rfl⟩
/-- a chain's two comparisons -/
theorem rd_chn {o1 o2 : CmpOp} {ma mb mc : Env → Store → Res D} {σ : L2.St} {H : Hp} {Q : VK}
    (h : rd C (rV C) (fun env st => (ma env st).bind fun x st => (mb env st).bind fun y st => (Res.of (cmpD o1 (drf st x) (drf st y)) st).bind fun k st =>
      if k then (mc env st).bind fun z st => .of ((cmpD o2 (drf st y) (drf st z)).map .bl) st else .ok (.bl false) st) σ H Q) :
    tChain (r2 C (RB C) (RB C) fun x y st => .of ((cmpD o1 (drf st x) (drf st y)).map .bl) st) (r2 C (RB C) (RB C) fun x y st => .of ((cmpD o2 (drf st x) (drf st y)).map .bl) st) (rd C (rV C) ma) (rd C (rV C) mb) (rd C (rV C) mc) σ H Q := by
  obtain ⟨g, env, st, rep, go⟩ := h
  refine ⟨g, env, st, rep, (Go.bind (R := rV C σ env) go).imp fun x H1 ⟨dx, st1, g1, e1, rep1, v1, go1⟩ => ?_⟩
  refine ⟨g1, env, st1, rep1, (Go.bind (R := rV C σ env) go1).imp fun y H2 ⟨dy, st2, g2, e2, rep2, v2, go2⟩ => ?_⟩
  obtain ⟨k, hk, go3⟩ := go2.ofB
  refine ⟨g2, σ, env, st2, dx, dy, rep2, .inl (RV.ext e2 v1), .inl v2, ?_⟩
  show Go C σ env (rV C σ env) g2 H2 (Res.of ((cmpD o1 (drf st2 dx) (drf st2 dy)).map .bl) st2) _
  rw [hk]
  intro g3 H3 z e3 rep3 v3
  cases v3
  refine ⟨k, rfl, ?_⟩
  cases k with
  | true =>
    have go4 : Go C σ env (rV C σ env) g2 H2 ((mc env st2).bind fun z st => .of ((cmpD o2 (drf st dy) (drf st z)).map .bl) st) Q := go3
    refine ⟨g3, env, st2, rep3, (Go.bind (R := rV C σ env) (go4.mono e3)).imp fun z H4 ⟨dz, st4, g4, e4, rep4, v4, go5⟩ => ?_⟩
    exact ⟨g4, σ, env, st4, dy, dz, rep4, .inl (RV.ext (e3.trans e4) v2), .inl v4, go5⟩
  | false =>
    have go4 : Go C σ env (rV C σ env) g2 H2 (.ok (.bl false) st2) Q := go3
    exact go4 g3 H3 _ e3 rep3 (.bl false)
/-- a choice by a test -/
theorem rd_ite {mc ma mb : Env → Store → Res D} {σ : L2.St} {H : Hp} {Q : VK} (h : rd C (rV C) (fun env st => (mc env st).bind fun x st => (Res.of (truD st x) st).bind fun k st => if k then ma env st else mb env st) σ H Q) :
    tIf (rd C rI fun env st => (mc env st).bind fun d st => .of (truD st d) st) (rd C (rV C) ma) (rd C (rV C) mb) σ H Q := by
  obtain ⟨g, env, st, rep, go⟩ := h
  have go : Go C σ env (rV C σ env) g H (((mc env st).bind fun d st => .of (truD st d) st).bind fun k st => if k then ma env st else mb env st) Q := by
    cases he : mc env st with
    | ok d st' => simp only [he, bind_ok] at go ⊢; exact go
    | ex x st' => simp only [he, bind_ex] at go ⊢; exact go
    | no => simp only [he, bind_no] at go ⊢; exact go
  refine ⟨g, env, st, rep, (Go.bind (R := rI σ env) go).imp fun k H1 ⟨k', st1, g1, e1, rep1, v1, go1⟩ => ?_⟩
  have v1 : k = k' := v1
  subst v1
  cases k with
  | true =>
    show rd C (rV C) ma σ H1 Q
    exact ⟨g1, env, st1, rep1, go1⟩
  | false =>
    show rd C (rV C) mb σ H1 Q
    exact ⟨g1, env, st1, rep1, go1⟩
/-- and, from the left -/
theorem rd_and {ma mr : Env → Store → Res D} {σ : L2.St} {H : Hp} {Q : VK} (h : rd C (rV C) (fun env st => (ma env st).bind fun x st => match x with
      | .bl k => if k then mr env st else .ok (.bl false) st
      | _ => .no) σ H Q) : tAndV (rd C (rV C) ma) (rd C (rV C) mr) σ H Q := by
  obtain ⟨g, env, st, rep, go⟩ := h
  refine ⟨g, env, st, rep, (Go.bind (R := rV C σ env) go).imp fun x H1 ⟨d, st1, g1, e1, rep1, v1, go1⟩ => ?_⟩
  cases d with
  | bl k =>
    cases (show RV C.K g1 H1 x (.bl k) from v1)
    refine ⟨k, rfl, ?_⟩
    cases k with
    | true =>
      show rd C (rV C) mr σ H1 Q
      exact ⟨g1, env, st1, rep1, go1⟩
    | false => exact Go.end_ (show Go C σ env (rV C σ env) g1 H1 (.ok (.bl false) st1) Q from go1) rep1 (.bl false)
  | _ => exact go1.elim
theorem rd_or {ma mr : Env → Store → Res D} {σ : L2.St} {H : Hp} {Q : VK} (h : rd C (rV C) (fun env st => (ma env st).bind fun x st => match x with
      | .bl k => if k then .ok (.bl true) st else mr env st
      | _ => .no) σ H Q) : tOrV (rd C (rV C) ma) (rd C (rV C) mr) σ H Q := by
  obtain ⟨g, env, st, rep, go⟩ := h
  refine ⟨g, env, st, rep, (Go.bind (R := rV C σ env) go).imp fun x H1 ⟨d, st1, g1, e1, rep1, v1, go1⟩ => ?_⟩
  cases d with
  | bl k =>
    cases (show RV C.K g1 H1 x (.bl k) from v1)
    refine ⟨k, rfl, ?_⟩
    cases k with
    | false =>
      show rd C (rV C) mr σ H1 Q
      exact ⟨g1, env, st1, rep1, go1⟩
    | true => exact Go.end_ (show Go C σ env (rV C σ env) g1 H1 (.ok (.bl true) st1) Q from go1) rep1 (.bl true)
  | _ => exact go1.elim
/-- .. as tests -/
abbrev mT (T : Tb) (a : A) : Env → Store → Res Bool := fun env st => (evB a env st (ev T a env st)).bind fun d st => .of (truD st d) st
theorem rd_mT {m : Env → Store → Res D} {a : A} (hm : ∀ env st, m env st = ev T a env st) {σ : L2.St} {H : Hp} {Q : Bool → Hp → Prop} (h : rd C rI (fun env st => (m env st).bind fun d st => .of (truD st d) st) σ H Q) : rd C rI (mT T a) σ H Q := by
  obtain ⟨g, env, st, rep, go⟩ := h
  refine ⟨g, env, st, rep, ?_⟩
  have go : Go C σ env (rI σ env) g H ((m env st).bind fun d st => .of (truD st d) st) Q := go
  rw [hm] at go
  show Go C σ env (rI σ env) g H ((evB a env st (ev T a env st)).bind fun d st => .of (truD st d) st) Q
  cases he : ev T a env st with
  | ok d st' => rw [he] at go; rw [← he, evB_ok he]; exact go
  | ex x st' => rw [he] at go; rw [← he, evB_ex he]; exact go
  | no => rw [he] at go; exact go.elim
theorem rd_andT {a : A} {mr : Env → Store → Res D} {σ : L2.St} {H : Hp} {Q : Bool → Hp → Prop} (h : rd C rI (fun env st => ((ev T a env st).bind fun x st => match x with
      | .bl k => if k then mr env st else .ok (.bl false) st
      | _ => .no).bind fun d st => .of (truD st d) st) σ H Q) : tAnd (rd C rI (mT T a)) (rd C rI fun env st => (mr env st).bind fun d st => .of (truD st d) st) σ H Q := by
  obtain ⟨g, env, st, rep, go⟩ := h
  refine ⟨g, env, st, rep, ?_⟩
  show Go C σ env (rI σ env) g H ((evB a env st (ev T a env st)).bind fun d st => .of (truD st d) st) _
  cases he : ev T a env st with
  | no => simp only [he, bind_no] at go; exact go.elim
  | ex x st' =>
    simp only [he, bind_ex] at go
    rw [← he, evB_ex he]
    exact go
  | ok d st' =>
    simp only [he, bind_ok] at go
    rw [← he, evB_ok he]
    cases d <;> try exact go.elim
    rename_i k
    show Go C σ env (rI σ env) g H (.ok k st') _
    intro g' H' b ex rp rb
    have rb : b = k := rb
    subst rb
    cases b with
    | true =>
      show rd C rI _ σ H' Q
      exact ⟨g', env, st', rp, Go.mono go ex⟩
    | false =>
      show Q false H'
      exact Go.end_ (Go.mono (show Go C σ env (rI σ env) g H (.ok false st') Q from go) ex) rp rfl
theorem rd_orT {a : A} {mr : Env → Store → Res D} {σ : L2.St} {H : Hp} {Q : Bool → Hp → Prop} (h : rd C rI (fun env st => ((ev T a env st).bind fun x st => match x with
      | .bl k => if k then .ok (.bl true) st else mr env st
      | _ => .no).bind fun d st => .of (truD st d) st) σ H Q) : tOr (rd C rI (mT T a)) (rd C rI fun env st => (mr env st).bind fun d st => .of (truD st d) st) σ H Q := by
  obtain ⟨g, env, st, rep, go⟩ := h
  refine ⟨g, env, st, rep, ?_⟩
  show Go C σ env (rI σ env) g H ((evB a env st (ev T a env st)).bind fun d st => .of (truD st d) st) _
  cases he : ev T a env st with
  | no => simp only [he, bind_no] at go; exact go.elim
  | ex x st' =>
    simp only [he, bind_ex] at go
    rw [← he, evB_ex he]
    exact go
  | ok d st' =>
    simp only [he, bind_ok] at go
    rw [← he, evB_ok he]
    cases d <;> try exact go.elim
    rename_i k
    show Go C σ env (rI σ env) g H (.ok k st') _
    intro g' H' b ex rp rb
    have rb : b = k := rb
    subst rb
    cases b with
    | false =>
      show rd C rI _ σ H' Q
      exact ⟨g', env, st', rp, Go.mono go ex⟩
    | true =>
      show Q true H'
      exact Go.end_ (Go.mono (show Go C σ env (rI σ env) g H (.ok true st') Q from go) ex) rp rfl
/-- arguments -/
theorem pa_D {R : Rl V D} {Rs : Rl (List V) (List D)} {e : Expr} {es : List Expr} {m : Env → Store → Res D} {ms : Env → Store → Res (List D)} (st1 : Stb R) (hc : ∀ σ env g H v d vs ds, R σ env g H v d → Rs σ env g H vs ds → Rs σ env g H (v :: vs) (d :: ds))
    (ho : opB e = true) (ha : PE X e (rd C R m)) (hr : PA X es (rd C Rs ms)) : PA X (e :: es) (rd C Rs fun env st => (m env st).bind fun d st => (ms env st).bind fun ds st => .ok (d :: ds) st) := by
  refine (pa_cons ha hr (star_of ho _ _)).of fun σ H Q q => ?_
  obtain ⟨g, env, st, rep, go⟩ := q
  refine ⟨g, env, st, rep, (Go.bind (R := R σ env) go).imp fun x H1 ⟨d, st1', g1, e1, rep1, v1, go1⟩ => ?_⟩
  refine ⟨g1, env, st1', rep1, (Go.bind (R := Rs σ env) go1).imp fun xs H2 ⟨ds, st2, g2, e2, rep2, v2, go2⟩ => ?_⟩
  exact go2.end_ rep2 (hc _ _ _ _ _ _ _ _ (st1 _ _ _ _ _ _ _ _ e2 v1) v2)
theorem pa_D0 {Rs : Rl (List V) (List D)} (h0 : ∀ σ env g H, Rs σ env g H [] []) : PA X [] (rd C Rs fun _ st => .ok [] st) := by
  refine pa_nil.of fun σ H Q q => ?_
  obtain ⟨g, env, st, rep, go⟩ := q
  exact Go.end_ (show Go C σ env (Rs σ env) g H (.ok [] st) Q from go) rep (h0 _ _ _ _)
end
end L3
end

section
set_option Elab.async false
set_option linter.all false
set_option maxRecDepth 100000
set_option maxHeartbeats 4000000
/-! L3h: comprehensions, and all expressions. -/
namespace L3
open PySem PySem.Spec PyProof.Rows L2

section
variable {C : Ct} {g g' : G} {σ : L2.St} {H H' : Hp} {env : Env} {st st' : Store}
/-- an object of the store changes -/
theorem Rep.setSt {n : Nat} {p : Addr} {o o' : DO} {ho : HO} (rep : Rep C g σ H env st) (h : st[n]? = some o) (hp : g.ρ n = some p) (ro : RO C.K C.cls g (upd H p ho) p o') :
    Rep C g σ (upd H p ho) env (st.set n o') ∧ Ext g H g (upd H p ho) := by
  have h3 : ¬ g.F p := rep.sto.nf n p hp
  have ex : Ext g H g (upd H p ho) := Ext.prv h3
  refine ⟨⟨rep.len, fun j d' hj => ?_, fun j u hj => ?_, rep.inj, ⟨fun m u hm => ?_, fun m a hm => by rw [List.length_set]; exact rep.sto.lt m a hm, rep.sto.inj, rep.sto.nf⟩, fun a f => ?_, ⟨rep.fr.F, rep.fr.Fn, rep.fr.ρ, rep.fr.ρn, fun a u ha hn => ?_⟩, fun q hq => ?_, rep.prd⟩, ex⟩
  · obtain ⟨w, a, b⟩ := rep.val j d' hj
    exact ⟨w, a, b.ext ex⟩
  · obtain ⟨a, z1, z2, z3, z4, z5⟩ := rep.own j u hj
    have ne : a ≠ p := fun q => z4 n (by rw [q]; exact hp)
    exact ⟨a, z1, z2.ext ex (fun w hw => by rw [upd_ne ne]; exact hw), z3, z4, z5⟩
  · rcases set_get hm with ⟨e, hl, h1⟩ | ⟨e, hm⟩
    · subst e h1
      exact ⟨p, hp, ro⟩
    · obtain ⟨a, z1, z2⟩ := rep.sto.obj m u hm
      have ne : a ≠ p := fun q => e (rep.sto.inj n m p hp (by rw [← q]; exact z1))
      exact ⟨a, z1, z2.ext ex fun w hw => by rw [upd_ne ne]; exact hw⟩
  · obtain ⟨w, hw⟩ := rep.fz a f
    exact ⟨w, by rw [upd_ne (ne_F h3 f)]; exact hw⟩
  · have h' := rep.fr.keep a u ha hn
    by_cases e : a = p
    · rw [e] at ha hn
      rcases rep.fr.ρn n p hp with z | z
      · exact (hn n z).elim
      · rw [z] at ha; cases ha
    · rw [upd_ne e]; exact h'
  · obtain ⟨z1, z2, z3, z4⟩ := rep.prv q hq
    have ne : q.1 ≠ p := fun e => z3 n (by rw [e]; exact hp)
    exact ⟨by rw [upd_ne ne]; exact z1, z2, z3, z4⟩
theorem ref_lst {g : G} {H : Hp} {σ : L2.St} {env : Env} {st : Store} {n : Nat} {p : Addr} {l : List D} (rep : Rep C g σ H env st) (h : st[n]? = some (.lst l)) (hp : g.ρ n = some p) : ∃ vs, H p = some (.lst vs) ∧ RVs C.K g H vs l := by
  obtain ⟨a, z1, z2⟩ := rep.sto.obj n _ h
  rw [hp] at z1
  cases z1
  exact z2
end
theorem wipe_get : ∀ {vs : List Nat} {σ : L2.St} {i : Nat}, (i ∉ vs → (L2.wipe σ vs)[i]? = σ[i]?) ∧ (i ∈ vs → i < σ.length → (L2.wipe σ vs)[i]? = some none)
  | [], σ, i => ⟨fun _ => rfl, fun h => by cases h⟩
  | v :: vs, σ, i => by
    obtain ⟨i1, i2⟩ := @wipe_get vs σ i
    have hl := wipe_length σ vs
    refine ⟨fun h => ?_, fun h hi => ?_⟩
    · simp only [List.mem_cons, not_or] at h
      unfold L2.wipe
      rw [List.getElem?_set_ne (fun e => h.1 e.symm)]
      exact i1 h.2
    · unfold L2.wipe
      by_cases e : v = i
      · subst e
        rw [List.getElem?_set_self (by rw [hl]; exact hi)]
      · rw [List.getElem?_set_ne e]
        rcases List.mem_cons.mp h with z | z
        · exact (e z.symm).elim
        · exact i2 z hi
theorem wipe_same {vs l : List Nat} {σ σ2 : L2.St} (h : But l (L2.wipe σ vs) σ2) (hs : ∀ i ∈ l, i ∈ vs) : L2.wipe σ2 vs = L2.wipe σ vs := by
  have hl : σ2.length = σ.length := by rw [h.1, wipe_length]
  refine List.ext_getElem? fun i => ?_
  by_cases hi : i ∈ vs
  · by_cases hb : i < σ.length
    · rw [(wipe_get (σ := σ2)).2 hi (by omega), (wipe_get (σ := σ)).2 hi hb]
    · rw [List.getElem?_eq_none (by rw [wipe_length]; omega), List.getElem?_eq_none (by rw [wipe_length]; omega)]
  · rw [(wipe_get (σ := σ2)).1 hi, h.2 i (fun z => hi (hs i z))]
theorem wipeE_get : ∀ {vs : List Nat} {env : Env} {i : Nat}, (i ∉ vs → (wipeE env vs)[i]? = env[i]?)
  | [], env, i => fun _ => rfl
  | v :: vs, env, i => fun h => by
    simp only [List.mem_cons, not_or] at h
    unfold wipeE
    rw [List.getElem?_set_ne (fun e => h.1 e.symm)]
    exact wipeE_get h.2
mutual
theorem bindP_but : ∀ {p : Pat} {d : D} {env env' : Env}, bindP p d env = some env' → ∀ i, i ∉ slotsP p → env'[i]? = env[i]?
  | .nm j, d, env, env', h, i, hi => by
    unfold bindP at h
    cases h
    rw [List.getElem?_set_ne]
    intro e
    exact hi (by rw [e]; exact List.mem_cons_self)
  | .tp l, d, env, env', h, i, hi => by
    unfold bindP at h
    split at h
    · exact bindPs_but h i hi
    · cases h
theorem bindPs_but : ∀ {p : Pats} {d : List D} {env env' : Env}, bindPs p d env = some env' → ∀ i, i ∉ slotsPs p → env'[i]? = env[i]?
  | .nil, d, env, env', h, i, hi => by
    unfold bindPs at h
    split at h
    · cases h; rfl
    · cases h
  | .cons p l, d, env, env', h, i, hi => by
    unfold bindPs at h
    split at h
    · cases h
    · split at h
      · rename_i e1 he
        unfold slotsPs at hi
        simp only [List.mem_append, not_or] at hi
        rw [bindPs_but h i hi.2, bindP_but he i hi.1]
      · cases h
end
section
variable {C : Ct} {X : Cx} {T : Tb} {S : Sig} {sc : Scope} {α β γ δ : Type}
theorem nox_case {σ : L2.St} {env : Env} {R : G → Hp → β → α → Prop} {g : G} {H : Hp} {r : Res γ} {f : γ → Store → Res α} {Q : β → Hp → Prop} (h : Go C σ env R g H (r.nox.bind f) Q) : ∃ k st', r = .ok k st' ∧ Go C σ env R g H (f k st') Q := by
  cases r with
  | ok k st' => exact ⟨k, st', rfl, h⟩
  | ex x st' => exact h.elim
  | no => exact h.elim
/-- the block's slots given back -/
theorem Rep.back {pr : List (Addr × HO)} {g g2 : G} {σ σ2 : L2.St} {H H2 : Hp} {env env2 : Env} {st st2 : Store} {own : List Nat} (rep : Rep (C.pr' pr) g σ H env st) (rep2 : Rep (C.blk pr) g2 σ2 H2 env2 st2) (ex : Ext g H g2 H2)
    (hf : own.any (fun i => (ownAt env i).isSome) = false) (he : ∀ i, i ∉ own → env2[i]? = env[i]?) (hs : ∀ i, i ∉ own → σ2[i]? = σ[i]?) : Rep (C.pr' pr) g2 σ H2 env st2 where
  len := rep.len
  val := fun i d h => let ⟨v, a, b⟩ := rep.val i d h; ⟨v, a, b.ext ex⟩
  own := fun i o h => by
    have hi : i ∉ own := fun z => by
      have q := List.any_eq_false.mp hf i z
      exact q (by simp [ownAt, h])
    obtain ⟨a, h1, h2⟩ := rep2.own i o (by rw [he i hi]; exact h)
    rw [hs i hi] at h1
    exact ⟨a, h1, h2⟩
  inj := rep.inj
  sto := rep2.sto
  fz := rep2.fz
  fr := rep2.fr
  prv := rep2.prv
  prd := rep2.prd
def compF (T : Tb) (own : List Nat) (p : Pat) (c : Ao) (e : A) (env : Env) : D → List D → Store → Res (List D) := fun x acc st => (Res.of (bindP p x (wipeE env own)) st).bind fun env' st =>
        (evc T c env' st).nox.bind fun k st => if k then (ev T e env' st).nox.bind fun d st => if decide (acc.length < sizeLine) then .ok (acc ++ [d]) st else .no else .ok acc st
abbrev wiC (C : Ct) (T : Tb) (it : It) : TI := rd C (rIt C true (nmIt it)) fun env st => evi T true it env st
abbrev gC (C : Ct) (it : It) (p : Pat) : TG := fun v σ H Q => ∃ pr, gPat (C.blk pr) (nmIt it) p v σ H Q
abbrev ttC (C : Ct) (T : Tb) (c : Ao) : TT := fun σ H Q => ∃ pr, rd (C.blk pr) rI (fun env st => evc T c env st) σ H Q
abbrev teC (C : Ct) (T : Tb) (e : A) : TE := fun σ H Q => ∃ pr, rd (C.blk pr) (rV (C.blk pr)) (fun env st => ev T e env st) σ H Q
/-- a comprehension's turns, whatever is wanted of the new list -/
theorem comp_core {own : List Nat} {p : Pat} {it : It} {c : Ao} {e : A} {R' : L2.St → Env → G → Hp → V → γ → Prop} {fin : List D → Store → Res γ} {σ : L2.St} {env : Env} {st : Store} {g : G} {H : Hp} {Q : VK} (hsl : (slotsP p).all (fun i => decide (i ∈ own)) = true)
    (rep : Rep C g σ H env st) (go : Go C σ env (R' σ env) g H (if own.any (fun i => (ownAt env i).isSome) then .no else (evi T true it env st).bind fun xs st => (compGo (compF T own p c e env) xs [] st).bind fin) Q)
    (hfin : ∀ g2 H2 acc vacc st2 D, Rep (C.pr' ((D, .lst vacc) :: C.pr)) g2 σ H2 env st2 → RVs C.K g2 H2 vacc acc → Go C σ env (R' σ env) g2 H2 (fin acc st2) Q → Q (.ref D) H2) : tLc (wiC C T it) (gC C it p) (ttC C T c) (teC C T e) own σ H Q := by
  have hsl' : ∀ i ∈ slotsP p, i ∈ own := fun i hi => of_decide_eq_true (List.all_eq_true.mp hsl i hi)
  cases hf : own.any (fun i => (ownAt env i).isSome) with
  | true => rw [hf] at go; exact go.elim
  | false =>
    rw [hf] at go
    have go : Go C σ env (R' σ env) g H ((evi T true it env st).bind fun xs st => (compGo (compF T own p c e env) xs [] st).bind fin) Q := go
    refine ⟨g, env, st, rep, (Go.bind (R := rIt C true (nmIt it) σ env) go).imp fun J H1 ⟨xs, st1, g1, e1, rep1, ok, go1⟩ => fun D hD => ?_⟩
    have ok : ItOk C.K (nmIt it) (Prm C true σ env g1 H1) J xs := ok
    refine ⟨fun i m H => m = xs.length - i ∧ i ≤ xs.length ∧ ∃ g2 st2 acc vacc, Ext g1 H1 g2 H ∧ Rep (C.pr' ((D, .lst vacc) :: C.pr)) g2 σ H env st2 ∧ RVs C.K g2 H vacc acc ∧
      Go C σ env (R' σ env) g2 H ((compGo (compF T own p c e env) (xs.drop i) acc st2).bind fin) Q, ⟨xs.length, by simp, Nat.zero_le _, g1, st1, [], [], (Grow.lay hD).ext, rep1.prAdd hD, .nil, by rw [List.drop_zero]; exact go1.mono (Grow.lay hD).ext⟩, ?_⟩
    rintro i m H2 ⟨rfl, hi, g2, st2, acc, vacc, ex2, rep2, rv2, go2⟩
    have prm : Prm C true σ env g1 H1 g2 H2 := ⟨ex2, fun _ j o a h1 h2 => by
      obtain ⟨a', h3, h4, _⟩ := rep2.own j o h1
      rw [h2] at h3
      cases h3
      exact h4⟩
    by_cases hlt : i < xs.length
    · refine .inr ⟨ok.go i g2 H2 hlt prm, fun H' => (xs.length - (i + 1)) = xs.length - (i + 1) ∧ (i + 1) ≤ xs.length ∧ ∃ g2 st2 acc vacc, Ext g1 H1 g2 H' ∧ Rep (C.pr' ((D, .lst vacc) :: C.pr)) g2 σ H' env st2 ∧ RVs C.K g2 H' vacc acc ∧
        Go C σ env (R' σ env) g2 H' ((compGo (compF T own p c e env) (xs.drop (i + 1)) acc st2).bind fin) Q, fun H' w => ⟨xs.length - (i + 1), by omega, w⟩, fun x H3 y => ?_⟩
      obtain ⟨gr, ri⟩ := ok.yld i xs[i] g2 H2 x H3 (List.getElem?_eq_getElem hlt) prm y
      have rep3 := rep2.grow gr
      have go3 := go2.mono gr.ext
      rw [List.drop_eq_getElem_cons hlt] at go3
      have go3 : Go C σ env (R' σ env) g2 H3 (((compF T own p c e env xs[i] acc st2).bind fun acc' st' => compGo (compF T own p c e env) (xs.drop (i + 1)) acc' st').bind fin) Q := go3
      -- the target
      cases hbd : bindP p xs[i] (wipeE env own) with
      | none => simp only [compF, hbd, of_none, bind_no] at go3; exact go3.elim
      | some env' =>
        simp only [compF, hbd, of_some, bind_ok] at go3
        refine ⟨(D, .lst vacc) :: C.pr, g2, wipeE env own, st2, xs[i], env', (rep3.wipe own).blk, ri, hbd, fun σ2 rep4 but => ⟨wipe_same but hsl', ?_⟩⟩
        have hs2 : ∀ j, j ∉ own → σ2[j]? = σ[j]? := fun j hj => by rw [but.2 j (fun z => hj (hsl' j z)), wipe_get.1 hj]
        have he2 : ∀ j, j ∉ own → env'[j]? = env[j]? := fun j hj => by rw [bindP_but hbd j (fun z => hj (hsl' j z)), wipeE_get hj]
        -- the test
        obtain ⟨k, st4, ek, go4⟩ : ∃ k st', evc T c env' st2 = .ok k st' ∧ Go C σ env (R' σ env) g2 H3 ((((if k = true then (ev T e env' st').nox.bind fun d st => if decide (acc.length < sizeLine) = true then Res.ok (acc ++ [d]) st else Res.no else Res.ok acc st').bind fun acc' st' => compGo (compF T own p c e env) (xs.drop (i + 1)) acc' st').bind fin)) Q := by
          cases hr : evc T c env' st2 with
          | ok k st' => rw [hr] at go3; exact ⟨k, st', rfl, go3⟩
          | ex x st' => rw [hr] at go3; exact go3.elim
          | no => rw [hr] at go3; exact go3.elim
        refine ⟨(D, .lst vacc) :: C.pr, g2, env', st2, rep4, ?_⟩
        show Go _ _ _ _ _ _ (evc T c env' st2) _
        rw [ek]
        intro g5 H5 b ex5 rep5 hb5
        have hb5 : b = k := hb5
        subst hb5
        cases b with
        | true =>
          rw [if_pos rfl]
          rw [if_pos rfl] at go4
          obtain ⟨d, st6, ed, go5⟩ : ∃ d st', ev T e env' st4 = .ok d st' ∧ acc.length < sizeLine ∧ Go C σ env (R' σ env) g2 H3 ((compGo (compF T own p c e env) (xs.drop (i + 1)) (acc ++ [d]) st').bind fin) Q := by
            cases hr : ev T e env' st4 with
            | ok d st' =>
              rw [hr] at go4
              by_cases hz : acc.length < sizeLine
              · refine ⟨d, st', rfl, hz, ?_⟩
                simp only [nox_ok, bind_ok, decide_eq_true hz, if_true] at go4
                exact go4
              · simp only [nox_ok, bind_ok, decide_eq_false hz, Bool.false_eq_true, if_false, bind_no] at go4
                exact go4.elim
            | ex x st' => rw [hr] at go4; exact go4.elim
            | no => rw [hr] at go4; exact go4.elim
          obtain ⟨hz, go5⟩ := go5
          refine ⟨(D, .lst vacc) :: C.pr, g5, env', st4, rep5, ?_⟩
          show Go _ _ _ _ _ _ (ev T e env' st4) _
          rw [ed]
          intro g6 H6 y ex6 rep6 ry
          have rep7 := Rep.back (own := own) rep3 rep6 (ex5.trans ex6) hf he2 hs2
          obtain ⟨q1, q2, q3, q4⟩ := rep7.prv (D, .lst vacc) List.mem_cons_self
          have rv6 := rv2.ext ((gr.ext.trans ex5).trans ex6)
          have exD : Ext g6 H6 g6 (upd H6 D (.lst (vacc ++ [y]))) := Ext.prv q2
          refine ⟨vacc, q1, by rw [rv6.length]; exact hz, rfl, hlt, g6, st6, acc ++ [d], vacc ++ [y], (((ex2.trans gr.ext).trans ex5).trans ex6).trans exD, rep7.prSet, (rv6.snoc ry).ext exD, go5.mono ((ex5.trans ex6).trans exD)⟩
        | false =>
          rw [if_neg Bool.false_ne_true]
          rw [if_neg Bool.false_ne_true] at go4
          have rep7 := Rep.back (own := own) rep3 rep5 ex5 hf he2 hs2
          exact ⟨rfl, hlt, g5, st4, acc, vacc, (ex2.trans gr.ext).trans ex5, rep7, rv2.ext (gr.ext.trans ex5), go4.mono ex5⟩
    · have ei : i = xs.length := by omega
      subst ei
      refine .inl ⟨ok.stop g2 H2 prm, ?_⟩
      rw [List.drop_length] at go2
      exact hfin g2 H2 acc vacc st2 D rep2 rv2 go2
theorem comp_ok (Z : Good C T S sc X) {own : List Nat} {p : Pat} {it : It} {c : Ao} {e : A} {elt tg iter : Expr} {ifs : List Expr} {scope : Scope} {pos : Pos} (hb : blkC S.N sc scope (ownN S own) = true) (hsl : (slotsP p).all (fun i => decide (i ∈ own)) = true) (ho : opB iter = true)
    (hIt : PI X tg iter (rd C (rIt C true (nmIt it)) fun env st => evi T true it env st))
    (hg : ∀ (pr : List (Addr × HO)) (s : Shared) (H : Hp) (D : Addr) (cl : List (Str × Addr)) (fp : List Addr), PG (X.blk s H scope (compEnvC scope cl D X.env) fp) tg (gPat (C.blk pr) (nmIt it) p))
    (ht : ∀ (pr : List (Addr × HO)) (s : Shared) (H : Hp) (D : Addr) (cl : List (Str × Addr)) (fp : List Addr), PTs (X.blk s H scope (compEnvC scope cl D X.env) fp) ifs (rd (C.blk pr) rI fun env st => evc T c env st))
    (he : ∀ (pr : List (Addr × HO)) (s : Shared) (H : Hp) (D : Addr) (cl : List (Str × Addr)) (fp : List Addr), PE (X.blk s H scope (compEnvC scope cl D X.env) fp) elt (rd (C.blk pr) (rV (C.blk pr)) fun env st => ev T e env st)) :
    PE X (.ListComp elt [⟨tg, iter, ifs, 0⟩] scope pos) (rd C (rV C) fun env st => ev T (.comp own p it c e) env st) := by
  have hown : (ownN S own).map (·.2) = own := by
    unfold ownN
    rw [List.map_map]
    exact List.map_id' own
  have main := pe_lc (own := ownN S own) (pos := pos) (wi := wiC C T it) (g := gC C it p)
    (tt := ttC C T c) (te := teC C T e) Z.calm (by rw [Z.hN]; exact Z.nd) hIt
    (blkOk_by (by rw [Z.hN, Z.scp]; exact hb)) (fun s H D cl fp => ⟨fun pins s' σ H' v u Q I r ⟨pr, q⟩ => (hg pr s H D cl fp).run pins s' σ H' v u Q I r q⟩)
    (fun s H D cl fp => ⟨fun pins s' σ H' Q I ⟨pr, q⟩ => (ht pr s H D cl fp).run pins s' σ H' Q I q⟩) (fun s H D cl fp => ⟨fun pins s' σ H' Q I ⟨pr, q⟩ => (he pr s H D cl fp).run pins s' σ H' Q I q⟩) (fold_of ho _)
  refine main.of fun σ H Q q => ?_
  obtain ⟨g, env, st, rep, go⟩ := q
  rw [hown]
  refine comp_core (R' := rV C) (fin := fun ds st => .ok (.lst ds) st) hsl rep go fun g2 H2 acc vacc st2 D rep2 rv2 go2 => ?_
  obtain ⟨q1, q2, q3, q4⟩ := rep2.prv (D, .lst vacc) List.mem_cons_self
  exact go2 (g2.add D) H2 _ Ext.add rep2.prFreeze (.lst (.inl ⟨.inr rfl, .inl q1⟩) (rv2.ext Ext.add))
end

section
variable {C : Ct} {X : Cx} {T : Tb} {S : Sig} {sc : Scope} {α β γ δ : Type}
/-! ### a dict's comprehension -/
def compFd (T : Tb) (own : List Nat) (p : Pat) (c : Ao) (k v : A) (env : Env) : D → List (D × D) → Store → Res (List (D × D)) := fun x acc st => (Res.of (bindP p x (wipeE env own)) st).bind fun env' st =>
        (evc T c env' st).nox.bind fun b st => if b then (ev T k env' st).nox.bind fun y st => (ev T v env' st).nox.bind fun z st => if isKey .k y && decide (acc.length < sizeLine) then .ok (putD acc y z) st else .no else .ok acc st
theorem dcomp_core {own : List Nat} {p : Pat} {it : It} {c : Ao} {k v : A} {R' : L2.St → Env → G → Hp → V → γ → Prop} {fin : List (D × D) → Store → Res γ} {σ : L2.St} {env : Env} {st : Store} {g : G} {H : Hp} {Q : VK} (hsl : (slotsP p).all (fun i => decide (i ∈ own)) = true)
    (rep : Rep C g σ H env st) (go : Go C σ env (R' σ env) g H (if own.any (fun i => (ownAt env i).isSome) then .no else (evi T true it env st).bind fun xs st => (compGo (compFd T own p c k v env) xs [] st).bind fin) Q)
    (hfin : ∀ g2 H2 acc vacc st2 D, Rep (C.pr' ((D, .dK vacc) :: C.pr)) g2 σ H2 env st2 → RKs C.K g2 H2 vacc acc → Go C σ env (R' σ env) g2 H2 (fin acc st2) Q → Q (.ref D) H2) :
    tDc (wiC C T it) (gC C it p) (ttC C T c) (teC C T k) (teC C T v) own σ H Q := by
  have hsl' : ∀ i ∈ slotsP p, i ∈ own := fun i hi => of_decide_eq_true (List.all_eq_true.mp hsl i hi)
  cases hf : own.any (fun i => (ownAt env i).isSome) with
  | true => rw [hf] at go; exact go.elim
  | false =>
    rw [hf] at go
    have go : Go C σ env (R' σ env) g H ((evi T true it env st).bind fun xs st => (compGo (compFd T own p c k v env) xs [] st).bind fin) Q := go
    refine ⟨g, env, st, rep, (Go.bind (R := rIt C true (nmIt it) σ env) go).imp fun J H1 ⟨xs, st1, g1, e1, rep1, ok, go1⟩ => fun D hD => ?_⟩
    have ok : ItOk C.K (nmIt it) (Prm C true σ env g1 H1) J xs := ok
    refine ⟨fun i m H => m = xs.length - i ∧ i ≤ xs.length ∧ ∃ g2 st2 acc vacc, Ext g1 H1 g2 H ∧ Rep (C.pr' ((D, .dK vacc) :: C.pr)) g2 σ H env st2 ∧ RKs C.K g2 H vacc acc ∧
      Go C σ env (R' σ env) g2 H ((compGo (compFd T own p c k v env) (xs.drop i) acc st2).bind fin) Q, ⟨xs.length, by simp, Nat.zero_le _, g1, st1, [], [], (Grow.lay hD).ext, rep1.prAdd hD, .nil, by rw [List.drop_zero]; exact go1.mono (Grow.lay hD).ext⟩, ?_⟩
    rintro i m H2 ⟨rfl, hi, g2, st2, acc, vacc, ex2, rep2, rv2, go2⟩
    have prm : Prm C true σ env g1 H1 g2 H2 := ⟨ex2, fun _ j o a h1 h2 => by
      obtain ⟨a', h3, h4, _⟩ := rep2.own j o h1
      rw [h2] at h3
      cases h3
      exact h4⟩
    by_cases hlt : i < xs.length
    · refine .inr ⟨ok.go i g2 H2 hlt prm, fun H' => i + 1 ≤ xs.length ∧ ∃ g2 st2 acc vacc, Ext g1 H1 g2 H' ∧ Rep (C.pr' ((D, .dK vacc) :: C.pr)) g2 σ H' env st2 ∧ RKs C.K g2 H' vacc acc ∧
        Go C σ env (R' σ env) g2 H' ((compGo (compFd T own p c k v env) (xs.drop (i + 1)) acc st2).bind fin) Q, fun H' w => ⟨xs.length - (i + 1), by omega, rfl, w⟩, fun x H3 y => ?_⟩
      obtain ⟨gr, ri⟩ := ok.yld i xs[i] g2 H2 x H3 (List.getElem?_eq_getElem hlt) prm y
      have rep3 := rep2.grow gr
      have go3 := go2.mono gr.ext
      rw [List.drop_eq_getElem_cons hlt] at go3
      have go3 : Go C σ env (R' σ env) g2 H3 (((compFd T own p c k v env xs[i] acc st2).bind fun acc' st' => compGo (compFd T own p c k v env) (xs.drop (i + 1)) acc' st').bind fin) Q := go3
      cases hbd : bindP p xs[i] (wipeE env own) with
      | none => simp only [compFd, hbd, of_none, bind_no] at go3; exact go3.elim
      | some env' =>
        simp only [compFd, hbd, of_some, bind_ok] at go3
        refine ⟨(D, .dK vacc) :: C.pr, g2, wipeE env own, st2, xs[i], env', (rep3.wipe own).blk, ri, hbd, fun σ2 rep4 but => ⟨wipe_same but hsl', ?_⟩⟩
        have hs2 : ∀ j, j ∉ own → σ2[j]? = σ[j]? := fun j hj => by rw [but.2 j (fun z => hj (hsl' j z)), wipe_get.1 hj]
        have he2 : ∀ j, j ∉ own → env'[j]? = env[j]? := fun j hj => by rw [bindP_but hbd j (fun z => hj (hsl' j z)), wipeE_get hj]
        obtain ⟨b, st4, ek, go4⟩ : ∃ b st', evc T c env' st2 = .ok b st' ∧ Go C σ env (R' σ env) g2 H3 ((((if b = true then (ev T k env' st').nox.bind fun y st => (ev T v env' st).nox.bind fun z st => if isKey .k y && decide (acc.length < sizeLine) then Res.ok (putD acc y z) st else Res.no else Res.ok acc st').bind fun acc' st' => compGo (compFd T own p c k v env) (xs.drop (i + 1)) acc' st').bind fin)) Q := by
          cases hr : evc T c env' st2 with
          | ok b st' => rw [hr] at go3; exact ⟨b, st', rfl, go3⟩
          | ex x st' => rw [hr] at go3; exact go3.elim
          | no => rw [hr] at go3; exact go3.elim
        refine ⟨(D, .dK vacc) :: C.pr, g2, env', st2, rep4, ?_⟩
        show Go _ _ _ _ _ _ (evc T c env' st2) _
        rw [ek]
        intro g5 H5 bb ex5 rep5 hb5
        have hb5 : bb = b := hb5
        subst hb5
        cases bb with
        | true =>
          rw [if_pos rfl]
          rw [if_pos rfl] at go4
          obtain ⟨y, st5, ey, go5⟩ : ∃ y st', ev T k env' st4 = .ok y st' ∧ Go C σ env (R' σ env) g2 H3 ((((ev T v env' st').nox.bind fun z st => if isKey .k y && decide (acc.length < sizeLine) then Res.ok (putD acc y z) st else Res.no).bind fun acc' st' => compGo (compFd T own p c k v env) (xs.drop (i + 1)) acc' st').bind fin) Q := by
            cases hr : ev T k env' st4 with
            | ok y st' => rw [hr] at go4; exact ⟨y, st', rfl, go4⟩
            | ex x st' => rw [hr] at go4; exact go4.elim
            | no => rw [hr] at go4; exact go4.elim
          obtain ⟨z, st6, ez, hk, hz, go6⟩ : ∃ z st', ev T v env' st5 = .ok z st' ∧ isKey .k y = true ∧ acc.length < sizeLine ∧ Go C σ env (R' σ env) g2 H3 ((compGo (compFd T own p c k v env) (xs.drop (i + 1)) (putD acc y z) st').bind fin) Q := by
            cases hr : ev T v env' st5 with
            | ok z st' =>
              rw [hr] at go5
              by_cases hq : (isKey .k y && decide (acc.length < sizeLine)) = true
              · have hq' := hq
                simp only [Bool.and_eq_true, decide_eq_true_eq] at hq'
                refine ⟨z, st', rfl, hq'.1, hq'.2, ?_⟩
                simp only [nox_ok, bind_ok] at go5
                rw [if_pos hq] at go5
                exact go5
              · simp only [nox_ok, bind_ok] at go5
                rw [if_neg hq] at go5
                exact go5.elim
            | ex x st' => rw [hr] at go5; exact go5.elim
            | no => rw [hr] at go5; exact go5.elim
          refine ⟨(D, .dK vacc) :: C.pr, g5, env', st4, rep5, ?_⟩
          show Go _ _ _ _ _ _ (ev T k env' st4) _
          rw [ey]
          intro g6 H6 vy ex6 rep6 ry
          refine ⟨(D, .dK vacc) :: C.pr, g6, env', st5, rep6, ?_⟩
          show Go _ _ _ _ _ _ (ev T v env' st5) _
          rw [ez]
          intro g7 H7 vz ex7 rep7 rz
          obtain ⟨key, hkey⟩ := Option.isSome_iff_exists.mp (show (toKey y).isSome = true from hk)
          obtain ⟨q0, q0'⟩ := keyD_of ry hkey
          have rep8 := Rep.back (own := own) rep3 rep7 ((ex5.trans ex6).trans ex7) hf he2 hs2
          obtain ⟨q1, q2, q3, q4⟩ := rep8.prv (D, .dK vacc) List.mem_cons_self
          have rv6 := rv2.ext (((gr.ext.trans ex5).trans ex6).trans ex7)
          have exD : Ext g7 H7 g7 (upd H7 D (.dK (putK vacc key vz))) := Ext.prv q2
          have new : RKs C.K g7 H7 (putK vacc key vz) (putD acc y z) := put_rks hkey rz rv6
          refine ⟨vacc, key, q0, q1, by rw [rv6.length]; exact hz, hlt, g7, st6, putD acc y z, putK vacc key vz, ((((ex2.trans gr.ext).trans ex5).trans ex6).trans ex7).trans exD, rep8.prSet, new.ext exD, go6.mono (((ex5.trans ex6).trans ex7).trans exD)⟩
        | false =>
          rw [if_neg Bool.false_ne_true]
          rw [if_neg Bool.false_ne_true] at go4
          have rep7 := Rep.back (own := own) rep3 rep5 ex5 hf he2 hs2
          exact ⟨hlt, g5, st4, acc, vacc, (ex2.trans gr.ext).trans ex5, rep7, rv2.ext (gr.ext.trans ex5), go4.mono ex5⟩
    · have ei : i = xs.length := by omega
      subst ei
      refine .inl ⟨ok.stop g2 H2 prm, ?_⟩
      rw [List.drop_length] at go2
      exact hfin g2 H2 acc vacc st2 D rep2 rv2 go2
theorem dcomp_ok (Z : Good C T S sc X) {own : List Nat} {p : Pat} {it : It} {c : Ao} {k v : A} {kx vx tg iter : Expr} {ifs : List Expr} {scope : Scope} {pos : Pos} (hb : blkC S.N sc scope (ownN S own) = true) (hsl : (slotsP p).all (fun i => decide (i ∈ own)) = true) (ho : opB iter = true)
    (hIt : PI X tg iter (rd C (rIt C true (nmIt it)) fun env st => evi T true it env st))
    (hg : ∀ (pr : List (Addr × HO)) (s : Shared) (H : Hp) (D : Addr) (cl : List (Str × Addr)) (fp : List Addr), PG (X.blk s H scope (compEnvC scope cl D X.env) fp) tg (gPat (C.blk pr) (nmIt it) p))
    (ht : ∀ (pr : List (Addr × HO)) (s : Shared) (H : Hp) (D : Addr) (cl : List (Str × Addr)) (fp : List Addr), PTs (X.blk s H scope (compEnvC scope cl D X.env) fp) ifs (rd (C.blk pr) rI fun env st => evc T c env st))
    (hk : ∀ (pr : List (Addr × HO)) (s : Shared) (H : Hp) (D : Addr) (cl : List (Str × Addr)) (fp : List Addr), PE (X.blk s H scope (compEnvC scope cl D X.env) fp) kx (rd (C.blk pr) (rV (C.blk pr)) fun env st => ev T k env st))
    (he : ∀ (pr : List (Addr × HO)) (s : Shared) (H : Hp) (D : Addr) (cl : List (Str × Addr)) (fp : List Addr), PE (X.blk s H scope (compEnvC scope cl D X.env) fp) vx (rd (C.blk pr) (rV (C.blk pr)) fun env st => ev T v env st)) :
    PE X (.DictComp kx vx [⟨tg, iter, ifs, 0⟩] scope pos) (rd C (rV C) fun env st => ev T (.dcomp own p it c k v) env st) := by
  have hown : (ownN S own).map (·.2) = own := by
    unfold ownN
    rw [List.map_map]
    exact List.map_id' own
  have main := pe_dc (own := ownN S own) (pos := pos) (wi := wiC C T it) (g := gC C it p)
    (tt := ttC C T c) (tk := teC C T k) (tv := teC C T v) Z.calm (by rw [Z.hN]; exact Z.nd) hIt
    (blkOk_by (by rw [Z.hN, Z.scp]; exact hb)) (fun s H D cl fp => ⟨fun pins s' σ H' v u Q I r ⟨pr, q⟩ => (hg pr s H D cl fp).run pins s' σ H' v u Q I r q⟩)
    (fun s H D cl fp => ⟨fun pins s' σ H' Q I ⟨pr, q⟩ => (ht pr s H D cl fp).run pins s' σ H' Q I q⟩) (fun s H D cl fp => ⟨fun pins s' σ H' Q I ⟨pr, q⟩ => (hk pr s H D cl fp).run pins s' σ H' Q I q⟩)
    (fun s H D cl fp => ⟨fun pins s' σ H' Q I ⟨pr, q⟩ => (he pr s H D cl fp).run pins s' σ H' Q I q⟩) (fold_of ho _)
  refine main.of fun σ H Q q => ?_
  obtain ⟨g, env, st, rep, go⟩ := q
  rw [hown]
  refine dcomp_core (R' := rV C) (fin := fun l st => .ok (.dct .k l) st) hsl rep go fun g2 H2 acc vacc st2 D rep2 rv2 go2 => ?_
  obtain ⟨q1, q2, q3, q4⟩ := rep2.prv (D, .dK vacc) List.mem_cons_self
  exact (show Go C σ env (rV C σ env) g2 H2 (.ok (.dct .k acc) st2) Q from go2) (g2.add D) H2 _ Ext.add rep2.prFreeze (.dk (.inr rfl) (.inl q1) (rv2.ext Ext.add))
end

section
variable {C : Ct} {X : Cx} {T : Tb} {S : Sig} {sc : Scope}
theorem Good.blk (Z : Good C T S sc X) (pr : List (Addr × HO)) (s : Shared) (H : Hp) (scope : Scope) (D : Addr) (cl : List (Str × Addr)) (fp : List Addr) : Good (C.blk pr) T S (relS scope sc) (X.blk s H scope (compEnvC scope cl D X.env) fp) where
  hN := Z.hN
  nd := Z.nd
  scp := by rw [← Z.scp]; rfl
  calm := Z.calm
  K := Z.K
  tk := fun u s' ⟨a, B, sI, pins, σ, H, cls, d, e, I, nb, up, sky, na, os, ag, w⟩ => False.elim w
  hu := Z.hu
  blt := Z.blt
  fn := Z.fn
  con := Z.con
  kc := Z.kc
  kd := Z.kd
  ca := Z.ca
  cm := Z.cm
  ck := Z.ck
  tv := Z.tv
  xs := Z.xs
  xm := Z.xm
  xi := Z.xi
  co := Z.co
theorem Good.slots (Z : Good C T S sc X) (s : Shared) (H : Hp) (scope : Scope) (D : Addr) (cl : List (Str × Addr)) (fp : List Addr) : Slots S scope (X.blk s H scope (compEnvC scope cl D X.env) fp) where
  hN := Z.hN
  nd := Z.nd
  loc := fun x h => lookup_relS_keep (sc := X.env.scope) (by decide) h
  cel := fun x h => ⟨lookup_relS_keep (sc := X.env.scope) (by decide) h, by show (scope.names.lookup x == some .cell) = true; rw [h]; rfl⟩
theorem Good.mg (Z : Good C T S sc X) {x : Str} (h : x ∈ bltNames) : X.mg x = none := Z.blt x h
theorem gl_of (Z : Good C T S sc X) {x : Str} (h : glbB sc x = true) : Gl X x ∧ (x == ("__debug__" : Str)) = false := by
  obtain ⟨h1, h2⟩ := glb_of h
  exact ⟨by rw [← Z.scp] at h1; exact h1, h2⟩
theorem boot_of {p : Prim} {nm : Str} {f : Value} (h : primId p = some (nm, f)) : bootBuiltins nm = some f ∧ nm ∈ bltNames ∧ nm ≠ "__name__" := by
  cases p <;> first | (cases h; done) | (cases h; exact ⟨by decide +kernel, by decide +kernel, by decide +kernel⟩)
/-- a built-in's call -/
theorem prim_call (Z : Good C T S sc X) {p : Prim} {x : Str} {px pos : Pos} {e0 : Expr} {es : List Expr} {ms : Env → Store → Res (List D)} {nm : Str} {f : Value} (hp : primId p = some (nm, f)) (hx : x = nm) (hg : glbB sc x = true) (ho : opB e0 = true) (hs : (starEach es X.env).any (·.1) = false)
    (ha : PA X (e0 :: es) (rd C (RBs C) ms)) : PE X (.Call (.Name x px) (e0 :: es) [] pos) (rd C (rV C) fun env st => (ms env st).bind fun ds st => .of (primD p (ds.map (drf st))) st) := by
  subst hx
  obtain ⟨g1, g2⟩ := gl_of Z hg
  obtain ⟨b1, b2, b3⟩ := boot_of hp
  have hr := prim_ok (C := C) Z.K Z.calm hp
  have hpl : (backTo pos (starEach es X.env)).any (·.1) = false := by rw [backTo_any]; exact hs
  have fin : PE X (.Call (.Name x px) (e0 :: es) [] pos) (tCB (rc C (primD p)) (rd C (RBs C) ms)) := by
    cases p <;> first | (cases hp; done) | (cases hp; first | exact pe_callB hr g1 (Z.mg b2) b1 ha b3 g2 (star_of ho _ _) hpl | exact pe_callTy hr g1 (Z.mg b2) b1 ha b3 g2 (star_of ho _ _) hpl)
  refine fin.of fun σ H Q q => ?_
  obtain ⟨g, env, st, rep, go⟩ := q
  refine ⟨g, env, st, rep, (Go.bind (R := RBs C σ env) go).imp fun xs H1 ⟨ds, st1, g1, e1, rep1, v1, go1⟩ => ?_⟩
  exact ⟨g1, σ, env, st1, ds, rep1, v1, go1⟩
theorem strs_sq {K : PySem.W.Frag} {g : G} {H : Hp} {x : V} {l : List D} {ss : List Str} (h : See K g H x (.lst l)) (e : strsOf l = some ss) : ∃ p, x = .ref p ∧ SqL K H p (ss.map V.str) := by
  obtain ⟨a, vs, rfl, hq, r⟩ := h
  have := strsOf_map r e
  subst this
  exact ⟨a, rfl, hq⟩
/-- of what built-in type a value is -/
def tyD (K : PySem.W.Frag) (T : String) : V → Hp → Prop
  | .str _, _ => T = "str"
  | .ref p, H => (T = "list" ∧ ∃ xs, SqL K H p xs) ∨ (T = "tuple" ∧ ∃ vs, XT K H p vs) ∨ (T = "dict" ∧ ((∃ kvs, Rd H p (.dK kvs)) ∨ ∃ kvs, Rd H p (.dT kvs)))
  | _, _ => False
/-- the object at p is of the built-in type T and has no dict of its own -/
def Bare (h : Heap) (p : Addr) (T : String) : Prop := ∃ o, h.get? p = some o ∧ o.cls = .type T ∧ o.dict = none
theorem tyD_ref {pins : List (Addr × Obj)} {σ : L2.St} {H : Hp} {s : Shared} {T : String} {p : Addr} (I : Inv X pins σ H s) (ty : tyD X.K T (.ref p) H) : Bare s.heap p T := by
  rcases ty with ⟨rfl, _, z⟩ | ⟨rfl, _, z⟩ | ⟨rfl, ⟨_, z⟩ | ⟨_, z⟩⟩
  · have ⟨_, _, ⟨o, _, at_, c, d, _⟩, _⟩ := I.list z
    exact ⟨o, at_, c, d⟩
  · have ⟨_, _, ⟨o, _, at_, c, d, _⟩, _⟩ := xt_at I z
    exact ⟨o, at_, c, d⟩
  · have ⟨_, _, _, _, o, _, _, at_, x, _⟩ := dk_rd I.hok z
    exact ⟨o, at_, x.1, x.2.1⟩
  · have ⟨_, _, _, _, o, _, _, at_, x, _⟩ := dt_rd I.hok z
    exact ⟨o, at_, x.1, x.2.1⟩
theorem tyD_is {pins : List (Addr × Obj)} {σ : L2.St} {H : Hp} {s : Shared} {T : String} {x : V} {v : Value} (I : Inv X pins σ H s) (r : RelV x v) (ty : tyD X.K T x H) : s.TypeIs v T ∧ ∀ a, v = .ref a → ∃ ob, s.heap.get? a = some ob ∧ ob.dict = none := by
  by_cases isR : ∃ p, x = .ref p
  · obtain ⟨p, e⟩ := isR
    subst e
    obtain ⟨o, at_, c, d⟩ := tyD_ref I ty
    have ev : v = Value.ref p := r
    subst ev
    exact ⟨⟨o, at_, c⟩, fun a e => by
      injection e with e
      subst e
      exact ⟨o, at_, d⟩⟩
  · cases x with
    | str z =>
      obtain ⟨t, e⟩ := r
      subst e
      have eT : T = "str" := ty
      subst eT
      exact ⟨typeIs_str s z t, fun a e => by cases e⟩
    | ref p => exact absurd ⟨p, rfl⟩ isR
    | _ => exact False.elim ty
def tBD (K : PySem.W.Frag) (T : String) (r : V → List V → Hp → VK → Prop) (to : TE) (t : TA) : TE := fun σ H Q => to σ H fun x H1 => tyD K T x H1 ∧ t σ H1 fun xs H2 => r x xs H2 Q
/-- a built-in type's method, and what its call does -/
structure BltM (X : Cx) (T : String) (name : Str) (id : String) (r : V → List V → Hp → VK → Prop) : Prop where
  pa : PlainAttrs T
  slot : Slot T name id
  desc : typeOf (.builtin id) = pure (.type "method_descriptor")
  does : MtR X id r
theorem few_plain {env : PySem.Env} {pos : Pos} {es : List Expr} (n : es.length < 20) (hs : (starEach es env).any (·.1) = false) :
    ((backTo pos (starEach es env)).all (fun x => !x.1) && (backToKw pos (keywordEach [] env)).all (fun x => x.1.isSome) && decide (es.length + ([] : List Keyword).length + (if ([] : List Keyword).isEmpty then 0 else 1) < 30)) = true := by
  have no : (backTo pos (starEach es env)).any (·.1) = false := (backTo_any pos _).trans hs
  have all : (backTo pos (starEach es env)).all (fun x => !x.1) = true := List.all_eq_true.mpr fun x hx => by simpa using List.any_eq_false.mp no x hx
  have sum : es.length + ([] : List Keyword).length + (if ([] : List Keyword).isEmpty then 0 else 1) < 30 := Nat.lt_of_lt_of_le n (by decide)
  rw [all, decide_eq_true sum]
  rfl
theorem pe_bmD {o e0 : Expr} {es : List Expr} {to : TE} {t : TA} {name : Str} {apos cpos : Pos} {T id : String} {r : V → List V → Hp → VK → Prop} (B : BltM X T name id r) (ho : PE X o to) (ha : PA X (e0 :: es) t)
    (hbase : attributeBase o name X.env (eval o X.env) = eval o X.env) (hl : (e0 :: es).length < 20) (hline : (apos.endLine == cpos.line) = true) (hs : (starEach (e0 :: es) X.env).any (·.1) = false) (hop : opB e0 = true) :
    PE X (.Call (.Attribute o name apos) (e0 :: es) [] cpos) (tBD X.K T r to t) where
  run pins s σ H Q I h := by
    have args : ∀ (x : V) (v : Value) (s1 : Shared) (H1 : Hp), Inv X pins σ H1 s1 → RelV x v → t σ H1 (fun xs H2 => r x xs H2 Q) → wpAny (model X.prog X.w) X.A (callWith cpos (.builtin id) [v] (backTo cpos (starEach (e0 :: es) X.env)) []) (EP X pins σ Q) X.xe s1 := fun x v s1 H1 J rx q => by
      have run := ha.run cpos pins s1 σ H1 _ J q
      rw [star_of hop] at run hs ⊢
      exact Calls.callWith_builtin ((backTo_any _ _).trans hs) (Calls.evalArgs_plain (thn run fun us s2 ⟨_, _, J2, r2, q2⟩ => B.does _ _ _ _ _ _ _ us Q J2 rx r2 q2))
    exact wpAny_Call_method_late hbase (few_plain hl hs) hline rfl (thn (ho.run pins s σ H _ I h) fun v s1 ⟨x, H1, J, rx, ty, q⟩ =>
      have ⟨is_, bare⟩ := tyD_is J rx ty
      ⟨T, id, B.pa, B.slot, B.desc, is_, bare, args x v s1 H1 J rx q⟩)
def rm (C : Ct) (m : Mth) : V → List V → Hp → VK → Prop := fun x xs H Q => ∃ g σ env st d ds, Rep C g σ H env st ∧ RB C σ env g H x d ∧ RBs C σ env g H xs ds ∧ Go C σ env (rV C σ env) g H (.of (mthD m (drf st d) (ds.map (drf st))) st) Q
def mT1 : Mth → String
  | .get2 => "dict"
  | .index => "list"
  | .tidx => "tuple"
  | _ => "str"
def mId : Mth → String
  | .join => "str.join"
  | .get2 => "dict.get"
  | .index => "list.index"
  | .sw => "str.startswith"
  | .ew => "str.endswith"
  | .rp => "str.removeprefix"
  | .split => "str.split"
  | .part => "str.partition"
  | .find => "str.find"
  | .tidx => "tuple.index"
/-- x.partition(sep): the three parts, told wholly -/
theorem mt_part3 : MtR X "str.partition" (fun x xs H Q => ∃ a b, x = .str a ∧ xs = [.str b] ∧ (b.length == 0) = false ∧ a.length ≤ sizeLine ∧
    ∀ p o, H p = none → o.dict = none → Q (.ref p) (upd H p (.frz o (.tup ([(Txt.partition a b).1, (Txt.partition a b).2.1, (Txt.partition a b).2.2].map V.str))))) := by
  intro pins s σ H x xs v us Q I rx rs h
  obtain ⟨a, b, e1, e2, hb, hz, q⟩ := h
  subst e1 e2
  obtain ⟨t, rfl⟩ := rx
  obtain ⟨w, rfl, u, rfl⟩ := vals1 rs
  have fin : ∀ (x y z : Str) (k1 k2 k3 k : Tok), (∀ p o, H p = none → o.dict = none → Q (.ref p) (upd H p (.frz o (.tup ([x, y, z].map V.str))))) →
      EP X pins σ Q (.ref s.heap.objs.size) { s with toks := k, heap := s.heap.push (tupO [.str x k1, .str y k2, .str z k3]) } := fun x y z k1 k2 k3 k q =>
    ⟨.ref s.heap.objs.size, _, I.laidT (xs := [x, y, z].map V.str) (.cons ⟨_, rfl⟩ (.cons ⟨_, rfl⟩ (.cons ⟨_, rfl⟩ .nil))) (by show 3 ≤ sizeLine; decide) k, rfl, q _ _ (I.hok.fresh (Nat.le_refl _)) rfl⟩
  refine call_meets F.slot_str_partition (typeIs_str _ _ _) F.entry_str_partition (F.args_str_partition_2 _ _) (meets_str_partition a b t u hb hz) ?_
  revert q
  unfold Txt.partition
  generalize Builtin.Str.occurrences a b 0 a.length 1 = oc
  cases oc with
  | nil => exact fun q => fin _ _ _ _ _ _ _ q
  | cons i r => exact fun q => fin _ _ _ _ _ _ _ q
theorem rvs_strs {K : PySem.W.Frag} {g : G} {H : Hp} : ∀ l : List Str, RVs K g H (l.map V.str) (l.map D.str)
  | [] => .nil
  | x :: l => .cons (.str x) (rvs_strs l)
theorem mt_str_ty {K : PySem.W.Frag} {g : G} {H : Hp} {x : V} {d : D} {m : Mth} (h : mTy m d = true) (s : See K g H x d) : tyD K (mT1 m) x H := by
  cases m with
  | join =>
    cases d <;> try (cases h; done)
    cases (show RV K g H x (.str _) from s)
    exact (rfl : ("str" : String) = "str")
  | get2 =>
    cases d <;> try (cases h; done)
    rename_i k l
    cases k with
    | k =>
      obtain ⟨a, kvs, rfl, hr, r⟩ := s
      exact .inr (.inr ⟨rfl, .inl ⟨kvs, hr⟩⟩)
    | t => cases h
  | index =>
    cases d <;> try (cases h; done)
    obtain ⟨a, vs, rfl, hq, r⟩ := s
    exact .inl ⟨rfl, vs, hq⟩
  | tidx =>
    cases d <;> try (cases h; done)
    obtain ⟨a, vs, rfl, hq, r⟩ := s
    exact .inr (.inl ⟨rfl, vs, hq.xt⟩)
  | _ =>
    cases d <;> try (cases h; done)
    cases (show RV K g H x (.str _) from s)
    exact (rfl : ("str" : String) = "str")
theorem mth_ok (hK : X.K = C.K) (hu : X.A.units + 65 < cLine) (m : Mth) : MtR X (mId m) (rm C m) := by
  intro pins s σ H x xs v us Q I rx rs h
  obtain ⟨g, σ', env, st, d, ds, rep, vx, vs, go⟩ := h
  obtain ⟨z, hz, go2⟩ := go.of
  clear go
  have vx := RB.see vx rep
  have vs := vs.sees rep
  revert vx vs hz
  generalize drf st d = ex
  generalize ds.map (drf st) = es
  intro hz vx vs
  unfold mthD at hz
  split at hz
  · split at hz
    · rename_i ss e1
      split at hz
      · rename_i hn
        cases hz
        have hn := of_decide_eq_true hn
        cases (show RV C.K g H x (.str _) from vx)
        obtain ⟨y, rfl, vy⟩ := rc1 vs
        obtain ⟨p, rfl, hq⟩ := strs_sq vy e1
        exact mt_join pins s σ H _ _ v us Q I rx rs ⟨_, p, ss, rfl, rfl, .inl (by rw [hK]; exact hq), Nat.le_trans hn (by decide), go2.end_ rep (.str _)⟩
      · cases hz
    · cases hz
  · rename_i k l y w
    split at hz
    · rename_i hkf
      simp only [Bool.and_eq_true] at hkf
      obtain ⟨hk, hf⟩ := hkf
      cases k with
      | k =>
        cases hz
        obtain ⟨a, kvs, rfl, hr, r⟩ := vx
        obtain ⟨x1, x2, rfl, v1, v2⟩ := rc2 vs
        obtain ⟨k, e⟩ := Option.isSome_iff_exists.mp hk
        have v1' : RV C.K g H x1 y := by
          cases y <;> first | exact v1 | cases e
        obtain ⟨e1, e2⟩ := keyD_of v1' e
        obtain rfl : v = Value.ref a := rx
        obtain ⟨u1, u2, rfl, r1, r2⟩ := vals2 rs
        refine d_get2 (by omega) I (.inl ⟨kvs, k, hr, e1, rfl⟩ : DGet H a x1 (valV kvs k)) r1 r2 fun w' s' I' rw' => ⟨_, H, I', rw', ?_⟩
        cases hq : lookD l y with
        | none =>
          rw [hq] at go2
          rw [(look_ks e r).2 hq]
          have v2' : RV C.K g H x2 w := by
            cases w <;> first | exact v2 | cases hf
          exact go2.end_ rep v2'
        | some z =>
          rw [hq] at go2
          obtain ⟨v, hv, rv⟩ := (look_ks e r).1 z hq
          rw [hv]
          exact go2.end_ rep rv
      | t => cases hk
    · cases hz
  · unfold indexD at hz
    split at hz
    · rename_i ps p e1 e2
      split at hz
      · rename_i hs
        simp only [Bool.and_eq_true] at hs
        obtain ⟨j, hj, rfl⟩ := Option.map_eq_some_iff.mp hz
        obtain ⟨y, rfl, vy⟩ := rc1 vs
        obtain ⟨a, ws, rfl, hq, r⟩ := vx
        obtain ⟨hjl, hjt, hjn⟩ := List.findIdx?_eq_some_iff_getElem.mp hj
        refine mt_indexD hu pins s σ H _ _ v us Q I rx rs ⟨a, y, p, ps, j, ps[j], rfl, rfl, by rw [hK]; exact .lst hq (dps_of r e1), by rw [hK]; exact see_dp vy e2, hs.1, hs.2, List.getElem?_eq_getElem hjl, hjt, fun m z' hm hz' => ?_, go2.end_ rep (.int _)⟩
        obtain ⟨h1, h2⟩ := List.getElem?_eq_some_iff.mp hz'
        rw [← h2]
        exact Bool.eq_false_iff.mpr (by simpa using hjn m hm)
      · cases hz
    · cases hz
  -- of a text and a text
  · cases hz
    cases (show RV C.K g H x (.str _) from vx)
    obtain ⟨y, rfl, vy⟩ := rc1 vs
    cases (show RV C.K g H y (.str _) from vy)
    exact mt_startswith pins s σ H _ _ v us Q I rx rs ⟨_, _, rfl, rfl, go2.end_ rep (.bl _)⟩
  · cases hz
    cases (show RV C.K g H x (.str _) from vx)
    obtain ⟨y, rfl, vy⟩ := rc1 vs
    cases (show RV C.K g H y (.str _) from vy)
    exact mt_endswith pins s σ H _ _ v us Q I rx rs ⟨_, _, rfl, rfl, go2.end_ rep (.bl _)⟩
  · split at hz
    · rename_i hn
      cases hz
      cases (show RV C.K g H x (.str _) from vx)
      obtain ⟨y, rfl, vy⟩ := rc1 vs
      cases (show RV C.K g H y (.str _) from vy)
      exact mt_removeprefix pins s σ H _ _ v us Q I rx rs ⟨_, _, rfl, rfl, of_decide_eq_true hn, go2.end_ rep (.str _)⟩
    · cases hz
  · split at hz
    · rename_i hn
      cases hz
      simp only [Bool.and_eq_true, Bool.not_eq_true'] at hn
      cases (show RV C.K g H x (.str _) from vx)
      obtain ⟨y, rfl, vy⟩ := rc1 vs
      cases (show RV C.K g H y (.str _) from vy)
      exact mt_split pins s σ H _ _ v us Q I rx rs ⟨_, _, rfl, rfl, hn.1, of_decide_eq_true hn.2, go2.lst rep (rvs_strs _)⟩
    · cases hz
  · split at hz
    · rename_i hn
      cases hz
      simp only [Bool.and_eq_true, Bool.not_eq_true'] at hn
      cases (show RV C.K g H x (.str _) from vx)
      obtain ⟨y, rfl, vy⟩ := rc1 vs
      cases (show RV C.K g H y (.str _) from vy)
      exact mt_part3 pins s σ H _ _ v us Q I rx rs ⟨_, _, rfl, rfl, hn.1, of_decide_eq_true hn.2, go2.tup rep (rvs_strs _)⟩
    · cases hz
  · cases hz
    cases (show RV C.K g H x (.str _) from vx)
    obtain ⟨y, rfl, vy⟩ := rc1 vs
    cases (show RV C.K g H y (.str _) from vy)
    exact mt_find pins s σ H _ _ v us Q I rx rs ⟨_, _, rfl, rfl, go2.end_ rep (.int _)⟩
  · split at hz
    · rename_i ss e1
      obtain ⟨j, hj, rfl⟩ := Option.map_eq_some_iff.mp hz
      obtain ⟨a, ws, rfl, hq, r⟩ := vx
      obtain ⟨y, rfl, vy⟩ := rc1 vs
      cases (show RV C.K g H y (.str _) from vy)
      have e2 := strsOf_map r e1
      subst e2
      obtain ⟨hjl, hjt, hjn⟩ := List.findIdx?_eq_some_iff_getElem.mp hj
      refine mt_tup_index pins s σ H _ _ v us Q I rx rs ⟨a, ss, _, j, rfl, rfl, by rw [hK]; exact hq.sq, ?_, fun m hm e => ?_, go2.end_ rep (.int _)⟩
      · rw [List.getElem?_eq_getElem hjl, of_decide_eq_true hjt]
      · obtain ⟨h1, h2⟩ := List.getElem?_eq_some_iff.mp e
        exact hjn m hm (decide_eq_true h2)
    · cases hz
  · cases hz
/-- a method's call -/
theorem mth_call (Z : Good C T S sc X) {m : Mth} {ap pos : Pos} {o e0 : Expr} {es : List Expr} {a : A} {l : As} (hl : (ap.endLine == pos.line) = true) (hb : baseB o = true) (hn : (e0 :: es).length = mAr m) (hs : (starEach (e0 :: es) X.env).any (·.1) = false) (hop : opB e0 = true)
    (h1 : PE X o (rd C (RB C) fun env st => evB a env st (ev T a env st))) (h2 : PA X (e0 :: es) (rd C (RBs C) fun env st => evbs T l env st)) :
    PE X (.Call (.Attribute o (mNm m) ap) (e0 :: es) [] pos) (rd C (rV C) fun env st => ev T (.mth m a l) env st) := by
  have hr := mth_ok (C := C) Z.K Z.hu m
  have hlen : (e0 :: es).length < 20 := by rw [hn]; cases m <;> decide
  have fin : PE X (.Call (.Attribute o (mNm m) ap) (e0 :: es) [] pos) (tBD X.K (mT1 m) (rm C m) (rd C (RB C) fun env st => evB a env st (ev T a env st)) (rd C (RBs C) fun env st => evbs T l env st)) := by
    cases m with
    | join => exact pe_bmD ⟨PySem.F.plainAttrs_str, PySem.F.slot_str_join, PySem.F.type_str_join, hr⟩ h1 h2 (base_of hb _ _ _) hlen hl hs hop
    | get2 => exact pe_bmD ⟨PySem.F.plainAttrs_dict, PySem.F.slot_dict_get, PySem.F.type_dict_get, hr⟩ h1 h2 (base_of hb _ _ _) hlen hl hs hop
    | index => exact pe_bmD ⟨PySem.F.plainAttrs_list, PySem.F.slot_list_index, PySem.F.type_list_index, hr⟩ h1 h2 (base_of hb _ _ _) hlen hl hs hop
    | sw => exact pe_bmD ⟨PySem.F.plainAttrs_str, PySem.F.slot_str_startswith, PySem.F.type_str_startswith, hr⟩ h1 h2 (base_of hb _ _ _) hlen hl hs hop
    | ew => exact pe_bmD ⟨PySem.F.plainAttrs_str, PySem.F.slot_str_endswith, PySem.F.type_str_endswith, hr⟩ h1 h2 (base_of hb _ _ _) hlen hl hs hop
    | rp => exact pe_bmD ⟨PySem.F.plainAttrs_str, PySem.F.slot_str_removeprefix, PySem.F.type_str_removeprefix, hr⟩ h1 h2 (base_of hb _ _ _) hlen hl hs hop
    | split => exact pe_bmD ⟨PySem.F.plainAttrs_str, PySem.F.slot_str_split, PySem.F.type_str_split, hr⟩ h1 h2 (base_of hb _ _ _) hlen hl hs hop
    | part => exact pe_bmD ⟨PySem.F.plainAttrs_str, PySem.F.slot_str_partition, PySem.F.type_str_partition, hr⟩ h1 h2 (base_of hb _ _ _) hlen hl hs hop
    | find => exact pe_bmD ⟨PySem.F.plainAttrs_str, PySem.F.slot_str_find, PySem.F.type_str_find, hr⟩ h1 h2 (base_of hb _ _ _) hlen hl hs hop
    | tidx => exact pe_bmD ⟨PySem.F.plainAttrs_tuple, PySem.F.slot_tuple_index, PySem.F.type_tuple_index, hr⟩ h1 h2 (base_of hb _ _ _) hlen hl hs hop
  refine fin.of fun σ H Q q => ?_
  obtain ⟨g, env, st, rep, go⟩ := q
  have go : Go C σ env (rV C σ env) g H ((evB a env st (ev T a env st)).bind fun d st => if mTy m (drf st d) then (evbs T l env st).bind fun ds st => .of (mthD m (drf st d) (ds.map (drf st))) st else .no) Q := by
    unfold ev at go
    exact go
  refine ⟨g, env, st, rep, (Go.bind (R := RB C σ env) go).imp fun x H1 ⟨d, st1, g1, e1, rep1, v1, go1⟩ => ?_⟩
  have go1 : Go C σ env (rV C σ env) g1 H1 (if mTy m (drf st1 d) then (evbs T l env st1).bind fun ds st => .of (mthD m (drf st d) (ds.map (drf st))) st else .no) Q := go1
  cases hm : mTy m (drf st1 d) with
  | false => rw [hm] at go1; exact go1.elim
  | true =>
    rw [hm] at go1
    have go1 : Go C σ env (rV C σ env) g1 H1 ((evbs T l env st1).bind fun ds st => .of (mthD m (drf st d) (ds.map (drf st))) st) Q := go1
    refine ⟨by rw [Z.K]; exact mt_str_ty hm (RB.see v1 rep1), g1, env, st1, rep1, (Go.bind (R := RBs C σ env) go1).imp fun xs H2 ⟨ds, st2, g2, e2, rep2, v2, go2⟩ => ?_⟩
    exact ⟨g2, σ, env, st2, d, ds, rep2, stB _ _ _ _ _ _ _ _ e2 v1, v2, go2⟩
theorem isLs_of {st : Store} {d : D} (h : isLs st d = true) : ∃ n, d = .ref n ∧ ∃ l, st[n]? = some (.lst l) := by
  unfold isLs at h
  split at h
  · rename_i n
    split at h
    · rename_i l e
      exact ⟨n, rfl, l, e⟩
    · cases h
  · cases h
/-- l.pop(i) of a list of the store -/
theorem pop_call (Z : Good C T S sc X) {o i : A} {ap q : Pos} {eo e : Expr} (hl : (ap.endLine == q.line) = true) (hb : baseB eo = true) (ho : opB e = true) (h1 : PE X eo (rd C (rV C) fun env st => ev T o env st)) (h2 : PA X [e] (rd C (rVs C) fun env st => (ev T i env st).bind fun d st => .ok [d] st)) :
    PE X (.Call (.Attribute eo "pop" ap) [e] [] q) (rd C (rV C) fun env st => ev T (.pop o i) env st) := by
  have hm : MtR X "list.pop" rPopAt := mt_popAt
  have pe := pe_bmD (apos := ap) (cpos := q) ⟨PySem.F.plainAttrs_list, PySem.F.slot_list_pop, PySem.F.type_list_pop, hm⟩ h1 h2 (base_of hb _ _ _) (show 1 < 20 by decide) hl (by rw [star_of ho]; rfl) ho
  refine pe.of fun σ H Q ⟨g, env, st, rep, go⟩ => ⟨g, env, st, rep, ?_⟩
  have go : Go C σ env (rV C σ env) g H ((ev T o env st).bind fun x st => if isLs st x then (ev T i env st).bind fun y st => popD st x y else .no) Q := go
  refine (Go.bind (R := rV C σ env) go).imp fun x H1 ⟨dx, st1, g1, e1, rep1, vx, go1⟩ => ?_
  dsimp only at go1
  cases hs : isLs st1 dx with
  | false => rw [hs] at go1; exact go1.elim
  | true =>
    rw [hs] at go1
    have go1 : Go C σ env (rV C σ env) g1 H1 ((ev T i env st1).bind fun y st => popD st dx y) Q := go1
    obtain ⟨n, rfl, l0, hl0⟩ := isLs_of hs
    · · cases (show RV C.K g1 H1 x (.ref n) from vx) with
        | @ref _ p hρ =>
          obtain ⟨vs0, q1, _⟩ := ref_lst rep1 hl0 hρ
          refine ⟨.inl ⟨rfl, vs0, .inl (.inl q1)⟩, g1, env, st1, rep1, ?_⟩
          show Go C σ env (rVs C σ env) g1 H1 ((ev T i env st1).bind fun d st => .ok [d] st) fun xs H2 => rPopAt (.ref p) xs H2 Q
          cases hr : ev T i env st1 with
          | no => rw [hr] at go1; exact go1.elim
          | ex y s => rw [hr] at go1; exact go1
          | ok d s =>
            rw [hr] at go1
            intro g2 H2 xs ex2 rep2 rv2
            cases rv2 with
            | cons r1 r2 =>
              cases r2
              have go2 := Go.mono (show Go C σ env (rV C σ env) g1 H1 (popD s (.ref n) d) Q from go1) ex2
              unfold popD at go2
              dsimp only at go2
              split at go2
              · rename_i l hl2
                split at go2
                · rename_i k
                  split at go2
                  · rename_i hk
                    simp only [Bool.and_eq_true, decide_eq_true_eq] at hk
                    split at go2
                    · rename_i j hj
                      split at go2
                      · rename_i y hy
                        cases r1
                        have hρ3 := ex2.ρ _ _ hρ
                        obtain ⟨vs, z3, z4⟩ := ref_lst rep2 hl2 hρ3
                        obtain ⟨v, hv, rv⟩ := z4.get hy
                        have hnF := rep2.sto.nf n _ hρ3
                        have er : ∀ {vs : List V} {l : List D} (j : Nat), RVs C.K g2 H2 vs l → RVs C.K g2 H2 (vs.eraseIdx j) (l.eraseIdx j) := fun j r => by
                          rw [List.eraseIdx_eq_take_drop_succ, List.eraseIdx_eq_take_drop_succ]
                          exact (r.take j).append (r.drop (j + 1))
                        obtain ⟨rep4, ex4⟩ := rep2.setSt (o' := .lst (l.eraseIdx j)) (ho := .lst (vs.eraseIdx j)) hl2 hρ3 ⟨_, upd_same, RVs.ext (Ext.prv hnF) (er j z4)⟩
                        exact ⟨p, vs, k, j, v, rfl, rfl, z3, hk.1, hk.2, by rw [z4.length]; exact hj, hv, go2 g2 _ _ ex4 rep4 (rv.ext ex4)⟩
                      · exact go2.elim
                    · exact go2.elim
                  · exact go2.elim
                · exact go2.elim
              · exact go2.elim
end
/-! ### calls of defs -/
section
variable {C : Ct} {X : Cx}
theorem PK.of {kws : List Keyword} {t t' : TA} (h : PK X kws t) (k : ∀ σ H Q, t' σ H Q → t σ H Q) : PK X kws t' := ⟨fun pos pins s σ H Q I q => h.run pos pins s σ H Q I (k σ H Q q)⟩
theorem call_gen {k : Nat} {a : Addr} {fd : FuncData} {ps ks : List Str} {gU : List Value → List Value → List Value} {gV : List V → List V → List V} {n : Nat} {m : List D → Store → Res D} {x : Str} {p pos : Pos} {es : List Expr} {kws : List Keyword} {ms mk : Env → Store → Res (List D)} {perm : List D → List D → Option (List D)}
    (F : FnOk X.prog X.w X.K X.mg X.base (L2.CX X.prog X.w) k a fd ps (spD C ps.length m)) (hm0 : ∀ ds st, ds.length ≠ ps.length → m ds st = .no) (tk : Takes X C.W) (hr : Room k X.A) (hg : Gl X x) (hdb : (x == ("__debug__" : Str)) = false) (hm : X.mg x = some (.ref a)) (hk : PySem.W.keepIn X.K (.ref a) = true)
    (hb : KBn X.K fd ps n ks gU gV) (hp0 : ∀ ds es as, perm ds es = some as → ds.length = n ∧ es.length = ks.length) (hp : ∀ (g : G) (H : Hp) (vs zs : List V) (ds es as : List D), RVs C.K g H vs ds → RVs C.K g H zs es → perm ds es = some as → RVs C.K g H (gV vs zs) as)
    (ha : PA X es (rd C (rVs C) ms)) (hkw : PK X kws (rd C (rVs C) mk)) (hall : (backToKw pos (keywordEach kws X.env)).all (·.1.isSome) = true) (hks : (backToKw pos (keywordEach kws X.env)).filterMap (·.1) = ks)
    (hnil : es = [] → ∀ env st, ms env st = .ok [] st) (hes : ∀ e r, es = e :: r → starEach es X.env = (false, eval e X.env) :: starEach r X.env) (hpl : ((backTo pos (starEach es X.env)).any (·.1) || (backToKw pos (keywordEach kws X.env)).any (·.1.isNone)) = false) :
    PE X (.Call (.Name x p) es kws pos) (rd C (rV C) fun env st => (ms env st).bind fun ds st => (mk env st).bind fun es st => (Res.of (perm ds es) st).bind fun as st => m as st) := by
  refine ⟨fun pins s σ H Q I q => ?_⟩
  refine wpAny_Call_Name_kw (ld_glob I hg hm ?_ hdb)
  obtain ⟨g, env, st, rep, go⟩ := q
  have fin : ∀ (us ws : List Value) (s2 : Shared) (H2 : Hp) (vs zs : List V) (g2 : G) (st2 : Store) (ds es : List D), Inv X pins σ H2 s2 → Vals vs us → Vals zs ws → Rep C g2 σ H2 env st2 → RVs C.K g2 H2 vs ds → RVs C.K g2 H2 zs es →
      Go C σ env (rV C σ env) g2 H2 ((Res.of (perm ds es) st2).bind fun as st => m as st) Q → wpAny (model X.prog X.w) X.A (call (.ref a) us (ks.zip ws)) (EP X pins σ Q) X.xe s2 := by
    intro us ws s2 H2 vs zs g2 st2 ds es I2 r1 r2 rep2 v1 v2 go2
    cases hpe : perm ds es with
    | none => rw [hpe] at go2; exact go2.elim
    | some as =>
      rw [hpe] at go2
      have go2 : Go C σ env (rV C σ env) g2 H2 (m as st2) Q := go2
      obtain ⟨l1, l2⟩ := hp0 ds es as hpe
      have rv := hp g2 H2 vs zs ds es as v1 v2 hpe
      by_cases hl : as.length = ps.length
      · have sp := spD_go (n := ps.length) rep2 rv (by rw [← hl]; exact rv.length) go2
        have rr := hb.rel r1 r2
        refine wpAny_call (codeAny_mono (F.run X.A X.stack s2 H2 ⟨us, ks.zip ws⟩ (gU us ws) (gV vs zs) Q (WE C.W σ) hr I2.env0 (hb.to s2 us ws I2.kIn (by rw [← r1.length, v1.length]; exact l1) (by rw [← r2.length, v2.length]; exact l2)) rr sp) fun r s' hq => ?_)
        cases r with
        | error e => exact passAt tk σ pins H2 s2 e s' I2 hq
        | ok fl =>
          cases fl with
          | ret u => exact I2.after hq
          | next => exact False.elim hq
          | brk => exact False.elim hq
          | cont => exact False.elim hq
      · rw [hm0 as st2 hl] at go2
        exact go2.elim
  cases es with
  | cons e r =>
    refine PySem.W.callWith_KW (h₀ := X.base) I.ok.mod.kin hk hall (thn (ha.run pos pins s σ H _ I ⟨g, env, st, rep, Go.bind (R := rVs C σ env) go⟩) fun us s1 ⟨vs, H1, I1, r1, ds, st1, g1, e1, rep1, v1, go1⟩ => ?_) hpl (hes e r rfl)
    refine thn (hkw.run pos pins s1 σ H1 _ I1 ⟨g1, env, st1, rep1, Go.bind (R := rVs C σ env) go1⟩) fun ws s2 ⟨zs, H2, I2, r2, es, st2, g2, e2, rep2, v2, go2⟩ => ⟨I2.kIn, ?_⟩
    rw [hks]
    exact fin us ws s2 H2 vs zs g2 st2 ds es I2 r1 r2 rep2 (v1.ext e2) v2 go2
  | nil =>
    refine PySem.W.callWith_KW0 (h₀ := X.base) I.ok.mod.kin hk hall ?_ hpl
    dsimp only at go
    rw [hnil rfl env st] at go
    have go1 : Go C σ env (rV C σ env) g H ((mk env st).bind fun es st => (Res.of (perm [] es) st).bind fun as st => m as st) Q := go
    refine thn (hkw.run pos pins s σ H _ I ⟨g, env, st, rep, Go.bind (R := rVs C σ env) go1⟩) fun ws s2 ⟨zs, H2, I2, r2, es, st2, g2, e2, rep2, v2, go2⟩ => ⟨I2.kIn, ?_⟩
    rw [hks]
    exact fin [] ws s2 H2 [] zs g2 st2 [] es I2 .nil r2 rep2 .nil v2 go2
end
end L3
end

section
set_option Elab.async false
set_option linter.all false
set_option maxRecDepth 100000
set_option maxHeartbeats 8000000
/-! L3r: things of one's own, instances: fields, methods, making; displayed dicts; the module's tables. -/
namespace L3
open PySem PySem.Spec PyProof.Rows L2

section
variable {C : Ct} {g g' : G} {σ : L2.St} {H H' : Hp} {env : Env} {st st' : Store}
/-- a thing that nobody else holds -/
structure Fre (C : Ct) (g : G) (σ : L2.St) (H : Hp) (env : Env) (p : Addr) (o : DO) : Prop where
  ro : RO C.K C.cls g H p o
  nF : ¬ g.F p
  nρ : ∀ n, g.ρ n ≠ some p
  n0 : C.H0 p = none
  npr : ∀ q ∈ C.pr, q.1 ≠ p
  nown : ∀ (i : Nat) (o' : DO), env[i]? = some (some (.own o')) → σ[i]? ≠ some (some (.ref p))
def rO (C : Ct) : Rl V DO := fun σ env g H x o => ∃ p, x = .ref p ∧ Fre C g σ H env p o
theorem Fre.new {p : Addr} {ho : HO} {o : DO} (rep : Rep C g σ H env st) (hp : H p = none) (ro : RO C.K C.cls g (upd H p ho) p o) : Fre C g σ (upd H p ho) env p o where
  ro := ro
  nF := fun f => by
    obtain ⟨u, h⟩ := rep.fz p f
    rw [hp] at h; cases h
  nρ := fun n h => by
    obtain ⟨_, u, _, _, hu⟩ := rep.sto.there h
    rw [hp] at hu; cases hu
  n0 := none_back rep.fr rep.sto hp
  npr := fun q hq e => by
    have h := (rep.prv q hq).1
    rw [e, hp] at h; cases h
  nown := fun i o' h e => by
    obtain ⟨a, h1, h2, _⟩ := rep.own i o' h
    rw [e] at h1
    cases h1
    obtain ⟨u, hu⟩ := h2.there
    rw [hp] at hu; cases hu
theorem Rep.prDrop {p : Addr} {o : HO} (rep : Rep (C.pr' ((p, o) :: C.pr)) g σ H env st) : Rep C g σ H env st where
  len := rep.len
  val := rep.val
  own := fun i u h => by
    obtain ⟨a, h1, h2, h3, h4, h5, h6⟩ := rep.own i u h
    exact ⟨a, h1, h2, h3, h4, h5, fun q hq => h6 q (List.mem_cons_of_mem _ hq)⟩
  inj := rep.inj
  sto := rep.sto
  fz := rep.fz
  fr := rep.fr
  prv := fun q hq => rep.prv q (List.mem_cons_of_mem _ hq)
  prd := (List.nodup_cons.mp (show ((p, o) :: C.pr).map (·.1) |>.Nodup from rep.prd)).2
theorem Fre.pr {p : Addr} {ho : HO} {o : DO} (rep : Rep (C.pr' ((p, ho) :: C.pr)) g σ H env st) (ro : RO C.K C.cls g H p o) : Fre C g σ H env p o where
  ro := ro
  nF := (rep.prv (p, ho) List.mem_cons_self).2.1
  nρ := (rep.prv (p, ho) List.mem_cons_self).2.2.1
  n0 := (rep.prv (p, ho) List.mem_cons_self).2.2.2
  npr := fun q hq e => (List.nodup_cons.mp (show ((p, ho) :: C.pr).map (·.1) |>.Nodup from rep.prd)).1 (List.mem_map.mpr ⟨q, hq, e⟩)
  nown := fun i o' h e => by
    obtain ⟨a, h1, h2, h3, h4, h5, h6⟩ := rep.own i o' h
    rw [e] at h1
    cases h1
    exact h6 (p, ho) List.mem_cons_self rfl
/-- a thing of one's own comes into the store -/
theorem Rep.adopt {p : Addr} {o : DO} (rep : Rep C g σ H env st) (f : Fre C g σ H env p o) : Rep C (g.bind st.length p) σ H env (st ++ [o]) ∧ Ext g H (g.bind st.length p) H := by
  have ex : Ext g H (g.bind st.length p) H := ⟨fun _ h => h, fun _ _ _ h => h, fun _ _ _ _ h => h, fun n a h => by
    have := rep.sto.lt n a h
    show (if n = st.length then some p else g.ρ n) = some a
    rw [if_neg (by omega)]
    exact h⟩
  have case : ∀ n a, (g.bind st.length p).ρ n = some a → (n = st.length ∧ a = p) ∨ (n ≠ st.length ∧ g.ρ n = some a) := fun n a h => by
    have h : (if n = st.length then some p else g.ρ n) = some a := h
    split at h
    · exact .inl ⟨by assumption, by cases h; rfl⟩
    · exact .inr ⟨by assumption, h⟩
  refine ⟨⟨rep.len, fun i d h => ?_, fun i u h => ?_, rep.inj, ⟨fun n u h => ?_, fun n a h => ?_, fun n m a h h' => ?_, fun n a h z => ?_⟩, rep.fz, ⟨rep.fr.F, rep.fr.Fn, fun n a h => ex.ρ n a (rep.fr.ρ n a h), fun n a h => ?_, rep.fr.keep⟩, fun q hq => ?_, rep.prd⟩, ex⟩
  · obtain ⟨v, a, b⟩ := rep.val i d h
    exact ⟨v, a, b.ext ex⟩
  · obtain ⟨a, h1, h2, h3, h4, h5⟩ := rep.own i u h
    refine ⟨a, h1, h2.ext ex (fun _ q => q), h3, fun n z => ?_, h5⟩
    rcases case n a z with ⟨_, z⟩ | ⟨_, z⟩
    · rw [z] at h1; exact f.nown i u h h1
    · exact h4 n z
  · by_cases hn : n < st.length
    · rw [List.getElem?_append_left hn] at h
      obtain ⟨a, h1, h2⟩ := rep.sto.obj n u h
      exact ⟨a, ex.ρ n a h1, h2.ext ex (fun _ q => q)⟩
    · rw [List.getElem?_append_right (by omega)] at h
      have e : n = st.length := by
        by_cases z : n - st.length = 0
        · omega
        · rw [List.getElem?_eq_none (by simp; omega)] at h; cases h
      subst e
      simp at h
      subst h
      exact ⟨p, by show (if st.length = st.length then some p else _) = some p; rw [if_pos rfl], f.ro.ext ex (fun _ q => q)⟩
  · rw [List.length_append, List.length_singleton]
    rcases case n a h with ⟨z, _⟩ | ⟨_, z⟩
    · omega
    · have := rep.sto.lt n a z
      omega
  · rcases case n a h with ⟨z, e⟩ | ⟨z, e⟩ <;> rcases case m a h' with ⟨z', e'⟩ | ⟨z', e'⟩
    · omega
    · rw [e] at e'; exact (f.nρ _ e').elim
    · rw [e'] at e; exact (f.nρ _ e).elim
    · exact rep.sto.inj n m a e e'
  · rcases case n a h with ⟨_, q⟩ | ⟨_, q⟩
    · rw [q] at z; exact f.nF z
    · exact rep.sto.nf n a q z
  · rcases case n a h with ⟨_, z⟩ | ⟨_, z⟩
    · rw [z]; exact .inr f.n0
    · exact rep.fr.ρn n a z
  · obtain ⟨h1, h2, h3, h4⟩ := rep.prv q hq
    refine ⟨h1, h2, fun n z => ?_, h4⟩
    rcases case n _ z with ⟨_, z⟩ | ⟨_, z⟩
    · exact f.npr q hq z
    · exact h3 n z
end
section
variable {C : Ct} {X : Cx} {T : Tb} {S : Sig} {sc : Scope} {γ : Type}
/-- one argument -/
theorem pa_1 {e : Expr} {m : Env → Store → Res D} (ho : opB e = true) (hE : PE X e (rd C (rV C) m)) : PA X [e] (rd C (rVs C) fun env st => (m env st).bind fun d st => .ok [d] st) := by
  refine (pa_cons hE pa_nil (star_of ho _ _)).of fun σ H Q q => ?_
  obtain ⟨g, env, st, rep, go⟩ := q
  refine ⟨g, env, st, rep, (Go.bind (R := rV C σ env) go).imp fun x H1 ⟨d, st1, g1, e1, rep1, v1, go1⟩ => ?_⟩
  exact go1.end_ rep1 (.cons v1 .nil)
theorem pa_2 {e e2 : Expr} {m m2 : Env → Store → Res D} (ho : opB e = true) (ho2 : opB e2 = true) (hE : PE X e (rd C (rV C) m)) (hE2 : PE X e2 (rd C (rV C) m2)) :
    PA X [e, e2] (rd C (rVs C) fun env st => (m env st).bind fun d st => (m2 env st).bind fun d2 st => .ok [d, d2] st) := by
  refine (pa_cons hE (pa_cons hE2 pa_nil (star_of ho2 _ _)) (star_of ho _ _)).of fun σ H Q q => ?_
  obtain ⟨g, env, st, rep, go⟩ := q
  refine ⟨g, env, st, rep, (Go.bind (R := rV C σ env) go).imp fun x H1 ⟨d, st1, g1, e1, rep1, v1, go1⟩ => ?_⟩
  refine ⟨g1, env, st1, rep1, (Go.bind (R := rV C σ env) go1).imp fun y H2 ⟨d2, st2, g2, e2, rep2, v2, go2⟩ => ?_⟩
  exact go2.end_ rep2 (.cons (RV.ext e2 v1) (.cons v2 .nil))
theorem go_one {α β : Type} {σ : L2.St} {env : Env} {g : G} {H : Hp} {m : Res D} {F : D → Store → Res α} {R : G → Hp → β → α → Prop} {Q : β → Hp → Prop} {K : List V → Hp → Prop} (go : Go C σ env R g H (m.bind F) Q)
    (k : ∀ d st1 g1 H1 x, Ext g H g1 H1 → Rep C g1 σ H1 env st1 → RV C.K g1 H1 x d → Go C σ env R g1 H1 (F d st1) Q → K [x] H1) : Go C σ env (rVs C σ env) g H (m.bind fun d st => .ok [d] st) K := by
  cases m with
  | ok d st1 =>
    intro g1 H1 xs ex rp rv
    cases rv with
    | cons r1 r2 =>
      cases r2
      exact k d st1 g1 H1 _ ex rp r1 (Go.mono (show Go C σ env R g H (F d st1) Q from go) ex)
  | ex x st1 => exact go
  | no => exact go
theorem go_two {α β : Type} {σ : L2.St} {env : Env} {g : G} {H : Hp} {m : Env → Store → Res D} {m2 : Env → Store → Res D} {st : Store} {F : D → D → Store → Res α} {R : G → Hp → β → α → Prop} {Q : β → Hp → Prop} {K : List V → Hp → Prop} (go : Go C σ env R g H ((m env st).bind fun d st => (m2 env st).bind fun d2 st => F d d2 st) Q)
    (k : ∀ d d2 st1 g1 H1 x y, Ext g H g1 H1 → Rep C g1 σ H1 env st1 → RV C.K g1 H1 x d → RV C.K g1 H1 y d2 → Go C σ env R g1 H1 (F d d2 st1) Q → K [x, y] H1) : Go C σ env (rVs C σ env) g H ((m env st).bind fun d st => (m2 env st).bind fun d2 st => .ok [d, d2] st) K := by
  cases h : m env st with
  | ok d st1 =>
    rw [h] at go
    have go : Go C σ env R g H ((m2 env st1).bind fun d2 st => F d d2 st) Q := go
    show Go C σ env (rVs C σ env) g H ((m2 env st1).bind fun d2 st => .ok [d, d2] st) K
    cases h2 : m2 env st1 with
    | ok d2 st2 =>
      rw [h2] at go
      intro g1 H1 xs ex rp rv
      cases rv with
      | cons r1 r2 =>
        cases r2 with
        | cons r2 r3 =>
          cases r3
          exact k d d2 st2 g1 H1 _ _ ex rp r1 r2 (Go.mono (show Go C σ env R g H (F d d2 st2) Q from go) ex)
    | ex x st1 => rw [h2] at go; exact go
    | no => rw [h2] at go; exact go
  | ex x st1 => rw [h] at go; exact go
  | no => rw [h] at go; exact go
/-- a new thing as a place of the store -/
theorem pe_newD {e : Expr} {m : Env → Store → Res D} (hN : PE X e (rd C (rO C) fun env st => (m env st).bind fun d st => .of d.toO st)) : PE X e (rd C (rV C) fun env st => (m env st).bind fun d st => match d.toO with
    | some o => .ok (.ref st.length) (st ++ [o])
    | none => .no) := by
  refine hN.of fun σ H Q q => ?_
  obtain ⟨g, env, st, rep, go⟩ := q
  refine ⟨g, env, st, rep, ?_⟩
  have go : Go C σ env (rV C σ env) g H ((m env st).bind fun d st => match d.toO with
    | some o => .ok (.ref st.length) (st ++ [o])
    | none => .no) Q := go
  show Go C σ env (rO C σ env) g H ((m env st).bind fun d st => .of d.toO st) Q
  cases hm : m env st with
  | no => rw [hm] at go; exact go.elim
  | ex x s => rw [hm] at go; exact go
  | ok d s =>
    rw [hm] at go
    simp only [bind_ok] at go ⊢
    cases ho : d.toO with
    | none => rw [ho] at go; exact go.elim
    | some o =>
      rw [ho] at go
      intro g' H' x ex' rep' ⟨p, e, f⟩
      subst e
      obtain ⟨rep2, ex2⟩ := rep'.adopt f
      refine (show Go C σ env (rV C σ env) g H (.ok (.ref s.length) (s ++ [o])) Q from go) _ H' (.ref p) (ex'.trans ex2) rep2 (.ref ?_)
      show (if s.length = s.length then some p else _) = some p
      rw [if_pos rfl]
/-! ### fields -/
theorem RFs.look {K : PySem.W.Frag} {g : G} {H : Hp} {f : Str} : ∀ {vs : List (Str × V)} {ds : List (Str × D)}, RFs K g H vs ds → (∀ d, ds.lookup f = some d → ∃ v, vs.lookup f = some v ∧ RV K g H v d) ∧ (ds.lookup f = none → vs.lookup f = none)
  | [], _, .nil => ⟨fun d h => (by cases h), fun _ => rfl⟩
  | (x, v) :: r, _, .cons (d := d) (ds := ds) h t => by
    obtain ⟨i1, i2⟩ := RFs.look (f := f) t
    rw [List.lookup_cons, List.lookup_cons]
    by_cases e : (f == x) = true
    · rw [e]
      exact ⟨fun d' q => by cases q; exact ⟨v, rfl, h⟩, fun q => by cases q⟩
    · rw [Bool.eq_false_iff.mpr e]
      exact ⟨i1, i2⟩
theorem RFs.put {K : PySem.W.Frag} {g : G} {H : Hp} {f : Str} {v : V} {d : D} (h : RV K g H v d) : ∀ {vs : List (Str × V)} {ds : List (Str × D)}, RFs K g H vs ds → RFs K g H (putF f v vs) (putFD f d ds)
  | [], _, .nil => .cons h .nil
  | (x, w) :: r, _, .cons (d := d') (ds := ds) hw t => by
    unfold putF putFD
    by_cases e : x = f
    · rw [if_pos e, if_pos e]
      exact .cons h t
    · rw [if_neg e, if_neg e]
      exact .cons hw (RFs.put h t)
theorem RFs.len {K : PySem.W.Frag} {g : G} {H : Hp} : ∀ {vs : List (Str × V)} {ds : List (Str × D)}, RFs K g H vs ds → vs.length = ds.length
  | [], _, .nil => rfl
  | _ :: _, _, .cons _ t => by rw [List.length_cons, List.length_cons, RFs.len t]
/-- an instance of the store -/
theorem ref_ins {g : G} {σ : L2.St} {H : Hp} {env : Env} {st : Store} {n c : Nat} {fs : List (Str × D)} {x : V} (rep : Rep C g σ H env st) (h : st[n]? = some (.ins c fs)) (v : RV C.K g H x (.ref n)) : ∃ a dx vs, x = .ref a ∧ g.ρ n = some a ∧ H a = some (.ins (C.cls c) dx vs) ∧ RFs C.K g H vs fs := by
  cases v with
  | ref hρ =>
    obtain ⟨a', q1, dx, vs, q2, q3⟩ := rep.sto.obj n _ h
    rw [hρ] at q1
    cases q1
    exact ⟨_, dx, vs, rfl, hρ, q2, q3⟩
theorem pe_attrD (hK : X.K = C.K) {cs : List Nat} {f : Str} {eo : Expr} {pos : Pos} {m : Env → Store → Res D} (hca : ∀ c ∈ cs, AttrOk C X c f) (hb : baseB eo = true) (hE : PE X eo (rd C (rV C) m)) :
    PE X (.Attribute eo f pos) (rd C (rV C) fun env st => (m env st).bind fun x st => .of (attrD cs st x f) st) := by
  refine (pe_fld hE (base_of hb _ _ _)).of fun σ H Q q => ?_
  obtain ⟨g, env, st, rep, go⟩ := q
  refine ⟨g, env, st, rep, (Go.bind (R := rV C σ env) go).imp fun x H1 ⟨d, st1, g1, e1, rep1, v1, go1⟩ => ?_⟩
  obtain ⟨w, hw, go2⟩ := Go.of (show Go C σ env (rV C σ env) g1 H1 (.of (attrD cs st1 d f) st1) Q from go1)
  unfold attrD at hw
  split at hw
  · rename_i n
    split at hw
    · rename_i c fs hs
      split at hw
      · rename_i hc
        obtain ⟨a, dx, vs, rfl, hρ, hH, rf⟩ := ref_ins rep1 hs v1
        obtain ⟨v, hv, rv⟩ := (RFs.look (f := f) rf).1 w hw
        obtain ⟨k1, k2⟩ := hca c (of_decide_eq_true hc)
        exact ⟨a, C.cls c, dx, vs, v, rfl, hH, k1, k2, hv, go2.end_ rep1 rv⟩
      · cases hw
    · cases hw
  · cases hw
/-- a field is set -/
theorem Rep.setF {g : G} {σ : L2.St} {H : Hp} {env : Env} {st st2 : Store} {cs : List Nat} {f : Str} {x y : V} {dx dy : D} (rep : Rep C g σ H env st) (h : setFD cs st dx f dy = some st2) (vx : RV C.K g H x dx) (vy : RV C.K g H y dy) :
    ∃ c a ix vs, c ∈ cs ∧ x = .ref a ∧ H a = some (.ins (C.cls c) ix vs) ∧ vs.length < 1000 ∧ Rep C g σ (upd H a (.ins (C.cls c) ix (putF f y vs))) env st2 ∧ Ext g H g (upd H a (.ins (C.cls c) ix (putF f y vs))) := by
  unfold setFD at h
  split at h
  · rename_i n
    split at h
    · rename_i c fs hs
      split at h
      · rename_i hc
        cases h
        simp only [Bool.and_eq_true, decide_eq_true_eq] at hc
        obtain ⟨a, ix, vs, rfl, hρ, hH, rf⟩ := ref_ins rep hs vx
        have nf := rep.sto.nf n a hρ
        have ex : Ext g H g (upd H a (.ins (C.cls c) ix (putF f y vs))) := Ext.prv nf
        obtain ⟨rep2, ex2⟩ := rep.setSt (ho := .ins (C.cls c) ix (putF f y vs)) hs hρ (o' := .ins c (putFD f dy fs)) ⟨ix, putF f y vs, upd_same, RFs.ext ex (RFs.put vy rf)⟩
        exact ⟨c, a, ix, vs, hc.1, rfl, hH, by rw [RFs.len rf]; exact hc.2, rep2, ex2⟩
      · cases h
    · cases h
  · cases h
/-! ### methods -/
theorem star_nil (l : List (Bool × Sem Value)) (h : l = []) (pos : Pos) : (backTo pos l).any (·.1) = false := by subst h; rfl
theorem meth_tree {o : Expr} {m : Str} {apos pos : Pos} {args : List Expr} {env : PySem.Env} (hbase : attributeBase o m env (eval o env) = eval o env) (hs : (starEach args env).any (·.1) = false) (hl : args.length < 20) (hline : (apos.endLine == pos.line) = true) :
    eval (.Call (.Attribute o m apos) args [] pos) env = (do
      let ov ← eval o env
      standAt apos.atName
      let (f, first) ← holding [ov] (getMethod ov m (do return (← importBound o env).getD true))
      callWith pos f first (backTo pos (starEach args env)) (backToKw pos (keywordEach [] env))) := by
  have hall : (backTo pos (starEach args env)).all (fun x => !x.1) = true := by
    rw [List.all_eq_not_any_not]
    have h := hs
    rw [← backTo_any pos] at h
    simpa using h
  have hform : methodCallForm (args.length + ([] : List Keyword).length) (backTo pos (starEach args env)) (backToKw pos (keywordEach [] env)) = true := by
    unfold methodCallForm
    rw [hall]
    have : args.length + ([] : List Keyword).length + (if (backToKw pos (keywordEach [] env)).isEmpty then 0 else 1) < 30 := by
      show args.length + 0 + 0 < 30
      omega
    rw [decide_eq_true this]
    rfl
  have hpos : methodCallPos true o env apos pos = pure pos := by unfold methodCallPos; simp [hline]
  rw [arm_eval_Call, hbase]
  unfold methodCall calleeOf
  rw [hform]
  simp only [if_true, hpos, pure_bind]
def tMethD (X : Cx) (W : WX) (m : Str) (ta : TE) (t : TA) : TE := fun σ H Q => ta σ H fun x H1 => ∃ (a Cl dx : Addr) (fs : List (Str × V)) (g : Addr) (k : Nat) (fd : FuncData) (ps : List Str) (sp : Sp), x = .ref a ∧ H1 a = some (.ins Cl dx fs) ∧ Cls X.K Cl ∧ Meth X.K Cl m g ∧ fs.lookup m = none ∧
  FnOk X.prog X.w X.K X.mg X.base (L2.CX X.prog X.w) k g fd ps sp ∧ Room k X.A ∧ Binds X.K fd ps [] ∧ t σ H1 fun vs H2 => sp (x :: vs) H2 Q (WE W σ)
theorem pe_methD {W : WX} {o : Expr} {m : Str} {apos pos : Pos} {es : List Expr} {ta : TE} {t : TA} (tk : Takes X W) (he : PE X o ta) (ha : PA X es t) (hbase : attributeBase o m X.env (eval o X.env) = eval o X.env) (hs : (starEach es X.env).any (·.1) = false) (hl : es.length < 20) (hline : (apos.endLine == pos.line) = true)
    (hst : ∀ e r, es = e :: r → starEach es X.env = (false, eval e X.env) :: starEach r X.env) (h0 : es = [] → ∀ σ H Q, t σ H Q → Q [] H) : PE X (.Call (.Attribute o m apos) es [] pos) (tMethD X W m ta t) := by
  refine ⟨fun pins s σ H Q I h => ?_⟩
  refine PySem.W.methodCall_KW (thn (he.run pins s σ H _ I h) fun u s1 ⟨x, H1, I1, rx, a, Cl, dx, fs, g, k, fd, ps, sp, ex, ea, c, hm, l, F, hr, hb, q⟩ => ?_) (meth_tree hbase hs hl hline)
  subst ex
  obtain rfl : u = Value.ref a := rx
  refine getmeth_ok I1 ea c hm l ?_
  cases es with
  | nil =>
    exact PySem.W.callWith_K0 (first := [.ref a]) I1.kIn hm.kp (run_fnS (E := WE W) (us := [.ref a]) (vs := [.ref a]) F hr hb (passAt tk σ) I1 (.cons rfl .nil) (h0 rfl σ H1 _ q))
  | cons e r =>
    have e0 := hst e r rfl
    rw [e0] at hs
    refine PySem.W.callWith_K (first := [.ref a]) (h₀ := X.base) I.ok.mod.kin hm.kp (thn (ha.run pos pins s1 σ H1 _ I1 q) fun us s2 ⟨vs, H2, I2, r2, q2⟩ => ⟨I2.kIn, ?_⟩) e0 (by rw [backTo_any]; exact hs)
    exact run_fnS (E := WE W) (us := .ref a :: us) (vs := .ref a :: vs) F hr hb (passAt tk σ) I2 (.cons rfl r2) q2
theorem lookup_mem {c f : Nat} : ∀ {l : List (Nat × Nat)}, l.lookup c = some f → (c, f) ∈ l
  | [], h => by cases h
  | (a, b) :: r, h => by
    rw [List.lookup_cons] at h
    by_cases e : (c == a) = true
    · rw [e] at h
      cases h
      rw [eq_of_beq e]
      exact List.mem_cons_self
    · rw [Bool.eq_false_iff.mpr e] at h
      exact List.mem_cons_of_mem _ (lookup_mem h)
/-- o.m(..) -/
theorem pe_callM (hK : X.K = C.K) (tk : Takes X C.W) {cs : List (Nat × Nat)} {o : Expr} {m : Str} {apos pos : Pos} {es : List Expr} {mo : Env → Store → Res D} {ms : Env → Store → Res (List D)} (hcm : ∀ c f, (c, f) ∈ cs → MethOk C T X c m f) (ho : PE X o (rd C (rV C) mo)) (ha : PA X es (rd C (rVs C) ms))
    (hbase : baseB o = true) (hs : (starEach es X.env).any (·.1) = false) (hl : es.length < 20) (hline : (apos.endLine == pos.line) = true) (hst : ∀ e r, es = e :: r → starEach es X.env = (false, eval e X.env) :: starEach r X.env) (hnil : es = [] → ∀ env st, ms env st = .ok [] st) :
    PE X (.Call (.Attribute o m apos) es [] pos) (rd C (rV C) fun env st => (mo env st).bind fun x st => (Res.of (methD cs st x m) st).bind fun f st => (ms env st).bind fun ds st => T.fn f (x :: ds) st) := by
  refine (pe_methD tk ho ha (base_of hbase _ _ _) hs hl hline hst (fun e σ H Q q => ?_)).of fun σ H Q q => ?_
  · obtain ⟨g, env, st, rep, go⟩ := q
    have go : Go C σ env (rVs C σ env) g H (ms env st) Q := go
    rw [hnil e] at go
    exact Go.end_ go rep .nil
  · obtain ⟨g, env, st, rep, go⟩ := q
    refine ⟨g, env, st, rep, (Go.bind (R := rV C σ env) go).imp fun x H1 ⟨d, st1, g1, e1, rep1, v1, go1⟩ => ?_⟩
    obtain ⟨f, hf, go2⟩ := Go.ofB (show Go C σ env (rV C σ env) g1 H1 ((Res.of (methD cs st1 d m) st1).bind fun f st => (ms env st).bind fun ds st => T.fn f (d :: ds) st) Q from go1)
    unfold methD at hf
    split at hf
    · rename_i n
      split at hf
      · rename_i c fs hst1
        split at hf
        · rename_i hno
          obtain ⟨a, dx, vs, rfl, hρ, hH, rf⟩ := ref_ins rep1 hst1 v1
          obtain ⟨ga, fd, k, ps, k1, k2, k3, k4, k5, k6⟩ := hcm c f (lookup_mem hf)
          refine ⟨a, C.cls c, dx, vs, ga, k, fd, ps, spD C ps.length (T.fn f), rfl, hH, k1, k2, (RFs.look rf).2 (by cases hq : fs.lookup m with | none => rfl | some z => rw [hq] at hno; cases hno), k5, k4, k3, g1, env, st1, rep1, ?_⟩
          refine (Go.bind (R := rVs C σ env) go2).imp fun zs H2 ⟨ds, st2, g2, e2, rep2, v2, go3⟩ => ?_
          have rv : RVs C.K g2 H2 (.ref a :: zs) (.ref n :: ds) := .cons (.ref (e2.ρ _ _ hρ)) v2
          by_cases hl : (D.ref n :: ds).length = ps.length
          · exact spD_go rep2 rv (by rw [← hl]; exact rv.length) go3
          · have go3 : Go C σ env (rV C σ env) g2 H2 (T.fn f (.ref n :: ds) st2) Q := go3
            rw [k6 _ _ hl] at go3
            exact go3.elim
        · cases hf
      · cases hf
    · cases hf
/-! ### making -/
theorem run_makeS {CX : CXT} {k : Nat} {f Cl : Addr} {fd : FuncData} {ps : List Str} {sp : Sp} {E : L2.St → XK} {pins : List (Addr × Obj)} {σ : L2.St} {H : Hp} {s : Shared} {Q : VK} {us : List Value} {vs : List V} (M : Mk X.K Cl f) (F : FnOk X.prog X.w X.K X.mg X.base CX k f fd ps sp)
    (hr : Room (k + 1) X.A) (hb : Binds X.K fd ps []) (hx : PassesAt CX X σ (E σ)) (I : Inv X pins σ H s) (r : Vals vs us) (h : ∀ x dx, H x = none → H dx = none → dx ≠ x → sp (.ref x :: vs) (upd (upd H dx (.own x)) x (.ins Cl dx [])) (fun v H2 => v = .non ∧ Q (.ref x) H2) (E σ)) :
    wpAny (model X.prog X.w) X.A (call (.ref Cl) us) (EP X pins σ Q) X.xe s := by
  have J := Inv.made (C := Cl) I
  have sp1 := h (s.heap.objs.size + 1) s.heap.objs.size (I.hok.fresh (Nat.le_succ _)) (I.hok.fresh (Nat.le_refl _)) (Nat.ne_of_lt (Nat.lt_succ_self _))
  have rel : Vals (V.ref (s.heap.objs.size + 1) :: vs) (Value.ref (s.heap.objs.size + 1) :: us) := .cons rfl r
  have many := rel.length.symm.trans (F.len _ _ _ _ sp1)
  have bound := hb _ (Value.ref (s.heap.objs.size + 1) :: us) J.kIn ((congrArg List.length (List.append_nil _)).trans many)
  rw [List.append_nil] at bound
  have body := F.run _ X.stack _ _ ⟨Value.ref (s.heap.objs.size + 1) :: us, []⟩ _ _ _ (E σ) (hr.make Cl us []) (J.env0.make Cl us []) bound rel sp1
  refine wpAny_call (make_map (f := f) I.kIn M.makes M.init (beq_iff_eq.mp M.fn) (codeAny_mono body fun res s2 hres => ?_))
  match res, hres with
  | .error e, hres => exact hx pins _ _ e s2 J hres
  | .ok (.ret u), hres =>
    have ⟨v, H2, J2, rv, ev, fin⟩ := J.after hres
    subst ev
    exact ⟨rv, V.ref (s.heap.objs.size + 1), H2, J2, rfl, fin⟩
theorem pe_makeD (hK : X.K = C.K) (tk : Takes X C.W) {c f : Nat} {x : Str} {p pos : Pos} {es : List Expr} {ms : Env → Store → Res (List D)} (hck : MakeOk C T X c x f) (hg : Gl X x) (hdb : (x == ("__debug__" : Str)) = false) (ha : PA X es (rd C (rVs C) ms))
    (hs : (starEach es X.env).any (·.1) = false) (hst : ∀ e r, es = e :: r → starEach es X.env = (false, eval e X.env) :: starEach r X.env) (hnil : es = [] → ∀ env st, ms env st = .ok [] st) :
    PE X (.Call (.Name x p) es [] pos) (rd C (rV C) fun env st => (ms env st).bind fun ds st => (T.fn f (.ref st.length :: ds) (st ++ [.ins c []])).bind fun d st2 => match d with
    | .non => .ok (.ref st.length) st2
    | _ => .no) := by
  obtain ⟨ga, fd, k, ps, M, hm, hb, hr, F, h0⟩ := hck
  refine ⟨fun pins s σ H Q I q => ?_⟩
  refine wpAny_Call_Name_kw (ld_glob I hg hm ?_ hdb)
  obtain ⟨g, env, st, rep, go⟩ := q
  have fin : ∀ (us : List Value) (s2 : Shared) (H2 : Hp) (vs : List V) (g2 : G) (st2 : Store) (ds : List D), Inv X pins σ H2 s2 → Vals vs us → Rep C g2 σ H2 env st2 → RVs C.K g2 H2 vs ds →
      Go C σ env (rV C σ env) g2 H2 ((T.fn f (.ref st2.length :: ds) (st2 ++ [.ins c []])).bind fun d st3 => match d with
        | .non => .ok (.ref st2.length) st3
        | _ => .no) Q → wpAny (model X.prog X.w) X.A (call (.ref (C.cls c)) us) (EP X pins σ Q) X.xe s2 := by
    intro us s2 H2 vs g2 st2 ds I2 r2 rep2 v2 go2
    refine run_makeS (E := WE C.W) M F hr hb (passAt tk σ) I2 r2 fun y dy hy hdy ne => ?_
    have gr := Grow.lay (g := g2) (o := .own y) hdy
    have rep3 := rep2.grow gr
    have hy' : upd H2 dy (.own y) y = none := by rw [upd_ne (Ne.symm ne)]; exact hy
    have ex4 := Ext.alloc (o := .ins (C.cls c) dy []) rep3.sto hy'
    have rep4 : Rep C (g2.bind st2.length y) σ (upd (upd H2 dy (.own y)) y (.ins (C.cls c) dy [])) env (st2 ++ [.ins c []]) := rep3.alloc hy' ⟨dy, [], upd_same, .nil⟩
    have ex := gr.ext.trans ex4
    have hρ : (g2.bind st2.length y).ρ st2.length = some y := by show (if st2.length = st2.length then some y else _) = some y; rw [if_pos rfl]
    have rv : RVs C.K (g2.bind st2.length y) (upd (upd H2 dy (.own y)) y (.ins (C.cls c) dy [])) (.ref y :: vs) (.ref st2.length :: ds) := .cons (.ref hρ) (v2.ext ex)
    have go3 := Go.mono go2 ex
    have go4 : Go C σ env (rV C σ env) (g2.bind st2.length y) (upd (upd H2 dy (.own y)) y (.ins (C.cls c) dy [])) (T.fn f (.ref st2.length :: ds) (st2 ++ [.ins c []])) (fun v H2 => v = .non ∧ Q (.ref y) H2) := by
      cases hr2 : T.fn f (.ref st2.length :: ds) (st2 ++ [.ins c []]) with
      | no => rw [hr2] at go3; exact go3.elim
      | ex e s3 => rw [hr2] at go3; exact go3
      | ok d s3 =>
        rw [hr2] at go3
        simp only [bind_ok] at go3
        cases d with
        | non =>
          intro g5 H5 v ex5 rep5 rv5
          cases (show RV C.K g5 H5 v .non from rv5)
          exact ⟨rfl, go3 g5 H5 (.ref y) ex5 rep5 (.ref (ex5.ρ _ _ hρ))⟩
        | _ => exact go3.elim
    by_cases hl : (D.ref st2.length :: ds).length = ps.length
    · exact spD_go (n := ps.length) rep4 rv (by rw [← hl]; exact rv.length) go4
    · rw [h0 _ _ hl] at go4
      exact go4.elim
  cases es with
  | nil =>
    dsimp only at go
    rw [hnil rfl] at go
    exact PySem.W.callWith_K0 I.kIn M.kp (fin [] s H [] g st [] I .nil rep .nil go)
  | cons e r =>
    have e0 := hst e r rfl
    rw [e0] at hs
    have hA : rd C (rVs C) ms σ H fun vs H2 => ∃ g2 st2 ds, Rep C g2 σ H2 env st2 ∧ RVs C.K g2 H2 vs ds ∧ Go C σ env (rV C σ env) g2 H2 ((T.fn f (.ref st2.length :: ds) (st2 ++ [.ins c []])).bind fun d st3 => match d with
        | .non => .ok (.ref st2.length) st3
        | _ => .no) Q := ⟨g, env, st, rep, (Go.bind (R := rVs C σ env) go).imp fun vs H2 ⟨ds, st2, g2, e2, rep2, v2, go2⟩ => ⟨g2, st2, ds, rep2, v2, go2⟩⟩
    refine PySem.W.callWith_K (h₀ := X.base) I.ok.mod.kin M.kp (thn (ha.run pos pins s σ H _ I hA) fun us s2 ⟨vs, H2, I2, r2, g2, st2, ds, rep2, v2, go2⟩ => ⟨I2.kIn, ?_⟩) e0 (by rw [backTo_any]; exact hs)
    exact fin us s2 H2 vs g2 st2 ds I2 r2 rep2 v2 go2
/-! ### the module's tables -/
theorem tv_of {l : List (Str × List (Str × D))} {x : Str} {t : List (Str × D)} (h : l.any (fun p => decide (p.1 = x) && tabEq p.2 t) = true) : (x, t) ∈ l := by
  obtain ⟨⟨y, u⟩, hp, e⟩ := List.any_eq_true.mp h
  simp only [Bool.and_eq_true, decide_eq_true_eq] at e
  rw [← e.1, ← tabEq_eq e.2]
  exact hp
theorem pe_tabI (hK : X.K = C.K) {x : Str} {t : List (Str × D)} {p pos : Pos} {ei : Expr} {m : Env → Store → Res D} (htv : TvOk X x t) (hg : Gl X x) (hdb : (x == ("__debug__" : Str)) = false) (hE : PE X ei (rd C (rV C) m)) (hi : PlainIx ei) :
    PE X (.Subscript (.Name x p) ei pos) (rd C (rV C) fun env st => (m env st).bind fun d st => .of (tabD t d) st) := by
  obtain ⟨d, es, n, hm, K0, hv⟩ := htv
  refine (pe_ix ix_kdict (pe_glob (v := .ref d) hg hm rfl hdb) hE hi).of fun σ H Q q => ?_
  obtain ⟨g, env, st, rep, go⟩ := q
  refine ⟨g, env, st, rep, (Go.bind (R := rV C σ env) go).imp fun y H1 ⟨dy, st1, g1, e1, rep1, v1, go1⟩ => ?_⟩
  obtain ⟨w, hw, go2⟩ := Go.of (show Go C σ env (rV C σ env) g1 H1 (.of (tabD t dy) st1) Q from go1)
  unfold tabD at hw
  split at hw
  · rename_i z
    cases (show RV C.K g1 H1 y (.str z) from v1)
    have h := hv z
    rw [hw] at h
    obtain ⟨u, v, e1, e2, e3⟩ := h
    exact ⟨d, z, v, rfl, rfl, ⟨es, n, u, K0.at_, K0.lit, e1, e2⟩, go2.end_ rep1 (by have := e3 g1 H1; rw [hK] at this; exact this)⟩
  · cases hw
theorem kd_get2 {d : Addr} {es : Array DictEntry} {n : Nat} (K0 : KDict X.K X.w d es n) {pins : List (Addr × Obj)} {s : Shared} {σ : L2.St} {H : Hp} {z : Str} {tk : Tok} {w : Value} {r : Option Value} {Q : VK} (I : Inv X pins σ H s) (hr : PySem.W.nsIn X.K d z = some r)
    (h : ∀ s', Inv X pins σ H s' → EP X pins σ Q (r.getD w) s') : wpAny (model X.prog X.w) X.A (call (.builtin "dict.get") [.ref d, .str z tk, w]) (EP X pins σ Q) X.xe s := by
  have hm := PySem.W.mapOf_K (prog := X.prog) (w := X.w) I.kIn K0.at_ K0.lit
  refine call_meetsIn PySem.F.slot_dict_get hm.typeIs PySem.F.entry_dict_get (PySem.F.args_dict_get_3 _ _ _) (meets_dict_get_default (strKind X.prog X.w) d (PySem.strKind_is X.prog X.w z tk) K0.low w) ⟨_, hm, ?_⟩
  rw [PySem.W.find_K K0.at_ hr]
  exact h _ (I.tok _)
theorem pe_tabG (hK : X.K = C.K) {x : Str} {t : List (Str × D)} {p ap pos : Pos} {ea eb : Expr} {m m2 : Env → Store → Res D} (htv : TvOk X x t) (hg : Gl X x) (hdb : (x == ("__debug__" : Str)) = false) (hline : (ap.endLine == pos.line) = true) (oa : opB ea = true) (ob : opB eb = true) (hA : PA X [ea, eb] (rd C (rVs C) fun env st => (m env st).bind fun d st => (m2 env st).bind fun d2 st => .ok [d, d2] st)) :
    PE X (.Call (.Attribute (.Name x p) "get" ap) [ea, eb] [] pos) (rd C (rV C) fun env st => (m env st).bind fun d st => (m2 env st).bind fun e st => .of (tabGD t e d) st) := by
  obtain ⟨d, es, n, hm, K0, hv⟩ := htv
  have hs : (starEach [ea, eb] X.env).any (·.1) = false := by rw [star_of oa, star_of ob]; rfl
  have hall : (backTo pos (starEach [ea, eb] X.env)).all (fun x => !x.1) = true := by
    have h := hs
    rw [← backTo_any pos] at h
    rw [List.all_eq_not_any_not]
    simpa using h
  have hfew : ((backTo pos (starEach [ea, eb] X.env)).all (fun x => !x.1) && (backToKw pos (keywordEach [] X.env)).all (fun x => x.1.isSome)
      && decide ([ea, eb].length + ([] : List Keyword).length + (if ([] : List Keyword).isEmpty then 0 else 1) < 30)) = true := by
    rw [hall]
    rfl
  have ho : PE X (.Name x p) (tC (.ref d)) := pe_glob (v := .ref d) hg hm rfl hdb
  refine ⟨fun pins s σ H Q I q => ?_⟩
  obtain ⟨g, env, st, rep, go⟩ := q
  refine wpAny_Call_method_late (base_of (o := .Name x p) rfl _ _ _) hfew hline rfl (thn (ho.run pins s σ H (fun v H' => v = .ref d ∧ H' = H) I ⟨rfl, rfl⟩) fun v s1 ⟨xv, H1, I1, r1, e1, e2⟩ => ?_)
  subst e1 e2
  obtain rfl : v = Value.ref d := r1
  refine ⟨"dict", "dict.get", PySem.F.plainAttrs_dict, PySem.F.slot_dict_get, PySem.F.type_dict_get, kd_type K0 I1, fun a e => ?_, ?_⟩
  · cases e
    exact ⟨_, I1.kIn _ _ K0.at_, rfl⟩
  have hAr := hA.run pos pins s1 σ H1 (fun vs H2 => ∃ y w z dw g2 st2, vs = [y, w] ∧ y = .str z ∧ Rep C g2 σ H2 env st2 ∧ RV C.K g2 H2 w dw ∧ Go C σ env (rV C σ env) g2 H2 (.ok ((t.lookup z).getD dw) st2) Q) I1 ⟨g, env, st, rep, ?_⟩
  · rw [star_of oa] at hAr hs ⊢
    refine Calls.callWith_builtin (by rw [backTo_any]; exact hs) (Calls.evalArgs_plain ?_)
    refine thn hAr fun us s2 ⟨vs, H2, I2, r2, y, w, z, dw, g2, st2, ev, ey, rep2, rw_, go2⟩ => ?_
    subst ev ey
    obtain ⟨u, uw, rfl, ru, ruw⟩ := vals2 r2
    obtain ⟨tk, rfl⟩ := ru
    have hz := hv z
    cases hl : t.lookup z with
    | none =>
      rw [hl] at hz go2
      exact kd_get2 K0 I2 hz fun s' I' => ⟨w, H2, I', ruw, go2.end_ rep2 rw_⟩
    | some e =>
      rw [hl] at hz go2
      obtain ⟨u0, v0, q1, q2, q3⟩ := hz
      exact kd_get2 K0 I2 q1 fun s' I' => ⟨v0, H2, I', q2, go2.end_ rep2 (by have := q3 g2 H2; rw [hK] at this; exact this)⟩
  · refine go_two go fun dd d2 st1 g1 H2 y w e1 rep1 v1 v2 go1 => ?_
    obtain ⟨r, hr, go2⟩ := Go.of (show Go C σ env (rV C σ env) g1 H2 (.of (tabGD t d2 dd) st1) Q from go1)
    unfold tabGD at hr
    split at hr
    · rename_i z
      cases hr
      cases (show RV C.K g1 H2 y (.str z) from v1)
      exact ⟨_, w, z, d2, g1, st1, rfl, rfl, rep1, v2, go2⟩
    · cases hr
/-! ### displayed dicts -/
theorem Good.pr (Z : Good C T S sc X) (pr : List (Addr × HO)) : Good (C.pr' pr) T S sc X := ⟨Z.hN, Z.nd, Z.scp, Z.calm, Z.K, Z.tk, Z.hu, Z.blt, Z.fn, Z.con, Z.kc, Z.kd, Z.ca, Z.cm, Z.ck, Z.tv, Z.xs, Z.xm, Z.xi, Z.co⟩
/-- a display's pairs -/
def PD (T : Tb) (C : Ct) (X : Cx) (ks : List Str) (l : As) (keys : List (Option Expr)) (es : List Expr) (pos : Pos) : Prop := ∃ trs, PPs X pos keys es trs ∧ ∀ pr σ H (Q : List (V × V) → Hp → Prop), rd (C.pr' pr) (rVs (C.pr' pr)) (fun env st => evs T l env st) σ H (fun vs H' => Q ((ks.map V.str).zip vs) H') → tPairs trs σ H Q
theorem pd_nil {pos : Pos} : PD T C X [] .nil [] [] pos := ⟨[], pps_nil, fun pr σ H Q ⟨g, env, st, rep, go⟩ => (show Go (C.pr' pr) σ env (rVs (C.pr' pr) σ env) g H (.ok [] st) (fun vs H' => Q (([] : List V).zip vs) H') from go) g H [] (Ext.refl g H) rep RVs.nil⟩
theorem pd_cons {k : Str} {ks : List Str} {a : A} {l : As} {e : Expr} {keys : List (Option Expr)} {es : List Expr} {pos kp : Pos} {kk : Nat} (hE : ∀ pr, PE X e (rd (C.pr' pr) (rV (C.pr' pr)) fun env st => ev T a env st)) (h : PD T C X ks l keys es pos) : PD T C X (k :: ks) (.cons a l) (some (.Constant (.str k) kk kp) :: keys) (e :: es) pos := by
  obtain ⟨trs, h1, h2⟩ := h
  refine ⟨_, pps_cons (tk := tC (.str k)) (tv := fun σ H Q => ∃ pr, rd (C.pr' pr) (rV (C.pr' pr)) (fun env st => ev T a env st) σ H Q) pe_str ⟨fun pins s σ H Q I ⟨pr, q⟩ => (hE pr).run pins s σ H Q I q⟩ h1, fun pr σ H Q q => ?_⟩
  obtain ⟨g, env, st, rep, go⟩ := q
  refine ⟨pr, g, env, st, rep, (Go.bind (R := rV (C.pr' pr) σ env) go).imp fun y H1 ⟨d, st1, g1, e1, rep1, v1, go1⟩ => ?_⟩
  refine h2 pr σ H1 _ ⟨g1, env, st1, rep1, (Go.bind (R := rVs (C.pr' pr) σ env) go1).imp fun vs H2 ⟨ds, st2, g2, e2, rep2, v2, go2⟩ => ?_⟩
  exact (show Go (C.pr' pr) σ env (rVs (C.pr' pr) σ env) g2 H2 (.ok (d :: ds) st2) (fun vs H' => Q (((k :: ks).map V.str).zip vs) H') from go2) g2 H2 (y :: vs) (Ext.refl g2 H2) rep2 (RVs.cons (RV.ext e2 v1) v2)
theorem zip_rks {K : PySem.W.Frag} {g : G} {H : Hp} : ∀ {ks : List Str} {vs : List V} {ds : List D}, RVs K g H vs ds → ks.length = ds.length → ∃ kvs : List (Key × V), (ks.map V.str).zip vs = kvs.map (fun kv => (kV kv.1, kv.2)) ∧ kvs.length = ks.length ∧ RKs K g H kvs ((ks.map D.str).zip ds)
  | [], [], [], .nil, _ => ⟨[], rfl, rfl, .nil⟩
  | k :: ks, v :: vs, d :: ds, .cons h t, hl => by
    obtain ⟨kvs, h1, h2, h3⟩ := zip_rks (ks := ks) t (by simpa using hl)
    exact ⟨(.inr k, v) :: kvs, by rw [List.map_cons, List.zip_cons_cons, h1]; rfl, by rw [List.length_cons, List.length_cons, h2], .cons h h3⟩
  | [], _ :: _, _ :: _, .cons _ _, hl => by cases hl
  | _ :: _, [], [], .nil, hl => by cases hl
theorem disp_core {R' : L2.St → Env → G → Hp → V → γ → Prop} {fin : List (D × D) → Store → Res γ} {ks : List Str} {l : As} {keys : List (Option Expr)} {es : List Expr} {pos : Pos} (h : PD T C X ks l keys es pos) (hk : keys.all (·.isSome) = true) (hl : keys.length = es.length) (h0 : keys ≠ []) (h15 : keys.length ≤ 15)
    (hfin : ∀ σ env g2 H2 acc vacc st2 p (Q : VK), Rep (C.pr' ((p, .dK vacc) :: C.pr)) g2 σ H2 env st2 → RKs C.K g2 H2 vacc acc → Go C σ env (R' σ env) g2 H2 (fin acc st2) Q → Q (.ref p) H2) :
    PE X (.Dict keys es pos) (rd C R' fun env st => (evs T l env st).bind fun ds st => if ks.length = ds.length ∧ ks.length ≤ 15 then fin (mergeD [] ((ks.map D.str).zip ds)) st else .no) := by
  obtain ⟨trs, h1, h2⟩ := h
  refine (pe_disp h1 hk hl h0 h15).of fun σ H Q q => fun p hp => ?_
  obtain ⟨g, env, st, rep, go⟩ := q
  have gr := Grow.lay (g := g) (o := .dK []) hp
  have rep1 : Rep (C.pr' ((p, .dK []) :: C.pr)) g σ (upd H p (.dK [])) env st := rep.prAdd hp
  refine h2 ((p, .dK []) :: C.pr) σ (upd H p (.dK [])) _ ⟨g, env, st, rep1, ?_⟩
  have go := Go.mono go gr.ext
  have go : Go C σ env (R' σ env) g (upd H p (.dK [])) ((evs T l env st).bind fun ds st => if ks.length = ds.length ∧ ks.length ≤ 15 then fin (mergeD [] ((ks.map D.str).zip ds)) st else .no) Q := go
  show Go (C.pr' ((p, .dK []) :: C.pr)) σ env (rVs C σ env) g (upd H p (.dK [])) (evs T l env st) _
  cases hr : evs T l env st with
  | no => rw [hr] at go; exact go.elim
  | ex x s => rw [hr] at go; exact fun g' H' c d e r rx => go g' H' c d e r.prDrop rx
  | ok ds s =>
    rw [hr] at go
    simp only [bind_ok] at go
    split at go
    · rename_i hz
      intro g2 H2 vs ex2 rep2 rv2
      obtain ⟨q1, q2, q3, q4⟩ := rep2.prv (p, .dK []) List.mem_cons_self
      obtain ⟨kvs, k1, k2, k3⟩ := zip_rks (ks := ks) (show RVs C.K g2 H2 vs ds from rv2) hz.1
      refine ⟨q1, kvs, k1, by rw [k2]; exact hz.2, ?_⟩
      have exD : Ext g2 H2 g2 (upd H2 p (.dK (mergeK [] kvs))) := Ext.prv q2
      exact hfin σ env g2 _ _ _ s p Q rep2.prSet ((merge_rks k3 .nil).ext exD) (Go.mono go (ex2.trans exD))
    · exact go.elim
/-! ### new things of one's own -/
theorem new_lstG {es : List Expr} {pos : Pos} {ms : Env → Store → Res (List D)} (h : PA X es (rd C (rVs C) ms)) : PE X (.List es pos) (rd C (rO C) fun env st => ((ms env st).bind fun ds st => if small ds.length then .ok (.lst ds) st else (.no : Res D)).bind fun d st => .of d.toO st) :=
  (pe_lst h).of fun σ H Q q => by
    obtain ⟨g, env, st, rep, go⟩ := q
    have go : Go C σ env (rO C σ env) g H ((ms env st).bind fun ds st => (if small ds.length then .ok (.lst ds) st else .no : Res D).bind fun d st => .of d.toO st) Q := by
      have e : ((ms env st).bind fun ds st => if small ds.length then .ok (.lst ds) st else (.no : Res D)).bind (fun d st => Res.of d.toO st) = (ms env st).bind fun ds st => (if small ds.length then .ok (.lst ds) st else .no : Res D).bind fun d st => .of d.toO st := by
        cases ms env st <;> rfl
      rw [← e]
      exact go
    refine ⟨g, env, st, rep, (Go.bind (R := rVs C σ env) go).imp fun xs H1 ⟨ds, st1, g1, e1, rep1, v1, go1⟩ => ?_⟩
    have go1 : Go C σ env (rO C σ env) g1 H1 ((if small ds.length then .ok (.lst ds) st1 else .no : Res D).bind fun d st => .of d.toO st) Q := go1
    split at go1
    · rename_i hz
      refine ⟨by rw [RVs.length v1]; exact of_decide_eq_true hz, fun p hp => ?_⟩
      have gr := Grow.lay (g := g1) (o := .lst xs) hp
      exact go1 g1 _ _ gr.ext (rep1.grow gr) ⟨p, rfl, Fre.new rep1 hp ⟨xs, upd_same, RVs.ext gr.ext v1⟩⟩
    · exact go1.elim
/-- dict(x) of one's own -/
def rcO (C : Ct) (f : List D → Option D) : List V → Hp → VK → Prop := fun xs H Q => ∃ g σ env st ds, Rep C g σ H env st ∧ RBs C σ env g H xs ds ∧ Go C σ env (rO C σ env) g H ((Res.of (f (ds.map (drf st))) st).bind fun d st => .of d.toO st) Q
theorem dict_newP (hK : X.K = C.K) (hc : X.calm = true) {p : Prim} (hp : primId p = some (("dict" : Str), .type "dict")) : CallR X (.type "dict") (rcO C (primD p)) := by
  intro pins s σ H xs us Q I r h
  obtain ⟨g, σ', env, st, ds, rep, vs, go⟩ := h
  obtain ⟨d, hd, go2⟩ := go.ofB
  clear go
  have go := go2
  clear go2
  have vs := vs.sees rep
  revert vs hd
  generalize ds.map (drf st) = es
  intro hd vs
  have fin : ∀ {ms : List (Key × V)} {l : List (D × D)}, d = .dct .k l → RKs C.K g H ms l → ∀ p, H p = none → Q (.ref p) (upd H p (.dK ms)) := fun {ms l} e rk p hp => by
    subst e
    have gr := Grow.lay (g := g) (o := .dK ms) hp
    have go : Go C σ' env (rO C σ' env) g H (.ok (.dct .k l) st) Q := go
    exact go g _ _ gr.ext (rep.grow gr) ⟨p, rfl, Fre.new rep hp ⟨ms, upd_same, rk.ext gr.ext⟩⟩
  unfold primD at hd
  split at hd <;> try (cases hp; done)
  · split at hd
    · rename_i ps e1
      split at hd
      · rename_i hz
        cases hd
        simp only [Bool.and_eq_true] at hz
        obtain ⟨x, rfl, a, ws, rfl, hq, rr⟩ := rc1 vs
        obtain ⟨as, kvs, h1, h2, h3, h4⟩ := pairs_rv hK rr e1 hz.1
        subst h1
        exact call_dictT hc pins s σ H _ us Q I r ⟨a, as, kvs, rfl, by rw [hK]; exact hq.xt, h2, fin rfl (merge_rks h3 .nil)⟩
      · cases hd
    · cases hd
  · split at hd
    · rename_i ps e1
      split at hd
      · rename_i hz
        cases hd
        simp only [Bool.and_eq_true] at hz
        obtain ⟨x, rfl, a, ws, rfl, hq, rr⟩ := rc1 vs
        obtain ⟨as, kvs, h1, h2, h3, h4⟩ := pairs_rv hK rr e1 hz.1
        subst h1
        exact call_dictP hc pins s σ H _ us Q I r ⟨a, as, kvs, rfl, by rw [hK]; exact hq, h2, fin rfl (merge_rks h3 .nil)⟩
      · cases hd
    · cases hd
  · cases hd
theorem new_dictG (Z : Good C T S sc X) {x : Str} {px pos : Pos} {e0 : Expr} {es : List Expr} {ms : Env → Store → Res (List D)} (hx : x = "dict") (hg : glbB sc x = true) (ho : opB e0 = true) (hs : (starEach es X.env).any (·.1) = false)
    (ha : PA X (e0 :: es) (rd C (RBs C) ms)) : PE X (.Call (.Name x px) (e0 :: es) [] pos) (rd C (rO C) fun env st => ((ms env st).bind fun ds st => .of (primD .dict_ (ds.map (drf st))) st).bind fun d st => .of d.toO st) := by
  subst hx
  obtain ⟨g1, g2⟩ := gl_of Z hg
  have hp : primId .dict_ = some (("dict" : Str), .type "dict") := rfl
  obtain ⟨b1, b2, b3⟩ := boot_of hp
  have hr := dict_newP (C := C) Z.K Z.calm hp
  have hpl : (backTo pos (starEach es X.env)).any (·.1) = false := by rw [backTo_any]; exact hs
  have fin : PE X (.Call (.Name "dict" px) (e0 :: es) [] pos) (tCB (rcO C (primD .dict_)) (rd C (RBs C) ms)) := pe_callTy hr g1 (Z.mg b2) b1 ha b3 g2 (star_of ho _ _) hpl
  refine fin.of fun σ H Q q => ?_
  obtain ⟨g, env, st, rep, go⟩ := q
  have go : Go C σ env (rO C σ env) g H ((ms env st).bind fun ds st => (Res.of (primD .dict_ (ds.map (drf st))) st).bind fun d st => .of d.toO st) Q := by
    have e : ((ms env st).bind fun ds st => Res.of (primD .dict_ (ds.map (drf st))) st).bind (fun d st => Res.of d.toO st) = (ms env st).bind fun ds st => (Res.of (primD .dict_ (ds.map (drf st))) st).bind fun d st => .of d.toO st := by
      cases ms env st <;> rfl
    rw [← e]
    exact go
  refine ⟨g, env, st, rep, (Go.bind (R := RBs C σ env) go).imp fun xs H1 ⟨ds, st1, g1, e1, rep1, v1, go1⟩ => ?_⟩
  exact ⟨g1, σ, env, st1, ds, rep1, v1, go1⟩
/-- (..) == (..) -/
theorem rd_eqT {l m : As} {σ : L2.St} {H : Hp} {Q : VK} (h : rd C (rV C) (fun env st => ev T (.eqT l m) env st) σ H Q) :
    tOp (rTups C) (tTupF (rd C (rVs C) fun env st => evs T l env st)) (tTupF (rd C (rVs C) fun env st => evs T m env st)) σ H Q := by
  obtain ⟨g, env, st, rep, go⟩ := h
  have go : Go C σ env (rV C σ env) g H ((evs T l env st).bind fun ds st => (if small ds.length then (evs T m env st).bind fun es st => if allEq st ds es && small es.length then .ok (.bl true) st else .no else .no : Res D)) Q := go
  refine ⟨g, env, st, rep, (Go.bind (R := rVs C σ env) go).imp fun xs H1 ⟨ds, st1, g1, e1, rep1, v1, go1⟩ => ?_⟩
  have go1 : Go C σ env (rV C σ env) g1 H1 (if small ds.length then (evs T m env st1).bind fun es st => if allEq st ds es && small es.length then .ok (.bl true) st else .no else .no : Res D) Q := go1
  split at go1
  · rename_i hz
    refine ⟨by rw [RVs.length v1]; exact of_decide_eq_true hz, fun p o hp hd => ?_⟩
    have gr := Grow.new (g := g1) (o := .frz o (.tup xs)) hp
    have fz : FzT C.K (g1.add p) (upd H1 p (.frz o (.tup xs))) p xs := .inl ⟨.inr rfl, o, hd, upd_same⟩
    have go2 := go1.mono gr.ext
    refine ⟨g1.add p, env, st1, rep1.grow gr, (Go.bind (R := rVs C σ env) go2).imp fun ys H2 ⟨es, st2, g2, e2, rep2, v2, go3⟩ => ?_⟩
    have go3 : Go C σ env (rV C σ env) g2 H2 (if allEq st2 ds es && small es.length then .ok (.bl true) st2 else .no : Res D) Q := go3
    split at go3
    · rename_i hq
      rw [Bool.and_eq_true] at hq
      refine ⟨by rw [RVs.length v2]; exact of_decide_eq_true hq.2, fun p2 o2 hp2 hd2 => ?_⟩
      have gr2 := Grow.new (g := g2) (o := .frz o2 (.tup ys)) hp2
      have fz2 : FzT C.K (g2.add p2) (upd H2 p2 (.frz o2 (.tup ys))) p2 ys := .inl ⟨.inr rfl, o2, hd2, upd_same⟩
      exact ⟨g2.add p2, σ, env, st2, p, p2, xs, ys, ds, es, rep2.grow gr2, rfl, rfl, ((fz.ext e2).ext gr2.ext).sq, fz2.sq, v1.ext ((gr.ext.trans e2).trans gr2.ext), v2.ext gr2.ext, hq.1, go3.mono gr2.ext |>.end_ (rep2.grow gr2) (.bl true)⟩
    · exact go3.elim
  · exact go1.elim
theorem new_compG (Z : Good C T S sc X) {own : List Nat} {p : Pat} {it : It} {c : Ao} {e : A} {elt tg iter : Expr} {ifs : List Expr} {scope : Scope} {pos : Pos} (hb : blkC S.N sc scope (ownN S own) = true) (hsl : (slotsP p).all (fun i => decide (i ∈ own)) = true) (ho : opB iter = true)
    (hIt : PI X tg iter (rd C (rIt C true (nmIt it)) fun env st => evi T true it env st))
    (hg : ∀ (pr : List (Addr × HO)) (s : Shared) (H : Hp) (D : Addr) (cl : List (Str × Addr)) (fp : List Addr), PG (X.blk s H scope (compEnvC scope cl D X.env) fp) tg (gPat (C.blk pr) (nmIt it) p))
    (ht : ∀ (pr : List (Addr × HO)) (s : Shared) (H : Hp) (D : Addr) (cl : List (Str × Addr)) (fp : List Addr), PTs (X.blk s H scope (compEnvC scope cl D X.env) fp) ifs (rd (C.blk pr) rI fun env st => evc T c env st))
    (he : ∀ (pr : List (Addr × HO)) (s : Shared) (H : Hp) (D : Addr) (cl : List (Str × Addr)) (fp : List Addr), PE (X.blk s H scope (compEnvC scope cl D X.env) fp) elt (rd (C.blk pr) (rV (C.blk pr)) fun env st => ev T e env st)) :
    PE X (.ListComp elt [⟨tg, iter, ifs, 0⟩] scope pos) (rd C (rO C) fun env st => (ev T (.comp own p it c e) env st).bind fun d st => .of d.toO st) := by
  have hown : (ownN S own).map (·.2) = own := by
    unfold ownN
    rw [List.map_map]
    exact List.map_id' own
  have main := pe_lc (own := ownN S own) (pos := pos) (wi := wiC C T it) (g := gC C it p)
    (tt := ttC C T c) (te := teC C T e) Z.calm (by rw [Z.hN]; exact Z.nd) hIt
    (blkOk_by (by rw [Z.hN, Z.scp]; exact hb)) (fun s H D cl fp => ⟨fun pins s' σ H' v u Q I r ⟨pr, q⟩ => (hg pr s H D cl fp).run pins s' σ H' v u Q I r q⟩)
    (fun s H D cl fp => ⟨fun pins s' σ H' Q I ⟨pr, q⟩ => (ht pr s H D cl fp).run pins s' σ H' Q I q⟩) (fun s H D cl fp => ⟨fun pins s' σ H' Q I ⟨pr, q⟩ => (he pr s H D cl fp).run pins s' σ H' Q I q⟩) (fold_of ho _)
  refine main.of fun σ H Q q => ?_
  obtain ⟨g, env, st, rep, go⟩ := q
  rw [hown]
  have e1 : (ev T (.comp own p it c e) env st).bind (fun d st => Res.of d.toO st) = (if own.any (fun i => (ownAt env i).isSome) then (.no : Res DO) else (evi T true it env st).bind fun xs st => (compGo (compF T own p c e env) xs [] st).bind fun ds st => .ok (.lst ds) st) := by
    show (if own.any (fun i => (ownAt env i).isSome) then (.no : Res D) else (evi T true it env st).bind fun xs st => (compGo (compF T own p c e env) xs [] st).bind fun ds st => .ok (.lst ds) st).bind _ = _
    by_cases hf : own.any (fun i => (ownAt env i).isSome) = true
    · rw [if_pos hf, if_pos hf]; rfl
    · rw [if_neg hf, if_neg hf]
      cases evi T true it env st with
      | ok xs st1 =>
        simp only [bind_ok]
        cases compGo (compF T own p c e env) xs [] st1 <;> rfl
      | ex x st1 => rfl
      | no => rfl
  dsimp only at go
  rw [e1] at go
  refine comp_core (R' := rO C) (fin := fun ds st => .ok (.lst ds) st) hsl rep go fun g2 H2 acc vacc st2 A rep2 rv2 go2 => ?_
  obtain ⟨q1, q2, q3, q4⟩ := rep2.prv (A, .lst vacc) List.mem_cons_self
  exact go2 g2 H2 _ (Ext.refl _ _) rep2.prDrop ⟨A, rfl, Fre.pr rep2 ⟨vacc, q1, rv2⟩⟩
theorem new_dcompG (Z : Good C T S sc X) {own : List Nat} {p : Pat} {it : It} {c : Ao} {k v : A} {kx vx tg iter : Expr} {ifs : List Expr} {scope : Scope} {pos : Pos} (hb : blkC S.N sc scope (ownN S own) = true) (hsl : (slotsP p).all (fun i => decide (i ∈ own)) = true) (ho : opB iter = true)
    (hIt : PI X tg iter (rd C (rIt C true (nmIt it)) fun env st => evi T true it env st))
    (hg : ∀ (pr : List (Addr × HO)) (s : Shared) (H : Hp) (D : Addr) (cl : List (Str × Addr)) (fp : List Addr), PG (X.blk s H scope (compEnvC scope cl D X.env) fp) tg (gPat (C.blk pr) (nmIt it) p))
    (ht : ∀ (pr : List (Addr × HO)) (s : Shared) (H : Hp) (D : Addr) (cl : List (Str × Addr)) (fp : List Addr), PTs (X.blk s H scope (compEnvC scope cl D X.env) fp) ifs (rd (C.blk pr) rI fun env st => evc T c env st))
    (hk : ∀ (pr : List (Addr × HO)) (s : Shared) (H : Hp) (D : Addr) (cl : List (Str × Addr)) (fp : List Addr), PE (X.blk s H scope (compEnvC scope cl D X.env) fp) kx (rd (C.blk pr) (rV (C.blk pr)) fun env st => ev T k env st))
    (he : ∀ (pr : List (Addr × HO)) (s : Shared) (H : Hp) (D : Addr) (cl : List (Str × Addr)) (fp : List Addr), PE (X.blk s H scope (compEnvC scope cl D X.env) fp) vx (rd (C.blk pr) (rV (C.blk pr)) fun env st => ev T v env st)) :
    PE X (.DictComp kx vx [⟨tg, iter, ifs, 0⟩] scope pos) (rd C (rO C) fun env st => (ev T (.dcomp own p it c k v) env st).bind fun d st => .of d.toO st) := by
  have hown : (ownN S own).map (·.2) = own := by
    unfold ownN
    rw [List.map_map]
    exact List.map_id' own
  have main := pe_dc (own := ownN S own) (pos := pos) (wi := wiC C T it) (g := gC C it p)
    (tt := ttC C T c) (tk := teC C T k) (tv := teC C T v) Z.calm (by rw [Z.hN]; exact Z.nd) hIt
    (blkOk_by (by rw [Z.hN, Z.scp]; exact hb)) (fun s H D cl fp => ⟨fun pins s' σ H' v u Q I r ⟨pr, q⟩ => (hg pr s H D cl fp).run pins s' σ H' v u Q I r q⟩)
    (fun s H D cl fp => ⟨fun pins s' σ H' Q I ⟨pr, q⟩ => (ht pr s H D cl fp).run pins s' σ H' Q I q⟩) (fun s H D cl fp => ⟨fun pins s' σ H' Q I ⟨pr, q⟩ => (hk pr s H D cl fp).run pins s' σ H' Q I q⟩)
    (fun s H D cl fp => ⟨fun pins s' σ H' Q I ⟨pr, q⟩ => (he pr s H D cl fp).run pins s' σ H' Q I q⟩) (fold_of ho _)
  refine main.of fun σ H Q q => ?_
  obtain ⟨g, env, st, rep, go⟩ := q
  rw [hown]
  have e1 : (ev T (.dcomp own p it c k v) env st).bind (fun d st => Res.of d.toO st) = (if own.any (fun i => (ownAt env i).isSome) then (.no : Res DO) else (evi T true it env st).bind fun xs st => (compGo (compFd T own p c k v env) xs [] st).bind fun l st => .ok (.dct .k l) st) := by
    show (if own.any (fun i => (ownAt env i).isSome) then (.no : Res D) else (evi T true it env st).bind fun xs st => (compGo (compFd T own p c k v env) xs [] st).bind fun l st => .ok (.dct .k l) st).bind _ = _
    by_cases hf : own.any (fun i => (ownAt env i).isSome) = true
    · rw [if_pos hf, if_pos hf]; rfl
    · rw [if_neg hf, if_neg hf]
      cases evi T true it env st with
      | ok xs st1 =>
        simp only [bind_ok]
        cases compGo (compFd T own p c k v env) xs [] st1 <;> rfl
      | ex x st1 => rfl
      | no => rfl
  dsimp only at go
  rw [e1] at go
  refine dcomp_core (R' := rO C) (fin := fun l st => .ok (.dct .k l) st) hsl rep go fun g2 H2 acc vacc st2 A rep2 rv2 go2 => ?_
  obtain ⟨q1, q2, q3, q4⟩ := rep2.prv (A, .dK vacc) List.mem_cons_self
  exact go2 g2 H2 _ (Ext.refl _ _) rep2.prDrop ⟨A, rfl, Fre.pr rep2 ⟨vacc, q1, rv2⟩⟩
theorem new_dispG {ks : List Str} {l : As} {keys : List (Option Expr)} {es : List Expr} {pos : Pos} (h : PD T C X ks l keys es pos) (hk : keys.all (·.isSome) = true) (hl : keys.length = es.length) (h0 : keys ≠ []) (h15 : keys.length ≤ 15) :
    PE X (.Dict keys es pos) (rd C (rO C) fun env st => (ev T (.disp ks l) env st).bind fun d st => .of d.toO st) := by
  refine (disp_core (R' := rO C) (fin := fun l st => .ok (.dct .k l) st) h hk hl h0 h15 fun σ env g2 H2 acc vacc st2 p Q rep2 rv2 go2 => ?_).of fun σ H Q q => ?_
  · obtain ⟨q1, q2, q3, q4⟩ := rep2.prv (p, .dK vacc) List.mem_cons_self
    exact go2 g2 H2 _ (Ext.refl _ _) rep2.prDrop ⟨p, rfl, Fre.pr rep2 ⟨vacc, q1, rv2⟩⟩
  · refine rd_ex (fun env st => ?_) q
    show ((evs T l env st).bind fun ds st => Res.of (dispD ks ds) st).bind (fun d st => Res.of d.toO st) = _
    cases evs T l env st with
    | ok ds s =>
      simp only [bind_ok]
      unfold dispD
      split <;> rfl
    | ex x s => rfl
    | no => rfl
theorem pe_dispD {ks : List Str} {l : As} {keys : List (Option Expr)} {es : List Expr} {pos : Pos} (h : PD T C X ks l keys es pos) (hk : keys.all (·.isSome) = true) (hl : keys.length = es.length) (h0 : keys ≠ []) (h15 : keys.length ≤ 15) :
    PE X (.Dict keys es pos) (rd C (rV C) fun env st => ev T (.disp ks l) env st) := by
  refine (disp_core (R' := rV C) (fin := fun l st => .ok (.dct .k l) st) h hk hl h0 h15 fun σ env g2 H2 acc vacc st2 p Q rep2 rv2 go2 => ?_).of fun σ H Q q => ?_
  · obtain ⟨q1, q2, q3, q4⟩ := rep2.prv (p, .dK vacc) List.mem_cons_self
    exact (show Go C σ env (rV C σ env) g2 H2 (.ok (.dct .k acc) st2) Q from go2) (g2.add p) H2 _ Ext.add rep2.prFreeze (.dk (.inr rfl) (.inl q1) (rv2.ext Ext.add))
  · refine rd_ex (fun env st => ?_) q
    show ((evs T l env st).bind fun ds st => Res.of (dispD ks ds) st) = _
    cases evs T l env st with
    | ok ds s =>
      simp only [bind_ok]
      unfold dispD
      split <;> rfl
    | ex x s => rfl
    | no => rfl
/-- {} -/
theorem pe_disp0 {pos : Pos} : PE X (.Dict [] [] pos) (rd C (rV C) fun env st => ev T (.disp [] .nil) env st) := pe_dnewK.of fun σ H Q ⟨g, env, st, rep, go⟩ => fun p hp =>
  (show Go C σ env (rV C σ env) g H (.ok (.dct .k []) st) Q from go).dk rep .nil p hp
theorem new_disp0 {pos : Pos} : PE X (.Dict [] [] pos) (rd C (rO C) fun env st => (ev T (.disp [] .nil) env st).bind fun d st => .of d.toO st) := pe_dnewK.of fun σ H Q ⟨g, env, st, rep, go⟩ => fun p hp => by
  have go : Go C σ env (rO C σ env) g H (.ok (.dct .k []) st) Q := go
  have gr := Grow.lay (g := g) (o := .dK []) hp
  exact go g _ _ gr.ext (rep.grow gr) ⟨p, rfl, Fre.new rep hp ⟨[], upd_same, .nil⟩⟩
theorem disp_nil {S : Sig} {sc : Scope} {ks : List Str} {l : As} {keys : List (Option Expr)} {es : List Expr} (h1 : keysB ks keys = true) (h2 : keys.length = es.length) (h3 : chkAs S sc l es = true) (h0 : keys = []) : ks = [] ∧ l = .nil ∧ es = [] := by
  subst h0
  have he : es = [] := List.eq_nil_of_length_eq_zero h2.symm
  subst he
  refine ⟨?_, ?_, rfl⟩
  · cases ks with
    | nil => rfl
    | cons k ks => cases h1
  · cases l with
    | nil => rfl
    | cons a l => cases h3
theorem keys_some : ∀ {ks : List Str} {keys : List (Option Expr)}, keysB ks keys = true → keys.all (·.isSome) = true
  | [], [], _ => rfl
  | [], _ :: _, h => by cases h
  | k :: ks, keys, h => by
    unfold keysB at h
    split at h
    · rw [Bool.and_eq_true] at h
      rw [List.all_cons, keys_some h.2]
      rfl
    · cases h
end
end L3
end

section
set_option Elab.async false
set_option linter.all false
set_option maxRecDepth 100000
set_option maxHeartbeats 8000000
/-! L3i: every expression does what is said. -/
namespace L3
open PySem PySem.Spec PyProof.Rows L2

section
variable {C : Ct} {X : Cx} {T : Tb} {S : Sig} {sc : Scope}
/-- not, by truth -/
theorem pe_notG (hK : X.K = C.K) {e : Expr} {pos : Pos} {m : Env → Store → Res D} (hB : PE X e (rd C (RB C) m)) : PE X (.UnaryOp .Not e pos) (rd C (rV C) fun env st => (m env st).bind fun x st => .of ((truD st x).map fun k => .bl (!k)) st) := by
  refine ⟨fun pins s σ H Q I q => ?_⟩
  obtain ⟨g, env, st, rep, go⟩ := q
  refine UnaryOp_ (thn (hB.run pins s σ H _ I ⟨g, env, st, rep, Go.bind (R := RB C σ env) go⟩) fun v s1 ⟨x, H1, I1, r1, d, st1, g1, e1, rep1, v1, go1⟩ => ?_)
  obtain ⟨w, hw, go2⟩ := go1.of
  obtain ⟨b, hb, rfl⟩ := Option.map_eq_some_iff.mp hw
  exact not_of (thn (tru_see (Q := fun c H2 => Q (.bl (!c)) H2) hK I1 r1 rep1 v1 hb (go2.end_ rep1 (.bl _))) fun c s2 ⟨H2, I2, q2⟩ => ⟨.bl (!c), H2, I2, rfl, q2⟩)
theorem not_bl {T : Tb} {a : A} (env : Env) (st : Store) (d : D) (st' : Store) (h : ev T (.not_ a) env st = .ok d st') : ∃ k, d = .bl k := by
  unfold ev at h
  refine bind_bl (fun x s1 h => ?_) h
  cases hq : truD s1 x with
  | none => rw [hq] at h; cases h
  | some k => rw [hq] at h; cases h; exact ⟨_, rfl⟩
theorem rd_notT {a : A} {σ : L2.St} {H : Hp} {Q : Bool → Hp → Prop} (h : rd C rI (mT T (.not_ a)) σ H Q) : tNot (rd C rI (mT T a)) σ H Q := by
  obtain ⟨g, env, st, rep, go⟩ := h
  refine ⟨g, env, st, rep, ?_⟩
  have go : Go C σ env (rI σ env) g H ((((evB a env st (ev T a env st)).bind fun x st => .of ((truD st x).map fun k => .bl (!k)) st)).bind fun d st => .of (truD st d) st) Q := go
  show Go C σ env (rI σ env) g H ((evB a env st (ev T a env st)).bind fun d st => .of (truD st d) st) _
  cases he : evB a env st (ev T a env st) with
  | no => rw [he] at go; exact go.elim
  | ex x st' => rw [he] at go; exact go
  | ok d st' =>
    rw [he] at go
    simp only [bind_ok] at go ⊢
    cases hq : truD st' d with
    | none => rw [hq] at go; exact go.elim
    | some k =>
      rw [hq] at go
      have go : Go C σ env (rI σ env) g H (.ok (!k) st') Q := go
      intro g' H' b ex rp rb
      have rb : b = k := rb
      subst rb
      exact go g' H' _ ex rp rfl
/-- what is walked, a list or a tuple -/
theorem it_seq {bor nm : Bool} (hK : X.K = C.K) {tg e : Expr} {R : Rl V D} {m : Env → Store → Res D} (hE : PE X e (rd C R m))
    (hR : ∀ (σ : L2.St) (env : Env) (g : G) (H : Hp) (x : V) (d : D) (st : Store), Rep C g σ H env st → R σ env g H x d → RV C.K g H x d ∨ (bor = true ∧ RB C σ env g H x d)) :
    PI X tg e (rd C (rIt C bor nm) fun env st => (m env st).bind fun d st => match d with
      | .lst l => .ok l st
      | .tup l => .ok l st
      | .str x => .ok (chrs x) st
      | _ => .no) := by
  refine (pi_seq hE).of fun σ H Q q => ?_
  obtain ⟨g, env, st, rep, go⟩ := q
  refine ⟨g, env, st, rep, (Go.bind (R := R σ env) go).imp fun x H1 ⟨d, st1, g1, e1, rep1, v1, go1⟩ => ?_⟩
  rcases hR σ env g1 H1 x d st1 rep1 v1 with rv | ⟨hb, rb⟩
  · cases rv with
    | @lst a vs l f r =>
      refine .inl ⟨a, rfl, ⟨vs, by rw [hK]; exact f.sq⟩, ?_⟩
      have ok : ItOk C.K nm (Prm C bor σ env g1 H1) (Itl C.K a) l := itok_l fun g2 H2 p => ⟨vs, (f.ext p.1).sq, r.ext p.1⟩
      rw [hK]
      exact Go.end_ (show Go C σ env (rIt C bor nm σ env) g1 H1 (.ok l st1) Q from go1) rep1 ok
    | @tup a vs l f r =>
      refine .inr (.inl ⟨a, rfl, ⟨vs, by rw [hK]; exact f.sq⟩, ?_⟩)
      have ok : ItOk C.K nm (Prm C bor σ env g1 H1) (Itt C.K a) l := itok_t fun g2 H2 p => ⟨vs, (f.ext p.1).sq, r.ext p.1⟩
      rw [hK]
      exact Go.end_ (show Go C σ env (rIt C bor nm σ env) g1 H1 (.ok l st1) Q from go1) rep1 ok
    | str z => exact .inr (.inr ⟨z, rfl, Go.end_ (show Go C σ env (rIt C bor nm σ env) g1 H1 (.ok (chrs z) st1) Q from go1) rep1 (show ItOk C.K nm (Prm C bor σ env g1 H1) (Its z) (chrs z) from itok_s)⟩)
    | _ => exact go1.elim
  · rcases rb with rv | ⟨i, o, h1, h2, h3⟩
    · cases rv with
      | @lst a vs l f r =>
        refine .inl ⟨a, rfl, ⟨vs, by rw [hK]; exact f.sq⟩, ?_⟩
        have ok : ItOk C.K nm (Prm C bor σ env g1 H1) (Itl C.K a) l := itok_l fun g2 H2 p => ⟨vs, (f.ext p.1).sq, r.ext p.1⟩
        rw [hK]
        exact Go.end_ (show Go C σ env (rIt C bor nm σ env) g1 H1 (.ok l st1) Q from go1) rep1 ok
      | @tup a vs l f r =>
        refine .inr (.inl ⟨a, rfl, ⟨vs, by rw [hK]; exact f.sq⟩, ?_⟩)
        have ok : ItOk C.K nm (Prm C bor σ env g1 H1) (Itt C.K a) l := itok_t fun g2 H2 p => ⟨vs, (f.ext p.1).sq, r.ext p.1⟩
        rw [hK]
        exact Go.end_ (show Go C σ env (rIt C bor nm σ env) g1 H1 (.ok l st1) Q from go1) rep1 ok
      | str z => exact .inr (.inr ⟨z, rfl, Go.end_ (show Go C σ env (rIt C bor nm σ env) g1 H1 (.ok (chrs z) st1) Q from go1) rep1 (show ItOk C.K nm (Prm C bor σ env g1 H1) (Its z) (chrs z) from itok_s)⟩)
      | _ => exact go1.elim
    · obtain ⟨a, q1, q2, _⟩ := rep1.own i o h1
      rw [h2] at q1
      cases q1
      cases o with
      | lst l =>
        cases h3
        obtain ⟨vs, q3, q4⟩ := q2
        refine .inl ⟨a, rfl, ⟨vs, .inl (.inl q3)⟩, ?_⟩
        have ok : ItOk C.K nm (Prm C bor σ env g1 H1) (Itl C.K a) l := itok_l fun g2 H2 p => by
          obtain ⟨ws, z1, z2⟩ := p.2 hb i (.lst l) a h1 h2
          exact ⟨ws, .inl (.inl z1), z2⟩
        rw [hK]
        exact Go.end_ (show Go C σ env (rIt C bor nm σ env) g1 H1 (.ok l st1) Q from go1) rep1 ok
      | dct k l => cases h3; exact go1.elim
      | ins c fs => cases h3
theorem blt_range : ("range" : Str) ∈ bltNames := by decide +kernel
theorem blt_enum : ("enumerate" : Str) ∈ bltNames := by decide +kernel
theorem blt_zip : ("zip" : Str) ∈ bltNames := by decide +kernel
theorem blt_rev : ("reversed" : Str) ∈ bltNames := by decide +kernel
theorem blt_list : ("list" : Str) ∈ bltNames := by decide +kernel
theorem ty_tab : tyNames.all (fun p => decide (bootBuiltins p.1 = some (.type p.2)) && decide (p.1 ∈ bltNames) && decide (p.1 ≠ "__name__")) = true := by decide +kernel
theorem ty_boot {x : Str} {n : String} (h : tyNames.lookup x = some n) : bootBuiltins x = some (.type n) ∧ x ∈ bltNames ∧ x ≠ "__name__" := by
  have := List.all_eq_true.mp ty_tab (x, n) (PySem.mem_of_lookup h)
  simp only [Bool.and_eq_true, decide_eq_true_eq] at this
  exact ⟨this.1.1, this.1.2, this.2⟩
/-- a range's ends -/
def rRg (g : G) (H : Hp) (p : Int × Int) (l : List D) : Prop := -(2 ^ 62) ≤ p.1 ∧ p.1 < 2 ^ 62 ∧ -(2 ^ 62) ≤ p.2 ∧ p.2 < 2 ^ 62 ∧ l = rngD p.1 p.2
theorem rgV_rv {K : PySem.W.Frag} {g : G} {H : Hp} (a b : Int) : RVs K g H (rgV a b) (rngD a b) := by
  unfold rgV rngD
  induction List.range (b - a).toNat with
  | nil => exact .nil
  | cons n l ih => exact .cons (.int _) ih
theorem chkIt_op {it : It} {y : Expr} (h3 : rngI it = true) (h : chkIt S sc it y y = true) : opB y = true := by
  cases it <;> first | (cases h3; done) | (unfold chkIt at h; split at h <;> first | rfl | (cases h; done))
def OkE (T : Tb) (S : Sig) (a : A) : Prop := ∀ (C : Ct) (sc : Scope) (X : Cx) (e : Expr), Good C T S sc X → chkE S sc a e = true → PE X e (rd C (rV C) fun env st => ev T a env st) ∧ (tstA a = true → PT X e (rd C rI (mT T a)))
structure OkAs (T : Tb) (S : Sig) (l : As) : Prop where
  pa : ∀ {C : Ct} {sc : Scope} {X : Cx} {es : List Expr}, Good C T S sc X → chkAs S sc l es = true → PA X es (rd C (rVs C) fun env st => evs T l env st)
  pb : ∀ {C : Ct} {sc : Scope} {X : Cx} {es : List Expr}, Good C T S sc X → chkAs S sc l es = true → PA X es (rd C (RBs C) fun env st => evbs T l env st)
  pk : ∀ {C : Ct} {sc : Scope} {X : Cx} {ks : List Str} {kws : List Keyword}, Good C T S sc X → chkKs S sc l ks kws = true → PK X kws (rd C (rVs C) fun env st => evs T l env st)
  and_ : ∀ {C : Ct} {sc : Scope} {X : Cx} {es : List Expr} {pos : Pos}, Good C T S sc X → chkAs S sc l es = true → PE X (.BoolOp .And es pos) (rd C (rV C) fun env st => evAnd T l env st)
  or_ : ∀ {C : Ct} {sc : Scope} {X : Cx} {es : List Expr} {pos : Pos}, Good C T S sc X → chkAs S sc l es = true → PE X (.BoolOp .Or es pos) (rd C (rV C) fun env st => evOr T l env st)
  andT : ∀ {C : Ct} {sc : Scope} {X : Cx} {es : List Expr} {pos : Pos}, Good C T S sc X → chkAs S sc l es = true → tstAs l = true → PW X (.BoolOp .And es pos) (rd C rI fun env st => (evAnd T l env st).bind fun d st => .of (truD st d) st)
  orT : ∀ {C : Ct} {sc : Scope} {X : Cx} {es : List Expr} {pos : Pos}, Good C T S sc X → chkAs S sc l es = true → tstAs l = true → PW X (.BoolOp .Or es pos) (rd C rI fun env st => (evOr T l env st).bind fun d st => .of (truD st d) st)
  pd : ∀ {C : Ct} {sc : Scope} {X : Cx} {ks : List Str} {keys : List (Option Expr)} {es : List Expr} {pos : Pos}, Good C T S sc X → keysB ks keys = true → chkAs S sc l es = true → keys.length = es.length → PD T C X ks l keys es pos
def OkO (T : Tb) (S : Sig) (o : Ao) : Prop := ∀ (C : Ct) (sc : Scope) (X : Cx), Good C T S sc X →
  (∀ e, chkAo S sc o e = true → PO X e (rd C rI fun env st => evo T o env st)) ∧ (∀ es, chkC S sc o es = true → PTs X es (rd C rI fun env st => evc T o env st))
def OkIt (T : Tb) (S : Sig) (it : It) : Prop := ∀ (C : Ct) (sc : Scope) (X : Cx) (e tg : Expr) (bor : Bool), Good C T S sc X → chkIt S sc it e tg = true → PI X tg e (rd C (rIt C bor (nmIt it)) fun env st => evi T bor it env st)
theorem chks_nil {l : As} (h : chkAs S sc l [] = true) (env : Env) (st : Store) : evs T l env st = .ok [] st := by
  cases l with
  | nil => rfl
  | cons a l => unfold chkAs at h; cases h
theorem chks_op {l : As} {e : Expr} {r : List Expr} (h : chkAs S sc l (e :: r) = true) : opB e = true := by
  cases l with
  | nil => unfold chkAs at h; cases h
  | cons a l =>
    unfold chkAs at h
    simp only [Bool.and_eq_true] at h
    exact chk_op h.1
theorem kws_of {pos : Pos} (env : PySem.Env) : ∀ {l : As} {ks : List Str} {kws : List Keyword}, chkKs S sc l ks kws = true → (backToKw pos (keywordEach kws env)).all (·.1.isSome) = true ∧ (backToKw pos (keywordEach kws env)).filterMap (·.1) = ks
  | .nil, ks, kws, h => by
    unfold chkKs at h
    split at h
    · exact ⟨rfl, rfl⟩
    · cases h
  | .cons a l, ks, kws, h => by
    unfold chkKs at h
    split at h
    · rename_i k ks k2 e kp r
      simp only [Bool.and_eq_true, decide_eq_true_eq] at h
      obtain ⟨⟨rfl, _⟩, h2⟩ := h
      obtain ⟨q1, q2⟩ := kws_of (pos := pos) env h2
      refine ⟨?_, ?_⟩
      · show (true && (backToKw pos (keywordEach r env)).all (·.1.isSome)) = true
        rw [q1]; rfl
      · show k :: (backToKw pos (keywordEach r env)).filterMap (·.1) = k :: ks
        rw [q2]
    · cases h
theorem kws_some {l : List (Option Str × Sem Value)} (h : l.all (·.1.isSome) = true) : l.any (·.1.isNone) = false := by
  rw [List.any_eq_false]
  intro x hx
  have := List.all_eq_true.mp h x hx
  cases hq : x.1 with
  | none => rw [hq] at this; cases this
  | some k => simp
theorem PE.no {X : Cx} {e : Expr} {R : Rl V D} : PE X e (rd C R fun _ _ => .no) := ⟨fun _ _ _ _ _ _ ⟨_, _, _, _, go⟩ => go.elim⟩
theorem PW.no {X : Cx} {e : Expr} : PW X e (rd C rI fun _ _ => (.no : Res Bool)) := ⟨fun _ _ _ _ _ _ _ ⟨_, _, _, _, go⟩ => go.elim⟩
end
theorem ink_bl {T : Tb} {neg : Bool} {x : Str} {ks : List Str} {a : A} (env : Env) (st : Store) (d : D) (st' : Store) (h : ev T (.inK neg x ks a) env st = .ok d st') : ∃ k, d = .bl k := by
  unfold ev at h
  refine bind_bl (fun y s1 h => ?_) h
  unfold inKD at h
  split at h
  · cases h; exact ⟨_, rfl⟩
  · cases h
mutual
theorem sE (T : Tb) (S : Sig) : ∀ a : A, OkE T S a
  | .var i => fun C sc X e Z h => by
    have h0 := h
    unfold chkE at h
    split at h
    · rename_i x pos
      simp only [Bool.and_eq_true, decide_eq_true_eq] at h
      obtain ⟨v1, v2, v3⟩ := vis_of h.2
      have hp : PE X (.Name x pos) (tVar i) := pe_var (by rw [Z.hN]; exact h.1) (by rw [Z.scp]; exact v1) v2 v3
      have hE : PE X (.Name x pos) (rd C (rV C) fun env st => ev T (.var i) env st) := hp.of fun σ H Q q => by
        obtain ⟨g, env, st, rep, go⟩ := q
        obtain ⟨d, hd, go2⟩ := Go.of (show Go C σ env (rV C σ env) g H (.of (valAt env i) st) Q from go)
        unfold valAt at hd
        split at hd
        · cases hd
          rename_i e0
          obtain ⟨v, hv, rv⟩ := rep.val i _ e0
          exact ⟨v, hv, go2.end_ rep rv⟩
        · cases hd
      exact ⟨hE, fun _ => pt_gen Z.K (bor_of Z h0 hE) fun _ => rfl⟩
    · cases h
  | .lit d => fun C sc X e Z h => by
    have h0 := h
    unfold chkE at h
    split at h
    · rename_i c k pos
      have hE : PE X (.Constant c k pos) (rd C (rV C) fun env st => ev T (.lit d) env st) := by
        unfold litB at h
        split at h
        · exact pe_non.of fun σ H Q ⟨g, env, st, rep, go⟩ => Go.end_ (show Go C σ env (rV C σ env) g H (.ok .non st) Q from go) rep .non
        · cases eq_of_beq h
          exact pe_bl.of fun σ H Q ⟨g, env, st, rep, go⟩ => Go.end_ (show Go C σ env (rV C σ env) g H (.ok (.bl _) st) Q from go) rep (.bl _)
        · cases eq_of_beq h
          exact pe_int.of fun σ H Q ⟨g, env, st, rep, go⟩ => Go.end_ (show Go C σ env (rV C σ env) g H (.ok (.int _) st) Q from go) rep (.int _)
        · cases of_decide_eq_true h
          exact pe_str.of fun σ H Q ⟨g, env, st, rep, go⟩ => Go.end_ (show Go C σ env (rV C σ env) g H (.ok (.str _) st) Q from go) rep (.str _)
        · cases h
      exact ⟨hE, fun _ => pt_gen Z.K (bor_of Z h0 hE) fun _ => rfl⟩
    · cases h
  | .glo k => fun C sc X e Z h => by
    have h0 := h
    unfold chkE at h
    split at h
    · rename_i x pos
      simp only [Bool.and_eq_true, decide_eq_true_eq] at h
      obtain ⟨g1, g2⟩ := gl_of Z h.2
      obtain ⟨u, v, m1, r1, r2⟩ := Z.con k x h.1
      have hE : PE X (.Name x pos) (rd C (rV C) fun env st => ev T (.glo k) env st) := (pe_glob g1 m1 r1 g2).of fun σ H Q ⟨g, env, st, rep, go⟩ => Go.end_ (show Go C σ env (rV C σ env) g H (.ok (T.con k) st) Q from go) rep (r2 g H)
      exact ⟨hE, fun _ => pt_gen Z.K (bor_of Z h0 hE) fun _ => rfl⟩
    · cases h
  | .bin op a b => fun C sc X e Z h => by
    have h0 := h
    unfold chkE at h
    split at h
    · rename_i l o r pos
      simp only [Bool.and_eq_true, decide_eq_true_eq] at h
      obtain ⟨⟨rfl, h1⟩, h2⟩ := h
      have hE : PE X (.BinOp l o r pos) (rd C (rV C) fun env st => ev T (.bin o a b) env st) := (pe_op (bin_ok Z.K o) (sE T S a _ _ _ _ Z h1).1 (sE T S b _ _ _ _ Z h2).1).of fun σ H Q q => rd_op stV q
      exact ⟨hE, fun _ => pt_gen Z.K (bor_of Z h0 hE) fun _ => rfl⟩
    · cases h
  | .cat a b => fun C sc X e Z h => by
    have h0 := h
    unfold chkE at h
    split at h
    · rename_i l o r pos
      simp only [Bool.and_eq_true, decide_eq_true_eq] at h
      obtain ⟨⟨rfl, h1⟩, h2⟩ := h
      have hE : PE X (.BinOp l .Add r pos) (rd C (rV C) fun env st => ev T (.cat a b) env st) := (pe_op (cat_ok Z.K) (bor_of Z h1 (sE T S a _ _ _ _ Z h1).1) (bor_of Z h2 (sE T S b _ _ _ _ Z h2).1)).of fun σ H Q q => rd_op stB q
      exact ⟨hE, fun _ => pt_gen Z.K (bor_of Z h0 hE) fun _ => rfl⟩
    · cases h
  | .neg a => fun C sc X e Z h => by
    have h0 := h
    unfold chkE at h
    split at h
    · rename_i x pos
      have hE : PE X (.UnaryOp .USub x pos) (rd C (rV C) fun env st => ev T (.neg a) env st) := (pe_un un_neg (sE T S a _ _ _ _ Z h).1).of fun σ H Q q => by
        obtain ⟨g, env, st, rep, go⟩ := q
        refine ⟨g, env, st, rep, (Go.bind (R := rV C σ env) go).imp fun x H1 ⟨d, st1, g1, e1, rep1, v1, go1⟩ => ?_⟩
        cases d with
        | int i =>
          cases (show RV C.K g1 H1 x (.int i) from v1)
          exact ⟨i, rfl, Go.end_ (show Go C σ env (rV C σ env) g1 H1 (.ok (.int (-i)) st1) Q from go1) rep1 (.int _)⟩
        | _ => exact go1.elim
      exact ⟨hE, fun _ => pt_gen Z.K (bor_of Z h0 hE) fun _ => rfl⟩
    · cases h
  | .cmp op a b => fun C sc X e Z h => by
    have h0 := h
    unfold chkE at h
    split at h
    · rename_i l o r pos
      simp only [Bool.and_eq_true, decide_eq_true_eq, Bool.not_eq_true'] at h
      obtain ⟨⟨⟨rfl, hm⟩, h1⟩, h2⟩ := h
      have ha := bor_of Z h1 (sE T S a _ _ _ _ Z h1).1
      have hb := bor_of Z h2 (sE T S b _ _ _ _ Z h2).1
      refine ⟨(pe_cmpR (cmp_ok Z.K (Nat.lt_of_succ_lt Z.hu) o) ha hb hm).of fun σ H Q q => rd_op stB q, fun _ => (pt_cmpR (cmp_ok Z.K (Nat.lt_of_succ_lt Z.hu) o) ha hb hm).of fun σ H Q q => ?_⟩
      exact rd_op stB (rd_tst (fun env st d st' => cmp_bl env st d st') q)
    · cases h
  | .chn o1 o2 a b c => fun C sc X e Z h => by
    have h0 := h
    unfold chkE at h
    split at h
    · rename_i l p1 p2 r1 r2 pos
      simp only [Bool.and_eq_true, decide_eq_true_eq, Bool.not_eq_true'] at h
      obtain ⟨⟨⟨⟨⟨rfl, rfl⟩, hm⟩, h1⟩, h2⟩, h3⟩ := h
      have ha := (sE T S a _ _ _ _ Z h1).1
      have hb := (sE T S b _ _ _ _ Z h2).1
      have hc := (sE T S c _ _ _ _ Z h3).1
      exact ⟨(pe_chain (cmp_ok Z.K (Nat.lt_of_succ_lt Z.hu) _) (cmp_ok Z.K (Nat.lt_of_succ_lt Z.hu) _) ha hb hc hm).of fun σ H Q q => rd_chn q, fun _ => (pt_chain (cmp_ok Z.K (Nat.lt_of_succ_lt Z.hu) _) (cmp_ok Z.K (Nat.lt_of_succ_lt Z.hu) _) ha hb hc hm).of fun σ H Q q => rd_chn (rd_tst (fun env st d st' => chn_bl env st d st') q)⟩
    · cases h
  | .andL l => fun C sc X e Z h => by
    unfold chkE at h
    split at h
    · exact ⟨(sAs T S l).and_ Z h, fun ht => ((sAs T S l).andT Z h ht).pt⟩
    · cases h
  | .orL l => fun C sc X e Z h => by
    unfold chkE at h
    split at h
    · exact ⟨(sAs T S l).or_ Z h, fun ht => ((sAs T S l).orT Z h ht).pt⟩
    · cases h
  | .not_ a => fun C sc X e Z h => by
    unfold chkE at h
    split at h
    · have ha := sE T S a _ _ _ _ Z h
      exact ⟨pe_notG Z.K (bor_of Z h ha.1), fun ht => (pt_not (ha.2 ht)).of fun σ H Q q => rd_notT q⟩
    · cases h
  | .ite c a b => fun C sc X e Z h => by
    unfold chkE at h
    split at h
    · simp only [Bool.and_eq_true] at h
      obtain ⟨⟨⟨h1, ht⟩, h2⟩, h3⟩ := h
      exact ⟨(pe_ifExp ((sE T S c _ _ _ _ Z h1).2 ht) (sE T S a _ _ _ _ Z h2).1 (sE T S b _ _ _ _ Z h3).1).of fun σ H Q q => rd_ite q, fun z => by cases z⟩
    · cases h
  | .tup l => fun C sc X e Z h => by
    have h0 := h
    unfold chkE at h
    split at h
    · rename_i es k pos
      have hE : PE X (.Tuple es k pos) (rd C (rV C) fun env st => ev T (.tup l) env st) := (pe_tupF ((sAs T S l).pa Z h)).of fun σ H Q q => by
        obtain ⟨g, env, st, rep, go⟩ := q
        refine ⟨g, env, st, rep, (Go.bind (R := rVs C σ env) go).imp fun xs H1 ⟨ds, st1, g1, e1, rep1, v1, go1⟩ => ?_⟩
        have go1 : Go C σ env (rV C σ env) g1 H1 (if small ds.length then .ok (.tup ds) st1 else .no) Q := go1
        split at go1
        · rename_i hz
          exact ⟨by rw [RVs.length v1]; exact of_decide_eq_true hz, go1.tup rep1 v1⟩
        · exact go1.elim
      exact ⟨hE, fun _ => pt_gen Z.K (bor_of Z h0 hE) fun _ => rfl⟩
    · cases h
  | .lst l => fun C sc X e Z h => by
    have h0 := h
    unfold chkE at h
    split at h
    · rename_i es pos
      have hE : PE X (.List es pos) (rd C (rV C) fun env st => ev T (.lst l) env st) := (pe_lst ((sAs T S l).pa Z h)).of fun σ H Q q => by
        obtain ⟨g, env, st, rep, go⟩ := q
        refine ⟨g, env, st, rep, (Go.bind (R := rVs C σ env) go).imp fun xs H1 ⟨ds, st1, g1, e1, rep1, v1, go1⟩ => ?_⟩
        have go1 : Go C σ env (rV C σ env) g1 H1 (if small ds.length then .ok (.lst ds) st1 else .no) Q := go1
        split at go1
        · rename_i hz
          exact ⟨by rw [RVs.length v1]; exact of_decide_eq_true hz, go1.lst rep1 v1⟩
        · exact go1.elim
      exact ⟨hE, fun _ => pt_gen Z.K (bor_of Z h0 hE) fun _ => rfl⟩
    · cases h
  | .lsr l => fun C sc X e Z h => by
    have h0 := h
    unfold chkE at h
    split at h
    · rename_i es pos
      have hE : PE X (.List es pos) (rd C (rV C) fun env st => ev T (.lsr l) env st) := (pe_lst ((sAs T S l).pa Z h)).of fun σ H Q q => by
        obtain ⟨g, env, st, rep, go⟩ := q
        refine ⟨g, env, st, rep, (Go.bind (R := rVs C σ env) go).imp fun xs H1 ⟨ds, st1, g1, e1, rep1, v1, go1⟩ => ?_⟩
        have go1 : Go C σ env (rV C σ env) g1 H1 (if small ds.length then .ok (.ref st1.length) (st1 ++ [.lst ds]) else .no) Q := go1
        split at go1
        · rename_i hz
          refine ⟨by rw [RVs.length v1]; exact of_decide_eq_true hz, fun p hp => ?_⟩
          have ex := Ext.alloc (o := .lst xs) rep1.sto hp
          refine go1 (g1.bind st1.length p) (upd H1 p (.lst xs)) _ ex (rep1.alloc hp ⟨xs, upd_same, RVs.ext ex v1⟩) (.ref ?_)
          show (if st1.length = st1.length then some p else _) = some p
          rw [if_pos rfl]
        · exact go1.elim
      exact ⟨hE, fun _ => pt_gen Z.K (bor_of Z h0 hE) fun _ => rfl⟩
    · cases h
  | .idx a b => fun C sc X e Z h => by
    have h0 := h
    unfold chkE at h
    split at h
    · rename_i x y pos
      simp only [Bool.and_eq_true] at h
      obtain ⟨⟨h1, h2⟩, h3⟩ := h
      have hE : PE X (.Subscript x y pos) (rd C (rV C) fun env st => ev T (.idx a b) env st) := (pe_ix (idx_ok Z.K Z.hu1) (bor_of Z h1 (sE T S a _ _ _ _ Z h1).1) (sE T S b _ _ _ _ Z h2).1 (ix_of h3)).of fun σ H Q q => rd_op stB q
      exact ⟨hE, fun _ => pt_gen Z.K (bor_of Z h0 hE) fun _ => rfl⟩
    · cases h
  | .sl a lo hi => fun C sc X e Z h => by
    have h0 := h
    unfold chkE at h
    split at h
    · rename_i x l r p2 pos
      simp only [Bool.and_eq_true] at h
      obtain ⟨⟨h1, h2⟩, h3⟩ := h
      have hE : PE X (.Subscript x (.Slice l r none p2) pos) (rd C (rV C) fun env st => ev T (.sl a lo hi) env st) := (pe_slice (sl_ok Z.K) (bor_of Z h1 (sE T S a _ _ _ _ Z h1).1) ((sO T S lo _ _ _ Z).1 l h2) ((sO T S hi _ _ _ Z).1 r h3)).of fun σ H Q q => by
        obtain ⟨g, env, st, rep, go⟩ := q
        refine ⟨g, env, st, rep, (Go.bind (R := RB C σ env) go).imp fun x H1 ⟨d, st1, g1, e1, rep1, v1, go1⟩ => ?_⟩
        refine ⟨g1, env, st1, rep1, (Go.bind (R := rI σ env) go1).imp fun l H2 ⟨l', st2, g2, e2, rep2, v2, go2⟩ => ?_⟩
        have v2 : l = l' := v2
        subst v2
        refine ⟨g2, env, st2, rep2, (Go.bind (R := rI σ env) go2).imp fun r H3 ⟨r', st3, g3, e3, rep3, v3, go3⟩ => ?_⟩
        have v3 : r = r' := v3
        subst v3
        exact ⟨g3, σ, env, st3, d, rep3, stB _ _ _ _ _ _ _ _ (e2.trans e3) v1, go3⟩
      exact ⟨hE, fun _ => pt_gen Z.K (bor_of Z h0 hE) fun _ => rfl⟩
    · cases h
  | .rev a => fun C sc X e Z h => by
    have h0 := h
    unfold chkE at h
    split at h
    · rename_i x k p1 p2 p3 pos
      have hE : PE X (.Subscript x (.Slice none none (some (.UnaryOp .USub (.Constant (.int 1) k p1) p2)) p3) pos) (rd C (rV C) fun env st => ev T (.rev a) env st) := (pe_revL (bor_of Z h (sE T S a _ _ _ _ Z h).1)).of fun σ H Q q => by
        obtain ⟨g, env, st, rep, go⟩ := q
        refine ⟨g, env, st, rep, (Go.bind (R := RB C σ env) go).imp fun x H1 ⟨d, st1, g1, e1, rep1, v1, go1⟩ => ?_⟩
        have go1 : Go C σ env (rV C σ env) g1 H1 (match drf st1 d with
          | .lst l => .ok (.lst l.reverse) st1
          | _ => .no) Q := go1
        have s1 := RB.see v1 rep1
        split at go1
        · rename_i l el
          rw [el] at s1
          obtain ⟨p, vs, rfl, hq, r⟩ := s1
          exact ⟨p, vs, rfl, by rw [Z.K]; exact hq, go1.lst rep1 r.reverse⟩
        · exact go1.elim
      exact ⟨hE, fun _ => pt_gen Z.K (bor_of Z h0 hE) fun _ => rfl⟩
    · cases h
  | .call f l => fun C sc X e Z h => by
    have h0 := h
    unfold chkE at h
    split at h
    · rename_i x px es pos
      simp only [Bool.and_eq_true, decide_eq_true_eq] at h
      obtain ⟨⟨h1, h2⟩, h3⟩ := h
      obtain ⟨g1, g2⟩ := gl_of Z h2
      obtain ⟨ad, fd, k, ps, m1, kp, bd, hr, F, hm0, _⟩ := Z.fn f x h1
      have hE : PE X (.Call (.Name x px) es [] pos) (rd C (rV C) fun env st => ev T (.call f l) env st) := by
        have hb : KBn X.K fd ps ps.length [] (fun us _ => us) (fun vs _ => vs) := ⟨fun s us ws X l1 l2 => by
          have := bd s us X (by rw [List.append_nil]; exact l1)
          rw [List.append_nil] at this
          exact this, fun r1 r2 => r1⟩
        have kk : PK X [] (rd C (rVs C) fun env st => .ok [] st) := PK.of pk_nil fun σ H Q ⟨g, env, st, rep, go⟩ => Go.end_ (show Go C σ env (rVs C σ env) g H (.ok [] st) Q from go) rep .nil
        refine (call_gen (perm := fun ds es => if ds.length = ps.length ∧ es.length = 0 then some ds else none) F hm0 Z.tk hr g1 g2 m1 kp hb (fun ds es as q => ?_) (fun g H vs zs ds es as r1 r2 q => ?_) ((sAs T S l).pa Z h3) kk rfl rfl (fun z => ?_) (fun e r z => ?_) ?_).of fun σ H Q q => ?_
        · split at q
          · assumption
          · cases q
        · split at q
          · cases q; exact r1
          · cases q
        · subst z
          exact chks_nil h3
        · subst z
          exact star_of (chks_op h3) _ _
        · show ((backTo pos (starEach es X.env)).any (·.1) || false) = false
          rw [Bool.or_false, backTo_any]
          exact chks_star X.env h3
        · refine rd_ex (fun env st => ?_) q
          show (evs T l env st).bind (fun ds st => T.fn f ds st) = _
          congr 1
          funext ds st
          show _ = (Res.of (if ds.length = ps.length ∧ ([] : List D).length = 0 then some ds else none) st).bind fun as st => T.fn f as st
          by_cases hl : ds.length = ps.length
          · rw [if_pos ⟨hl, rfl⟩]; rfl
          · rw [if_neg (fun z => hl z.1), hm0 ds st hl]; rfl
      exact ⟨hE, fun _ => pt_gen Z.K (bor_of Z h0 hE) fun _ => rfl⟩
    · cases h
  | .callK c l lk => fun C sc X e Z h => by
    have h0 := h
    unfold chkE at h
    split at h
    · rename_i x px es kws pos
      split at h
      · rename_i y ks hc
        simp only [Bool.and_eq_true, decide_eq_true_eq] at h
        obtain ⟨⟨⟨rfl, h2⟩, h3⟩, h4⟩ := h
        obtain ⟨g1, g2⟩ := gl_of Z h2
        obtain ⟨ad, fd, k, ps, gU, gV, m1, kp, hb, hr, F, hm0, hnk, hp⟩ := Z.kc c x ks hc
        have hE : PE X (.Call (.Name x px) es kws pos) (rd C (rV C) fun env st => ev T (.callK c l lk) env st) := by
          obtain ⟨q1, q2⟩ := kws_of (pos := pos) X.env h4
          refine call_gen (perm := permK (T.kp c)) F hm0 Z.tk hr g1 g2 m1 kp hb (fun ds es as q => ?_) hp ((sAs T S l).pa Z h3) ((sAs T S lk).pk Z h4) q1 q2 (fun z => ?_) (fun e r z => ?_) ?_
          · unfold permK at q
            split at q
            · rename_i z
              exact ⟨z.1, z.2.trans hnk⟩
            · cases q
          · subst z
            exact chks_nil h3
          · subst z
            exact star_of (chks_op h3) _ _
          · rw [backTo_any, chks_star X.env h3, Bool.false_or]
            exact kws_some q1
        exact ⟨hE, fun _ => pt_gen Z.K (bor_of Z h0 hE) fun _ => rfl⟩
      · cases h
    · cases h
  | .prim p l => fun C sc X e Z h => by
    have h0 := h
    unfold chkE at h
    split at h
    · rename_i x px e0 es pos
      split at h
      · rename_i nm f hp
        simp only [Bool.and_eq_true, decide_eq_true_eq] at h
        obtain ⟨⟨h1, h2⟩, h3⟩ := h
        have hc : opB e0 = true ∧ (starEach es X.env).any (·.1) = false := by
          cases l with
          | nil => unfold chkAs at h3; cases h3
          | cons a l =>
            unfold chkAs at h3
            simp only [Bool.and_eq_true] at h3
            exact ⟨chk_op h3.1, chks_star X.env h3.2⟩
        have hE : PE X (.Call (.Name x px) (e0 :: es) [] pos) (rd C (rV C) fun env st => ev T (.prim p l) env st) := prim_call Z hp h1 h2 hc.1 hc.2 ((sAs T S l).pb Z h3)
        exact ⟨hE, fun _ => pt_gen Z.K (bor_of Z h0 hE) fun _ => rfl⟩
      · cases h
    · cases h
  | .fnc f x => fun C sc X e Z h => by
    have h0 := h
    unfold chkE at h
    split at h
    · rename_i y pos
      simp only [Bool.and_eq_true, decide_eq_true_eq] at h
      obtain ⟨⟨rfl, h1⟩, h2⟩ := h
      obtain ⟨g1, g2⟩ := gl_of Z h2
      obtain ⟨ad, fd, k, ps, m1, kp, bd, hr, F, hm0, ea⟩ := Z.fn f y h1
      have hE : PE X (.Name y pos) (rd C (rV C) fun env st => ev T (.fnc f y) env st) := (pe_glob (v := .ref ad) g1 m1 rfl g2).of fun σ H Q ⟨g, env, st, rep, go⟩ =>
        Go.end_ (show Go C σ env (rV C σ env) g H (.ok (.fnv f y) st) Q from go) rep (by rw [ea, Z.K]; exact .fnv f y)
      exact ⟨hE, fun _ => pt_gen Z.K (bor_of Z h0 hE) fun _ => rfl⟩
    · cases h
  | .callV i cs l => fun C sc X e Z h => by
    have h0 := h
    unfold chkE at h
    split at h
    · rename_i x px e0 es pos
      simp only [Bool.and_eq_true, decide_eq_true_eq] at h
      obtain ⟨⟨⟨h1, h2⟩, h3⟩, h4⟩ := h
      obtain ⟨v1, v2, v3⟩ := vis_of h2
      have hst : (starEach es X.env).any (·.1) = false := by
        have := chks_star X.env h4
        rw [star_of (chks_op h4), List.any_cons, Bool.or_eq_false_iff] at this
        exact this.2
      have hE : PE X (.Call (.Name x px) (e0 :: es) [] pos) (rd C (rV C) fun env st => ev T (.callV i cs l) env st) := by
        refine ⟨fun pins s σ H Q I q => ?_⟩
        obtain ⟨g, env, st, rep, go⟩ := q
        have go : Go C σ env (rV C σ env) g H (match fnvAt env i with
          | some p => if decide (p ∈ cs) then (evs T l env st).bind fun ds st => T.fn p.1 ds st else .no
          | none => .no) Q := go
        unfold fnvAt at go
        split at go
        · rename_i p hp
          split at hp
          · rename_i f y e1
            cases hp
            obtain ⟨v, hv, rv⟩ := rep.val i _ e1
            cases rv
            split at go
            · rename_i hc
              have hc := of_decide_eq_true hc
              have hfn := of_decide_eq_true (List.all_eq_true.mp h3 _ hc)
              obtain ⟨ad, fd, k, ps, m1, kp, bd, hr, F, hm0, ea⟩ := Z.fn f y hfn
              rw [Z.K] at ea
              rw [← ea] at hv
              refine wpAny_Call_Name_kw (thn ((pe_var (pos := px) (by rw [Z.hN]; exact h1) (by rw [Z.scp]; exact v1) v2 v3).run pins s σ H (fun v H1 => v = .ref ad ∧ H1 = H) I ⟨.ref ad, hv, rfl, rfl⟩) fun u s1 ⟨v, H1, I1, r1, q1⟩ => ?_)
              obtain ⟨rfl, rfl⟩ := q1
              cases r1
              refine PySem.W.callWith_K (h₀ := X.base) I.ok.mod.kin kp (thn (((sAs T S l).pa Z h4).run pos pins s1 σ _ _ I1 ⟨g, env, st, rep, Go.bind (R := rVs C σ env) go⟩) fun us s2 ⟨vs, H2, I2, r, ds, st1, g1, e1, rep1, w1, go1⟩ => ⟨I2.kIn, ?_⟩) (star_of (chks_op h4) _ _) (by rw [backTo_any]; exact hst)
              by_cases hl : ds.length = ps.length
              · have sp := spD_go (n := ps.length) rep1 w1 (by rw [← hl]; exact w1.length) go1
                refine wpAny_call (codeAny_mono (F.run X.A X.stack s2 H2 ⟨us, []⟩ us vs Q (WE C.W σ) hr I2.env0 (by have := bd s2 us I2.kIn (by rw [List.append_nil, ← r.length, w1.length]; exact hl); rw [List.append_nil] at this; exact this) r sp) fun r s' hq => ?_)
                cases r with
                | error e => exact passAt Z.tk σ pins H2 s2 e s' I2 hq
                | ok fl =>
                  cases fl with
                  | ret u => exact I2.after hq
                  | next => exact False.elim hq
                  | brk => exact False.elim hq
                  | cont => exact False.elim hq
              · dsimp only at go1
                rw [hm0 ds st1 hl] at go1
                exact go1.elim
            · exact go.elim
          · cases hp
        · exact go.elim
      exact ⟨hE, fun _ => pt_gen Z.K (bor_of Z h0 hE) fun _ => rfl⟩
    · cases h
  | .inK neg x ks a => fun C sc X e Z h => by
    have h0 := h
    unfold chkE at h
    split at h
    · rename_i l o y py pos
      simp only [Bool.and_eq_true, decide_eq_true_eq, Bool.not_eq_true'] at h
      obtain ⟨⟨⟨⟨⟨ho, rfl⟩, h2⟩, h3⟩, h4⟩, h5⟩ := h
      obtain ⟨g1, g2⟩ := gl_of Z h2
      obtain ⟨d, es, n, m1, D, hk⟩ := Z.kd y ks h3
      have ha := (sE T S a _ _ _ _ Z h5).1
      have hb : PE X (.Name y py) (tC (.ref d)) := pe_glob g1 m1 rfl g2
      have main : ∀ (σ : L2.St) (H : Hp) (Q : VK), rd C (rV C) (fun env st => ev T (.inK neg y ks a) env st) σ H Q → tOp (fun x y H Q => ∃ (z : Str) (r : Option Value), x = .str z ∧ y = .ref d ∧ PySem.W.nsIn X.K d z = some r ∧ Q (.bl (if neg then !r.isSome else r.isSome)) H) (rd C (rV C) fun env st => ev T a env st) (tC (.ref d)) σ H Q := fun σ H Q q => by
        obtain ⟨g, env, st, rep, go⟩ := q
        have go : Go C σ env (rV C σ env) g H ((ev T a env st).bind fun x st => .of (inKD neg ks x) st) Q := go
        refine ⟨g, env, st, rep, (Go.bind (R := rV C σ env) go).imp fun x H1 ⟨dx, st1, g1, e1, rep1, v1, go1⟩ => ?_⟩
        obtain ⟨d2, hd, go2⟩ := Go.of (show Go C σ env (rV C σ env) g1 H1 (.of (inKD neg ks dx) st1) Q from go1)
        unfold inKD at hd
        split at hd
        · rename_i z
          cases hd
          cases (show RV C.K g1 H1 x (.str z) from v1)
          obtain ⟨r, hr, hs⟩ := hk z
          refine ⟨z, r, rfl, rfl, hr, ?_⟩
          rw [hs]
          exact go2.end_ rep1 (.bl _)
        · cases hd
      have hop : OpR X (compareOp o) (fun x y H Q => ∃ (z : Str) (r : Option Value), x = .str z ∧ y = .ref d ∧ PySem.W.nsIn X.K d z = some r ∧ Q (.bl (if neg then !r.isSome else r.isSome)) H) := by
        cases neg with
        | true => cases ho; exact op_notIn_kd D
        | false => cases ho; exact op_in_kd D
      refine ⟨(pe_cmpR hop ha hb h4).of main, fun _ => (pt_cmpR hop ha hb h4).of fun σ H Q q => ?_⟩
      exact main σ H _ (rd_tst (fun env st d st' hq => ink_bl env st d st' hq) q)
    · cases h
  | .pop o i => fun C sc X e Z h => by
    have h0 := h
    unfold chkE at h
    split at h
    · rename_i eo m ap ei q
      simp only [Bool.and_eq_true, decide_eq_true_eq] at h
      obtain ⟨⟨⟨⟨rfl, h2⟩, h3⟩, h4⟩, h5⟩ := h
      have hE : PE X (.Call (.Attribute eo "pop" ap) [ei] [] q) (rd C (rV C) fun env st => ev T (.pop o i) env st) := pop_call Z h2 h3 (chk_op h5) (sE T S o _ _ _ _ Z h4).1 (pa_1 (chk_op h5) (sE T S i _ _ _ _ Z h5).1)
      exact ⟨hE, fun _ => pt_gen Z.K (bor_of Z h0 hE) fun _ => rfl⟩
    · cases h
  | .lref a => fun C sc X e Z h => by
    have h0 := h
    unfold chkE at h
    split at h
    · rename_i x px y pos
      simp only [Bool.and_eq_true, decide_eq_true_eq] at h
      obtain ⟨⟨rfl, h2⟩, h3⟩ := h
      obtain ⟨g1, g2⟩ := gl_of Z h2
      have ha : PA X [y] (rd C (RBs C) fun env st => (evB a env st (ev T a env st)).bind fun d st => .ok [d] st) := by
        refine (pa_cons (bor_of Z h3 (sE T S a _ _ _ _ Z h3).1) pa_nil (star_of (chk_op h3) _ _)).of fun σ H Q q => ?_
        obtain ⟨g, env, st, rep, go⟩ := q
        refine ⟨g, env, st, rep, (Go.bind (R := RB C σ env) go).imp fun x H1 ⟨d, st1, g1, e1, rep1, v1, go1⟩ => ?_⟩
        exact go1.end_ rep1 (.cons v1 .nil)
      have hE : PE X (.Call (.Name "list" px) [y] [] pos) (rd C (rV C) fun env st => ev T (.lref a) env st) := by
        refine (pe_callTy call_list_of g1 (Z.mg blt_list) (by decide +kernel) ha (by decide +kernel) g2 (star_of (chk_op h3) _ _) rfl).of fun σ H Q q => ?_
        obtain ⟨g, env, st, rep, go⟩ := q
        refine ⟨g, env, st, rep, ?_⟩
        have go : Go C σ env (rV C σ env) g H ((evB a env st (ev T a env st)).bind fun d st => match seqD (drf st d) with
          | some l => if small l.length then .ok (.ref st.length) (st ++ [.lst l]) else .no
          | none => .no) Q := go
        show Go C σ env (RBs C σ env) g H ((evB a env st (ev T a env st)).bind fun d st => .ok [d] st) _
        cases hr : evB a env st (ev T a env st) with
        | no => rw [hr] at go; exact go.elim
        | ex y s => rw [hr] at go; exact go
        | ok d s =>
          rw [hr] at go
          intro g2 H2 xs ex2 rep2 rv2
          have vs := (show RBs C σ env g2 H2 xs [d] from rv2).sees rep2
          have go2 := Go.mono (show Go C σ env (rV C σ env) g H (match seqD (drf s d) with
            | some l => if small l.length then .ok (.ref s.length) (s ++ [.lst l]) else .no
            | none => .no) Q from go) ex2
          obtain ⟨x, rfl, vx⟩ := rc1 (show Sees C.K g2 H2 xs [drf s d] from vs)
          revert vx go2
          generalize drf s d = dd
          intro go2 vx
          have fin : ∀ (l : List D) (ws : List V), RVs C.K g2 H2 ws l → Go C σ env (rV C σ env) g2 H2 (if small l.length then .ok (.ref s.length) (s ++ [.lst l]) else .no) Q → ∀ p, H2 p = none → Q (.ref p) (upd H2 p (.lst ws)) := fun l ws rr go3 p hp => by
            split at go3
            · have ex := Ext.alloc (o := .lst ws) rep2.sto hp
              refine go3 (g2.bind s.length p) (upd H2 p (.lst ws)) _ ex (rep2.alloc hp ⟨ws, upd_same, RVs.ext ex rr⟩) (.ref ?_)
              show (if s.length = s.length then some p else _) = some p
              rw [if_pos rfl]
            · exact go3.elim
          cases dd <;> try exact go2.elim
          · obtain ⟨ad, ws, rfl, hq, rr⟩ := vx
            exact ⟨ad, ws, rfl, .inr (by rw [Z.K]; exact hq.sq), fin _ ws rr go2⟩
          · obtain ⟨ad, ws, rfl, hq, rr⟩ := vx
            exact ⟨ad, ws, rfl, .inl (by rw [Z.K]; exact hq), fin _ ws rr go2⟩
      exact ⟨hE, fun _ => pt_gen Z.K (bor_of Z h0 hE) fun _ => rfl⟩
    · cases h
  | .isiO cs b n => fun C sc X e Z h => by
    have h0 := h
    unfold chkE at h
    split at h
    · rename_i y py ea z pz pos
      simp only [Bool.and_eq_true, decide_eq_true_eq] at h
      obtain ⟨⟨⟨⟨⟨rfl, h1⟩, h2⟩, h3⟩, h4⟩, h5⟩ := h
      obtain ⟨g1, g2⟩ := gl_of Z h1
      obtain ⟨g3, g4⟩ := gl_of Z h3
      obtain ⟨b1, b2, b3⟩ := ty_boot h2
      have hm : X.mg "isinstance" = none := Z.blt _ (by decide)
      have hT : PE X (.Name z pz) (tC (.ty n)) := pe_bltn (v := .ty n) g3 (Z.mg b2) b1 rfl b3 g4
      have hE : PE X (.Call (.Name "isinstance" py) [ea, .Name z pz] [] pos) (rd C (rV C) fun env st => ev T (.isiO cs b n) env st) := by
        refine (pe_callB (p := py) (pos := pos) (call_isi (X := X)) g1 hm (by rfl) (pa_cons (sE T S b _ _ _ _ Z h4).1 (pa_cons hT pa_nil (star_of rfl _ _)) (star_of (chk_op h4) _ _)) (by decide) g2 (star_of (chk_op h4) _ _) (by rw [backTo_any, star_of rfl]; rfl)).of fun σ H Q ⟨g, env, st, rep, go⟩ => ?_
        refine ⟨g, env, st, rep, (Go.bind (R := rV C σ env) go).imp fun x H1 ⟨d, st1, g1, e1, rep1, v1, go1⟩ => ?_⟩
        obtain ⟨w, hw, go2⟩ := go1.of
        unfold isiOD at hw
        split at hw
        · rename_i m hm2
          split at hw
          · rename_i c fs hs
            split at hw
            · rename_i hc
              cases hw
              have hd : d = .ref m := by
                cases d with
                | ref k =>
                  unfold drf at hm2
                  dsimp only at hm2
                  split at hm2 <;> first | (cases hm2; done) | exact hm2
                | _ => cases hm2
              subst hd
              obtain ⟨a, dx, vs, rfl, hρ, hH, rf⟩ := ref_ins rep1 hs v1
              have ii := Z.co c n (of_decide_eq_true (List.all_eq_true.mp h5 c hc.1))
              exact ⟨_, _, _, _, false, rfl, .ty _, .base (.ins hH ii.cl ii.ha ii.hn ii.ht ii.hm), ii.no, go2.end_ rep1 (.bl _)⟩
            · cases hw
          · cases hw
        · rename_i hnr
          split at hw
          · rename_i hT2
            obtain ⟨b', hb, rfl⟩ := Option.map_eq_some_iff.mp hw
            have vx := RV.seeD v1 rep1
            obtain ⟨t, q1, q2⟩ := isi_ok hT2 vx hb
            exact ⟨_, _, _, _, b', rfl, .ty _, by rw [Z.K]; exact q1, kit_ty q2, go2.end_ rep1 (.bl _)⟩
          · cases hw
      exact ⟨hE, fun _ => pt_gen Z.K (bor_of Z h0 hE) fun _ => rfl⟩
    · cases h
  | .ty n => fun C sc X e Z h => by
    have h0 := h
    unfold chkE at h
    split at h
    · rename_i x pos
      simp only [Bool.and_eq_true, decide_eq_true_eq] at h
      obtain ⟨g1, g2⟩ := gl_of Z h.2
      obtain ⟨b1, b2, b3⟩ := ty_boot h.1
      have hE : PE X (.Name x pos) (rd C (rV C) fun env st => ev T (.ty n) env st) := (pe_bltn (v := .ty n) g1 (Z.mg b2) b1 rfl b3 g2).of fun σ H Q ⟨g, env, st, rep, go⟩ => Go.end_ (show Go C σ env (rV C σ env) g H (.ok (.ty n) st) Q from go) rep (.ty _)
      exact ⟨hE, fun _ => pt_gen Z.K (bor_of Z h0 hE) fun _ => rfl⟩
    · cases h
  | .lrng it => fun C sc X e Z h => by
    have h0 := h
    unfold chkE at h
    split at h
    · rename_i x px y pos
      simp only [Bool.and_eq_true, decide_eq_true_eq] at h
      obtain ⟨⟨⟨rfl, h2⟩, h3⟩, h4⟩ := h
      obtain ⟨g1, g2⟩ := gl_of Z h2
      have hE : PE X (.Call (.Name "list" px) [y] [] pos) (rd C (rV C) fun env st => ev T (.lrng it) env st) := by
        refine (pe_listRg Z.calm g1 (Z.mg blt_list) (sRg T S it _ _ _ _ Z h3 h4) (star_of (chkIt_op h3 h4) _ _)).of fun σ H Q q => ?_
        obtain ⟨g, env, st, rep, go⟩ := q
        refine ⟨g, env, st, rep, (Go.bind (R := rRg) go).imp fun ⟨a, b⟩ H1 ⟨l, st1, g1, e1, rep1, v1, go1⟩ => ?_⟩
        obtain ⟨v1, v2, v3, v4, v5⟩ := v1
        subst v5
        have go1 : Go C σ env (rV C σ env) g1 H1 (if decide ((rngD a b).length ≤ 2 ^ 24) then .ok (.lst (rngD a b)) st1 else .no) Q := go1
        split at go1
        · rename_i hz
          have hz := of_decide_eq_true hz
          have hl : (rngD a b).length = (b - a).toNat := by unfold rngD; rw [List.length_map, List.length_range]
          exact ⟨⟨v1, v2, v3, v4, by rw [← hl]; exact hz⟩, go1.lst rep1 (rgV_rv a b)⟩
        · exact go1.elim
      exact ⟨hE, fun _ => pt_gen Z.K (bor_of Z h0 hE) fun _ => rfl⟩
    · cases h
  | .mth m a l => fun C sc X e Z h => by
    have h0 := h
    unfold chkE at h
    split at h
    · rename_i o x ap es pos
      simp only [Bool.and_eq_true, decide_eq_true_eq] at h
      obtain ⟨⟨⟨⟨⟨h1, h2⟩, h3⟩, h4⟩, h5⟩, h6⟩ := h
      subst h1
      have hst := chks_star X.env h6
      cases es with
      | nil => cases m <;> cases h2
      | cons e0 es =>
        have hop : opB e0 = true := by
          cases l with
          | nil => unfold chkAs at h6; cases h6
          | cons a l =>
            unfold chkAs at h6
            simp only [Bool.and_eq_true] at h6
            exact chk_op h6.1
        have hE : PE X (.Call (.Attribute o (mNm m) ap) (e0 :: es) [] pos) (rd C (rV C) fun env st => ev T (.mth m a l) env st) := mth_call Z h3 h4 h2 hst hop (bor_of Z h5 (sE T S a _ _ _ _ Z h5).1) ((sAs T S l).pb Z h6)
        exact ⟨hE, fun _ => pt_gen Z.K (bor_of Z h0 hE) fun _ => rfl⟩
    · cases h
  | .comp own p it c e => fun C sc X x Z h => by
    have h0 := h
    unfold chkE at h
    split at h
    · rename_i elt tg iter ifs scope pos
      simp only [Bool.and_eq_true] at h
      obtain ⟨⟨⟨⟨⟨⟨⟨h1, h2⟩, h3⟩, h4⟩, h5⟩, h6⟩, h7⟩, h8⟩ := h
      have hn : nmIt it = true ∨ ∃ l, p = .tp l := by
        rcases Bool.or_eq_true_iff.mp h4 with z | z
        · exact .inl z
        · cases p with
          | nm i => cases z
          | tp l => exact .inr ⟨l, rfl⟩
      have hE : PE X (.ListComp elt [⟨tg, iter, ifs, 0⟩] scope pos) (rd C (rV C) fun env st => ev T (.comp own p it c e) env st) := comp_ok Z h1 h2 h6 (sIt T S it _ _ _ _ _ true Z h5)
        (fun pr s H D cl fp => sP (C := C.blk pr) (Z.blk pr s H scope D cl fp).K (Z.blk pr s H scope D cl fp).calm (Z.slots s H scope D cl fp) p tg (nmIt it) h3 hn) (fun pr s H D cl fp => (sO T S c _ _ _ (Z.blk pr s H scope D cl fp)).2 ifs h7) (fun pr s H D cl fp => (sE T S e _ _ _ _ (Z.blk pr s H scope D cl fp) h8).1)
      exact ⟨hE, fun _ => pt_gen Z.K (bor_of Z h0 hE) fun _ => rfl⟩
    · cases h
  | .dcomp own p it c k v => fun C sc X x Z h => by
    have h0 := h
    unfold chkE at h
    split at h
    · rename_i kx vx tg iter ifs scope pos
      simp only [Bool.and_eq_true] at h
      obtain ⟨⟨⟨⟨⟨⟨⟨⟨h1, h2⟩, h3⟩, h4⟩, h5⟩, h6⟩, h7⟩, h8⟩, h9⟩ := h
      have hn : nmIt it = true ∨ ∃ l, p = .tp l := by
        rcases Bool.or_eq_true_iff.mp h4 with z | z
        · exact .inl z
        · cases p with
          | nm i => cases z
          | tp l => exact .inr ⟨l, rfl⟩
      have hE : PE X (.DictComp kx vx [⟨tg, iter, ifs, 0⟩] scope pos) (rd C (rV C) fun env st => ev T (.dcomp own p it c k v) env st) := dcomp_ok Z h1 h2 h6 (sIt T S it _ _ _ _ _ true Z h5)
        (fun pr s H D cl fp => sP (C := C.blk pr) (Z.blk pr s H scope D cl fp).K (Z.blk pr s H scope D cl fp).calm (Z.slots s H scope D cl fp) p tg (nmIt it) h3 hn) (fun pr s H D cl fp => (sO T S c _ _ _ (Z.blk pr s H scope D cl fp)).2 ifs h7)
        (fun pr s H D cl fp => (sE T S k _ _ _ _ (Z.blk pr s H scope D cl fp) h8).1) (fun pr s H D cl fp => (sE T S v _ _ _ _ (Z.blk pr s H scope D cl fp) h9).1)
      exact ⟨hE, fun _ => pt_gen Z.K (bor_of Z h0 hE) fun _ => rfl⟩
    · cases h
  | .new a => fun C sc X e Z h => by
    have h0 := h
    unfold chkE at h
    obtain ⟨hn, h⟩ := Bool.and_eq_true_iff.mp h
    have hN : PE X e (rd C (rO C) fun env st => (ev T a env st).bind fun d st => .of d.toO st) := sN T S a hn C sc X e Z h
    exact ⟨pe_newD hN, fun _ => pt_gen Z.K (bor_of Z h0 (pe_newD hN)) fun _ => by cases a <;> first | (cases hn; done) | (unfold chkE at h; split at h <;> first | rfl | (cases h; done))⟩
  | .attr cs o f => fun C sc X e Z h => by
    have h0 := h
    unfold chkE at h
    split at h
    · rename_i eo x pos
      simp only [Bool.and_eq_true, decide_eq_true_eq] at h
      obtain ⟨⟨⟨rfl, h2⟩, h3⟩, h4⟩ := h
      have hE : PE X (.Attribute eo x pos) (rd C (rV C) fun env st => ev T (.attr cs o x) env st) := pe_attrD Z.K (fun c hc => Z.ca c x (of_decide_eq_true (List.all_eq_true.mp h4 c hc))) h2 (sE T S o _ _ _ _ Z h3).1
      exact ⟨hE, fun _ => pt_gen Z.K (bor_of Z h0 hE) fun _ => rfl⟩
    · cases h
  | .make c x f l => fun C sc X e Z h => by
    have h0 := h
    unfold chkE at h
    split at h
    · rename_i y px es pos
      simp only [Bool.and_eq_true, decide_eq_true_eq] at h
      obtain ⟨⟨⟨rfl, h2⟩, h3⟩, h4⟩ := h
      obtain ⟨g1, g2⟩ := gl_of Z h2
      have hE : PE X (.Call (.Name y px) es [] pos) (rd C (rV C) fun env st => ev T (.make c y f l) env st) := pe_makeD Z.K Z.tk (Z.ck c y f h3) g1 g2 ((sAs T S l).pa Z h4) (chks_star X.env h4)
        (fun e r z => by subst z; exact star_of (chks_op h4) _ _) (fun z => by subst z; exact chks_nil h4)
      exact ⟨hE, fun _ => pt_gen Z.K (bor_of Z h0 hE) fun _ => rfl⟩
    · cases h
  | .callM m cs o l => fun C sc X e Z h => by
    have h0 := h
    unfold chkE at h
    split at h
    · rename_i eo x ap es pos
      simp only [Bool.and_eq_true, decide_eq_true_eq] at h
      obtain ⟨⟨⟨⟨⟨⟨rfl, h2⟩, h3⟩, h4⟩, h5⟩, h6⟩, h7⟩ := h
      have hE : PE X (.Call (.Attribute eo x ap) es [] pos) (rd C (rV C) fun env st => ev T (.callM x cs o l) env st) := pe_callM Z.K Z.tk (fun c f hc => Z.cm c x f (of_decide_eq_true (List.all_eq_true.mp h7 (c, f) hc))) (sE T S o _ _ _ _ Z h5).1 ((sAs T S l).pa Z h6)
        h4 (chks_star X.env h6) h2 h3 (fun e r z => by subst z; exact star_of (chks_op h6) _ _) (fun z => by subst z; exact chks_nil h6)
      exact ⟨hE, fun _ => pt_gen Z.K (bor_of Z h0 hE) fun _ => rfl⟩
    · cases h
  | .disp ks l => fun C sc X e Z h => by
    have h0 := h
    unfold chkE at h
    split at h
    · rename_i keys es pos
      simp only [Bool.and_eq_true, decide_eq_true_eq] at h
      obtain ⟨⟨⟨h1, h2⟩, h4⟩, h5⟩ := h
      have hE : PE X (.Dict keys es pos) (rd C (rV C) fun env st => ev T (.disp ks l) env st) := by
        by_cases z : keys = []
        · obtain ⟨rfl, rfl, rfl⟩ := disp_nil h1 h2 h5 z
          subst z
          exact pe_disp0
        · exact pe_dispD (pos := pos) ((sAs T S l).pd Z h1 h5 h2) (keys_some h1) h2 z h4
      exact ⟨hE, fun _ => pt_gen Z.K (bor_of Z h0 hE) fun _ => rfl⟩
    · cases h
  | .tabI x t a => fun C sc X e Z h => by
    have h0 := h
    unfold chkE at h
    split at h
    · rename_i y py ei pos
      simp only [Bool.and_eq_true, decide_eq_true_eq] at h
      obtain ⟨⟨⟨⟨rfl, h2⟩, h3⟩, h4⟩, h5⟩ := h
      obtain ⟨g1, g2⟩ := gl_of Z h2
      have hE : PE X (.Subscript (.Name y py) ei pos) (rd C (rV C) fun env st => ev T (.tabI y t a) env st) := pe_tabI Z.K (Z.tv y t (tv_of h3)) g1 g2 (sE T S a _ _ _ _ Z h4).1 (ix_of h5)
      exact ⟨hE, fun _ => pt_gen Z.K (bor_of Z h0 hE) fun _ => rfl⟩
    · cases h
  | .tabG x t a b => fun C sc X e Z h => by
    have h0 := h
    unfold chkE at h
    split at h
    · rename_i y py m ap ea eb pos
      simp only [Bool.and_eq_true, decide_eq_true_eq] at h
      obtain ⟨⟨⟨⟨⟨⟨rfl, rfl⟩, h2⟩, h3⟩, h4⟩, h5⟩, h6⟩ := h
      obtain ⟨g1, g2⟩ := gl_of Z h3
      have hE : PE X (.Call (.Attribute (.Name y py) "get" ap) [ea, eb] [] pos) (rd C (rV C) fun env st => ev T (.tabG y t a b) env st) := pe_tabG Z.K (Z.tv y t (tv_of h4)) g1 g2 h2 (chk_op h5) (chk_op h6) (pa_2 (chk_op h5) (chk_op h6) (sE T S a _ _ _ _ Z h5).1 (sE T S b _ _ _ _ Z h6).1)
      exact ⟨hE, fun _ => pt_gen Z.K (bor_of Z h0 hE) fun _ => rfl⟩
    · cases h
  | .eqT l m => fun C sc X e Z h => by
    unfold chkE at h
    split at h
    · rename_i es k1 p1 fs k2 p2 pos
      simp only [Bool.and_eq_true, Bool.not_eq_true'] at h
      obtain ⟨⟨hm, h1⟩, h2⟩ := h
      have ha := pe_tupF (pos := p1) (x1 := k1) ((sAs T S l).pa Z h1)
      have hb := pe_tupF (pos := p2) (x1 := k2) ((sAs T S m).pa Z h2)
      exact ⟨(pe_cmpR (tups_ok Z.K Z.hu) ha hb hm).of fun σ H Q q => rd_eqT q, fun _ => (pt_cmpR (tups_ok Z.K Z.hu) ha hb hm).of fun σ H Q q => rd_eqT (rd_tst (fun env st d st' => eqT_bl env st d st') q)⟩
    · cases h
/-- new things of one's own -/
theorem sN (T : Tb) (S : Sig) : ∀ a : A, newA a = true → ∀ (C : Ct) (sc : Scope) (X : Cx) (e : Expr), Good C T S sc X → chkE S sc a e = true → PE X e (rd C (rO C) fun env st => (ev T a env st).bind fun d st => .of d.toO st)
  | .lst l => fun _ C sc X e Z h => by
    unfold chkE at h
    split at h
    · rename_i es pos
      exact new_lstG ((sAs T S l).pa Z h)
    · cases h
  | .comp own p it c a => fun _ C sc X e Z h => by
    unfold chkE at h
    split at h
    · rename_i elt tg iter ifs scope pos
      simp only [Bool.and_eq_true] at h
      obtain ⟨⟨⟨⟨⟨⟨⟨h1, h2⟩, h3⟩, h4⟩, h5⟩, h6⟩, h7⟩, h8⟩ := h
      have hn : nmIt it = true ∨ ∃ l, p = .tp l := by
        rcases Bool.or_eq_true_iff.mp h4 with z | z
        · exact .inl z
        · cases p with
          | nm i => cases z
          | tp l => exact .inr ⟨l, rfl⟩
      exact new_compG Z h1 h2 h6 (sIt T S it _ _ _ _ _ true Z h5)
        (fun pr s H D cl fp => sP (C := C.blk pr) (Z.blk pr s H scope D cl fp).K (Z.blk pr s H scope D cl fp).calm (Z.slots s H scope D cl fp) p tg (nmIt it) h3 hn) (fun pr s H D cl fp => (sO T S c _ _ _ (Z.blk pr s H scope D cl fp)).2 ifs h7) (fun pr s H D cl fp => (sE T S a _ _ _ _ (Z.blk pr s H scope D cl fp) h8).1)
    · cases h
  | .dcomp own p it c k v => fun _ C sc X e Z h => by
    unfold chkE at h
    split at h
    · rename_i kx vx tg iter ifs scope pos
      simp only [Bool.and_eq_true] at h
      obtain ⟨⟨⟨⟨⟨⟨⟨⟨h1, h2⟩, h3⟩, h4⟩, h5⟩, h6⟩, h7⟩, h8⟩, h9⟩ := h
      have hn : nmIt it = true ∨ ∃ l, p = .tp l := by
        rcases Bool.or_eq_true_iff.mp h4 with z | z
        · exact .inl z
        · cases p with
          | nm i => cases z
          | tp l => exact .inr ⟨l, rfl⟩
      exact new_dcompG Z h1 h2 h6 (sIt T S it _ _ _ _ _ true Z h5)
        (fun pr s H D cl fp => sP (C := C.blk pr) (Z.blk pr s H scope D cl fp).K (Z.blk pr s H scope D cl fp).calm (Z.slots s H scope D cl fp) p tg (nmIt it) h3 hn) (fun pr s H D cl fp => (sO T S c _ _ _ (Z.blk pr s H scope D cl fp)).2 ifs h7)
        (fun pr s H D cl fp => (sE T S k _ _ _ _ (Z.blk pr s H scope D cl fp) h8).1) (fun pr s H D cl fp => (sE T S v _ _ _ _ (Z.blk pr s H scope D cl fp) h9).1)
    · cases h
  | .disp ks l => fun _ C sc X e Z h => by
    unfold chkE at h
    split at h
    · rename_i keys es pos
      simp only [Bool.and_eq_true, decide_eq_true_eq] at h
      obtain ⟨⟨⟨h1, h2⟩, h4⟩, h5⟩ := h
      by_cases z : keys = []
      · obtain ⟨rfl, rfl, rfl⟩ := disp_nil h1 h2 h5 z
        subst z
        exact new_disp0
      · exact new_dispG (pos := pos) ((sAs T S l).pd Z h1 h5 h2) (keys_some h1) h2 z h4
    · cases h
  | .var _ => fun hn => by cases hn
  | .lit _ => fun hn => by cases hn
  | .glo _ => fun hn => by cases hn
  | .bin _ _ _ => fun hn => by cases hn
  | .cat _ _ => fun hn => by cases hn
  | .neg _ => fun hn => by cases hn
  | .cmp _ _ _ => fun hn => by cases hn
  | .chn _ _ _ _ _ => fun hn => by cases hn
  | .isiO _ _ _ => fun hn => by cases hn
  | .andL _ => fun hn => by cases hn
  | .orL _ => fun hn => by cases hn
  | .not_ _ => fun hn => by cases hn
  | .ite _ _ _ => fun hn => by cases hn
  | .tup _ => fun hn => by cases hn
  | .lsr _ => fun hn => by cases hn
  | .idx _ _ => fun hn => by cases hn
  | .sl _ _ _ => fun hn => by cases hn
  | .rev _ => fun hn => by cases hn
  | .call _ _ => fun hn => by cases hn
  | .callK _ _ _ => fun hn => by cases hn
  | .prim p l => fun hn C sc X e Z h => by
    cases p <;> first | (cases hn; done) | skip
    unfold chkE at h
    split at h
    · rename_i x px e0 es pos
      split at h
      · rename_i nm f hp
        simp only [Bool.and_eq_true, decide_eq_true_eq] at h
        obtain ⟨⟨h1, h2⟩, h3⟩ := h
        have hc : opB e0 = true ∧ (starEach es X.env).any (·.1) = false := by
          cases l with
          | nil => unfold chkAs at h3; cases h3
          | cons a l =>
            unfold chkAs at h3
            simp only [Bool.and_eq_true] at h3
            exact ⟨chk_op h3.1, chks_star X.env h3.2⟩
        cases hp
        exact new_dictG Z h1 h2 hc.1 hc.2 ((sAs T S l).pb Z h3)
      · cases h
    · cases h
  | .ty _ => fun hn => by cases hn
  | .lrng _ => fun hn => by cases hn
  | .mth _ _ _ => fun hn => by cases hn
  | .fnc _ _ => fun hn => by cases hn
  | .callV _ _ _ => fun hn => by cases hn
  | .inK _ _ _ _ => fun hn => by cases hn
  | .pop _ _ => fun hn => by cases hn
  | .lref _ => fun hn => by cases hn
  | .new _ => fun hn => by cases hn
  | .attr _ _ _ => fun hn => by cases hn
  | .make _ _ _ _ => fun hn => by cases hn
  | .callM _ _ _ _ => fun hn => by cases hn
  | .tabI _ _ _ => fun hn => by cases hn
  | .tabG _ _ _ _ => fun hn => by cases hn
  | .eqT _ _ => fun hn => by cases hn
theorem sAs (T : Tb) (S : Sig) : ∀ l : As, OkAs T S l
  | .nil => {
      pa := fun {C sc X es} Z h => by
        unfold chkAs at h
        split at h
        · exact pa_D0 (Rs := rVs C) fun _ _ _ _ => .nil
        · cases h
      pb := fun {C sc X es} Z h => by
        unfold chkAs at h
        split at h
        · exact pa_D0 (Rs := RBs C) fun _ _ _ _ => .nil
        · cases h
      pk := fun {C sc X ks kws} Z h => by
        unfold chkKs at h
        split at h
        · exact PK.of pk_nil fun σ H Q ⟨g, env, st, rep, go⟩ => Go.end_ (show Go C σ env (rVs C σ env) g H (.ok [] st) Q from go) rep .nil
        · cases h
      and_ := fun {C sc X es pos} Z h => PE.no
      or_ := fun {C sc X es pos} Z h => PE.no
      andT := fun {C sc X es pos} Z h _ => PW.no
      orT := fun {C sc X es pos} Z h _ => PW.no
      pd := fun {C sc X ks keys es pos} Z hk h hl => by
        unfold chkAs at h
        split at h
        · cases keys with
          | nil =>
            cases ks with
            | nil => exact pd_nil
            | cons k r => cases hk
          | cons a b => cases hl
        · cases h }
  | .cons a l => {
      pa := fun {C sc X es} Z h => by
        unfold chkAs at h
        split at h
        · cases h
        · simp only [Bool.and_eq_true] at h
          exact pa_D stV (fun _ _ _ _ _ _ _ _ h1 h2 => .cons h1 h2) (chk_op h.1) (sE T S a _ _ _ _ Z h.1).1 ((sAs T S l).pa Z h.2)
      pb := fun {C sc X es} Z h => by
        unfold chkAs at h
        split at h
        · cases h
        · simp only [Bool.and_eq_true] at h
          exact pa_D stB (fun _ _ _ _ _ _ _ _ h1 h2 => .cons h1 h2) (chk_op h.1) (bor_of Z h.1 (sE T S a _ _ _ _ Z h.1).1) ((sAs T S l).pb Z h.2)
      pk := fun {C sc X ks kws} Z h => by
        unfold chkKs at h
        split at h
        · rename_i k ks k2 e kp r
          simp only [Bool.and_eq_true] at h
          refine PK.of (pk_cons (sE T S a _ _ _ _ Z h.1.2).1 ((sAs T S l).pk Z h.2)) fun σ H Q q => ?_
          obtain ⟨g, env, st, rep, go⟩ := q
          refine ⟨g, env, st, rep, (Go.bind (R := rV C σ env) go).imp fun x H1 ⟨d, st1', g1, e1, rep1, v1, go1⟩ => ?_⟩
          refine ⟨g1, env, st1', rep1, (Go.bind (R := rVs C σ env) go1).imp fun xs H2 ⟨ds, st2, g2, e2, rep2, v2, go2⟩ => ?_⟩
          exact go2.end_ rep2 (.cons (RV.ext e2 v1) v2)
        · cases h
      and_ := fun {C sc X es pos} Z h => by
        unfold chkAs at h
        split at h
        · cases h
        · rename_i e r
          simp only [Bool.and_eq_true] at h
          have ha := (sE T S a _ _ _ _ Z h.1).1
          cases l with
          | nil =>
            have hr : r = [] := by
              have h2 := h.2
              unfold chkAs at h2
              split at h2
              · rfl
              · cases h2
            subst hr
            exact pe_one ha
          | cons b m =>
            cases r with
            | nil => have h2 := h.2; unfold chkAs at h2; cases h2
            | cons e2 r2 => exact (pe_and ha ((sAs T S (.cons b m)).and_ Z h.2)).of fun σ H Q q => rd_and q
      or_ := fun {C sc X es pos} Z h => by
        unfold chkAs at h
        split at h
        · cases h
        · rename_i e r
          simp only [Bool.and_eq_true] at h
          have ha := (sE T S a _ _ _ _ Z h.1).1
          cases l with
          | nil =>
            have hr : r = [] := by
              have h2 := h.2
              unfold chkAs at h2
              split at h2
              · rfl
              · cases h2
            subst hr
            exact pe_one ha
          | cons b m =>
            cases r with
            | nil => have h2 := h.2; unfold chkAs at h2; cases h2
            | cons e2 r2 => exact (pe_or ha ((sAs T S (.cons b m)).or_ Z h.2)).of fun σ H Q q => rd_or q
      andT := fun {C sc X es pos} Z h ht => by
        unfold chkAs at h
        split at h
        · cases h
        · rename_i e r
          simp only [Bool.and_eq_true] at h
          have ht : (tstA a && tstAs l) = true := ht
          simp only [Bool.and_eq_true] at ht
          have ha := (sE T S a _ _ _ _ Z h.1).2 ht.1
          cases l with
          | nil =>
            have hr : r = [] := by
              have h2 := h.2
              unfold chkAs at h2
              split at h2
              · rfl
              · cases h2
            subst hr
            exact (pw_and1 ha).of fun σ H Q q => rd_mT (fun _ _ => rfl) q
          | cons b m =>
            cases r with
            | nil => have h2 := h.2; unfold chkAs at h2; cases h2
            | cons e2 r2 => exact (pw_and ha ((sAs T S (.cons b m)).andT Z h.2 ht.2)).of fun σ H Q q => rd_andT q
      orT := fun {C sc X es pos} Z h ht => by
        unfold chkAs at h
        split at h
        · cases h
        · rename_i e r
          simp only [Bool.and_eq_true] at h
          have ht : (tstA a && tstAs l) = true := ht
          simp only [Bool.and_eq_true] at ht
          have ha := (sE T S a _ _ _ _ Z h.1).2 ht.1
          cases l with
          | nil =>
            have hr : r = [] := by
              have h2 := h.2
              unfold chkAs at h2
              split at h2
              · rfl
              · cases h2
            subst hr
            exact (pw_or1 ha).of fun σ H Q q => rd_mT (fun _ _ => rfl) q
          | cons b m =>
            cases r with
            | nil => have h2 := h.2; unfold chkAs at h2; cases h2
            | cons e2 r2 => exact (pw_or ha ((sAs T S (.cons b m)).orT Z h.2 ht.2)).of fun σ H Q q => rd_orT q
      pd := fun {C sc X ks keys es pos} Z hk h hl => by
        unfold chkAs at h
        split at h
        · cases h
        · rename_i e r
          simp only [Bool.and_eq_true] at h
          cases ks with
          | nil =>
            cases keys with
            | nil => cases hl
            | cons a b => cases hk
          | cons k ks =>
            unfold keysB at hk
            split at hk
            · rename_i s kk kp keys'
              simp only [Bool.and_eq_true, decide_eq_true_eq] at hk
              obtain ⟨rfl, hk⟩ := hk
              exact pd_cons (fun pr => (sE T S a _ _ _ _ (Z.pr pr) h.1).1) ((sAs T S l).pd Z hk h.2 (by simpa using hl))
            · cases hk }
theorem sO (T : Tb) (S : Sig) : ∀ o : Ao, OkO T S o
  | .no => fun C sc X Z => ⟨fun e h => (by
      unfold chkAo at h
      split at h
      · refine ⟨fun pins s σ H Q I q => (po_none (X := X)).run pins s σ H Q I ?_⟩
        obtain ⟨g, env, st, rep, go⟩ := q
        exact Go.end_ (show Go C σ env (rI σ env) g H (.ok none st) Q from go) rep rfl
      · cases h), fun es h => by
      unfold chkC at h
      split at h
      · refine ⟨fun pins s σ H Q I q => (pts_nil (X := X)).run pins s σ H Q I ?_⟩
        obtain ⟨g, env, st, rep, go⟩ := q
        exact Go.end_ (show Go C σ env (rI σ env) g H (.ok true st) Q from go) rep rfl
      · cases h⟩
  | .so a => fun C sc X Z => ⟨fun e h => (by
      unfold chkAo at h
      split at h
      · cases h
      · rename_i e
        refine ⟨fun pins s σ H Q I q => (po_some (sE T S a _ _ _ _ Z h).1).run pins s σ H Q I ?_⟩
        obtain ⟨g, env, st, rep, go⟩ := q
        refine ⟨g, env, st, rep, (Go.bind (R := rV C σ env) go).imp fun x H1 ⟨d, st1, g1, e1, rep1, v1, go1⟩ => ?_⟩
        cases d with
        | int i =>
          cases (show RV C.K g1 H1 x (.int i) from v1)
          exact ⟨i, rfl, Go.end_ (show Go C σ env (rI σ env) g1 H1 (.ok (some i) st1) Q from go1) rep1 rfl⟩
        | _ => exact go1.elim), fun es h => by
      unfold chkC at h
      split at h
      · rename_i e
        simp only [Bool.and_eq_true] at h
        exact ⟨fun pins s σ H Q I q => (pts_one ((sE T S a _ _ _ _ Z h.1).2 h.2)).run pins s σ H Q I q⟩
      · cases h⟩
theorem sRg (T : Tb) (S : Sig) : ∀ (it : It) (C : Ct) (sc : Scope) (X : Cx) (y : Expr), Good C T S sc X → rngI it = true → chkIt S sc it y y = true → PRg X y (fun σ H Q => ∃ g env st, Rep C g σ H env st ∧ Go C σ env rRg g H (evi T false it env st) fun p H' => Q p.1 p.2 H')
  | .rng1 a, C, sc, X, y, Z, _, h => by
    unfold chkIt at h
    split at h
    · rename_i x px y pos
      simp only [Bool.and_eq_true, decide_eq_true_eq] at h
      obtain ⟨⟨rfl, h2⟩, h3⟩ := h
      obtain ⟨g1, g2⟩ := gl_of Z h2
      intro pins s σ H Q I q
      refine prg_1 g1 (Z.mg blt_range) (sE T S a _ _ _ _ Z h3).1 (star_of (chk_op h3) _ _) pins s σ H Q I ?_
      obtain ⟨g, env, st, rep, go⟩ := q
      refine ⟨g, env, st, rep, (Go.bind (R := rV C σ env) go).imp fun x H1 ⟨d, st1, g1, e1, rep1, v1, go1⟩ => ?_⟩
      cases d with
      | int n =>
        cases (show RV C.K g1 H1 x (.int n) from v1)
        have go1 : Go C σ env rRg g1 H1 (if decide (-(2 ^ 62) ≤ n) && decide (n < 2 ^ 62) then .ok (rngD 0 n) st1 else .no) _ := go1
        split at go1
        · rename_i hz
          simp only [Bool.and_eq_true, decide_eq_true_eq] at hz
          exact ⟨n, rfl, go1.end_ (x := (0, n)) rep1 ⟨(by decide : (-(2 ^ 62) : Int) ≤ 0), (by decide : (0 : Int) < 2 ^ 62), hz.1, hz.2, rfl⟩⟩
        · exact go1.elim
      | _ => exact go1.elim
    · cases h
  | .rng2 a b, C, sc, X, y, Z, _, h => by
    unfold chkIt at h
    split at h
    · rename_i x px y z pos
      simp only [Bool.and_eq_true, decide_eq_true_eq] at h
      obtain ⟨⟨⟨rfl, h2⟩, h3⟩, h4⟩ := h
      obtain ⟨g1, g2⟩ := gl_of Z h2
      intro pins s σ H Q I q
      refine prg_2 g1 (Z.mg blt_range) (sE T S a _ _ _ _ Z h3).1 (sE T S b _ _ _ _ Z h4).1 (star_of (chk_op h3) _ _) (star_of (chk_op h4) _ _) (by rw [star_of (chk_op h4)]; rfl) pins s σ H Q I ?_
      obtain ⟨g, env, st, rep, go⟩ := q
      refine ⟨g, env, st, rep, (Go.bind (R := rV C σ env) go).imp fun x H1 ⟨d, st1, g1, e1, rep1, v1, go1⟩ => ?_⟩
      refine ⟨g1, env, st1, rep1, (Go.bind (R := rV C σ env) go1).imp fun y H2 ⟨d2, st2, g2, e2, rep2, v2, go2⟩ => ?_⟩
      cases d with
      | int i =>
        cases d2 with
        | int j =>
          cases (show RV C.K g1 H1 x (.int i) from v1)
          cases (show RV C.K g2 H2 y (.int j) from v2)
          have go2 : Go C σ env rRg g2 H2 (if decide (-(2 ^ 62) ≤ i) && decide (i < 2 ^ 62) && decide (-(2 ^ 62) ≤ j) && decide (j < 2 ^ 62) then .ok (rngD i j) st2 else .no) _ := go2
          split at go2
          · rename_i hz
            simp only [Bool.and_eq_true, decide_eq_true_eq] at hz
            exact ⟨i, j, rfl, rfl, go2.end_ (x := (i, j)) rep2 ⟨hz.1.1.1, hz.1.1.2, hz.1.2, hz.2, rfl⟩⟩
          · exact go2.elim
        | _ => exact go2.elim
      | _ => exact go2.elim
    · cases h
  | .seq _, _, _, _, _, _, h, _ => by cases h
  | .enum _, _, _, _, _, _, h, _ => by cases h
  | .zip2 _ _, _, _, _, _, _, h, _ => by cases h
  | .zipS _ _, _, _, _, _, _, h, _ => by cases h
  | .revd _, _, _, _, _, _, h, _ => by cases h
theorem sIt (T : Tb) (S : Sig) : ∀ it : It, OkIt T S it
  | .seq a => fun C sc X e tg bor Z h => by
    have hE := (sE T S a _ _ _ _ Z h).1
    cases bor with
    | true => exact it_seq Z.K (bor_of Z h hE) fun σ env g H x d st rep r => .inr ⟨rfl, r⟩
    | false => exact it_seq Z.K hE fun σ env g H x d st rep r => .inl r
  | .rng1 a => fun C sc X e tg bor Z h => by
    unfold chkIt at h
    split at h
    · rename_i x px y pos
      simp only [Bool.and_eq_true, decide_eq_true_eq] at h
      obtain ⟨⟨rfl, h2⟩, h3⟩ := h
      obtain ⟨g1, g2⟩ := gl_of Z h2
      refine (pi_range1 g1 (Z.mg blt_range) (pa_1 (chk_op h3) (sE T S a _ _ _ _ Z h3).1) (star_of (chk_op h3) _ _)).of fun σ H Q q => ?_
      obtain ⟨g, env, st, rep, go⟩ := q
      refine ⟨g, env, st, rep, go_one go fun d st1 g1 H1 x e1 rep1 v1 go1 => ?_⟩
      cases d with
      | int n =>
        cases v1
        have go1 : Go C σ env (rIt C bor (nmIt (.rng1 a)) σ env) g1 H1 (if decide (-(2 ^ 62) ≤ n) && decide (n < 2 ^ 62) then .ok (rngD 0 n) st1 else .no) Q := go1
        split at go1
        · rename_i hz
          simp only [Bool.and_eq_true, decide_eq_true_eq] at hz
          refine ⟨n, rfl, hz.1, hz.2, go1.end_ rep1 ?_⟩
          have := itok_r (K := C.K) (nm := true) (P := Prm C bor σ env g1 H1) (lo := 0) (hi := n)
          rw [Int.sub_zero] at this
          exact this
        · exact go1.elim
      | _ => exact go1.elim
    · cases h
  | .rng2 a b => fun C sc X e tg bor Z h => by
    unfold chkIt at h
    split at h
    · rename_i x px y z pos
      simp only [Bool.and_eq_true, decide_eq_true_eq] at h
      obtain ⟨⟨⟨rfl, h2⟩, h3⟩, h4⟩ := h
      obtain ⟨g1, g2⟩ := gl_of Z h2
      refine (pi_range2 g1 (Z.mg blt_range) (pa_2 (chk_op h3) (chk_op h4) (sE T S a _ _ _ _ Z h3).1 (sE T S b _ _ _ _ Z h4).1) (by rw [star_of (chk_op h3), star_of (chk_op h4)]; rfl) (star_of (chk_op h4) _ _)).of fun σ H Q q => ?_
      obtain ⟨g, env, st, rep, go⟩ := q
      refine ⟨g, env, st, rep, go_two go fun d d2 st1 g1 H1 x y e1 rep1 v1 v2 go1 => ?_⟩
      cases d with
      | int i =>
        cases d2 with
        | int j =>
          cases v1
          cases v2
          have go1 : Go C σ env (rIt C bor (nmIt (.rng2 a b)) σ env) g1 H1 (if decide (-(2 ^ 62) ≤ i) && decide (i < 2 ^ 62) && decide (-(2 ^ 62) ≤ j) && decide (j < 2 ^ 62) then .ok (rngD i j) st1 else .no) Q := go1
          split at go1
          · rename_i hz
            simp only [Bool.and_eq_true, decide_eq_true_eq] at hz
            exact ⟨i, j, rfl, ⟨hz.1.1.1, hz.1.1.2, hz.1.2, hz.2⟩, go1.end_ rep1 itok_r⟩
          · exact go1.elim
        | _ => exact go1.elim
      | _ => exact go1.elim
    · cases h
  | .enum a => fun C sc X e tg bor Z h => by
    unfold chkIt at h
    split at h
    · rename_i x px y pos
      simp only [Bool.and_eq_true, decide_eq_true_eq] at h
      obtain ⟨⟨⟨rfl, h2⟩, h3⟩, h4⟩ := h
      split at h4
      · obtain ⟨g1, g2⟩ := gl_of Z h2
        refine (pi_eA ⟨g1, Z.mg blt_enum⟩ (pa_1 (chk_op h3) (sE T S a _ _ _ _ Z h3).1) (star_of (chk_op h3) _ _)).of fun σ H Q q => ?_
        obtain ⟨g, env, st, rep, go⟩ := q
        refine ⟨g, env, st, rep, go_one go fun d st1 g1 H1 x e1 rep1 v1 go1 => ?_⟩
        cases hq : seqD d with
        | none => cases d <;> first | exact go1.elim | cases hq
        | some l =>
          have go2 : Go C σ env (rIt C bor (nmIt (.enum a)) σ env) g1 H1 (.ok (l.zipIdx.map fun p => .tup [.int p.2, p.1]) st1) Q := by
            cases d <;> first | (cases hq; done) | (cases hq; exact go1)
          obtain ⟨b, ad, vs, rfl, r, f⟩ := seq_of v1 hq
          rw [Z.K]
          exact ⟨b, ad, vs, rfl, f _ _ (Ext.refl _ _), Go.end_ go2 rep1 (itok_e fun g2 H2 p => ⟨vs, f _ _ p.1, r.ext p.1⟩)⟩
      · cases h4
    · cases h
  | .zip2 a b => fun C sc X e tg bor Z h => by
    unfold chkIt at h
    split at h
    · rename_i x px y z pos
      simp only [Bool.and_eq_true, decide_eq_true_eq] at h
      obtain ⟨⟨⟨⟨rfl, h2⟩, h3⟩, h4⟩, h5⟩ := h
      split at h5
      · obtain ⟨g1, g2⟩ := gl_of Z h2
        refine (pi_zA ⟨g1, Z.mg blt_zip⟩ (pa_2 (chk_op h3) (chk_op h4) (sE T S a _ _ _ _ Z h3).1 (sE T S b _ _ _ _ Z h4).1) ⟨star_of (chk_op h3) _ _, by rw [star_of (chk_op h4)]; rfl⟩).of fun σ H Q q => ?_
        obtain ⟨g, env, st, rep, go⟩ := q
        refine ⟨g, env, st, rep, go_two go fun d d2 st1 g1 H1 x y e1 rep1 v1 v2 go1 => ?_⟩
        have go1 : Go C σ env (rIt C bor (nmIt (.zip2 a b)) σ env) g1 H1 (match seqD d, seqD d2 with
          | some l, some m => .ok ((l.zip m).map fun p => .tup [p.1, p.2]) st1
          | _, _ => .no) Q := go1
        split at go1
        · rename_i l m q1 q2
          obtain ⟨b, ad, vs, rfl, r, f⟩ := seq_of v1 q1
          obtain ⟨b2, ad2, vs2, rfl, r2, f2⟩ := seq_of v2 q2
          rw [Z.K]
          exact ⟨b, b2, ad, ad2, vs, vs2, rfl, f _ _ (Ext.refl _ _), f2 _ _ (Ext.refl _ _), Go.end_ go1 rep1 (itok_z (fun g2 H2 p => ⟨vs, f _ _ p.1, r.ext p.1⟩) fun g2 H2 p => ⟨vs2, f2 _ _ p.1, r2.ext p.1⟩)⟩
        · exact go1.elim
      · cases h5
    · cases h
  | .zipS a b => fun C sc X e tg bor Z h => by
    unfold chkIt at h
    cases h
  | .revd a => fun C sc X e tg bor Z h => by
    unfold chkIt at h
    split at h
    · rename_i x px y pos
      simp only [Bool.and_eq_true, decide_eq_true_eq] at h
      obtain ⟨⟨rfl, h2⟩, h3⟩ := h
      obtain ⟨g1, g2⟩ := gl_of Z h2
      refine (pi_reversed g1 (Z.mg blt_rev) (pa_1 (chk_op h3) (sE T S a _ _ _ _ Z h3).1) (star_of (chk_op h3) _ _)).of fun σ H Q q => ?_
      obtain ⟨g, env, st, rep, go⟩ := q
      refine ⟨g, env, st, rep, go_one go fun d st1 g1 H1 x e1 rep1 v1 go1 => ?_⟩
      cases d with
      | lst l =>
        cases v1 with
        | @lst ad vs _ f r =>
          refine ⟨ad, vs, rfl, by rw [Z.K]; exact f.sq, ?_⟩
          rw [Z.K, r.length]
          exact Go.end_ (show Go C σ env (rIt C bor (nmIt (.revd a)) σ env) g1 H1 (.ok l.reverse st1) Q from go1) rep1 (itok_v fun g2 H2 p => ⟨vs, (f.ext p.1).sq, r.ext p.1⟩)
      | _ => exact go1.elim
    · cases h
end
end L3
end

section
set_option Elab.async false
set_option linter.all false
set_option maxRecDepth 100000
set_option maxHeartbeats 8000000
/-! L3j: slots of one's own, the store; statements. -/
namespace L3
open PySem PySem.Spec PyProof.Rows L2

section
variable {C : Ct} {g g' : G} {σ : L2.St} {H H' : Hp} {env : Env} {st st' : Store}
theorem Rep.put {p : Addr} {o : DO} (rep : Rep C g σ H env st) (f : Fre C g σ H env p o) (i : Nat) : Rep C g (σ.set i (some (.ref p))) H (env.set i (some (.own o))) st where
  len := by rw [List.length_set, List.length_set]; exact rep.len
  val := fun j d' h => by
    rcases set_get h with ⟨e, hl, h1⟩ | ⟨e, h⟩
    · cases h1
    · obtain ⟨w, a, b⟩ := rep.val j d' h
      exact ⟨w, by rw [List.getElem?_set_ne e]; exact a, b⟩
  own := fun j u h => by
    rcases set_get h with ⟨e, hl, h1⟩ | ⟨e, h⟩
    · subst e
      cases h1
      exact ⟨p, by rw [List.getElem?_set_self (by rw [← rep.len]; exact hl)], f.ro, f.nF, f.nρ, f.n0, f.npr⟩
    · obtain ⟨a, h1, h2⟩ := rep.own j u h
      exact ⟨a, by rw [List.getElem?_set_ne e]; exact h1, h2⟩
  inj := fun j k u u' a h1 h2 h3 h4 => by
    rcases set_get h1 with ⟨e, hl, h⟩ | ⟨e, h1⟩
    · rcases set_get h2 with ⟨e', hl', h'⟩ | ⟨e', h2⟩
      · exact e.symm.trans e'
      · subst e
        rw [List.getElem?_set_self (by rw [← rep.len]; exact hl)] at h3
        cases h3
        rw [List.getElem?_set_ne e'] at h4
        exact (f.nown k u' h2 h4).elim
    · rcases set_get h2 with ⟨e', hl', h'⟩ | ⟨e', h2⟩
      · subst e'
        rw [List.getElem?_set_self (by rw [← rep.len]; exact hl')] at h4
        cases h4
        rw [List.getElem?_set_ne e] at h3
        exact (f.nown j u h1 h3).elim
      · rw [List.getElem?_set_ne e] at h3
        rw [List.getElem?_set_ne e'] at h4
        exact rep.inj j k u u' a h1 h2 h3 h4
  sto := rep.sto
  fz := rep.fz
  fr := rep.fr
  prv := rep.prv
  prd := rep.prd
/-- a slot's own object changes -/
theorem Rep.mut {i : Nat} {p : Addr} {o o' : DO} {ho : HO} (rep : Rep C g σ H env st) (h : env[i]? = some (some (.own o))) (hp : σ[i]? = some (some (.ref p))) (ro : RO C.K C.cls g (upd H p ho) p o') :
    Rep C g σ (upd H p ho) (env.set i (some (.own o'))) st ∧ Ext g H g (upd H p ho) := by
  obtain ⟨a, h1, h2, h3, h4, h5, h6⟩ := rep.own i o h
  rw [hp] at h1
  cases h1
  have ex : Ext g H g (upd H p ho) := Ext.prv h3
  refine ⟨⟨by rw [List.length_set]; exact rep.len, fun j d' hj => ?_, fun j u hj => ?_, fun j k u u' a hj hk => ?_, ⟨fun n u hn => ?_, rep.sto.lt, rep.sto.inj, rep.sto.nf⟩, fun a f => ?_, ⟨rep.fr.F, rep.fr.Fn, rep.fr.ρ, rep.fr.ρn, fun a u ha hn => ?_⟩, fun q hq => ?_, rep.prd⟩, ex⟩
  · rcases set_get hj with ⟨e, hl, h1⟩ | ⟨e, hj⟩
    · cases h1
    · obtain ⟨w, a, b⟩ := rep.val j d' hj
      exact ⟨w, a, b.ext ex⟩
  · rcases set_get hj with ⟨e, hl, h1⟩ | ⟨e, hj⟩
    · subst e
      cases h1
      exact ⟨p, hp, ro, h3, h4, h5, h6⟩
    · obtain ⟨a, z1, z2, z3⟩ := rep.own j u hj
      have ne : a ≠ p := fun q => e (rep.inj i j o u p h hj hp (by rw [z1, q]))
      exact ⟨a, z1, z2.ext ex (fun w hw => by rw [upd_ne ne]; exact hw), z3⟩
  · have back : ∀ {j : Nat} {u : DO}, (env.set i (some (.own o')))[j]? = some (some (.own u)) → ∃ u, env[j]? = some (some (.own u)) := fun {j u} hj => by
      rcases set_get hj with ⟨e, hl, h1⟩ | ⟨e, hj⟩
      · subst e; exact ⟨o, h⟩
      · exact ⟨u, hj⟩
    obtain ⟨w, hj⟩ := back hj
    obtain ⟨w', hk⟩ := back hk
    exact rep.inj j k w w' a hj hk
  · obtain ⟨a, z1, z2⟩ := rep.sto.obj n u hn
    exact ⟨a, z1, z2.ext ex fun w hw => by rw [upd_ne (ne_R (h4 n) z1)]; exact hw⟩
  · obtain ⟨w, hw⟩ := rep.fz a f
    exact ⟨w, by rw [upd_ne (ne_F h3 f)]; exact hw⟩
  · have h' := rep.fr.keep a u ha hn
    by_cases e : a = p
    · rw [e, h5] at ha; cases ha
    · rw [upd_ne e]; exact h'
  · obtain ⟨z1, z2⟩ := rep.prv q hq
    exact ⟨by rw [upd_ne (h6 q hq)]; exact z1, z2⟩
/-- a slot's own object stands still from here on -/
theorem Rep.frz {i : Nat} {o : DO} {d : D} (rep : Rep C g σ H env st) (h : env[i]? = some (some (.own o))) (hd : o.toD = some d) : ∃ g', Rep C g' σ H (env.set i (some (.val d))) st ∧ Ext g H g' H := by
  obtain ⟨p, hp, h2, h3, h4, h5, h6⟩ := rep.own i o h
  have ex : Ext g H (g.add p) H := Ext.add
  have rv : RV C.K (g.add p) H (.ref p) d := by
    cases o with
    | lst l =>
      cases hd
      obtain ⟨vs, z1, z2⟩ := h2
      exact .lst (.inl ⟨.inr rfl, .inl z1⟩) (z2.ext ex)
    | dct k l =>
      cases hd
      cases k with
      | k =>
        obtain ⟨vs, z1, z2⟩ := h2
        exact .dk (.inr rfl) (.inl z1) (z2.ext ex)
      | t =>
        obtain ⟨vs, z1, z2⟩ := h2
        exact .dt (.inr rfl) (.inl z1) (z2.ext ex)
    | ins c fs => cases hd
  refine ⟨g.add p, ⟨by rw [List.length_set]; exact rep.len, fun j d' hj => ?_, fun j u hj => ?_, fun j k u u' a hj hk z1 z2 => ?_, ⟨fun n u hn => ?_, rep.sto.lt, rep.sto.inj, fun n a ha f => ?_⟩, fun a f => ?_, ⟨fun a f => .inl (rep.fr.F a f), fun a f => ?_, rep.fr.ρ, rep.fr.ρn, rep.fr.keep⟩, fun q hq => ?_, rep.prd⟩, ex⟩
  · rcases set_get hj with ⟨e, hl, h1⟩ | ⟨e, hj⟩
    · subst e
      cases h1
      exact ⟨_, hp, rv⟩
    · obtain ⟨w, a, b⟩ := rep.val j d' hj
      exact ⟨w, a, b.ext ex⟩
  · rcases set_get hj with ⟨e, hl, h1⟩ | ⟨e, hj⟩
    · cases h1
    · obtain ⟨a, z1, z2, z3, z4⟩ := rep.own j u hj
      have ne : a ≠ p := fun q => e (rep.inj i j o u p h hj hp (by rw [z1, q]))
      exact ⟨a, z1, z2.ext ex (fun w hw => hw), fun f => f.elim z3 ne, z4⟩
  · rcases set_get hj with ⟨e, hl, h1⟩ | ⟨e, hj⟩
    · cases h1
    · rcases set_get hk with ⟨e', hl, h1⟩ | ⟨e', hk⟩
      · cases h1
      · exact rep.inj j k u u' a hj hk z1 z2
  · obtain ⟨a, z1, z2⟩ := rep.sto.obj n u hn
    exact ⟨a, z1, z2.ext ex fun w hw => hw⟩
  · rcases f with f | f
    · exact rep.sto.nf n a ha f
    · rw [f] at ha; exact h4 n ha
  · rcases f with f | f
    · exact rep.fz a f
    · rw [f]; exact h2.there
  · rcases f with f | f
    · exact rep.fr.Fn a f
    · rw [f]; exact .inr h5
  · obtain ⟨z1, z2, z3⟩ := rep.prv q hq
    exact ⟨z1, fun f => f.elim z2 (h6 q hq), z3⟩
end

/-! ### readings -/
def GoS (C : Ct) (g : G) (H : Hp) (r : SR) (D : Ends) : Prop := match r with
  | .ok f env st => ∀ g' σ' H', Ext g H g' H' → Rep C g' σ' H' env st → match f with
    | .nx => D.nx σ' H'
    | .bk => D.bk σ' H'
    | .ct => D.ct σ' H'
    | .rt d => ∀ v, RV C.K g' H' v d → D.rt v H'
  | .ex e env st => ∀ g' σ' H' cls dO, Ext g H g' H' → Rep C g' σ' H' env st → RX C g' H' cls dO e → C.W cls dO σ' H'
  | .no => False
def rdS (C : Ct) (m : Env → Store → SR) : TS := fun D σ H => ∃ g env st, Rep C g σ H env st ∧ GoS C g H (m env st) D
section
variable {α β : Type} {C : Ct} {σ : L2.St} {env : Env} {R : G → Hp → β → α → Prop} {g g' : G} {H H' : Hp} {st : Store} {D D' : Ends}
theorem GoS.mono {r : SR} (h : GoS C g H r D) (e : Ext g H g' H') : GoS C g' H' r D := by
  cases r with
  | ok f env st => exact fun g2 σ2 H2 e2 => h g2 σ2 H2 (e.trans e2)
  | ex x env st => exact fun g2 σ2 H2 c d e2 => h g2 σ2 H2 c d (e.trans e2)
  | no => exact h
theorem GoS.go {r : Res α} {f : α → Store → SR} (h : GoS C g H (r.go env f) D) : Go C σ env R g H r (fun x H1 => ∃ d st1 g1, Ext g H g1 H1 ∧ Rep C g1 σ H1 env st1 ∧ R g1 H1 x d ∧ GoS C g1 H1 (f d st1) D) := by
  cases r with
  | ok d st => exact fun g1 H1 x e1 r1 v1 => ⟨d, st, g1, e1, r1, v1, GoS.mono h e1⟩
  | ex x st => exact fun g1 H1 c d e1 r1 v1 => h g1 σ H1 c d e1 r1 v1
  | no => exact h
theorem GoS.ofO {γ : Type} {o : Option γ} {f : γ → Store → SR} (h : GoS C g H ((Res.of o st).go env f) D) : ∃ d, o = some d ∧ GoS C g H (f d st) D := by
  cases o with
  | none => exact h.elim
  | some d => exact ⟨d, rfl, h⟩
theorem GoS.nx (h : GoS C g H (.ok .nx env st) D) (rep : Rep C g σ H env st) : D.nx σ H := h g σ H (Ext.refl g H) rep
theorem GoS.nx' (h : GoS C g H (.ok .nx env st) D) (e : Ext g H g' H') (rep : Rep C g' σ H' env st) : D.nx σ H' := h g' σ H' e rep
end
end L3
end

section
set_option Elab.async false
set_option linter.all false
set_option maxRecDepth 100000
set_option maxHeartbeats 8000000
/-! L3k: statements: the look. -/
namespace L3
open PySem PySem.Spec PyProof.Rows L2

/-! ### the machine's stores -/
def swC (sc : Scope) (tg : Option Expr) (s : Scope) (p : Pos) : Bool := match tg with
  | none => false
  | some (.Name t pos) => !(decide (sc.names.lookup t = some .local)) || !(pos.line == p.line) || s.names.any (fun (n, k) => n == t && (k == .local || k == .cell))
  | some _ => true
def swB (sc : Scope) (tg : Option Expr) (e : Expr) : Bool := match e with
  | .ListComp _ _ s p => swC sc tg s p
  | .SetComp _ _ s p => swC sc tg s p
  | .DictComp _ _ _ s p => swC sc tg s p
  | _ => true
theorem sw_c {sc : Scope} {x : Str} {pos : Pos} {s : Scope} {p : Pos} {env : PySem.Env} (h : swC sc (some (.Name x pos)) s p = true) (hs : env.scope = sc) :
    (env.blockKind == .function && env.kindOf x == some .local && pos.line == p.line && !(s.names.any fun (n, k) => n == x && (k == .local || k == .cell))) = false := by
  have kk : env.kindOf x = sc.names.lookup x := by rw [← hs]; rfl
  rw [kk]
  have h : (!(decide (sc.names.lookup x = some .local)) || !(pos.line == p.line) || s.names.any (fun (n, k) => n == x && (k == .local || k == .cell))) = true := h
  simp only [Bool.or_eq_true, Bool.not_eq_true', decide_eq_false_iff_not] at h
  rcases h with (h | h) | h
  · have : (sc.names.lookup x == some .local) = false := beq_eq_false_iff_ne.mpr h
    rw [this]; simp
  · rw [h]; simp
  · rw [h]; simp
theorem sw_no {sc : Scope} {tg : Option Expr} {e : Expr} {l : Nat} {env : PySem.Env} (h : swB sc tg e = true) (hs : env.scope = sc) : swapsWith e tg l env = pure false := by
  unfold swB at h
  split at h
  · rename_i elt gs s p
    cases tg with
    | none => cases h
    | some t =>
      cases t <;> first | rfl | skip
      rename_i x pos
      unfold swapsWith
      show (pure (env.blockKind == .function && env.kindOf x == some .local && pos.line == p.line && !(s.names.any fun (n, k) => n == x && (k == .local || k == .cell))) : Sem Bool) = pure false
      rw [sw_c h hs]
  · rename_i elt gs s p
    cases tg with
    | none => cases h
    | some t =>
      cases t <;> first | rfl | skip
      rename_i x pos
      unfold swapsWith
      show (pure (env.blockKind == .function && env.kindOf x == some .local && pos.line == p.line && !(s.names.any fun (n, k) => n == x && (k == .local || k == .cell))) : Sem Bool) = pure false
      rw [sw_c h hs]
  · rename_i kx vx gs s p
    cases tg with
    | none => cases h
    | some t =>
      cases t <;> first | rfl | skip
      rename_i x pos
      unfold swapsWith
      show (pure (env.blockKind == .function && env.kindOf x == some .local && pos.line == p.line && !(s.names.any fun (n, k) => n == x && (k == .local || k == .cell))) : Sem Bool) = pure false
      rw [sw_c h hs]
  · rename_i h1 h2 h3
    cases e <;> first | rfl | exact (h1 _ _ _ _ rfl).elim | exact (h2 _ _ _ _ rfl).elim | exact (h3 _ _ _ _ _ rfl).elim
def locN (sc : Scope) : Expr → Bool
  | .Name id _ => decide (sc.names.lookup id = some .local)
  | _ => false
def stN (sc : Scope) (tg e : Expr) : Bool := match tg with
  | .Tuple ts _ _ => (match e with
    | .Tuple vs _ _ => ((!(ts.length == 2 || ts.length == 3) || vs.length != ts.length) || vs.all (foldedForSure 8)) || ts.any (fun t => !locN sc t)
    | _ => true)
  | .List _ _ => false
  | _ => true
theorem fm_len {α β : Type} {f : α → Option β} : ∀ {l : List α}, (l.filterMap f).length ≤ l.length ∧ ((∃ t ∈ l, f t = none) → (l.filterMap f).length < l.length)
  | [] => ⟨Nat.le_refl _, fun ⟨_, h, _⟩ => by cases h⟩
  | a :: l => by
    obtain ⟨h1, h2⟩ := fm_len (f := f) (l := l)
    rw [List.filterMap_cons]
    cases h : f a with
    | none => exact ⟨Nat.le_succ_of_le h1, fun _ => Nat.lt_succ_of_le h1⟩
    | some b =>
      refine ⟨Nat.succ_le_succ h1, fun ⟨t, ht, e⟩ => ?_⟩
      rcases List.mem_cons.mp ht with z | z
      · rw [z, h] at e; cases e
      · exact Nat.succ_lt_succ (h2 ⟨t, z, e⟩)
theorem st_no {sc : Scope} {tg e : Expr} {env : PySem.Env} (h : stN sc tg e = true) (hs : env.scope = sc) : swappedStores [tg] e env = pure none := by
  unfold stN at h
  split at h
  · split at h
    · rename_i ts k1 p1 vs k2 p2
      unfold swappedStores
      dsimp only
      split
      · rfl
      · rename_i n1
        split
        · rfl
        · split
          · rfl
          · rename_i n3
            rcases Bool.or_eq_true_iff.mp h with z | z
            · rcases Bool.or_eq_true_iff.mp z with z | z
              · exact (n1 (by rw [z]; simp)).elim
              · rw [if_pos z]
            · refine (n3 ?_).elim
              rw [Bool.or_eq_true]
              left
              refine bne_iff_ne.mpr (Nat.ne_of_lt (fm_len.2 ?_))
              obtain ⟨t, ht, e⟩ := List.any_eq_true.mp z
              refine ⟨t, ht, ?_⟩
              cases t <;> try rfl
              rename_i id pos
              have e : (!decide (sc.names.lookup id = some .local)) = true := e
              have hk : (env.kindOf id == some .local) = false := by
                rw [show env.kindOf id = env.scope.names.lookup id from rfl, hs]
                simp only [Bool.not_eq_true', decide_eq_false_iff_not] at e
                exact beq_eq_false_iff_ne.mpr e
              dsimp only
              rw [if_neg]
              rw [hk]
              simp
    · rename_i ts k1 p1 hn
      cases e <;> first | rfl | exact (hn _ _ _ rfl).elim
  · cases h
  · rename_i h1 h2
    cases tg <;> first | rfl | exact (h1 _ _ _ rfl).elim | exact (h2 _ _ rfl).elim

/-- two local names at once -/
def parB (sc : Scope) (x y : Str) (px py : Pos) (a b : Expr) : Bool := decide (sc.names.lookup x = some .local) && decide (sc.names.lookup y = some .local) && (py.line == px.line) && !decide (x = y) && opB a && opB b && !([a, b].all (foldedForSure 8)) && !([a, b].all (constantsAlone 8))
theorem par_sw {sc : Scope} {x y : Str} {px py pt p2 : Pos} {a b : Expr} {k1 k2 : Nat} {env : PySem.Env} (h : parB sc x y px py a b = true) (hs : env.scope = sc) (hk : env.blockKind = .function) :
    swappedStores [.Tuple [.Name x px, .Name y py] k1 pt] (.Tuple [a, b] k2 p2) env = pure (some [x, y]) := by
  unfold parB at h
  simp only [Bool.and_eq_true, decide_eq_true_eq, Bool.not_eq_true', decide_eq_false_iff_not] at h
  obtain ⟨⟨⟨⟨⟨⟨⟨h1, h2⟩, h3⟩, h4⟩, h5⟩, h6⟩, h7⟩, h8⟩ := h
  have kx : (env.kindOf x == some .local) = true := by
    have : env.kindOf x = some .local := by rw [show env.kindOf x = env.scope.names.lookup x from rfl, hs]; exact h1
    rw [this]; rfl
  have ky : (env.kindOf y == some .local) = true := by
    have : env.kindOf y = some .local := by rw [show env.kindOf y = env.scope.names.lookup y from rfl, hs]; exact h2
    rw [this]; rfl
  have hxy : (x == y) = false := beq_eq_false_iff_ne.mpr h4
  have hst : ([a, b].any fun | .Starred _ _ => true | _ => false) = false := by
    have one : ∀ e : Expr, opB e = true → (match e with | .Starred _ _ => true | _ => false) = false := fun e h => by cases e <;> first | rfl | cases h
    simp only [List.any_cons, List.any_nil, Bool.or_false]
    exact Bool.or_eq_false_iff.mpr ⟨one a h5, one b h6⟩
  have e1 : (Option.map (fun (x : Expr) => x.pos.line) ([.Name x px, .Name y py] : List Expr).head?).getD 0 = px.line := rfl
  unfold swappedStores
  dsimp only
  rw [if_neg (by rw [hk]; simp)]
  rw [if_neg]
  rotate_left
  · exact fun z => Bool.noConfusion (hst.symm.trans z)
  have hd : ([x, y] : List Str).eraseDups.length = 2 := by
    have hyx : (y == x) = false := beq_eq_false_iff_ne.mpr (Ne.symm h4)
    simp [List.eraseDups_cons, hyx]
  simp only [e1, List.filterMap_cons, List.filterMap_nil, kx, ky, h3, beq_self_eq_true, Bool.and_self, if_true, hd, h7, h8, Bool.false_eq_true, if_false, List.length_cons, List.length_nil, bne_self_eq_false, Bool.or_self]

/-! ### the look at statements -/
def lcB (sc : Scope) (tg e : Expr) : Bool := match tg, e with
  | .Name y py, .ListComp _ [⟨_, _, _, 0⟩] s p => decide (sc.names.lookup y = some .local) && (py.line == p.line) && !(s.names.any fun (n, k) => n == y && (k == .local || k == .cell))
  | _, _ => false
def ldB (sc : Scope) (tg e : Expr) : Bool := match tg, e with
  | .Name y py, .DictComp _ _ [⟨_, _, _, 0⟩] s p => decide (sc.names.lookup y = some .local) && (py.line == p.line) && !(s.names.any fun (n, k) => n == y && (k == .local || k == .cell))
  | _, _ => false
def isDcA : A → Bool
  | .dcomp _ _ _ _ _ _ => true
  | _ => false
def isNm : Pat → Bool
  | .nm _ => true
  | .tp _ => false
def isCompA : A → Bool
  | .comp _ _ _ _ _ => true
  | _ => false
/-- a class by its name -/
def clsE (sc : Scope) (p : Bool × Str) : Expr → Bool
  | .Name y _ => decide (y = p.2) && glbB sc y
  | _ => false
def clsEs (sc : Scope) : List (Bool × Str) → List Expr → Bool
  | [], es => es.isEmpty
  | p :: l, es => match es with
    | e :: r => clsE sc p e && clsEs sc l r
    | [] => false
def isiTg (sc : Scope) (tup : Bool) (l : List (Bool × Str)) (e : Expr) : Bool := match tup with
  | true => (match e with
    | .Tuple es _ _ => clsEs sc l es && decide (l.length ≤ 100)
    | _ => false)
  | false => (match l with
    | [p] => clsE sc p e
    | _ => false)
/-- the name of the caught one -/
def exN (S : Sig) (sc : Scope) (oi : Option Nat) (x : Str) : Bool := match oi with
  | some i => decide (S.N[i]? = some x) && visB sc x
  | none => false
mutual
def chkHE (S : Sig) (sc : Scope) (c : Nat) (oi : Option Nat) : HE → Expr → Bool
  | .lit d, e => match e with
    | .Constant k _ _ => litB d k
    | _ => false
  | .var i, e => match e with
    | .Name x _ => decide (S.N[i]? = some x) && visB sc x
    | _ => false
  | .fld f, e => match e with
    | .Attribute (.Name x _) g _ => decide (g = f) && exN S sc oi x && S.cl.xs.any (fun p => decide (p.1 = c) && decide (f ∈ p.2.2))
    | _ => false
  | .isi c' tup l b, e => match e with
    | .Call (.Name y _) [.Name x _, tg] [] _ => decide (c' = c) && decide (y = "isinstance") && glbB sc y && exN S sc oi x && decide ((c, tup, l, b) ∈ S.cl.xi) && S.cl.xs.any (fun p => decide (p.1 = c)) && isiTg sc tup l tg && opB tg
    | _ => false
  | .not_ a, e => match e with
    | .UnaryOp .Not x _ => chkHE S sc c oi a x
    | _ => false
  | .and_ a b, e => match e with
    | .BoolOp .And [x, y] _ => chkHE S sc c oi a x && chkHE S sc c oi b y
    | _ => false
  | .or_ a b, e => match e with
    | .BoolOp .Or [x, y] _ => chkHE S sc c oi a x && chkHE S sc c oi b y
    | _ => false
  | .ite k a b, e => match e with
    | .IfExp t x y _ => chkHE S sc c oi k t && tstH k && chkHE S sc c oi a x && chkHE S sc c oi b y
    | _ => false
  | .tup l, e => match e with
    | .Tuple es _ _ => chkHEs S sc c oi l es
    | _ => false
  | .cmp _ _ _, _ => false
def chkHEs (S : Sig) (sc : Scope) (c : Nat) (oi : Option Nat) : HEs → List Expr → Bool
  | .nil, es => match es with
    | [] => true
    | _ :: _ => false
  | .cons a l, es => match es with
    | [] => false
    | e :: r => opB e && chkHE S sc c oi a e && chkHEs S sc c oi l r
def tstH : HE → Bool
  | .not_ a => tstH a
  | .and_ a b => tstH a && tstH b
  | .or_ a b => tstH a && tstH b
  | .isi _ _ _ _ => true
  | .cmp _ _ _ => true
  | _ => false
end
def chkHS (S : Sig) (sc : Scope) (c : Nat) (oi : Option Nat) : HS → List Stmt → Bool
  | .ret a, l => match l with
    | [.Return (some e) _] => chkHE S sc c oi a e
    | _ => false
  | .ifr k a r, l => match l with
    | .If t [.Return (some e) _] [] _ :: q => chkHE S sc c oi k t && tstH k && chkHE S sc c oi a e && chkHS S sc c oi r q
    | _ => false
  | .nx, l => match l with
    | [] => true
    | [.Pass _] => true
    | _ => false
  | .ct, l => match l with
    | [.Continue _] => true
    | _ => false
def onB (S : Sig) (sc : Scope) (i : Option Nat) (on : Option Str) : Bool := match i, on with
  | some i, some n => decide (S.N[i]? = some n) && decide (sc.names.lookup n = some .local)
  | none, none => true
  | _, _ => false
mutual
def chkS (S : Sig) (sc : Scope) : L3.S → Stmt → Bool
  | .asg p a, s => match s with
    | .Assign [tg] e _ => chkP S sc p tg && chkE S sc a e && stN sc tg e && (swB sc (some tg) e || (lcB sc tg e && isNm p && isCompA a) || (ldB sc tg e && isNm p && isDcA a))
    | _ => false
  | .asgO i a, s => match s with
    | .Assign [tg] e _ => chkP S sc (.nm i) tg && chkE S sc a e && stN sc tg e && newA a && (swB sc (some tg) e || (lcB sc tg e && isCompA a) || (ldB sc tg e && isDcA a))
    | _ => false
  | .asgS i j a, s => match s with
    | .Assign [.Tuple [.Name x px, .Starred (.Name y py) pz] k pt] e _ => decide (S.N[i]? = some x) && locB sc x && decide (S.N[j]? = some y) && locB sc y && chkE S sc a e && stN sc (.Tuple [.Name x px, .Starred (.Name y py) pz] k pt) e && swB sc (some (.Tuple [.Name x px, .Starred (.Name y py) pz] k pt)) e
    | _ => false
  | .par2 i j a b, s => match s with
    | .Assign [.Tuple [.Name x px, .Name y py] _ _] (.Tuple [e1, e2] _ _) _ => decide (S.N[i]? = some x) && decide (S.N[j]? = some y) && decide (i ≠ j) && parB sc x y px py e1 e2 && chkE S sc a e1 && chkE S sc b e2
    | _ => false
  | .aug op i a, s => match s with
    | .AugAssign (.Name x _) o e _ => decide (o = op) && decide (S.N[i]? = some x) && locB sc x && chkE S sc a e
    | _ => false
  | .setR o i v, s => match s with
    | .Assign [.Subscript eo ei p] e _ => chkE S sc o eo && chkE S sc i ei && chkE S sc v e && swB sc (some (.Subscript eo ei p)) e
    | _ => false
  | .setS i b v, s => match s with
    | .Assign [.Subscript (.Name x px) ei p] e _ => decide (S.N[i]? = some x) && visB sc x && chkE S sc b ei && chkE S sc v e && swB sc (some (.Subscript (.Name x px) ei p)) e
    | _ => false
  | .app i a, s => match s with
    | .Expr (.Call (.Attribute (.Name x _) m ap) [e] [] q) _ => decide (S.N[i]? = some x) && visB sc x && decide (m = "append") && (ap.endLine == q.line) && chkE S sc a e
    | _ => false
  | .appR o a, s => match s with
    | .Expr (.Call (.Attribute eo m ap) [e] [] q) _ => decide (m = "append") && (ap.endLine == q.line) && baseB eo && chkE S sc o eo && chkE S sc a e
    | _ => false
  | .ext i a, s => match s with
    | .Expr (.Call (.Attribute (.Name x _) m ap) [e] [] q) _ => decide (S.N[i]? = some x) && visB sc x && decide (m = "extend") && (ap.endLine == q.line) && chkE S sc a e
    | _ => false
  | .expr a, s => match s with
    | .Expr e _ => chkE S sc a e && swB sc none e
    | _ => false
  | .ret a, s => match s with
    | .Return (some e) _ => chkE S sc a e
    | .Return none _ => (match a with | .lit .non => true | _ => false)
    | _ => false
  | .if_ c t e, s => match s with
    | .If c' t' e' _ => chkE S sc c c' && tstA c && chkSs S sc t t' && chkSs S sc e e'
    | _ => false
  | .for_ p it b, s => match s with
    | .For tg iter body [] _ => chkP S sc p tg && (nmIt it || isTp p) && chkIt S sc it iter tg && opB iter && chkSs S sc b body
    | _ => false
  | .brk, s => match s with | .Break _ => true | _ => false
  | .cnt, s => match s with | .Continue _ => true | _ => false
  | .pass, s => match s with | .Pass _ => true | _ => false
  | .frz i t, s => chkS S sc t s
  | .setA cs o f v, s => match s with
    | .Assign [.Attribute eo x p] e _ => decide (x = f) && chkE S sc o eo && chkE S sc v e && cs.all (fun c => decide ((c, f) ∈ S.cl.ca)) && swB sc (some (.Attribute eo x p)) e
    | _ => false
  | .augA op cs o f v, s => match s with
    | .AugAssign (.Attribute eo x _) op2 e _ => decide (op2 = op) && decide (x = f) && chkE S sc o eo && chkE S sc v e && cs.all (fun c => decide ((c, f) ∈ S.cl.ca))
    | _ => false
  | .asgM hs j a, s => match s with
    | .Assign [.Tuple [.Name x1 p1, .Name x2 p2, .Starred (.Name y py) pz] k pt] e _ => (match hs with
      | [i1, i2] => decide (S.N[i1]? = some x1) && locB sc x1 && decide (S.N[i2]? = some x2) && locB sc x2 && decide (S.N[j]? = some y) && locB sc y && chkE S sc a e && stN sc (.Tuple [.Name x1 p1, .Name x2 p2, .Starred (.Name y py) pz] k pt) e && swB sc (some (.Tuple [.Name x1 p1, .Name x2 p2, .Starred (.Name y py) pz] k pt)) e
      | _ => false)
    | _ => false
  | .nope, _ => true
  | .clr o, s => match s with
    | .Expr (.Call (.Attribute eo m ap) [] [] q) _ => decide (m = "clear") && (ap.endLine == q.line) && baseB eo && chkE S sc o eo
    | _ => false
  | .rais c x fl l, s => match s with
    | .Raise (some (.Call (.Name y _) (e :: es) [] _)) none _ => decide (y = x) && glbB sc y && decide ((c, x, fl) ∈ S.cl.xs) && decide (fl ≠ []) && decide (fl.length ≤ 8) && decide (fl.length = (e :: es).length) && chkAs S sc l (e :: es)
    | _ => false
  | .tryA b c x all i h, s => match s with
    | .Try body [.ExceptHandler (some (.Name y _)) on (b0 :: suite) _] [] [] _ => decide (y = x) && glbB sc y && S.cl.xs.any (fun p => decide (p.1 = c) && decide (p.2.1 = x)) && all.all (fun d => S.cl.xs.any (fun p => decide (p.1 = d))) && onB S sc i on && chkSs S sc b body && chkHS S sc c i h (b0 :: suite)
    | _ => false
  | .wh n c b, s => match s with
    | .While t body [] _ => chkE S sc c t && tstA c && chkSs S sc b body
    | _ => false
def chkSs (S : Sig) (sc : Scope) : Ss → List Stmt → Bool
  | .nil, l => match l with
    | [] => true
    | _ :: _ => false
  | .cons s r, l => match l with
    | [] => false
    | x :: y => chkS S sc s x && chkSs S sc r y
end
structure GoodS (C : Ct) (T : Tb) (S : Sig) (sc : Scope) (X : Cx) : Prop extends Good C T S sc X where
  fnt : ∀ x, X.fn x = true
  kind : X.env.scope.kind = .function
  po : PassesOwn (model X.prog X.w) X.A X.env X.xe
  stk : X.stack = X.env :: X.outer
  frm : X.env.frame = some X.env.locals
section
variable {C : Ct} {X : Cx} {T : Tb} {S : Sig} {sc : Scope}
theorem GoodS.bk (Z : GoodS C T S sc X) : X.env.blockKind = .function := by unfold PySem.Env.blockKind; rw [Z.kind]; rfl
theorem GoodS.slots (Z : GoodS C T S sc X) : Slots S sc X := ⟨Z.hN, Z.nd, fun x h => by rw [Z.scp]; exact h, fun x h => ⟨by rw [Z.scp]; exact h, Z.fnt x⟩⟩
theorem GoodS.loc (Z : GoodS C T S sc X) {x : Str} (h : locB sc x = true) : Loc X.env.scope x := by
  rw [Z.scp]
  exact loc_of h
/-- a name as a target -/
theorem pg_nm (Z : GoodS C T S sc X) {i : Nat} {tg : Expr} (h : chkP S sc (.nm i) tg = true) : PG X tg (gName i) := by
  unfold chkP at h
  split at h
  · rename_i x pos
    simp only [Bool.and_eq_true, decide_eq_true_eq] at h
    exact pg_name (by rw [Z.hN]; exact Z.nd) (by rw [Z.hN]; exact h.1) (Z.loc h.2) (.inl (Z.fnt x))
  · cases h
end
end L3
end

section
set_option Elab.async false
set_option linter.all false
set_option maxRecDepth 100000
set_option maxHeartbeats 4000000
/-! L3z: x, *y = a list. -/
namespace L3
open PySem PySem.Spec PyProof.Rows L2
section
variable {P : Program} {w : World} {A : Around} {E : Value → Shared → Prop} {s : Shared}
/-- the first one, and the rest as a new list -/
theorem unpack_hd {l : Addr} {u0 : Value} {us : List Value} {Q : List Value → Shared → Prop} (hl : s.heap.IsList l (u0 :: us).toArray) (hh : A.handled = none) (hz : us.length < 16384)
    (h : ∀ (h' : Heap) (tk : Nat), (∀ b o, s.heap.get? b = some o → h'.get? b = some o) → Q [u0, .ref h'.objs.size] { s with heap := h'.push { cls := .type "list", data := .seq us.toArray }, toks := tk }) : wpAny (model P w) A (unpackItems (.ref l) 2 (some 1)) Q E s := by
  have lt : l < s.heap.objs.size := by
    obtain ⟨o, e, _⟩ := hl
    exact Heap.lt_size e
  have ne : l ≠ s.heap.objs.size := Nat.ne_of_lt lt
  unfold unpackItems notIterableAtAll
  refine wpAny_bind (wpAny_bind (wpAny_specialOf hl.typeIs PySem.F.slot_list_iter.lookup (wpAny_pure ?_)))
  simp only [Bool.false_eq_true, if_false]
  refine wpAny_bind (wpAny_holding (wpAny_pyIter_list hl (wpAny_bind (wpAny_holding (PySem.W.kun_draw ne 1 0 _ _ ⟨_, Heap.get?_push_size _ rfl, rfl, rfl⟩ (hl.push _) (by simp) fun h1 it1 b1 => ?_)))))
  have l1 : h1.IsList l (u0 :: us).toArray := (hl.push _).extBut b1.extBut ne
  have it1' := it1
  obtain ⟨oi, ei, _⟩ := it1'
  have l1' := l1
  obtain ⟨ol, el, _⟩ := l1'
  have e1 : ((u0 :: us).toArray.toList.drop 0).take 1 = [u0] := rfl
  rw [e1, if_neg (show ¬ ([u0] : List Value).length < 1 by simp)]
  refine wpAny_bind (wpAny_holding (PySem.W.kun_collect (s := { s with heap := h1 }) (T := "list_iterator") (.inr (.inr (.inl rfl))) (Walks.list (A := A.in1) hh s.heap.objs.size l ne (u0 :: us).toArray) (fun j u st => st.1.typeIs) (k := 1) (by simp) ⟨it1, l1⟩ (Heap.lt_size ei) (Heap.lt_size el) (fun h2 tk k2 => ?_) (by rw [sizeLine_eq]; simp; omega)))
  have e2 : (u0 :: us).toArray.toList.drop 1 = us := rfl
  rw [e2]
  show wpAny _ _ (if us.length < 2 - 1 - 1 then _ else _) _ _ _
  rw [if_neg (by omega)]
  show wpAny _ _ (newList (us.take (us.length - (2 - 1 - 1))) >>= fun d => pure ([u0] ++ [d] ++ us.drop (us.length - (2 - 1 - 1)))) _ _ _
  rw [show us.length - (2 - 1 - 1) = us.length by omega, List.take_length, List.drop_length]
  unfold newList
  refine wpAny_bind (wpAny_newObj_type (wpAny_pure ?_) (by size_fits))
  exact h h2 tk fun b o e => k2 b o (Nat.ne_of_lt (Heap.lt_size e)) (b1.extBut b o (Nat.ne_of_lt (Heap.lt_size e)) (Heap.get?_push_of_some _ e))
end
section
variable {P : Program} {w : World} {A : Around} {E : Value → Shared → Prop} {s : Shared}
/-- the first two of a tuple, and the rest as a new list -/
theorem unpack_tl {l : Addr} {u0 u1 : Value} {us : List Value} {Q : List Value → Shared → Prop} (hl : IsTup s.heap l (u0 :: u1 :: us).toArray) (hh : A.handled = none) (hz : us.length < 16384)
    (h : ∀ (h' : Heap) (tk : Nat), (∀ b o, s.heap.get? b = some o → h'.get? b = some o) → Q [u0, u1, .ref h'.objs.size] { s with heap := h'.push { cls := .type "list", data := .seq us.toArray }, toks := tk }) : wpAny (model P w) A (unpackItems (.ref l) 3 (some 2)) Q E s := by
  have lt : l < s.heap.objs.size := by
    obtain ⟨o, e, _⟩ := hl
    exact Heap.lt_size e
  have ne : l ≠ s.heap.objs.size := Nat.ne_of_lt lt
  unfold unpackItems notIterableAtAll
  refine wpAny_bind (wpAny_bind (wpAny_specialOf hl.typeIs PySem.F.slot_tuple_iter.lookup (wpAny_pure ?_)))
  simp only [Bool.false_eq_true, if_false]
  refine wpAny_bind (wpAny_holding (iter_tuple hl (wpAny_bind (wpAny_holding (draw_tuple ne 2 0 _ _ ⟨_, Heap.get?_push_size _ rfl, rfl, rfl⟩ (hl.push _) (by simp) fun h1 it1 b1 => ?_)))))
  have l1 : IsTup h1 l (u0 :: u1 :: us).toArray := (hl.push _).extBut b1.extBut ne
  have it1' := it1
  obtain ⟨oi, ei, _⟩ := it1'
  have l1' := l1
  obtain ⟨ol, el, _⟩ := l1'
  have e1 : ((u0 :: u1 :: us).toArray.toList.drop 0).take 2 = [u0, u1] := rfl
  rw [e1, if_neg (show ¬ ([u0, u1] : List Value).length < 2 by simp)]
  refine wpAny_bind (wpAny_holding (PySem.W.kun_collect (s := { s with heap := h1 }) (T := "tuple_iterator") (.inr (.inr (.inr rfl))) (Walks.tuple (A := A.in1) hh s.heap.objs.size l ne (u0 :: u1 :: us).toArray) (fun j u st => st.1.typeIs) (k := 2) (by simp) ⟨it1, l1⟩ (Heap.lt_size ei) (Heap.lt_size el) (fun h2 tk k2 => ?_) (by rw [sizeLine_eq]; simp; omega)))
  have e2 : (u0 :: u1 :: us).toArray.toList.drop 2 = us := rfl
  rw [e2]
  show wpAny _ _ (if us.length < 3 - 1 - 2 then _ else _) _ _ _
  rw [if_neg (by omega)]
  show wpAny _ _ (newList (us.take (us.length - (3 - 1 - 2))) >>= fun d => pure ([u0, u1] ++ [d] ++ us.drop (us.length - (3 - 1 - 2)))) _ _ _
  rw [show us.length - (3 - 1 - 2) = us.length by omega, List.take_length, List.drop_length]
  unfold newList
  refine wpAny_bind (wpAny_newObj_type (wpAny_pure ?_) (by size_fits))
  exact h h2 tk fun b o e => k2 b o (Nat.ne_of_lt (Heap.lt_size e)) (b1.extBut b o (Nat.ne_of_lt (Heap.lt_size e)) (Heap.get?_push_of_some _ e))
end
section
variable {X : Cx}
def gStarT (K : PySem.W.Frag) (i1 i2 j : Nat) : TG := fun v σ H Q => ∃ a x0 x1 xs, v = .ref a ∧ SqT K H a (x0 :: x1 :: xs) ∧ xs.length < 16384 ∧ ∀ D, H D = none → Q (((σ.set i1 (some x0)).set i2 (some x1)).set j (some (.ref D))) (upd H D (.lst xs))
theorem pg_starT {i1 i2 j k : Nat} {x x2 y : Str} {p1 p2 p3 p4 pos : Pos} (hc : X.calm = true) (h1 : PG X (.Name x p1) (gName i1)) (h2 : PG X (.Name x2 p2) (gName i2)) (h3 : PG X (.Name y p3) (gName j)) : PG X (.Tuple [.Name x p1, .Name x2 p2, .Starred (.Name y p3) p4] k pos) (gStarT X.K i1 i2 j) := by
  refine ⟨fun pins s σ H v u Q I r hw => ?_⟩
  obtain ⟨a, x0, x1, xs, e1, hq, hz, q⟩ := hw
  subst e1
  cases r
  obtain ⟨its, rv, p, _⟩ := I.tuple hq
  cases rv with
  | @cons _ u0 _ us0 r0 rs0 =>
    cases rs0 with
    | @cons _ u1 _ us r1 rs =>
      rw [assign_Tuple]
      refine wpAny_bind (wpAny_standAt ?_)
      unfold unpack
      refine wpAny_bind (wpAny_holding (unpack_tl p (I.ok.hd hc) (by rw [← rs.length]; exact hz) fun h' tk kp => ?_))
      have I1 : Inv X pins σ H { s with heap := h', toks := tk } := I.kept (t' := tk) kp
      have I2 := I1.lnew (t' := tk) rs (by rw [sizeLine_eq]; omega)
      have hp := pgs_cons h1 (pgs_cons h2 (pgs_cons h3 (pgs_nil (X := X)) rfl) rfl) rfl
      exact hp.run pins _ σ _ [x0, x1, .ref h'.objs.size] [u0, u1, .ref h'.objs.size] Q I2 (.cons r0 (.cons r1 (.cons rfl .nil))) ⟨x0, _, rfl, x1, _, rfl, _, _, rfl, rfl, q _ I1.fresh⟩
end
section
variable {X : Cx}
def gStar (K : PySem.W.Frag) (i j : Nat) : TG := fun v σ H Q => ∃ a x0 xs, v = .ref a ∧ SqL K H a (x0 :: xs) ∧ xs.length < 16384 ∧ ∀ D, H D = none → Q ((σ.set i (some x0)).set j (some (.ref D))) (upd H D (.lst xs))
theorem pg_star {i j k : Nat} {x y : Str} {p1 p2 p3 pos : Pos} (hc : X.calm = true) (h1 : PG X (.Name x p1) (gName i)) (h2 : PG X (.Name y p2) (gName j)) : PG X (.Tuple [.Name x p1, .Starred (.Name y p2) p3] k pos) (gStar X.K i j) := by
  refine ⟨fun pins s σ H v u Q I r hw => ?_⟩
  obtain ⟨a, x0, xs, e1, hq, hz, q⟩ := hw
  subst e1
  cases r
  obtain ⟨its, rv, p, _⟩ := I.list hq
  cases rv with
  | @cons _ u0 _ us r0 rs =>
    rw [assign_Tuple]
    refine wpAny_bind (wpAny_standAt ?_)
    unfold unpack
    refine wpAny_bind (wpAny_holding (unpack_hd p.isList (I.ok.hd hc) (by rw [← rs.length]; exact hz) fun h' tk kp => ?_))
    have I1 : Inv X pins σ H { s with heap := h', toks := tk } := I.kept (t' := tk) kp
    have I2 := I1.lnew (t' := tk) rs (by rw [sizeLine_eq]; omega)
    have hp := pgs_cons h1 (pgs_cons h2 (pgs_nil (X := X)) rfl) rfl
    exact hp.run pins _ σ _ [x0, .ref h'.objs.size] [u0, .ref h'.objs.size] Q I2 (.cons r0 (.cons rfl .nil)) ⟨x0, _, rfl, _, _, rfl, rfl, q _ I1.fresh⟩
end
end L3
end

section
set_option Elab.async false
set_option linter.all false
set_option maxRecDepth 100000
set_option maxHeartbeats 8000000
/-! L3l: statements do what is said. -/
namespace L3
open PySem PySem.Spec PyProof.Rows L2

section
variable {C : Ct} {X : Cx} {T : Tb} {S : Sig} {sc : Scope}
/-- += of tuples goes by the type's own + -/
theorem iadd_road {M : Table} {P : Program} {w : World} {A : Around} {E : Value → Shared → Prop} {s : Shared} {a b : Addr} {S : PySem.Spec} {Q : Value → Shared → Prop} (ta : s.TypeIs (.ref a) "tuple") (tb : s.TypeIs (.ref b) "tuple") (plus : Meets (Builtin.«tuple.__add__» ⟨[.ref a, .ref b], []⟩) S) (h : S A (wants Q E) s) :
    wpAny (model P w) A (inplaceOp .Add (.ref a) (.ref b)) Q E s :=
  have none_ : typeLookup (.type "tuple") (dunderI "add") = pure none := by rw [typeLookup_type, builtinLookup_eq_fast]; kernel_rfl
  wpAny_inplaceOp_concat ta tb none_ noFill_tuple_add seq_tuple_add (call_meets PySem.F.slot_tuple_add ta PySem.F.entry_tuple_add (PySem.F.args_tuple_add_2 _ _) plus h)
theorem iadd_tup {v u : Value} {pins : List (Addr × Obj)} {s : Shared} {σ : L2.St} {H : Hp} {Q : VK} {a b : Addr} {xs ys : List V} (I : Inv X pins σ H s) (rx : RelV (.ref a) v) (ry : RelV (.ref b) u) (sq : SqT X.K H a xs ∧ SqT X.K H b ys) (room : (xs ++ ys).length ≤ sizeLine)
    (none1 : xs = [] → Q (.ref b) H) (none2 : ys = [] → Q (.ref a) H) (both : ∀ p o, H p = none → o.dict = none → Q (.ref p) (upd H p (.frz o (.tup (xs ++ ys))))) : wpAny (model X.prog X.w) X.A (inplaceOp .Add v u) (EP X pins σ Q) X.xe s := by
  obtain rfl : v = Value.ref a := rx
  obtain rfl : u = Value.ref b := ry
  have ⟨vs, rv, isA, _⟩ := I.tuple sq.1
  have ⟨ws, rw_, isB, _⟩ := I.tuple sq.2
  obtain ⟨⟨_, da, _, sa⟩, ata, c1, na, c2⟩ := isA
  obtain ⟨⟨_, db, _, sb⟩, atb, c3, nb, c4⟩ := isB
  obtain rfl : _ = Value.type "tuple" := c1
  obtain rfl : _ = Data.seq vs.toArray na := c2
  obtain rfl : _ = Value.type "tuple" := c3
  obtain rfl : _ = Data.seq ws.toArray nb := c4
  have ta : s.TypeIs (.ref a) "tuple" := ⟨_, ata, rfl⟩
  have tb : s.TypeIs (.ref b) "tuple" := ⟨_, atb, rfl⟩
  have new := tup_new I (rv.append rw_) room s.toks both
  have sum : vs.toArray.size + ws.toArray.size ≤ sizeLine := by simpa [← rv.length, ← rw_.length] using room
  cases vs with
  | nil => exact iadd_road (M := table) ta tb (tuple_addW0 a b _ ws.toArray na nb da db sa sb rfl) ⟨ata, atb, V.ref b, H, I, rfl, none1 (rv.nil_iff.mp rfl)⟩
  | cons z zs =>
    cases ws with
    | nil => exact iadd_road (M := table) ta tb (tuple_addW1 a b (z :: zs).toArray _ na nb da db sa sb (by simp) rfl) ⟨ata, atb, V.ref a, H, I, rfl, none2 (rw_.nil_iff.mp rfl)⟩
    | cons y ys' => exact iadd_road (M := table) ta tb (tuple_addW2 a b (z :: zs).toArray (y :: ys').toArray na nb da db sa sb (by simp) (by simp) sum) ⟨ata, atb, by simpa [tupO] using new⟩
theorem aug_ok (hK : X.K = C.K) (op : Operator) : OpR X (inplaceOp op) (r2 C (rV C) (rV C) fun x y st => .of (augD op x y) st) := by
  intro pins s σ H x y v u Q I rx ry h
  obtain ⟨g, σ', env, st, dx, dy, rep, vx, vy, go⟩ := h
  obtain ⟨d, hd, go⟩ := go.of
  have vx : RV C.K g H x dx := vx
  have vy : RV C.K g H y dy := vy
  unfold augD at hd
  split at hd
  · cases vx; cases vy; cases hd
    exact iop_add pins s σ H _ _ v u Q I rx ry ⟨_, _, rfl, rfl, go.end_ rep (.int _)⟩
  · cases vx; cases vy
    split at hd
    · rename_i hz
      cases hd
      exact iop_add_str pins s σ H _ _ v u Q I rx ry ⟨_, _, rfl, rfl, of_decide_eq_true hz, go.end_ rep (.str _)⟩
    · cases hd
  · cases vx; cases vy; cases hd
    exact iop_sub pins s σ H _ _ v u Q I rx ry ⟨_, _, rfl, rfl, go.end_ rep (.int _)⟩
  · cases vx; cases vy
    split at hd
    · rename_i hz
      cases hd
      obtain ⟨t, rfl⟩ := rx
      obtain ⟨t', rfl⟩ := ry
      exact imul_int ⟨.int _, H, I.tok _, ⟨_, rfl⟩, go.end_ rep (.int _)⟩ (mul_ok hz)
    · cases hd
  · cases vx; cases vy
    split at hd
    · rename_i hz
      cases hd
      exact iop_mod pins s σ H _ _ v u Q I rx ry ⟨_, _, rfl, rfl, hz, go.end_ rep (.int _)⟩
    · cases hd
  · cases vx; cases vy
    split at hd
    · rename_i hz
      cases hd
      exact iop_fdiv pins s σ H _ _ v u Q I rx ry ⟨_, _, rfl, rfl, hz, go.end_ rep (.int _)⟩
    · cases hd
  · cases vx with
    | tup f1 r1 => cases vy with
      | tup f2 r2 =>
        split at hd
        · rename_i few
          cases hd
          have room := of_decide_eq_true few
          rw [← r1.length, ← r2.length, ← List.length_append] at room
          refine iadd_tup I rx ry ⟨by rw [hK]; exact f1.sq, by rw [hK]; exact f2.sq⟩ room (fun e => ?_) (fun e => ?_) (go.tup rep (r1.append r2))
          · subst e; cases r1; exact go.end_ rep (.tup f2 r2)
          · subst e; cases r2; rw [List.append_nil] at go; exact go.end_ rep (.tup f1 r1)
        · cases hd
  · cases hd
/-- o[i] = v, of a list or a dict -/
theorem set_any (hu : X.A.units + 1 < cLine) : PSet X (fun o i v H Q => rSetL o i v H Q ∨ rSetD o i v H Q) := by
  intro pins s σ H o i v ov iv u Q I ro ri rv h
  rcases h with h | h
  · exact set_list pins s σ H o i v ov iv u Q I ro ri rv h
  · exact set_dict hu pins s σ H o i v ov iv u Q I ro ri rv h
/-- what is set, in the heap -/
theorem set_ho {g : G} {H : Hp} {p : Addr} {o o' : DO} {i v : D} {y z : V} {Q : Hp → Prop} (ro : RO C.K C.cls g H p o) (h : setO o i v = some o') (ry : RV C.K g H y i) (rz : RV C.K g H z v) (nF : ¬ g.F p)
    (q : ∀ ho, RO C.K C.cls g (upd H p ho) p o' → Q (upd H p ho)) : rSetL (.ref p) y z H Q ∨ rSetD (.ref p) y z H Q := by
  cases o with
  | lst l =>
    unfold setO at h
    dsimp only at h
    split at h
    · rename_i k
      obtain ⟨j, hj, rfl⟩ := Option.map_eq_some_iff.mp h
      obtain ⟨vs, h1, h2⟩ := ro
      cases ry
      refine .inl ⟨p, vs, k, j, rfl, rfl, h1, by rw [h2.length]; exact hj, q _ ⟨_, upd_same, ?_⟩⟩
      exact RVs.ext (Ext.prv nF) (h2.set rz j)
    · cases h
  | dct kk l =>
    unfold setO at h
    dsimp only at h
    split at h
    · rename_i hz
      cases h
      simp only [Bool.and_eq_true, decide_eq_true_eq] at hz
      cases kk with
      | k =>
        obtain ⟨k, e⟩ := Option.isSome_iff_exists.mp hz.1
        obtain ⟨kvs, h1, h2⟩ := ro
        obtain ⟨e1, e2⟩ := keyD_of ry e
        rw [e1]
        refine .inr ⟨p, _, rfl, .inl ⟨kvs, k, h1, rfl, by rw [h2.length]; exact hz.2, rfl⟩, q _ ⟨_, upd_same, ?_⟩⟩
        exact RKs.ext (Ext.prv nF) (put_rks e rz h2)
      | t => cases hz.1
    · cases h
  | ins c fs => cases h

end

/-! ### list.append, list.extend -/
/-- one list's items put behind another's, on the machine's heap -/
theorem ext_raw {l b : Addr} {p q : Array Value} {n n2 : Nat} {sl : Array (Option Value)} (room : p.size + q.size ≤ sizeLine) :
    Meets (Builtin.«list.extend» ⟨[.ref l, .ref b], []⟩) fun _ R s => (s.heap.get? l = some { cls := .type "list", data := .seq p n } ∧ s.heap.get? b = some { cls := .type "list", data := .seq q n2, slots := sl }) ∧
      R (.ok (.ret Value.none)) { s with heap := s.heap.update l (Obj.mapSeq fun x => x ++ q) } :=
  .of_wp fun prog w A R ⟨hp, gn, dr, tk, os⟩ ⟨⟨atL, atB⟩, fin⟩ => by
    have t1 := PySem.AutoSeq1.idx_int
    have t2 := PySem.AutoSeq1.sub_tuple_tuple
    have t3 := PySem.AutoSeq1.sub_list_list
    have t4 := PySem.AutoSeq1.sub_tuple_list
    have t5 := PySem.AutoSeq1.sub_list_tuple
    have few : p.size ≤ sizeLine := Nat.le_trans (Nat.le_add_right _ _) room
    have both : (p ++ q).size ≤ sizeLine + 1 := by rw [Array.size_append]; exact Nat.le_succ_of_le room
    have short : ¬ (!p.isEmpty && Builtin.List.listTooLong (p.size + q.size)) = true := by rw [notLongL room]; simp
    wp_walk using (wpAny_updateSeq atL rfl (hz := few) (_hz' := both)), PySem.AutoSeq1.wpAny_loadPart' atL, PySem.AutoSeq1.wpAny_loadPart' atB
    exact ⟨_, rfl, fin⟩
section
variable {X : Cx}
/-- xs.extend(ys), ys any list that one may read -/
abbrev rExtS (K : PySem.W.Frag) (x : V) (vs : List V) (H : Hp) (Q : VK) : Prop := ∃ (l b : Addr) (xs zs : List V), (x = .ref l ∧ vs = [.ref b]) ∧ (H l = some (.lst xs) ∧ SqL K H b zs) ∧ xs.length + zs.length ≤ sizeLine ∧ Q .non (upd H l (.lst (xs ++ zs)))
theorem mt_extS : MtR X "list.extend" (rExtS X.K) := fun pins s σ H _ _ v us Q I rx rv ⟨l, b, xs, zs, ⟨e1, e2⟩, ⟨hl, hb⟩, room, fin⟩ => by
  subst e1 e2
  obtain rfl : v = Value.ref l := rx
  obtain ⟨u, rfl, ru⟩ := rv.one
  obtain rfl : u = Value.ref b := ru
  obtain ⟨_, p, n, rp, _, atL⟩ := I.lstM hl
  obtain ⟨q, rq, ⟨⟨_, _, _, sl⟩, n2, atB, c1, c2, c3⟩, _⟩ := I.list hb
  obtain rfl : _ = Value.type "list" := c1
  obtain rfl : _ = (none : Option Addr) := c2
  obtain rfl : _ = Data.seq q.toArray n2 := c3
  have long : p.toArray.size + q.toArray.size ≤ sizeLine := by rw [List.size_toArray, List.size_toArray, ← rp.length, ← rq.length]; exact room
  exact call_meets F.slot_list_extend ⟨_, atL, rfl⟩ F.entry_list_extend (F.args_list_extend_2 _ _) (ext_raw long)
    ⟨⟨atL, atB⟩, .non, _, I.lset (its' := p ++ q) hl atL (by simp) (rp.append rq) (by rw [List.length_append]; exact room), rfl, fin⟩
end
section
variable {C : Ct} {X : Cx} {T : Tb} {S : Sig} {sc : Scope}
/-- the slot's own list -/
theorem own_lst {g : G} {σ : L2.St} {H : Hp} {env : Env} {st : Store} {i : Nat} {l : List D} (rep : Rep C g σ H env st) (h : ownAt env i = some (.lst l)) : ∃ a vs, env[i]? = some (some (.own (.lst l))) ∧ σ[i]? = some (some (.ref a)) ∧ H a = some (.lst vs) ∧ RVs C.K g H vs l ∧ ¬ g.F a := by
  unfold ownAt at h
  split at h
  · rename_i o e
    cases h
    obtain ⟨a, h1, ⟨vs, h2, h3⟩, h4, _⟩ := rep.own i _ e
    exact ⟨a, vs, e, h1, h2, h3, h4⟩
  · cases h
theorem own_at {env : Env} {i : Nat} {o : DO} (h : ownAt env i = some o) : env[i]? = some (some (.own o)) := by
  unfold ownAt at h
  split at h
  · rename_i o e
    cases h
    exact e
  · cases h
def OkS (T : Tb) (S : Sig) (s : L3.S) : Prop := ∀ (C : Ct) (sc : Scope) (X : Cx) (x : Stmt), GoodS C T S sc X → chkS S sc s x = true → PS X x (rdS C fun env st => ex T s env st)
def OkSs (T : Tb) (S : Sig) (s : Ss) : Prop := ∀ (C : Ct) (sc : Scope) (X : Cx) (x : List Stmt), GoodS C T S sc X → chkSs S sc s x = true → PSs X x (rdS C fun env st => exs T s env st)
/-- name = [..] on one line: the store comes first -/
theorem lc_stmt (Z : GoodS C T S sc X) {i : Nat} {y : Str} {py pos spos : Pos} {own : List Nat} {p : Pat} {it : It} {c : Ao} {e : A} {elt : Expr} {gs : List Comprehension} {scope : Scope} {R' : L2.St → Env → G → Hp → V → List D → Prop} {k : List D → Sl}
    (hi : S.N[i]? = some y) (h : chkE S sc (.comp own p it c e) (.ListComp elt gs scope pos) = true) (hl : lcB sc (.Name y py) (.ListComp elt gs scope pos) = true)
    (kOk : ∀ {g σ H env st x ds}, Rep C g σ H env st → R' σ env g H x ds → Rep C g (σ.set i (some x)) H (env.set i (some (k ds))) st)
    (kFin : ∀ {g H σ env acc vacc st A}, Rep (C.pr' ((A, .lst vacc) :: C.pr)) g σ H env st → RVs C.K g H vacc acc → ∃ g', Ext g H g' H ∧ Rep C g' σ H env st ∧ R' σ env g' H (.ref A) acc) :
    PS X (.Assign [.Name y py] (.ListComp elt gs scope pos) spos) (rdS C fun env st => (ev T (.comp own p it c e) env st).go env fun d st => match d with | .lst ds => .ok .nx (env.set i (some (k ds))) st | _ => .no) := by
  unfold chkE at h
  split at h
  · rename_i elt tg iter ifs scope pos heq
    cases heq
    simp only [Bool.and_eq_true] at h
    obtain ⟨⟨⟨⟨⟨⟨⟨h1, h2⟩, h3⟩, h4⟩, h5⟩, h6⟩, h7⟩, h8⟩ := h
    have hn : nmIt it = true ∨ ∃ l, p = .tp l := by
      rcases Bool.or_eq_true_iff.mp h4 with z | z
      · exact .inl z
      · cases p with
        | nm i => cases z
        | tp l => exact .inr ⟨l, rfl⟩
    unfold lcB at hl
    simp only [Bool.and_eq_true, decide_eq_true_eq, Bool.not_eq_true'] at hl
    obtain ⟨⟨hl1, hl2⟩, hl3⟩ := hl
    have Zg := Z.toGood
    have hown : (ownN S own).map (·.2) = own := by
      unfold ownN
      rw [List.map_map]
      exact List.map_id' own
    have main := ps_setLc (own := ownN S own) (pos := pos) (spos := spos) (py := py) (i := i) (wi := wiC C T it) (g := gC C it p) (tt := ttC C T c) (te := teC C T e) (elt := elt) (iter := iter) (tg := tg) (ifs := ifs) (scope := scope) Z.calm (by rw [Z.hN]; exact Z.nd) (by rw [Z.hN]; exact hi) (by rw [Z.scp]; exact hl1)
      (sw_true Z.kind (by rw [Z.scp]; exact hl1) hl2 hl3) (sIt T S it _ _ _ _ _ true Zg h5)
      (blkOk_by (by rw [Z.hN, Z.scp]; exact h1)) (fun s H D cl fp => ⟨fun pins s' σ H' v u Q I r ⟨pr, q⟩ => (sP (C := C.blk pr) (Zg.blk pr s H scope D cl fp).K (Zg.blk pr s H scope D cl fp).calm (Zg.slots s H scope D cl fp) p tg (nmIt it) h3 hn).run pins s' σ H' v u Q I r q⟩)
      (fun s H D cl fp => ⟨fun pins s' σ H' Q I ⟨pr, q⟩ => ((sO T S c _ _ _ (Zg.blk pr s H scope D cl fp)).2 ifs h7).run pins s' σ H' Q I q⟩) (fun s H D cl fp => ⟨fun pins s' σ H' Q I ⟨pr, q⟩ => ((sE T S e _ _ _ _ (Zg.blk pr s H scope D cl fp) h8).1).run pins s' σ H' Q I q⟩) (fold_of h6 _)
    refine main.of fun En σ H q => ?_
    obtain ⟨g, env, st, rep, go⟩ := q
    rw [hown]
    have e1 : (ev T (.comp own p it c e) env st).go env (fun d st => match d with | .lst ds => SR.ok .nx (env.set i (some (k ds))) st | _ => .no) =
        (if own.any (fun i => (ownAt env i).isSome) then (.no : Res (List D)) else (evi T true it env st).bind fun xs st => (compGo (compF T own p c e env) xs [] st).bind fun ds st => .ok ds st).go env fun ds st => .ok .nx (env.set i (some (k ds))) st := by
      show (if own.any (fun i => (ownAt env i).isSome) then (.no : Res D) else (evi T true it env st).bind fun xs st => (compGo (compF T own p c e env) xs [] st).bind fun ds st => .ok (.lst ds) st).go env _ = _
      by_cases hf : own.any (fun i => (ownAt env i).isSome) = true
      · rw [if_pos hf, if_pos hf]; rfl
      · rw [if_neg hf, if_neg hf]
        cases evi T true it env st with
        | ok xs st1 =>
          simp only [bind_ok]
          cases compGo (compF T own p c e env) xs [] st1 <;> rfl
        | ex x st1 => rfl
        | no => rfl
    dsimp only at go
    rw [e1] at go
    exact comp_core (R' := R') (fin := fun ds st => .ok ds st) h2 rep (GoS.go go |>.imp fun x H1 ⟨ds, st1, g1, e1, rep1, v1, go1⟩ => go1.nx (kOk rep1 v1)) fun g2 H2 acc vacc st2 A rep2 rv2 go2 => by
      obtain ⟨g3, ex3, rep3, r3⟩ := kFin rep2 rv2
      exact go2 g3 H2 _ ex3 rep3 r3
  · rename_i z
    unfold lcB at hl
    split at hl
    · rename_i y1 py1 elt1 tg1 iter1 ifs1 s1 p1 heq heq2
      cases heq2
      exact (z _ _ _ _ _ _ rfl).elim
    · cases hl
/-! ### name = {..} on one line, the name a local -/
/-- a dict's comprehension by its parts: where it draws from, and what stands within its block -/
structure DcParts (X : Cx) (scope : Scope) (own : List (Str × Nat)) (tg iter : Expr) (ifs : List Expr) (kx vx : Expr) (wi : TI) (g : TG) (tt : TT) (tk tv : TE) : Prop where
  src : PI X tg iter wi
  blk : BlkOk X.N X.env.scope scope own
  inner : ∀ (s : Shared) (H : Hp) (C : Addr) (cl : List (Str × Addr)) (fp : List Addr), (PG (X.blk s H scope (compEnvC scope cl C X.env) fp) tg g ∧ PTs (X.blk s H scope (compEnvC scope cl C X.env) fp) ifs tt) ∧
    PE (X.blk s H scope (compEnvC scope cl C X.env) fp) kx tk ∧ PE (X.blk s H scope (compEnvC scope cl C X.env) fp) vx tv
  plain : ∀ x, foldedSetIterable iter X.env x = pure x
/-- what a block has made goes to a local, the block's own names given up -/
theorem to_local {X : Cx} {pins : List (Addr × Obj)} {σ : L2.St} {H : Hp} {s : Shared} {D : Ends} {i : Nat} {y : Str} {py : Pos} {L C : Addr} {m : Str → Option Value} (I : Inv X pins σ H s) (nd : X.N.Nodup) (hy : X.N[i]? = some y ∧ X.env.scope.names.lookup y = some .local)
    (ns : s.heap.Ns C m) (f : FpOk X pins H C) (q : gName i (.ref L) σ H D.nx) : compPost (model X.prog X.w) X.A X.xe (some (assign (.Name y py) X.env)) (fun _ s' => SP X pins D .next s') (.ref L) C (.ok .next) s := by
  obtain ⟨f0, f1, f2, f3, f4, f5⟩ := f
  refine wpAny_assign_Name (store_ok2 (v := V.ref L) I nd hy.1 (.inl hy.2) rfl (fun s2 I2 ⟨a, same, ha⟩ => ?_) (.inr hy.2))
  have apart : C ≠ a := ha.elim (fun z => z ▸ f1) fun z e => f4 y a z e.symm
  exact ⟨m, ns.sameBut same apart, fun _ after => ⟨_, H, I2.turned (t' := s2.toks) (fun b o hb e => (after.2 b hb).trans e) f0 f1 f3 f4 f5, q⟩⟩
theorem ps_localD {X : Cx} {i : Nat} {y : Str} {py pos spos : Pos} {kx vx tg iter : Expr} {ifs : List Expr} {scope : Scope} {own : List (Str × Nat)} {wi : TI} {g : TG} {tt : TT} {tk tv : TE} (calm : X.calm = true) (nd : X.N.Nodup) (hy : X.N[i]? = some y ∧ X.env.scope.names.lookup y = some .local)
    (fnk : X.env.scope.kind = .function) (line : (py.line == pos.line) = true) (other : (scope.names.any fun q => q.1 == y && (q.2 == .local || q.2 == .cell)) = false) (P : DcParts X scope own tg iter ifs kx vx wi g tt tk tv) :
    PS X (.Assign [.Name y py] (.DictComp kx vx [⟨tg, iter, ifs, 0⟩] scope pos) spos) (tAsg (tDc wi g tt tk tv (own.map (·.2))) (gName i)) where
  run pins s σ H D I h := by
    have swaps : swapsWith (.DictComp kx vx [⟨tg, iter, ifs, 0⟩] scope pos) (some (.Name y py)) spos.line X.env = pure true := by
      have k1 : X.env.blockKind = .function := by
        unfold Env.blockKind
        rw [fnk]
        rfl
      have k2 : X.env.kindOf y = some .local := hy.2
      have k3 : (scope.names.any fun (n, k) => n == y && (k == .local || k == .cell)) = false := other
      simp only [swapsWith, k1, k2, k3, Expr.pos, line]
      rfl
    have made := dc_core (Qf := fun _ s' => SP X pins D .next s') (use := some (assign (.Name y py) X.env)) (pos := pos) (pos' := firstIterPos [⟨tg, iter, ifs, 0⟩] pos) (Q := fun x H1 => gName i x σ H1 D.nx) calm nd I P.src P.blk
      (fun a b c d e => (P.inner a b c d e).1.1) (fun a b c d e => (P.inner a b c d e).1.2) (fun a b c d e => (P.inner a b c d e).2.1) (fun a b c d e => (P.inner a b c d e).2.2) P.plain h
      fun L C s' m H' I' q ns f => to_local I' nd hy ns f q
    rw [exec_Assign_Name_used _ _ _ _ swaps]
    exact wpAny_bind (wpAny_standAt (wpAny_bind (wpAny_bind (thn made fun _ _ done => wpAny_pure (wpAny_pure done)))))
theorem dc_stmt (Z : GoodS C T S sc X) {i : Nat} {y : Str} {py pos spos : Pos} {own : List Nat} {p : Pat} {it : It} {c : Ao} {kk vv : A} {kx vx : Expr} {gs : List Comprehension} {scope : Scope} {R' : L2.St → Env → G → Hp → V → List (D × D) → Prop} {k : List (D × D) → Sl}
    (hi : S.N[i]? = some y) (h : chkE S sc (.dcomp own p it c kk vv) (.DictComp kx vx gs scope pos) = true) (hl : ldB sc (.Name y py) (.DictComp kx vx gs scope pos) = true)
    (kOk : ∀ {g σ H env st x ds}, Rep C g σ H env st → R' σ env g H x ds → Rep C g (σ.set i (some x)) H (env.set i (some (k ds))) st)
    (kFin : ∀ {g H σ env acc vacc st A}, Rep (C.pr' ((A, .dK vacc) :: C.pr)) g σ H env st → RKs C.K g H vacc acc → ∃ g', Ext g H g' H ∧ Rep C g' σ H env st ∧ R' σ env g' H (.ref A) acc) :
    PS X (.Assign [.Name y py] (.DictComp kx vx gs scope pos) spos) (rdS C fun env st => (ev T (.dcomp own p it c kk vv) env st).go env fun d st => match d with | .dct .k ds => .ok .nx (env.set i (some (k ds))) st | _ => .no) := by
  unfold chkE at h
  split at h
  · rename_i kx vx tg iter ifs scope pos heq
    cases heq
    simp only [Bool.and_eq_true] at h
    obtain ⟨⟨⟨⟨⟨⟨⟨⟨h1, h2⟩, h3⟩, h4⟩, h5⟩, h6⟩, h7⟩, h8⟩, h9⟩ := h
    have hn : nmIt it = true ∨ ∃ l, p = .tp l := by
      rcases Bool.or_eq_true_iff.mp h4 with z | z
      · exact .inl z
      · cases p with
        | nm i => cases z
        | tp l => exact .inr ⟨l, rfl⟩
    unfold ldB at hl
    simp only [Bool.and_eq_true, decide_eq_true_eq, Bool.not_eq_true'] at hl
    obtain ⟨⟨hl1, hl2⟩, hl3⟩ := hl
    have Zg := Z.toGood
    have hown : (ownN S own).map (·.2) = own := by
      unfold ownN
      rw [List.map_map]
      exact List.map_id' own
    have parts : DcParts X scope (ownN S own) tg iter ifs kx vx (wiC C T it) (gC C it p) (ttC C T c) (teC C T kk) (teC C T vv) := {
      src := sIt T S it _ _ _ _ _ true Zg h5
      blk := blkOk_by (by rw [Z.hN, Z.scp]; exact h1)
      plain := fold_of h6 _
      inner := fun s H D cl fp =>
        have B := fun pr => Zg.blk pr s H scope D cl fp
        ⟨⟨⟨fun pins s' σ H' v u Q I r ⟨pr, q⟩ => (sP (C := C.blk pr) (B pr).K (B pr).calm (Zg.slots s H scope D cl fp) p tg (nmIt it) h3 hn).run pins s' σ H' v u Q I r q⟩,
          ⟨fun pins s' σ H' Q I ⟨pr, q⟩ => ((sO T S c _ _ _ (B pr)).2 ifs h7).run pins s' σ H' Q I q⟩⟩,
          ⟨fun pins s' σ H' Q I ⟨pr, q⟩ => ((sE T S kk _ _ _ _ (B pr) h8).1).run pins s' σ H' Q I q⟩, ⟨fun pins s' σ H' Q I ⟨pr, q⟩ => ((sE T S vv _ _ _ _ (B pr) h9).1).run pins s' σ H' Q I q⟩⟩ }
    have main := ps_localD (py := py) (pos := pos) (spos := spos) (i := i) Z.calm (by rw [Z.hN]; exact Z.nd) ⟨by rw [Z.hN]; exact hi, by rw [Z.scp]; exact hl1⟩ Z.kind hl2 hl3 parts
    refine main.of fun En σ H q => ?_
    obtain ⟨g, env, st, rep, go⟩ := q
    rw [hown]
    have e1 : (ev T (.dcomp own p it c kk vv) env st).go env (fun d st => match d with | .dct .k ds => SR.ok .nx (env.set i (some (k ds))) st | _ => .no) =
        (if own.any (fun i => (ownAt env i).isSome) then (.no : Res (List (D × D))) else (evi T true it env st).bind fun xs st => (compGo (compFd T own p c kk vv env) xs [] st).bind fun ds st => .ok ds st).go env fun ds st => .ok .nx (env.set i (some (k ds))) st := by
      show (if own.any (fun i => (ownAt env i).isSome) then (.no : Res D) else (evi T true it env st).bind fun xs st => (compGo (compFd T own p c kk vv env) xs [] st).bind fun ds st => .ok (.dct .k ds) st).go env _ = _
      by_cases hf : own.any (fun i => (ownAt env i).isSome) = true
      · rw [if_pos hf, if_pos hf]; rfl
      · rw [if_neg hf, if_neg hf]
        cases evi T true it env st with
        | ok xs st1 =>
          simp only [bind_ok]
          cases compGo (compFd T own p c kk vv env) xs [] st1 <;> rfl
        | ex x st1 => rfl
        | no => rfl
    dsimp only at go
    rw [e1] at go
    exact dcomp_core (R' := R') (fin := fun ds st => .ok ds st) h2 rep (GoS.go go |>.imp fun x H1 ⟨ds, st1, g1, e1, rep1, v1, go1⟩ => go1.nx (kOk rep1 v1)) fun g2 H2 acc vacc st2 A rep2 rv2 go2 => by
      obtain ⟨g3, ex3, rep3, r3⟩ := kFin rep2 rv2
      exact go2 g3 H2 _ ex3 rep3 r3
  · rename_i z
    unfold ldB at hl
    split at hl
    · rename_i heq heq2
      cases heq2
      exact (z _ _ _ _ _ _ _ rfl).elim
    · cases hl
end
end L3
end

section
set_option Elab.async false
set_option linter.all false
set_option maxRecDepth 100000
set_option maxHeartbeats 8000000
/-! L3m: every statement does what is said. -/
namespace L3
open PySem PySem.Spec PyProof.Rows L2
section
variable {C : Ct} {X : Cx} {T : Tb} {S : Sig} {sc : Scope}
theorem ex_asg {p : Pat} {a : A} {env : Env} {st : Store} : ex T (.asg p a) env st = (ev T a env st).go env fun d st => oSR (bindP p d env) st := rfl
theorem ex_asgO {i : Nat} {a : A} {env : Env} {st : Store} : ex T (.asgO i a) env st = (ev T a env st).go env fun d st => oSR (d.toO.map fun o => env.set i (some (.own o))) st := rfl
theorem comp_lst {own : List Nat} {p : Pat} {it : It} {c : Ao} {e : A} {env : Env} {st : Store} {f f' : D → Store → SR} (hf : ∀ ds st, f (.lst ds) st = f' (.lst ds) st) : (ev T (.comp own p it c e) env st).go env f = (ev T (.comp own p it c e) env st).go env f' := by
  show (if own.any (fun i => (ownAt env i).isSome) then (.no : Res D) else (evi T true it env st).bind fun xs st => (compGo (compF T own p c e env) xs [] st).bind fun ds st => .ok (.lst ds) st).go env f = (if own.any (fun i => (ownAt env i).isSome) then (.no : Res D) else (evi T true it env st).bind fun xs st => (compGo (compF T own p c e env) xs [] st).bind fun ds st => .ok (.lst ds) st).go env f'
  by_cases h : own.any (fun i => (ownAt env i).isSome) = true
  · rw [if_pos h]; rfl
  · rw [if_neg h]
    cases evi T true it env st with
    | ok xs st1 =>
      simp only [bind_ok]
      cases compGo (compF T own p c e env) xs [] st1 with
      | ok ds st2 => exact hf ds st2
      | ex x st2 => rfl
      | no => rfl
    | ex x st1 => rfl
    | no => rfl
theorem lc_inv {tg e : Expr} (h : lcB sc tg e = true) : ∃ y py elt tgt iter ifs scope pos, tg = .Name y py ∧ e = .ListComp elt [⟨tgt, iter, ifs, 0⟩] scope pos := by
  unfold lcB at h
  split at h
  · exact ⟨_, _, _, _, _, _, _, _, rfl, rfl⟩
  · cases h
/-- the value of a comprehension in a slot -/
theorem asg_lc (Z : GoodS C T S sc X) {i : Nat} {a : A} {tg e : Expr} {pos : Pos} (h1 : chkP S sc (.nm i) tg = true) (h2 : chkE S sc a e = true) (hl : lcB sc tg e = true) (hc : isCompA a = true) : PS X (.Assign [tg] e pos) (rdS C fun env st => ex T (.asg (.nm i) a) env st) := by
  obtain ⟨y, py, elt, tgt, iter, ifs, scope, p2, rfl, rfl⟩ := lc_inv hl
  cases a <;> try (cases hc; done)
  rename_i own p it c e
  unfold chkP at h1
  dsimp only at h1
  simp only [Bool.and_eq_true, decide_eq_true_eq] at h1
  refine (lc_stmt (R' := fun σ env g H x ds => RV C.K g H x (.lst ds)) (k := fun ds => .val (.lst ds)) Z h1.1 h2 hl (fun rep r => rep.set i r) (fun {g H σ env acc vacc st A} rep rv => ?_)).of fun En σ H q => ?_
  · obtain ⟨q1, q2, q3, q4⟩ := rep.prv (A, .lst vacc) List.mem_cons_self
    exact ⟨g.add A, Ext.add, rep.prFreeze, .lst (.inl ⟨.inr rfl, .inl q1⟩) (rv.ext Ext.add)⟩
  · obtain ⟨g, env, st, rep, go⟩ := q
    refine ⟨g, env, st, rep, ?_⟩
    have go : GoS C g H ((ev T (.comp own p it c e) env st).go env fun d st => oSR (bindP (.nm i) d env) st) En := go
    rw [comp_lst (f' := fun d st => match d with | .lst ds => .ok .nx (env.set i (some (.val (.lst ds)))) st | _ => .no) (fun ds st => rfl)] at go
    exact go
theorem asgO_lc (Z : GoodS C T S sc X) {i : Nat} {a : A} {tg e : Expr} {pos : Pos} (h1 : chkP S sc (.nm i) tg = true) (h2 : chkE S sc a e = true) (hl : lcB sc tg e = true) (hc : isCompA a = true) : PS X (.Assign [tg] e pos) (rdS C fun env st => ex T (.asgO i a) env st) := by
  obtain ⟨y, py, elt, tgt, iter, ifs, scope, p2, rfl, rfl⟩ := lc_inv hl
  cases a <;> try (cases hc; done)
  rename_i own p it c e
  unfold chkP at h1
  dsimp only at h1
  simp only [Bool.and_eq_true, decide_eq_true_eq] at h1
  refine (lc_stmt (R' := fun σ env g H x ds => rO C σ env g H x (.lst ds)) (k := fun ds => .own (.lst ds)) Z h1.1 h2 hl (fun {g σ H env st x ds} rep r => ?_) (fun {g H σ env acc vacc st A} rep rv => ?_)).of fun En σ H q => ?_
  · obtain ⟨p, rfl, f⟩ := r
    exact rep.put f i
  · obtain ⟨q1, q2, q3, q4⟩ := rep.prv (A, .lst vacc) List.mem_cons_self
    exact ⟨g, Ext.refl _ _, rep.prDrop, A, rfl, Fre.pr rep ⟨vacc, q1, rv⟩⟩
  · obtain ⟨g, env, st, rep, go⟩ := q
    refine ⟨g, env, st, rep, ?_⟩
    have go : GoS C g H ((ev T (.comp own p it c e) env st).go env fun d st => oSR (d.toO.map fun o => env.set i (some (.own o))) st) En := go
    rw [comp_lst (f' := fun d st => match d with | .lst ds => .ok .nx (env.set i (some (.own (.lst ds)))) st | _ => .no) (fun ds st => rfl)] at go
    exact go
theorem comp_dct {own : List Nat} {p : Pat} {it : It} {c : Ao} {k v : A} {env : Env} {st : Store} {f f' : D → Store → SR} (hf : ∀ ds st, f (.dct .k ds) st = f' (.dct .k ds) st) : (ev T (.dcomp own p it c k v) env st).go env f = (ev T (.dcomp own p it c k v) env st).go env f' := by
  show (if own.any (fun i => (ownAt env i).isSome) then (.no : Res D) else (evi T true it env st).bind fun xs st => (compGo (compFd T own p c k v env) xs [] st).bind fun ds st => .ok (.dct .k ds) st).go env f = (if own.any (fun i => (ownAt env i).isSome) then (.no : Res D) else (evi T true it env st).bind fun xs st => (compGo (compFd T own p c k v env) xs [] st).bind fun ds st => .ok (.dct .k ds) st).go env f'
  by_cases h : own.any (fun i => (ownAt env i).isSome) = true
  · rw [if_pos h]; rfl
  · rw [if_neg h]
    cases evi T true it env st with
    | ok xs st1 =>
      simp only [bind_ok]
      cases compGo (compFd T own p c k v env) xs [] st1 with
      | ok ds st2 => exact hf ds st2
      | ex x st2 => rfl
      | no => rfl
    | ex x st1 => rfl
    | no => rfl
theorem ld_inv {tg e : Expr} (h : ldB sc tg e = true) : ∃ y py kx vx tgt iter ifs scope pos, tg = .Name y py ∧ e = .DictComp kx vx [⟨tgt, iter, ifs, 0⟩] scope pos := by
  unfold ldB at h
  split at h
  · exact ⟨_, _, _, _, _, _, _, _, _, rfl, rfl⟩
  · cases h
theorem asg_ld (Z : GoodS C T S sc X) {i : Nat} {a : A} {tg e : Expr} {pos : Pos} (h1 : chkP S sc (.nm i) tg = true) (h2 : chkE S sc a e = true) (hl : ldB sc tg e = true) (hc : isDcA a = true) : PS X (.Assign [tg] e pos) (rdS C fun env st => ex T (.asg (.nm i) a) env st) := by
  obtain ⟨y, py, kx, vx, tgt, iter, ifs, scope, p2, rfl, rfl⟩ := ld_inv hl
  cases a <;> try (cases hc; done)
  rename_i own p it c k v
  unfold chkP at h1
  dsimp only at h1
  simp only [Bool.and_eq_true, decide_eq_true_eq] at h1
  refine (dc_stmt (R' := fun σ env g H x ds => RV C.K g H x (.dct .k ds)) (k := fun ds => .val (.dct .k ds)) Z h1.1 h2 hl (fun rep r => rep.set i r) (fun {g H σ env acc vacc st A} rep rv => ?_)).of fun En σ H q => ?_
  · obtain ⟨q1, q2, q3, q4⟩ := rep.prv (A, .dK vacc) List.mem_cons_self
    exact ⟨g.add A, Ext.add, rep.prFreeze, .dk (.inr rfl) (.inl q1) (rv.ext Ext.add)⟩
  · obtain ⟨g, env, st, rep, go⟩ := q
    refine ⟨g, env, st, rep, ?_⟩
    have go : GoS C g H ((ev T (.dcomp own p it c k v) env st).go env fun d st => oSR (bindP (.nm i) d env) st) En := go
    rw [comp_dct (f' := fun d st => match d with | .dct .k ds => .ok .nx (env.set i (some (.val (.dct .k ds)))) st | _ => .no) (fun ds st => rfl)] at go
    exact go
theorem asgO_ld (Z : GoodS C T S sc X) {i : Nat} {a : A} {tg e : Expr} {pos : Pos} (h1 : chkP S sc (.nm i) tg = true) (h2 : chkE S sc a e = true) (hl : ldB sc tg e = true) (hc : isDcA a = true) : PS X (.Assign [tg] e pos) (rdS C fun env st => ex T (.asgO i a) env st) := by
  obtain ⟨y, py, kx, vx, tgt, iter, ifs, scope, p2, rfl, rfl⟩ := ld_inv hl
  cases a <;> try (cases hc; done)
  rename_i own p it c k v
  unfold chkP at h1
  dsimp only at h1
  simp only [Bool.and_eq_true, decide_eq_true_eq] at h1
  refine (dc_stmt (R' := fun σ env g H x ds => rO C σ env g H x (.dct .k ds)) (k := fun ds => .own (.dct .k ds)) Z h1.1 h2 hl (fun {g σ H env st x ds} rep r => ?_) (fun {g H σ env acc vacc st A} rep rv => ?_)).of fun En σ H q => ?_
  · obtain ⟨p, rfl, f⟩ := r
    exact rep.put f i
  · obtain ⟨q1, q2, q3, q4⟩ := rep.prv (A, .dK vacc) List.mem_cons_self
    exact ⟨g, Ext.refl _ _, rep.prDrop, A, rfl, Fre.pr rep ⟨vacc, q1, rv⟩⟩
  · obtain ⟨g, env, st, rep, go⟩ := q
    refine ⟨g, env, st, rep, ?_⟩
    have go : GoS C g H ((ev T (.dcomp own p it c k v) env st).go env fun d st => oSR (d.toO.map fun o => env.set i (some (.own o))) st) En := go
    rw [comp_dct (f' := fun d st => match d with | .dct .k ds => .ok .nx (env.set i (some (.own (.dct .k ds)))) st | _ => .no) (fun ds st => rfl)] at go
    exact go
theorem new_ok (Z : Good C T S sc X) {a : A} {e : Expr} (hn : newA a = true) (h : chkE S sc a e = true) : PE X e (rd C (rO C) fun env st => (ev T a env st).bind fun d st => .of d.toO st) := sN T S a hn C sc X e Z h
theorem pS_nil : PSs X [] (rdS C fun env st => .ok .nx env st) := pss_nil.of fun En σ H ⟨g, env, st, rep, go⟩ => GoS.nx (show GoS C g H (.ok .nx env st) En from go) rep
theorem pS_cons {s : Stmt} {l : List Stmt} {m r : Env → Store → SR} (h1 : PS X s (rdS C m)) (h2 : PSs X l (rdS C r)) : PSs X (s :: l) (rdS C fun env st => (m env st).then fun env st => r env st) := by
  refine (pss_cons h1 h2).of fun En σ H ⟨g, env, st, rep, go⟩ => ⟨g, env, st, rep, ?_⟩
  have go : GoS C g H ((m env st).then fun env st => r env st) En := go
  show GoS C g H (m env st) _
  cases hm : m env st with
  | no => rw [hm] at go; exact go
  | ex x env' st' => rw [hm] at go; exact go
  | ok f env' st' =>
    rw [hm] at go
    cases f with
    | nx => exact fun g' σ' H' e rep' => ⟨g', env', st', rep', GoS.mono (show GoS C g H (r env' st') En from go) e⟩
    | bk => exact go
    | ct => exact go
    | rt d => exact go
/-- a loop -/
theorem for_ok {p : Pat} {nm : Bool} {mi : Env → Store → Res (List D)} {mb : Env → Store → SR} {tg iter : Expr} {body : List Stmt} {pos : Pos} (Z : GoodS C T S sc X) (hi : PI X tg iter (rd C (rIt C false nm) mi)) (hg : PG X tg (gPat C nm p)) (hb : PSs X body (rdS C mb))
    (ho : opB iter = true) : PS X (.For tg iter body [] pos) (rdS C fun env st => (mi env st).go env fun xs st => forGo p mb xs env st) := by
  refine (ps_for Z.po Z.calm hi hg hb (fold_of ho _)).of fun En σ H ⟨g, env, st, rep, go⟩ => ⟨g, env, st, rep, ?_⟩
  have go : GoS C g H ((mi env st).go env fun xs st => forGo p mb xs env st) En := go
  refine (GoS.go go).imp fun J H1 ⟨xs, st1, g1, e1, rep1, ok, go1⟩ => ?_
  have ok : ItOk C.K nm (Prm C false σ env g1 H1) J xs := ok
  refine ⟨fun i m σ' H' => m = xs.length - i ∧ i ≤ xs.length ∧ ∃ g2 env2 st2, Ext g1 H1 g2 H' ∧ Rep C g2 σ' H' env2 st2 ∧ GoS C g2 H' (forGo p mb (xs.drop i) env2 st2) En, ⟨xs.length, by simp, Nat.zero_le _, g1, env, st1, Ext.refl _ _, rep1, by rw [List.drop_zero]; exact go1⟩, ?_⟩
  rintro i m σ2 H2 ⟨rfl, hi, g2, env2, st2, ex2, rep2, go2⟩
  have prm : Prm C false σ env g1 H1 g2 H2 := ⟨ex2, fun z => by cases z⟩
  by_cases hlt : i < xs.length
  · refine .inr ⟨ok.go i g2 H2 hlt prm, fun σ' H' => i + 1 ≤ xs.length ∧ ∃ g2 env2 st2, Ext g1 H1 g2 H' ∧ Rep C g2 σ' H' env2 st2 ∧ GoS C g2 H' (forGo p mb (xs.drop (i + 1)) env2 st2) En, fun σ' H' w => ⟨xs.length - (i + 1), by omega, rfl, w⟩, fun x H3 y => ?_⟩
    obtain ⟨gr, ri⟩ := ok.yld i xs[i] g2 H2 x H3 (List.getElem?_eq_getElem hlt) prm y
    have rep3 := rep2.grow gr
    have go3 := go2.mono gr.ext
    rw [List.drop_eq_getElem_cons hlt] at go3
    unfold forGo at go3
    cases hbd : bindP p xs[i] env2 with
    | none => rw [hbd] at go3; exact go3.elim
    | some env' =>
      rw [hbd] at go3
      refine ⟨g2, env2, st2, xs[i], env', rep3, ri, hbd, fun σ3 rep4 but => ⟨g2, env', st2, rep4, ?_⟩⟩
      dsimp only at go3
      show GoS C g2 H3 (mb env' st2) _
      cases hm : mb env' st2 with
      | no => rw [hm] at go3; exact go3.elim
      | ex x e s => rw [hm] at go3; exact go3
      | ok f e s =>
        rw [hm] at go3
        cases f with
        | nx => exact fun g' σ' H' e' rep' => ⟨hlt, g', e, s, (ex2.trans gr.ext).trans e', rep', GoS.mono (show GoS C g2 H3 (forGo p mb (xs.drop (i + 1)) e s) En from go3) e'⟩
        | ct => exact fun g' σ' H' e' rep' => ⟨hlt, g', e, s, (ex2.trans gr.ext).trans e', rep', GoS.mono (show GoS C g2 H3 (forGo p mb (xs.drop (i + 1)) e s) En from go3) e'⟩
        | bk => exact fun g' σ' H' e' rep' => (show GoS C g2 H3 (.ok .nx e s) En from go3) g' σ' H' e' rep'
        | rt d => exact go3
  · have ei : i = xs.length := by omega
    subst ei
    rw [List.drop_length] at go2
    exact .inl ⟨ok.stop g2 H2 prm, (show GoS C g2 H2 (.ok .nx env2 st2) En from go2).nx rep2⟩
end
end L3
end

section
set_option Elab.async false
set_option linter.all false
set_option maxRecDepth 100000
set_option maxHeartbeats 8000000
/-! L3sa: except suites; raise; own exceptions' making. -/
namespace L3
open PySem PySem.Spec PyProof.Rows L2
def slotH (oi : Option Nat) (σ : L2.St) (a : Addr) : Prop := match oi with
  | some i => σ[i]? = some (some (.ref a))
  | none => True
theorem RX.grow {C : Ct} {g g' : G} {H H' : Hp} {cls : Value} {dO : Option Addr} {e : Exn} (gr : Grow g H g' H') (h : RX C g H cls dO e) : RX C g' H' cls dO e :=
  ⟨h.1, h.2.imp id fun ⟨d, vs, h1, h2, h3⟩ => ⟨d, vs, h1, gr.same d _ h2, h3.ext gr.ext⟩⟩
/-- the state of a suite -/
structure HSt (C : Ct) (oi : Option Nat) (a : Addr) (cls : Value) (dO : Option Addr) (c : Nat) (g : G) (σ : L2.St) (H : Hp) (env : Env) (st : Store) (e : Exn) : Prop where
  ec : e.cls = c
  rep : Rep C g σ H env st
  sl : slotH oi σ a
  rx : RX C g H cls dO e
theorem HSt.grow {C : Ct} {oi : Option Nat} {a : Addr} {cls : Value} {dO : Option Addr} {c : Nat} {g g' : G} {σ : L2.St} {H H' : Hp} {env : Env} {st : Store} {e : Exn} (h : HSt C oi a cls dO c g σ H env st e) (gr : Grow g H g' H') : HSt C oi a cls dO c g' σ H' env st e :=
  ⟨h.ec, h.rep.grow gr, h.sl, h.rx.grow gr⟩
def rdH (C : Ct) (oi : Option Nat) (a : Addr) (cls : Value) (dO : Option Addr) (c : Nat) (m : Exn → Env → Option D) : TE := fun σ H Q => ∃ g env st e d, HSt C oi a cls dO c g σ H env st e ∧ m e env = some d ∧ ∀ g' H' x, Grow g H g' H' → RV C.K g' H' x d → Q x H'
def rdHT (C : Ct) (oi : Option Nat) (a : Addr) (cls : Value) (dO : Option Addr) (c : Nat) (m : Exn → Env → Option D) : TT := fun σ H Q => ∃ g env st e k, HSt C oi a cls dO c g σ H env st e ∧ m e env = some (.bl k) ∧ ∀ g' H', Grow g H g' H' → Q k H'
def rdHs (C : Ct) (oi : Option Nat) (a : Addr) (cls : Value) (dO : Option Addr) (c : Nat) (m : Exn → Env → Option (List D)) : TA := fun σ H Q => ∃ g env st e d, HSt C oi a cls dO c g σ H env st e ∧ m e env = some d ∧ ∀ g' H' x, Grow g H g' H' → RVs C.K g' H' x d → Q x H'
section
variable {C : Ct} {X : Cx} {T : Tb} {S : Sig} {sc : Scope} {a : Addr} {oe : Obj} {pn : List (Addr × Obj)} {cls : Value} {dO : Option Addr} {c : Nat} {oi : Option Nat}
theorem he_lit {d : D} {k : Const} {j : Nat} {pos : Pos} (h : litB d k = true) : PE (X.suite a pn) (.Constant k j pos) (rdH C oi a cls dO c (hev (.lit d))) := by
  have key : ∀ {v : V}, (∀ g H, RV C.K g H v d) → ∀ {σ H Q}, rdH C oi a cls dO c (hev (.lit d)) σ H Q → Q v H := fun {v} hv {σ H Q} ⟨g, env, st, e, d', h1, h2, h3⟩ => by
    cases h2
    exact h3 g H v (Grow.refl g H) (hv g H)
  unfold litB at h
  split at h
  · exact pe_non.of fun σ H Q q => key (fun _ _ => .non) q
  · cases eq_of_beq h
    exact pe_bl.of fun σ H Q q => key (fun _ _ => .bl _) q
  · cases eq_of_beq h
    exact pe_int.of fun σ H Q q => key (fun _ _ => .int _) q
  · cases of_decide_eq_true h
    exact pe_str.of fun σ H Q q => key (fun _ _ => .str _) q
  · cases h
theorem he_slot (Z : Good C T S sc X) {i : Nat} {x : Str} {pos : Pos} (hi : S.N[i]? = some x) (hv : visB sc x = true) : PE (X.suite a pn) (.Name x pos) (tVar i) := by
  obtain ⟨v1, v2, v3⟩ := vis_of hv
  exact pe_var (X := X.suite a pn) (by show X.N[i]? = _; rw [Z.hN]; exact hi) (by show Vis X.env.scope x; rw [Z.scp]; exact v1) v2 v3
theorem he_name (Z : Good C T S sc X) {x : Str} {pos : Pos} (h : exN S sc oi x = true) : ∃ i, oi = some i ∧ PE (X.suite a pn) (.Name x pos) (tVar i) := by
  unfold exN at h
  split at h
  · simp only [Bool.and_eq_true, decide_eq_true_eq] at h
    exact ⟨_, rfl, he_slot Z h.1 h.2⟩
  · cases h
theorem fs_look {g : G} {H : Hp} {vs : List (Str × V)} {fs : List (Str × D)} (h : RFs C.K g H vs fs) {f : Str} {d : D} (e : fs.lookup f = some d) : ∃ v, vs.lookup f = some v ∧ RV C.K g H v d := (RFs.look (f := f) h).1 d e
theorem xs_any {xs : List (Nat × Str × List Str)} {q : Nat × Str × List Str → Bool} (h : xs.any q = true) : ∃ c x fl, (c, x, fl) ∈ xs ∧ q (c, x, fl) = true := by
  obtain ⟨⟨c, x, fl⟩, h1, h2⟩ := List.any_eq_true.mp h
  exact ⟨c, x, fl, h1, h2⟩
theorem he_fld (Z : Good C T S sc X) (hz : Zc cls dO oe) (hf : ∃ vs, oe.data = .fields vs) (hcls : cls = C.xc c) {f x : Str} {p1 p2 : Pos} (h1 : exN S sc oi x = true) (h2 : S.cl.xs.any (fun p => decide (p.1 = c) && decide (f ∈ p.2.2)) = true) :
    PE (X.suite a ((a, oe) :: pn)) (.Attribute (.Name x p1) f p2) (rdH C oi a cls dO c (hev (.fld f))) := by
  obtain ⟨i, rfl, hn⟩ := he_name (a := a) (pn := (a, oe) :: pn) (pos := p1) Z h1
  obtain ⟨c', y, fl, k1, k2⟩ := xs_any h2
  simp only [Bool.and_eq_true, decide_eq_true_eq] at k2
  obtain ⟨rfl, k2⟩ := k2
  obtain ⟨D, e1, e2, e3, e4, _⟩ := Z.xs c' y fl k1
  refine (pe_xf (C := D) ⟨e3.gets, e3.gets2, e3.split.1.1.2.1, e3.split.1.1.1.1⟩ (e4 f k2) hz hf hn).of fun σ H Q q => ?_
  obtain ⟨g, env, st, e, d, hs, q1, q2⟩ := q
  refine ⟨_, hs.sl, rfl, by rw [hcls, e1], ?_⟩
  have q1 : e.fs.lookup f = some d := q1
  rcases hs.rx.2 with ⟨z, _⟩ | ⟨dd, vs, z1, z2, z3⟩
  · rw [z] at q1; cases q1
  · obtain ⟨v, v1, v2⟩ := fs_look z3 q1
    exact ⟨dd, vs, v, z1, z2, v1, q2 g H v (Grow.refl g H) v2⟩
theorem gl_suite (Z : Good C T S sc X) {x : Str} (h : glbB sc x = true) : Gl (X.suite a pn) x ∧ (x == ("__debug__" : Str)) = false := gl_of Z h
theorem he_cls (Z : Good C T S sc X) {p : Bool × Str} {e : Expr} {v : V} {u : Value} (h : clsE sc p e = true) (k : ClsAt X.mg p v u) : PE (X.suite a pn) e (tC v) ∧ opB e = true ∧ ClsV v u := by
  unfold clsE at h
  split at h
  · rename_i y py
    simp only [Bool.and_eq_true, decide_eq_true_eq] at h
    obtain ⟨rfl, h2⟩ := h
    obtain ⟨g1, g2⟩ := gl_suite (a := a) (pn := pn) Z h2
    cases k with
    | own m => exact ⟨pe_glob (X := X.suite a pn) (v := .ref _) g1 m rfl g2, rfl, .own _⟩
    | blt m b n => exact ⟨pe_bltn (X := X.suite a pn) (v := .ty _) g1 m b rfl n g2, rfl, .ty _⟩
  · cases h
/-- classes handed as a tuple -/
def tCs : List V → TA
  | [], _, H, Q => Q [] H
  | v :: vs, σ, H, Q => tCs vs σ H fun xs H1 => Q (v :: xs) H1
theorem he_clss (Z : Good C T S sc X) : ∀ {l : List (Bool × Str)} {es : List Expr} {cs : List V} {us : List Value}, clsEs sc l es = true → (∀ (j : Nat) p, l[j]? = some p → ∃ v u, cs[j]? = some v ∧ us[j]? = some u ∧ ClsAt X.mg p v u) → cs.length = l.length → us.length = l.length →
    PA (X.suite a pn) es (fun σ H Q => Q cs H) ∧ Paired ClsV cs us
  | [], es, cs, us, h, _, h2, h3 => by
    have : es = [] := by cases es with
      | nil => rfl
      | cons e r => cases h
    subst this
    have : cs = [] := List.eq_nil_of_length_eq_zero h2
    subst this
    have : us = [] := List.eq_nil_of_length_eq_zero h3
    subst this
    exact ⟨pa_nil.of fun σ H Q q => q, .nil⟩
  | p :: l, es, cs, us, h, hk, h2, h3 => by
    cases es with
    | nil => cases h
    | cons e r =>
      have h : (clsE sc p e && clsEs sc l r) = true := h
      rw [Bool.and_eq_true] at h
      cases cs with
      | nil => cases h2
      | cons v cs =>
        cases us with
        | nil => cases h3
        | cons u us =>
          obtain ⟨v', u', q1, q2, q3⟩ := hk 0 p rfl
          cases q1
          cases q2
          obtain ⟨k1, k2, k3⟩ := he_cls (a := a) (pn := pn) Z h.1 q3
          obtain ⟨r1, r2⟩ := he_clss Z (cs := cs) (us := us) h.2 (fun j p hj => hk (j + 1) p (by simpa using hj)) (by simpa using h2) (by simpa using h3)
          exact ⟨(pa_cons k1 r1 (star_of k2 _ _)).of fun σ H Q q => q, .cons k3 r2⟩
theorem isi_hd {g : G} {σ : L2.St} {H : Hp} {env : Env} {st : Store} {e : Exn} (hs : HSt C oi a cls dO c g σ H env st e) : dO = none ∨ ∃ dd fs, dO = some dd ∧ H dd = some (.xd fs) := by
  rcases hs.rx.2 with ⟨_, z⟩ | ⟨dd, vs, z1, z2, z3⟩
  · exact .inl z
  · exact .inr ⟨dd, vs, z1, z2⟩
theorem he_isi (Z : Good C T S sc X) (hz : Zc cls dO oe) (hf : ∃ vs, oe.data = .fields vs) (hcls : cls = C.xc c) {tup : Bool} {l : List (Bool × Str)} {b : Bool} {x y : Str} {py px p2 : Pos} {tg : Expr} (h0 : y = "isinstance") (hg : glbB sc y = true) (h1 : exN S sc oi x = true) (h2 : (c, tup, l, b) ∈ S.cl.xi) (h3 : S.cl.xs.any (fun p => decide (p.1 = c)) = true) (h4 : isiTg sc tup l tg = true) (h5 : opB tg = true) :
    PE (X.suite a ((a, oe) :: pn)) (.Call (.Name y py) [.Name x px, tg] [] p2) (rdH C oi a cls dO c (hev (.isi c tup l b))) := by
  subst h0
  obtain ⟨i, rfl, hn⟩ := he_name (a := a) (pn := (a, oe) :: pn) (pos := px) Z h1
  obtain ⟨c', y, fl, k1, k2⟩ := xs_any h3
  cases of_decide_eq_true k2
  obtain ⟨D, e1, e2, e3, e4, _⟩ := Z.xs _ y fl k1
  obtain ⟨cs, us, w1, w2, w3, w4⟩ := Z.xi _ tup l b h2
  obtain ⟨g1, g2⟩ := gl_suite (a := a) (pn := (a, oe) :: pn) Z hg
  have hz' : Zc (.ref D) dO oe := by rw [← e1, ← hcls]; exact hz
  have hm : X.mg "isinstance" = none := Z.blt _ (by decide)
  unfold isiTg at h4
  cases tup with
  | true =>
    dsimp only at h4
    split at h4
    · rename_i es k pt
      rw [Bool.and_eq_true, decide_eq_true_eq] at h4
      obtain ⟨r1, r2⟩ := he_clss (a := a) (pn := (a, oe) :: pn) Z h4.1 w1 w2 w3
      have pe := pe_callB (X := X.suite a ((a, oe) :: pn)) (p := py) (pos := p2) (call_isX e3 hz' hf) g1 hm (by rfl) (pa_cons hn (pa_cons (pe_tup (pos := pt) (x1 := k) r1) pa_nil (star_of rfl _ _)) (star_of rfl _ _)) (by decide) g2 (star_of rfl _ _) (by rw [backTo_any, star_of rfl]; rfl)
      refine pe.of fun σ H Q q => ?_
      obtain ⟨g, env, st, e, d, hs, q1, q2⟩ := q
      have q1 : (if e.cls = _ then some (L3.D.bl b) else none) = some d := q1
      rw [if_pos hs.ec] at q1
      cases q1
      have w4 : PySem.W.kitAny X.K (C.xc _) us = some b := w4
      refine ⟨_, hs.sl, ⟨Nat.le_trans (by rw [w2]; exact h4.2) (by decide), fun p hp => ?_⟩⟩
      have gr := Grow.lay (g := g) (o := .tup cs) hp
      exact ⟨isi_hd (hs.grow gr), .inr ⟨p, cs, us, b, rfl, upd_same, r2, by rw [← e1]; exact w4, q2 g _ _ gr (.bl b)⟩⟩
    · cases h4
  | false =>
    dsimp only at h4
    split at h4
    · rename_i p
      obtain ⟨u, rfl, w4⟩ : ∃ u, us = [u] ∧ PySem.W.kitOne X.K (C.xc _) u = some b := w4
      obtain ⟨v, u', q1, q2, q3⟩ := w1 0 p rfl
      cases q2
      obtain ⟨k1, k2, k3⟩ := he_cls (a := a) (pn := (a, oe) :: pn) Z h4 q3
      have pe := pe_callB (X := X.suite a ((a, oe) :: pn)) (p := py) (pos := p2) (call_isX e3 hz' hf) g1 hm (by rfl) (pa_cons hn (pa_cons k1 pa_nil (star_of h5 _ _)) (star_of rfl _ _)) (by decide) g2 (star_of rfl _ _) (by rw [backTo_any, star_of h5]; rfl)
      refine pe.of fun σ H Q q => ?_
      obtain ⟨g, env, st, e, d, hs, q1, q2⟩ := q
      have q1 : (if e.cls = _ then some (L3.D.bl b) else none) = some d := q1
      rw [if_pos hs.ec] at q1
      cases q1
      exact ⟨_, hs.sl, ⟨isi_hd hs, .inl ⟨v, u, b, rfl, k3, by rw [← e1]; exact w4, q2 g H _ (Grow.refl g H) (.bl b)⟩⟩⟩
    · cases h4
theorem tst_bl : ∀ {h : HE}, tstH h = true → ∀ {e : Exn} {env : Env} {d : D}, hev h e env = some d → ∃ k, d = .bl k
  | .not_ a, ht, e, env, d, q => by
    unfold hev at q
    split at q
    · cases q; exact ⟨_, rfl⟩
    · cases q
  | .and_ a b, ht, e, env, d, q => by
    have ht : (tstH a && tstH b) = true := ht
    rw [Bool.and_eq_true] at ht
    unfold hev at q
    split at q
    · split at q
      · exact tst_bl ht.2 q
      · cases q; exact ⟨_, rfl⟩
    · cases q
  | .or_ a b, ht, e, env, d, q => by
    have ht : (tstH a && tstH b) = true := ht
    rw [Bool.and_eq_true] at ht
    unfold hev at q
    split at q
    · split at q
      · cases q; exact ⟨_, rfl⟩
      · exact tst_bl ht.2 q
    · cases q
  | .isi c t l b, ht, e, env, d, q => by
    unfold hev at q
    split at q
    · cases q; exact ⟨_, rfl⟩
    · cases q
  | .cmp op a b, ht, e, env, d, q => by
    unfold hev at q
    split at q
    · split at q
      · split at q
        · obtain ⟨k, _, rfl⟩ := Option.map_eq_some_iff.mp q
          exact ⟨k, rfl⟩
        · cases q
      · cases q
    · cases q
  | .lit _, ht, _, _, _, _ => by cases ht
  | .var _, ht, _, _, _, _ => by cases ht
  | .fld _, ht, _, _, _, _ => by cases ht
  | .ite _ _ _, ht, _, _, _, _ => by cases ht
  | .tup _, ht, _, _, _, _ => by cases ht
theorem drf_noref {d : D} (h : noRefD d = true) (st : Store) : drf st d = d := by
  cases d <;> first | rfl | (cases h; done)
/-- a value that is a truth, as a test -/
theorem he_val {e : Expr} {m : Exn → Env → Option D} (h : PE (X.suite a pn) e (rdH C oi a cls dO c m)) (he : ∀ whole, isTrue e (X.suite a pn).env whole = (do let v ← whole; standAt e.pos; holding [v] (truthy v))) : PT (X.suite a pn) e (rdHT C oi a cls dO c m) :=
  (pt_val h he).of fun σ H Q ⟨g, env, st, e, k, hs, q1, q2⟩ => ⟨g, env, st, e, .bl k, hs, q1, fun g' H' x gr r => by cases r; exact ⟨k, rfl, q2 g' H' gr⟩⟩
end
end L3
end

section
set_option Elab.async false
set_option linter.all false
set_option maxRecDepth 100000
set_option maxHeartbeats 8000000
/-! L3sb: except suites by recursion; raise, try, while. -/
namespace L3
open PySem PySem.Spec PyProof.Rows L2
section
variable {C : Ct} {X : Cx} {T : Tb} {S : Sig} {sc : Scope} {a : Addr} {oe : Obj} {pn : List (Addr × Obj)} {cls : Value} {dO : Option Addr} {c : Nat} {oi : Option Nat}
mutual
theorem sHE (Z : Good C T S sc X) (hz : Zc cls dO oe) (hf : ∃ vs, oe.data = .fields vs) (hcls : cls = C.xc c) : ∀ (h : HE) (ex : Expr), chkHE S sc c oi h ex = true →
    PE (X.suite a ((a, oe) :: pn)) ex (rdH C oi a cls dO c (hev h)) ∧ (tstH h = true → PT (X.suite a ((a, oe) :: pn)) ex (rdHT C oi a cls dO c (hev h)))
  | .lit d => fun ex h => by
    unfold chkHE at h
    split at h
    · exact ⟨he_lit h, fun z => by cases z⟩
    · cases h
  | .var i => fun ex h => by
    unfold chkHE at h
    split at h
    · simp only [Bool.and_eq_true, decide_eq_true_eq] at h
      refine ⟨(he_slot Z h.1 h.2).of fun σ H Q ⟨g, env, st, e, d, hs, q1, q2⟩ => ?_, fun z => by cases z⟩
      have q1 : valAt env i = some d := q1
      unfold valAt at q1
      split at q1
      · cases q1
        rename_i e0
        obtain ⟨v, hv, rv⟩ := hs.rep.val i _ e0
        exact ⟨v, hv, q2 g H v (Grow.refl g H) rv⟩
      · cases q1
    · cases h
  | .fld f => fun ex h => by
    unfold chkHE at h
    split at h
    · simp only [Bool.and_eq_true, decide_eq_true_eq] at h
      obtain ⟨⟨rfl, h1⟩, h2⟩ := h
      exact ⟨he_fld Z hz hf hcls h1 h2, fun z => by cases z⟩
    · cases h
  | .isi c' tup l b => fun ex h => by
    unfold chkHE at h
    split at h
    · simp only [Bool.and_eq_true, decide_eq_true_eq] at h
      obtain ⟨⟨⟨⟨⟨⟨⟨rfl, h1⟩, h2⟩, h3⟩, h4⟩, h5⟩, h6⟩, h7⟩ := h
      exact ⟨he_isi (a := a) (pn := pn) Z hz hf hcls h1 h2 h3 h4 h5 h6 h7, fun _ => he_val (he_isi (a := a) (pn := pn) Z hz hf hcls h1 h2 h3 h4 h5 h6 h7) fun _ => rfl⟩
    · cases h
  | .not_ b => fun ex h => by
    unfold chkHE at h
    split at h
    · obtain ⟨k1, k2⟩ := sHE Z hz hf hcls b _ h
      refine ⟨(pe_not k1).of fun σ H Q ⟨g, env, st, e, d, hs, q1, q2⟩ => ?_, fun ht => (pt_not (k2 ht)).of fun σ H Q ⟨g, env, st, e, k, hs, q1, q2⟩ => ?_⟩
      · unfold hev at q1
        split at q1
        · rename_i k hk
          cases q1
          exact ⟨g, env, st, e, .bl k, hs, hk, fun g' H' x gr r => by cases r; exact ⟨k, rfl, q2 g' H' _ gr (.bl _)⟩⟩
        · cases q1
      · unfold hev at q1
        split at q1
        · rename_i k' hk
          cases q1
          exact ⟨g, env, st, e, k', hs, hk, fun g' H' gr => q2 g' H' gr⟩
        · cases q1
    · cases h
  | .and_ b b2 => fun ex h => by
    unfold chkHE at h
    split at h
    · rw [Bool.and_eq_true] at h
      obtain ⟨k1, k2⟩ := sHE Z hz hf hcls b _ h.1
      obtain ⟨k3, k4⟩ := sHE Z hz hf hcls b2 _ h.2
      refine ⟨(pe_and k1 (pe_one k3)).of fun σ H Q ⟨g, env, st, e, d, hs, q1, q2⟩ => ?_, fun ht => ?_⟩
      · unfold hev at q1
        split at q1
        · rename_i k hk
          refine ⟨g, env, st, e, .bl k, hs, hk, fun g' H' x gr r => ?_⟩
          cases r
          refine ⟨k, rfl, ?_⟩
          cases k with
          | true => exact ⟨g', env, st, e, d, hs.grow gr, q1, fun g2 H2 x gr2 r => q2 g2 H2 x (gr.trans gr2) r⟩
          | false => cases q1; exact q2 g' H' _ gr (.bl _)
        · cases q1
      · have ht : (tstH b && tstH b2) = true := ht
        rw [Bool.and_eq_true] at ht
        refine (pw_and (k2 ht.1) (pw_and1 (k4 ht.2))).pt.of fun σ H Q ⟨g, env, st, e, d, hs, q1, q2⟩ => ?_
        unfold hev at q1
        split at q1
        · rename_i k hk
          refine ⟨g, env, st, e, k, hs, hk, fun g' H' gr => ?_⟩
          cases k with
          | true => exact ⟨g', env, st, e, d, hs.grow gr, q1, fun g2 H2 gr2 => q2 g2 H2 (gr.trans gr2)⟩
          | false => cases q1; exact q2 g' H' gr
        · cases q1
    · cases h
  | .or_ b b2 => fun ex h => by
    unfold chkHE at h
    split at h
    · rw [Bool.and_eq_true] at h
      obtain ⟨k1, k2⟩ := sHE Z hz hf hcls b _ h.1
      obtain ⟨k3, k4⟩ := sHE Z hz hf hcls b2 _ h.2
      refine ⟨(pe_or k1 (pe_one k3)).of fun σ H Q ⟨g, env, st, e, d, hs, q1, q2⟩ => ?_, fun ht => ?_⟩
      · unfold hev at q1
        split at q1
        · rename_i k hk
          refine ⟨g, env, st, e, .bl k, hs, hk, fun g' H' x gr r => ?_⟩
          cases r
          refine ⟨k, rfl, ?_⟩
          cases k with
          | false => exact ⟨g', env, st, e, d, hs.grow gr, q1, fun g2 H2 x gr2 r => q2 g2 H2 x (gr.trans gr2) r⟩
          | true => cases q1; exact q2 g' H' _ gr (.bl _)
        · cases q1
      · have ht : (tstH b && tstH b2) = true := ht
        rw [Bool.and_eq_true] at ht
        refine (pw_or (k2 ht.1) (pw_or1 (k4 ht.2))).pt.of fun σ H Q ⟨g, env, st, e, d, hs, q1, q2⟩ => ?_
        unfold hev at q1
        split at q1
        · rename_i k hk
          refine ⟨g, env, st, e, k, hs, hk, fun g' H' gr => ?_⟩
          cases k with
          | false => exact ⟨g', env, st, e, d, hs.grow gr, q1, fun g2 H2 gr2 => q2 g2 H2 (gr.trans gr2)⟩
          | true => cases q1; exact q2 g' H' gr
        · cases q1
    · cases h
  | .ite k b b2 => fun ex h => by
    unfold chkHE at h
    split at h
    · simp only [Bool.and_eq_true] at h
      obtain ⟨⟨⟨h1, ht⟩, h2⟩, h3⟩ := h
      refine ⟨(pe_ifExp ((sHE Z hz hf hcls k _ h1).2 ht) (sHE Z hz hf hcls b _ h2).1 (sHE Z hz hf hcls b2 _ h3).1).of fun σ H Q ⟨g, env, st, e, d, hs, q1, q2⟩ => ?_, fun z => by cases z⟩
      unfold hev at q1
      split at q1
      · rename_i k' hk
        refine ⟨g, env, st, e, k', hs, hk, fun g' H' gr => ?_⟩
        cases k' with
        | true => exact ⟨g', env, st, e, d, hs.grow gr, q1, fun g2 H2 x gr2 r => q2 g2 H2 x (gr.trans gr2) r⟩
        | false => exact ⟨g', env, st, e, d, hs.grow gr, q1, fun g2 H2 x gr2 r => q2 g2 H2 x (gr.trans gr2) r⟩
      · cases q1
    · cases h
  | .tup l => fun ex h => by
    unfold chkHE at h
    split at h
    · refine ⟨(pe_tupF (sHEs Z hz hf hcls l _ h)).of fun σ H Q ⟨g, env, st, e, d, hs, q1, q2⟩ => ?_, fun z => by cases z⟩
      unfold hev at q1
      split at q1
      · rename_i ds hds
        split at q1
        · rename_i hsm
          cases q1
          refine ⟨g, env, st, e, ds, hs, hds, fun g' H' xs gr r => ⟨by rw [RVs.length r]; exact of_decide_eq_true hsm, fun p o hp ho => ?_⟩⟩
          have gr2 := Grow.new (g := g') (o := .frz o (.tup xs)) hp
          exact q2 _ _ _ (gr.trans gr2) (.tup (.inl ⟨.inr rfl, o, ho, upd_same⟩) (r.ext gr2.ext))
        · cases q1
      · cases q1
    · cases h
  | .cmp _ _ _ => fun ex h => by
    unfold chkHE at h
    cases h
theorem sHEs (Z : Good C T S sc X) (hz : Zc cls dO oe) (hf : ∃ vs, oe.data = .fields vs) (hcls : cls = C.xc c) : ∀ (l : HEs) (es : List Expr), chkHEs S sc c oi l es = true → PA (X.suite a ((a, oe) :: pn)) es (rdHs C oi a cls dO c (hevs l))
  | .nil => fun es h => by
    unfold chkHEs at h
    split at h
    · exact pa_nil.of fun σ H Q ⟨g, env, st, e, d, hs, q1, q2⟩ => by
        cases q1
        exact q2 g H [] (Grow.refl g H) .nil
    · cases h
  | .cons b l => fun es h => by
    unfold chkHEs at h
    split at h
    · cases h
    · simp only [Bool.and_eq_true] at h
      refine (pa_cons (sHE Z hz hf hcls b _ h.1.2).1 (sHEs Z hz hf hcls l _ h.2) (star_of h.1.1 _ _)).of fun σ H Q ⟨g, env, st, e, d, hs, q1, q2⟩ => ?_
      unfold hevs at q1
      split at q1
      · rename_i d0 h0
        split at q1
        · rename_i ds hds
          cases q1
          exact ⟨g, env, st, e, d0, hs, h0, fun g' H' x gr r => ⟨g', env, st, e, ds, hs.grow gr, hds, fun g2 H2 xs gr2 rs => q2 g2 H2 (x :: xs) (gr.trans gr2) (.cons (r.ext gr2.ext) rs)⟩⟩
        · cases q1
      · cases q1
end
def rdHS (C : Ct) (oi : Option Nat) (a : Addr) (cls : Value) (dO : Option Addr) (c : Nat) (m : Exn → Env → Option Fl) : TS := fun D σ H => ∃ g env st e f, HSt C oi a cls dO c g σ H env st e ∧ m e env = some f ∧ ∀ g' H', Grow g H g' H' → match f with
  | .nx => D.nx σ H'
  | .bk => D.bk σ H'
  | .ct => D.ct σ H'
  | .rt d => ∀ v, RV C.K g' H' v d → D.rt v H'
theorem sHS (Z : Good C T S sc X) (hz : Zc cls dO oe) (hf : ∃ vs, oe.data = .fields vs) (hcls : cls = C.xc c) : ∀ (h : HS) (l : List Stmt), chkHS S sc c oi h l = true → PSs (X.suite a ((a, oe) :: pn)) l (rdHS C oi a cls dO c (hsv h))
  | .ret b => fun l h => by
    unfold chkHS at h
    split at h
    · refine (pss_one (ps_ret (sHE Z hz hf hcls b _ h).1)).of fun D σ H ⟨g, env, st, e, f, hs, q1, q2⟩ => ?_
      obtain ⟨d, hd, rfl⟩ := Option.map_eq_some_iff.mp (show (hev b e env).map Fl.rt = some f from q1)
      exact ⟨g, env, st, e, d, hs, hd, fun g' H' x gr r => q2 g' H' gr x r⟩
    · cases h
  | .ifr k b r => fun l h => by
    unfold chkHS at h
    split at h
    · simp only [Bool.and_eq_true] at h
      obtain ⟨⟨⟨h1, ht⟩, h2⟩, h3⟩ := h
      refine (pss_cons (ps_if ((sHE Z hz hf hcls k _ h1).2 ht) (pss_one (ps_ret (sHE Z hz hf hcls b _ h2).1)) pss_nil) (sHS Z hz hf hcls r _ h3)).of fun D σ H ⟨g, env, st, e, f, hs, q1, q2⟩ => ?_
      unfold hsv at q1
      split at q1
      · rename_i k' hk
        refine ⟨g, env, st, e, k', hs, hk, fun g' H' gr => ?_⟩
        cases k' with
        | true =>
          obtain ⟨d, hd, rfl⟩ := Option.map_eq_some_iff.mp (show (hev b e env).map Fl.rt = some f from q1)
          exact ⟨g', env, st, e, d, hs.grow gr, hd, fun g2 H2 x gr2 r => q2 g2 H2 (gr.trans gr2) x r⟩
        | false =>
          exact ⟨g', env, st, e, f, hs.grow gr, q1, fun g2 H2 gr2 => q2 g2 H2 (gr.trans gr2)⟩
      · cases q1
    · cases h
  | .nx => fun l h => by
    have key : ∀ {D : Ends} {σ H}, rdHS C oi a cls dO c (hsv .nx) D σ H → D.nx σ H := fun {D σ H} ⟨g, env, st, e, f, hs, q1, q2⟩ => by
      cases q1
      exact q2 g H (Grow.refl g H)
    unfold chkHS at h
    split at h
    · exact pss_nil.of fun D σ H q => key q
    · exact (pss_one ps_pass).of fun D σ H q => key q
    · cases h
  | .ct => fun l h => by
    unfold chkHS at h
    split at h
    · exact (pss_one ps_continue).of fun D σ H ⟨g, env, st, e, f, hs, q1, q2⟩ => by
        cases q1
        exact q2 g H (Grow.refl g H)
    · cases h
end
section
variable {C : Ct} {X : Cx} {T : Tb} {S : Sig} {sc : Scope}
theorem GoodS.tr (Z : GoodS C T S sc X) {W : WX} {pn : List (Addr × Obj)} {xe : Value → Shared → Prop} (tk : Takes (X.tr pn xe) W) (po : PassesOwn (model X.prog X.w) X.A X.env xe) : GoodS { C with W := W } T S sc (X.tr pn xe) where
  hN := Z.hN
  nd := Z.nd
  scp := Z.scp
  calm := Z.calm
  K := Z.K
  tk := tk
  hu := Z.hu
  blt := Z.blt
  fn := Z.fn
  con := Z.con
  kc := Z.kc
  kd := Z.kd
  ca := Z.ca
  cm := Z.cm
  ck := Z.ck
  tv := Z.tv
  xs := Z.xs
  xm := Z.xm
  xi := Z.xi
  co := Z.co
  fnt := Z.fnt
  kind := Z.kind
  po := po
  stk := Z.stk
  frm := Z.frm
theorem Rep.toW {g : G} {σ : L2.St} {H : Hp} {env : Env} {st : Store} {W : WX} (r : Rep C g σ H env st) : Rep { C with W := W } g σ H env st := ⟨r.len, r.val, r.own, r.inj, r.sto, r.fz, r.fr, r.prv, r.prd⟩
theorem Rep.ofW {g : G} {σ : L2.St} {H : Hp} {env : Env} {st : Store} {W : WX} (r : Rep { C with W := W } g σ H env st) : Rep C g σ H env st := ⟨r.len, r.val, r.own, r.inj, r.sto, r.fz, r.fr, r.prv, r.prd⟩
end
end L3
end

section
set_option Elab.async false
set_option linter.all false
set_option maxRecDepth 100000
set_option maxHeartbeats 8000000
/-! L3sc: raise, try, while. -/
namespace L3
open PySem PySem.Spec PyProof.Rows L2
section
variable {C : Ct} {X : Cx} {T : Tb} {S : Sig} {sc : Scope}
/-- a slot is let go, whatever is laid there -/
theorem Rep.letgo {g : G} {σ : L2.St} {H : Hp} {env : Env} {st : Store} (r : Rep C g σ H env st) (i : Nat) (v : Option V) : Rep C g (σ.set i v) H (env.set i none) st where
  len := by rw [List.length_set, List.length_set]; exact r.len
  val := fun j d h => by
    rcases set_get h with ⟨e, hl, h1⟩ | ⟨e, h⟩
    · cases h1
    · obtain ⟨w, a, b⟩ := r.val j d h
      exact ⟨w, by rw [List.getElem?_set_ne e]; exact a, b⟩
  own := fun j o h => by
    rcases set_get h with ⟨e, hl, h1⟩ | ⟨e, h⟩
    · cases h1
    · obtain ⟨a, h1, h2⟩ := r.own j o h
      exact ⟨a, by rw [List.getElem?_set_ne e]; exact h1, h2⟩
  inj := fun j k o o' a h1 h2 h3 h4 => by
    rcases set_get h1 with ⟨e, hl, h⟩ | ⟨e, h1⟩
    · cases h
    · rcases set_get h2 with ⟨e', hl, h⟩ | ⟨e', h2⟩
      · cases h
      · rw [List.getElem?_set_ne e] at h3
        rw [List.getElem?_set_ne e'] at h4
        exact r.inj j k o o' a h1 h2 h3 h4
  sto := r.sto
  fz := r.fz
  fr := r.fr
  prv := r.prv
  prd := r.prd
theorem GoS.toW {g : G} {H : Hp} {f : Fl} {env : Env} {st : Store} {W : WX} {D : Ends} (h : GoS C g H (.ok f env st) D) : GoS { C with W := W } g H (.ok f env st) D := fun g' σ' H' ex rp => h g' σ' H' ex rp.ofW
theorem hs_rest {a : Addr} {cls : Value} {dO : Option Addr} {oi : Option Nat} {c : Nat} {e : Exn} {h : HS} {f : Fl} {g g' : G} {H H' : Hp} {env : Env} {st : Store} {σ σ1 : L2.St} {D : Ends} (go : GoS C g H (.ok f env st) D) (ex : Ext g H g' H') (rep : Rep C g' σ H' env st) (hq : hsv h e env = some f) (ec : e.cls = c) (sl : slotH oi σ a) (rx : RX C g' H' cls dO e)
    (hr : ∀ g2 H2, Rep C g2 σ H2 env st → Rep C g2 σ1 H2 env st) : rdHS C oi a cls dO c (hsv h) { D with nx := fun _ H => D.nx σ1 H, bk := fun _ H => D.bk σ1 H, ct := fun _ H => D.ct σ1 H } σ H' := by
  refine ⟨g', env, st, e, f, ⟨ec, rep, sl, rx⟩, hq, fun g2 H2 gr => ?_⟩
  have r2 := rep.grow gr
  have r3 := hr g2 H2 r2
  have k := go g2 σ1 H2 (ex.trans gr.ext) r3
  have k2 := go g2 σ H2 (ex.trans gr.ext) r2
  cases f with
  | nx => exact k
  | bk => exact k
  | ct => exact k
  | rt d => exact k2
theorem try_stmt (Z : GoodS C T S sc X) {b : Ss} {c : Nat} {x : Str} {all : List Nat} {i : Option Nat} {h : HS} {y : Str} {np pos pos' : Pos} {on : Option Str} {b0 : Stmt} {suite body : List Stmt} (hx : y = x) (hg : glbB sc y = true) (hxs : ∃ fl, (c, x, fl) ∈ S.cl.xs) (hall : ∀ d ∈ all, ∃ y gl, (d, y, gl) ∈ S.cl.xs) (hon : onB S sc i on = true)
    (hb : ∀ (C' : Ct) (X' : Cx), GoodS C' T S sc X' → PSs X' body (rdS C' fun env st => exs T b env st)) (hs : chkHS S sc c i h (b0 :: suite) = true) :
    PS X (.Try body [.ExceptHandler (some (.Name y np)) on (b0 :: suite) pos'] [] [] pos) (rdS C fun env st => ex T (.tryA b c x all i h) env st) := by
  subst hx
  obtain ⟨fl, hm⟩ := hxs
  obtain ⟨D, e1, e2, e3, e4, _⟩ := Z.xs c y fl hm
  obtain ⟨g1, g2⟩ := gl_of Z.toGood hg
  have hsu : ∀ (oi : Option Nat), chkHS S sc c oi h (b0 :: suite) = true → ∀ (a : Addr) (oe : Obj) (cls : Value) (d : Option Addr) (pn : List (Addr × Obj)), Zc cls d oe → (∃ vs, oe.data = .fields vs) → PSs (X.suite a ((a, oe) :: pn)) (b0 :: suite) (rdHS C oi a cls d c (hsv h)) := fun oi hs a oe cls d pn hz hf => by
    by_cases hcls : cls = C.xc c
    · exact sHS Z.toGood hz hf hcls h _ hs
    · exact ⟨fun pins s σ H D I ⟨g, env, st, e, f, q, _⟩ => absurd (q.rx.1.trans (by rw [q.ec])) hcls⟩
  have exm1 : ∀ e : Exn, e.cls = c → PySem.W.exmOne X.K (C.xc e.cls) (.ref D) = some true := fun e he => by
    have := Z.xm c y fl c y fl hm hm
    rw [decide_eq_true rfl, e1] at this
    rw [he, e1]
    exact this
  have exm0 : ∀ e : Exn, e.cls ≠ c → e.cls ∈ all → PySem.W.exmOne X.K (C.xc e.cls) (.ref D) = some false := fun e he ha => by
    obtain ⟨z, gl, hz⟩ := hall _ ha
    have := Z.xm _ z gl c y fl hz hm
    rw [decide_eq_false he, e1] at this
    exact this
  unfold onB at hon
  split at hon
  · rename_i i n
    simp only [Bool.and_eq_true, decide_eq_true_eq] at hon
    refine (ps_try_as (X := X) (c := .ref D) (i := i) (tb := fun W => rdS { C with W := W } fun env st => exs T b env st) (ts := fun a cls d => rdHS C (some i) a cls d c (hsv h)) Z.stk Z.frm (by rw [Z.hN]; exact Z.nd) (by rw [Z.hN]; exact hon.1) (by rw [← Z.scp] at hon; exact hon.2) ⟨g1, g2, .inl e2⟩ Z.tk (fun W pn xe tk po => hb _ _ (Z.tr tk po)) (hsu (some i) hs)).of fun En σ H ⟨g, env, st, rep, go⟩ => ⟨g, env, st, rep.toW, ?_⟩
    have go : GoS C g H (match exs T b env st with
      | .ex e env' st' => if e.cls = c then (if hasO env' (some i) then (match hsv h e (wipO env' (some i)) with
          | some f => .ok f (wipO env' (some i)) st'
          | none => .no) else .no) else if e.cls ∈ all then .ex e env' st' else .no
      | r => r) En := go
    show GoS _ g H (exs T b env st) En
    cases hr : exs T b env st with
    | no => rw [hr] at go; exact go
    | ok f e s => rw [hr] at go; exact go.toW
    | ex e env' st' =>
      rw [hr] at go
      dsimp only at go
      intro g' σ' H' cls dO ex rp rx
      have rx : RX C g' H' cls dO e := rx
      have rp := rp.ofW
      by_cases hc : e.cls = c
      · rw [if_pos hc] at go
        split at go
        · rename_i hl
          have hl : i < env'.length := of_decide_eq_true hl
          split at go
          · rename_i f hf
            refine ⟨true, by rw [rx.1]; exact exm1 e hc, fun _ a ha => ?_, fun z => by cases z⟩
            have sl : slotH (some i) (σ'.set i (some (.ref a))) a := by
              show (σ'.set i (some (.ref a)))[i]? = _
              rw [List.getElem?_set_self (by rw [← rp.len]; exact hl)]
            have key := hs_rest (σ1 := (σ'.set i (some (.ref a))).set i none) (oi := some i) (a := a) go ex (rp.letgo i (some (.ref a))) hf hc sl rx (fun g2 H2 r => by
              have := r.letgo i none
              rw [show (wipO env' (some i)).set i none = wipO env' (some i) from by unfold wipO; rw [List.set_set]] at this
              exact this)
            obtain ⟨k1, k2, k3, k4, k5, k6, k7, k8⟩ := key
            exact ⟨k1, k2, k3, k4, k5, k6, k7, fun g2 H2 gr => by
              have := k8 g2 H2 gr
              cases k5 <;> exact this⟩
          · exact go.elim
        · exact go.elim
      · rw [if_neg hc] at go
        split at go
        · rename_i hal
          exact ⟨false, by rw [rx.1]; exact exm0 e hc hal, (fun z => by cases z), fun _ => go g' σ' H' cls dO ex rp rx⟩
        · exact go.elim
  · refine (ps_try_only (X := X) (c := .ref D) (tb := fun W => rdS { C with W := W } fun env st => exs T b env st) (ts := fun a cls d => rdHS C none a cls d c (hsv h)) Z.stk Z.frm ⟨g1, g2, .inl e2⟩ Z.tk (fun W pn xe tk po => hb _ _ (Z.tr tk po)) (hsu none hs)).of fun En σ H ⟨g, env, st, rep, go⟩ => ⟨g, env, st, rep.toW, ?_⟩
    have go : GoS C g H (match exs T b env st with
      | .ex e env' st' => if e.cls = c then (if hasO env' none then (match hsv h e (wipO env' none) with
          | some f => .ok f (wipO env' none) st'
          | none => .no) else .no) else if e.cls ∈ all then .ex e env' st' else .no
      | r => r) En := go
    show GoS _ g H (exs T b env st) En
    cases hr : exs T b env st with
    | no => rw [hr] at go; exact go
    | ok f e s => rw [hr] at go; exact go.toW
    | ex e env' st' =>
      rw [hr] at go
      dsimp only at go
      intro g' σ' H' cls dO ex rp rx
      have rx : RX C g' H' cls dO e := rx
      have rp := rp.ofW
      by_cases hc : e.cls = c
      · rw [if_pos hc, if_pos (show hasO env' none = true from rfl)] at go
        split at go
        · rename_i f hf
          refine ⟨true, by rw [rx.1]; exact exm1 e hc, fun _ a ha => ?_, fun z => by cases z⟩
          refine ⟨g', env', st', e, f, ⟨hc, rp, trivial, rx⟩, hf, fun g2 H2 gr => ?_⟩
          have k := go g2 σ' H2 (ex.trans gr.ext) (rp.grow gr)
          cases f <;> exact k
        · exact go.elim
      · rw [if_neg hc] at go
        split at go
        · rename_i hal
          exact ⟨false, by rw [rx.1]; exact exm0 e hc hal, (fun z => by cases z), fun _ => go g' σ' H' cls dO ex rp rx⟩
        · exact go.elim
  · cases hon
theorem while_stmt (Z : GoodS C T S sc X) {n : Nat} {c : A} {b : Ss} {t : Expr} {body : List Stmt} {pos : Pos} (hc : PT X t (rd C rI (mT T c))) (hb : PSs X body (rdS C fun env st => exs T b env st)) : PS X (.While t body [] pos) (rdS C fun env st => ex T (.wh n c b) env st) := by
  refine (ps_while Z.po hc hb).of fun En σ H ⟨g, env, st, rep, go⟩ => ⟨fun m σ H => ∃ g env st, Rep C g σ H env st ∧ GoS C g H (whGo (mT T c) (fun e s => exs T b e s) m env st) En, ⟨n, g, env, st, rep, go⟩, fun m σ H ⟨g, env, st, rep, go⟩ => ?_⟩
  cases m with
  | zero => exact go.elim
  | succ m =>
    refine ⟨g, env, st, rep, (GoS.go (σ := σ) (R := rI σ env) go).imp fun k H1 ⟨k', st1, g1, e1, rep1, v1, go1⟩ => ?_⟩
    have v1 : k = k' := v1
    subst v1
    cases k with
    | false => exact (show GoS C g1 H1 (.ok .nx env st1) En from go1).nx rep1
    | true =>
      refine ⟨fun σ' H' => ∃ g env st, Rep C g σ' H' env st ∧ GoS C g H' (whGo (mT T c) (fun e s => exs T b e s) m env st) En, fun σ' H' w => ⟨m, Nat.lt_succ_self m, w⟩, g1, env, st1, rep1, ?_⟩
      have go1 : GoS C g1 H1 (match exs T b env st1 with
        | .ok .nx e' st' => whGo (mT T c) (fun e s => exs T b e s) m e' st'
        | .ok .ct e' st' => whGo (mT T c) (fun e s => exs T b e s) m e' st'
        | .ok .bk e' st' => .ok .nx e' st'
        | r => r) En := go1
      show GoS C g1 H1 (exs T b env st1) _
      cases hr : exs T b env st1 with
      | no => rw [hr] at go1; exact go1
      | ex e env' st' => rw [hr] at go1; exact go1
      | ok f e s =>
        rw [hr] at go1
        cases f with
        | nx => exact fun g' σ' H' ex rp => ⟨g', e, s, rp, GoS.mono go1 ex⟩
        | ct => exact fun g' σ' H' ex rp => ⟨g', e, s, rp, GoS.mono go1 ex⟩
        | bk => exact fun g' σ' H' ex rp => go1 g' σ' H' ex rp
        | rt d => exact go1
theorem rfs_app {K : PySem.W.Frag} {g : G} {H : Hp} : ∀ {a : List (Str × V)} {b : List (Str × D)} {c : List (Str × V)} {d : List (Str × D)}, RFs K g H a b → RFs K g H c d → RFs K g H (a ++ c) (b ++ d)
  | [], _, _, _, .nil, h => h
  | _ :: _, _, _, _, .cons r t, h => .cons r (rfs_app t h)
theorem rfs_rev {K : PySem.W.Frag} {g : G} {H : Hp} : ∀ {a : List (Str × V)} {b : List (Str × D)}, RFs K g H a b → RFs K g H a.reverse b.reverse
  | [], _, .nil => .nil
  | _ :: _, _, .cons r t => by
    rw [List.reverse_cons, List.reverse_cons]
    exact rfs_app (rfs_rev t) (.cons r .nil)
theorem rfs_zip {K : PySem.W.Frag} {g : G} {H : Hp} : ∀ {fl : List Str} {vs : List V} {ds : List D}, RVs K g H vs ds → RFs K g H (fl.zip vs) (fl.zip ds)
  | [], _, _, _ => .nil
  | _ :: _, [], _, .nil => .nil
  | _ :: _, _ :: _, _, .cons r t => .cons r (rfs_zip t)
theorem rais_stmt (Z : GoodS C T S sc X) {c : Nat} {x y : Str} {fl : List Str} {l : As} {e : Expr} {es : List Expr} {px pos pos' : Pos} (hx : y = x) (hg : glbB sc y = true) (hm : (c, x, fl) ∈ S.cl.xs) (hne : fl ≠ []) (h8 : fl.length ≤ 8) (hl : chkAs S sc l (e :: es) = true) :
    PS X (.Raise (some (.Call (.Name y px) (e :: es) [] pos)) none pos') (rdS C fun env st => ex T (.rais c x fl l) env st) := by
  subst hx
  obtain ⟨D, e1, e2, e3, e4, e5⟩ := Z.xs c y fl hm
  obtain ⟨fI, fd, k, ps, iC, tI, bd, hr, F⟩ := e5 hne
  obtain ⟨g1, g2⟩ := gl_of Z.toGood hg
  have hst : starEach (e :: es) X.env = (false, eval e X.env) :: starEach es X.env := star_of (chks_op hl) _ _
  have hpl : (backTo pos (starEach es X.env)).any (·.1) = false := by
    have := chks_star X.env hl
    rw [hst, List.any_cons] at this
    rw [backTo_any]
    exact (Bool.or_eq_false_iff.mp this).2
  refine (ps_raise Z.calm Z.tk (pmk_oexX (p := px) (pos := pos) ⟨e3, ⟨iC, tI⟩, F, hr, ⟨bd, .nil⟩, passL⟩ ⟨⟨⟨g1, e2⟩, g2⟩, hst, hpl⟩ ((sAs T S l).pa Z.toGood hl))).of fun En σ H ⟨g, env, st, rep, go⟩ => ?_
  refine ⟨g, env, st, rep, (GoS.go (σ := σ) (R := rVs C σ env) go).imp fun vs H1 ⟨ds, st1, g1, ex1, rep1, v1, go1⟩ => ?_⟩
  have v1 : RVs C.K g1 H1 vs ds := v1
  split at go1
  · rename_i hz
    refine ⟨by rw [v1.length, hz]; omega, fun a ha => ⟨a, vs ++ [], rfl, by rw [List.append_nil, v1.length, hz], hne, h8, upd_same, fun d H2 k1 k2 k3 k4 k5 => ⟨rfl, d, _, k1, k2, ?_, ?_⟩⟩⟩
    · rw [upd_ne k4] at k3
      exact k3
    · have hd : H1 d = none := by rw [upd_ne k4] at k3; exact k3
      have eq : upd (del H2 a) d (.xd (fl.zip (vs ++ [])).reverse) = upd H1 d (.xd (fl.zip vs).reverse) := by
        rw [List.append_nil]
        funext b
        by_cases hb : b = d
        · rw [hb, upd_same, upd_same]
        · rw [upd_ne hb, upd_ne hb]
          by_cases hba : b = a
          · rw [hba, del_same, ha]
          · rw [del_ne hba, k5 b hba hb, upd_ne hba]
      rw [eq]
      have gr := Grow.lay (g := g1) (o := .xd (fl.zip vs).reverse) hd
      exact go1 g1 σ _ _ _ gr.ext (rep1.grow gr) ⟨e1.symm, .inr ⟨d, _, rfl, upd_same, rfs_rev (rfs_zip (v1.ext gr.ext))⟩⟩
  · exact go1.elim
end
end L3
end

section
set_option Elab.async false
set_option linter.all false
set_option maxRecDepth 100000
set_option maxHeartbeats 8000000
/-! L3n: every statement does what is said: the proof by recursion. -/
namespace L3
open PySem PySem.Spec PyProof.Rows L2
section
variable {C : Ct} {X : Cx} {T : Tb} {S : Sig} {sc : Scope}
theorem pe_slot (Z : GoodS C T S sc X) {i : Nat} {x : Str} {pos : Pos} (hi : S.N[i]? = some x) (hv : visB sc x = true) : PE X (.Name x pos) (tVar i) := by
  obtain ⟨v1, v2, v3⟩ := vis_of hv
  exact pe_var (by rw [Z.hN]; exact hi) (by rw [Z.scp]; exact v1) v2 v3
/-- one argument, read at once -/
theorem pa_1B {e : Expr} {m : Env → Store → Res D} (ho : opB e = true) (hE : PE X e (rd C (RB C) m)) : PA X [e] (rd C (RBs C) fun env st => (m env st).bind fun d st => .ok [d] st) := by
  refine (pa_cons hE pa_nil (star_of ho _ _)).of fun σ H Q q => ?_
  obtain ⟨g, env, st, rep, go⟩ := q
  refine ⟨g, env, st, rep, (Go.bind (R := RB C σ env) go).imp fun x H1 ⟨d, st1, g1, e1, rep1, v1, go1⟩ => ?_⟩
  exact go1.end_ rep1 (.cons v1 .nil)
theorem one_star {a : A} {e : Expr} (h : chkE S sc a e = true) (env : PySem.Env) : (starEach [e] env).any (·.1) = false := by
  rw [star_of (chk_op h)]; rfl
theorem app_stmt (Z : GoodS C T S sc X) {i : Nat} {a : A} {x : Str} {px ap q pos : Pos} {e : Expr} (hi : S.N[i]? = some x) (hv : visB sc x = true) (hl : (ap.endLine == q.line) = true) (h : chkE S sc a e = true) :
    PS X (.Expr (.Call (.Attribute (.Name x px) "append" ap) [e] [] q) pos) (rdS C fun env st => ex T (.app i a) env st) := by
  have hm : MtR X "list.append" rAppend := mt_append
  have pe := pe_bmD (apos := ap) (cpos := q) ⟨PySem.F.plainAttrs_list, PySem.F.slot_list_append, PySem.F.type_list_append, hm⟩ (pe_slot Z (pos := px) hi hv) (pa_1 (C := C) (chk_op h) (sE T S a _ _ _ _ Z.toGood h).1) rfl (show 1 < 20 by decide) hl (one_star h _) (chk_op h)
  refine (ps_expr pe rfl).of fun En σ H ⟨g, env, st, rep, go⟩ => ?_
  have go : GoS C g H (match ownAt env i with
    | some (.lst l) => (ev T a env st).go env fun d st => if decide (l.length < sizeLine) then .ok .nx (env.set i (some (.own (.lst (l ++ [d]))))) st else .no
    | _ => .no) En := go
  split at go
  · rename_i l hl
    obtain ⟨p, vs, o1, o2, o3, o4, o5⟩ := own_lst rep hl
    refine ⟨_, o2, .inl ⟨rfl, vs, .inl (.inl o3)⟩, g, env, st, rep, ?_⟩
    show Go C σ env (rVs C σ env) g H ((ev T a env st).bind fun d st => .ok [d] st) fun xs H2 => rAppend (.ref p) xs H2 fun x H1 => En.nx σ H1
    have gg := GoS.go (σ := σ) (R := rV C σ env) go
    cases hr : ev T a env st with
    | no => rw [hr] at gg; exact gg.elim
    | ex y s => rw [hr] at gg; exact gg
    | ok d s =>
      rw [hr] at gg
      intro g1 H1 xs ex1 rep1 rv1
      cases rv1 with
      | cons r1 r2 =>
        cases r2
        obtain ⟨d', st1, g2, e2, rep2, v2, go2⟩ := gg g1 H1 _ ex1 rep1 r1
        split at go2
        · rename_i hz
          have hz := of_decide_eq_true hz
          obtain ⟨p', vs', z1, z2, z3, z4, z5⟩ := own_lst rep2 hl
          rw [o2] at z2
          cases z2
          refine ⟨p, vs', _, rfl, rfl, z3, by rw [z4.length]; exact hz, ?_⟩
          obtain ⟨rep3, ex3⟩ := rep2.mut (ho := .lst (vs' ++ [_])) z1 o2 (o' := .lst (l ++ [d'])) ⟨_, upd_same, RVs.ext (Ext.prv z5) (z4.snoc v2)⟩
          exact go2.nx' ex3 rep3
        · exact go2.elim
  · exact go.elim
theorem appR_stmt (Z : GoodS C T S sc X) {o a : A} {ap q pos : Pos} {eo e : Expr} (hl : (ap.endLine == q.line) = true) (hb : baseB eo = true) (h0 : chkE S sc o eo = true) (h : chkE S sc a e = true) :
    PS X (.Expr (.Call (.Attribute eo "append" ap) [e] [] q) pos) (rdS C fun env st => ex T (.appR o a) env st) := by
  have hm : MtR X "list.append" rAppend := mt_append
  have pe := pe_bmD (apos := ap) (cpos := q) ⟨PySem.F.plainAttrs_list, PySem.F.slot_list_append, PySem.F.type_list_append, hm⟩ (sE T S o _ _ _ _ Z.toGood h0).1 (pa_1 (C := C) (chk_op h) (sE T S a _ _ _ _ Z.toGood h).1) (base_of hb _ _ _) (show 1 < 20 by decide) hl (one_star h _) (chk_op h)
  refine (ps_expr pe rfl).of fun En σ H ⟨g, env, st, rep, go⟩ => ?_
  refine ⟨g, env, st, rep, ?_⟩
  have go : GoS C g H ((ev T o env st).go env fun x st => match x with
    | .ref n => match st[n]? with
      | some (.lst _) => (ev T a env st).go env fun d st => match st[n]? with
        | some (.lst l) => if decide (l.length < sizeLine) then .ok .nx env (st.set n (.lst (l ++ [d]))) else .no
        | _ => .no
      | _ => .no
    | _ => .no) En := go
  refine (GoS.go (σ := σ) (R := rV C σ env) go).imp fun x H1 ⟨dx, st1, g1, e1, rep1, vx, go1⟩ => ?_
  cases dx <;> try exact go1.elim
  rename_i n
  cases (show RV C.K g1 H1 x (.ref n) from vx) with
  | @ref _ p hρ =>
    dsimp only at go1
    split at go1
    · rename_i l0 hl0
      obtain ⟨vs0, q1, _⟩ := ref_lst rep1 hl0 hρ
      refine ⟨.inl ⟨rfl, vs0, .inl (.inl q1)⟩, g1, env, st1, rep1, ?_⟩
      show Go C σ env (rVs C σ env) g1 H1 ((ev T a env st1).bind fun d st => .ok [d] st) fun xs H2 => rAppend (.ref p) xs H2 fun x H1 => En.nx σ H1
      have gg := GoS.go (σ := σ) (R := rV C σ env) go1
      cases hr : ev T a env st1 with
      | no => rw [hr] at gg; exact gg.elim
      | ex y s => rw [hr] at gg; exact gg
      | ok d s =>
        rw [hr] at gg
        intro g2 H2 xs ex2 rep2 rv2
        cases rv2 with
        | cons r1 r2 =>
          cases r2
          obtain ⟨d', st3, g3, e3, rep3, v3, go3⟩ := gg g2 H2 _ ex2 rep2 r1
          split at go3
          · rename_i l hl
            split at go3
            · rename_i hz
              have hz := of_decide_eq_true hz
              have hρ3 := e3.ρ _ _ hρ
              obtain ⟨vs, z3, z4⟩ := ref_lst rep3 hl hρ3
              refine ⟨p, vs, _, rfl, rfl, z3, by rw [z4.length]; exact hz, ?_⟩
              have hnF := rep3.sto.nf n _ hρ3
              obtain ⟨rep4, ex4⟩ := rep3.setSt (o' := .lst (l ++ [d'])) (ho := .lst (vs ++ [_])) hl hρ3 ⟨_, upd_same, RVs.ext (Ext.prv hnF) (z4.snoc v3)⟩
              exact go3.nx' ex4 rep4
            · exact go3.elim
          · exact go3.elim
    · exact go1.elim
theorem ext_stmt (Z : GoodS C T S sc X) {i : Nat} {a : A} {x : Str} {px ap q pos : Pos} {e : Expr} (hi : S.N[i]? = some x) (hv : visB sc x = true) (hl : (ap.endLine == q.line) = true) (h : chkE S sc a e = true) :
    PS X (.Expr (.Call (.Attribute (.Name x px) "extend" ap) [e] [] q) pos) (rdS C fun env st => ex T (.ext i a) env st) := by
  have pe := pe_bmD (apos := ap) (cpos := q) ⟨PySem.F.plainAttrs_list, PySem.F.slot_list_extend, PySem.F.type_list_extend, mt_extS⟩ (pe_slot Z (pos := px) hi hv) (pa_1B (C := C) (chk_op h) (bor_of Z.toGood h (sE T S a _ _ _ _ Z.toGood h).1)) rfl (show 1 < 20 by decide) hl (one_star h _) (chk_op h)
  refine (ps_expr pe rfl).of fun En σ H ⟨g, env, st, rep, go⟩ => ?_
  have go : GoS C g H (match ownAt env i with
    | some (.lst l) => (evB a env st (ev T a env st)).go env fun d st => match drf st d with
      | .lst m => if decide (l.length + m.length ≤ sizeLine) then .ok .nx (env.set i (some (.own (.lst (l ++ m))))) st else .no
      | _ => .no
    | _ => .no) En := go
  split at go
  · rename_i l hl
    obtain ⟨p, vs, o1, o2, o3, o4, o5⟩ := own_lst rep hl
    refine ⟨_, o2, .inl ⟨rfl, vs, .inl (.inl o3)⟩, g, env, st, rep, ?_⟩
    show Go C σ env (RBs C σ env) g H ((evB a env st (ev T a env st)).bind fun d st => .ok [d] st) fun xs H2 => rExtS X.K (.ref p) xs H2 fun x H1 => En.nx σ H1
    have gg := GoS.go (σ := σ) (R := RB C σ env) go
    cases hr : evB a env st (ev T a env st) with
    | no => rw [hr] at gg; exact gg.elim
    | ex y s => rw [hr] at gg; exact gg
    | ok d s =>
      rw [hr] at gg
      intro g1 H1 xs ex1 rep1 rv1
      cases rv1 with
      | cons r1 r2 =>
        cases r2
        obtain ⟨d', st1, g2, e2, rep2, v2, go2⟩ := gg g1 H1 _ ex1 rep1 r1
        split at go2
        · rename_i m hd
          split at go2
          · rename_i hz
            have hz := of_decide_eq_true hz
            obtain ⟨p', vs', z1, z2, z3, z4, z5⟩ := own_lst rep2 hl
            rw [o2] at z2
            cases z2
            have see := RB.see v2 rep2
            rw [hd] at see
            obtain ⟨b, ws, rfl, hq, rr⟩ := see
            refine ⟨p, b, vs', ws, ⟨rfl, rfl⟩, ⟨z3, by rw [Z.K]; exact hq⟩, by rw [z4.length, rr.length]; exact hz, ?_⟩
            obtain ⟨rep3, ex3⟩ := rep2.mut (ho := .lst (vs' ++ ws)) z1 o2 (o' := .lst (l ++ m)) ⟨_, upd_same, RVs.ext (Ext.prv z5) (z4.append rr)⟩
            exact go2.nx' ex3 rep3
          · exact go2.elim
        · exact go2.elim
  · exact go.elim
/-- the sub-target's store -/
theorem asg_sub {o i : Expr} {pos : Pos} (ho : opB i = true) {env : PySem.Env} : ∀ v, assign (.Subscript o i pos) env v = (do
      let ov ← holding [v] (eval o env)
      let iv ← holding [v, ov] (eval i env)
      standAt pos
      holding [v, ov, iv] (setItem ov iv v)
      release [v, ov, iv] []) := by
  intro v
  cases i <;> first | rfl | cases ho
theorem setS_stmt (Z : GoodS C T S sc X) {i : Nat} {b v : A} {x : Str} {px p2 pos : Pos} {ei e : Expr} (hi : S.N[i]? = some x) (hv : visB sc x = true) (h1 : chkE S sc b ei = true) (h2 : chkE S sc v e = true) (hw : swB sc (some (.Subscript (.Name x px) ei p2)) e = true) :
    PS X (.Assign [.Subscript (.Name x px) ei p2] e pos) (rdS C fun env st => ex T (.setS i b v) env st) := by
  refine (ps_asg (sE T S v _ _ _ _ Z.toGood h2).1 (pg_sub (pe_slot Z (pos := px) hi hv) (sE T S b _ _ _ _ Z.toGood h1).1 (set_any Z.hu1) (asg_sub (chk_op h1))) (sw_no (l := pos.line) hw Z.scp) (st_no (sc := sc) rfl Z.scp) rfl).of fun En σ H ⟨g, env, st, rep, go⟩ => ?_
  have go : GoS C g H (match ownAt env i with
    | some ob => (ev T v env st).go env fun z st => (ev T b env st).go env fun y st => match setO ob y z with
      | some ob' => .ok .nx (env.set i (some (.own ob'))) st
      | none => .no
    | none => .no) En := go
  split at go
  · rename_i ob hown
    have hown' := own_at hown
    refine ⟨g, env, st, rep, ?_⟩
    refine (GoS.go (σ := σ) (R := rV C σ env) go).imp fun z H1 ⟨dz, st1, g1, e1, rep1, vz, go1⟩ => ?_
    obtain ⟨p, o2, o3, o5, _⟩ := rep1.own i ob hown'
    refine ⟨_, o2, g1, env, st1, rep1, ?_⟩
    refine (GoS.go (σ := σ) (R := rV C σ env) go1).imp fun y H2 ⟨dy, st2, g2, e2, rep2, vy, go2⟩ => ?_
    split at go2
    · rename_i ob' hset
      obtain ⟨p', z2, z3, z5, _⟩ := rep2.own i ob hown'
      rw [o2] at z2
      cases z2
      exact set_ho z3 hset vy (RV.ext e2 vz) z5 fun ho ro => by
        obtain ⟨rep3, ex3⟩ := rep2.mut hown' o2 ro
        exact go2.nx' ex3 rep3
    · exact go2.elim
  · exact go.elim
theorem setR_stmt (Z : GoodS C T S sc X) {o b v : A} {p2 pos : Pos} {eo ei e : Expr} (h0 : chkE S sc o eo = true) (h1 : chkE S sc b ei = true) (h2 : chkE S sc v e = true) (hw : swB sc (some (.Subscript eo ei p2)) e = true) :
    PS X (.Assign [.Subscript eo ei p2] e pos) (rdS C fun env st => ex T (.setR o b v) env st) := by
  refine (ps_asg (sE T S v _ _ _ _ Z.toGood h2).1 (pg_sub (sE T S o _ _ _ _ Z.toGood h0).1 (sE T S b _ _ _ _ Z.toGood h1).1 (set_any Z.hu1) (asg_sub (chk_op h1))) (sw_no (l := pos.line) hw Z.scp) (st_no (sc := sc) rfl Z.scp) rfl).of fun En σ H ⟨g, env, st, rep, go⟩ => ?_
  refine ⟨g, env, st, rep, ?_⟩
  refine (GoS.go (σ := σ) (R := rV C σ env) go).imp fun z H1 ⟨dz, st1, g1, e1, rep1, vz, go1⟩ => ?_
  refine ⟨g1, env, st1, rep1, ?_⟩
  refine (GoS.go (σ := σ) (R := rV C σ env) go1).imp fun x H2 ⟨dx, st2, g2, e2, rep2, vx, go2⟩ => ?_
  refine ⟨g2, env, st2, rep2, ?_⟩
  refine (GoS.go (σ := σ) (R := rV C σ env) go2).imp fun y H3 ⟨dy, st3, g3, e3, rep3, vy, go3⟩ => ?_
  split at go3
  · rename_i n _
    split at go3
    · rename_i ob hob
      split at go3
      · rename_i ob' hset
        cases (show RV C.K g2 H2 x (.ref n) from vx) with
        | ref hρ =>
          rename_i a
          have hρ := e3.ρ _ _ hρ
          obtain ⟨a', q1, q2⟩ := rep3.sto.obj n ob hob
          rw [hρ] at q1
          cases q1
          exact set_ho q2 hset vy (RV.ext (e2.trans e3) vz) (rep3.sto.nf n _ hρ) fun ho ro => by
            obtain ⟨rep4, ex4⟩ := rep3.setSt hob hρ ro
            exact go3.nx' ex4 rep4
      · exact go3.elim
    · exact go3.elim
  · exact go3.elim
end
section
variable {C : Ct} {X : Cx} {T : Tb} {S : Sig} {sc : Scope}
/-- o.f = v -/
theorem setA_stmt (Z : GoodS C T S sc X) {cs : List Nat} {o v : A} {x : Str} {p2 pos : Pos} {eo e : Expr} (h0 : chkE S sc o eo = true) (h2 : chkE S sc v e = true) (hc : cs.all (fun c => decide ((c, x) ∈ S.cl.ca)) = true) (hw : swB sc (some (.Attribute eo x p2)) e = true) :
    PS X (.Assign [.Attribute eo x p2] e pos) (rdS C fun env st => ex T (.setA cs o x v) env st) := by
  refine (ps_fld (sE T S o _ _ _ _ Z.toGood h0).1 (sE T S v _ _ _ _ Z.toGood h2).1 (sw_no (l := pos.line) hw Z.scp)).of fun En σ H ⟨g, env, st, rep, go⟩ => ⟨g, env, st, rep, ?_⟩
  refine (GoS.go (σ := σ) (R := rV C σ env) go).imp fun z H1 ⟨dz, st1, g1, e1, rep1, vz, go1⟩ => ⟨g1, env, st1, rep1, ?_⟩
  refine (GoS.go (σ := σ) (R := rV C σ env) go1).imp fun x1 H2 ⟨dx, st2, g2, e2, rep2, vx, go2⟩ => ?_
  obtain ⟨st3, h3, go3⟩ := go2.ofO
  obtain ⟨c, a, ix, vs, hcm, rfl, hH, hl, rep3, ex3⟩ := rep2.setF h3 vx (RV.ext e2 vz)
  obtain ⟨k1, k2⟩ := Z.ca c x (of_decide_eq_true (List.all_eq_true.mp hc c hcm))
  exact ⟨a, C.cls c, ix, vs, rfl, hH, k1, k2, hl, go3.nx' ex3 rep3⟩
/-- o.f op= v -/
theorem augA_stmt (Z : GoodS C T S sc X) {op : Operator} {cs : List Nat} {o v : A} {x : Str} {p2 pos : Pos} {eo e : Expr} (h0 : chkE S sc o eo = true) (h2 : chkE S sc v e = true) (hc : cs.all (fun c => decide ((c, x) ∈ S.cl.ca)) = true) :
    PS X (.AugAssign (.Attribute eo x p2) op e pos) (rdS C fun env st => ex T (.augA op cs o x v) env st) := by
  have hop : InOp X op (r2 C (rV C) (rV C) fun x y st => .of (augD op x y) st) := fun pins s σ H x y u v Q I rx ry h => aug_ok (C := C) Z.K op pins s σ H x y u v Q I rx ry h
  refine (ps_fldaug (sE T S o _ _ _ _ Z.toGood h0).1 (sE T S v _ _ _ _ Z.toGood h2).1 hop).of fun En σ H ⟨g, env, st, rep, go⟩ => ⟨g, env, st, rep, ?_⟩
  refine (GoS.go (σ := σ) (R := rV C σ env) go).imp fun x1 H1 ⟨dx, st1, g1, e1, rep1, vx, go1⟩ => ?_
  obtain ⟨⟨c, w⟩, hw, go2⟩ := go1.ofO
  unfold attrC at hw
  split at hw
  · rename_i n
    split at hw
    · rename_i c0 fs hs
      split at hw
      · rename_i hcm
        obtain ⟨w0, hw0, e0⟩ := Option.map_eq_some_iff.mp hw
        cases e0
        obtain ⟨a, ix, vs, rfl, hρ, hH, rf⟩ := ref_ins rep1 hs vx
        obtain ⟨u, hu, ru⟩ := (RFs.look (f := x) rf).1 w hw0
        obtain ⟨k1, k2⟩ := Z.ca c x (of_decide_eq_true (List.all_eq_true.mp hc c (of_decide_eq_true hcm)))
        refine ⟨a, C.cls c, ix, vs, u, rfl, hH, k1, k2, hu, g1, env, st1, rep1, ?_⟩
        refine (GoS.go (σ := σ) (R := rV C σ env) go2).imp fun y H2 ⟨dy, st2, g2, e2, rep2, vy, go3⟩ => ?_
        refine ⟨g2, σ, env, st2, w, dy, rep2, RV.ext e2 ru, vy, ?_⟩
        refine (GoS.go (σ := σ) (R := rV C σ env) go3).imp fun z H3 ⟨dz, st3, g3, e3, rep3, vz, go4⟩ => ?_
        obtain ⟨st4, h4, go5⟩ := go4.ofO
        obtain ⟨c', a', ix', vs', hc', ea, hH', hl', rep4, ex4⟩ := rep3.setF h4 (RV.ext (e2.trans e3) vx) vz
        cases ea
        rw [List.mem_singleton.mp hc'] at hH' rep4 ex4
        exact ⟨ix', vs', hH', hl', go5.nx' ex4 rep4⟩
      · cases hw
    · cases hw
  · cases hw
/-- d.clear() -/
theorem clr_stmt (Z : GoodS C T S sc X) {o : A} {ap q pos : Pos} {eo : Expr} (hl : (ap.endLine == q.line) = true) (hb : baseB eo = true) (h0 : chkE S sc o eo = true) :
    PS X (.Expr (.Call (.Attribute eo "clear" ap) [] [] q) pos) (rdS C fun env st => ex T (.clr o) env st) := by
  refine (ps_expr (pe_dclear (sE T S o _ _ _ _ Z.toGood h0).1 (base_of hb _ _ _) hl) rfl).of fun En σ H ⟨g, env, st, rep, go⟩ => ⟨g, env, st, rep, ?_⟩
  refine (GoS.go (σ := σ) (R := rV C σ env) go).imp fun x1 H1 ⟨dx, st1, g1, e1, rep1, vx, go1⟩ => ?_
  obtain ⟨st3, h3, go3⟩ := go1.ofO
  unfold clrD at h3
  split at h3
  · rename_i n
    split at h3
    · rename_i l hs
      cases h3
      obtain ⟨a, e, hρ⟩ : ∃ a, x1 = .ref a ∧ g1.ρ n = some a := by
        cases (show RV C.K g1 H1 x1 (.ref n) from vx) with
        | ref hρ => exact ⟨_, rfl, hρ⟩
      subst e
      obtain ⟨a', q1, kvs, q2, q3⟩ := rep1.sto.obj n _ hs
      rw [hρ] at q1
      cases q1
      obtain ⟨rep2, ex2⟩ := rep1.setSt (ho := .dK []) hs hρ (o' := .dct .k []) ⟨[], upd_same, .nil⟩
      exact ⟨.inr (.inr (.inl ⟨rfl, .inl ⟨kvs, q2⟩⟩)), a, kvs, rfl, rfl, q2, go3.nx' ex2 rep2⟩
    · cases h3
  · cases h3
end
theorem or3 {a b c : Bool} (h : (a || b || c) = true) : a = true ∨ b = true ∨ c = true := by
  cases a
  · cases b
    · exact .inr (.inr h)
    · exact .inr (.inl rfl)
  · exact .inl rfl
mutual
theorem sS (T : Tb) (S : Sig) : ∀ s : L3.S, OkS T S s
  | .asg p a => fun C sc X x Z h => by
    unfold chkS at h
    split at h
    · rename_i tg e pos
      simp only [Bool.and_eq_true] at h
      obtain ⟨⟨⟨h1, h2⟩, h3⟩, h4⟩ := h
      rcases (or3 h4) with hw | hl | hl
      · refine (ps_asg (sE T S a _ _ _ _ Z.toGood h2).1 (sP (C := C) Z.K Z.calm Z.slots p tg true h1 (.inl rfl)) (sw_no (l := pos.line) hw Z.scp) (st_no h3 Z.scp) (by rw [chkP_star h1]; rfl)).of fun En σ H ⟨g, env, st, rep, go⟩ => ?_
        refine ⟨g, env, st, rep, ?_⟩
        refine (GoS.go (σ := σ) (R := rV C σ env) go).imp fun z H1 ⟨d, st1, g1, e1, rep1, v1, go1⟩ => ?_
        have go1 : GoS C g1 H1 (oSR (bindP p d env) st1) En := go1
        cases hb : bindP p d env with
        | none => rw [hb] at go1; exact go1.elim
        | some env' =>
          rw [hb] at go1
          exact ⟨g1, env, st1, d, env', rep1, .inl v1, hb, fun σ' rep' _ => go1 g1 σ' H1 (Ext.refl _ _) rep'⟩
      · simp only [Bool.and_eq_true] at hl
        obtain ⟨⟨l1, l2⟩, l3⟩ := hl
        cases p with
        | nm i => exact asg_lc Z h1 h2 l1 l3
        | tp l => cases l2
      · simp only [Bool.and_eq_true] at hl
        obtain ⟨⟨l1, l2⟩, l3⟩ := hl
        cases p with
        | nm i => exact asg_ld Z h1 h2 l1 l3
        | tp l => cases l2
    · cases h
  | .asgO i a => fun C sc X x Z h => by
    unfold chkS at h
    split at h
    · rename_i tg e pos
      simp only [Bool.and_eq_true] at h
      obtain ⟨⟨⟨⟨h1, h2⟩, h3⟩, h4⟩, h5⟩ := h
      rcases (or3 h5) with hw | hl | hl
      · refine (ps_asg (new_ok Z.toGood h4 h2) (pg_nm Z h1) (sw_no (l := pos.line) hw Z.scp) (st_no h3 Z.scp) (by rw [chkP_star h1]; rfl)).of fun En σ H ⟨g, env, st, rep, go⟩ => ?_
        refine ⟨g, env, st, rep, ?_⟩
        have go : GoS C g H ((ev T a env st).go env fun d st => oSR (d.toO.map fun o => env.set i (some (.own o))) st) En := go
        have e1 : (ev T a env st).go env (fun d st => oSR (d.toO.map fun o => env.set i (some (.own o))) st) = ((ev T a env st).bind fun d st => Res.of d.toO st).go env fun o st => .ok .nx (env.set i (some (.own o))) st := by
          cases ev T a env st with
          | ok d st1 => simp only [go_ok, bind_ok]; cases d.toO <;> rfl
          | ex y s => rfl
          | no => rfl
        rw [e1] at go
        refine (GoS.go (σ := σ) (R := rO C σ env) go).imp fun z H1 ⟨d, st1, g1, e1, rep1, ⟨p, e2, f⟩, go1⟩ => ?_
        subst e2
        exact go1.nx (rep1.put f i)
      · simp only [Bool.and_eq_true] at hl
        exact asgO_lc Z h1 h2 hl.1 hl.2
      · simp only [Bool.and_eq_true] at hl
        exact asgO_ld Z h1 h2 hl.1 hl.2
    · cases h
  | .asgS i j a => fun C sc X x Z h => by
    unfold chkS at h
    split at h
    · rename_i x px y py pz k pt e pos
      simp only [Bool.and_eq_true, decide_eq_true_eq] at h
      obtain ⟨⟨⟨⟨⟨⟨h1, h2⟩, h3⟩, h4⟩, h5⟩, h6⟩, h7⟩ := h
      have q1 : PG X (.Name x px) (gName i) := pg_name (by rw [Z.hN]; exact Z.nd) (by rw [Z.hN]; exact h1) (Z.loc h2) (.inl (Z.fnt x))
      have q2 : PG X (.Name y py) (gName j) := pg_name (by rw [Z.hN]; exact Z.nd) (by rw [Z.hN]; exact h3) (Z.loc h4) (.inl (Z.fnt y))
      refine (ps_asg (sE T S a _ _ _ _ Z.toGood h5).1 (pg_star Z.calm q1 q2) (sw_no (l := pos.line) h7 Z.scp) (st_no h6 Z.scp) rfl).of fun En σ H ⟨g, env, st, rep, go⟩ => ?_
      refine ⟨g, env, st, rep, ?_⟩
      have go : GoS C g H ((ev T a env st).go env fun d st => match d with
        | .lst (x :: r) => if decide (r.length < 16384) then .ok .nx ((env.set i (some (.val x))).set j (some (.val (.lst r)))) st else .no
        | _ => .no) En := go
      refine (GoS.go (σ := σ) (R := rV C σ env) go).imp fun v H1 ⟨d, st1, g1, e1, rep1, v1, go1⟩ => ?_
      cases d <;> try exact go1.elim
      rename_i l
      cases l with
      | nil => exact go1.elim
      | cons d r =>
        dsimp only at go1
        split at go1
        · rename_i hz
          have hz := of_decide_eq_true hz
          cases (show RV C.K g1 H1 v (.lst (d :: r)) from v1) with
          | lst f rr =>
            cases rr with
            | cons r1 r2 =>
              rename_i v0 vs0
              refine ⟨_, _, _, rfl, by rw [Z.K]; exact f.sq, by rw [RVs.length r2]; exact hz, fun p hp => ?_⟩
              have gr := Grow.new (g := g1) (o := .lst vs0) hp
              exact (GoS.mono go1 gr.ext).nx (((rep1.grow gr).set i (r1.ext gr.ext)).set j (.lst (.inl ⟨.inr rfl, .inl upd_same⟩) (r2.ext gr.ext)))
        · exact go1.elim
    · cases h
  | .par2 i j a b => fun C sc X x Z h => by
    unfold chkS at h
    split at h
    · rename_i x px y py k1 pt e1 e2 k2 p2 pos
      simp only [Bool.and_eq_true, decide_eq_true_eq] at h
      obtain ⟨⟨⟨⟨⟨h1, h2⟩, h3⟩, h4⟩, h5⟩, h6⟩ := h
      have hp := h4
      unfold parB at hp
      simp only [Bool.and_eq_true, decide_eq_true_eq, Bool.not_eq_true'] at hp
      refine (ps_par (pos := pos) Z.calm (by rw [Z.hN]; exact Z.nd) (by rw [Z.hN]; exact h1) (by rw [Z.hN]; exact h2) h3 (by rw [Z.scp]; exact hp.1.1.1.1.1.1.1) (by rw [Z.scp]; exact hp.1.1.1.1.1.1.2) (pa_2 (C := C) (chk_op h5) (chk_op h6) (sE T S a _ _ _ _ Z.toGood h5).1 (sE T S b _ _ _ _ Z.toGood h6).1) (par_sw h4 Z.scp Z.bk) rfl).of fun En σ H ⟨g, env, st, rep, go⟩ => ?_
      refine ⟨g, env, st, rep, ?_⟩
      have go : GoS C g H ((ev T a env st).go env fun x st => (ev T b env st).go env fun y st => .ok .nx ((env.set i (some (.val x))).set j (some (.val y))) st) En := go
      show Go C σ env (rVs C σ env) g H ((ev T a env st).bind fun d st => (ev T b env st).bind fun d2 st => .ok [d, d2] st) _
      have e1 : (ev T a env st).go env (fun x st => (ev T b env st).go env fun y st => .ok .nx ((env.set i (some (.val x))).set j (some (.val y))) st) = ((ev T a env st).bind fun d st => (ev T b env st).bind fun d2 st => Res.ok [d, d2] st).go env fun l st => match l with | [x, y] => .ok .nx ((env.set i (some (.val x))).set j (some (.val y))) st | _ => .no := by
        cases ev T a env st with
        | ok d st1 => simp only [go_ok, bind_ok]; cases ev T b env st1 <;> rfl
        | ex y s => rfl
        | no => rfl
      rw [e1] at go
      refine (GoS.go (σ := σ) (R := rVs C σ env) go).imp fun zs H1 ⟨ds, st1, g1, e1, rep1, v1, go1⟩ => ?_
      cases v1 with
      | nil => exact go1.elim
      | cons r1 v1 =>
        cases v1 with
        | nil => exact go1.elim
        | cons r2 v1 =>
          cases v1 with
          | nil => exact ⟨_, _, rfl, go1.nx ((rep1.set i r1).set j r2)⟩
          | cons r3 v1 => exact go1.elim
    · cases h
  | .aug op i a => fun C sc X x Z h => by
    unfold chkS at h
    split at h
    · rename_i x px o e pos
      simp only [Bool.and_eq_true, decide_eq_true_eq] at h
      obtain ⟨⟨⟨rfl, h1⟩, h2⟩, h3⟩ := h
      have op : PIp X o (r2 C (rV C) (rV C) fun x y st => .of (augD o x y) st) := aug_ok (C := C) Z.K o
      refine (ps_aug (pos := pos) (by rw [Z.hN]; exact Z.nd) (by rw [Z.hN]; exact h1) (Z.loc h2) (sE T S a _ _ _ _ Z.toGood h3).1 op (.inl (Z.fnt x))).of fun En σ H ⟨g, env, st, rep, go⟩ => ?_
      have go : GoS C g H ((Res.of (valAt env i) st).go env fun x st => (ev T a env st).go env fun y st => (Res.of (augD o x y) st).go env fun z st => .ok .nx (env.set i (some (.val z))) st) En := go
      obtain ⟨d0, hd0, go⟩ := go.ofO
      unfold valAt at hd0
      split at hd0
      · cases hd0
        rename_i e0
        obtain ⟨v, hv, rv⟩ := rep.val i _ e0
        refine ⟨v, hv, g, env, st, rep, ?_⟩
        refine (GoS.go (σ := σ) (R := rV C σ env) go).imp fun y H1 ⟨dy, st1, g1, e1, rep1, v1, go1⟩ => ?_
        refine ⟨g1, σ, env, st1, _, dy, rep1, RV.ext e1 rv, v1, ?_⟩
        refine (GoS.go (σ := σ) (R := rV C σ env) go1).imp fun z H2 ⟨dz, st2, g2, e2, rep2, v2, go2⟩ => ?_
        exact go2.nx (rep2.set i v2)
      · cases hd0
    · cases h
  | .setR o i v => fun C sc X x Z h => by
    unfold chkS at h
    split at h
    · simp only [Bool.and_eq_true] at h
      obtain ⟨⟨⟨h1, h2⟩, h3⟩, h4⟩ := h
      exact setR_stmt Z h1 h2 h3 h4
    · cases h
  | .setS i b v => fun C sc X x Z h => by
    unfold chkS at h
    split at h
    · simp only [Bool.and_eq_true, decide_eq_true_eq] at h
      obtain ⟨⟨⟨⟨h1, h2⟩, h3⟩, h4⟩, h5⟩ := h
      exact setS_stmt Z h1 h2 h3 h4 h5
    · cases h
  | .app i a => fun C sc X x Z h => by
    unfold chkS at h
    split at h
    · simp only [Bool.and_eq_true, decide_eq_true_eq] at h
      obtain ⟨⟨⟨⟨h1, h2⟩, rfl⟩, h4⟩, h5⟩ := h
      exact app_stmt Z h1 h2 h4 h5
    · cases h
  | .appR o a => fun C sc X x Z h => by
    unfold chkS at h
    split at h
    · simp only [Bool.and_eq_true, decide_eq_true_eq] at h
      obtain ⟨⟨⟨⟨rfl, h2⟩, h3⟩, h4⟩, h5⟩ := h
      exact appR_stmt Z h2 h3 h4 h5
    · cases h
  | .ext i a => fun C sc X x Z h => by
    unfold chkS at h
    split at h
    · simp only [Bool.and_eq_true, decide_eq_true_eq] at h
      obtain ⟨⟨⟨⟨h1, h2⟩, rfl⟩, h4⟩, h5⟩ := h
      exact ext_stmt Z h1 h2 h4 h5
    · cases h
  | .expr a => fun C sc X x Z h => by
    unfold chkS at h
    split at h
    · rename_i e pos
      simp only [Bool.and_eq_true] at h
      refine (ps_expr (sE T S a _ _ _ _ Z.toGood h.1).1 (sw_no (l := pos.line) h.2 Z.scp)).of fun En σ H ⟨g, env, st, rep, go⟩ => ⟨g, env, st, rep, ?_⟩
      exact (GoS.go (σ := σ) (R := rV C σ env) go).imp fun z H1 ⟨d, st1, g1, e1, rep1, v1, go1⟩ => go1.nx rep1
    · cases h
  | .ret a => fun C sc X x Z h => by
    unfold chkS at h
    split at h
    · rename_i e pos
      refine (ps_ret (sE T S a _ _ _ _ Z.toGood h).1).of fun En σ H ⟨g, env, st, rep, go⟩ => ⟨g, env, st, rep, ?_⟩
      exact (GoS.go (σ := σ) (R := rV C σ env) go).imp fun z H1 ⟨d, st1, g1, e1, rep1, v1, go1⟩ => go1 g1 σ H1 (Ext.refl _ _) rep1 z v1
    · split at h
      · refine ps_retN.of fun En σ H ⟨g, env, st, rep, go⟩ => ?_
        exact (show GoS C g H (.ok (.rt .non) env st) En from go) g σ H (Ext.refl _ _) rep .non .non
      · cases h
    · cases h
  | .if_ c t e => fun C sc X x Z h => by
    unfold chkS at h
    split at h
    · rename_i c' t' e' pos
      simp only [Bool.and_eq_true] at h
      obtain ⟨⟨⟨h1, h2⟩, h3⟩, h4⟩ := h
      refine (ps_if ((sE T S c _ _ _ _ Z.toGood h1).2 h2) (sSs T S t _ _ _ _ Z h3) (sSs T S e _ _ _ _ Z h4)).of fun En σ H ⟨g, env, st, rep, go⟩ => ⟨g, env, st, rep, ?_⟩
      have go : GoS C g H ((evB c env st (ev T c env st)).go env fun x st => (Res.of (truD st x) st).go env fun k st => if k then exs T t env st else exs T e env st) En := go
      have e1 : (evB c env st (ev T c env st)).go env (fun x st => (Res.of (truD st x) st).go env fun k st => if k then exs T t env st else exs T e env st) = ((evB c env st (ev T c env st)).bind fun d st => Res.of (truD st d) st).go env fun k st => if k then exs T t env st else exs T e env st := by
        cases evB c env st (ev T c env st) with
        | ok d st1 => rfl
        | ex y s => rfl
        | no => rfl
      rw [e1] at go
      refine (GoS.go (σ := σ) (R := rI σ env) go).imp fun b H1 ⟨b', st1, g1, e1, rep1, v1, go1⟩ => ?_
      have v1 : b = b' := v1
      subst v1
      cases b with
      | true => exact ⟨g1, env, st1, rep1, go1⟩
      | false => exact ⟨g1, env, st1, rep1, go1⟩
    · cases h
  | .for_ p it b => fun C sc X x Z h => by
    unfold chkS at h
    split at h
    · rename_i tg iter body pos
      simp only [Bool.and_eq_true] at h
      obtain ⟨⟨⟨⟨h1, h2⟩, h3⟩, h4⟩, h5⟩ := h
      have hn : nmIt it = true ∨ ∃ l, p = .tp l := by
        rcases Bool.or_eq_true_iff.mp h2 with z | z
        · exact .inl z
        · cases p with
          | nm i => cases z
          | tp l => exact .inr ⟨l, rfl⟩
      exact for_ok Z (sIt T S it _ _ _ _ _ false Z.toGood h3) (sP (C := C) Z.K Z.calm Z.slots p tg (nmIt it) h1 hn) (sSs T S b _ _ _ _ Z h5) h4
    · cases h
  | .brk => fun C sc X x Z h => by
    unfold chkS at h
    split at h
    · exact ps_break.of fun En σ H ⟨g, env, st, rep, go⟩ => (show GoS C g H (.ok .bk env st) En from go) g σ H (Ext.refl _ _) rep
    · cases h
  | .cnt => fun C sc X x Z h => by
    unfold chkS at h
    split at h
    · exact ps_continue.of fun En σ H ⟨g, env, st, rep, go⟩ => (show GoS C g H (.ok .ct env st) En from go) g σ H (Ext.refl _ _) rep
    · cases h
  | .pass => fun C sc X x Z h => by
    unfold chkS at h
    split at h
    · exact ps_pass.of fun En σ H ⟨g, env, st, rep, go⟩ => (show GoS C g H (.ok .nx env st) En from go) g σ H (Ext.refl _ _) rep
    · cases h
  | .frz i s => fun C sc X x Z h => by
    unfold chkS at h
    refine (sS T S s _ _ _ _ Z h).of fun En σ H ⟨g, env, st, rep, go⟩ => ?_
    have go : GoS C g H (match (ownAt env i).bind DO.toD with
      | some d => ex T s (env.set i (some (.val d))) st
      | none => match valAt env i with
        | some _ => ex T s env st
        | none => .no) En := go
    split at go
    · rename_i d hd
      obtain ⟨o, ho, hd⟩ := Option.bind_eq_some_iff.mp hd
      obtain ⟨g', rep', ex'⟩ := rep.frz (own_at ho) hd
      exact ⟨g', _, st, rep', go.mono ex'⟩
    · split at go
      · exact ⟨g, env, st, rep, go⟩
      · exact go.elim
  | .setA cs o f v => fun C sc X x Z h => by
    unfold chkS at h
    split at h
    · simp only [Bool.and_eq_true, decide_eq_true_eq] at h
      obtain ⟨⟨⟨⟨rfl, h2⟩, h3⟩, h4⟩, h5⟩ := h
      exact setA_stmt Z h2 h3 h4 h5
    · cases h
  | .augA op cs o f v => fun C sc X x Z h => by
    unfold chkS at h
    split at h
    · simp only [Bool.and_eq_true, decide_eq_true_eq] at h
      obtain ⟨⟨⟨⟨rfl, rfl⟩, h2⟩, h3⟩, h4⟩ := h
      exact augA_stmt Z h2 h3 h4
    · cases h
  | .asgM hs j a => fun C sc X x Z h => by
    unfold chkS at h
    split at h
    · rename_i x1 p1 x2 p2 y py pz k pt e pos
      split at h
      · rename_i i1 i2
        simp only [Bool.and_eq_true, decide_eq_true_eq] at h
        obtain ⟨⟨⟨⟨⟨⟨⟨⟨h1, h2⟩, h3⟩, h4⟩, h5⟩, h6⟩, h7⟩, h8⟩, h9⟩ := h
        have q1 : PG X (.Name x1 p1) (gName i1) := pg_name (by rw [Z.hN]; exact Z.nd) (by rw [Z.hN]; exact h1) (Z.loc h2) (.inl (Z.fnt x1))
        have q2 : PG X (.Name x2 p2) (gName i2) := pg_name (by rw [Z.hN]; exact Z.nd) (by rw [Z.hN]; exact h3) (Z.loc h4) (.inl (Z.fnt x2))
        have q3 : PG X (.Name y py) (gName j) := pg_name (by rw [Z.hN]; exact Z.nd) (by rw [Z.hN]; exact h5) (Z.loc h6) (.inl (Z.fnt y))
        refine (ps_asg (sE T S a _ _ _ _ Z.toGood h7).1 (pg_starT Z.calm q1 q2 q3) (sw_no (l := pos.line) h9 Z.scp) (st_no h8 Z.scp) rfl).of fun En σ H ⟨g, env, st, rep, go⟩ => ?_
        refine ⟨g, env, st, rep, ?_⟩
        have go : GoS C g H ((ev T a env st).go env fun d st => match d with
          | .tup l => if decide (2 ≤ l.length) && decide (l.length < 16384) then .ok .nx ((setHs env [i1, i2] (l.take 2)).set j (some (.val (.lst (l.drop 2))))) st else .no
          | _ => .no) En := go
        refine (GoS.go (σ := σ) (R := rV C σ env) go).imp fun v H1 ⟨d, st1, g1, e1, rep1, v1, go1⟩ => ?_
        cases d <;> try exact go1.elim
        rename_i l
        match l, v1, go1 with
        | [], _, go1 => exact go1.elim
        | [_], _, go1 => exact go1.elim
        | d0 :: d1 :: r, v1, go1 =>
          dsimp only at go1
          split at go1
          · rename_i hz
            simp only [Bool.and_eq_true, decide_eq_true_eq] at hz
            cases (show RV C.K g1 H1 v (.tup (d0 :: d1 :: r)) from v1) with
            | tup f rr =>
              cases rr with
              | cons r1 rr =>
                cases rr with
                | cons r2 r3 =>
                  rename_i v0 v1 vs0
                  refine ⟨_, _, _, _, rfl, by rw [Z.K]; exact f.sq, by rw [RVs.length r3]; have := hz.2; simp only [List.length_cons] at this; omega, fun p hp => ?_⟩
                  have gr := Grow.new (g := g1) (o := .lst vs0) hp
                  exact (GoS.mono go1 gr.ext).nx ((((rep1.grow gr).set i1 (r1.ext gr.ext)).set i2 (r2.ext gr.ext)).set j (.lst (.inl ⟨.inr rfl, .inl upd_same⟩) (r3.ext gr.ext)))
          · exact go1.elim
      · cases h
    · cases h
  | .nope => fun C sc X x Z h => ⟨fun _ _ _ _ _ _ ⟨_, _, _, _, go⟩ => go.elim⟩
  | .clr o => fun C sc X x Z h => by
    unfold chkS at h
    split at h
    · simp only [Bool.and_eq_true, decide_eq_true_eq] at h
      obtain ⟨⟨⟨rfl, h2⟩, h3⟩, h4⟩ := h
      exact clr_stmt Z h2 h3 h4
    · cases h
  | .rais c x fl l => fun C sc X s Z h => by
    unfold chkS at h
    split at h
    · simp only [Bool.and_eq_true, decide_eq_true_eq] at h
      obtain ⟨⟨⟨⟨⟨⟨h1, h2⟩, h3⟩, h4⟩, h5⟩, h6⟩, h7⟩ := h
      exact rais_stmt Z h1 h2 h3 h4 h5 h7
    · cases h
  | .tryA b c x all i hs => fun C sc X s Z h => by
    unfold chkS at h
    split at h
    · simp only [Bool.and_eq_true, decide_eq_true_eq] at h
      obtain ⟨⟨⟨⟨⟨⟨h1, h2⟩, h3⟩, h4⟩, h5⟩, h6⟩, h7⟩ := h
      refine try_stmt Z h1 h2 ?_ (fun d hd => ?_) h5 (fun C' X' Z' => sSs T S b _ _ _ _ Z' h6) h7
      · obtain ⟨c', y, fl, k1, k2⟩ := xs_any h3
        simp only [Bool.and_eq_true, decide_eq_true_eq] at k2
        obtain ⟨rfl, rfl⟩ := k2
        exact ⟨fl, k1⟩
      · obtain ⟨c', y, fl, k1, k2⟩ := xs_any (List.all_eq_true.mp h4 d hd)
        cases of_decide_eq_true k2
        exact ⟨y, fl, k1⟩
    · cases h
  | .wh n c b => fun C sc X s Z h => by
    unfold chkS at h
    split at h
    · simp only [Bool.and_eq_true] at h
      obtain ⟨⟨h1, h2⟩, h3⟩ := h
      exact while_stmt Z ((sE T S c _ _ _ _ Z.toGood h1).2 h2) (sSs T S b _ _ _ _ Z h3)
    · cases h
theorem sSs (T : Tb) (S : Sig) : ∀ s : Ss, OkSs T S s
  | .nil => fun C sc X x Z h => by
    unfold chkSs at h
    split at h
    · exact pS_nil
    · cases h
  | .cons s r => fun C sc X x Z h => by
    unfold chkSs at h
    split at h
    · cases h
    · simp only [Bool.and_eq_true] at h
      exact pS_cons (sS T S s _ _ _ _ Z h.1) (sSs T S r _ _ _ _ Z h.2)
end
end L3
end

section
set_option Elab.async false
set_option linter.all false
set_option maxRecDepth 100000
set_option maxHeartbeats 8000000
/-! L3o: a def keeps its promise; calls with keywords; constants. -/
namespace L3
open PySem PySem.Spec PyProof.Rows L2
theorem room65 {k : Nat} {A : Around} (r : Room k A) : A.units + 65 < cLine := by have := r.un; omega

/-! ### the functions so far -/
def mkT (fs : List (List D → Store → Res D)) (cs : List D) (ks : List KC) : Tb := ⟨fun f => fs.getD f (fun _ _ => .no), fun k => cs.getD k .non, fun c => ks.getD c ⟨fs.length, 0, 0, []⟩⟩
section
variable {P : Program} {w : World} {K : PySem.W.Frag} {mg : Str → Option Value} {base : Heap}
def CallAt (P : Program) (w : World) (K : PySem.W.Frag) (mg : Str → Option Value) (base : Heap) (C : Ct) (k : Nat) (m : List D → Store → Res D) (x : Str) : Prop := ∃ (a : Addr) (fd : FuncData) (ps : List Str),
  mg x = some (.ref a) ∧ PySem.W.keepIn K (.ref a) = true ∧ Binds K fd ps [] ∧ FnOk P w K mg base (L2.CX P w) k a fd ps (spD C ps.length m) ∧ (∀ ds st, ds.length ≠ ps.length → m ds st = .no) ∧ a = He.ga K x
def CallKAt (P : Program) (w : World) (K : PySem.W.Frag) (mg : Str → Option Value) (base : Heap) (C : Ct) (k : Nat) (m : List D → Store → Res D) (x : Str) (ks : List Str) (c : KC) : Prop := ∃ (a : Addr) (fd : FuncData) (ps : List Str) (gU : List Value → List Value → List Value) (gV : List V → List V → List V),
  mg x = some (.ref a) ∧ PySem.W.keepIn K (.ref a) = true ∧ KBn K fd ps c.n ks gU gV ∧ FnOk P w K mg base (L2.CX P w) k a fd ps (spD C ps.length m) ∧ (∀ ds st, ds.length ≠ ps.length → m ds st = .no) ∧ c.nk = ks.length ∧
  ∀ (g : G) (H : Hp) (vs zs : List V) (ds es as : List D), RVs K g H vs ds → RVs K g H zs es → permK c ds es = some as → RVs K g H (gV vs zs) as
/-- a dict of the module by texts -/
def KdAt (w : World) (K : PySem.W.Frag) (mg : Str → Option Value) (x : Str) (ks : List Str) : Prop := ∃ d es n, mg x = some (.ref d) ∧ KDict K w d es n ∧ ∀ z, ∃ r, PySem.W.nsIn K d z = some r ∧ r.isSome = decide (z ∈ ks)
def AttrAt (K : PySem.W.Frag) (C : Ct) (c : Nat) (f : Str) : Prop := Cls K (C.cls c) ∧ NoAttr K (C.cls c) f
def MethAt (P : Program) (w : World) (K : PySem.W.Frag) (mg : Str → Option Value) (base : Heap) (C : Ct) (k : Nat) (F : List D → Store → Res D) (c : Nat) (m : Str) : Prop := ∃ (a : Addr) (fd : FuncData) (ps : List Str), Cls K (C.cls c) ∧ Meth K (C.cls c) m a ∧ Binds K fd ps [] ∧
  FnOk P w K mg base (L2.CX P w) k a fd ps (spD C ps.length F) ∧ ∀ ds st, ds.length ≠ ps.length → F ds st = .no
def MakeAt (P : Program) (w : World) (K : PySem.W.Frag) (mg : Str → Option Value) (base : Heap) (C : Ct) (k : Nat) (F : List D → Store → Res D) (c : Nat) (x : Str) : Prop := ∃ (a : Addr) (fd : FuncData) (ps : List Str) (j : Nat), j + 1 ≤ k ∧ Mk K (C.cls c) a ∧ mg x = some (.ref (C.cls c)) ∧ Binds K fd ps [] ∧
  FnOk P w K mg base (L2.CX P w) j a fd ps (spD C ps.length F) ∧ ∀ ds st, ds.length ≠ ps.length → F ds st = .no
def TvAt (w : World) (K : PySem.W.Frag) (mg : Str → Option Value) (x : Str) (t : List (Str × D)) : Prop := ∃ d es n, mg x = some (.ref d) ∧ KDict K w d es n ∧ ∀ z, match t.lookup z with
  | some e => ∃ u v, PySem.W.nsIn K d z = some (some u) ∧ RelV v u ∧ ∀ g H, RV K g H v e
  | none => PySem.W.nsIn K d z = some none
def ExcAt (P : Program) (w : World) (K : PySem.W.Frag) (mg : Str → Option Value) (base : Heap) (C : Ct) (k : Nat) (c : Nat) (x : Str) (fl : List Str) : Prop := ∃ D : Addr, C.xc c = .ref D ∧ mg x = some (.ref D) ∧ XcB K D ∧ (∀ f ∈ fl, PySem.W.findIn K (.ref D) f = some none) ∧
  (fl ≠ [] → ∃ (fI : Addr) (fd : FuncData) (j : Nat) (ps : List Str), j + 1 ≤ k ∧ PySem.W.findIn K (.ref D) "__init__" = some (some (.ref fI)) ∧ PySem.W.typeIn K (.ref fI) = some (.type "function") ∧ Binds K fd ps [] ∧
    FnOk P w K mg base (L2.CX P w) j fI fd ps (spI D fl))
theorem ExcAt.up {P : Program} {w : World} {K : PySem.W.Frag} {mg : Str → Option Value} {base : Heap} {C : Ct} {k c : Nat} {x : Str} {fl : List Str} (h : ExcAt P w K mg base C k c x fl) {j : Nat} (hj : k ≤ j) : ExcAt P w K mg base C j c x fl := by
  obtain ⟨D, h1, h2, h3, h4, h5⟩ := h
  refine ⟨D, h1, h2, h3, h4, fun hn => ?_⟩
  obtain ⟨fI, fd, i, ps, q1, q2⟩ := h5 hn
  exact ⟨fI, fd, i, ps, Nat.le_trans q1 hj, q2⟩
def IsiAt (K : PySem.W.Frag) (mg : Str → Option Value) (C : Ct) (c : Nat) (tup : Bool) (l : List (Bool × Str)) (b : Bool) : Prop := ∃ (cs : List V) (us : List Value), (∀ (j : Nat) p, l[j]? = some p → ∃ v u, cs[j]? = some v ∧ us[j]? = some u ∧ ClsAt mg p v u) ∧ cs.length = l.length ∧ us.length = l.length ∧
  (if tup then PySem.W.kitAny K (C.xc c) us = some b else ∃ u, us = [u] ∧ PySem.W.kitOne K (C.xc c) u = some b)
structure Top (P : Program) (w : World) (K : PySem.W.Frag) (mg : Str → Option Value) (base : Heap) (C : Ct) (fs : List (List D → Store → Res D)) (cs : List D) (ks : List KC) (fn : List (Option Str)) (cn : List Str) (kc kd : List (Str × List Str)) (cl : ClI) (k : Nat) : Prop where
  hK : C.K = K
  blt : ∀ x ∈ bltNames, mg x = none
  lf : fn.length = fs.length
  lk : kc.length = ks.length
  fn : ∀ f x, fn[f]? = some (some x) → CallAt P w K mg base C k ((mkT fs cs ks).fn f) x
  con : ∀ k x, cn[k]? = some x → ∃ u v, mg x = some u ∧ RelV v u ∧ ∀ g H, RV K g H v ((mkT fs cs ks).con k)
  kc : ∀ c x l, kc[c]? = some (x, l) → ((mkT fs cs ks).kp c).f < fs.length ∧ CallKAt P w K mg base C k ((mkT fs cs ks).fn ((mkT fs cs ks).kp c).f) x l ((mkT fs cs ks).kp c)
  kd : ∀ x l, (x, l) ∈ kd → KdAt w K mg x l
  ca : ∀ c f, (c, f) ∈ cl.ca → AttrAt K C c f
  cm : ∀ c m f, (c, m, f) ∈ cl.cm → f < fs.length ∧ MethAt P w K mg base C k ((mkT fs cs ks).fn f) c m
  ck : ∀ c x f, (c, x, f) ∈ cl.ck → f < fs.length ∧ MakeAt P w K mg base C k ((mkT fs cs ks).fn f) c x
  tv : ∀ x t, (x, t) ∈ cl.tv → TvAt w K mg x t
  xs : ∀ c x fl, (c, x, fl) ∈ cl.xs → ExcAt P w K mg base C k c x fl
  xm : ∀ c x fl d y gl, (c, x, fl) ∈ cl.xs → (d, y, gl) ∈ cl.xs → PySem.W.exmOne K (C.xc c) (C.xc d) = some (decide (c = d))
  xi : ∀ c tup l b, (c, tup, l, b) ∈ cl.xi → IsiAt K mg C c tup l b
  co : ∀ c n, (c, n) ∈ cl.co → InsIs K (C.cls c) n
variable {C : Ct} {fs : List (List D → Store → Res D)} {cs : List D} {ks : List KC} {fn : List (Option Str)} {cn : List Str} {kc kd : List (Str × List Str)} {cl : ClI} {k : Nat}
theorem CallAt.up {m : List D → Store → Res D} {x : Str} (h : CallAt P w K mg base C k m x) {j : Nat} (hj : k ≤ j) : CallAt P w K mg base C j m x := by
  obtain ⟨a, fd, ps, h1, h2, h3, h4, h5⟩ := h
  exact ⟨a, fd, ps, h1, h2, h3, h4.mono hj, h5⟩
theorem CallKAt.up {m : List D → Store → Res D} {x : Str} {l : List Str} {c : KC} (h : CallKAt P w K mg base C k m x l c) {j : Nat} (hj : k ≤ j) : CallKAt P w K mg base C j m x l c := by
  obtain ⟨a, fd, ps, gU, gV, h1, h2, h3, h4, h5⟩ := h
  exact ⟨a, fd, ps, gU, gV, h1, h2, h3, h4.mono hj, h5⟩
theorem MethAt.up {F : List D → Store → Res D} {c : Nat} {m : Str} (h : MethAt P w K mg base C k F c m) {j : Nat} (hj : k ≤ j) : MethAt P w K mg base C j F c m := by
  obtain ⟨a, fd, ps, h1, h2, h3, h4, h5⟩ := h
  exact ⟨a, fd, ps, h1, h2, h3, h4.mono hj, h5⟩
theorem MakeAt.up {F : List D → Store → Res D} {c : Nat} {x : Str} (h : MakeAt P w K mg base C k F c x) {j : Nat} (hj : k ≤ j) : MakeAt P w K mg base C j F c x := by
  obtain ⟨a, fd, ps, i, h1, h2⟩ := h
  exact ⟨a, fd, ps, i, Nat.le_trans h1 hj, h2⟩
theorem fn_app {F : List D → Store → Res D} {f : Nat} (h : f < fs.length) : (mkT (fs ++ [F]) cs ks).fn f = (mkT fs cs ks).fn f := by
  show (fs ++ [F]).getD _ _ = fs.getD _ _
  rw [List.getD_eq_getElem?_getD, List.getD_eq_getElem?_getD, List.getElem?_append_left h]
/-- one function more -/
theorem Top.add (Z : Top P w K mg base C fs cs ks fn cn kc kd cl k) {F : List D → Store → Res D} {o : Option Str} (h : ∀ x, o = some x → CallAt P w K mg base C (k + 1) F x) : Top P w K mg base C (fs ++ [F]) cs ks (fn ++ [o]) cn kc kd cl (k + 1) where
  hK := Z.hK
  blt := Z.blt
  kd := Z.kd
  lf := by rw [List.length_append, List.length_append, Z.lf]; rfl
  lk := Z.lk
  fn := fun f x hf => by
    by_cases hl : f < fn.length
    · rw [List.getElem?_append_left hl] at hf
      have := (Z.fn f x hf).up (Nat.le_succ k)
      have e : (mkT (fs ++ [F]) cs ks).fn f = (mkT fs cs ks).fn f := by
        show (fs ++ [F]).getD f _ = fs.getD f _
        rw [List.getD_eq_getElem?_getD, List.getD_eq_getElem?_getD, List.getElem?_append_left (by rw [← Z.lf]; exact hl)]
      rw [e]
      exact this
    · rw [List.getElem?_append_right (by omega)] at hf
      have e : f = fn.length := by
        by_cases z : f - fn.length = 0
        · omega
        · rw [List.getElem?_eq_none (by simp; omega)] at hf; cases hf
      subst e
      simp at hf
      have e : (mkT (fs ++ [F]) cs ks).fn fn.length = F := by
        show (fs ++ [F]).getD fn.length _ = F
        rw [List.getD_eq_getElem?_getD, List.getElem?_append_right (by rw [Z.lf]; exact Nat.le_refl _), Z.lf]
        simp
      rw [e]
      exact h x hf
  con := Z.con
  ca := Z.ca
  tv := Z.tv
  xs := fun c x fl h => (Z.xs c x fl h).up (Nat.le_succ k)
  xm := Z.xm
  xi := Z.xi
  co := Z.co
  cm := fun c m f h => by
    obtain ⟨h1, h2⟩ := Z.cm c m f h
    rw [fn_app h1]
    exact ⟨by rw [List.length_append]; omega, h2.up (Nat.le_succ k)⟩
  ck := fun c x f h => by
    obtain ⟨h1, h2⟩ := Z.ck c x f h
    rw [fn_app h1]
    exact ⟨by rw [List.length_append]; omega, h2.up (Nat.le_succ k)⟩
  kc := fun c x l hc => by
    have hl : c < ks.length := by
      rw [← Z.lk]
      exact (List.getElem?_eq_some_iff.mp hc).1
    have e0 : (mkT (fs ++ [F]) cs ks).kp c = (mkT fs cs ks).kp c := by
      show ks.getD c _ = ks.getD c _
      rw [List.getD_eq_getElem?_getD, List.getD_eq_getElem?_getD, List.getElem?_eq_getElem hl]
      rfl
    obtain ⟨h1, h2⟩ := Z.kc c x l hc
    rw [e0]
    have e : (mkT (fs ++ [F]) cs ks).fn ((mkT fs cs ks).kp c).f = (mkT fs cs ks).fn ((mkT fs cs ks).kp c).f := by
      show (fs ++ [F]).getD _ _ = fs.getD _ _
      rw [List.getD_eq_getElem?_getD, List.getD_eq_getElem?_getD, List.getElem?_append_left h1]
    rw [e]
    exact ⟨by rw [List.length_append]; omega, h2.up (Nat.le_succ k)⟩
/-- one call's shape more -/
theorem Top.addK (Z : Top P w K mg base C fs cs ks fn cn kc kd cl k) {c : KC} {x : Str} {l : List Str} (hf : c.f < fs.length) (h : CallKAt P w K mg base C k (fs.getD c.f (fun _ _ => .no)) x l c) : Top P w K mg base C fs cs (ks ++ [c]) fn cn (kc ++ [(x, l)]) kd cl k where
  hK := Z.hK
  blt := Z.blt
  kd := Z.kd
  lf := Z.lf
  lk := by rw [List.length_append, List.length_append, Z.lk]; rfl
  fn := Z.fn
  con := Z.con
  ca := Z.ca
  cm := Z.cm
  ck := Z.ck
  tv := Z.tv
  xs := Z.xs
  xm := Z.xm
  xi := Z.xi
  co := Z.co
  kc := fun d y m hd => by
    by_cases hl : d < kc.length
    · rw [List.getElem?_append_left hl] at hd
      have e0 : (mkT fs cs (ks ++ [c])).kp d = (mkT fs cs ks).kp d := by
        show (ks ++ [c]).getD d _ = ks.getD d _
        rw [List.getD_eq_getElem?_getD, List.getD_eq_getElem?_getD, List.getElem?_append_left (by rw [← Z.lk]; exact hl)]
      rw [e0]
      exact Z.kc d y m hd
    · rw [List.getElem?_append_right (by omega)] at hd
      have e : d = kc.length := by
        by_cases z : d - kc.length = 0
        · omega
        · rw [List.getElem?_eq_none (by simp; omega)] at hd; cases hd
      subst e
      simp at hd
      obtain ⟨rfl, rfl⟩ := hd
      have e0 : (mkT fs cs (ks ++ [c])).kp kc.length = c := by
        show (ks ++ [c]).getD kc.length _ = c
        rw [List.getD_eq_getElem?_getD, List.getElem?_append_right (by rw [Z.lk]; exact Nat.le_refl _), Z.lk]
        simp
      rw [e0]
      exact ⟨hf, h⟩
/-- one method more -/
theorem Top.addM (Z : Top P w K mg base C fs cs ks fn cn kc kd cl k) {c f : Nat} {m : Str} (hf : f < fs.length) (h : MethAt P w K mg base C k (fs.getD f (fun _ _ => .no)) c m) : Top P w K mg base C fs cs ks fn cn kc kd ⟨cl.ca, cl.cm ++ [(c, m, f)], cl.ck, cl.tv, cl.xs, cl.xi, cl.co⟩ k where
  hK := Z.hK
  blt := Z.blt
  kd := Z.kd
  lf := Z.lf
  lk := Z.lk
  fn := Z.fn
  con := Z.con
  kc := Z.kc
  ca := Z.ca
  ck := Z.ck
  tv := Z.tv
  xs := Z.xs
  xm := Z.xm
  xi := Z.xi
  co := Z.co
  cm := fun c' m' f' h' => by
    rcases List.mem_append.mp h' with z | z
    · exact Z.cm c' m' f' z
    · cases List.mem_singleton.mp z
      exact ⟨hf, h⟩
/-- one class more that is made -/
theorem Top.addC (Z : Top P w K mg base C fs cs ks fn cn kc kd cl k) {c f : Nat} {x : Str} (hf : f < fs.length) (h : MakeAt P w K mg base C (k + 1) (fs.getD f (fun _ _ => .no)) c x) : Top P w K mg base C fs cs ks fn cn kc kd ⟨cl.ca, cl.cm, cl.ck ++ [(c, x, f)], cl.tv, cl.xs, cl.xi, cl.co⟩ (k + 1) where
  hK := Z.hK
  blt := Z.blt
  kd := Z.kd
  lf := Z.lf
  lk := Z.lk
  fn := fun f x h => (Z.fn f x h).up (Nat.le_succ k)
  con := Z.con
  kc := fun c x l h => ⟨(Z.kc c x l h).1, (Z.kc c x l h).2.up (Nat.le_succ k)⟩
  ca := Z.ca
  cm := fun c m f h => ⟨(Z.cm c m f h).1, (Z.cm c m f h).2.up (Nat.le_succ k)⟩
  tv := Z.tv
  xs := fun c x fl h => (Z.xs c x fl h).up (Nat.le_succ k)
  xm := Z.xm
  xi := Z.xi
  co := Z.co
  ck := fun c' x' f' h' => by
    rcases List.mem_append.mp h' with z | z
    · exact ⟨(Z.ck c' x' f' z).1, (Z.ck c' x' f' z).2.up (Nat.le_succ k)⟩
    · cases List.mem_singleton.mp z
      exact ⟨hf, h⟩
theorem runF_len {T : Tb} {n many : Nat} {b : Ss} (ds : List D) (st : Store) (h : ds.length ≠ n) : runF T n many b ds st = .no := by
  unfold runF
  rw [if_neg h]
/-- a def keeps its promise -/
theorem def_ok {x qual : Str} {params : Arguments} {body : List Stmt} {scope : Scope} {dvs : List V} {kws : List (Str × V)} {f : Addr} {fd : FuncData} {N ps : List Str} {b : Ss} (Z : Top P w K mg base C fs cs ks fn cn kc kd cl k) (F : FunD K x qual params body scope dvs kws f fd)
    (hsc : C8.scC N ps scope = true) (hb : chkSs ⟨N, fn, cn, kc, kd, cl⟩ scope b body = true) : FnOk P w K mg base (L2.CX P w) (k + 1) f fd ps (spD C ps.length (runF (mkT fs cs ks) ps.length N.length b)) := by
  have Sc := C8.fnScope_by hsc
  have hK := Z.hK
  refine F.ok Sc (fun vs H Q E h => h.1) (fun cdv A outer s H vs Q E hr h => ?_)
  obtain ⟨hl, g, args, st, rv, rs, fz, hm⟩ := h
  have tk : Takes (cxOf (L2.CX P w) P w K mg base N qual scope f cdv A outer s H E) (fun cls d _ H => E cls d H) := takes_of rfl rfl rfl rfl
  have Zs : GoodS { C with g0 := g, H0 := H, pr := [], W := fun cls d _ H => E cls d H } (mkT fs cs ks) ⟨N, fn, cn, kc, kd, cl⟩ scope (cxOf (L2.CX P w) P w K mg base N qual scope f cdv A outer s H E) := {
    hN := rfl
    nd := Sc.nd
    scp := rfl
    calm := rfl
    K := hK.symm
    tk := tk
    hu := room65 hr
    blt := Z.blt
    kd := Z.kd
    fn := fun f x hf => by
      obtain ⟨a, fd, ps, h1, h2, h3, h4, h5⟩ := Z.fn f x hf
      exact ⟨a, fd, k, ps, h1, h2, h3, hr, h4, h5⟩
    con := fun j x hj => by
      obtain ⟨u, v, h1, h2, h3⟩ := Z.con j x hj
      exact ⟨u, v, h1, h2, fun g H => by rw [show ({ C with g0 := g, H0 := H, pr := [], W := fun cls d _ H => E cls d H } : Ct).K = K from hK]; exact h3 g H⟩
    ca := Z.ca
    cm := fun c m f h => by
      obtain ⟨_, a, fd, ps, h1, h2, h3, h4, h5⟩ := Z.cm c m f h
      exact ⟨a, fd, k, ps, h1, h2, h3, hr, h4, h5⟩
    ck := fun c x f h => by
      obtain ⟨_, a, fd, ps, j, h0, h1, h2, h3, h4, h5⟩ := Z.ck c x f h
      exact ⟨a, fd, j, ps, h1, h2, h3, hr.mono h0, h4, h5⟩
    tv := Z.tv
    xs := fun c x fl h => by
      obtain ⟨D, h1, h2, h3, h4, h5⟩ := Z.xs c x fl h
      refine ⟨D, h1, h2, h3, h4, fun hn => ?_⟩
      obtain ⟨fI, fd, j, ps, q0, q1, q2, q3, q4⟩ := h5 hn
      exact ⟨fI, fd, j, ps, q1, q2, q3, hr.mono q0, q4⟩
    xm := Z.xm
    xi := Z.xi
    co := Z.co
    kc := fun c x l hc => by
      obtain ⟨_, a, fd, ps, gU, gV, h1, h2, h3, h4, h5, h6, h7⟩ := Z.kc c x l hc
      exact ⟨a, fd, k, ps, gU, gV, h1, h2, h3, hr, h4, h5, h6, fun g H vs zs ds es as => by rw [show ({ C with g0 := g, H0 := H, pr := [], W := fun cls d _ H => E cls d H } : Ct).K = K from hK]; exact h7 g H vs zs ds es as⟩
    fnt := fun _ => rfl
    kind := Sc.kind
    po := passes_of rfl
    stk := rfl
    frm := rfl }
  refine ⟨_, sSs (mkT fs cs ks) ⟨N, fn, cn, kc, kd, cl⟩ b _ _ _ _ Zs hb, ?_⟩
  have hn : args.length = ps.length := by rw [← rv.length]; exact hl
  have hN : ps.length ≤ N.length := by
    have := congrArg List.length Sc.pre
    rw [List.length_take] at this
    omega
  refine ⟨g, args.map (fun d => some (.val d)) ++ List.replicate (N.length - ps.length) none, st, ⟨?_, fun i d h => ?_, fun i o h => ?_, fun i j o o' a h => ?_, rs, fz, Frm.refl _ _, fun q hq => (by cases hq), List.nodup_nil⟩, ?_⟩
  · unfold L2.start
    simp [hn, hl]
  · unfold L2.start
    by_cases hi : i < args.length
    · rw [List.getElem?_append_left (by rw [List.length_map]; exact hi), List.getElem?_map] at h
      obtain ⟨d', h1, h2⟩ := Option.map_eq_some_iff.mp h
      cases h2
      obtain ⟨v, h3, h4⟩ := rv.get h1
      exact ⟨v, by rw [List.getElem?_append_left (by rw [List.length_map, rv.length]; exact hi), List.getElem?_map, h3]; rfl, h4⟩
    · rw [List.getElem?_append_right (by rw [List.length_map]; omega)] at h
      obtain ⟨_, h2⟩ := List.getElem?_eq_some_iff.mp h
      rw [List.getElem_replicate] at h2
      cases h2
  · exfalso
    by_cases hi : i < args.length
    · rw [List.getElem?_append_left (by rw [List.length_map]; exact hi), List.getElem?_map] at h
      obtain ⟨d', h1, h2⟩ := Option.map_eq_some_iff.mp h
      cases h2
    · rw [List.getElem?_append_right (by rw [List.length_map]; omega)] at h
      obtain ⟨_, h2⟩ := List.getElem?_eq_some_iff.mp h
      rw [List.getElem_replicate] at h2
      cases h2
  · exfalso
    by_cases hi : i < args.length
    · rw [List.getElem?_append_left (by rw [List.length_map]; exact hi), List.getElem?_map] at h
      obtain ⟨d', h1, h2⟩ := Option.map_eq_some_iff.mp h
      cases h2
    · rw [List.getElem?_append_right (by rw [List.length_map]; omega)] at h
      obtain ⟨_, h2⟩ := List.getElem?_eq_some_iff.mp h
      rw [List.getElem_replicate] at h2
      cases h2
  · unfold runF at hm
    rw [if_pos hn] at hm
    show GoS _ g H (exs (mkT fs cs ks) b _ st) _
    cases he : exs (mkT fs cs ks) b (args.map (fun d => some (.val d)) ++ List.replicate (N.length - ps.length) none) st with
    | no => rw [he] at hm; exact hm
    | ex e env' st' =>
      rw [he] at hm
      exact fun g' σ' H' cls dO _ rep' rx => hm g' H' cls dO rep'.fr rep'.fz rep'.sto rx
    | ok fl env' st' =>
      rw [he] at hm
      cases fl with
      | nx => exact fun g' σ' H' _ rep' => hm g' H' .non rep'.fr rep'.fz rep'.sto .non
      | bk => exact hm.elim
      | ct => exact hm.elim
      | rt d => exact fun g' σ' H' _ rep' v r => hm g' H' v rep'.fr rep'.fz rep'.sto r
end

/-! ### calls with keywords, or with defaults left out -/
/-- the parameters' order: a given value by its place, or one of the defaults -/
def gP {α : Type} : List (Sum Nat Nat) → List α → List α → List α → List α
  | [], _, _, _ => []
  | .inl i :: r, us, mv, ws => (match (us ++ ws)[i]? with
    | some x => x :: gP r us mv ws
    | none => gP r us mv ws)
  | .inr j :: r, us, mv, ws => (match mv[j]? with
    | some x => x :: gP r us mv ws
    | none => gP r us mv ws)
def pD (md : List D) : List (Sum Nat Nat) → List (Sum Nat D)
  | [] => []
  | .inl i :: r => .inl i :: pD md r
  | .inr j :: r => .inr (md.getD j .non) :: pD md r
theorem vals_app : ∀ {a c : List V} {b d : List Value}, Vals a b → Vals c d → Vals (a ++ c) (b ++ d)
  | _, _, _, _, .nil, h => h
  | _, _, _, _, .cons r t, h => .cons r (vals_app t h)
theorem vals_at : ∀ {a : List V} {b : List Value} (i : Nat), Vals a b → (∃ v u, a[i]? = some v ∧ b[i]? = some u ∧ RelV v u) ∨ (a[i]? = none ∧ b[i]? = none)
  | _, _, _, .nil => .inr ⟨by simp, by simp⟩
  | _, _, 0, .cons r t => .inl ⟨_, _, rfl, rfl, r⟩
  | _, _, i + 1, .cons r t => by
    rcases vals_at i t with ⟨v, u, h1, h2, h3⟩ | ⟨h1, h2⟩
    · exact .inl ⟨v, u, by simpa using h1, by simpa using h2, h3⟩
    · exact .inr ⟨by simpa using h1, by simpa using h2⟩
theorem gP_vals {vs mv zs : List V} {us mu ws : List Value} (h1 : Vals vs us) (h2 : Vals mv mu) (h3 : Vals zs ws) : ∀ p : List (Sum Nat Nat), Vals (gP p vs mv zs) (gP p us mu ws)
  | [] => .nil
  | .inl i :: r => by
    unfold gP
    rcases vals_at i (vals_app h1 h3) with ⟨v, u, e1, e2, e3⟩ | ⟨e1, e2⟩
    · rw [e1, e2]; exact .cons e3 (gP_vals h1 h2 h3 r)
    · rw [e1, e2]; exact gP_vals h1 h2 h3 r
  | .inr j :: r => by
    unfold gP
    rcases vals_at j h2 with ⟨v, u, e1, e2, e3⟩ | ⟨e1, e2⟩
    · rw [e1, e2]; exact .cons e3 (gP_vals h1 h2 h3 r)
    · rw [e1, e2]; exact gP_vals h1 h2 h3 r
theorem gP_rv {K : PySem.W.Frag} {g : G} {H : Hp} {vs mv zs : List V} {ds md es : List D} (h1 : RVs K g H vs ds) (h2 : RVs K g H mv md) (h3 : RVs K g H zs es) : ∀ (p : List (Sum Nat Nat)) (as : List D), (p.all fun s => match s with | .inl _ => true | .inr j => decide (j < md.length)) = true → permD (ds ++ es) (pD md p) = some as → RVs K g H (gP p vs mv zs) as
  | [], as, _, h => by
    cases h
    exact .nil
  | .inl i :: r, as, hp, h => by
    have hp2 : (r.all fun s => match s with | .inl _ => true | .inr j => decide (j < md.length)) = true := (Bool.and_eq_true_iff.mp hp).2
    unfold pD permD at h
    split at h
    · rename_i d l e1 e2
      cases h
      obtain ⟨v, hv, rv⟩ := (h1.append h3).get e1
      unfold gP
      rw [hv]
      exact .cons rv (gP_rv h1 h2 h3 r _ hp2 e2)
    · cases h
  | .inr j :: r, as, hp, h => by
    obtain ⟨hp1, hp2⟩ := Bool.and_eq_true_iff.mp hp
    unfold pD permD at h
    obtain ⟨l, e2, rfl⟩ := Option.map_eq_some_iff.mp h
    have hj : j < md.length := of_decide_eq_true hp1
    have ej : md[j]? = some (md.getD j .non) := by rw [List.getD_eq_getElem?_getD, List.getElem?_eq_getElem hj]; rfl
    obtain ⟨v, hv, rv⟩ := h2.get ej
    unfold gP
    rw [hv]
    exact .cons rv (gP_rv h1 h2 h3 r _ hp2 e2)
section
variable {K : PySem.W.Frag} {x qual : Str} {params : Arguments} {body : List Stmt} {scope : Scope} {kws : List (Str × V)} {f : Addr} {fd : FuncData} {ps : List Str}
/-- no positional defaults: every value given -/
theorem FunD.kAll {dvs : List V} (F : FunD K x qual params body scope dvs kws f fd) (hd : dvs = []) (n : Nat) (ks : List Str) (p : List (Sum Nat Nat))
    (h : ∀ (kV doc pm : Value) (an : Option Addr) (cdv ct : Value) (us ws : List Value), us.length = n → ws.length = ks.length → bindArgs (PySem.W.fnOf x qual params body scope .none kV doc pm an cdv ct) ⟨us, ks.zip ws⟩ = pure (ps.zip (gP p us [] ws))) :
    KBn K fd ps n ks (fun us ws => gP p us [] ws) (fun vs zs => gP p vs [] zs) := by
  obtain ⟨oc, od, dV, kV, doc, pm, an, cdv, ct, osl, rfl, lk, hcd, hD, hK⟩ := F.ex
  rcases hD with ⟨_, rfl⟩ | ⟨e, _⟩
  · exact ⟨fun s us ws X l1 l2 => BindsTo.of_eq (h kV doc pm an cdv ct us ws l1 l2), fun r1 r2 => gP_vals r1 .nil r2 p⟩
  · exact absurd hd e
/-- no positional defaults: keyword-only ones left out -/
theorem FunD.kSome {dvs : List V} (F : FunD K x qual params body scope dvs kws f fd) (hd : dvs = []) (n : Nat) (ks : List Str) (ms : List (Str × V)) (p : List (Sum Nat Nat)) (hms : ∀ q ∈ ms, q ∈ kws) (hk : kws ≠ [])
    (h : ∀ (Da : Addr) (doc pm : Value) (an : Option Addr) (cdv ct : Value) (us mv ws : List Value), us.length = n → mv.length = ms.length → ws.length = ks.length →
      KwChain Da ((ms.map (·.1)).zip mv) (bindArgs (PySem.W.fnOf x qual params body scope .none (.ref Da) doc pm an cdv ct) ⟨us, ks.zip ws⟩) (ps.zip (gP p us mv ws))) :
    ∃ mv : List Value, KBn K fd ps n ks (fun us ws => gP p us mv ws) (fun vs zs => gP p vs (ms.map (·.2)) zs) := by
  obtain ⟨oc, od, dV, kV, doc, pm, an, cdv, ct, osl, rfl, lk, hcd, hD, hK⟩ := F.ex
  rcases hD with ⟨_, rfl⟩ | ⟨e, _⟩
  · rcases hK with e | ⟨Da, rfl, hq⟩
    · exact absurd e hk
    · obtain ⟨mv, hl, rk, hks⟩ := kwd_vals (ms := ms) fun q hm => hq q (hms q hm)
      refine ⟨mv, ⟨fun s us ws X l1 l2 => BindsTo.of_looks fun M => KwChain.looks X hks (h Da doc pm an cdv ct us mv ws l1 hl l2), fun r1 r2 => gP_vals r1 rk r2 p⟩⟩
  · exact absurd hd e
end
section
variable {P : Program} {w : World} {K : PySem.W.Frag} {mg : Str → Option Value} {base : Heap} {C : Ct} {k : Nat}
theorem callK_of {a : Addr} {fd : FuncData} {ps : List Str} {m : List D → Store → Res D} {x : Str} {n : Nat} {ks : List Str} {fi : Nat} {p : List (Sum Nat Nat)} {md : List D} {mv : List V} {mu : List Value} (h1 : mg x = some (.ref a)) (h2 : PySem.W.keepIn K (.ref a) = true)
    (h3 : KBn K fd ps n ks (fun us ws => gP p us mu ws) (fun vs zs => gP p vs mv zs)) (F : FnOk P w K mg base (L2.CX P w) k a fd ps (spD C ps.length m)) (hm : ∀ ds st, ds.length ≠ ps.length → m ds st = .no)
    (hp : (p.all fun s => match s with | .inl _ => true | .inr j => decide (j < md.length)) = true) (hd : ∀ g H, RVs K g H mv md) : CallKAt P w K mg base C k m x ks ⟨fi, n, ks.length, pD md p⟩ := by
  refine ⟨a, fd, ps, _, _, h1, h2, h3, F, hm, rfl, fun g H vs zs ds es as r1 r2 q => ?_⟩
  unfold permK at q
  split at q
  · exact gP_rv r1 (hd g H) r2 p as hp q
  · cases q
end

/-! ### constants -/
mutual
def conB (K : PySem.W.Frag) : Nat → D → Value → Bool
  | 0, _, _ => false
  | n + 1, d, u => match d with
    | .non => (match u with | .none => true | _ => false)
    | .bl b => (match u with | .bool c => b == c | _ => false)
    | .int i => (match u with | .int j _ => decide (i = j) | _ => false)
    | .str s => (match u with | .str t _ => decide (s = t) | _ => false)
    | .tup ds => (match u with
      | .ref a => (match K.lookup a with
        | some ⟨.type c, none, .seq its _, _⟩ => decide (c = "tuple") && decide (its.size ≤ sizeLine) && conBs K n ds its.toList
        | _ => false)
      | _ => false)
    | .lst ds => (match u with
      | .ref a => (match K.lookup a with
        | some ⟨.type c, none, .seq its _, _⟩ => decide (c = "list") && decide (its.size ≤ sizeLine) && conBs K n ds its.toList
        | _ => false)
      | _ => false)
    | _ => false
def conBs (K : PySem.W.Frag) : Nat → List D → List Value → Bool
  | 0, _, _ => false
  | n + 1, ds, us => match ds with
    | [] => us.isEmpty
    | d :: ds => (match us with
      | u :: us => conB K n d u && conBs K n ds us
      | [] => false)
end
mutual
theorem con_ok {K : PySem.W.Frag} : ∀ (n : Nat) (d : D) (u : Value), conB K n d u = true → ∃ v, RelV v u ∧ ∀ g H, RV K g H v d
  | 0, _, _, h => by unfold conB at h; cases h
  | n + 1, d, u, h => by
    unfold conB at h
    split at h
    · split at h
      · exact ⟨.non, rfl, fun _ _ => .non⟩
      · cases h
    · split at h
      · cases eq_of_beq h
        exact ⟨.bl _, rfl, fun _ _ => .bl _⟩
      · cases h
    · split at h
      · cases of_decide_eq_true h
        exact ⟨.int _, ⟨_, rfl⟩, fun _ _ => .int _⟩
      · cases h
    · split at h
      · cases of_decide_eq_true h
        exact ⟨.str _, ⟨_, rfl⟩, fun _ _ => .str _⟩
      · cases h
    · split at h
      · rename_i a
        split at h
        · rename_i c its m sl e
          simp only [Bool.and_eq_true, decide_eq_true_eq] at h
          obtain ⟨⟨rfl, h2⟩, h3⟩ := h
          obtain ⟨vs, r1, r2⟩ := cons_ok n _ _ h3
          exact ⟨.ref a, rfl, fun g H => .tup (.inr ⟨_, its, m, e, rfl, rfl, rfl, h2, r1⟩) (r2 g H)⟩
        · cases h
      · cases h
    · split at h
      · rename_i a
        split at h
        · rename_i c its m sl e
          simp only [Bool.and_eq_true, decide_eq_true_eq] at h
          obtain ⟨⟨rfl, h2⟩, h3⟩ := h
          obtain ⟨vs, r1, r2⟩ := cons_ok n _ _ h3
          exact ⟨.ref a, rfl, fun g H => .lst (.inr ⟨_, its, m, e, rfl, rfl, rfl, h2, r1⟩) (r2 g H)⟩
        · cases h
      · cases h
    · cases h
theorem cons_ok {K : PySem.W.Frag} : ∀ (n : Nat) (ds : List D) (us : List Value), conBs K n ds us = true → ∃ vs, Vals vs us ∧ ∀ g H, RVs K g H vs ds
  | 0, _, _, h => by unfold conBs at h; cases h
  | n + 1, ds, us, h => by
    unfold conBs at h
    split at h
    · cases us with
      | nil => exact ⟨[], .nil, fun _ _ => .nil⟩
      | cons u us => cases h
    · split at h
      · simp only [Bool.and_eq_true] at h
        obtain ⟨v, r1, r2⟩ := con_ok n _ _ h.1
        obtain ⟨vs, q1, q2⟩ := cons_ok n _ _ h.2
        exact ⟨v :: vs, .cons r1 q1, fun g H => .cons (r2 g H) (q2 g H)⟩
      · cases h
end
/-- a module's constant -/
def gloB (K : PySem.W.Frag) (x : Str) (d : D) : Bool := match PySem.W.nsIn K mainGlobals x with
  | some (some u) => conB K 40 d u
  | _ => false
theorem glo_con {K : PySem.W.Frag} {h : Heap} {mg : Str → Option Value} (X : K.In h) (G : h.Ns mainGlobals mg) {x : Str} {d : D} (c : gloB K x d = true) : ∃ u v, mg x = some u ∧ RelV v u ∧ ∀ g H, RV K g H v d := by
  unfold gloB at c
  split at c
  · rename_i u e
    obtain ⟨v, r1, r2⟩ := con_ok _ _ _ c
    exact ⟨u, v, PySem.W.mg_of X G e, r1, r2⟩
  · cases c
/-- a keyword-only default that is an object -/
def kwAt (f : Str × Option Str) (x : Str) (K : PySem.W.Frag) : Addr := match K.lookup (He.fAd K f) with
  | some ⟨_, _, .func fd, _⟩ => (match fd.kwdefaults with
    | .ref Da => (match PySem.W.nsIn K Da x with
      | some (some (.ref a)) => a
      | _ => 0)
    | _ => 0)
  | _ => 0
def adrB (K : PySem.W.Frag) (a : Addr) (d : D) : Bool := conB K 40 d (.ref a)
theorem adr_con {K : PySem.W.Frag} {a : Addr} {d : D} (c : adrB K a d = true) : ∀ g H, RV K g H (.ref a) d := by
  obtain ⟨v, r1, r2⟩ := con_ok _ _ _ c
  cases v <;> first | (cases (show Value.ref a = _ from r1); exact r2) | (cases (show Value.ref a = _ from r1); done) | (obtain ⟨t, e⟩ := r1; cases e)

/-! ### the head's facts, with looks of one's own -/
def obsXK (fa : List He.Fa) (fn : List He.DefD) (ex : PySem.W.Frag → Bool) (K : PySem.W.Frag) : He.AlD := ((He.obsD fa fn K).1 && ex K, (He.obsD fa fn K).2)
def obsX (n : Nat) (fa : List He.Fa) (fn : List He.DefD) (ex : PySem.W.Frag → Bool) (g : Addr → Option Obj) : He.AlD := obsXK fa fn ex (He.frG g (He.asD g n))
def SaysX (fa : List He.Fa) (fn : List He.DefD) (ex : PySem.W.Frag → Bool) (K : PySem.W.Frag) : Prop := obsXK fa fn ex K = He.valD fn
def hookX (n : Nat) (fa : List He.Fa) (fn : List He.DefD) (ex : PySem.W.Frag → Bool) : PySem.W.Hook where
  α := He.AlD
  obs := fun s => obsX n fa fn ex s.heap.get?
  val := fun _ => He.valD fn
  says := fun _ h => ∃ K : PySem.W.Frag, K.In h ∧ SaysX fa fn ex K
  of := fun _ _ e => ⟨_, He.frG_in, e⟩
  keeps := fun _ _ _ ⟨K, hK, c⟩ k => ⟨K, PySem.W.Frag.In.keeps hK k, c⟩
theorem obsX_eq {n : Nat} {fa : List He.Fa} {fn : List He.DefD} {ex : PySem.W.Frag → Bool} {g : Addr → Option Obj} {s : Shared} (h : ∀ a, g a = s.heap.get? a) : obsX n fa fn ex g = (hookX n fa fn ex).obs s := by
  have e : g = s.heap.get? := funext h
  rw [e] <;> rfl
theorem SaysX.d {fa : List He.Fa} {fn : List He.DefD} {ex : PySem.W.Frag → Bool} {K : PySem.W.Frag} (c : SaysX fa fn ex K) : He.SaysD fa fn K ∧ ex K = true := by
  have c' : obsXK fa fn ex K = He.valD fn := c
  have c1 := congrArg (fun z : He.AlD => z.1) c'
  have c2 := congrArg (fun z : He.AlD => z.2) c'
  obtain ⟨h1, h2⟩ := Bool.and_eq_true_iff.mp (show ((He.obsD fa fn K).1 && ex K) = true from c1)
  exact ⟨Prod.ext h1 c2, h2⟩
/-- the law's script -/
theorem script_rv {K : PySem.W.Frag} {H : Hp} {a : Addr} {ns : List Int} (hS : SqL K H a (ns.map V.int)) : ∃ g : G, RV K g H (.ref a) (.lst (ns.map D.int)) ∧ (∀ n, g.ρ n = none) ∧ ∀ b, g.F b → ∃ o, H b = some o := by
  have rv : ∀ g : G, RVs K g H (ns.map V.int) (ns.map D.int) := fun g => by
    induction ns with
    | nil => exact .nil
    | cons n r ih => exact .cons (.int n) (by
        have : ∀ l : List Int, RVs K g H (l.map V.int) (l.map D.int) := fun l => by
          induction l with
          | nil => exact .nil
          | cons n r ih => exact .cons (.int n) ih
        exact this r)
  rcases hS with h | h
  · refine ⟨⟨fun b => b = a, fun _ => none⟩, .lst (.inl ⟨rfl, h⟩) (rv _), fun _ => rfl, fun b e => ?_⟩
    have e : b = a := e
    subst e
    rcases h with h | ⟨o, h⟩
    · exact ⟨_, h⟩
    · exact ⟨_, h⟩
  · exact ⟨⟨fun _ => False, fun _ => none⟩, .lst (.inr h) (rv _), fun _ => rfl, fun b e => e.elim⟩
/-- what the law promises, where it comes to True -/
theorem law_sp {C : Ct} {H : Hp} {a : Addr} {ns : List Int} {m : List D → Store → Res D} (hS : SqL C.K H a (ns.map V.int)) (hm : ∃ st', m [.lst (ns.map D.int)] [] = .ok (.bl true) st') : spD C 1 m [.ref a] H (fun v _ => v = .bl true) fun _ _ _ => False := by
  obtain ⟨g, rv, hρ, fz⟩ := script_rv hS
  obtain ⟨st', hm⟩ := hm
  refine ⟨rfl, g, [.lst (ns.map D.int)], [], .cons rv .nil, ⟨fun n o h => (by simp at h), fun n b h => (by rw [hρ] at h; cases h), fun n m b h => (by rw [hρ] at h; cases h), fun n b h => (by rw [hρ] at h; cases h)⟩, fz, ?_⟩
  rw [hm]
  intro g' H' x _ _ _ r
  cases r
  rfl
end L3
end

section
set_option Elab.async false
set_option linter.all false
set_option maxRecDepth 100000
set_option maxHeartbeats 8000000
/-! L3p: the head. -/
namespace L3
open PySem PySem.Spec PyProof.Rows L2
def CK (K : PySem.W.Frag) (cx xx : List Str) : Ct := ⟨K, fun c => He.ga K (cx.getD c Str.empty), fun c => .ref (He.ga K (xx.getD c Str.empty)), ⟨fun _ => False, fun _ => none⟩, fun _ => none, [], fun _ _ _ _ => False⟩
theorem fact_mem {fa : List He.Fa} {fn : List He.DefD} {K : PySem.W.Frag} (c : He.SaysD fa fn K) {f : He.Fa} (h : f ∈ fa) : f.ok K = true := by
  have c1 := (He.ba (show ((fa.all fun f => f.ok K) && fn.all fun d => d.ok K) = true from congrArg (fun z : He.AlD => z.1) c)).1
  exact List.all_eq_true.mp c1 f h
theorem blt_all {fa : List He.Fa} {fn : List He.DefD} {K : PySem.W.Frag} {h : Heap} {mg : Str → Option Value} (X : K.In h) (G : h.Ns mainGlobals mg) (c : He.SaysD (fa ++ bltNames.map He.Fa.free) fn K) : ∀ x ∈ bltNames, mg x = none := fun x hx =>
  He.free_ok X G (fact_mem c (List.mem_append_right _ (List.mem_map.mpr ⟨x, hx, rfl⟩)))
/-- the constants by their places -/
def consB (K : PySem.W.Frag) : List Str → List D → Bool
  | [], [] => true
  | x :: xs, d :: ds => gloB K x d && consB K xs ds
  | _, _ => false
theorem cons_all {K : PySem.W.Frag} {h : Heap} {mg : Str → Option Value} (X : K.In h) (G : h.Ns mainGlobals mg) : ∀ {xs : List Str} {ds : List D}, consB K xs ds = true → ∀ (k : Nat) (x : Str), xs[k]? = some x → ∃ u v, mg x = some u ∧ RelV v u ∧ ∀ g H, RV K g H v (ds.getD k .non)
  | [], [], _, k, x, e => by simp at e
  | y :: ys, d :: ds, c, k, x, e => by
    unfold consB at c
    obtain ⟨c1, c2⟩ := Bool.and_eq_true_iff.mp c
    cases k with
    | zero =>
      simp at e
      subst e
      exact glo_con X G c1
    | succ k =>
      obtain ⟨u, v, r⟩ := cons_all X G c2 k x (by simpa using e)
      exact ⟨u, v, by simpa using r⟩
  | [], _ :: _, c, _, _, _ => by cases c
  | _ :: _, [], c, _, _, _ => by cases c
theorem top0 {P : Program} {w : World} {K : PySem.W.Frag} {mg : Str → Option Value} {base : Heap} {cs : List D} {cn cx xx : List Str} {kd : List (Str × List Str)} {ca : List (Nat × Str)} {tv : List (Str × List (Str × D))} {xs : List (Nat × Str × List Str)} {xi : List (Nat × Bool × List (Bool × Str) × Bool)} {co : List (Nat × String)} {k : Nat}
    (hca : ∀ c f, (c, f) ∈ ca → AttrAt K (CK K cx xx) c f) (htv : ∀ x t, (x, t) ∈ tv → TvAt w K mg x t) (hk : ∀ x l, (x, l) ∈ kd → KdAt w K mg x l) (hb : ∀ x ∈ bltNames, mg x = none) (hc : ∀ (k : Nat) (x : Str), cn[k]? = some x → ∃ u v, mg x = some u ∧ RelV v u ∧ ∀ g H, RV K g H v (cs.getD k .non))
    (hxs : ∀ c x fl, (c, x, fl) ∈ xs → ExcAt P w K mg base (CK K cx xx) k c x fl) (hxm : ∀ c x fl d y gl, (c, x, fl) ∈ xs → (d, y, gl) ∈ xs → PySem.W.exmOne K ((CK K cx xx).xc c) ((CK K cx xx).xc d) = some (decide (c = d))) (hxi : ∀ c tup l b, (c, tup, l, b) ∈ xi → IsiAt K mg (CK K cx xx) c tup l b) (hco : ∀ c n, (c, n) ∈ co → InsIs K ((CK K cx xx).cls c) n) :
    Top P w K mg base (CK K cx xx) [] cs [] [] cn [] kd ⟨ca, [], [], tv, xs, xi, co⟩ k := ⟨rfl, hb, rfl, rfl, fun f x h => (by simp at h), hc, fun c x l h => (by simp at h), hk, hca, fun c m f h => (by cases h), fun c x f h => (by cases h), htv, hxs, hxm, hxi, hco⟩
/-- what any world's call may let out -/
def CXE (P : Program) : CXT := fun outer H s E e s' => ∃ w, L2.CX P w outer H s E e s'
theorem fn_cxE {P : Program} {w : World} {K : PySem.W.Frag} {mg : Str → Option Value} {base : Heap} {k : Nat} {a : Addr} {fd : FuncData} {ps : List Str} {sp : Sp} (F : FnOk P w K mg base (L2.CX P w) k a fd ps sp) : FnOk P w K mg base (CXE P) k a fd ps sp :=
  ⟨F.len, fun A outer s H args us vs Q E hr he hb hv hs => codeAny_mono (F.run A outer s H args us vs Q E hr he hb hv hs) fun r s' hq => by
    cases r with
    | error e => exact ⟨w, hq⟩
    | ok fl => cases fl <;> exact hq⟩
theorem cxE_no {P : Program} (H : Hp) (s : Shared) (e : Value) (s' : Shared) (h : CXE P [] H s (fun _ _ _ => False) e s') : False := by
  obtain ⟨w, _, _, _, _, _, _, _, _, _, _, _, _, z⟩ := h
  exact z
end L3
end

section
set_option Elab.async false
set_option linter.all false
set_option maxRecDepth 100000
set_option maxHeartbeats 8000000
/-! L3t: the head, with tables of texts. -/
namespace L3
open PySem PySem.Spec PyProof.Rows L2
theorem keys_find {P : Params} {z : Str} : ∀ {l : List DictEntry} {ks : List Str}, l.map He.keyOf = He.keysIn P ks → (l.find? (·.key.isStr z)).isSome = decide (z ∈ ks) ∧ l.any (·.refKey) = false
  | [], [], _ => ⟨by simp, rfl⟩
  | [], _ :: _, h => by cases h
  | _ :: _, [], h => by cases h
  | e :: r, k :: ks, h => by
    injection h with h1 h2
    obtain ⟨i1, i2⟩ := keys_find (z := z) h2
    unfold He.keyOf at h1
    split at h1
    · rename_i x t q
      obtain ⟨e1, _⟩ := Prod.mk.inj (Option.some.inj h1)
      subst e1
      have hk : e.key.isStr z = decide (z = x) := by
        rw [q]
        show (x == z) = _
        by_cases g : x = z
        · subst g; simp
        · rw [beq_eq_false_iff_ne.mpr g, decide_eq_false (fun w => g w.symm)]
      refine ⟨?_, ?_⟩
      · rw [List.find?_cons, hk]
        by_cases g : z = x
        · simp [g]
        · simp [g, i1]
      · rw [List.any_cons, i2, Bool.or_false]
        unfold DictEntry.refKey
        rw [q]
    · cases h1
theorem kd_of {P : Params} {K : PySem.W.Frag} {a : Addr} {ks : List Str} (h : He.dicW K a = some (He.keysIn P ks)) (z : Str) : ∃ r, PySem.W.nsIn K a z = some r ∧ r.isSome = decide (z ∈ ks) := by
  unfold He.dicW at h
  split at h
  · rename_i c es n sl e
    split at h
    · obtain ⟨h1, h2⟩ := keys_find (z := z) (Option.some.inj h)
      unfold PySem.W.nsIn
      rw [e]
      dsimp only
      cases hf : es.toList.find? (·.key.isStr z) with
      | some d => exact ⟨some d.val, rfl, by rw [hf] at h1; exact h1⟩
      | none =>
        rw [hf] at h1
        refine ⟨none, ?_, h1⟩
        rw [h2]
        rfl
    · cases h
  · cases h
/-! ### the tables' values -/
def tabB (K : PySem.W.Frag) (x : Str) (t : List (Str × D)) : Bool := t.all fun p => match PySem.W.nsIn K (He.ga K x) p.1 with
  | some (some u) => conB K 40 p.2 u
  | _ => false
theorem look_mem {α : Type} {z : Str} {e : α} : ∀ {t : List (Str × α)}, t.lookup z = some e → (z, e) ∈ t
  | [], h => by cases h
  | (y, d) :: r, h => by
    rw [List.lookup_cons] at h
    by_cases q : (z == y) = true
    · rw [q] at h
      cases h
      rw [eq_of_beq q]
      exact List.mem_cons_self
    · rw [Bool.eq_false_iff.mpr q] at h
      exact List.mem_cons_of_mem _ (look_mem h)
theorem look_not {α : Type} {z : Str} : ∀ {t : List (Str × α)}, t.lookup z = none → z ∉ t.map (·.1)
  | [], _ => by simp
  | (y, d) :: r, h => by
    rw [List.lookup_cons] at h
    by_cases q : (z == y) = true
    · rw [q] at h; cases h
    · rw [Bool.eq_false_iff.mpr q] at h
      rw [List.map_cons, List.mem_cons]
      rintro (e | e)
      · exact q (by rw [e]; exact beq_self_eq_true y)
      · exact look_not h e
theorem tv_kd {w : World} {K : PySem.W.Frag} {mg : Str → Option Value} {x : Str} {t : List (Str × D)} (hg : mg x = some (.ref (He.ga K x))) (hk : KdAt w K mg x (t.map (·.1))) (hb : tabB K x t = true) : TvAt w K mg x t := by
  obtain ⟨d, es, n, h1, h2, h3⟩ := hk
  rw [hg] at h1
  cases h1
  refine ⟨_, es, n, hg, h2, fun z => ?_⟩
  cases e : t.lookup z with
  | some v =>
    have hp := List.all_eq_true.mp hb (z, v) (look_mem e)
    dsimp only at hp ⊢
    split at hp
    · rename_i u q
      obtain ⟨v0, r1, r2⟩ := con_ok _ _ _ hp
      exact ⟨u, v0, q, r1, r2⟩
    · cases hp
  | none =>
    obtain ⟨r, q1, q2⟩ := h3 z
    rw [decide_eq_false (look_not e)] at q2
    cases r with
    | none => exact q1
    | some u => cases q2
/-! ### the hook -/
def tabs (kd : List (Str × List Str)) : List He.Tab := kd.map fun p => (fun K => He.ga K p.1, p.2)
def obsXT (fa : List He.Fa) (fn : List He.DefD) (ts : List He.Tab) (ex : PySem.W.Frag → Bool) (K : PySem.W.Frag) : He.AlT := (obsXK fa fn ex K, ts.map fun t => He.dicW K (t.1 K))
def obsXG (n : Nat) (fa : List He.Fa) (fn : List He.DefD) (ts : List He.Tab) (ex : PySem.W.Frag → Bool) (g : Addr → Option Obj) : He.AlT := obsXT fa fn ts ex (He.frG g (He.asD g n))
def SaysXT (fa : List He.Fa) (fn : List He.DefD) (ts : List He.Tab) (ex : PySem.W.Frag → Bool) (w : World) (K : PySem.W.Frag) : Prop := obsXT fa fn ts ex K = He.valT fn ts w
def hookXT (n : Nat) (fa : List He.Fa) (fn : List He.DefD) (ts : List He.Tab) (ex : PySem.W.Frag → Bool) : PySem.W.Hook where
  α := He.AlT
  obs := fun s => obsXG n fa fn ts ex s.heap.get?
  val := fun w => He.valT fn ts w
  says := fun w h => ∃ K : PySem.W.Frag, K.In h ∧ SaysXT fa fn ts ex w K
  of := fun _ _ e => ⟨_, He.frG_in, e⟩
  keeps := fun _ _ _ ⟨K, hK, c⟩ k => ⟨K, PySem.W.Frag.In.keeps hK k, c⟩
theorem obsXG_eq {n : Nat} {fa : List He.Fa} {fn : List He.DefD} {ts : List He.Tab} {ex : PySem.W.Frag → Bool} {g : Addr → Option Obj} {s : Shared} (h : ∀ a, g a = s.heap.get? a) : obsXG n fa fn ts ex g = (hookXT n fa fn ts ex).obs s := by
  have e : g = s.heap.get? := funext h
  rw [e] <;> rfl
section
variable {fa : List He.Fa} {fn : List He.DefD} {ts : List He.Tab} {ex : PySem.W.Frag → Bool} {w : World} {K : PySem.W.Frag}
theorem SaysXT.x (c : SaysXT fa fn ts ex w K) : SaysX fa fn ex K := congrArg (fun z : He.AlT => z.1) c
theorem SaysXT.tab (c : SaysXT fa fn ts ex w K) {t : He.Tab} (h : t ∈ ts) : He.dicW K (t.1 K) = some (He.keysIn w.params t.2) := by
  have e : ts.map (fun t => He.dicW K (t.1 K)) = ts.map fun t => some (He.keysIn w.params t.2) := congrArg (fun z : He.AlT => z.2) c
  exact List.map_inj_left.mp e t h
theorem SaysXT.kd {kd : List (Str × List Str)} {h : Heap} {mg : Str → Option Value} (c : SaysXT fa fn (tabs kd) ex w K) (X : K.In h) (G : h.Ns mainGlobals mg) (hf : ∀ p ∈ kd, He.Fa.glo p.1 ∈ fa) : ∀ x l, (x, l) ∈ kd → KdAt w K mg x l := fun x l hm => by
  have hd := c.tab (t := (fun K => He.ga K x, l)) (List.mem_map.mpr ⟨(x, l), hm, rfl⟩)
  obtain ⟨es, n, D⟩ := He.dicW_ok hd
  exact ⟨_, es, n, He.glo_ok X G (fact_mem c.x.d.1 (hf _ hm)), D, kd_of hd⟩
end
end L3
end

section
set_option Elab.async false
set_option linter.all false
set_option maxRecDepth 100000
set_option maxHeartbeats 4000000
/-! L3q: small laws of the evaluator, for the plain part. -/
namespace L3
open PySem PySem.Spec
theorem then_nx {e : Env} {s : Store} {f : Env → Store → SR} : (SR.ok .nx e s).then f = f e s := rfl
theorem then_rt {e : Env} {s : Store} {d : D} {f : Env → Store → SR} : (SR.ok (.rt d) e s).then f = .ok (.rt d) e s := rfl
theorem then_bk {e : Env} {s : Store} {f : Env → Store → SR} : (SR.ok .bk e s).then f = .ok .bk e s := rfl
theorem then_ct {e : Env} {s : Store} {f : Env → Store → SR} : (SR.ok .ct e s).then f = .ok .ct e s := rfl
theorem then_no {f : Env → Store → SR} : SR.no.then f = .no := rfl
theorem drf_ref {st : Store} {n : Nat} {l : List D} (h : st[n]? = some (.lst l)) : drf st (.ref n) = .lst l := by unfold drf; dsimp only; rw [h]
theorem drf_int {st : Store} {i : Int} : drf st (.int i) = .int i := rfl
theorem drf_str {st : Store} {i : Str} : drf st (.str i) = .str i := rfl
theorem drf_bl {st : Store} {i : Bool} : drf st (.bl i) = .bl i := rfl
theorem drf_non {st : Store} : drf st .non = .non := rfl
theorem drf_ty {st : Store} {n : String} : drf st (.ty n) = .ty n := rfl
theorem drf_tup {st : Store} {l : List D} : drf st (.tup l) = .tup l := rfl
theorem drf_lst {st : Store} {l : List D} : drf st (.lst l) = .lst l := rfl
theorem drf_dct {st : Store} {k : DK} {l : List (D × D)} : drf st (.dct k l) = .dct k l := rfl
theorem rep0 : List.replicate 0 (none : Option Sl) = [] := rfl
theorem rep1 : List.replicate 1 (none : Option Sl) = [none] := rfl
theorem rep2 : List.replicate 2 (none : Option Sl) = [none, none] := rfl
theorem rep3 : List.replicate 3 (none : Option Sl) = [none, none, none] := rfl
theorem rep4 : List.replicate 4 (none : Option Sl) = [none, none, none, none] := rfl
theorem rep5 : List.replicate 5 (none : Option Sl) = [none, none, none, none, none] := rfl
theorem rep6 : List.replicate 6 (none : Option Sl) = [none, none, none, none, none, none] := rfl
theorem rep7 : List.replicate 7 (none : Option Sl) = [none, none, none, none, none, none, none] := rfl
theorem rep8 : List.replicate 8 (none : Option Sl) = [none, none, none, none, none, none, none, none] := rfl
theorem rep9 : List.replicate 9 (none : Option Sl) = [none, none, none, none, none, none, none, none, none] := rfl
theorem rep10 : List.replicate 10 (none : Option Sl) = [none, none, none, none, none, none, none, none, none, none] := rfl
theorem rep11 : List.replicate 11 (none : Option Sl) = [none, none, none, none, none, none, none, none, none, none, none] := rfl
theorem rep12 : List.replicate 12 (none : Option Sl) = [none, none, none, none, none, none, none, none, none, none, none, none] := rfl
theorem rep13 : List.replicate 13 (none : Option Sl) = [none, none, none, none, none, none, none, none, none, none, none, none, none] := rfl
theorem idxD_lst {l : List D} {i : Int} : idxD (.lst l) (.int i) = L2.atI l i := rfl
theorem idxD_tup {l : List D} {i : Int} : idxD (.tup l) (.int i) = L2.atI l i := rfl
theorem idxD_dct {k : DK} {l : List (D × D)} {y : D} : idxD (.dct k l) y = if isKey k y then lookD l y else none := rfl
/-! ### equality of plain data -/
def plB : Nat → D → Bool
  | _, .non => true
  | _, .bl _ => true
  | _, .int _ => true
  | _, .str x => PyData.strOk x
  | n + 1, .tup l => l.all (plB n)
  | n + 1, .lst l => l.all (plB n)
  | _, _ => false
theorem toPys_pl {n : Nat} (ih : ∀ d, plB n d = true → ∃ p, toPy d = some p ∧ p.canLay0 = true ∧ p.depth ≤ n) : ∀ l : List D, l.all (plB n) = true → ∃ ps, toPys l = some ps ∧ PyData.canLayAll0 ps = true ∧ PyData.depthAll ps ≤ n
  | [], _ => ⟨[], rfl, by simp [PyData.canLayAll0], by simp [PyData.depthAll]⟩
  | d :: r, h => by
    rw [List.all_cons, Bool.and_eq_true] at h
    obtain ⟨p, h1, h2, h3⟩ := ih d h.1
    obtain ⟨ps, q1, q2, q3⟩ := toPys_pl ih r h.2
    exact ⟨p :: ps, by unfold toPys; rw [h1, q1], by simp [PyData.canLayAll0, h2, q2], by simp only [PyData.depthAll]; omega⟩
theorem toPy_pl : ∀ (n : Nat) (d : D), plB n d = true → ∃ p, toPy d = some p ∧ p.canLay0 = true ∧ p.depth ≤ n
  | 0, d, h => by
    cases d with
    | non => exact ⟨_, rfl, by simp [PyData.canLay0], by simp [PyData.depth]⟩
    | bl b => exact ⟨_, rfl, by simp [PyData.canLay0], by simp [PyData.depth]⟩
    | int i => exact ⟨_, rfl, by simp [PyData.canLay0], by simp [PyData.depth]⟩
    | str x =>
      have h : PyData.strOk x = true := by unfold plB at h; exact h
      exact ⟨_, rfl, by simpa [PyData.canLay0] using h, by simp [PyData.depth]⟩
    | _ => unfold plB at h; cases h
  | n + 1, d, h => by
    cases d with
    | non => exact ⟨_, rfl, by simp [PyData.canLay0], by simp [PyData.depth]⟩
    | bl b => exact ⟨_, rfl, by simp [PyData.canLay0], by simp [PyData.depth]⟩
    | int i => exact ⟨_, rfl, by simp [PyData.canLay0], by simp [PyData.depth]⟩
    | str x => exact ⟨_, rfl, by simpa [PyData.canLay0, plB] using h, by simp [PyData.depth]⟩
    | tup l =>
      obtain ⟨ps, q1, q2, q3⟩ := toPys_pl (toPy_pl n) l (by simpa [plB] using h)
      exact ⟨.tuple ps, by unfold toPy; rw [q1]; rfl, by simpa [PyData.canLay0] using q2, by simp only [PyData.depth]; omega⟩
    | lst l =>
      obtain ⟨ps, q1, q2, q3⟩ := toPys_pl (toPy_pl n) l (by simpa [plB] using h)
      exact ⟨.list ps, by unfold toPy; rw [q1]; rfl, by simpa [PyData.canLay0] using q2, by simp only [PyData.depth]; omega⟩
    | _ => unfold plB at h; cases h
theorem eqD_refl {d : D} (h : plB 64 d = true) : eqD d d = some true := by
  obtain ⟨p, h1, h2, h3⟩ := toPy_pl 64 d h
  have hs : SeqAt.shaped p = true := by unfold SeqAt.shaped; rw [h2, decide_eq_true h3]; rfl
  unfold eqD
  rw [h1]
  dsimp only
  rw [hs, SeqAt.eqv_refl p h2]
  rfl
theorem eqD_int (i j : Int) : eqD (.int i) (.int j) = some (i == j) := rfl

/-! ### loops -/
theorem compGo_map {f : D → List D → Store → Res (List D)} {g : D → D} {st : Store} : ∀ (xs acc : List D), (∀ x ∈ xs, ∀ acc : List D, acc.length < sizeLine → f x acc st = .ok (acc ++ [g x]) st) → acc.length + xs.length ≤ sizeLine → compGo f xs acc st = .ok (acc ++ xs.map g) st
  | [], acc, _, _ => by simp [compGo]
  | x :: r, acc, h, hl => by
    rw [List.length_cons] at hl
    unfold compGo
    rw [h x List.mem_cons_self acc (by omega), bind_ok, compGo_map r _ (fun y hy => h y (List.mem_cons_of_mem _ hy)) (by rw [List.length_append, List.length_singleton]; omega)]
    simp
/-- lists related item by item -/
inductive All2 (R : D → D → Prop) : List D → List D → Prop
  | nil : All2 R [] []
  | cons {x y : D} {xs ys : List D} : R x y → All2 R xs ys → All2 R (x :: xs) (y :: ys)
theorem All2.len {R : D → D → Prop} : ∀ {xs ys : List D}, All2 R xs ys → ys.length = xs.length
  | _, _, .nil => rfl
  | _, _, .cons _ t => by rw [List.length_cons, List.length_cons, t.len]
theorem compGo_st {f : D → List D → Store → Res (List D)} {R : D → D → Prop} {I : Nat → Store → Prop} : ∀ (xs acc : List D) (k : Nat) (st : Store), (∀ x ∈ xs, ∀ (acc : List D) (j : Nat) (st : Store), acc.length < sizeLine → k ≤ j → j < k + xs.length → I j st → ∃ d st', f x acc st = .ok (acc ++ [d]) st' ∧ R x d ∧ I (j + 1) st') → acc.length + xs.length ≤ sizeLine → I k st →
    ∃ ds st', compGo f xs acc st = .ok (acc ++ ds) st' ∧ All2 R xs ds ∧ I (k + xs.length) st'
  | [], acc, k, st, _, _, i => ⟨[], st, by simp [compGo], .nil, i⟩
  | x :: r, acc, k, st, h, hl, i => by
    rw [List.length_cons] at hl h
    obtain ⟨d, st1, h1, h2, h3⟩ := h x List.mem_cons_self acc k st (by omega) (Nat.le_refl _) (by omega) i
    obtain ⟨ds, st2, q1, q2, q3⟩ := compGo_st r (acc ++ [d]) (k + 1) st1 (fun y hy acc j st a b c => h y (List.mem_cons_of_mem _ hy) acc j st a (by omega) (by omega)) (by rw [List.length_append, List.length_singleton]; omega) h3
    refine ⟨d :: ds, st2, ?_, .cons h2 q2, by rw [List.length_cons, ← Nat.add_assoc, Nat.add_right_comm]; exact q3⟩
    unfold compGo
    rw [h1, bind_ok, q1]
    simp
/-- a loop by an invariant -/
theorem forGo_inv {p : Pat} {f : Env → Store → SR} {I : List D → Env → Store → Prop} : ∀ (xs : List D) (env : Env) (st : Store), (∀ x r env st, I (x :: r) env st → ∃ e, bindP p x env = some e ∧ ∃ e' st', (f e st = .ok .nx e' st' ∨ f e st = .ok .ct e' st') ∧ I r e' st') → I xs env st → ∃ e' st', forGo p f xs env st = .ok .nx e' st' ∧ I [] e' st'
  | [], env, st, _, i => ⟨env, st, by simp [forGo], i⟩
  | x :: r, env, st, h, i => by
    obtain ⟨e, h1, e', st', h2, h3⟩ := h x r env st i
    obtain ⟨e2, st2, q1, q2⟩ := forGo_inv r e' st' h h3
    refine ⟨e2, st2, ?_, q2⟩
    unfold forGo
    rw [h1]
    dsimp only
    rcases h2 with h2 | h2
    · rw [h2]; exact q1
    · rw [h2]; exact q1

theorem comp_st {T : Tb} {own : List Nat} {p : Pat} {it : It} {c : Ao} {e : A} {env : Env} {st st1 : Store} {xs : List D} {R : D → D → Prop} {I : Nat → Store → Prop} (ho : own.any (fun i => (ownAt env i).isSome) = false) (hi : evi T true it env st = .ok xs st1)
    (h : ∀ x ∈ xs, ∀ (j : Nat) (st : Store), j < xs.length → I j st → ∃ env', bindP p x (wipeE env own) = some env' ∧ ∃ st1, evc T c env' st = .ok true st1 ∧ ∃ d st2, ev T e env' st1 = .ok d st2 ∧ R x d ∧ I (j + 1) st2) (hl : xs.length ≤ sizeLine) (i0 : I 0 st1) :
    ∃ ds st', ev T (.comp own p it c e) env st = .ok (.lst ds) st' ∧ All2 R xs ds ∧ I xs.length st' := by
  obtain ⟨ds, st2, q1, q2, q3⟩ := compGo_st (f := compF T own p c e env) (R := R) (I := I) xs [] 0 st1 (fun x hx acc j st ha _ hj i => by
    obtain ⟨env', e1, st3, e2, d, st4, e3, e4, e5⟩ := h x hx j st (by omega) i
    refine ⟨d, st4, ?_, e4, e5⟩
    unfold compF
    rw [e1, of_some, bind_ok, e2, nox_ok, bind_ok, if_pos rfl, e3, nox_ok, bind_ok, if_pos (decide_eq_true ha)]) (by simpa using hl) i0
  refine ⟨ds, st2, ?_, q2, by simpa using q3⟩
  show (if own.any (fun i => (ownAt env i).isSome) then (.no : Res D) else (evi T true it env st).bind fun xs st => (compGo (compF T own p c e env) xs [] st).bind fun ds st => .ok (D.lst ds) st) = _
  rw [ho, hi]
  simp only [Bool.false_eq_true, if_false, bind_ok]
  rw [q1]
  rfl
theorem comp_map {T : Tb} {own : List Nat} {p : Pat} {it : It} {c : Ao} {e : A} {env : Env} {st st1 : Store} {xs : List D} {g : D → D} (ho : own.any (fun i => (ownAt env i).isSome) = false) (hi : evi T true it env st = .ok xs st1)
    (h : ∀ x ∈ xs, ∃ env', bindP p x (wipeE env own) = some env' ∧ evc T c env' st1 = .ok true st1 ∧ ev T e env' st1 = .ok (g x) st1) (hl : xs.length ≤ sizeLine) :
    ev T (.comp own p it c e) env st = .ok (.lst (xs.map g)) st1 := by
  have q1 := compGo_map (f := compF T own p c e env) (g := g) (st := st1) xs [] (fun x hx acc ha => by
    obtain ⟨env', e1, e2, e3⟩ := h x hx
    unfold compF
    rw [e1, of_some, bind_ok, e2, nox_ok, bind_ok, if_pos rfl, e3, nox_ok, bind_ok, if_pos (decide_eq_true ha)]) (by simpa using hl)
  show (if own.any (fun i => (ownAt env i).isSome) then (.no : Res D) else (evi T true it env st).bind fun xs st => (compGo (compF T own p c e env) xs [] st).bind fun ds st => .ok (D.lst ds) st) = _
  rw [ho, hi]
  simp only [Bool.false_eq_true, if_false, bind_ok]
  rw [q1]
  rfl
end L3
end

section
set_option Elab.async false
set_option linter.all false
set_option maxRecDepth 100000
set_option maxHeartbeats 8000000
/-! L3sd: an own exception's making; what the head tells of exceptions. -/
namespace L3
open PySem PySem.Spec PyProof.Rows L2
def iniB (N : List Str) (sc : Scope) : Nat → List Str → List Stmt → Bool
  | _, [], l => l.isEmpty
  | j, f :: fl, l => match l with
    | .Assign [.Attribute (.Name x _) g _] (.Name y _) _ :: r => decide (N[0]? = some x) && visB sc x && decide (g = f) && decide (N[j]? = some y) && visB sc y && iniB N sc (j + 1) fl r
    | _ => false
def tIni (K : PySem.W.Frag) : Nat → List Str → TS
  | _, [] => tNext
  | j, f :: fl => tSeq (tOstX K f (tVar 0) (tVar j)) (tIni K (j + 1) fl)
theorem ini_pss {X : Cx} {N : List Str} {sc : Scope} (hN : X.N = N) (hs : X.env.scope = sc) : ∀ (fl : List Str) (j : Nat) (body : List Stmt), iniB N sc j fl body = true → PSs X body (tIni X.K j fl)
  | [], j, body, h => by
    have : body = [] := by
      cases body with
      | nil => rfl
      | cons a b => cases h
    subst this
    exact pss_nil
  | f :: fl, j, body, h => by
    unfold iniB at h
    split at h
    · simp only [Bool.and_eq_true, decide_eq_true_eq] at h
      obtain ⟨⟨⟨⟨⟨h1, h2⟩, rfl⟩, h4⟩, h5⟩, h6⟩ := h
      obtain ⟨v1, v2, v3⟩ := vis_of h2
      obtain ⟨u1, u2, u3⟩ := vis_of h5
      exact pss_cons (ps_ostX (pe_var (i := 0) (by rw [hN]; exact h1) (by rw [hs]; exact v1) v2 v3) (pe_var (i := j) (by rw [hN]; exact h4) (by rw [hs]; exact u1) u2 u3)) (ini_pss hN hs fl (j + 1) _ h6)
    · cases h
theorem tIni_more {K : PySem.W.Frag} {C a dx : Addr} {D : Ends} {σ : L2.St} (T : XcB K C) (h0 : σ[0]? = some (some (.ref a))) (hda : dx ≠ a) : ∀ (fl : List Str) (j : Nat) (ws : List V) (done : List (Str × V)) (H : Hp), (∀ f ∈ fl, PySem.W.findIn K (.ref C) f = some none) → ws.length = fl.length → (∀ i w, ws[i]? = some w → σ[j + i]? = some (some w)) → H a = some (exo a C (some dx)) → H dx = some (exd dx done) → done.length + fl.length ≤ 900 →
    (∀ H2, H2 a = some (exo a C (some dx)) → H2 dx = some (exd dx ((fl.zip ws).reverse ++ done)) → (∀ b, b ≠ dx → H2 b = H b) → D.nx σ H2) → tIni K j fl D σ H
  | [], j, ws, done, H, _, _, _, ha, hd, _, fin => fin H ha hd fun b _ => rfl
  | f :: fl, j, [], done, H, _, hl, _, _, _, _, _ => by cases hl
  | f :: fl, j, w :: ws, done, H, hf, hl, hw, ha, hd, hz, fin => by
    refine ⟨w, hw 0 w rfl, .ref a, h0, a, C, rfl, T, hf f List.mem_cons_self, .inr ⟨dx, done, ha, hd, by rw [List.length_cons] at hz; omega, ?_⟩⟩
    refine tIni_more T h0 hda fl (j + 1) ws ((f, w) :: done) _ (fun g hg => hf g (List.mem_cons_of_mem _ hg)) (by simpa using hl) (fun i v hv => by
      have := hw (i + 1) v (by simpa using hv)
      rw [show j + 1 + i = j + (i + 1) by omega]
      exact this) (by rw [upd_ne (Ne.symm hda)]; exact ha) upd_same (by rw [List.length_cons] at hz ⊢; omega) (fun H2 k1 k2 k3 => fin H2 k1 ?_ fun b hb => ?_)
    · rw [k2, List.zip_cons_cons, List.reverse_cons, List.append_assoc]
      rfl
    · rw [k3 b hb, upd_ne hb]
theorem ini_ok {P : Program} {w : World} {K : PySem.W.Frag} {mg : Str → Option Value} {base : Heap} {x qual : Str} {params : Arguments} {body : List Stmt} {scope : Scope} {f D : Addr} {fd : FuncData} {N ps fl : List Str} {kws : List (Str × V)} {dvs : List V} (F : FunD K x qual params body scope dvs kws f fd)
    (hsc : C8.scC N ps scope = true) (hb : iniB N scope 1 fl body = true) (hl : ps.length = fl.length + 1) (T : XcB K D) (hno : ∀ f ∈ fl, PySem.W.findIn K (.ref D) f = some none) : FnOk P w K mg base (L2.CX P w) 1 f fd ps (spI D fl) := by
  have Sc := C8.fnScope_by hsc
  refine F.ok Sc (fun vs H Q E h => ?_) (fun cdv A outer s H vs Q E hr h => ?_)
  · obtain ⟨a, ws, rfl, h1, _⟩ := h
    rw [List.length_cons, h1, hl]
  · refine ⟨_, ini_pss (X := cxOf (L2.CX P w) P w K mg base N qual scope f cdv A outer s H E) rfl rfl fl 1 _ hb, ?_⟩
    obtain ⟨a, ws, rfl, h1, hne, h8, ha, fin⟩ := h
    have hN : ps.length ≤ N.length := by
      have := congrArg List.length Sc.pre
      rw [List.length_take] at this
      omega
    cases fl with
    | nil => exact absurd rfl hne
    | cons f0 fl =>
      cases ws with
      | nil => cases h1
      | cons v ws =>
        have hst : ∀ (i : Nat) u, (V.ref a :: v :: ws)[i]? = some u → (L2.start N (V.ref a :: v :: ws))[i]? = some (some u) := fun i u hu => by
          unfold L2.start
          rw [List.getElem?_append_left (by rw [List.length_map]; exact (List.getElem?_eq_some_iff.mp hu).1), List.getElem?_map, hu]
          rfl
        refine ⟨v, hst 1 v rfl, .ref a, hst 0 _ rfl, a, D, rfl, T, hno f0 List.mem_cons_self, .inl ⟨ha, fun dx hn hne2 => ?_⟩⟩
        refine tIni_more T (hst 0 _ rfl) hne2 fl 2 ws [(f0, v)] _ (fun g hg => hno g (List.mem_cons_of_mem _ hg)) (by simpa using h1) (fun i u hu => by
          rw [show 2 + i = i + 1 + 1 by omega]
          exact hst (i + 1 + 1) u (by simpa using hu)) upd_same (by rw [upd_ne hne2, upd_same]) (by rw [List.length_cons] at h8; simp; omega) (fun H2 k1 k2 k3 => fin dx H2 k1 ?_ hn hne2 fun b hb1 hb2 => ?_)
        · rw [k2, List.zip_cons_cons, List.reverse_cons]
        · rw [k3 b hb2, upd_ne hb1, upd_ne hb2]
/-! ### the head -/
def xsB (K : PySem.W.Frag) (x : Str) (b : String) (fl : List Str) : Bool := xcB K (He.ga K x) b && fl.all (fun f => decide (PySem.W.findIn K (.ref (He.ga K x)) f = some none)) &&
  decide (PySem.W.findIn K (.ref (He.ga K x)) "__init__" = some (some (.ref (He.ma K (He.ga K x) "__init__")))) && decide (PySem.W.typeIn K (.ref (He.ma K (He.ga K x) "__init__")) = some (.type "function"))
def xmB (K : PySem.W.Frag) (xx : List Str) : Bool := (List.range xx.length).all fun i => (List.range xx.length).all fun j => decide (PySem.W.exmOne K (.ref (He.ga K (xx.getD i Str.empty))) (.ref (He.ga K (xx.getD j Str.empty))) = some (decide (i = j)))
def clsOfB (K : PySem.W.Frag) (p : Bool × Str) : Value := if p.1 then .ref (He.ga K p.2) else match bootBuiltins p.2 with
  | some (.type n) => .type n
  | _ => .none
def clsB (K : PySem.W.Frag) (p : Bool × Str) : Bool := if p.1 then decide (PySem.W.nsIn K mainGlobals p.2 = some (some (.ref (He.ga K p.2)))) else decide (PySem.W.nsIn K mainGlobals p.2 = some none) && (match bootBuiltins p.2 with
  | some (.type _) => true
  | _ => false) && !decide (p.2 = "__name__")
def xiB (K : PySem.W.Frag) (xx : List Str) (q : Nat × Bool × List (Bool × Str) × Bool) : Bool := q.2.2.1.all (clsB K) && (if q.2.1 then decide (PySem.W.kitAny K (.ref (He.ga K (xx.getD q.1 Str.empty))) (q.2.2.1.map (clsOfB K)) = some q.2.2.2) else match q.2.2.1 with
  | [p] => decide (PySem.W.kitOne K (.ref (He.ga K (xx.getD q.1 Str.empty))) (clsOfB K p) = some q.2.2.2)
  | _ => false)
def coB (K : PySem.W.Frag) (cx : List Str) (q : Nat × String) : Bool := decide (PySem.W.findIn K (.ref (He.ga K (cx.getD q.1 Str.empty))) "__class__" = some (some (.builtin "object.__class__"))) && decide (PySem.W.specialIn K (.builtin "object.__class__") "__get__" = some (some (.builtin "getset_descriptor.__get__"))) &&
  decide (PySem.W.takesIn K (.builtin "object.__class__") = some true) && decide (PySem.W.mroIn K (He.ga K (cx.getD q.1 Str.empty)) (.type "object") = some true) && decide (PySem.W.kitOne K (.ref (He.ga K (cx.getD q.1 Str.empty))) (.type q.2) = some false)
section
variable {K : PySem.W.Frag} {h : Heap} {mg : Str → Option Value} {cx xx : List Str}
theorem co_ok {c : Nat} {n : String} (cl : Cls K (He.ga K (cx.getD c Str.empty))) (q : coB K cx (c, n) = true) : InsIs K ((CK K cx xx).cls c) n := by
  unfold coB at q
  simp only [Bool.and_eq_true, decide_eq_true_eq] at q
  obtain ⟨⟨⟨⟨q1, q2⟩, q3⟩, q4⟩, q5⟩ := q
  exact ⟨cl, q1, q2, q3, q4, q5⟩
theorem cls_at (X : K.In h) (G : h.Ns mainGlobals mg) {p : Bool × Str} (c : clsB K p = true) : ∃ v, ClsAt mg p v (clsOfB K p) := by
  obtain ⟨b, x⟩ := p
  unfold clsB at c
  cases b with
  | true =>
    rw [if_pos rfl] at c
    exact ⟨.ref (He.ga K x), .own (PySem.W.mg_of X G (of_decide_eq_true c))⟩
  | false =>
    rw [if_neg (by intro z; cases z)] at c
    simp only [Bool.and_eq_true, decide_eq_true_eq, Bool.not_eq_true', decide_eq_false_iff_not] at c
    obtain ⟨⟨c1, c2⟩, c3⟩ := c
    split at c2
    · rename_i n hn
      refine ⟨.ty n, ?_⟩
      have e : clsOfB K (false, x) = .type n := by
        unfold clsOfB
        rw [if_neg (by intro z; cases z)]
        dsimp only at hn ⊢
        rw [hn]
      rw [e]
      exact .blt (PySem.W.mg_none_of X G c1) hn c3
    · cases c2
theorem xi_ok (X : K.In h) (G : h.Ns mainGlobals mg) {c : Nat} {tup : Bool} {l : List (Bool × Str)} {b : Bool} (q : xiB K xx (c, tup, l, b) = true) : IsiAt K mg (CK K cx xx) c tup l b := by
  unfold xiB at q
  rw [Bool.and_eq_true] at q
  obtain ⟨q1, q2⟩ := q
  have q1 := List.all_eq_true.mp q1
  have key : ∀ l : List (Bool × Str), (∀ p ∈ l, clsB K p = true) → ∃ cs : List V, cs.length = l.length ∧ ∀ (j : Nat) p, l[j]? = some p → ∃ v, cs[j]? = some v ∧ ClsAt mg p v (clsOfB K p) := fun l => by
    induction l with
    | nil => exact fun _ => ⟨[], rfl, fun j p hj => by simp at hj⟩
    | cons a r ih =>
      intro hl
      obtain ⟨cs, c1, c2⟩ := ih fun p hp => hl p (List.mem_cons_of_mem _ hp)
      obtain ⟨v, hv⟩ := cls_at X G (hl a List.mem_cons_self)
      refine ⟨v :: cs, by rw [List.length_cons, List.length_cons, c1], fun j p hj => ?_⟩
      cases j with
      | zero => simp at hj; subst hj; exact ⟨v, rfl, hv⟩
      | succ j =>
        obtain ⟨u, u1, u2⟩ := c2 j p (by simpa using hj)
        exact ⟨u, by simpa using u1, u2⟩
  obtain ⟨cs, c1, c2⟩ := key l q1
  refine ⟨cs, l.map (clsOfB K), fun j p hj => ?_, c1, List.length_map _, ?_⟩
  · obtain ⟨v, v1, v2⟩ := c2 j p hj
    exact ⟨v, _, v1, by rw [List.getElem?_map, hj]; rfl, v2⟩
  · cases tup with
    | true =>
      have q2 : decide (PySem.W.kitAny K (.ref (He.ga K (xx.getD c Str.empty))) (l.map (clsOfB K)) = some b) = true := q2
      exact (of_decide_eq_true q2 : PySem.W.kitAny K (.ref (He.ga K (xx.getD c Str.empty))) (l.map (clsOfB K)) = some b)
    | false =>
      dsimp only at q2
      rw [if_neg (by decide)] at q2
      split at q2
      · exact ⟨_, rfl, of_decide_eq_true q2⟩
      · cases q2
theorem xm_ok (q : xmB K xx = true) {c d : Nat} (hc : c < xx.length) (hd : d < xx.length) : PySem.W.exmOne K ((CK K cx xx).xc c) ((CK K cx xx).xc d) = some (decide (c = d)) := by
  have h1 := List.all_eq_true.mp q c (List.mem_range.mpr hc)
  exact of_decide_eq_true (List.all_eq_true.mp h1 d (List.mem_range.mpr hd))
theorem xs_at {P : Program} {w : World} {base : Heap} {c : Nat} {x : Str} {b : String} {fl : List Str} {k : Nat} (hx : xx.getD c Str.empty = x) (hm : mg x = some (.ref (He.ga K x))) (q : xsB K x b fl = true)
    (hf : fl ≠ [] → XcB K (He.ga K x) → (∀ f ∈ fl, PySem.W.findIn K (.ref (He.ga K x)) f = some none) → ∃ (fd : FuncData) (ps : List Str), Binds K fd ps [] ∧ FnOk P w K mg base (L2.CX P w) 1 (He.ma K (He.ga K x) "__init__") fd ps (spI (He.ga K x) fl)) (hk : 2 ≤ k) : ExcAt P w K mg base (CK K cx xx) k c x fl := by
  unfold xsB at q
  simp only [Bool.and_eq_true, decide_eq_true_eq] at q
  obtain ⟨⟨⟨q1, q2⟩, q3⟩, q4⟩ := q
  have q2 : ∀ f ∈ fl, PySem.W.findIn K (.ref (He.ga K x)) f = some none := fun f hf => of_decide_eq_true (List.all_eq_true.mp q2 f hf)
  refine ⟨He.ga K x, by rw [← hx]; rfl, hm, xcB_ok q1, q2, fun hn => ?_⟩
  obtain ⟨fd, ps, b1, b2⟩ := hf hn (xcB_ok q1) q2
  exact ⟨_, fd, 1, ps, hk, q3, q4, b1, b2⟩
end
end L3
end

section
set_option Elab.async false
set_option linter.all false
set_option maxRecDepth 100000
set_option maxHeartbeats 4000000
/-! LBa: defs that the laws share: the purse. -/
namespace LB
open PySem L3
def asL : List A → As
  | [] => .nil
  | a :: l => .cons a (asL l)
def psL : List Pat → Pats
  | [] => .nil
  | a :: l => .cons a (psL l)
def ssL : List L3.S → Ss
  | [] => .nil
  | a :: l => .cons a (ssL l)
theorem evB_var {i : Nat} {env : L3.Env} {st : Store} {r : Res D} : evB (.var i) env st r = .of (borAt env i) st := rfl
theorem evB_prim {p : Prim} {l : As} {env : L3.Env} {st : Store} {r : Res D} : evB (.prim p l) env st r = r := rfl
theorem evB_lit {d : D} {env : L3.Env} {st : Store} {r : Res D} : evB (.lit d) env st r = r := rfl
theorem evB_ty {d : String} {env : L3.Env} {st : Store} {r : Res D} : evB (.ty d) env st r = r := rfl
theorem evB_cmp {c : CmpOp} {a b : A} {env : L3.Env} {st : Store} {r : Res D} : evB (.cmp c a b) env st r = r := rfl
theorem evB_bin {o : Operator} {a b : A} {env : L3.Env} {st : Store} {r : Res D} : evB (.bin o a b) env st r = r := rfl
theorem evB_call {f : Nat} {l : As} {env : L3.Env} {st : Store} {r : Res D} : evB (.call f l) env st r = r := rfl
theorem evB_callK {f : Nat} {l m : As} {env : L3.Env} {st : Store} {r : Res D} : evB (.callK f l m) env st r = r := rfl
theorem evB_or {l : As} {env : L3.Env} {st : Store} {r : Res D} : evB (.orL l) env st r = r := rfl
theorem evB_and {l : As} {env : L3.Env} {st : Store} {r : Res D} : evB (.andL l) env st r = r := rfl
theorem evB_not {l : A} {env : L3.Env} {st : Store} {r : Res D} : evB (.not_ l) env st r = r := rfl
theorem evB_tup {l : As} {env : L3.Env} {st : Store} {r : Res D} : evB (.tup l) env st r = r := rfl
theorem evB_lst {l : As} {env : L3.Env} {st : Store} {r : Res D} : evB (.lst l) env st r = r := rfl
theorem evB_idx {a b : A} {env : L3.Env} {st : Store} {r : Res D} : evB (.idx a b) env st r = r := rfl
theorem evB_mth {m : Mth} {a : A} {l : As} {env : L3.Env} {st : Store} {r : Res D} : evB (.mth m a l) env st r = r := rfl
theorem evB_cat {a b : A} {env : L3.Env} {st : Store} {r : Res D} : evB (.cat a b) env st r = r := rfl
theorem evB_comp {o : List Nat} {p : Pat} {i : It} {c : Ao} {e : A} {env : L3.Env} {st : Store} {r : Res D} : evB (.comp o p i c e) env st r = r := rfl
theorem len_ok (l : List D) : primD .len [.lst l] = some (.int (l.length : Int)) := rfl
theorem min2_ok (i j : Int) : primD .min2 [.int i, .int j] = some (.int (if j < i then j else i)) := rfl
theorem max2_ok (i j : Int) : primD .max2 [.int i, .int j] = some (.int (if j > i then j else i)) := rfl
theorem prim1 {T : Tb} {p : Prim} {a : A} {env : L3.Env} {st st1 : Store} {d r : D} (h : evB a env st (ev T a env st) = .ok d st1) (hp : primD p [drf st1 d] = some r) : ev T (.prim p (asL [a])) env st = .ok r st1 := by
  unfold asL asL ev evbs evbs
  rw [h]
  simp only [bind_ok, List.map_cons, List.map_nil, hp, of_some]
theorem prim2 {T : Tb} {p : Prim} {a b : A} {env : L3.Env} {st st1 st2 : Store} {d e r : D} (h : evB a env st (ev T a env st) = .ok d st1) (h2 : evB b env st1 (ev T b env st1) = .ok e st2) (hp : primD p [drf st2 d, drf st2 e] = some r) : ev T (.prim p (asL [a, b])) env st = .ok r st2 := by
  unfold asL asL asL ev evbs evbs evbs
  rw [h]
  simp only [bind_ok, h2, List.map_cons, List.map_nil, hp, of_some]
theorem evi_rng1 {T : Tb} {b : Bool} {a : A} {env : L3.Env} {st st' : Store} {n : Int} (h : ev T a env st = .ok (.int n) st') (hn : -(2 ^ 62) ≤ n ∧ n < 2 ^ 62) : evi T b (.rng1 a) env st = .ok (rngD 0 n) st' := by
  unfold evi
  rw [h, bind_ok]
  dsimp only
  rw [if_pos (by rw [Bool.and_eq_true]; exact ⟨decide_eq_true hn.1, decide_eq_true hn.2⟩)]
theorem turns_ok (M : Nat) (h1M : 1 ≤ M) (n : Nat) : ∃ m : Nat, (if (if ((n : Int)) < (M : Int) then ((n : Int)) else (M : Int)) > 1 then (if ((n : Int)) < (M : Int) then ((n : Int)) else (M : Int)) else 1) = (m : Int) ∧ m ≤ M := by
  have e : (if ((n : Int)) < (M : Int) then ((n : Int)) else (M : Int)) = ((if n < M then n else M : Nat) : Int) := by
    by_cases h : n < M
    · rw [if_pos h, if_pos (by omega)]
    · rw [if_neg h, if_neg (by omega)]
  rw [e]
  have h4 : (if n < M then n else M : Nat) ≤ M := by split <;> omega
  generalize (if n < M then n else M : Nat) = q at h4
  by_cases h1 : 1 < q
  · exact ⟨q, by rw [if_pos (by omega)], h4⟩
  · exact ⟨1, by rw [if_neg (by omega)]; rfl, by omega⟩
/-- how many turns a law takes -/
theorem ev_turns {T : Tb} {env : L3.Env} {l : List D} (M : Nat) (h1M : 1 ≤ M) (hM : M ≤ 1000) (st : Store) (h : borAt env 0 = some (.lst l)) : ∃ m : Nat, m ≤ M ∧ evi T false (.rng1 (.prim .max2 (asL [.lit (.int 1), .prim .min2 (asL [.lit (.int (M : Int)), .prim .len (asL [.var 0])])]))) env st = .ok (rngD 0 (m : Int)) st := by
  obtain ⟨m, hm, hm4⟩ := turns_ok M h1M l.length
  refine ⟨m, hm4, evi_rng1 ?_ (by omega)⟩
  rw [← hm]
  have e1 : ev T (.prim .len (asL [.var 0])) env st = .ok (.int (l.length : Int)) st := prim1 (d := .lst l) (by rw [evB_var, h]; rfl) (len_ok l)
  have e2 := prim2 (p := .min2) (a := .lit (.int (M : Int))) (b := .prim .len (asL [.var 0])) (T := T) (env := env) (st := st) (st1 := st) (d := .int (M : Int)) (by rw [evB_lit]; unfold ev; rfl) (evB_ok e1) (min2_ok _ _)
  exact prim2 (p := .max2) (a := .lit (.int 1)) (T := T) (env := env) (st := st) (st1 := st) (d := .int 1) (by rw [evB_lit]; unfold ev; rfl) (evB_ok e2) (max2_ok _ _)
theorem rng_nat (m : Nat) : rngD 0 (m : Int) = (List.range m).map fun (k : Nat) => D.int (k : Int) := by
  unfold rngD
  rw [Int.sub_zero, Int.toNat_natCast]
  refine List.map_congr_left fun k _ => ?_
  rw [Int.zero_add]
def bTake : Ss := (ssL [.if_ (.cmp .Gt (.idx (.var 0) (.lit (.int 0))) (.lit (.int 0))) (ssL [.asg (.nm 2) (.bin .Mod (.idx (.var 0) (.lit (.int 0))) (.var 1)), .setR (.var 0) (.lit (.int 0)) (.bin .FloorDiv (.idx (.var 0) (.lit (.int 0))) (.var 1)), .ret (.var 2)]) (ssL []), .asg (.nm 3) (.tup (asL [.lit (.int 2147483647), .lit (.int 2147483629), .lit (.int 2147483587), .lit (.int 2147483579), .lit (.int 2147483563), .lit (.int 2147483549), .lit (.int 2147483543)])), .setR (.var 0) (.lit (.int 2)) (.bin .Add (.idx (.var 0) (.lit (.int 2))) (.lit (.int 1))), .asg (.nm 4) (.idx (.var 0) (.lit (.int 2))), .asg (.nm 5) (.bin .Add (.bin .Mult (.bin .Add (.idx (.var 0) (.lit (.int 1))) (.bin .Mult (.lit (.int 104729)) (.var 4))) (.bin .Add (.bin .Mult (.lit (.int 3)) (.var 4)) (.lit (.int 4)))) (.bin .Mult (.bin .Mult (.lit (.int 7919)) (.var 4)) (.var 4))), .asg (.nm 6) (.bin .Mod (.bin .Pow (.var 5) (.lit (.int 3))) (.idx (.var 3) (.bin .Mod (.var 4) (.lit (.int 7))))), .ret (.bin .Mod (.bin .FloorDiv (.bin .Mod (.bin .Mult (.var 6) (.bin .Add (.bin .Add (.bin .FloorDiv (.var 6) (.lit (.int 4099))) (.bin .Mult (.lit (.int 2)) (.var 4))) (.lit (.int 3)))) (.idx (.var 3) (.bin .Mod (.bin .Add (.var 4) (.lit (.int 3))) (.lit (.int 7))))) (.lit (.int 16))) (.var 1))])
theorem mod_rng (x : Int) {m : Int} (h : 0 < m) : 0 ≤ x % m ∧ x % m < m := ⟨Int.emod_nonneg _ (by omega), Int.emod_lt_of_pos _ h⟩
theorem at0 {a b c : D} : L2.atI [a, b, c] 0 = some a := rfl
theorem at1 {a b c : D} : L2.atI [a, b, c] 1 = some b := rfl
theorem at2 {a b c : D} : L2.atI [a, b, c] 2 = some c := rfl
theorem set_get2 {st : Store} {n : Nat} {l : List D} {o : DO} (h : st[n]? = some (.lst l)) : (st.set n o)[n]? = some o := by
  rw [List.getElem?_set_self (List.getElem?_eq_some_iff.mp h).1]
def primes : List D := [.int 2147483647, .int 2147483629, .int 2147483587, .int 2147483579, .int 2147483563, .int 2147483549, .int 2147483543]
theorem prime_at (i : Int) (h : 0 ≤ i ∧ i < 7) : ∃ p : Int, L2.atI primes i = some (.int p) ∧ 2147483543 ≤ p ∧ p ≤ 2147483647 := by
  obtain ⟨h1, h2⟩ := h
  have : i = 0 ∨ i = 1 ∨ i = 2 ∨ i = 3 ∨ i = 4 ∨ i = 5 ∨ i = 6 := by omega
  rcases this with rfl | rfl | rfl | rfl | rfl | rfl | rfl <;> exact ⟨_, rfl, by decide, by decide⟩
theorem take_ok {T : Tb} {st : Store} {n : Nat} {a b c many : Int} (h : st[n]? = some (.lst [.int a, .int b, .int c])) (hb : 0 ≤ b ∧ b < 2 ^ 62) (hc : 0 ≤ c ∧ c < 2 ^ 20) (hm : 0 < many ∧ many < 1073741824) :
    ∃ r a' c', runF T 2 7 bTake [.ref n, .int many] st = .ok (.int r) (st.set n (.lst [.int a', .int b, .int c'])) ∧ (0 ≤ r ∧ r < many) ∧ 0 ≤ c' ∧ c' ≤ c + 1 := by
  unfold runF bTake
  rw [if_pos (show [D.ref n, D.int many].length = 2 from rfl)]
  have hset : ∀ x : D, setO (.lst [.int a, .int b, .int c]) (.int 0) x = some (.lst [x, .int b, .int c]) := fun _ => rfl
  have hset2 : ∀ x : D, setO (.lst [.int a, .int b, .int c]) (.int 2) x = some (.lst [.int a, .int b, x]) := fun _ => rfl
  by_cases ha : 0 < a
  · refine ⟨a % many, a / many, c, ?_, mod_rng _ hm.1, hc.1, by omega⟩
    have h1 : (0 < many ∧ many < 1073741824) := hm
    simp only [ssL, asL, psL, exs, ex, ev, evs, evbs, evAnd, evOr, evo, evc, evi, evB, valAt, borAt, ownAt, List.map_cons, List.map_nil, rep0, rep1, rep2, rep3, rep4, rep5, rep6, rep7, rep8, rep9, rep10, rep11, rep12, rep13, drf_ty, List.cons_append, List.nil_append, Nat.reduceSub, List.getElem?_cons_zero, List.getElem?_cons_succ, of_some, of_none, bind_ok, bind_ex, bind_no, go_ok, go_ex, go_no, nox_ok, drf_int, drf_str, drf_bl, drf_non, drf_tup, drf_lst, drf_dct, idxD_lst, idxD_tup, idxD_dct, cmpD, truD, binD, augD, bindP, bindPs, oSR, List.set_cons_zero, List.set_cons_succ, then_nx, then_rt, then_bk, then_ct, then_no, primD, Option.map_some, Option.map_none, if_true, Bool.false_eq_true, if_false, decide_true, decide_false, drf_ref h, at0, at1, at2, h, hset, hm.1, h1, ha, decide_eq_true ha, and_self]
  · have hl := (List.getElem?_eq_some_iff.mp h).1
    have h' : (st.set n (.lst [.int a, .int b, .int (c + 1)]))[n]? = some (.lst [.int a, .int b, .int (c + 1)]) := set_get2 h
    have m1 := mod_rng (c + 1) (m := 7) (by decide)
    have m2 := mod_rng (c + 1 + 3) (m := 7) (by decide)
    obtain ⟨p, hp, p1, p2⟩ := prime_at _ m1
    obtain ⟨q, hq, q1, q2⟩ := prime_at _ m2
    have b1 : mulOk 104729 (c + 1) = true := by unfold mulOk; rw [Bool.or_eq_true]; exact .inl (by decide)
    have b2 : mulOk 3 (c + 1) = true := by unfold mulOk; rw [Bool.or_eq_true]; exact .inl (by decide)
    have b3 : mulOk 2 (c + 1) = true := by unfold mulOk; rw [Bool.or_eq_true]; exact .inl (by decide)
    have b4 : mulOk 7919 (c + 1) = true := by unfold mulOk; rw [Bool.or_eq_true]; exact .inl (by decide)
    have b5 : mulOk (b + 104729 * (c + 1)) (3 * (c + 1) + 4) = true := by
      unfold mulOk; rw [Bool.or_eq_true]; exact .inl (decide_eq_true (by omega))
    have b6 : mulOk (7919 * (c + 1)) (c + 1) = true := by
      unfold mulOk; rw [Bool.or_eq_true]; exact .inl (decide_eq_true (by omega))
    generalize hB : (b + 104729 * (c + 1)) * (3 * (c + 1) + 4) + 7919 * (c + 1) * (c + 1) = B
    have b7 : powOk B 3 = true := by
      have hn : B.natAbs < 2 ^ 1000 := by
        have c1 : 0 ≤ c + 1 ∧ c + 1 ≤ 2 ^ 20 := by omega
        have e1 : 0 ≤ b + 104729 * (c + 1) ∧ b + 104729 * (c + 1) ≤ 2 ^ 63 := by omega
        have e2 : 0 ≤ 3 * (c + 1) + 4 ∧ 3 * (c + 1) + 4 ≤ 2 ^ 23 := by omega
        have e3 : 0 ≤ 7919 * (c + 1) ∧ 7919 * (c + 1) ≤ 2 ^ 40 := by omega
        have t1 := Int.mul_le_mul e1.2 e2.2 e2.1 (by decide)
        have t2 := Int.mul_le_mul e3.2 c1.2 c1.1 (by decide)
        have t3 := Int.mul_nonneg e1.1 e2.1
        have t4 := Int.mul_nonneg e3.1 c1.1
        have hb1 : 0 ≤ B := by rw [← hB]; exact Int.add_nonneg t3 t4
        have hb2 : B ≤ 2 ^ 87 := by
          rw [← hB]
          have k1 : (2 ^ 63 : Int) * 2 ^ 23 = 2 ^ 86 := by decide
          have k2 : (2 ^ 40 : Int) * 2 ^ 20 = 2 ^ 60 := by decide
          rw [k1] at t1
          rw [k2] at t2
          have := Int.add_le_add t1 t2
          exact Int.le_trans this (by decide)
        have : B.natAbs ≤ 2 ^ 87 := by omega
        exact Nat.lt_of_le_of_lt this (Nat.pow_lt_pow_right (by decide) (by decide))
      unfold powOk
      rw [decide_eq_true hn]
      rfl
    generalize hL : B ^ (3 : Int).toNat % p = L
    have hLr : 0 ≤ L ∧ L < p := by rw [← hL]; exact mod_rng _ (by omega)
    have b8 : mulOk L (L / 4099 + 2 * (c + 1) + 3) = true := by
      unfold mulOk; rw [Bool.or_eq_true]; exact .inl (decide_eq_true (by omega))
    refine ⟨L * (L / 4099 + 2 * (c + 1) + 3) % q / 16 % many, a, c + 1, ?_, mod_rng _ hm.1, by omega, by omega⟩
    have p0 : 0 < p := by omega
    have q0 : 0 < q := by omega
    have f1 : (0 : Int) < 7 := by decide
    have f2 : ((0 : Int) < 4099 ∧ (4099 : Int) < 1073741824) := by decide
    have f3 : ((0 : Int) < 16 ∧ (16 : Int) < 1073741824) := by decide
    have pr : small 7 = true := by decide
    have hp' : L2.atI [D.int 2147483647, .int 2147483629, .int 2147483587, .int 2147483579, .int 2147483563, .int 2147483549, .int 2147483543] ((c + 1) % 7) = some (.int p) := hp
    have hq' : L2.atI [D.int 2147483647, .int 2147483629, .int 2147483587, .int 2147483579, .int 2147483563, .int 2147483549, .int 2147483543] ((c + 1 + 3) % 7) = some (.int q) := hq
    simp only [ssL, asL, psL, exs, ex, ev, evs, evbs, evAnd, evOr, evo, evc, evi, evB, valAt, borAt, ownAt, List.map_cons, List.map_nil, rep0, rep1, rep2, rep3, rep4, rep5, rep6, rep7, rep8, rep9, rep10, rep11, rep12, rep13, drf_ty, List.cons_append, List.nil_append, Nat.reduceSub, List.getElem?_cons_zero, List.getElem?_cons_succ, of_some, of_none, bind_ok, bind_ex, bind_no, go_ok, go_ex, go_no, nox_ok, drf_int, drf_str, drf_bl, drf_non, drf_tup, drf_lst, drf_dct, idxD_lst, idxD_tup, idxD_dct, cmpD, truD, binD, augD, bindP, bindPs, oSR, List.set_cons_zero, List.set_cons_succ, then_nx, then_rt, then_bk, then_ct, then_no, primD, Option.map_some, Option.map_none, if_true, Bool.false_eq_true, if_false, decide_true, decide_false, drf_ref h, drf_ref h', at0, at1, at2, h, h', hset2, ha, decide_eq_false ha, List.length_cons, List.length_nil, pr, f1, b1, b2, b3, b4, b5, b6, hp', hq', hB, b7, hL, b8, p0, q0, f2, f3, hm, and_self]

/-- a purse of the store, with how many were drawn -/
def PO (s0 : Store) (n : Nat) (c : Nat) (st : Store) : Prop := (∃ a b c' : Int, st[n]? = some (.lst [.int a, .int b, .int c']) ∧ (0 ≤ b ∧ b < 2 ^ 62) ∧ 0 ≤ c' ∧ c' ≤ (c : Int)) ∧ ∃ o, st = s0.set n o
theorem PO.up {s0 : Store} {n c d : Nat} {st : Store} (h : PO s0 n c st) (hd : c ≤ d) : PO s0 n d st := by
  obtain ⟨⟨a, b, c', h1, h2, h3, h4⟩, k⟩ := h
  exact ⟨⟨a, b, c', h1, h2, h3, by omega⟩, k⟩
/-- what else the store holds stands as before -/
theorem PO.at {s0 : Store} {n c : Nat} {st : Store} (h : PO s0 n c st) {m : Nat} (hm : n ≠ m) : st[m]? = s0[m]? := by
  obtain ⟨_, o, rfl⟩ := h
  exact List.getElem?_set_ne hm
theorem PO.len {s0 : Store} {n c : Nat} {st : Store} (h : PO s0 n c st) : st.length = s0.length := by
  obtain ⟨_, o, rfl⟩ := h
  exact List.length_set
theorem PO.self {s0 : Store} {n c : Nat} {st : Store} (h : PO s0 n c st) : PO st n c st := by
  obtain ⟨⟨a, b, c', h1, h2⟩, k⟩ := h
  refine ⟨⟨a, b, c', h1, h2⟩, .lst [.int a, .int b, .int c'], ?_⟩
  refine List.ext_getElem? fun i => ?_
  by_cases e : n = i
  · subst e
    rw [h1, List.getElem?_set_self (List.getElem?_eq_some_iff.mp h1).1]
  · rw [List.getElem?_set_ne e]
/-- the same, from a store that has more -/
theorem PO.trans {s0 s1 : Store} {n c d : Nat} {st : Store} (h : PO s1 n d st) (k : PO s0 n c s1) : PO s0 n d st := by
  obtain ⟨h1, o, rfl⟩ := h
  obtain ⟨_, o', rfl⟩ := k
  exact ⟨h1, o, by rw [List.set_set]⟩
theorem PO.ext {s0 : Store} {n c : Nat} {st x : Store} (h : PO s0 n c st) : PO (st ++ x) n c (st ++ x) := by
  obtain ⟨⟨a, b, c', h1, h2⟩, k⟩ := h
  have hl := (List.getElem?_eq_some_iff.mp h1).1
  exact PO.self (s0 := st ++ x) ⟨⟨a, b, c', by rw [List.getElem?_append_left hl]; exact h1, h2⟩, (.lst [.int a, .int b, .int c']), by
    refine List.ext_getElem? fun i => ?_
    by_cases e : n = i
    · subst e
      rw [List.getElem?_append_left hl, h1, List.getElem?_set_self (by rw [List.length_append]; omega)]
    · rw [List.getElem?_set_ne e]⟩
theorem take_po {T : Tb} {s0 : Store} {n c : Nat} {st : Store} {many : Int} (h : PO s0 n c st) (hc : c < 1000000) (hm : 0 < many ∧ many < 1073741824) : ∃ r st', runF T 2 7 bTake [.ref n, .int many] st = .ok (.int r) st' ∧ (0 ≤ r ∧ r < many) ∧ PO s0 n (c + 1) st' := by
  obtain ⟨⟨a, b, c', h1, h2, h3, h4⟩, o, ho⟩ := h
  obtain ⟨r, a', d, q1, q2, q3, q4⟩ := take_ok h1 h2 ⟨h3, by omega⟩ hm
  refine ⟨r, _, q1, q2, ⟨a', b, d, set_get2 h1, h2, q3, by omega⟩, .lst [.int a', .int b, .int d], ?_⟩
  rw [ho, List.set_set]
def TakeOk (f : List D → Store → Res D) : Prop := ∀ (s0 : Store) (n c : Nat) (st : Store) (many : Int), PO s0 n c st → c < 1000000 → (0 < many ∧ many < 1073741824) → ∃ r st', f [.ref n, .int many] st = .ok (.int r) st' ∧ (0 ≤ r ∧ r < many) ∧ PO s0 n (c + 1) st'
theorem TakeOk.go {f : List D → Store → Res D} (hT : TakeOk f) {s0 : Store} {n c : Nat} {st : Store} {many : Int} (h : PO s0 n c st) (hc : c < 1000000) (hm : 0 < many ∧ many < 1073741824) : ∃ r st', f [.ref n, .int many] st = .ok (.int r) st' ∧ (0 ≤ r ∧ r < many) ∧ PO s0 n (c + 1) st' := hT s0 n c st many h hc hm
theorem take_all (T : Tb) : TakeOk (runF T 2 7 bTake) := fun s0 n c st many h hc hm => take_po h hc hm
/-! ### texts -/
theorem strOk_iff {x : Str} : PyData.strOk x = true ↔ ∀ c ∈ x.cps.toList, c < 0x110000 := by
  unfold PyData.strOk
  rw [← Array.all_toList, List.all_eq_true]
  simp
def SG (m : Nat) (x : Str) : Prop := PyData.strOk x = true ∧ x.length ≤ m
theorem SG.app {m n : Nat} {x y : Str} (h : SG m x) (k : SG n y) : SG (m + n) (x ++ y) := by
  refine ⟨strOk_iff.mpr fun c hc => ?_, by rw [PySem.Str.length_append]; exact Nat.add_le_add h.2 k.2⟩
  have hc : c ∈ (x.cps ++ y.cps).toList := hc
  rw [Array.toList_append, List.mem_append] at hc
  rcases hc with z | z
  · exact strOk_iff.mp h.1 c z
  · exact strOk_iff.mp k.1 c z
theorem SG.mono {m n : Nat} {x : Str} (h : SG m x) (k : m ≤ n) : SG n x := ⟨h.1, Nat.le_trans h.2 k⟩
theorem slD_str {m : Nat} {x : Str} (h : SG m x) (hm : m ≤ 1000) (lo hi : Option Int) : ∃ y, slD (.str x) lo hi = some (.str y) ∧ SG m y := by
  have hz : small x.length = true := decide_eq_true (Nat.le_trans h.2 (Nat.le_trans hm (by decide)))
  refine ⟨_, by unfold slD; dsimp only; rw [if_pos hz], strOk_iff.mpr fun c hc => ?_, ?_⟩
  · have hc : c ∈ cutL x.cps.toList lo hi := by simpa using hc
    exact strOk_iff.mp h.1 c (List.mem_of_mem_drop (List.mem_of_mem_take hc))
  · show (cutL x.cps.toList lo hi).toArray.size ≤ m
    rw [List.size_toArray]
    unfold cutL
    rw [List.length_take, List.length_drop]
    have : x.cps.toList.length = x.length := Array.length_toList
    have := h.2
    omega
def abc : Str := "abcdefghijklmnopqrstuvwxyz"
theorem sign_at (i : Int) (h : 0 ≤ i ∧ i < 26) : ∃ y, idxD (.str abc) (.int i) = some (.str y) ∧ SG 1 y ∧ y.length = 1 := by
  have hl : abc.cps.toList.length = 26 := by decide +kernel
  have hok : (abc.cps.toList.all fun c => decide (c < 0x110000)) = true := by decide +kernel
  have hz : small abc.length = true := by decide +kernel
  have hi : i.toNat < abc.cps.toList.length := by rw [hl]; omega
  have ha : L2.atI abc.cps.toList i = some (abc.cps.toList[i.toNat]'hi) := by
    unfold L2.atI L2.ixN
    rw [if_pos h.1, if_pos (by rw [hl]; exact h.2)]
    exact List.getElem?_eq_getElem hi
  refine ⟨⟨#[abc.cps.toList[i.toNat]'hi]⟩, by unfold idxD; dsimp only; rw [if_pos hz, ha]; rfl, ⟨strOk_iff.mpr fun c hc => ?_, Nat.le_refl _⟩, rfl⟩
  have hc : c = abc.cps.toList[i.toNat]'hi := by simpa using hc
  rw [hc]
  exact of_decide_eq_true (List.all_eq_true.mp hok _ (List.getElem_mem hi))
theorem join_ok : ∀ l : List Str, (∀ x ∈ l, PyData.strOk x = true) → PyData.strOk (Txt.join (Str.ofString "") l) = true := by
  intro l
  show _ → PyData.strOk (Builtin.Str.glued (Str.ofString "") l) = true
  rw [StrLaws.glued_eq_join]
  have key : ∀ l : List Str, (∀ x ∈ l, PyData.strOk x = true) → ∀ c ∈ (Str.join (Str.ofString "") l).cps.toList, c < 0x110000 := by
    intro l
    induction l with
    | nil => intro _ c hc; exact absurd hc (by decide +kernel +revert)
    | cons x r ih =>
      intro h c hc
      cases r with
      | nil => exact strOk_iff.mp (h x List.mem_cons_self) c hc
      | cons y r =>
        have hc : c ∈ ((x.cps ++ (Str.ofString "").cps) ++ (Str.join (Str.ofString "") (y :: r)).cps).toList := hc
        rw [Array.toList_append, Array.toList_append, List.mem_append, List.mem_append] at hc
        rcases hc with (z | z) | z
        · exact strOk_iff.mp (h x List.mem_cons_self) c z
        · have e : (Str.ofString "").cps.toList = [] := by decide +kernel
          rw [e] at z; cases z
        · exact ih (fun w hw => h w (List.mem_cons_of_mem _ hw)) c z
  exact fun h => strOk_iff.mpr (key l h)

theorem strs_all2 {xs ds : List D} (h : All2 (fun _ d => ∃ y, d = .str y ∧ SG 1 y ∧ y.length = 1) xs ds) : ∃ ss : List Str, ds = ss.map .str ∧ (∀ x ∈ ss, SG 1 x ∧ x.length = 1) ∧ ss.length = xs.length := by
  induction h with
  | nil => exact ⟨[], rfl, fun _ h => (by cases h), rfl⟩
  | cons r _ ih =>
    obtain ⟨y, rfl, r1, r2⟩ := r
    obtain ⟨ss, rfl, h1, h2⟩ := ih
    refine ⟨y :: ss, rfl, fun x hx => ?_, by simp [h2]⟩
    rcases List.mem_cons.mp hx with z | z
    · rw [z]; exact ⟨r1, r2⟩
    · exact h1 x z
theorem strsOf_map2 : ∀ ss : List Str, strsOf (ss.map D.str) = some ss
  | [] => rfl
  | x :: r => by show (strsOf (r.map D.str)).map (x :: ·) = _; rw [strsOf_map2 r]; rfl
theorem rngD_len (n : Int) (h : 0 ≤ n) : (rngD 0 n).length = n.toNat := by unfold rngD; simp
theorem rngD_mem {a b : Int} {x : D} (h : x ∈ rngD a b) : ∃ i : Int, x = .int i ∧ a ≤ i ∧ i < b := by
  unfold rngD at h
  obtain ⟨i, hi, rfl⟩ := List.mem_map.mp h
  rw [List.mem_range] at hi
  exact ⟨_, rfl, by omega, by omega⟩
end LB
end

section
set_option Elab.async false
set_option linter.all false
set_option maxRecDepth 100000
set_option maxHeartbeats 4000000
/-! LBb: names, choices, parts that the laws draw. -/
namespace LB
open PySem L3
def bNames (t : Nat) : Ss := (ssL [.asg (.nm 4) (.mth .join (.lit (.str "")) (asL [.comp [5] (.nm 5) (.rng1 (.call t (asL [.var 0, .var 3]))) .no (.idx (.var 2) (.call t (asL [.var 0, .lit (.int 26)])))])), .asg (.tp (psL [.nm 6, .nm 7])) (.tup (asL [.call t (asL [.var 0, .bin .Add (.prim .len (asL [.var 4])) (.lit (.int 1))]), .call t (asL [.var 0, .lit (.int 26)])])), .ret (.comp [5] (.nm 5) (.rng1 (.var 1)) .no (.bin .Add (.bin .Add (.sl (.var 4) .no (.so (.var 6))) (.idx (.var 2) (.bin .Mod (.bin .Add (.var 7) (.var 5)) (.lit (.int 26))))) (.sl (.var 4) (.so (.var 6)) .no)))])
def bChoices (t nm : Nat) : Ss := (ssL [.asg (.nm 2) (.call t (asL [.var 0, .bin .Add (.var 1) (.lit (.int 1))])), .asg (.nm 3) (.call nm (asL [.var 0, .var 2, .lit (.str "abcdefghijklmnopqrstuvwxyz"), .lit (.int 4)])), .ret (.comp [4] (.nm 4) (.seq (.var 3)) .no (.tup (asL [.var 4, .bin .Add (.lit (.int 2)) (.call t (asL [.var 0, .lit (.int 3)]))])))])
def bPart (t : Nat) : Ss := (ssL [.asgO 3 (.lst (asL [])), .for_ (.tp (psL [.nm 4, .nm 5])) (.seq (.var 1)) (ssL [.asg (.nm 6) (.call t (asL [.var 0, .var 5])), .if_ (.cmp .Eq (.call t (asL [.var 0, .var 2])) (.lit (.int 0))) (ssL [.app 3 (.tup (asL [.var 4, .var 6]))]) (ssL [])]), .ret (.prim .tuple_ (asL [.var 3]))])
def bPurse : Ss := (ssL [.asg (.nm 2) (.lit (.int 0)), .if_ (.cmp .Lt (.var 1) (.prim .len (asL [.var 0]))) (ssL [.asg (.nm 2) (.idx (.var 0) (.var 1))]) (ssL []), .asg (.nm 3) (.prim .abs (asL [.var 2])), .ret (.lsr (asL [.bin .Mult (.var 3) (.prim .int_ (asL [.cmp .GtE (.var 3) (.bin .Pow (.lit (.int 10)) (.lit (.int 18)))])), .bin .Add (.bin .Add (.bin .Mod (.var 2) (.lit (.int 2305843009213693951))) (.bin .Mult (.lit (.int 6607)) (.var 1))) (.lit (.int 3)), .lit (.int 0)]))])
/-- a sign by its number -/
def sg (i : Int) : Str := ⟨#[97 + i.toNat]⟩
theorem sg_ok (i : Int) (h : 0 ≤ i ∧ i < 26) : SG 1 (sg i) := by
  refine ⟨strOk_iff.mpr fun c hc => ?_, Nat.le_refl _⟩
  have hc : c = 97 + i.toNat := by simpa [sg] using hc
  rw [hc]
  have : i.toNat < 26 := by omega
  omega
theorem sign_sg (i : Int) (h : 0 ≤ i ∧ i < 26) : idxD (.str abc) (.int i) = some (.str (sg i)) := by
  have hz : small abc.length = true := by decide +kernel
  have tab : (List.range 26).all (fun k => decide (L2.atI abc.cps.toList (k : Int) = some (97 + k))) = true := by decide +kernel
  have ha := of_decide_eq_true (List.all_eq_true.mp tab i.toNat (List.mem_range.mpr (by omega)))
  have e : ((i.toNat : Nat) : Int) = i := Int.toNat_of_nonneg h.1
  rw [e] at ha
  unfold idxD
  dsimp only
  rw [if_pos hz, ha]
  rfl
def nmS (y1 y2 : Str) (f i : Int) : Str := y1 ++ sg ((f + i) % 26) ++ y2
def nmD (y1 y2 : Str) (f : Int) : D → D
  | .int i => .str (nmS y1 y2 f i)
  | _ => .non
theorem str_inj {x y : Str} (h : x.cps.toList = y.cps.toList) : x = y := by
  cases x; cases y
  congr
  exact Array.toList_inj.mp h
theorem app_l (x y : Str) : (x ++ y).cps.toList = x.cps.toList ++ y.cps.toList := Array.toList_append
theorem nmS_inj {y1 y2 : Str} {f i j : Int} (hi : 0 ≤ i ∧ i < 26) (hj : 0 ≤ j ∧ j < 26) (h : nmS y1 y2 f i = nmS y1 y2 f j) : i = j := by
  have h := congrArg (fun s : Str => s.cps.toList) h
  dsimp only [nmS] at h
  rw [app_l, app_l, app_l, app_l] at h
  have h := List.append_cancel_right h
  have h := List.append_cancel_left h
  have h : 97 + ((f + i) % 26).toNat = 97 + ((f + j) % 26).toNat := by simpa [sg] using h
  omega
theorem nm_nodup (y1 y2 : Str) (f : Int) (m : Nat) (hm : m ≤ 26) : ((List.range m).map fun (k : Nat) => nmS y1 y2 f (k : Int)).Nodup := by
  refine List.pairwise_map.mpr ?_
  refine List.Pairwise.imp_of_mem ?_ (List.nodup_range (n := m))
  intro a b ha hb ne h
  have ha := List.mem_range.mp ha
  have hb := List.mem_range.mp hb
  exact ne (by have := nmS_inj (by omega) (by omega) h; omega)
theorem names_ok {T : Tb} {t : Nat} (hT : TakeOk (T.fn t)) {s0 : Store} {n c : Nat} {st : Store} {many : Int} (h : PO s0 n c st) (hc : c < 900000) (hm : 0 ≤ many ∧ many ≤ 26) :
    ∃ (ss : List Str) (st' : Store), runF T 4 8 (bNames t) [.ref n, .int many, .str abc, .int 4] st = .ok (.lst (ss.map .str)) st' ∧ PO s0 n (c + 10) st' ∧ ss.length = many.toNat ∧ (∀ x ∈ ss, SG 20 x) ∧ ss.Nodup := by
  obtain ⟨w, st1, t1, t2, t3⟩ := hT.go (many := 4) h (by omega) (by decide)
  have emp : SG 0 (Str.ofString "") := ⟨by decide +kernel, by decide⟩
  obtain ⟨ds, st2, q1, q2, q3⟩ := comp_st (T := T) (own := [5]) (p := .nm 5) (it := .rng1 (.call t (asL [.var 0, .var 3]))) (c := .no) (e := .idx (.var 2) (.call t (asL [.var 0, .lit (.int 26)])))
    (env := [some (.val (.ref n)), some (.val (.int many)), some (.val (.str abc)), some (.val (.int 4)), none, none, none, none]) (st := st) (st1 := st1) (xs := rngD 0 w) (R := fun _ d => ∃ y, d = .str y ∧ SG 1 y ∧ y.length = 1) (I := fun j st => PO s0 n (c + 1 + j) st) rfl (by
      have hz : (decide (-(2 ^ 62) ≤ w) && decide (w < 2 ^ 62)) = true := by rw [Bool.and_eq_true]; exact ⟨decide_eq_true (by omega), decide_eq_true (by omega)⟩
      simp only [ssL, asL, psL, exs, ex, ev, evs, evbs, evAnd, evOr, evo, evc, evi, evB, valAt, borAt, ownAt, List.map_cons, List.map_nil, rep0, rep1, rep2, rep3, rep4, rep5, rep6, rep7, rep8, rep9, rep10, rep11, rep12, rep13, drf_ty, List.cons_append, List.nil_append, Nat.reduceSub, List.getElem?_cons_zero, List.getElem?_cons_succ, of_some, of_none, bind_ok, bind_ex, bind_no, go_ok, go_ex, go_no, nox_ok, drf_int, drf_str, drf_bl, drf_non, drf_tup, drf_lst, drf_dct, idxD_lst, idxD_tup, idxD_dct, cmpD, truD, binD, augD, bindP, bindPs, oSR, List.set_cons_zero, List.set_cons_succ, then_nx, then_rt, then_bk, then_ct, then_no, primD, Option.map_some, Option.map_none, if_true, Bool.false_eq_true, if_false, decide_true, decide_false, t1, hz]) (fun x hx j st hj hI => by
      rw [rngD_len _ t2.1] at hj
      obtain ⟨r, st3, e1, e2, e3⟩ := hT.go (many := 26) hI (by omega) (by decide)
      obtain ⟨y, s1, s2, s3⟩ := sign_at r e2
      refine ⟨_, rfl, st, rfl, .str y, st3, ?_, ⟨y, rfl, s2, s3⟩, e3⟩
      have : wipeE [some (.val (.ref n)), some (.val (.int many)), some (.val (.str abc)), some (.val (.int 4)), none, none, none, none] [5] = [some (.val (.ref n)), some (.val (.int many)), some (.val (.str abc)), some (.val (.int 4)), none, none, none, none] := rfl
      rw [this]
      have s1' : idxD (drf st3 (.str abc)) (.int r) = some (.str y) := s1
      simp only [ssL, asL, ev, evs, evB, valAt, borAt, List.set_cons_zero, List.set_cons_succ, List.getElem?_cons_zero, List.getElem?_cons_succ, of_some, bind_ok, e1, s1']) (by rw [rngD_len _ t2.1]; exact Nat.le_trans (by omega : w.toNat ≤ 4) (by decide)) t3
  rw [rngD_len _ t2.1] at q3
  obtain ⟨bs, rfl, b1, b2⟩ := strs_all2 q2
  rw [rngD_len _ t2.1] at b2
  have hb : SG 4 (Txt.join (Str.ofString "") bs) := ⟨join_ok bs fun x hx => (b1 x hx).1.1, by rw [PySem.W.KT.join_ones bs fun x hx => (b1 x hx).2]; omega⟩
  have hj : mthD .join (.str (Str.ofString "")) [.lst (bs.map .str)] = some (.str (Txt.join (Str.ofString "") bs)) := by
    unfold mthD
    dsimp only
    rw [strsOf_map2]
    dsimp only
    rw [if_pos]
    have e1 : (Str.ofString "").length = 0 := by decide
    have e2 : (bs.map Str.length).sum = bs.length := by
      have : ∀ l : List Str, (∀ x ∈ l, x.length = 1) → (l.map Str.length).sum = l.length := fun l => by
        induction l with
        | nil => intro _; rfl
        | cons x r ih => intro h; rw [List.map_cons, List.sum_cons, List.length_cons, h x List.mem_cons_self, ih fun y hy => h y (List.mem_cons_of_mem _ hy)]; omega
      exact this bs fun x hx => (b1 x hx).2
    rw [e1, e2]
    exact decide_eq_true (by omega)
  generalize hB : Txt.join (Str.ofString "") bs = B at hb hj
  have q3 : PO s0 n (c + 6) st2 := q3.up (by omega)
  have hsm : small B.length = true := decide_eq_true (Nat.le_trans hb.2 (by decide))
  obtain ⟨k, st3, k1, k2, k3⟩ := hT.go (many := (B.length : Int) + 1) q3 (by omega) ⟨by omega, by have := hb.2; omega⟩
  obtain ⟨f, st4, f1, f2, f3⟩ := hT.go (many := 26) k3 (by omega) (by decide)
  obtain ⟨y1, s1, g1⟩ := slD_str hb (by decide) none (some k)
  obtain ⟨y2, s2, g2⟩ := slD_str hb (by decide) (some k) none
  -- one name
  have gs : ∀ i : Int, SG 20 (nmS y1 y2 f i) := fun i => ((g1.app (sg_ok ((f + i) % 26) (mod_rng _ (by decide)))).app g2).mono (by decide)
  have gg2 : ∀ x ∈ rngD 0 many, ev T (.bin .Add (.bin .Add (.sl (.var 4) .no (.so (.var 6))) (.idx (.var 2) (.bin .Mod (.bin .Add (.var 7) (.var 5)) (.lit (.int 26))))) (.sl (.var 4) (.so (.var 6)) .no))
      [some (.val (.ref n)), some (.val (.int many)), some (.val (.str abc)), some (.val (.int 4)), some (.val (.str B)), some (.val x), some (.val (.int k)), some (.val (.int f))] st4 = .ok (nmD y1 y2 f x) st4 := by
    intro x hx
    obtain ⟨i, rfl, i1, i2⟩ := rngD_mem hx
    have z1 := sign_sg ((f + i) % 26) (mod_rng _ (by decide))
    have z2 := sg_ok ((f + i) % 26) (mod_rng _ (by decide))
    have a1 := g1.app z2
    have w1 : small (y1.length + (sg ((f + i) % 26)).length) = true := decide_eq_true (by have := g1.2; have := z2.2; exact Nat.le_trans (by omega : y1.length + (sg ((f + i) % 26)).length ≤ 5) (by decide))
    have w2 : small ((y1 ++ sg ((f + i) % 26)).length + y2.length) = true := decide_eq_true (by have := a1.2; have := g2.2; exact Nat.le_trans (by omega : (y1 ++ sg ((f + i) % 26)).length + y2.length ≤ 9) (by decide))
    have f26 : (0 : Int) < 26 := by decide
    simp only [ssL, asL, psL, exs, ex, ev, evs, evbs, evAnd, evOr, evo, evc, evi, evB, valAt, borAt, ownAt, List.map_cons, List.map_nil, rep0, rep1, rep2, rep3, rep4, rep5, rep6, rep7, rep8, rep9, rep10, rep11, rep12, rep13, drf_ty, List.cons_append, List.nil_append, Nat.reduceSub, List.getElem?_cons_zero, List.getElem?_cons_succ, of_some, of_none, bind_ok, bind_ex, bind_no, go_ok, go_ex, go_no, nox_ok, drf_int, drf_str, drf_bl, drf_non, drf_tup, drf_lst, drf_dct, idxD_lst, idxD_tup, idxD_dct, cmpD, truD, binD, augD, bindP, bindPs, oSR, List.set_cons_zero, List.set_cons_succ, then_nx, then_rt, then_bk, then_ct, then_no, primD, Option.map_some, Option.map_none, if_true, Bool.false_eq_true, if_false, decide_true, decide_false, s1, s2, z1, w1, w2, f26, nmD, nmS]
  have hl26 : (rngD 0 many).length ≤ sizeLine := by rw [rngD_len _ hm.1]; exact Nat.le_trans (by omega : many.toNat ≤ 26) (by decide)
  have last := comp_map (T := T) (own := [5]) (p := .nm 5) (it := .rng1 (.var 1)) (c := .no) (e := .bin .Add (.bin .Add (.sl (.var 4) .no (.so (.var 6))) (.idx (.var 2) (.bin .Mod (.bin .Add (.var 7) (.var 5)) (.lit (.int 26))))) (.sl (.var 4) (.so (.var 6)) .no))
    (env := [some (.val (.ref n)), some (.val (.int many)), some (.val (.str abc)), some (.val (.int 4)), some (.val (.str B)), none, some (.val (.int k)), some (.val (.int f))]) (st := st4) (st1 := st4) (xs := rngD 0 many) (g := nmD y1 y2 f) rfl (by
      have hz : (decide (-(2 ^ 62) ≤ many) && decide (many < 2 ^ 62)) = true := by rw [Bool.and_eq_true]; exact ⟨decide_eq_true (by omega), decide_eq_true (by omega)⟩
      simp only [ssL, asL, psL, exs, ex, ev, evs, evbs, evAnd, evOr, evo, evc, evi, evB, valAt, borAt, ownAt, List.map_cons, List.map_nil, rep0, rep1, rep2, rep3, rep4, rep5, rep6, rep7, rep8, rep9, rep10, rep11, rep12, rep13, drf_ty, List.cons_append, List.nil_append, Nat.reduceSub, List.getElem?_cons_zero, List.getElem?_cons_succ, of_some, of_none, bind_ok, bind_ex, bind_no, go_ok, go_ex, go_no, nox_ok, drf_int, drf_str, drf_bl, drf_non, drf_tup, drf_lst, drf_dct, idxD_lst, idxD_tup, idxD_dct, cmpD, truD, binD, augD, bindP, bindPs, oSR, List.set_cons_zero, List.set_cons_succ, then_nx, then_rt, then_bk, then_ct, then_no, primD, Option.map_some, Option.map_none, if_true, Bool.false_eq_true, if_false, decide_true, decide_false, hz]) (fun x hx => ⟨_, rfl, rfl, gg2 x hx⟩) hl26
  have r1 : (rngD 0 many).map (nmD y1 y2 f) = ((List.range many.toNat).map fun (k : Nat) => nmS y1 y2 f (k : Int)).map .str := by
    unfold rngD
    rw [Int.sub_zero, List.map_map, List.map_map]
    refine List.map_congr_left fun k _ => ?_
    show D.str (nmS y1 y2 f (0 + (k : Int))) = D.str (nmS y1 y2 f (k : Int))
    rw [Int.zero_add]
  refine ⟨(List.range many.toNat).map fun (k : Nat) => nmS y1 y2 f (k : Int), st4, ?_, f3.up (by omega), by rw [List.length_map, List.length_range], fun x hx => ?_, nm_nodup y1 y2 f many.toNat (by omega)⟩
  rotate_left
  · obtain ⟨k, _, rfl⟩ := List.mem_map.mp hx
    exact gs k
  unfold runF bNames
  rw [if_pos (show [D.ref n, D.int many, .str abc, .int 4].length = 4 from rfl)]
  rw [r1] at last
  have hj' : ev T (.mth .join (.lit (.str "")) (asL [.comp [5] (.nm 5) (.rng1 (.call t (asL [.var 0, .var 3]))) .no (.idx (.var 2) (.call t (asL [.var 0, .lit (.int 26)])))])) [some (.val (.ref n)), some (.val (.int many)), some (.val (.str abc)), some (.val (.int 4)), none, none, none, none] st = .ok (.str B) st2 := by
    unfold ev
    have hv : evbs T (asL [.comp [5] (.nm 5) (.rng1 (.call t (asL [.var 0, .var 3]))) .no (.idx (.var 2) (.call t (asL [.var 0, .lit (.int 26)])))]) [some (.val (.ref n)), some (.val (.int many)), some (.val (.str abc)), some (.val (.int 4)), none, none, none, none] st = .ok [.lst (bs.map .str)] st2 := by
      have e1 : ∀ A : A, evB A [some (.val (.ref n)), some (.val (.int many)), some (.val (.str abc)), some (.val (.int 4)), none, none, none, none] st (ev T A [some (.val (.ref n)), some (.val (.int many)), some (.val (.str abc)), some (.val (.int 4)), none, none, none, none] st) = .ok (.lst (bs.map .str)) st2 → evbs T (asL [A]) [some (.val (.ref n)), some (.val (.int many)), some (.val (.str abc)), some (.val (.int 4)), none, none, none, none] st = .ok [.lst (bs.map .str)] st2 := fun A h => by
        simp only [asL, evbs, h, bind_ok]
      exact e1 _ q1
    show (if mTy .join (drf st (D.str "")) = true then (evbs T (asL [.comp [5] (.nm 5) (.rng1 (.call t (asL [.var 0, .var 3]))) .no (.idx (.var 2) (.call t (asL [.var 0, .lit (.int 26)])))]) [some (.val (.ref n)), some (.val (.int many)), some (.val (.str abc)), some (.val (.int 4)), none, none, none, none] st).bind (fun ds st => Res.of (mthD .join (drf st (.str "")) (ds.map (drf st))) st) else (Res.no : Res D)) = _
    rw [if_pos (show mTy .join (drf st (D.str "")) = true from rfl), hv]
    show Res.of (mthD .join (.str (Str.ofString "")) [.lst (bs.map .str)]) st2 = _
    rw [hj]
    rfl
  have pr : small 2 = true := by decide
  generalize (A.mth .join (.lit (.str "")) (asL [.comp [5] (.nm 5) (.rng1 (.call t (asL [.var 0, .var 3]))) .no (.idx (.var 2) (.call t (asL [.var 0, .lit (.int 26)])))])) = M at hj' ⊢
  generalize (A.comp [5] (.nm 5) (.rng1 (.var 1)) .no (.bin .Add (.bin .Add (.sl (.var 4) .no (.so (.var 6))) (.idx (.var 2) (.bin .Mod (.bin .Add (.var 7) (.var 5)) (.lit (.int 26))))) (.sl (.var 4) (.so (.var 6)) .no))) = Cc at last ⊢
  simp only [ssL, asL, psL, exs, ex, ev, evs, evbs, evAnd, evOr, evo, evc, evi, evB, valAt, borAt, ownAt, List.map_cons, List.map_nil, rep0, rep1, rep2, rep3, rep4, rep5, rep6, rep7, rep8, rep9, rep10, rep11, rep12, rep13, drf_ty, List.cons_append, List.nil_append, Nat.reduceSub, List.getElem?_cons_zero, List.getElem?_cons_succ, of_some, of_none, bind_ok, bind_ex, bind_no, go_ok, go_ex, go_no, nox_ok, drf_int, drf_str, drf_bl, drf_non, drf_tup, drf_lst, drf_dct, idxD_lst, idxD_tup, idxD_dct, cmpD, truD, binD, augD, bindP, bindPs, oSR, List.set_cons_zero, List.set_cons_succ, then_nx, then_rt, then_bk, then_ct, then_no, primD, Option.map_some, Option.map_none, if_true, Bool.false_eq_true, if_false, decide_true, decide_false, hj', hsm, k1, f1, pr, List.length_cons, List.length_nil, last]

def NamesOk (f : List D → Store → Res D) : Prop := ∀ (s0 : Store) (n c : Nat) (st : Store) (many : Int), PO s0 n c st → c < 900000 → (0 ≤ many ∧ many ≤ 26) →
    ∃ (ss : List Str) (st' : Store), f [.ref n, .int many, .str abc, .int 4] st = .ok (.lst (ss.map .str)) st' ∧ PO s0 n (c + 10) st' ∧ ss.length = many.toNat ∧ (∀ x ∈ ss, SG 20 x) ∧ ss.Nodup
theorem names_all {T : Tb} {t : Nat} (hT : TakeOk (T.fn t)) : NamesOk (runF T 4 8 (bNames t)) := fun s0 n c st many h hc hm => names_ok hT h hc hm
def encP (p : Str × Int) : D := .tup [.str p.1, .int p.2]
theorem choices_ok {T : Tb} {t nm : Nat} (hT : TakeOk (T.fn t)) (hN : NamesOk (T.fn nm)) {s0 : Store} {n c : Nat} {st : Store} {most : Int} (h : PO s0 n c st) (hc : c < 800000) (hm : 0 ≤ most ∧ most ≤ 20) :
    ∃ (cs : List (Str × Int)) (st' : Store), runF T 2 5 (bChoices t nm) [.ref n, .int most] st = .ok (.lst (cs.map encP)) st' ∧ PO s0 n (c + 40) st' ∧ cs.length ≤ most.toNat ∧ (∀ p ∈ cs, SG 20 p.1 ∧ 2 ≤ p.2 ∧ p.2 ≤ 4) ∧ (cs.map (·.1)).Nodup := by
  obtain ⟨m, st1, t1, t2, t3⟩ := hT.go (many := most + 1) h (by omega) ⟨by omega, by omega⟩
  obtain ⟨ss, st2, n1, n2, n3, n4, n5⟩ := hN s0 n _ st1 m t3 (by omega) ⟨t2.1, by omega⟩
  have n1' : T.fn nm [D.ref n, D.int m, D.str (Str.ofString "abcdefghijklmnopqrstuvwxyz"), D.int 4] st1 = .ok (.lst (ss.map .str)) st2 := n1
  obtain ⟨ds, st3, q1, q2, q3⟩ := comp_st (T := T) (own := [4]) (p := .nm 4) (it := .seq (.var 3)) (c := .no) (e := .tup (asL [.var 4, .bin .Add (.lit (.int 2)) (.call t (asL [.var 0, .lit (.int 3)]))]))
    (env := [some (.val (.ref n)), some (.val (.int most)), some (.val (.int m)), some (.val (.lst (ss.map .str))), none]) (st := st2) (st1 := st2) (xs := ss.map .str) (R := fun x d => ∃ s i, x = .str s ∧ d = encP (s, i) ∧ 2 ≤ i ∧ i ≤ 4) (I := fun j st => PO s0 n (c + 1 + 10 + j) st) rfl rfl (fun x hx j st hj hI => by
      obtain ⟨s, hs, rfl⟩ := List.mem_map.mp hx
      rw [List.length_map, n3] at hj
      obtain ⟨r, st4, e1, e2, e3⟩ := hT.go (many := 3) hI (by omega) (by decide)
      refine ⟨_, rfl, st, rfl, encP (s, 2 + r), st4, ?_, ⟨s, 2 + r, rfl, rfl, by omega, by omega⟩, e3⟩
      have : wipeE [some (.val (.ref n)), some (.val (.int most)), some (.val (.int m)), some (.val (.lst (ss.map .str))), none] [4] = [some (.val (.ref n)), some (.val (.int most)), some (.val (.int m)), some (.val (.lst (ss.map .str))), none] := rfl
      rw [this]
      have pr : small 2 = true := by decide
      simp only [ssL, asL, psL, exs, ex, ev, evs, evbs, evAnd, evOr, evo, evc, evi, evB, valAt, borAt, ownAt, List.map_cons, List.map_nil, rep0, rep1, rep2, rep3, rep4, rep5, rep6, rep7, rep8, rep9, rep10, rep11, rep12, rep13, drf_ty, List.cons_append, List.nil_append, Nat.reduceSub, List.getElem?_cons_zero, List.getElem?_cons_succ, of_some, of_none, bind_ok, bind_ex, bind_no, go_ok, go_ex, go_no, nox_ok, drf_int, drf_str, drf_bl, drf_non, drf_tup, drf_lst, drf_dct, idxD_lst, idxD_tup, idxD_dct, cmpD, truD, binD, augD, bindP, bindPs, oSR, List.set_cons_zero, List.set_cons_succ, then_nx, then_rt, then_bk, then_ct, then_no, primD, Option.map_some, Option.map_none, if_true, Bool.false_eq_true, if_false, decide_true, decide_false, e1, List.length_cons, List.length_nil, pr, encP]) (by rw [List.length_map, n3]; exact Nat.le_trans (by omega : m.toNat ≤ 20) (by decide)) n2
  have cs2 : ∀ (xs : List Str) (ds : List D), All2 (fun x d => ∃ s i, x = .str s ∧ d = encP (s, i) ∧ 2 ≤ i ∧ i ≤ 4) (xs.map .str) ds → ∃ cs : List (Str × Int), ds = cs.map encP ∧ cs.map (·.1) = xs ∧ ∀ p ∈ cs, p.1 ∈ xs ∧ 2 ≤ p.2 ∧ p.2 ≤ 4 := fun xs => by
    induction xs with
    | nil => intro ds h; cases h; exact ⟨[], rfl, rfl, fun _ h => (by cases h)⟩
    | cons x r ih =>
      intro ds h
      cases h with
      | cons h1 h2 =>
        obtain ⟨s, i, e1, rfl, i1, i2⟩ := h1
        cases e1
        obtain ⟨cs, rfl, c1, c2⟩ := ih _ h2
        refine ⟨(x, i) :: cs, rfl, by rw [List.map_cons, c1], fun p hp => ?_⟩
        rcases List.mem_cons.mp hp with z | z
        · rw [z]; exact ⟨List.mem_cons_self, i1, i2⟩
        · obtain ⟨w1, w2⟩ := c2 p z
          exact ⟨List.mem_cons_of_mem _ w1, w2⟩
  obtain ⟨cs, rfl, c1, c2⟩ := cs2 _ _ q2
  rw [List.length_map] at q3
  have cl : cs.length = ss.length := by rw [← c1, List.length_map]
  refine ⟨cs, st3, ?_, q3.up (by omega), by rw [cl, n3]; omega, fun p hp => ⟨n4 _ (c2 p hp).1, (c2 p hp).2⟩, by rw [c1]; exact n5⟩
  unfold runF bChoices
  rw [if_pos (show [D.ref n, D.int most].length = 2 from rfl)]
  generalize (A.comp [4] (.nm 4) (.seq (.var 3)) .no (.tup (asL [.var 4, .bin .Add (.lit (.int 2)) (.call t (asL [.var 0, .lit (.int 3)]))]))) = Cc at q1 ⊢
  simp only [ssL, asL, psL, exs, ex, ev, evs, evbs, evAnd, evOr, evo, evc, evi, evB, valAt, borAt, ownAt, List.map_cons, List.map_nil, rep0, rep1, rep2, rep3, rep4, rep5, rep6, rep7, rep8, rep9, rep10, rep11, rep12, rep13, drf_ty, List.cons_append, List.nil_append, Nat.reduceSub, List.getElem?_cons_zero, List.getElem?_cons_succ, of_some, of_none, bind_ok, bind_ex, bind_no, go_ok, go_ex, go_no, nox_ok, drf_int, drf_str, drf_bl, drf_non, drf_tup, drf_lst, drf_dct, idxD_lst, idxD_tup, idxD_dct, cmpD, truD, binD, augD, bindP, bindPs, oSR, List.set_cons_zero, List.set_cons_succ, then_nx, then_rt, then_bk, then_ct, then_no, primD, Option.map_some, Option.map_none, if_true, Bool.false_eq_true, if_false, decide_true, decide_false, t1, n1', q1]
end LB
end

section
set_option Elab.async false
set_option linter.all false
set_option maxRecDepth 100000
set_option maxHeartbeats 4000000
/-! LBc: parts, the purse, the program's own counting. -/
namespace LB
open PySem L3
/-- a part of choices -/
inductive PartOf : List (Str × Int) → List (Str × Int) → Prop
  | nil : PartOf [] []
  | skip {c : Str × Int} {cs ps : List (Str × Int)} : PartOf cs ps → PartOf (c :: cs) ps
  | take {c : Str × Int} {o : Int} {cs ps : List (Str × Int)} : 0 ≤ o → o < c.2 → PartOf cs ps → PartOf (c :: cs) ((c.1, o) :: ps)
theorem PartOf.skipS {cs ps : List (Str × Int)} (h : PartOf cs ps) (c : Str × Int) : PartOf (cs ++ [c]) ps := by
  induction h with
  | nil => exact .skip .nil
  | skip _ ih => exact .skip ih
  | take a b _ ih => exact .take a b ih
theorem PartOf.takeS {cs ps : List (Str × Int)} (h : PartOf cs ps) (c : Str × Int) {o : Int} (h0 : 0 ≤ o) (h1 : o < c.2) : PartOf (cs ++ [c]) (ps ++ [(c.1, o)]) := by
  induction h with
  | nil => exact .take h0 h1 .nil
  | skip _ ih => exact .skip ih
  | take a b _ ih => exact .take a b ih
theorem PartOf.len {cs ps : List (Str × Int)} (h : PartOf cs ps) : ps.length ≤ cs.length := by
  induction h with
  | nil => exact Nat.le_refl _
  | skip _ ih => exact Nat.le_succ_of_le ih
  | take _ _ _ ih => exact Nat.succ_le_succ ih
theorem PartOf.mem {cs ps : List (Str × Int)} (h : PartOf cs ps) : ∀ p ∈ ps, ∃ c ∈ cs, c.1 = p.1 ∧ 0 ≤ p.2 ∧ p.2 < c.2 := by
  induction h with
  | nil => intro p hp; cases hp
  | skip _ ih => intro p hp; obtain ⟨c, h1, h2⟩ := ih p hp; exact ⟨c, List.mem_cons_of_mem _ h1, h2⟩
  | take a b _ ih =>
    intro p hp
    rcases List.mem_cons.mp hp with e | hp
    · rw [e]; exact ⟨_, List.mem_cons_self, rfl, a, b⟩
    · obtain ⟨c, h1, h2⟩ := ih p hp; exact ⟨c, List.mem_cons_of_mem _ h1, h2⟩
theorem PartOf.all_nil : ∀ cs : List (Str × Int), PartOf cs []
  | [] => .nil
  | _ :: r => .skip (PartOf.all_nil r)
/-- what the loop over the open ones keeps -/
def PI7 (s0 : Store) (n c : Nat) (cs : List (Str × Int)) (share : Int) (r : List D) (env : L3.Env) (st : Store) : Prop := ∃ (done rest ps : List (Str × Int)) (x4 x5 x6 : Option Sl), cs = done ++ rest ∧ r = rest.map encP ∧ PartOf done ps ∧
  env = [some (.val (.ref n)), some (.val (.lst (cs.map encP))), some (.val (.int share)), some (.own (.lst (ps.map encP))), x4, x5, x6] ∧ PO s0 n (c + 2 * done.length) st
def PartsOk (f : List D → Store → Res D) : Prop := ∀ (s0 : Store) (n c : Nat) (st : Store) (cs : List (Str × Int)) (share : Int), PO s0 n c st → c < 800000 → cs.length ≤ 1000 → (0 < share ∧ share < 1000) → (∀ p ∈ cs, 0 < p.2 ∧ p.2 < 1000) →
    ∃ (ps : List (Str × Int)) (st' : Store), f [.ref n, .lst (cs.map encP), .int share] st = .ok (.tup (ps.map encP)) st' ∧ PO s0 n (c + 2 * cs.length) st' ∧ PartOf cs ps
theorem part_all {T : Tb} {t : Nat} (hT : TakeOk (T.fn t)) : PartsOk (runF T 3 7 (bPart t)) := by
  intro s0 n c st cs share h hc hl hs hg
  obtain ⟨env', st', f1, done, rest, ps, x4, x5, x6, he, hr, hp, rfl, hpo⟩ := forGo_inv (p := .tp (psL [.nm 4, .nm 5])) (f := fun e s => exs T (ssL [.asg (.nm 6) (.call t (asL [.var 0, .var 5])), .if_ (.cmp .Eq (.call t (asL [.var 0, .var 2])) (.lit (.int 0))) (ssL [.app 3 (.tup (asL [.var 4, .var 6]))]) (ssL [])]) e s)
    (I := PI7 s0 n c cs share) (cs.map encP) [some (.val (.ref n)), some (.val (.lst (cs.map encP))), some (.val (.int share)), some (.own (.lst [])), none, none, none] st (fun x r env st hI => by
      obtain ⟨done, rest, ps, x4, x5, x6, he, hr, hp, rfl, hpo⟩ := hI
      cases rest with
      | nil => cases hr
      | cons p rest =>
        rw [List.map_cons] at hr
        cases hr
        have hlen : cs.length = done.length + rest.length + 1 := by rw [he, List.length_append, List.length_cons]; omega
        obtain ⟨g1, g2⟩ := hg p (by rw [he]; exact List.mem_append_right _ List.mem_cons_self)
        obtain ⟨o, st1, t1, t2, t3⟩ := hT.go (many := p.2) hpo (by omega) ⟨g1, by omega⟩
        obtain ⟨z, st2, u1, u2, u3⟩ := hT.go (many := share) t3 (by omega) ⟨hs.1, by omega⟩
        have pr : small 2 = true := by decide
        have hc2 : cs = (done ++ [p]) ++ rest := by rw [he, List.append_assoc]; rfl
        have hpl := hp.len
        have hcnt : c + 2 * done.length + 1 + 1 ≤ c + 2 * (done ++ [p]).length := by rw [List.length_append, List.length_singleton]; omega
        refine ⟨_, rfl, ?_⟩
        by_cases hz : z = 0
        · subst hz
          have hsz : decide ((ps.map encP).length < sizeLine) = true := decide_eq_true (by rw [List.length_map]; exact Nat.lt_of_le_of_lt (by omega : ps.length ≤ 1000) (by decide))
          refine ⟨_, _, .inl (by simp only [ssL, asL, psL, exs, ex, ev, evs, evbs, evAnd, evOr, evo, evc, evi, evB, valAt, borAt, ownAt, List.map_cons, List.map_nil, rep0, rep1, rep2, rep3, rep4, rep5, rep6, rep7, rep8, rep9, rep10, rep11, rep12, rep13, drf_ty, List.cons_append, List.nil_append, Nat.reduceSub, List.getElem?_cons_zero, List.getElem?_cons_succ, of_some, of_none, bind_ok, bind_ex, bind_no, go_ok, go_ex, go_no, nox_ok, drf_int, drf_str, drf_bl, drf_non, drf_tup, drf_lst, drf_dct, idxD_lst, idxD_tup, idxD_dct, cmpD, truD, binD, augD, bindP, bindPs, oSR, List.set_cons_zero, List.set_cons_succ, then_nx, then_rt, then_bk, then_ct, then_no, primD, Option.map_some, Option.map_none, if_true, Bool.false_eq_true, if_false, decide_true, decide_false, t1, u1, eqD_int, pr, List.length_cons, List.length_nil, hsz, beq_self_eq_true]; rfl), done ++ [p], rest, ps ++ [(p.1, o)], some (.val (.str p.1)), some (.val (.int p.2)), some (.val (.int o)), hc2, rfl, hp.takeS p t2.1 t2.2, by rw [List.map_append]; rfl, u3.up hcnt⟩
        · have hzb : (z == 0) = false := beq_eq_false_iff_ne.mpr hz
          exact ⟨_, _, .inl (by simp only [ssL, asL, psL, exs, ex, ev, evs, evbs, evAnd, evOr, evo, evc, evi, evB, valAt, borAt, ownAt, List.map_cons, List.map_nil, rep0, rep1, rep2, rep3, rep4, rep5, rep6, rep7, rep8, rep9, rep10, rep11, rep12, rep13, drf_ty, List.cons_append, List.nil_append, Nat.reduceSub, List.getElem?_cons_zero, List.getElem?_cons_succ, of_some, of_none, bind_ok, bind_ex, bind_no, go_ok, go_ex, go_no, nox_ok, drf_int, drf_str, drf_bl, drf_non, drf_tup, drf_lst, drf_dct, idxD_lst, idxD_tup, idxD_dct, cmpD, truD, binD, augD, bindP, bindPs, oSR, List.set_cons_zero, List.set_cons_succ, then_nx, then_rt, then_bk, then_ct, then_no, primD, Option.map_some, Option.map_none, if_true, Bool.false_eq_true, if_false, decide_true, decide_false, t1, u1, eqD_int, hzb]), done ++ [p], rest, ps, some (.val (.str p.1)), some (.val (.int p.2)), some (.val (.int o)), hc2, rfl, hp.skipS p, rfl, u3.up hcnt⟩)
      ⟨[], cs, [], none, none, none, rfl, rfl, .nil, rfl, by simpa using h⟩
  have hr0 : rest = [] := by cases rest with | nil => rfl | cons a b => cases hr
  subst hr0
  rw [List.append_nil] at he
  subst he
  refine ⟨ps, st', ?_, hpo, hp⟩
  unfold runF bPart
  rw [if_pos (show [D.ref n, .lst (cs.map encP), D.int share].length = 3 from rfl)]
  have pr : small 0 = true := by decide
  generalize (ssL [.asg (.nm 6) (.call t (asL [.var 0, .var 5])), .if_ (.cmp .Eq (.call t (asL [.var 0, .var 2])) (.lit (.int 0))) (ssL [.app 3 (.tup (asL [.var 4, .var 6]))]) (ssL [])]) = Bd at f1 ⊢
  have f1' : forGo (Pat.tp (Pats.cons (Pat.nm 4) (Pats.cons (Pat.nm 5) Pats.nil))) (fun e s => exs T Bd e s) (cs.map encP) [some (.val (.ref n)), some (.val (.lst (cs.map encP))), some (.val (.int share)), some (.own (.lst [])), none, none, none] st = _ := f1
  simp only [ssL, asL, psL, exs, ex, ev, evs, evbs, evAnd, evOr, evo, evc, evi, evB, valAt, borAt, ownAt, List.map_cons, List.map_nil, rep0, rep1, rep2, rep3, rep4, rep5, rep6, rep7, rep8, rep9, rep10, rep11, rep12, rep13, drf_ty, List.cons_append, List.nil_append, Nat.reduceSub, List.getElem?_cons_zero, List.getElem?_cons_succ, of_some, of_none, bind_ok, bind_ex, bind_no, go_ok, go_ex, go_no, nox_ok, drf_int, drf_str, drf_bl, drf_non, drf_tup, drf_lst, drf_dct, idxD_lst, idxD_tup, idxD_dct, cmpD, truD, binD, augD, bindP, bindPs, oSR, List.set_cons_zero, List.set_cons_succ, then_nx, then_rt, then_bk, then_ct, then_no, primD, Option.map_some, Option.map_none, if_true, Bool.false_eq_true, if_false, decide_true, decide_false, List.length_nil, pr, D.toO, f1', DO.toD]
def PurseOk (f : List D → Store → Res D) : Prop := ∀ (ns : List Int) (k : Nat) (st : Store), k < 100000 → ∃ st', f [.lst (ns.map .int), .int k] st = .ok (.ref st.length) st' ∧ PO st' st.length 0 st'
theorem purse_ok {T : Tb} (ns : List Int) (k : Nat) (st : Store) (hk : k < 100000) : ∃ st', runF T 2 4 bPurse [.lst (ns.map .int), .int k] st = .ok (.ref st.length) st' ∧ PO st' st.length 0 st' := by
  have hpow : (powOk 10 18) = true := by decide +kernel
  have hM : (0 : Int) < 2305843009213693951 := by decide
  have m6 : mulOk 6607 (k : Int) = true := by unfold mulOk; rw [Bool.or_eq_true]; exact .inl (by decide)
  have p3 : small 3 = true := by decide
  have po : ∀ (a cell : Int), PO (st ++ [.lst [.int a, .int (cell % 2305843009213693951 + 6607 * (k : Int) + 3), .int 0]]) st.length 0 (st ++ [.lst [.int a, .int (cell % 2305843009213693951 + 6607 * (k : Int) + 3), .int 0]]) := fun a cell => by
    have := mod_rng cell hM
    exact ⟨⟨a, cell % 2305843009213693951 + 6607 * (k : Int) + 3, 0, by simp, by omega, by omega, by omega⟩, .lst [.int a, .int (cell % 2305843009213693951 + 6607 * (k : Int) + 3), .int 0], by simp⟩
  have mm : ∀ (x y : Int), mulOk x (if decide (y ≤ x) then 1 else 0) = true := fun x y => by
    unfold mulOk
    rw [Bool.or_eq_true]
    right
    split <;> decide
  by_cases hl : k < ns.length
  · have hd : decide ((k : Int) < ((ns.map D.int).length : Int)) = true := decide_eq_true (by rw [List.length_map]; omega)
    have ha : L2.atI (ns.map D.int) (k : Int) = some (.int ns[k]) := by
      unfold L2.atI L2.ixN
      rw [if_pos (by omega), if_pos (by rw [List.length_map]; omega)]
      show (ns.map D.int)[(k : Int).toNat]? = _
      rw [Int.toNat_natCast, List.getElem?_map, List.getElem?_eq_getElem hl]
      rfl
    refine ⟨_, ?_, po ((if ns[k] < 0 then -ns[k] else ns[k]) * (if decide ((10 : Int) ^ (18 : Int).toNat ≤ (if ns[k] < 0 then -ns[k] else ns[k])) = true then 1 else 0)) ns[k]⟩
    · unfold runF bPurse
      rw [if_pos (show [D.lst (ns.map D.int), D.int (k : Int)].length = 2 from rfl)]
      simp only [ssL, asL, psL, exs, ex, ev, evs, evbs, evAnd, evOr, evo, evc, evi, evB, valAt, borAt, ownAt, List.map_cons, List.map_nil, rep0, rep1, rep2, rep3, rep4, rep5, rep6, rep7, rep8, rep9, rep10, rep11, rep12, rep13, drf_ty, List.cons_append, List.nil_append, Nat.reduceSub, List.getElem?_cons_zero, List.getElem?_cons_succ, of_some, of_none, bind_ok, bind_ex, bind_no, go_ok, go_ex, go_no, nox_ok, drf_int, drf_str, drf_bl, drf_non, drf_tup, drf_lst, drf_dct, idxD_lst, idxD_tup, idxD_dct, cmpD, truD, binD, augD, bindP, bindPs, oSR, List.set_cons_zero, List.set_cons_succ, then_nx, then_rt, then_bk, then_ct, then_no, primD, Option.map_some, Option.map_none, if_true, Bool.false_eq_true, if_false, decide_true, decide_false, hd, ha, hpow, mm, hM, m6, p3, List.length_cons, List.length_nil]
      try rfl
  · have hd : decide ((k : Int) < ((ns.map D.int).length : Int)) = false := decide_eq_false (by rw [List.length_map]; omega)
    refine ⟨_, ?_, po ((if (0 : Int) < 0 then -0 else 0) * (if decide ((10 : Int) ^ (18 : Int).toNat ≤ (if (0 : Int) < 0 then -0 else 0)) = true then 1 else 0)) 0⟩
    · unfold runF bPurse
      rw [if_pos (show [D.lst (ns.map D.int), D.int (k : Int)].length = 2 from rfl)]
      simp only [ssL, asL, psL, exs, ex, ev, evs, evbs, evAnd, evOr, evo, evc, evi, evB, valAt, borAt, ownAt, List.map_cons, List.map_nil, rep0, rep1, rep2, rep3, rep4, rep5, rep6, rep7, rep8, rep9, rep10, rep11, rep12, rep13, drf_ty, List.cons_append, List.nil_append, Nat.reduceSub, List.getElem?_cons_zero, List.getElem?_cons_succ, of_some, of_none, bind_ok, bind_ex, bind_no, go_ok, go_ex, go_no, nox_ok, drf_int, drf_str, drf_bl, drf_non, drf_tup, drf_lst, drf_dct, idxD_lst, idxD_tup, idxD_dct, cmpD, truD, binD, augD, bindP, bindPs, oSR, List.set_cons_zero, List.set_cons_succ, then_nx, then_rt, then_bk, then_ct, then_no, primD, Option.map_some, Option.map_none, if_true, Bool.false_eq_true, if_false, decide_true, decide_false, hd, hpow, mm, hM, m6, p3, List.length_cons, List.length_nil]
      try rfl
theorem purse_all (T : Tb) : PurseOk (runF T 2 4 bPurse) := fun ns k st hk => purse_ok ns k st hk
end LB
end

section
set_option Elab.async false
set_option linter.all false
set_option maxRecDepth 100000
set_option maxHeartbeats 4000000
/-! LBd: lots counted, told, all of them. -/
namespace LB
open PySem L3
def bOpen : Ss := (ssL [.asg (.nm 2) (.prim .dict_ (asL [.var 1])), .ret (.comp [3, 4] (.tp (psL [.nm 3, .nm 4])) (.seq (.var 0)) .no (.ite (.cmp .In (.var 3) (.var 2)) (.tup (asL [.idx (.var 2) (.var 3), .lit (.int 1)])) (.tup (asL [.lit (.int 0), .var 4]))))])
def bCount (o : Nat) : Ss := (ssL [.asg (.nm 2) (.lit (.int 1)), .for_ (.tp (psL [.nm 3, .nm 4])) (.seq (.call o (asL [.var 0, .var 1]))) (ssL [.aug .Mult 2 (.var 4)]), .ret (.var 2)])
def bLotAt (o : Nat) : Ss := (ssL [.asg (.nm 3) (.var 1), .asgO 4 (.lst (asL [])), .for_ (.tp (psL [.nm 5, .nm 6])) (.revd (.call o (asL [.var 0, .var 2]))) (ssL [.asg (.tp (psL [.nm 3, .nm 7])) (.prim .divmod (asL [.var 3, .var 6])), .app 4 (.bin .Add (.var 5) (.var 7))]), .ret (.prim .tuple_ (asL [.rev (.var 4)]))])
def bLots : Ss := (ssL [.par2 2 3 (.lst (asL [.tup (asL [])])) (.prim .dict_ (asL [.var 1])), .for_ (.tp (psL [.nm 4, .nm 5])) (.seq (.var 0)) (ssL [.asgO 6 (.lst (asL [])), .for_ (.nm 7) (.seq (.var 2)) (ssL [.asg (.nm 8) (.ite (.cmp .In (.var 4) (.var 3)) (.lst (asL [.idx (.var 3) (.var 4)])) (.lrng (.rng1 (.var 5)))), .ext 6 (.comp [9] (.nm 9) (.seq (.var 8)) .no (.bin .Add (.var 7) (.tup (asL [.var 9]))))]), .frz 6 (.asg (.nm 2) (.var 6))]), .ret (.var 2)])
/-! ### what is settled -/
def kv (p : Str × Int) : D × D := (.str p.1, .int p.2)
def Sd (ps : List (Str × Int)) : List (D × D) := mergeD [] (ps.map kv)
theorem pairsOf_enc : ∀ ps : List (Str × Int), pairsOf (ps.map encP) = some (ps.map kv)
  | [] => rfl
  | p :: r => by
    show (match pairOf (encP p), pairsOf (r.map encP) with | some p, some ps => some (p :: ps) | _, _ => none) = _
    rw [pairsOf_enc r]
    rfl
theorem putD_int {l : List (D × D)} {k : D} {i : Int} (h : ∀ q ∈ l, ∃ j : Int, q.2 = .int j) : ∀ q ∈ putD l k (.int i), ∃ j : Int, q.2 = .int j := by
  intro q hq
  unfold putD at hq
  split at hq
  · obtain ⟨p, hp, e⟩ := List.mem_map.mp hq
    split at e
    · exact ⟨i, by rw [← e]⟩
    · rw [← e]; exact h p hp
  · rcases List.mem_append.mp hq with z | z
    · exact h q z
    · rw [List.mem_singleton.mp z]; exact ⟨i, rfl⟩
theorem Sd_int (ps : List (Str × Int)) : ∀ q ∈ Sd ps, ∃ j : Int, q.2 = .int j := by
  have key : ∀ (ps : List (Str × Int)) (l : List (D × D)), (∀ q ∈ l, ∃ j : Int, q.2 = .int j) → ∀ q ∈ mergeD l (ps.map kv), ∃ j : Int, q.2 = .int j := fun ps => by
    induction ps with
    | nil => exact fun l h => h
    | cons p r ih => exact fun l h => ih _ (putD_int h)
  exact key ps [] fun _ h => by cases h
theorem look_int (ps : List (Str × Int)) (s : Str) : lookD (Sd ps) (.str s) = none ∨ ∃ i : Int, lookD (Sd ps) (.str s) = some (.int i) := by
  unfold lookD
  cases h : (Sd ps).find? fun p => keyEq p.1 (.str s) with
  | none => exact .inl rfl
  | some q =>
    obtain ⟨i, hi⟩ := Sd_int ps q (List.mem_of_find?_eq_some h)
    exact .inr ⟨i, by show some q.2 = _; rw [hi]⟩
/-- a choice's place: its first option, and how many stand open -/
def base (ps : List (Str × Int)) (p : Str × Int) : Int × Int := match lookD (Sd ps) (.str p.1) with
  | some (.int v) => (v, 1)
  | _ => (0, p.2)
def encB (b : Int × Int) : D := .tup [.int b.1, .int b.2]
/-- the choices, handed as a list or as a tuple -/
def Han (cs : List (Str × Int)) (d : D) : Prop := d = .lst (cs.map encP) ∨ d = .tup (cs.map encP)
theorem dict_ok (ps : List (Str × Int)) (hl : ps.length ≤ 1000) : primD .dict_ [.tup (ps.map encP)] = some (.dct .k (Sd ps)) := by
  unfold primD
  dsimp only
  rw [pairsOf_enc]
  dsimp only
  rw [if_pos]
  · rfl
  · rw [Bool.and_eq_true]
    refine ⟨List.all_eq_true.mpr fun q hq => ?_, decide_eq_true (by rw [List.length_map]; exact Nat.le_trans hl (by decide))⟩
    obtain ⟨p, _, rfl⟩ := List.mem_map.mp hq
    rfl
theorem open_ok {T : Tb} {cs ps : List (Str × Int)} {d : D} (st : Store) (h : Han cs d) (hl : cs.length ≤ 1000) (hp : ps.length ≤ 1000) : runF T 2 5 bOpen [d, .tup (ps.map encP)] st = .ok (.lst ((cs.map (base ps)).map encB)) st := by
  have last := comp_map (T := T) (own := [3, 4]) (p := .tp (psL [.nm 3, .nm 4])) (it := .seq (.var 0)) (c := .no) (e := .ite (.cmp .In (.var 3) (.var 2)) (.tup (asL [.idx (.var 2) (.var 3), .lit (.int 1)])) (.tup (asL [.lit (.int 0), .var 4])))
    (env := [some (.val d), some (.val (.tup (ps.map encP))), some (.val (.dct .k (Sd ps))), none, none]) (st := st) (st1 := st) (xs := cs.map encP) (g := fun x => match x with | .tup [.str s, .int m] => encB (base ps (s, m)) | _ => .non) rfl (by
      rcases h with rfl | rfl <;> simp only [ssL, asL, psL, exs, ex, ev, evs, evbs, evAnd, evOr, evo, evc, evi, evB, valAt, borAt, ownAt, List.map_cons, List.map_nil, rep0, rep1, rep2, rep3, rep4, rep5, rep6, rep7, rep8, rep9, rep10, rep11, rep12, rep13, drf_ty, List.cons_append, List.nil_append, Nat.reduceSub, List.getElem?_cons_zero, List.getElem?_cons_succ, of_some, of_none, bind_ok, bind_ex, bind_no, go_ok, go_ex, go_no, nox_ok, drf_int, drf_str, drf_bl, drf_non, drf_tup, drf_lst, drf_dct, idxD_lst, idxD_tup, idxD_dct, cmpD, truD, binD, augD, bindP, bindPs, oSR, List.set_cons_zero, List.set_cons_succ, then_nx, then_rt, then_bk, then_ct, then_no, primD, Option.map_some, Option.map_none, if_true, Bool.false_eq_true, if_false, decide_true, decide_false]) (fun x hx => by
      obtain ⟨p, _, rfl⟩ := List.mem_map.mp hx
      refine ⟨_, rfl, rfl, ?_⟩
      have hk : isKey .k (.str p.1) = true := rfl
      have pr : small 2 = true := by decide
      have hw : wipeE [some (.val d), some (.val (.tup (ps.map encP))), some (.val (.dct .k (Sd ps))), none, none] [3, 4] = [some (.val d), some (.val (.tup (ps.map encP))), some (.val (.dct .k (Sd ps))), none, none] := rfl
      rw [hw]
      rcases look_int ps p.1 with e | ⟨i, e⟩
      · simp only [ssL, asL, psL, exs, ex, ev, evs, evbs, evAnd, evOr, evo, evc, evi, evB, valAt, borAt, ownAt, List.map_cons, List.map_nil, rep0, rep1, rep2, rep3, rep4, rep5, rep6, rep7, rep8, rep9, rep10, rep11, rep12, rep13, drf_ty, List.cons_append, List.nil_append, Nat.reduceSub, List.getElem?_cons_zero, List.getElem?_cons_succ, of_some, of_none, bind_ok, bind_ex, bind_no, go_ok, go_ex, go_no, nox_ok, drf_int, drf_str, drf_bl, drf_non, drf_tup, drf_lst, drf_dct, idxD_lst, idxD_tup, idxD_dct, cmpD, truD, binD, augD, bindP, bindPs, oSR, List.set_cons_zero, List.set_cons_succ, then_nx, then_rt, then_bk, then_ct, then_no, primD, Option.map_some, Option.map_none, if_true, Bool.false_eq_true, if_false, decide_true, decide_false, inD, hk, e, Option.isSome_none, List.length_cons, List.length_nil, pr, encB, encP, base]
      · simp only [ssL, asL, psL, exs, ex, ev, evs, evbs, evAnd, evOr, evo, evc, evi, evB, valAt, borAt, ownAt, List.map_cons, List.map_nil, rep0, rep1, rep2, rep3, rep4, rep5, rep6, rep7, rep8, rep9, rep10, rep11, rep12, rep13, drf_ty, List.cons_append, List.nil_append, Nat.reduceSub, List.getElem?_cons_zero, List.getElem?_cons_succ, of_some, of_none, bind_ok, bind_ex, bind_no, go_ok, go_ex, go_no, nox_ok, drf_int, drf_str, drf_bl, drf_non, drf_tup, drf_lst, drf_dct, idxD_lst, idxD_tup, idxD_dct, cmpD, truD, binD, augD, bindP, bindPs, oSR, List.set_cons_zero, List.set_cons_succ, then_nx, then_rt, then_bk, then_ct, then_no, primD, Option.map_some, Option.map_none, if_true, Bool.false_eq_true, if_false, decide_true, decide_false, inD, hk, e, Option.isSome_some, List.length_cons, List.length_nil, pr, encB, encP, base]) (by rw [List.length_map]; exact Nat.le_trans hl (by decide))
  have e2 : (cs.map encP).map (fun x => match x with | .tup [.str s, .int m] => encB (base ps (s, m)) | _ => .non) = (cs.map (base ps)).map encB := by
    rw [List.map_map, List.map_map]
    exact List.map_congr_left fun p _ => rfl
  rw [e2] at last
  unfold runF bOpen
  rw [if_pos (show [d, D.tup (ps.map encP)].length = 2 from rfl)]
  generalize (A.comp [3, 4] (.tp (psL [.nm 3, .nm 4])) (.seq (.var 0)) .no (.ite (.cmp .In (.var 3) (.var 2)) (.tup (asL [.idx (.var 2) (.var 3), .lit (.int 1)])) (.tup (asL [.lit (.int 0), .var 4])))) = Cc at last ⊢
  have dk := dict_ok ps hp
  simp only [ssL, asL, psL, exs, ex, ev, evs, evbs, evAnd, evOr, evo, evc, evi, evB, valAt, borAt, ownAt, List.map_cons, List.map_nil, rep0, rep1, rep2, rep3, rep4, rep5, rep6, rep7, rep8, rep9, rep10, rep11, rep12, rep13, drf_ty, List.cons_append, List.nil_append, Nat.reduceSub, List.getElem?_cons_zero, List.getElem?_cons_succ, of_some, of_none, bind_ok, bind_ex, bind_no, go_ok, go_ex, go_no, nox_ok, drf_int, drf_str, drf_bl, drf_non, drf_tup, drf_lst, drf_dct, idxD_lst, idxD_tup, idxD_dct, cmpD, truD, binD, augD, bindP, bindPs, oSR, List.set_cons_zero, List.set_cons_succ, then_nx, then_rt, then_bk, then_ct, then_no, Option.map_some, Option.map_none, if_true, Bool.false_eq_true, if_false, decide_true, decide_false, dk, last]

def OpenOk (f : List D → Store → Res D) : Prop := ∀ (cs ps : List (Str × Int)) (d : D) (st : Store), Han cs d → cs.length ≤ 1000 → ps.length ≤ 1000 → f [d, .tup (ps.map encP)] st = .ok (.lst ((cs.map (base ps)).map encB)) st
theorem open_all (T : Tb) : OpenOk (runF T 2 5 bOpen) := fun cs ps d st h hl hp => open_ok st h hl hp
/-! ### how many lots -/
def prodB (bs : List (Int × Int)) : Int := bs.foldl (fun t b => t * b.2) 1
theorem prodB_snoc (bs : List (Int × Int)) (b : Int × Int) : prodB (bs ++ [b]) = prodB bs * b.2 := by unfold prodB; rw [List.foldl_append]; rfl
def Bnd (bs : List (Int × Int)) : Prop := ∀ b ∈ bs, 0 < b.2 ∧ b.2 ≤ 1000
theorem base_bnd {cs ps : List (Str × Int)} (h : ∀ p ∈ cs, 0 < p.2 ∧ p.2 ≤ 1000) : Bnd (cs.map (base ps)) := by
  intro b hb
  obtain ⟨p, hp, rfl⟩ := List.mem_map.mp hb
  unfold base
  split
  · exact ⟨(by decide : (0 : Int) < 1), (by decide : (1 : Int) ≤ 1000)⟩
  · exact h p hp
theorem count_ok {T : Tb} {o : Nat} (hO : OpenOk (T.fn o)) {cs ps : List (Str × Int)} {d : D} (st : Store) (h : Han cs d) (hl : cs.length ≤ 1000) (hp : ps.length ≤ 1000) (hb : ∀ p ∈ cs, 0 < p.2 ∧ p.2 ≤ 1000) : runF T 2 5 (bCount o) [d, .tup (ps.map encP)] st = .ok (.int (prodB (cs.map (base ps)))) st := by
  have oo := hO cs ps d st h hl hp
  have bnd := base_bnd (ps := ps) hb
  generalize cs.map (base ps) = bs at oo bnd ⊢
  obtain ⟨env', st', f1, dn, rs, x3, x4, e1, e2, rfl, rfl⟩ := forGo_inv (p := .tp (psL [.nm 3, .nm 4])) (f := fun e s => exs T (ssL [.aug .Mult 2 (.var 4)]) e s)
    (I := fun r env st' => ∃ (dn rs : List (Int × Int)) (x3 x4 : Option Sl), bs = dn ++ rs ∧ r = rs.map encB ∧ env = [some (.val d), some (.val (.tup (ps.map encP))), some (.val (.int (prodB dn))), x3, x4] ∧ st' = st) (bs.map encB) [some (.val d), some (.val (.tup (ps.map encP))), some (.val (.int 1)), none, none] st (fun x r env st hI => by
      obtain ⟨dn, rs, x3, x4, e1, e2, rfl, rfl⟩ := hI
      cases rs with
      | nil => cases e2
      | cons b rs =>
        rw [List.map_cons] at e2
        cases e2
        have hb := bnd b (by rw [e1]; exact List.mem_append_right _ List.mem_cons_self)
        have hm : mulOk (prodB dn) b.2 = true := by unfold mulOk; rw [Bool.or_eq_true]; exact .inr (decide_eq_true (by omega))
        refine ⟨_, rfl, _, _, .inl (by simp only [ssL, asL, psL, exs, ex, ev, evs, evbs, evAnd, evOr, evo, evc, evi, evB, valAt, borAt, ownAt, List.map_cons, List.map_nil, rep0, rep1, rep2, rep3, rep4, rep5, rep6, rep7, rep8, rep9, rep10, rep11, rep12, rep13, drf_ty, List.cons_append, List.nil_append, Nat.reduceSub, List.getElem?_cons_zero, List.getElem?_cons_succ, of_some, of_none, bind_ok, bind_ex, bind_no, go_ok, go_ex, go_no, nox_ok, drf_int, drf_str, drf_bl, drf_non, drf_tup, drf_lst, drf_dct, idxD_lst, idxD_tup, idxD_dct, cmpD, truD, binD, augD, bindP, bindPs, oSR, List.set_cons_zero, List.set_cons_succ, then_nx, then_rt, then_bk, then_ct, then_no, primD, Option.map_some, Option.map_none, if_true, Bool.false_eq_true, if_false, decide_true, decide_false, hm]; rfl), dn ++ [b], rs, some (.val (.int b.1)), some (.val (.int b.2)), by rw [e1]; simp, rfl, by rw [prodB_snoc], rfl⟩) ⟨[], bs, none, none, rfl, rfl, rfl, rfl⟩
  have hr : rs = [] := by cases rs with | nil => rfl | cons a b => cases e2
  subst hr
  rw [List.append_nil] at e1
  subst e1
  unfold runF bCount
  rw [if_pos (show [d, D.tup (ps.map encP)].length = 2 from rfl)]
  generalize (ssL [.aug .Mult 2 (.var 4)]) = Bd at f1 ⊢
  have f1' : forGo (Pat.tp (Pats.cons (Pat.nm 3) (Pats.cons (Pat.nm 4) Pats.nil))) (fun e s => exs T Bd e s) (bs.map encB) [some (.val d), some (.val (.tup (ps.map encP))), some (.val (.int 1)), none, none] st' = _ := f1
  simp only [ssL, asL, psL, exs, ex, ev, evs, evbs, evAnd, evOr, evo, evc, evi, evB, valAt, borAt, ownAt, List.map_cons, List.map_nil, rep0, rep1, rep2, rep3, rep4, rep5, rep6, rep7, rep8, rep9, rep10, rep11, rep12, rep13, drf_ty, List.cons_append, List.nil_append, Nat.reduceSub, List.getElem?_cons_zero, List.getElem?_cons_succ, of_some, of_none, bind_ok, bind_ex, bind_no, go_ok, go_ex, go_no, nox_ok, drf_int, drf_str, drf_bl, drf_non, drf_tup, drf_lst, drf_dct, idxD_lst, idxD_tup, idxD_dct, cmpD, truD, binD, augD, bindP, bindPs, oSR, List.set_cons_zero, List.set_cons_succ, then_nx, then_rt, then_bk, then_ct, then_no, primD, Option.map_some, Option.map_none, if_true, Bool.false_eq_true, if_false, decide_true, decide_false, oo, f1']
/-! ### the lot at k -/
/-- from the last choice on: the digits, the rest going on -/
def dig : List (Int × Int) → Int → List Int
  | [], _ => []
  | b :: r, k => (b.1 + k % b.2) :: dig r (k / b.2)
def rst : List (Int × Int) → Int → Int
  | [], k => k
  | b :: r, k => rst r (k / b.2)
theorem dig_snoc : ∀ (bs : List (Int × Int)) (b : Int × Int) (k : Int), dig (bs ++ [b]) k = dig bs k ++ [b.1 + rst bs k % b.2] ∧ rst (bs ++ [b]) k = rst bs k / b.2
  | [], b, k => ⟨rfl, rfl⟩
  | a :: r, b, k => by
    obtain ⟨h1, h2⟩ := dig_snoc r b (k / a.2)
    exact ⟨by show (a.1 + k % a.2) :: dig (r ++ [b]) (k / a.2) = _; rw [h1]; rfl, h2⟩
def lotAt (bs : List (Int × Int)) (k : Int) : List Int := (dig bs.reverse k).reverse
def encT (l : List Int) : D := .tup (l.map .int)
theorem lot_ok {T : Tb} {o : Nat} (hO : OpenOk (T.fn o)) {cs ps : List (Str × Int)} {d : D} (k : Int) (st : Store) (h : Han cs d) (hl : cs.length ≤ 1000) (hp : ps.length ≤ 1000) (hb : ∀ p ∈ cs, 0 < p.2 ∧ p.2 ≤ 1000) : runF T 3 8 (bLotAt o) [d, .int k, .tup (ps.map encP)] st = .ok (encT (lotAt (cs.map (base ps)) k)) st := by
  have oo := hO cs ps d st h hl hp
  have bnd := base_bnd (ps := ps) hb
  have hl2 : (cs.map (base ps)).length ≤ 1000 := by rw [List.length_map]; exact hl
  generalize cs.map (base ps) = bs at oo bnd hl2 ⊢
  obtain ⟨env', st', f1, dn, rs, x5, x6, x7, e1, e2, rfl, rfl⟩ := forGo_inv (p := .tp (psL [.nm 5, .nm 6])) (f := fun e s => exs T (ssL [.asg (.tp (psL [.nm 3, .nm 7])) (.prim .divmod (asL [.var 3, .var 6])), .app 4 (.bin .Add (.var 5) (.var 7))]) e s)
    (I := fun r env st' => ∃ (dn rs : List (Int × Int)) (x5 x6 x7 : Option Sl), bs.reverse = dn ++ rs ∧ r = rs.map encB ∧ env = [some (.val d), some (.val (.int k)), some (.val (.tup (ps.map encP))), some (.val (.int (rst dn k))), some (.own (.lst ((dig dn k).map .int))), x5, x6, x7] ∧ st' = st) (bs.reverse.map encB) [some (.val d), some (.val (.int k)), some (.val (.tup (ps.map encP))), some (.val (.int k)), some (.own (.lst [])), none, none, none] st (fun x r env st hI => by
      obtain ⟨dn, rs, x5, x6, x7, e1, e2, rfl, rfl⟩ := hI
      cases rs with
      | nil => cases e2
      | cons b rs =>
        rw [List.map_cons] at e2
        cases e2
        have hb := bnd b (List.mem_reverse.mp (by rw [e1]; exact List.mem_append_right _ List.mem_cons_self))
        have hm : (0 < b.2 ∧ b.2 < 1073741824) := ⟨hb.1, by omega⟩
        have dl : ∀ (l : List (Int × Int)) (k : Int), (dig l k).length = l.length := fun l => by
          induction l with
          | nil => intro _; rfl
          | cons a r ih => intro k; show (dig r _).length + 1 = _; rw [ih]; rfl
        have hsz : decide (((dig dn k).map D.int).length < sizeLine) = true := decide_eq_true (by
          rw [List.length_map, dl]
          have := congrArg List.length e1
          rw [List.length_reverse, List.length_append] at this
          exact Nat.lt_of_le_of_lt (by omega : dn.length ≤ 1000) (by decide))
        obtain ⟨s1, s2⟩ := dig_snoc dn b k
        refine ⟨_, rfl, _, _, .inl (by simp only [ssL, asL, psL, exs, ex, ev, evs, evbs, evAnd, evOr, evo, evc, evi, evB, valAt, borAt, ownAt, List.map_cons, List.map_nil, rep0, rep1, rep2, rep3, rep4, rep5, rep6, rep7, rep8, rep9, rep10, rep11, rep12, rep13, drf_ty, List.cons_append, List.nil_append, Nat.reduceSub, List.getElem?_cons_zero, List.getElem?_cons_succ, of_some, of_none, bind_ok, bind_ex, bind_no, go_ok, go_ex, go_no, nox_ok, drf_int, drf_str, drf_bl, drf_non, drf_tup, drf_lst, drf_dct, idxD_lst, idxD_tup, idxD_dct, cmpD, truD, binD, augD, bindP, bindPs, oSR, List.set_cons_zero, List.set_cons_succ, then_nx, then_rt, then_bk, then_ct, then_no, primD, Option.map_some, Option.map_none, if_true, Bool.false_eq_true, if_false, decide_true, decide_false, hm, and_self, hsz]; rfl), dn ++ [b], rs, some (.val (.int b.1)), some (.val (.int b.2)), some (.val (.int (rst dn k % b.2))), by rw [e1]; simp, rfl, by rw [s1, s2, List.map_append]; rfl, rfl⟩) ⟨[], bs.reverse, none, none, none, rfl, rfl, rfl, rfl⟩
  have hr : rs = [] := by cases rs with | nil => rfl | cons a b => cases e2
  subst hr
  rw [List.append_nil] at e1
  unfold runF bLotAt
  rw [if_pos (show [d, D.int k, D.tup (ps.map encP)].length = 3 from rfl)]
  generalize (ssL [.asg (.tp (psL [.nm 3, .nm 7])) (.prim .divmod (asL [.var 3, .var 6])), .app 4 (.bin .Add (.var 5) (.var 7))]) = Bd at f1 ⊢
  have f1' : forGo (Pat.tp (Pats.cons (Pat.nm 5) (Pats.cons (Pat.nm 6) Pats.nil))) (fun e s => exs T Bd e s) (bs.map encB).reverse [some (.val d), some (.val (.int k)), some (.val (.tup (ps.map encP))), some (.val (.int k)), some (.own (.lst [])), none, none, none] st' = .ok .nx [some (.val d), some (.val (.int k)), some (.val (.tup (ps.map encP))), some (.val (.int (rst dn k))), some (.own (.lst ((dig dn k).map .int))), x5, x6, x7] st' := by rw [← List.map_reverse]; exact f1
  have pr : small 0 = true := by decide
  simp only [ssL, asL, psL, exs, ex, ev, evs, evbs, evAnd, evOr, evo, evc, evi, evB, valAt, borAt, ownAt, List.map_cons, List.map_nil, rep0, rep1, rep2, rep3, rep4, rep5, rep6, rep7, rep8, rep9, rep10, rep11, rep12, rep13, drf_ty, List.cons_append, List.nil_append, Nat.reduceSub, List.getElem?_cons_zero, List.getElem?_cons_succ, of_some, of_none, bind_ok, bind_ex, bind_no, go_ok, go_ex, go_no, nox_ok, drf_int, drf_str, drf_bl, drf_non, drf_tup, drf_lst, drf_dct, idxD_lst, idxD_tup, idxD_dct, cmpD, truD, binD, augD, bindP, bindPs, oSR, List.set_cons_zero, List.set_cons_succ, then_nx, then_rt, then_bk, then_ct, then_no, primD, Option.map_some, Option.map_none, if_true, Bool.false_eq_true, if_false, decide_true, decide_false, oo, f1', List.length_nil, pr, D.toO, DO.toD, encT, lotAt, e1, List.map_reverse]
def CountOk (f : List D → Store → Res D) : Prop := ∀ (cs ps : List (Str × Int)) (d : D) (st : Store), Han cs d → cs.length ≤ 1000 → ps.length ≤ 1000 → (∀ p ∈ cs, 0 < p.2 ∧ p.2 ≤ 1000) → f [d, .tup (ps.map encP)] st = .ok (.int (prodB (cs.map (base ps)))) st
theorem count_all {T : Tb} {o : Nat} (hO : OpenOk (T.fn o)) : CountOk (runF T 2 5 (bCount o)) := fun cs ps d st h hl hp hb => count_ok hO st h hl hp hb
def LotOk (f : List D → Store → Res D) : Prop := ∀ (cs ps : List (Str × Int)) (d : D) (k : Int) (st : Store), Han cs d → cs.length ≤ 1000 → ps.length ≤ 1000 → (∀ p ∈ cs, 0 < p.2 ∧ p.2 ≤ 1000) → f [d, .int k, .tup (ps.map encP)] st = .ok (encT (lotAt (cs.map (base ps)) k)) st
theorem lot_all {T : Tb} {o : Nat} (hO : OpenOk (T.fn o)) : LotOk (runF T 3 8 (bLotAt o)) := fun cs ps d k st h hl hp hb => lot_ok hO k st h hl hp hb
/-! ### all lots, in order -/
def stepL (b : Int × Int) (lot : List Int) : List (List Int) := (List.range b.2.toNat).map fun (o : Nat) => lot ++ [b.1 + (o : Int)]
/-- from the last choice on -/
def lotsR : List (Int × Int) → List (List Int)
  | [] => [[]]
  | b :: r => (lotsR r).flatMap (stepL b)
def prodR : List (Int × Int) → Nat
  | [] => 1
  | b :: r => prodR r * b.2.toNat
theorem range_mul {α : Type} (h : Nat → α) (m : Nat) : ∀ P : Nat, (List.range (P * m)).map h = (List.range P).flatMap fun q => (List.range m).map fun o => h (q * m + o)
  | 0 => by simp
  | P + 1 => by
    rw [Nat.succ_mul, List.range_add, List.map_append, range_mul h m P, List.range_succ, List.flatMap_append, List.map_map]
    simp
theorem lots_math : ∀ r : List (Int × Int), Bnd r → (List.range (prodR r)).map (fun (k : Nat) => (dig r (k : Int)).reverse) = lotsR r
  | [], _ => rfl
  | b :: r, h => by
    have hb := h b List.mem_cons_self
    have ih := lots_math r fun x hx => h x (List.mem_cons_of_mem _ hx)
    show (List.range (prodR r * b.2.toNat)).map _ = (lotsR r).flatMap (stepL b)
    rw [range_mul, ← ih, List.flatMap_map]
    refine congrArg (fun f => (List.range (prodR r)).flatMap f) (funext fun q => ?_)
    unfold stepL
    refine List.map_congr_left fun o ho => ?_
    rw [List.mem_range] at ho
    have hm : ((b.2.toNat : Nat) : Int) = b.2 := Int.toNat_of_nonneg (by omega)
    have e : ((q * b.2.toNat + o : Nat) : Int) = (o : Int) + b.2 * (q : Int) := by rw [Int.natCast_add, Int.natCast_mul, hm, Int.mul_comm, Int.add_comm]
    have e1 : ((q * b.2.toNat + o : Nat) : Int) / b.2 = q := by
      rw [e, Int.add_mul_ediv_left _ _ (by omega), Int.ediv_eq_zero_of_lt (by omega) (by omega), Int.zero_add]
    have e2 : ((q * b.2.toNat + o : Nat) : Int) % b.2 = o := by
      rw [e, Int.add_mul_emod_self_left, Int.emod_eq_of_lt (by omega) (by omega)]
    show ((b.1 + _ % b.2) :: dig r (_ / b.2)).reverse = _
    rw [e1, e2, List.reverse_cons]
theorem prod_rev : ∀ r : List (Int × Int), Bnd r → prodB r.reverse = (prodR r : Int)
  | [], _ => rfl
  | b :: r, h => by
    have hb := h b List.mem_cons_self
    rw [List.reverse_cons, prodB_snoc, prod_rev r fun x hx => h x (List.mem_cons_of_mem _ hx)]
    show _ = ((prodR r * b.2.toNat : Nat) : Int)
    rw [Int.natCast_mul, Int.toNat_of_nonneg (by omega)]
theorem lots_len : ∀ r : List (Int × Int), (lotsR r).length = prodR r
  | [] => rfl
  | b :: r => by
    show ((lotsR r).flatMap (stepL b)).length = prodR r * b.2.toNat
    rw [← lots_len r, List.length_flatMap]
    induction lotsR r with
    | nil => simp
    | cons x l ih => rw [List.map_cons, List.sum_cons, ih, List.length_cons, Nat.succ_mul, Nat.add_comm]; unfold stepL; rw [List.length_map, List.length_range]
theorem prod_le : ∀ r : List (Int × Int), (∀ b ∈ r, b.2 ≤ 4) → prodR r ≤ 4 ^ r.length
  | [], _ => Nat.le_refl _
  | b :: r, h => by
    have hb := h b List.mem_cons_self
    rw [List.length_cons, Nat.pow_succ]
    exact Nat.mul_le_mul (prod_le r fun x hx => h x (List.mem_cons_of_mem _ hx)) (by omega)
theorem lot_len : ∀ r : List (Int × Int), ∀ l ∈ lotsR r, l.length = r.length
  | [], l, h => by rw [List.mem_singleton.mp (show l ∈ [[]] from h)]; rfl
  | b :: r, l, h => by
    obtain ⟨m, hm, hl⟩ := List.mem_flatMap.mp (show l ∈ (lotsR r).flatMap (stepL b) from h)
    unfold stepL at hl
    obtain ⟨o, _, rfl⟩ := List.mem_map.mp hl
    rw [List.length_append, lot_len r m hm]
    rfl

/-! ### what _law_lots tells -/
theorem opts_ok {ps : List (Str × Int)} {p : Str × Int} {T : Tb} {env : L3.Env} {st : Store} (h3 : env[3]? = some (some (.val (.dct .k (Sd ps))))) (h4 : env[4]? = some (some (.val (.str p.1)))) (h5 : env[5]? = some (some (.val (.int p.2)))) (hp : 0 < p.2 ∧ p.2 ≤ 1000) :
    ev T (.ite (.cmp .In (.var 4) (.var 3)) (.lst (asL [.idx (.var 3) (.var 4)])) (.lrng (.rng1 (.var 5)))) env st = .ok (.lst ((List.range (base ps p).2.toNat).map fun (o : Nat) => .int ((base ps p).1 + (o : Int)))) st := by
  have hk : isKey .k (.str p.1) = true := rfl
  have pr : small 1 = true := by decide
  have hz : (decide (-(2 ^ 62) ≤ p.2) && decide (p.2 < 2 ^ 62)) = true := by rw [Bool.and_eq_true]; exact ⟨decide_eq_true (by omega), decide_eq_true (by omega)⟩
  rcases look_int ps p.1 with e | ⟨i, e⟩
  · have hb : base ps p = (0, p.2) := by unfold base; rw [e]
    have hl : decide ((rngD 0 p.2).length ≤ 2 ^ 24) = true := decide_eq_true (by rw [rngD_len _ (by omega)]; exact Nat.le_trans (by omega : p.2.toNat ≤ 1000) (by decide))
    have hr : rngD 0 p.2 = (List.range p.2.toNat).map fun (o : Nat) => .int (0 + (o : Int)) := by unfold rngD; rw [Int.sub_zero]
    rw [hr] at hl
    rw [hb]
    simp only [ssL, asL, psL, exs, ex, ev, evs, evbs, evAnd, evOr, evo, evc, evi, evB, valAt, borAt, ownAt, List.map_cons, List.map_nil, rep0, rep1, rep2, rep3, rep4, rep5, rep6, rep7, rep8, rep9, rep10, rep11, rep12, rep13, drf_ty, List.cons_append, List.nil_append, Nat.reduceSub, List.getElem?_cons_zero, List.getElem?_cons_succ, of_some, of_none, bind_ok, bind_ex, bind_no, go_ok, go_ex, go_no, nox_ok, drf_int, drf_str, drf_bl, drf_non, drf_tup, drf_lst, drf_dct, idxD_lst, idxD_tup, idxD_dct, cmpD, truD, binD, augD, bindP, bindPs, oSR, List.set_cons_zero, List.set_cons_succ, then_nx, then_rt, then_bk, then_ct, then_no, primD, Option.map_some, Option.map_none, if_true, Bool.false_eq_true, if_false, decide_true, decide_false, h3, h4, h5, inD, hk, e, Option.isSome_none, hz, hr, hl]
  · have hb : base ps p = (i, 1) := by unfold base; rw [e]
    rw [hb]
    have e1 : (List.range (1 : Int).toNat).map (fun (o : Nat) => D.int (i + (o : Int))) = [.int i] := by
      show [D.int (i + 0)] = _
      rw [Int.add_zero]
    rw [e1]
    simp only [ssL, asL, psL, exs, ex, ev, evs, evbs, evAnd, evOr, evo, evc, evi, evB, valAt, borAt, ownAt, List.map_cons, List.map_nil, rep0, rep1, rep2, rep3, rep4, rep5, rep6, rep7, rep8, rep9, rep10, rep11, rep12, rep13, drf_ty, List.cons_append, List.nil_append, Nat.reduceSub, List.getElem?_cons_zero, List.getElem?_cons_succ, of_some, of_none, bind_ok, bind_ex, bind_no, go_ok, go_ex, go_no, nox_ok, drf_int, drf_str, drf_bl, drf_non, drf_tup, drf_lst, drf_dct, idxD_lst, idxD_tup, idxD_dct, cmpD, truD, binD, augD, bindP, bindPs, oSR, List.set_cons_zero, List.set_cons_succ, then_nx, then_rt, then_bk, then_ct, then_no, primD, Option.map_some, Option.map_none, if_true, Bool.false_eq_true, if_false, decide_true, decide_false, h3, h4, h5, inD, hk, e, Option.isSome_some, List.length_cons, List.length_nil, pr]

theorem lots_ok {T : Tb} {cs ps : List (Str × Int)} (st : Store) (hl : cs.length ≤ 8) (hp : ps.length ≤ 1000) (hb : ∀ p ∈ cs, 0 < p.2 ∧ p.2 ≤ 4) :
    runF T 2 10 bLots [.lst (cs.map encP), .tup (ps.map encP)] st = .ok (.lst ((lotsR (cs.map (base ps)).reverse).map encT)) st := by
  have b4 : ∀ p ∈ cs, (base ps p).2 ≤ 4 ∧ 0 < (base ps p).2 := fun p hp => by
    unfold base
    split
    · exact ⟨(by decide : (1 : Int) ≤ 4), (by decide : (0 : Int) < 1)⟩
    · exact ⟨(hb p hp).2, (hb p hp).1⟩
  have small_len : ∀ dn : List (Str × Int), (∀ p ∈ dn, p ∈ cs) → dn.length ≤ 8 → (lotsR (dn.map (base ps)).reverse).length ≤ 65536 := fun dn h hd => by
    rw [lots_len]
    refine Nat.le_trans (prod_le _ fun b hb => ?_) ?_
    · obtain ⟨p, hp, rfl⟩ := List.mem_map.mp (List.mem_reverse.mp hb)
      exact (b4 p (h p hp)).1
    · rw [List.length_reverse, List.length_map]
      exact Nat.le_trans (Nat.pow_le_pow_right (by decide) hd) (by decide)
  obtain ⟨env', st', f1, dn, rs, x4, x5, x6, x7, x8, e1, e2, rfl, rfl⟩ := forGo_inv (p := .tp (psL [.nm 4, .nm 5])) (f := fun e s => exs T (ssL [.asgO 6 (.lst (asL [])), .for_ (.nm 7) (.seq (.var 2)) (ssL [.asg (.nm 8) (.ite (.cmp .In (.var 4) (.var 3)) (.lst (asL [.idx (.var 3) (.var 4)])) (.lrng (.rng1 (.var 5)))), .ext 6 (.comp [9] (.nm 9) (.seq (.var 8)) .no (.bin .Add (.var 7) (.tup (asL [.var 9]))))]), .frz 6 (.asg (.nm 2) (.var 6))]) e s)
    (I := fun r env st' => ∃ (dn rs : List (Str × Int)) (x4 x5 x6 x7 x8 : Option Sl), cs = dn ++ rs ∧ r = rs.map encP ∧ env = [some (.val (.lst (cs.map encP))), some (.val (.tup (ps.map encP))), some (.val (.lst ((lotsR (dn.map (base ps)).reverse).map encT))), some (.val (.dct .k (Sd ps))), x4, x5, x6, x7, x8, none] ∧ st' = st)
    (cs.map encP) [some (.val (.lst (cs.map encP))), some (.val (.tup (ps.map encP))), some (.val (.lst [.tup []])), some (.val (.dct .k (Sd ps))), none, none, none, none, none, none] st (fun x r env st hI => by
      obtain ⟨dn, rs, x4, x5, x6, x7, x8, e1, e2, rfl, rfl⟩ := hI
      cases rs with
      | nil => cases e2
      | cons p rs =>
        rw [List.map_cons] at e2
        cases e2
        have hpc : p ∈ cs := by rw [e1]; exact List.mem_append_right _ List.mem_cons_self
        have hlen : dn.length + (rs.length + 1) = cs.length := by rw [e1, List.length_append, List.length_cons]
        have sl := small_len dn (fun q hq => by rw [e1]; exact List.mem_append_left _ hq) (by omega)
        have sl2 := small_len (dn ++ [p]) (fun q hq => by rw [e1]; rcases List.mem_append.mp hq with z | z; exact List.mem_append_left _ z; rw [List.mem_singleton.mp z]; exact List.mem_append_right _ List.mem_cons_self) (by rw [List.length_append, List.length_singleton]; omega)
        rw [List.map_append, List.reverse_append] at sl2
        have sl2 : ((lotsR (dn.map (base ps)).reverse).flatMap (stepL (base ps p))).length ≤ 65536 := sl2
        have ll := lot_len (dn.map (base ps)).reverse
        rw [List.length_reverse, List.length_map] at ll
        generalize hL : lotsR (dn.map (base ps)).reverse = L at sl sl2 ll
        generalize hB : base ps p = b at sl2
        refine ⟨_, rfl, ?_⟩
        -- the inner loop
        obtain ⟨env2, st2, g1, dl, rl, y7, y8, i1, i2, rfl, rfl⟩ := forGo_inv (p := .nm 7) (f := fun e s => exs T (ssL [.asg (.nm 8) (.ite (.cmp .In (.var 4) (.var 3)) (.lst (asL [.idx (.var 3) (.var 4)])) (.lrng (.rng1 (.var 5)))), .ext 6 (.comp [9] (.nm 9) (.seq (.var 8)) .no (.bin .Add (.var 7) (.tup (asL [.var 9]))))]) e s)
          (I := fun r env st' => ∃ (dl rl : List (List Int)) (y7 y8 : Option Sl), L = dl ++ rl ∧ r = rl.map encT ∧ env = [some (.val (.lst (cs.map encP))), some (.val (.tup (ps.map encP))), some (.val (.lst (L.map encT))), some (.val (.dct .k (Sd ps))), some (.val (.str p.1)), some (.val (.int p.2)), some (.own (.lst ((dl.flatMap (stepL b)).map encT))), y7, y8, none] ∧ st' = st)
          (L.map encT) [some (.val (.lst (cs.map encP))), some (.val (.tup (ps.map encP))), some (.val (.lst (L.map encT))), some (.val (.dct .k (Sd ps))), some (.val (.str p.1)), some (.val (.int p.2)), some (.own (.lst [])), x7, x8, none] st (fun x r env st hI => by
            obtain ⟨dl, rl, y7, y8, i1, i2, rfl, rfl⟩ := hI
            cases rl with
            | nil => cases i2
            | cons lot rl =>
              rw [List.map_cons] at i2
              cases i2
              have hlot : lot.length ≤ 8 := by rw [ll lot (by rw [i1]; exact List.mem_append_right _ List.mem_cons_self)]; omega
              refine ⟨_, rfl, ?_⟩
              have ho := opts_ok (ps := ps) (p := p) (T := T) (env := [some (.val (.lst (cs.map encP))), some (.val (.tup (ps.map encP))), some (.val (.lst (L.map encT))), some (.val (.dct .k (Sd ps))), some (.val (.str p.1)), some (.val (.int p.2)), some (.own (.lst ((dl.flatMap (stepL b)).map encT))), some (.val (encT lot)), y8, none]) (st := st) rfl rfl rfl ⟨(hb p hpc).1, by have := (hb p hpc).2; omega⟩
              rw [hB] at ho
              have hb4 := b4 p hpc
              rw [hB] at hb4
              have hc := comp_map (T := T) (own := [9]) (p := .nm 9) (it := .seq (.var 8)) (c := .no) (e := .bin .Add (.var 7) (.tup (asL [.var 9]))) (env := [some (.val (.lst (cs.map encP))), some (.val (.tup (ps.map encP))), some (.val (.lst (L.map encT))), some (.val (.dct .k (Sd ps))), some (.val (.str p.1)), some (.val (.int p.2)), some (.own (.lst ((dl.flatMap (stepL b)).map encT))), some (.val (encT lot)), some (.val (.lst ((List.range b.2.toNat).map fun (o : Nat) => .int (b.1 + (o : Int))))), none]) (st := st) (st1 := st)
                (xs := (List.range b.2.toNat).map fun (o : Nat) => .int (b.1 + (o : Int))) (g := fun x => match x with | .int i => encT (lot ++ [i]) | _ => .non) rfl rfl (fun x hx => by
                  obtain ⟨o, _, rfl⟩ := List.mem_map.mp hx
                  refine ⟨_, rfl, rfl, ?_⟩
                  have pr : small 1 = true := by decide
                  have w1 : small ((lot.map D.int).length + 1) = true := decide_eq_true (by rw [List.length_map]; exact Nat.le_trans (by omega : lot.length + 1 ≤ 9) (by decide))
                  have hw : wipeE [some (.val (.lst (cs.map encP))), some (.val (.tup (ps.map encP))), some (.val (.lst (L.map encT))), some (.val (.dct .k (Sd ps))), some (.val (.str p.1)), some (.val (.int p.2)), some (.own (.lst ((dl.flatMap (stepL b)).map encT))), some (.val (encT lot)), some (.val (.lst ((List.range b.2.toNat).map fun (o : Nat) => .int (b.1 + (o : Int))))), none] [9] = [some (.val (.lst (cs.map encP))), some (.val (.tup (ps.map encP))), some (.val (.lst (L.map encT))), some (.val (.dct .k (Sd ps))), some (.val (.str p.1)), some (.val (.int p.2)), some (.own (.lst ((dl.flatMap (stepL b)).map encT))), some (.val (encT lot)), some (.val (.lst ((List.range b.2.toNat).map fun (o : Nat) => .int (b.1 + (o : Int))))), none] := rfl
                  rw [hw]
                  simp only [ssL, asL, psL, exs, ex, ev, evs, evbs, evAnd, evOr, evo, evc, evi, evB, valAt, borAt, ownAt, List.map_cons, List.map_nil, rep0, rep1, rep2, rep3, rep4, rep5, rep6, rep7, rep8, rep9, rep10, rep11, rep12, rep13, drf_ty, List.cons_append, List.nil_append, Nat.reduceSub, List.getElem?_cons_zero, List.getElem?_cons_succ, of_some, of_none, bind_ok, bind_ex, bind_no, go_ok, go_ex, go_no, nox_ok, drf_int, drf_str, drf_bl, drf_non, drf_tup, drf_lst, drf_dct, idxD_lst, idxD_tup, idxD_dct, cmpD, truD, binD, augD, bindP, bindPs, oSR, List.set_cons_zero, List.set_cons_succ, then_nx, then_rt, then_bk, then_ct, then_no, primD, Option.map_some, Option.map_none, if_true, Bool.false_eq_true, if_false, decide_true, decide_false, encT, List.length_cons, List.length_nil, pr, w1, List.map_append]) (by rw [List.length_map, List.length_range]; exact Nat.le_trans (by omega : b.2.toNat ≤ 4) (by decide))
              have e3 : ((List.range b.2.toNat).map fun (o : Nat) => D.int (b.1 + (o : Int))).map (fun x => match x with | .int i => encT (lot ++ [i]) | _ => .non) = (stepL b lot).map encT := by
                unfold stepL
                rw [List.map_map, List.map_map]
                rfl
              rw [e3] at hc
              have hsz : decide (((dl.flatMap (stepL b)).map encT).length + ((stepL b lot).map encT).length ≤ sizeLine) = true := decide_eq_true (by
                rw [List.length_map, List.length_map]
                have : (L.flatMap (stepL b)).length = (dl.flatMap (stepL b)).length + ((stepL b lot).length + (rl.flatMap (stepL b)).length) := by
                  rw [i1, List.flatMap_append, List.flatMap_cons, List.length_append, List.length_append]
                exact Nat.le_trans (by omega : _ ≤ 65536) (by decide))
              have hcB := evB_ok hc
              generalize (A.comp [9] (.nm 9) (.seq (.var 8)) .no (.bin .Add (.var 7) (.tup (asL [.var 9])))) = Cc at hcB ⊢
              generalize (A.ite (.cmp .In (.var 4) (.var 3)) (.lst (asL [.idx (.var 3) (.var 4)])) (.lrng (.rng1 (.var 5)))) = Oc at ho ⊢
              refine ⟨_, _, .inl (by simp only [ssL, asL, psL, exs, ex, ev, evs, evbs, evAnd, evOr, evo, evc, evi, valAt, borAt, ownAt, List.map_cons, List.map_nil, rep0, rep1, rep2, rep3, rep4, rep5, rep6, rep7, rep8, rep9, rep10, rep11, rep12, rep13, drf_ty, List.cons_append, List.nil_append, Nat.reduceSub, List.getElem?_cons_zero, List.getElem?_cons_succ, of_some, of_none, bind_ok, bind_ex, bind_no, go_ok, go_ex, go_no, nox_ok, drf_int, drf_str, drf_bl, drf_non, drf_tup, drf_lst, drf_dct, idxD_lst, idxD_tup, idxD_dct, cmpD, truD, binD, augD, bindP, bindPs, oSR, List.set_cons_zero, List.set_cons_succ, then_nx, then_rt, then_bk, then_ct, then_no, primD, Option.map_some, Option.map_none, if_true, Bool.false_eq_true, if_false, decide_true, decide_false, ho, hcB, hsz]; rfl), dl ++ [lot], rl, some (.val (encT lot)), some (.val (.lst ((List.range b.2.toNat).map fun (o : Nat) => .int (b.1 + (o : Int))))), by rw [i1]; simp, rfl, ?_, rfl⟩
              rw [List.flatMap_append, List.map_append]
              simp only [List.flatMap_cons, List.flatMap_nil, List.append_nil]) ⟨[], L, x7, x8, rfl, rfl, rfl, rfl⟩
        have hrl : rl = [] := by cases rl with | nil => rfl | cons a b => cases i2
        subst hrl
        rw [List.append_nil] at i1
        subst i1
        generalize (ssL [.asg (.nm 8) (.ite (.cmp .In (.var 4) (.var 3)) (.lst (asL [.idx (.var 3) (.var 4)])) (.lrng (.rng1 (.var 5)))), .ext 6 (.comp [9] (.nm 9) (.seq (.var 8)) .no (.bin .Add (.var 7) (.tup (asL [.var 9]))))]) = Bd at g1 ⊢
        have pr : small 0 = true := by decide
        refine ⟨_, _, .inl (by simp only [ssL, asL, psL, exs, ex, ev, evs, evbs, evAnd, evOr, evo, evc, evi, evB, valAt, borAt, ownAt, List.map_cons, List.map_nil, rep0, rep1, rep2, rep3, rep4, rep5, rep6, rep7, rep8, rep9, rep10, rep11, rep12, rep13, drf_ty, List.cons_append, List.nil_append, Nat.reduceSub, List.getElem?_cons_zero, List.getElem?_cons_succ, of_some, of_none, bind_ok, bind_ex, bind_no, go_ok, go_ex, go_no, nox_ok, drf_int, drf_str, drf_bl, drf_non, drf_tup, drf_lst, drf_dct, idxD_lst, idxD_tup, idxD_dct, cmpD, truD, binD, augD, bindP, bindPs, oSR, List.set_cons_zero, List.set_cons_succ, then_nx, then_rt, then_bk, then_ct, then_no, primD, Option.map_some, Option.map_none, if_true, Bool.false_eq_true, if_false, decide_true, decide_false, List.length_nil, pr, D.toO, DO.toD, g1, Option.bind_some]; rfl), dn ++ [p], rs, some (.val (.str p.1)), some (.val (.int p.2)), some (.val (.lst ((L.flatMap (stepL b)).map encT))), y7, y8, by rw [e1]; simp, rfl, ?_, rfl⟩
        rw [List.map_append, List.reverse_append]
        show _ = [_, _, some (Sl.val (.lst (((lotsR (dn.map (base ps)).reverse).flatMap (stepL (base ps p))).map encT))), _, _, _, _, _, _, _]
        rw [hL, hB]) ⟨[], cs, none, none, none, none, none, rfl, rfl, rfl, rfl⟩
  have hr : rs = [] := by cases rs with | nil => rfl | cons a b => cases e2
  subst hr
  rw [List.append_nil] at e1
  subst e1
  unfold runF bLots
  rw [if_pos (show [D.lst (cs.map encP), D.tup (ps.map encP)].length = 2 from rfl)]
  have dk := dict_ok ps hp
  generalize (ssL [.asgO 6 (.lst (asL [])), .for_ (.nm 7) (.seq (.var 2)) (ssL [.asg (.nm 8) (.ite (.cmp .In (.var 4) (.var 3)) (.lst (asL [.idx (.var 3) (.var 4)])) (.lrng (.rng1 (.var 5)))), .ext 6 (.comp [9] (.nm 9) (.seq (.var 8)) .no (.bin .Add (.var 7) (.tup (asL [.var 9]))))]), .frz 6 (.asg (.nm 2) (.var 6))]) = Bd at f1 ⊢
  have p0 : small 0 = true := by decide
  have p1 : small 1 = true := by decide
  simp only [ssL, asL, psL, exs, ex, ev, evs, evbs, evAnd, evOr, evo, evc, evi, evB, valAt, borAt, ownAt, List.map_cons, List.map_nil, rep0, rep1, rep2, rep3, rep4, rep5, rep6, rep7, rep8, rep9, rep10, rep11, rep12, rep13, drf_ty, List.cons_append, List.nil_append, Nat.reduceSub, List.getElem?_cons_zero, List.getElem?_cons_succ, of_some, of_none, bind_ok, bind_ex, bind_no, go_ok, go_ex, go_no, nox_ok, drf_int, drf_str, drf_bl, drf_non, drf_tup, drf_lst, drf_dct, idxD_lst, idxD_tup, idxD_dct, cmpD, truD, binD, augD, bindP, bindPs, oSR, List.set_cons_zero, List.set_cons_succ, then_nx, then_rt, then_bk, then_ct, then_no, Option.map_some, Option.map_none, if_true, Bool.false_eq_true, if_false, decide_true, decide_false, List.length_nil, List.length_cons, p0, p1, dk]
  have f1' : forGo (Pat.tp (Pats.cons (Pat.nm 4) (Pats.cons (Pat.nm 5) Pats.nil))) (fun e s => exs T Bd e s) (cs.map encP) [some (.val (.lst (cs.map encP))), some (.val (.tup (ps.map encP))), some (.val (.lst [.tup []])), some (.val (.dct .k (Sd ps))), none, none, none, none, none, none] st' = .ok .nx [some (.val (.lst (cs.map encP))), some (.val (.tup (ps.map encP))), some (.val (.lst ((lotsR (cs.map (base ps)).reverse).map encT))), some (.val (.dct .k (Sd ps))), x4, x5, x6, x7, x8, none] st' := f1
  simp only [ssL, asL, psL, exs, ex, ev, evs, evbs, evAnd, evOr, evo, evc, evi, evB, valAt, borAt, ownAt, List.map_cons, List.map_nil, rep0, rep1, rep2, rep3, rep4, rep5, rep6, rep7, rep8, rep9, rep10, rep11, rep12, rep13, drf_ty, List.cons_append, List.nil_append, Nat.reduceSub, List.getElem?_cons_zero, List.getElem?_cons_succ, of_some, of_none, bind_ok, bind_ex, bind_no, go_ok, go_ex, go_no, nox_ok, drf_int, drf_str, drf_bl, drf_non, drf_tup, drf_lst, drf_dct, idxD_lst, idxD_tup, idxD_dct, cmpD, truD, binD, augD, bindP, bindPs, oSR, List.set_cons_zero, List.set_cons_succ, then_nx, then_rt, then_bk, then_ct, then_no, Option.map_some, Option.map_none, if_true, Bool.false_eq_true, if_false, decide_true, decide_false, f1']
def LotsOk (f : List D → Store → Res D) : Prop := ∀ (cs ps : List (Str × Int)) (st : Store), cs.length ≤ 8 → ps.length ≤ 1000 → (∀ p ∈ cs, 0 < p.2 ∧ p.2 ≤ 4) → f [.lst (cs.map encP), .tup (ps.map encP)] st = .ok (.lst ((lotsR (cs.map (base ps)).reverse).map encT)) st
theorem lots_all (T : Tb) : LotsOk (runF T 2 10 bLots) := fun cs ps st hl hp hb => lots_ok st hl hp hb
theorem plT (l : List Int) (n : Nat) : plB (n + 1) (encT l) = true := by
  unfold encT plB
  rw [List.all_map]
  refine List.all_eq_true.mpr fun i _ => ?_
  cases n <;> rfl
theorem plLT (l : List (List Int)) : plB 64 (.lst (l.map encT)) = true := by
  unfold plB
  rw [List.all_map]
  exact List.all_eq_true.mpr fun i _ => plT i 62
def lotD (bs : List (Int × Int)) : D → D
  | .int k => encT (lotAt bs k)
  | _ => .non
theorem told_lots {bs : List (Int × Int)} (h : Bnd bs) : (rngD 0 (prodB bs)).map (lotD bs) = (lotsR bs.reverse).map encT := by
  have hr : Bnd bs.reverse := fun b hb => h b (List.mem_reverse.mp hb)
  have hp := prod_rev bs.reverse hr
  rw [List.reverse_reverse] at hp
  rw [← lots_math _ hr, hp]
  unfold rngD
  rw [Int.sub_zero, Int.toNat_natCast, List.map_map, List.map_map]
  refine List.map_congr_left fun k _ => ?_
  show encT (lotAt bs (0 + (k : Int))) = encT (dig bs.reverse (k : Int)).reverse
  rw [Int.zero_add]
  rfl
theorem last_dig : ∀ r : List (Int × Int), Bnd r → 0 < prodR r ∧ dig r ((prodR r : Int) - 1) = r.map fun b => b.1 + (b.2 - 1)
  | [], _ => ⟨by decide, rfl⟩
  | b :: r, h => by
    have hb := h b List.mem_cons_self
    obtain ⟨h1, h2⟩ := last_dig r fun x hx => h x (List.mem_cons_of_mem _ hx)
    have hm : ((b.2.toNat : Nat) : Int) = b.2 := Int.toNat_of_nonneg (by omega)
    refine ⟨Nat.mul_pos h1 (by omega), ?_⟩
    have e : ((prodR r * b.2.toNat : Nat) : Int) - 1 = (b.2 - 1) + b.2 * ((prodR r : Int) - 1) := by
      rw [Int.natCast_mul, hm, Int.mul_sub, Int.mul_comm (prodR r : Int) b.2]
      omega
    show (b.1 + (((prodR r * b.2.toNat : Nat) : Int) - 1) % b.2) :: dig r ((((prodR r * b.2.toNat : Nat) : Int) - 1) / b.2) = _
    rw [e, Int.add_mul_emod_self_left, Int.emod_eq_of_lt (by omega) (by omega), Int.add_mul_ediv_left _ _ (by omega), Int.ediv_eq_zero_of_lt (by omega) (by omega), Int.zero_add, h2]
    rfl
theorem last_lot {bs : List (Int × Int)} (h : Bnd bs) : lotAt bs (prodB bs - 1) = bs.map fun b => b.1 + (b.2 - 1) := by
  have hr : Bnd bs.reverse := fun b hb => h b (List.mem_reverse.mp hb)
  have hp := prod_rev bs.reverse hr
  rw [List.reverse_reverse] at hp
  unfold lotAt
  rw [hp, (last_dig _ hr).2, ← List.map_reverse, List.reverse_reverse]
end LB
end

section
set_option Elab.async false
set_option linter.all false
set_option maxRecDepth 100000
set_option maxHeartbeats 4000000
/-! LBe: a lot in a part, parts that meet, parts in order. -/
namespace LB
open PySem L3
/-- what a part settles -/
def lk (ps : List (Str × Int)) (s : Str) : Option Int := (ps.find? fun p => decide (p.1 = s)).map (·.2)
theorem lookD_map (ps : List (Str × Int)) (s : Str) : lookD (ps.map kv) (.str s) = (lk ps s).map .int := by
  unfold lookD lk
  rw [List.find?_map]
  have e : ((fun p : D × D => keyEq p.1 (.str s)) ∘ kv) = fun p => decide (p.1 = s) := by
    funext p
    show keyEq (.str p.1) (.str s) = _
    rfl
  rw [e, Option.map_map, Option.map_map]
  rfl
theorem any_no {l : List (Str × Int)} {s : Str} (h : s ∉ l.map (·.1)) : ((l.map kv).any fun p => keyEq p.1 (.str s)) = false := by
  rw [List.any_map, List.any_eq_false]
  intro p hp
  show ¬ (decide (p.1 = s) = true)
  rw [decide_eq_true_eq]
  intro e
  exact h (List.mem_map.mpr ⟨p, hp, e⟩)
theorem merge_nodup : ∀ (ps acc : List (Str × Int)), ((acc ++ ps).map (·.1)).Nodup → mergeD (acc.map kv) (ps.map kv) = (acc ++ ps).map kv
  | [], acc, _ => by rw [List.append_nil]; rfl
  | p :: r, acc, h => by
    have hn : p.1 ∉ acc.map (·.1) := by
      rw [List.map_append, List.map_cons] at h
      have := (List.nodup_append.mp h).2.2
      intro hm
      exact this _ hm _ List.mem_cons_self rfl
    show mergeD (putD (acc.map kv) (.str p.1) (.int p.2)) (r.map kv) = _
    have e : putD (acc.map kv) (.str p.1) (.int p.2) = (acc ++ [p]).map kv := by
      unfold putD
      rw [if_neg (by rw [any_no hn]; decide), List.map_append]
      rfl
    rw [e, merge_nodup r (acc ++ [p]) (by rw [List.append_assoc]; exact h), List.append_assoc]
    rfl
theorem Sd_nodup {ps : List (Str × Int)} (h : (ps.map (·.1)).Nodup) : Sd ps = ps.map kv := merge_nodup ps [] h
theorem look_part {ps : List (Str × Int)} (h : (ps.map (·.1)).Nodup) (s : Str) : lookD (Sd ps) (.str s) = (lk ps s).map .int := by rw [Sd_nodup h, lookD_map]
theorem boolsOf_all {α : Type} (f : α → Bool) : ∀ l : List α, boolsOf (l.map fun x => .bl (f x)) = some (l.map f)
  | [] => rfl
  | a :: r => by show (boolsOf (r.map fun x => D.bl (f x))).map (f a :: ·) = _; rw [boolsOf_all f r]; rfl
theorem all_prim {α : Type} (f : α → Bool) (l : List α) : primD .all_ [.lst (l.map fun x => .bl (f x))] = some (.bl (l.all f)) := by
  unfold primD
  dsimp only
  rw [boolsOf_all]
  show some (D.bl ((l.map f).all id)) = _
  rw [List.all_map]
  rfl
theorem any_prim {α : Type} (f : α → Bool) (l : List α) : primD .any_ [.lst (l.map fun x => .bl (f x))] = some (.bl (l.any f)) := by
  unfold primD
  dsimp only
  rw [boolsOf_all]
  show some (D.bl ((l.map f).any id)) = _
  rw [List.any_map]
  rfl
/-! ### is_in -/
def bIsIn : Ss := (ssL [.asg (.nm 3) (.prim .dict_ (asL [.var 2])), .ret (.prim .all_ (asL [.comp [4, 5, 6] (.tp (psL [.tp (psL [.nm 4, .nm 5]), .nm 6])) (.zip2 (.var 0) (.var 1)) .no (.cmp .Eq (.mth .get2 (.var 3) (asL [.var 4, .var 6])) (.var 6))]))])
def isIn (cs : List (Str × Int)) (lot : List Int) (ps : List (Str × Int)) : Bool := (cs.zip lot).all fun q => (lk ps q.1.1).getD q.2 == q.2
theorem get_part {ps : List (Str × Int)} (h : (ps.map (·.1)).Nodup) (s : Str) (o : Int) : mthD .get2 (.dct .k (Sd ps)) [.str s, .int o] = some (.int ((lk ps s).getD o)) := by
  unfold mthD
  dsimp only
  rw [if_pos (show (isKey .k (.str s) && flatD (.int o)) = true from rfl), look_part h]
  cases lk ps s <;> rfl
theorem han_seq {cs : List (Str × Int)} {d : D} (h : Han cs d) : seqD d = some (cs.map encP) := by
  rcases h with h | h <;> rw [h] <;> rfl
theorem isIn_ok {T : Tb} {cs ps : List (Str × Int)} {lot : List Int} {d : D} (st : Store) (h : Han cs d) (hl : cs.length ≤ 1000) (hp : ps.length ≤ 1000) (hn : (ps.map (·.1)).Nodup) : runF T 3 7 bIsIn [d, encT lot, .tup (ps.map encP)] st = .ok (.bl (isIn cs lot ps)) st := by
  have hs := han_seq h
  have hs2 : seqD (encT lot) = some (lot.map .int) := rfl
  have c := comp_map (T := T) (own := [4, 5, 6]) (p := .tp (psL [.tp (psL [.nm 4, .nm 5]), .nm 6])) (it := .zip2 (.var 0) (.var 1)) (c := .no) (e := .cmp .Eq (.mth .get2 (.var 3) (asL [.var 4, .var 6])) (.var 6))
    (env := [some (.val d), some (.val (encT lot)), some (.val (.tup (ps.map encP))), some (.val (.dct .k (Sd ps))), none, none, none]) (st := st) (st1 := st) (xs := (cs.zip lot).map fun q => .tup [encP q.1, .int q.2]) (g := fun x => match x with | .tup [.tup [.str s, _], .int o] => .bl ((lk ps s).getD o == o) | _ => .non) rfl (by
      have hz : ((cs.map encP).zip (lot.map D.int)).map (fun p => D.tup [p.1, p.2]) = (cs.zip lot).map fun q => .tup [encP q.1, .int q.2] := by
        rw [List.zip_map, List.map_map]; rfl
      simp only [ssL, asL, psL, exs, ex, ev, evs, evbs, evAnd, evOr, evo, evc, evi, evB_var, evB_prim, evB_lit, evB_ty, evB_cmp, evB_call, evB_callK, evB_bin, valAt, borAt, ownAt, List.map_cons, List.map_nil, rep0, rep1, rep2, rep3, rep4, rep5, rep6, rep7, rep8, rep9, rep10, rep11, rep12, rep13, drf_ty, List.cons_append, List.nil_append, Nat.reduceSub, List.getElem?_cons_zero, List.getElem?_cons_succ, of_some, of_none, bind_ok, bind_ex, bind_no, go_ok, go_ex, go_no, nox_ok, drf_int, drf_str, drf_bl, drf_non, drf_tup, drf_lst, drf_dct, idxD_lst, idxD_tup, idxD_dct, cmpD, truD, binD, augD, bindP, bindPs, oSR, List.set_cons_zero, List.set_cons_succ, then_nx, then_rt, then_bk, then_ct, then_no, Option.map_some, Option.map_none, if_true, Bool.false_eq_true, if_false, decide_true, decide_false, hs, hs2, hz]) (fun x hx => by
      obtain ⟨q, _, rfl⟩ := List.mem_map.mp hx
      refine ⟨_, rfl, rfl, ?_⟩
      have hw : wipeE [some (.val d), some (.val (encT lot)), some (.val (.tup (ps.map encP))), some (.val (.dct .k (Sd ps))), none, none, none] [4, 5, 6] = [some (.val d), some (.val (encT lot)), some (.val (.tup (ps.map encP))), some (.val (.dct .k (Sd ps))), none, none, none] := rfl
      rw [hw]
      have g2 := get_part hn q.1.1 q.2
      have mt : mTy .get2 (.dct .k (Sd ps)) = true := rfl
      simp only [ssL, asL, psL, exs, ex, ev, evs, evbs, evAnd, evOr, evo, evc, evi, evB_var, evB_prim, evB_lit, evB_ty, evB_cmp, evB_call, evB_callK, evB_bin, valAt, borAt, ownAt, List.map_cons, List.map_nil, rep0, rep1, rep2, rep3, rep4, rep5, rep6, rep7, rep8, rep9, rep10, rep11, rep12, rep13, drf_ty, List.cons_append, List.nil_append, Nat.reduceSub, List.getElem?_cons_zero, List.getElem?_cons_succ, of_some, of_none, bind_ok, bind_ex, bind_no, go_ok, go_ex, go_no, nox_ok, drf_int, drf_str, drf_bl, drf_non, drf_tup, drf_lst, drf_dct, idxD_lst, idxD_tup, idxD_dct, cmpD, truD, binD, augD, bindP, bindPs, oSR, List.set_cons_zero, List.set_cons_succ, then_nx, then_rt, then_bk, then_ct, then_no, Option.map_some, Option.map_none, if_true, Bool.false_eq_true, if_false, decide_true, decide_false, evB_mth, mt, g2, eqD_int, encP]) (by
        rw [List.length_map, List.length_zip]; exact Nat.le_trans (Nat.min_le_left _ _) (Nat.le_trans hl (by decide)))
  have e2 : ((cs.zip lot).map fun q => D.tup [encP q.1, .int q.2]).map (fun x => match x with | .tup [.tup [.str s, _], .int o] => D.bl ((lk ps s).getD o == o) | _ => .non) = (cs.zip lot).map fun q => .bl ((lk ps q.1.1).getD q.2 == q.2) := by
    rw [List.map_map]; rfl
  rw [e2] at c
  have cB := evB_ok c
  have ap := all_prim (fun q : (Str × Int) × Int => (lk ps q.1.1).getD q.2 == q.2) (cs.zip lot)
  have dk := dict_ok ps hp
  unfold runF bIsIn
  rw [if_pos (show [d, encT lot, D.tup (ps.map encP)].length = 3 from rfl)]
  generalize (A.comp [4, 5, 6] (.tp (psL [.tp (psL [.nm 4, .nm 5]), .nm 6])) (.zip2 (.var 0) (.var 1)) .no (.cmp .Eq (.mth .get2 (.var 3) (asL [.var 4, .var 6])) (.var 6))) = Cc at cB ⊢
  simp only [ssL, asL, psL, exs, ex, ev, evs, evbs, evAnd, evOr, evo, evc, evi, evB_var, evB_prim, evB_lit, evB_ty, evB_cmp, evB_call, evB_callK, evB_bin, valAt, borAt, ownAt, List.map_cons, List.map_nil, rep0, rep1, rep2, rep3, rep4, rep5, rep6, rep7, rep8, rep9, rep10, rep11, rep12, rep13, drf_ty, List.cons_append, List.nil_append, Nat.reduceSub, List.getElem?_cons_zero, List.getElem?_cons_succ, of_some, of_none, bind_ok, bind_ex, bind_no, go_ok, go_ex, go_no, nox_ok, drf_int, drf_str, drf_bl, drf_non, drf_tup, drf_lst, drf_dct, idxD_lst, idxD_tup, idxD_dct, cmpD, truD, binD, augD, bindP, bindPs, oSR, List.set_cons_zero, List.set_cons_succ, then_nx, then_rt, then_bk, then_ct, then_no, Option.map_some, Option.map_none, if_true, Bool.false_eq_true, if_false, decide_true, decide_false, dk, cB, ap, isIn]
def IsInOk (f : List D → Store → Res D) : Prop := ∀ (cs ps : List (Str × Int)) (lot : List Int) (d : D) (st : Store), Han cs d → cs.length ≤ 1000 → ps.length ≤ 1000 → (ps.map (·.1)).Nodup → f [d, encT lot, .tup (ps.map encP)] st = .ok (.bl (isIn cs lot ps)) st
theorem isIn_all (T : Tb) : IsInOk (runF T 3 7 bIsIn) := fun cs ps lot d st h hl hp hn => isIn_ok st h hl hp hn
/-! ### meet -/
def bMeet : Ss := (ssL [.asg (.nm 2) (.prim .dict_ (asL [.var 0])), .ret (.prim .all_ (asL [.comp [3, 4] (.tp (psL [.nm 3, .nm 4])) (.seq (.var 1)) .no (.cmp .Eq (.mth .get2 (.var 2) (asL [.var 3, .var 4])) (.var 4))]))])
def meetB (ps qs : List (Str × Int)) : Bool := qs.all fun q => (lk ps q.1).getD q.2 == q.2
theorem meet_ok {T : Tb} {ps qs : List (Str × Int)} (st : Store) (hp : ps.length ≤ 1000) (hq : qs.length ≤ 1000) (hn : (ps.map (·.1)).Nodup) : runF T 2 5 bMeet [.tup (ps.map encP), .tup (qs.map encP)] st = .ok (.bl (meetB ps qs)) st := by
  have c := comp_map (T := T) (own := [3, 4]) (p := .tp (psL [.nm 3, .nm 4])) (it := .seq (.var 1)) (c := .no) (e := .cmp .Eq (.mth .get2 (.var 2) (asL [.var 3, .var 4])) (.var 4))
    (env := [some (.val (.tup (ps.map encP))), some (.val (.tup (qs.map encP))), some (.val (.dct .k (Sd ps))), none, none]) (st := st) (st1 := st) (xs := qs.map encP) (g := fun x => match x with | .tup [.str s, .int o] => .bl ((lk ps s).getD o == o) | _ => .non) rfl (by
      simp only [ssL, asL, psL, exs, ex, ev, evs, evbs, evAnd, evOr, evo, evc, evi, evB_var, evB_prim, evB_lit, evB_ty, evB_cmp, evB_call, evB_callK, evB_bin, valAt, borAt, ownAt, List.map_cons, List.map_nil, rep0, rep1, rep2, rep3, rep4, rep5, rep6, rep7, rep8, rep9, rep10, rep11, rep12, rep13, drf_ty, List.cons_append, List.nil_append, Nat.reduceSub, List.getElem?_cons_zero, List.getElem?_cons_succ, of_some, of_none, bind_ok, bind_ex, bind_no, go_ok, go_ex, go_no, nox_ok, drf_int, drf_str, drf_bl, drf_non, drf_tup, drf_lst, drf_dct, idxD_lst, idxD_tup, idxD_dct, cmpD, truD, binD, augD, bindP, bindPs, oSR, List.set_cons_zero, List.set_cons_succ, then_nx, then_rt, then_bk, then_ct, then_no, Option.map_some, Option.map_none, if_true, Bool.false_eq_true, if_false, decide_true, decide_false]) (fun x hx => by
      obtain ⟨q, _, rfl⟩ := List.mem_map.mp hx
      refine ⟨_, rfl, rfl, ?_⟩
      have hw : wipeE [some (.val (.tup (ps.map encP))), some (.val (.tup (qs.map encP))), some (.val (.dct .k (Sd ps))), none, none] [3, 4] = [some (.val (.tup (ps.map encP))), some (.val (.tup (qs.map encP))), some (.val (.dct .k (Sd ps))), none, none] := rfl
      rw [hw]
      have g2 := get_part hn q.1 q.2
      have mt : mTy .get2 (.dct .k (Sd ps)) = true := rfl
      simp only [ssL, asL, psL, exs, ex, ev, evs, evbs, evAnd, evOr, evo, evc, evi, evB_var, evB_prim, evB_lit, evB_ty, evB_cmp, evB_call, evB_callK, evB_bin, valAt, borAt, ownAt, List.map_cons, List.map_nil, rep0, rep1, rep2, rep3, rep4, rep5, rep6, rep7, rep8, rep9, rep10, rep11, rep12, rep13, drf_ty, List.cons_append, List.nil_append, Nat.reduceSub, List.getElem?_cons_zero, List.getElem?_cons_succ, of_some, of_none, bind_ok, bind_ex, bind_no, go_ok, go_ex, go_no, nox_ok, drf_int, drf_str, drf_bl, drf_non, drf_tup, drf_lst, drf_dct, idxD_lst, idxD_tup, idxD_dct, cmpD, truD, binD, augD, bindP, bindPs, oSR, List.set_cons_zero, List.set_cons_succ, then_nx, then_rt, then_bk, then_ct, then_no, Option.map_some, Option.map_none, if_true, Bool.false_eq_true, if_false, decide_true, decide_false, evB_mth, mt, g2, eqD_int, encP]) (by rw [List.length_map]; exact Nat.le_trans hq (by decide))
  have e2 : (qs.map encP).map (fun x => match x with | .tup [.str s, .int o] => D.bl ((lk ps s).getD o == o) | _ => .non) = qs.map fun q => .bl ((lk ps q.1).getD q.2 == q.2) := by
    rw [List.map_map]; rfl
  rw [e2] at c
  have cB := evB_ok c
  have ap := all_prim (fun q : Str × Int => (lk ps q.1).getD q.2 == q.2) qs
  have dk := dict_ok ps hp
  unfold runF bMeet
  rw [if_pos (show [D.tup (ps.map encP), D.tup (qs.map encP)].length = 2 from rfl)]
  generalize (A.comp [3, 4] (.tp (psL [.nm 3, .nm 4])) (.seq (.var 1)) .no (.cmp .Eq (.mth .get2 (.var 2) (asL [.var 3, .var 4])) (.var 4))) = Cc at cB ⊢
  simp only [ssL, asL, psL, exs, ex, ev, evs, evbs, evAnd, evOr, evo, evc, evi, evB_var, evB_prim, evB_lit, evB_ty, evB_cmp, evB_call, evB_callK, evB_bin, valAt, borAt, ownAt, List.map_cons, List.map_nil, rep0, rep1, rep2, rep3, rep4, rep5, rep6, rep7, rep8, rep9, rep10, rep11, rep12, rep13, drf_ty, List.cons_append, List.nil_append, Nat.reduceSub, List.getElem?_cons_zero, List.getElem?_cons_succ, of_some, of_none, bind_ok, bind_ex, bind_no, go_ok, go_ex, go_no, nox_ok, drf_int, drf_str, drf_bl, drf_non, drf_tup, drf_lst, drf_dct, idxD_lst, idxD_tup, idxD_dct, cmpD, truD, binD, augD, bindP, bindPs, oSR, List.set_cons_zero, List.set_cons_succ, then_nx, then_rt, then_bk, then_ct, then_no, Option.map_some, Option.map_none, if_true, Bool.false_eq_true, if_false, decide_true, decide_false, dk, cB, ap, meetB]
def MeetOk (f : List D → Store → Res D) : Prop := ∀ (ps qs : List (Str × Int)) (st : Store), ps.length ≤ 1000 → qs.length ≤ 1000 → (ps.map (·.1)).Nodup → f [.tup (ps.map encP), .tup (qs.map encP)] st = .ok (.bl (meetB ps qs)) st
theorem meet_all (T : Tb) : MeetOk (runF T 2 5 bMeet) := fun ps qs st hp hq hn => meet_ok st hp hq hn
/-! ### places -/
/-- a dict's comprehension over things whose keys are unlike -/
theorem dcomp_map {T : Tb} {own : List Nat} {p : Pat} {it : It} {c : Ao} {k v : A} {env : L3.Env} {st st1 : Store} {xs : List D} {gk : D → Str} {gv : D → D} (ho : own.any (fun i => (ownAt env i).isSome) = false) (hi : evi T true it env st = .ok xs st1)
    (h : ∀ x ∈ xs, ∃ env', bindP p x (wipeE env own) = some env' ∧ evc T c env' st1 = .ok true st1 ∧ ev T k env' st1 = .ok (.str (gk x)) st1 ∧ ev T v env' st1 = .ok (gv x) st1) (hl : xs.length ≤ sizeLine) (hn : (xs.map gk).Nodup) :
    ev T (.dcomp own p it c k v) env st = .ok (.dct .k (xs.map fun x => (.str (gk x), gv x))) st1 := by
  have key : ∀ (xs dn : List D), (∀ x ∈ xs, ∃ env', bindP p x (wipeE env own) = some env' ∧ evc T c env' st1 = .ok true st1 ∧ ev T k env' st1 = .ok (.str (gk x)) st1 ∧ ev T v env' st1 = .ok (gv x) st1) → dn.length + xs.length ≤ sizeLine → ((dn ++ xs).map gk).Nodup →
      compGo (compFd T own p c k v env) xs (dn.map fun x => (.str (gk x), gv x)) st1 = .ok ((dn ++ xs).map fun x => (.str (gk x), gv x)) st1 := by
    intro xs
    induction xs with
    | nil => intro dn _ _ _; rw [List.append_nil]; rfl
    | cons x r ih =>
      intro dn h hl hn
      rw [List.length_cons] at hl
      obtain ⟨env', e1, e2, e3, e4⟩ := h x List.mem_cons_self
      have hno : (((dn.map fun x => (D.str (gk x), gv x)) : List (D × D)).any fun p => keyEq p.1 (.str (gk x))) = false := by
        rw [List.any_map, List.any_eq_false]
        intro y hy
        show ¬ (decide (gk y = gk x) = true)
        rw [decide_eq_true_eq]
        intro e
        rw [List.map_append, List.map_cons] at hn
        exact (List.nodup_append.mp hn).2.2 _ (List.mem_map.mpr ⟨y, hy, rfl⟩) _ List.mem_cons_self e
      have hp : putD (dn.map fun x => (D.str (gk x), gv x)) (.str (gk x)) (gv x) = (dn ++ [x]).map fun x => (D.str (gk x), gv x) := by
        unfold putD
        rw [if_neg (by rw [hno]; decide), List.map_append]
        rfl
      have hk : (isKey .k (.str (gk x)) && decide (((dn.map fun x => (D.str (gk x), gv x)) : List (D × D)).length < sizeLine)) = true := by
        rw [Bool.and_eq_true]; exact ⟨rfl, decide_eq_true (by rw [List.length_map]; omega)⟩
      have one : compFd T own p c k v env x (dn.map fun x => (D.str (gk x), gv x)) st1 = .ok ((dn ++ [x]).map fun x => (D.str (gk x), gv x)) st1 := by
        unfold compFd
        rw [e1, of_some, bind_ok, e2, nox_ok, bind_ok, if_pos rfl, e3, nox_ok, bind_ok, e4, nox_ok, bind_ok, if_pos hk, hp]
      show ((compFd T own p c k v env x (dn.map fun x => (D.str (gk x), gv x)) st1).bind fun acc' st' => compGo (compFd T own p c k v env) r acc' st') = _
      rw [one, bind_ok, ih (dn ++ [x]) (fun y hy => h y (List.mem_cons_of_mem _ hy)) (by rw [List.length_append, List.length_singleton]; omega) (by rw [List.append_assoc]; exact hn), List.append_assoc]
      rfl
  have q := key xs [] h (by simpa using hl) hn
  show (if own.any (fun i => (ownAt env i).isSome) then (.no : Res D) else (evi T true it env st).bind fun xs st => (compGo (compFd T own p c k v env) xs [] st).bind fun l st => .ok (D.dct .k l) st) = _
  rw [ho, hi]
  simp only [Bool.false_eq_true, if_false, bind_ok]
  have q : compGo (compFd T own p c k v env) xs [] st1 = _ := q
  rw [q]
  rfl
def plc (cs : List (Str × Int)) (s : Str) : Nat := (cs.map (·.1)).idxOf s
def atD (cs : List (Str × Int)) (n : Nat) : List (D × D) := (cs.zipIdx n).map fun q => (.str q.1.1, .int (q.2 : Int))
theorem look_at (s : Str) : ∀ (cs : List (Str × Int)) (n : Nat), s ∈ cs.map (·.1) → lookD (atD cs n) (.str s) = some (.int ((n + plc cs s : Nat) : Int))
  | [], _, h => by cases h
  | c :: r, n, h => by
    show (((D.str c.1, D.int (n : Int)) :: atD r (n + 1)).find? fun p => keyEq p.1 (.str s)).map (·.2) = _
    by_cases e : c.1 = s
    · have hk : keyEq (D.str c.1) (.str s) = true := decide_eq_true e
      rw [List.find?_cons_of_pos (p := fun p : D × D => keyEq p.1 (.str s)) hk]
      have : plc (c :: r) s = 0 := by unfold plc; rw [List.map_cons, e, List.idxOf_cons_self]
      rw [this]
      rfl
    · have hk : ¬ keyEq (D.str c.1) (.str s) = true := by show ¬ (decide (c.1 = s) = true); rw [decide_eq_true_eq]; exact e
      rw [List.find?_cons_of_neg (p := fun p : D × D => keyEq p.1 (.str s)) hk]
      have hm : s ∈ r.map (·.1) := by
        rcases List.mem_cons.mp h with z | z
        · exact (e z.symm).elim
        · exact z
      have ih := look_at s r (n + 1) hm
      have : plc (c :: r) s = plc r s + 1 := by unfold plc; rw [List.map_cons, List.idxOf_cons, beq_eq_false_iff_ne.mpr e]; rfl
      rw [this]
      have e2 : n + (plc r s + 1) = n + 1 + plc r s := by omega
      rw [e2]
      exact ih
def bPlaces : Ss := (ssL [.asg (.nm 2) (.dcomp [3, 4, 5] (.tp (psL [.nm 3, .tp (psL [.nm 4, .nm 5])])) (.enum (.var 0)) .no (.var 4) (.var 3)), .ret (.tup (asL [.prim .len (asL [.var 1]), .prim .tuple_ (asL [.comp [4, 6] (.tp (psL [.nm 4, .nm 6])) (.seq (.var 1)) .no (.tup (asL [.idx (.var 2) (.var 4), .var 6]))])]))])
/-- a part by its places -/
def byP (cs ps : List (Str × Int)) : List (Int × Int) := ps.map fun p => ((plc cs p.1 : Int), p.2)
def pkD (l : List (Int × Int)) : D := .tup [.int l.length, .tup (l.map fun q => .tup [.int q.1, .int q.2])]
def pkP (l : List (Int × Int)) : PyData := .tuple [.int l.length, .tuple (l.map fun q => .tuple [.int q.1, .int q.2])]
theorem toPys_map {α : Type} {f : α → D} {g : α → PyData} (h : ∀ a, toPy (f a) = some (g a)) : ∀ l : List α, toPys (l.map f) = some (l.map g)
  | [] => rfl
  | a :: r => by
    rw [List.map_cons, List.map_cons]
    unfold toPys
    rw [h a, toPys_map h r]
theorem toPy_pk (l : List (Int × Int)) : toPy (pkD l) = some (pkP l) := by
  have e := toPys_map (f := fun q : Int × Int => D.tup [.int q.1, .int q.2]) (g := fun q => PyData.tuple [.int q.1, .int q.2]) (fun _ => rfl) l
  show (match (some (PyData.int l.length) : Option PyData), (match ((toPys (l.map fun q : Int × Int => D.tup [.int q.1, .int q.2])).map PyData.tuple : Option PyData), (some [] : Option (List PyData)) with | some x, some xs => some (x :: xs) | _, _ => none) with | some x, some xs => some (x :: xs) | _, _ => none).map PyData.tuple = _
  rw [e]
  rfl
theorem alike_pairs : ∀ l m : List (Int × Int), PySem.W.alikeAll (l.map fun q => PyData.tuple [.int q.1, .int q.2]) (m.map fun q => PyData.tuple [.int q.1, .int q.2]) = true
  | [], m => by cases m <;> simp [PySem.W.alikeAll]
  | a :: l, [] => by simp [PySem.W.alikeAll]
  | a :: l, b :: m => by
    have ih := alike_pairs l m
    simp only [List.map_cons, PySem.W.alikeAll, PySem.W.alike, ih, Bool.and_self]
theorem alike_pk (l m : List (Int × Int)) : PySem.W.alike (pkP l) (pkP m) = true := by
  unfold pkP
  simp only [PySem.W.alike, PySem.W.alikeAll, alike_pairs, Bool.and_self]
theorem depth_pairs : ∀ l : List (Int × Int), PyData.depthAll (l.map fun q => PyData.tuple [.int q.1, .int q.2]) ≤ 1
  | [] => by simp [PyData.depthAll]
  | a :: l => by
    have ih := depth_pairs l
    simp only [List.map_cons, PyData.depthAll, PyData.depth]
    omega
theorem depth_pk (l : List (Int × Int)) : (pkP l).depth ≤ 3 := by
  have := depth_pairs l
  unfold pkP
  simp only [PyData.depth, PyData.depthAll]
  omega
theorem lt_pk (l m : List (Int × Int)) : ltD (pkD l) (pkD m) = some (PySem.W.dataLt (pkP l) (pkP m)) := by
  unfold ltD
  rw [toPy_pk, toPy_pk]
  dsimp only
  have hd := depth_pk l
  rw [if_pos]
  rw [alike_pk, decide_eq_true (show min (pkP l).depth (pkP m).depth ≤ 64 by omega)]
  rfl
theorem zipIdx_len {α : Type} (l : List α) : l.zipIdx.length = l.length := List.length_zipIdx
theorem names_zip (cs : List (Str × Int)) : ∀ n : Nat, ((cs.zipIdx n).map fun q => q.1.1) = cs.map (·.1) := by
  induction cs with
  | nil => intro n; rfl
  | cons c r ih => intro n; rw [List.zipIdx_cons, List.map_cons, List.map_cons, ih]
theorem places_ok {T : Tb} {cs ps : List (Str × Int)} {d : D} (st : Store) (h : Han cs d) (hl : cs.length ≤ 1000) (hp : ps.length ≤ 1000) (hn : (cs.map (·.1)).Nodup) (hm : ∀ p ∈ ps, p.1 ∈ cs.map (·.1)) :
    runF T 2 7 bPlaces [d, .tup (ps.map encP)] st = .ok (pkD (byP cs ps)) st := by
  have dc := dcomp_map (T := T) (own := [3, 4, 5]) (p := .tp (psL [.nm 3, .tp (psL [.nm 4, .nm 5])])) (it := .enum (.var 0)) (c := .no) (k := .var 4) (v := .var 3) (env := [some (.val d), some (.val (.tup (ps.map encP))), none, none, none, none, none]) (st := st) (st1 := st)
    (xs := cs.zipIdx.map fun q => .tup [.int (q.2 : Int), encP q.1]) (gk := fun x => match x with | .tup [_, .tup [.str s, _]] => s | _ => Str.empty) (gv := fun x => match x with | .tup [i, _] => i | _ => .non) rfl (by
      have hz : ((cs.map encP).zipIdx.map fun p => D.tup [.int (p.2 : Int), p.1]) = cs.zipIdx.map fun q => .tup [.int (q.2 : Int), encP q.1] := by
        rw [List.zipIdx_map, List.map_map]; rfl
      rcases h with rfl | rfl <;> simp only [ssL, asL, psL, exs, ex, ev, evs, evbs, evAnd, evOr, evo, evc, evi, evB_var, evB_prim, evB_lit, evB_ty, evB_cmp, evB_call, evB_callK, evB_bin, valAt, borAt, ownAt, List.map_cons, List.map_nil, rep0, rep1, rep2, rep3, rep4, rep5, rep6, rep7, rep8, rep9, rep10, rep11, rep12, rep13, drf_ty, List.cons_append, List.nil_append, Nat.reduceSub, List.getElem?_cons_zero, List.getElem?_cons_succ, of_some, of_none, bind_ok, bind_ex, bind_no, go_ok, go_ex, go_no, nox_ok, drf_int, drf_str, drf_bl, drf_non, drf_tup, drf_lst, drf_dct, idxD_lst, idxD_tup, idxD_dct, cmpD, truD, binD, augD, bindP, bindPs, oSR, List.set_cons_zero, List.set_cons_succ, then_nx, then_rt, then_bk, then_ct, then_no, Option.map_some, Option.map_none, if_true, Bool.false_eq_true, if_false, decide_true, decide_false, hz]) (fun x hx => by
      obtain ⟨q, _, rfl⟩ := List.mem_map.mp hx
      exact ⟨_, rfl, rfl, rfl, rfl⟩) (by rw [List.length_map, List.length_zipIdx]; exact Nat.le_trans hl (by decide)) (by
      rw [List.map_map]
      have : ((fun x => match x with | D.tup [_, .tup [.str s, _]] => s | _ => Str.empty) ∘ fun q : (Str × Int) × Nat => D.tup [.int (q.2 : Int), encP q.1]) = fun q => q.1.1 := rfl
      rw [this, names_zip]
      exact hn)
  have ed : ((cs.zipIdx.map fun q => D.tup [.int (q.2 : Int), encP q.1]).map fun x => (D.str (match x with | .tup [_, .tup [.str s, _]] => s | _ => Str.empty), (match x with | .tup [i, _] => i | _ => .non : D))) = atD cs 0 := by
    rw [List.map_map]; rfl
  rw [ed] at dc
  have c := comp_map (T := T) (own := [4, 6]) (p := .tp (psL [.nm 4, .nm 6])) (it := .seq (.var 1)) (c := .no) (e := .tup (asL [.idx (.var 2) (.var 4), .var 6]))
    (env := [some (.val d), some (.val (.tup (ps.map encP))), some (.val (.dct .k (atD cs 0))), none, none, none, none]) (st := st) (st1 := st) (xs := ps.map encP) (g := fun x => match x with | .tup [.str s, o] => .tup [.int (plc cs s : Int), o] | _ => .non) rfl (by simp only [ssL, asL, psL, exs, ex, ev, evs, evbs, evAnd, evOr, evo, evc, evi, evB_var, evB_prim, evB_lit, evB_ty, evB_cmp, evB_call, evB_callK, evB_bin, valAt, borAt, ownAt, List.map_cons, List.map_nil, rep0, rep1, rep2, rep3, rep4, rep5, rep6, rep7, rep8, rep9, rep10, rep11, rep12, rep13, drf_ty, List.cons_append, List.nil_append, Nat.reduceSub, List.getElem?_cons_zero, List.getElem?_cons_succ, of_some, of_none, bind_ok, bind_ex, bind_no, go_ok, go_ex, go_no, nox_ok, drf_int, drf_str, drf_bl, drf_non, drf_tup, drf_lst, drf_dct, idxD_lst, idxD_tup, idxD_dct, cmpD, truD, binD, augD, bindP, bindPs, oSR, List.set_cons_zero, List.set_cons_succ, then_nx, then_rt, then_bk, then_ct, then_no, Option.map_some, Option.map_none, if_true, Bool.false_eq_true, if_false, decide_true, decide_false]) (fun x hx => by
      obtain ⟨q, hq, rfl⟩ := List.mem_map.mp hx
      refine ⟨_, rfl, rfl, ?_⟩
      have hw : wipeE [some (.val d), some (.val (.tup (ps.map encP))), some (.val (.dct .k (atD cs 0))), none, none, none, none] [4, 6] = [some (.val d), some (.val (.tup (ps.map encP))), some (.val (.dct .k (atD cs 0))), none, none, none, none] := rfl
      rw [hw]
      have lk := look_at q.1 cs 0 (hm q hq)
      rw [Nat.zero_add] at lk
      have hk : isKey .k (.str q.1) = true := rfl
      have pr : small 2 = true := by decide
      simp only [ssL, asL, psL, exs, ex, ev, evs, evbs, evAnd, evOr, evo, evc, evi, evB_var, evB_prim, evB_lit, evB_ty, evB_cmp, evB_call, evB_callK, evB_bin, valAt, borAt, ownAt, List.map_cons, List.map_nil, rep0, rep1, rep2, rep3, rep4, rep5, rep6, rep7, rep8, rep9, rep10, rep11, rep12, rep13, drf_ty, List.cons_append, List.nil_append, Nat.reduceSub, List.getElem?_cons_zero, List.getElem?_cons_succ, of_some, of_none, bind_ok, bind_ex, bind_no, go_ok, go_ex, go_no, nox_ok, drf_int, drf_str, drf_bl, drf_non, drf_tup, drf_lst, drf_dct, idxD_lst, idxD_tup, idxD_dct, cmpD, truD, binD, augD, bindP, bindPs, oSR, List.set_cons_zero, List.set_cons_succ, then_nx, then_rt, then_bk, then_ct, then_no, Option.map_some, Option.map_none, if_true, Bool.false_eq_true, if_false, decide_true, decide_false, lk, hk, encP, List.length_cons, List.length_nil, pr]) (by rw [List.length_map]; exact Nat.le_trans hp (by decide))
  have e2 : (ps.map encP).map (fun x => match x with | .tup [.str s, o] => D.tup [.int (plc cs s : Int), o] | _ => .non) = (byP cs ps).map fun q => .tup [.int q.1, .int q.2] := by
    unfold byP
    rw [List.map_map, List.map_map]; rfl
  rw [e2] at c
  have cB := evB_ok c
  have ln : primD .len [.tup (ps.map encP)] = some (.int ((byP cs ps).length : Int)) := by
    show some (D.int ((ps.map encP).length : Int)) = _
    unfold byP
    rw [List.length_map, List.length_map]
  have tp : primD .tuple_ [.lst ((byP cs ps).map fun q => .tup [.int q.1, .int q.2])] = some (.tup ((byP cs ps).map fun q => .tup [.int q.1, .int q.2])) := rfl
  have pr : small 2 = true := by decide
  unfold runF bPlaces
  rw [if_pos (show [d, D.tup (ps.map encP)].length = 2 from rfl)]
  generalize (A.comp [4, 6] (.tp (psL [.nm 4, .nm 6])) (.seq (.var 1)) .no (.tup (asL [.idx (.var 2) (.var 4), .var 6]))) = Cc at cB ⊢
  generalize (A.dcomp [3, 4, 5] (.tp (psL [.nm 3, .tp (psL [.nm 4, .nm 5])])) (.enum (.var 0)) .no (.var 4) (.var 3)) = Dc at dc ⊢
  simp only [ssL, asL, psL, exs, ex, ev, evs, evbs, evAnd, evOr, evo, evc, evi, evB_var, evB_prim, evB_lit, evB_ty, evB_cmp, evB_call, evB_callK, evB_bin, valAt, borAt, ownAt, List.map_cons, List.map_nil, rep0, rep1, rep2, rep3, rep4, rep5, rep6, rep7, rep8, rep9, rep10, rep11, rep12, rep13, drf_ty, List.cons_append, List.nil_append, Nat.reduceSub, List.getElem?_cons_zero, List.getElem?_cons_succ, of_some, of_none, bind_ok, bind_ex, bind_no, go_ok, go_ex, go_no, nox_ok, drf_int, drf_str, drf_bl, drf_non, drf_tup, drf_lst, drf_dct, idxD_lst, idxD_tup, idxD_dct, cmpD, truD, binD, augD, bindP, bindPs, oSR, List.set_cons_zero, List.set_cons_succ, then_nx, then_rt, then_bk, then_ct, then_no, Option.map_some, Option.map_none, if_true, Bool.false_eq_true, if_false, decide_true, decide_false, dc, cB, ln, tp, pr, List.length_cons, List.length_nil, pkD]
def PlacesOk (f : List D → Store → Res D) : Prop := ∀ (cs ps : List (Str × Int)) (d : D) (st : Store), Han cs d → cs.length ≤ 1000 → ps.length ≤ 1000 → (cs.map (·.1)).Nodup → (∀ p ∈ ps, p.1 ∈ cs.map (·.1)) → f [d, .tup (ps.map encP)] st = .ok (pkD (byP cs ps)) st
theorem places_all (T : Tb) : PlacesOk (runF T 2 7 bPlaces) := fun cs ps d st h hl hp hn hm => places_ok st h hl hp hn hm
def bLesser (p : Nat) : Ss := (ssL [.ret (.cmp .Lt (.call p (asL [.var 0, .var 1])) (.call p (asL [.var 0, .var 2])))])
def lesserB (cs ps qs : List (Str × Int)) : Bool := PySem.W.dataLt (pkP (byP cs ps)) (pkP (byP cs qs))
def LesserOk (f : List D → Store → Res D) : Prop := ∀ (cs ps qs : List (Str × Int)) (d : D) (st : Store), Han cs d → cs.length ≤ 1000 → ps.length ≤ 1000 → qs.length ≤ 1000 → (cs.map (·.1)).Nodup → (∀ p ∈ ps, p.1 ∈ cs.map (·.1)) → (∀ p ∈ qs, p.1 ∈ cs.map (·.1)) →
    f [d, .tup (ps.map encP), .tup (qs.map encP)] st = .ok (.bl (lesserB cs ps qs)) st
theorem lesser_all {T : Tb} {p : Nat} (hP : PlacesOk (T.fn p)) : LesserOk (runF T 3 3 (bLesser p)) := by
  intro cs ps qs d st h hl hp hq hn hm hm2
  have a := hP cs ps d st h hl hp hn hm
  have b := hP cs qs d st h hl hq hn hm2
  have lt := lt_pk (byP cs ps) (byP cs qs)
  have dr : ∀ l, drf st (pkD l) = pkD l := fun _ => rfl
  have cm : cmpD .Lt (pkD (byP cs ps)) (pkD (byP cs qs)) = some (lesserB cs ps qs) := lt
  unfold runF bLesser
  rw [if_pos (show [d, D.tup (ps.map encP), D.tup (qs.map encP)].length = 3 from rfl)]
  have d1 := dr (byP cs ps)
  have d2 := dr (byP cs qs)
  generalize pkD (byP cs ps) = u at a d1 cm
  generalize pkD (byP cs qs) = v at b d2 cm
  have a' : T.fn p [d, D.tup (ps.map encP)] st = .ok u st := a
  simp only [ssL, asL, psL, exs, ex, ev, evs, evbs, evAnd, evOr, evo, evc, evi, evB_var, evB_prim, evB_lit, evB_ty, evB_cmp, evB_call, evB_callK, evB_bin, evB_or, evB_and, evB_not, evB_tup, evB_lst, evB_idx, evB_mth, evB_cat, evB_comp, valAt, borAt, ownAt, List.map_cons, List.map_nil, rep0, rep1, rep2, rep3, rep4, rep5, rep6, rep7, rep8, rep9, rep10, rep11, rep12, rep13, drf_ty, List.cons_append, List.nil_append, Nat.reduceSub, List.getElem?_cons_zero, List.getElem?_cons_succ, of_some, of_none, bind_ok, bind_ex, bind_no, go_ok, go_ex, go_no, nox_ok, drf_int, drf_str, drf_bl, drf_non, drf_tup, drf_lst, drf_dct, idxD_lst, idxD_tup, idxD_dct, truD, binD, augD, bindP, bindPs, oSR, List.set_cons_zero, List.set_cons_succ, then_nx, then_rt, then_bk, then_ct, then_no, Option.map_some, Option.map_none, if_true, Bool.false_eq_true, if_false, decide_true, decide_false, a, b, d1, d2, cm]
end LB
end

section
set_option Elab.async false
set_option linter.all false
set_option maxRecDepth 100000
set_option maxHeartbeats 4000000
/-! LBf: comprehensions with a test; what lots and parts are. -/
namespace LB
open PySem L3
theorem compGo_filt {f : D → List D → Store → Res (List D)} {t : D → Bool} {g : D → D} {st : Store} : ∀ (xs acc : List D), (∀ x ∈ xs, ∀ acc : List D, acc.length < sizeLine → f x acc st = .ok (if t x = true then acc ++ [g x] else acc) st) → acc.length + xs.length ≤ sizeLine → compGo f xs acc st = .ok (acc ++ (xs.filter t).map g) st
  | [], acc, _, _ => by simp [compGo]
  | x :: r, acc, h, hl => by
    rw [List.length_cons] at hl
    unfold compGo
    rw [h x List.mem_cons_self acc (by omega), bind_ok]
    by_cases e : t x = true
    · rw [if_pos e, compGo_filt r _ (fun y hy => h y (List.mem_cons_of_mem _ hy)) (by rw [List.length_append, List.length_singleton]; omega), List.filter_cons_of_pos e]
      simp
    · rw [if_neg e, compGo_filt r _ (fun y hy => h y (List.mem_cons_of_mem _ hy)) (by omega), List.filter_cons_of_neg e]
theorem comp_filt {T : Tb} {own : List Nat} {p : Pat} {it : It} {c : Ao} {e : A} {env : L3.Env} {st st1 : Store} {xs : List D} {t : D → Bool} {g : D → D} (ho : own.any (fun i => (ownAt env i).isSome) = false) (hi : evi T true it env st = .ok xs st1)
    (h : ∀ x ∈ xs, ∃ env', bindP p x (wipeE env own) = some env' ∧ evc T c env' st1 = .ok (t x) st1 ∧ (t x = true → ev T e env' st1 = .ok (g x) st1)) (hl : xs.length ≤ sizeLine) :
    ev T (.comp own p it c e) env st = .ok (.lst ((xs.filter t).map g)) st1 := by
  have q1 := compGo_filt (f := compF T own p c e env) (t := t) (g := g) (st := st1) xs [] (fun x hx acc ha => by
    obtain ⟨env', e1, e2, e3⟩ := h x hx
    unfold compF
    rw [e1, of_some, bind_ok, e2, nox_ok, bind_ok]
    by_cases e : t x = true
    · rw [if_pos e, if_pos e, e3 e, nox_ok, bind_ok, if_pos (decide_eq_true ha)]
    · rw [if_neg e, if_neg e]) (by simpa using hl)
  show (if own.any (fun i => (ownAt env i).isSome) then (.no : Res D) else (evi T true it env st).bind fun xs st => (compGo (compF T own p c e env) xs [] st).bind fun ds st => .ok (D.lst ds) st) = _
  rw [ho, hi]
  simp only [Bool.false_eq_true, if_false, bind_ok]
  rw [q1]
  rfl
/-! ### parts -/
theorem PartOf.sub {cs ps : List (Str × Int)} (h : PartOf cs ps) : (ps.map (·.1)).Sublist (cs.map (·.1)) := by
  induction h with
  | nil => exact .slnil
  | skip _ ih => exact .cons _ ih
  | take _ _ _ ih => exact .cons_cons _ ih
theorem PartOf.nodup {cs ps : List (Str × Int)} (h : PartOf cs ps) (hn : (cs.map (·.1)).Nodup) : (ps.map (·.1)).Nodup := h.sub.nodup hn
theorem PartOf.names {cs ps : List (Str × Int)} (h : PartOf cs ps) : ∀ p ∈ ps, p.1 ∈ cs.map (·.1) := fun p hp => h.sub.subset (List.mem_map.mpr ⟨p, hp, rfl⟩)
theorem lk_mem {ps : List (Str × Int)} {s : Str} {o : Int} (h : lk ps s = some o) : (s, o) ∈ ps := by
  unfold lk at h
  obtain ⟨p, h1, h2⟩ := Option.map_eq_some_iff.mp h
  have e := List.find?_some h1
  have e : p.1 = s := of_decide_eq_true e
  have m := List.mem_of_find?_eq_some h1
  rw [← e, ← h2]
  exact m
theorem lk_of : ∀ {ps : List (Str × Int)} {p : Str × Int}, (ps.map (·.1)).Nodup → p ∈ ps → lk ps p.1 = some p.2
  | [], _, _, h => by cases h
  | q :: r, p, hn, h => by
    rw [List.map_cons, List.nodup_cons] at hn
    unfold lk
    by_cases e : q.1 = p.1
    · rw [List.find?_cons_of_pos (p := fun x : Str × Int => decide (x.1 = p.1)) (decide_eq_true e)]
      rcases List.mem_cons.mp h with z | z
      · rw [z]; rfl
      · exact (hn.1 (by rw [e]; exact List.mem_map.mpr ⟨p, z, rfl⟩)).elim
    · rw [List.find?_cons_of_neg (p := fun x : Str × Int => decide (x.1 = p.1)) (by rw [decide_eq_true_eq]; exact e)]
      rcases List.mem_cons.mp h with z | z
      · exact (e (by rw [z])).elim
      · exact lk_of hn.2 z
/-- of a choice of unlike names what a part settles is an option of it -/
theorem PartOf.opt {cs ps : List (Str × Int)} (h : PartOf cs ps) (hn : (cs.map (·.1)).Nodup) {c : Str × Int} (hc : c ∈ cs) {o : Int} (hl : lk ps c.1 = some o) : 0 ≤ o ∧ o < c.2 := by
  obtain ⟨c', h1, h2, h3, h4⟩ := h.mem _ (lk_mem hl)
  have a := lk_of hn hc
  have b := lk_of hn h1
  rw [h2] at b
  rw [a] at b
  have : c.2 = c'.2 := Option.some.inj b
  exact ⟨h3, by rw [this]; exact h4⟩
theorem PartOf.cut {cs ps : List (Str × Int)} (h : PartOf cs ps) : ∀ (k : Nat), PartOf cs (ps.take k ++ ps.drop (k + 1)) := by
  induction h with
  | nil => intro k; simp; exact .nil
  | skip _ ih => intro k; exact .skip (ih k)
  | take a b h ih =>
    intro k
    cases k with
    | zero => exact .skip h
    | succ k => exact .take a b (ih k)
theorem PartOf.put {cs ps : List (Str × Int)} (h : PartOf cs ps) : ∀ (k : Nat) (p : Str × Int) (o : Int), ps[k]? = some p → (∀ c ∈ cs, c.1 = p.1 → 0 ≤ o ∧ o < c.2) → PartOf cs (ps.take k ++ (p.1, o) :: ps.drop (k + 1)) := by
  induction h with
  | nil => intro k p o hk; simp at hk
  | skip _ ih => intro k p o hk ho; exact .skip (ih k p o hk fun c hc => ho c (List.mem_cons_of_mem _ hc))
  | take a b h ih =>
    intro k p o hk ho
    cases k with
    | zero =>
      have e : p = _ := (Option.some.inj hk).symm
      have := ho _ List.mem_cons_self (by rw [e])
      rw [e]
      exact .take this.1 this.2 h
    | succ k => exact .take a b (ih k p o hk fun c hc => ho c (List.mem_cons_of_mem _ hc))
/-! ### lots in a part -/
theorem base_lk {ps : List (Str × Int)} (hn : (ps.map (·.1)).Nodup) (c : Str × Int) : base ps c = match lk ps c.1 with | some v => (v, 1) | none => (0, c.2) := by
  unfold base
  rw [look_part hn]
  cases lk ps c.1 <;> rfl
theorem lots_snoc (dn : List (Str × Int)) (c : Str × Int) (ps : List (Str × Int)) : lotsR ((dn ++ [c]).map (base ps)).reverse = (lotsR (dn.map (base ps)).reverse).flatMap (stepL (base ps c)) := by
  rw [List.map_append, List.reverse_append]
  rfl
theorem isIn_snoc {dn : List (Str × Int)} {lot : List Int} (h : lot.length = dn.length) (c : Str × Int) (o : Int) (ps : List (Str × Int)) : isIn (dn ++ [c]) (lot ++ [o]) ps = (isIn dn lot ps && ((lk ps c.1).getD o == o)) := by
  unfold isIn
  rw [List.zip_append h.symm, List.all_append]
  simp
theorem step_filt {cs ps : List (Str × Int)} {c : Str × Int} (hn : (ps.map (·.1)).Nodup) (ho : ∀ o, lk ps c.1 = some o → 0 ≤ o ∧ o < c.2) (h0 : 0 ≤ c.2) (lot : List Int) : (stepL (0, c.2) lot).filter (fun l => (lk ps c.1).getD (l.getLastD 0) == l.getLastD 0) = stepL (base ps c) lot := by
  rw [base_lk hn]
  unfold stepL
  rw [List.filter_map]
  have e : ((fun l : List Int => (lk ps c.1).getD (l.getLastD 0) == l.getLastD 0) ∘ fun (o : Nat) => lot ++ [(0, c.2).1 + (o : Int)]) = fun (o : Nat) => (lk ps c.1).getD (o : Int) == (o : Int) := by
    funext o
    show ((lk ps c.1).getD ((lot ++ [0 + (o : Int)]).getLastD 0) == (lot ++ [0 + (o : Int)]).getLastD 0) = _
    rw [List.getLastD_concat, Int.zero_add]
  rw [e]
  cases hk : lk ps c.1 with
  | none =>
    have : (List.range (0, c.2).2.toNat).filter (fun (o : Nat) => (Option.none : Option Int).getD (o : Int) == (o : Int)) = List.range (0, c.2).2.toNat := List.filter_eq_self.mpr fun o _ => by simp
    rw [this]
  | some v =>
    obtain ⟨v0, v1⟩ := ho v hk
    have : (List.range (0, c.2).2.toNat).filter (fun (o : Nat) => (some v : Option Int).getD (o : Int) == (o : Int)) = [v.toNat] := by
      have e2 : (fun (o : Nat) => (some v : Option Int).getD (o : Int) == (o : Int)) = fun (o : Nat) => o == v.toNat := by
        funext o
        show (v == (o : Int)) = (o == v.toNat)
        by_cases q : o = v.toNat
        · rw [beq_iff_eq.mpr q, beq_iff_eq]; omega
        · rw [beq_eq_false_iff_ne.mpr q, beq_eq_false_iff_ne]; omega
      rw [e2]
      have hlt : v.toNat < (0, c.2).2.toNat := by show v.toNat < c.2.toNat; omega
      generalize (0, c.2).2.toNat = m at hlt
      generalize v.toNat = n at hlt
      clear e2 e hk
      induction m with
      | zero => omega
      | succ m ih =>
        rw [List.range_succ, List.filter_append]
        by_cases q : n = m
        · subst q
          have : (List.range n).filter (fun o => o == n) = [] := List.filter_eq_nil_iff.mpr fun a ha => by have := List.mem_range.mp ha; simp; omega
          rw [this]
          simp
        · rw [ih (by omega)]
          have : ¬ (m == n) = true := by simp; omega
          rw [List.filter_cons_of_neg (p := fun o => o == n) this]
          rfl
    rw [this]
    show [lot ++ [0 + ((v.toNat : Nat) : Int)]] = [lot ++ [v + ((0 : Nat) : Int)]]
    have : 0 + ((v.toNat : Nat) : Int) = v + ((0 : Nat) : Int) := by omega
    rw [this]
theorem flat_filt {α β : Type} (P : β → Bool) (f : α → List β) : ∀ l : List α, (l.flatMap f).filter P = l.flatMap fun a => (f a).filter P
  | [] => rfl
  | a :: r => by rw [List.flatMap_cons, List.filter_append, flat_filt P f r, List.flatMap_cons]
theorem flat_congr {α β : Type} {f g : α → List β} : ∀ {l : List α}, (∀ a ∈ l, f a = g a) → l.flatMap f = l.flatMap g
  | [], _ => rfl
  | a :: r, h => by rw [List.flatMap_cons, List.flatMap_cons, h a List.mem_cons_self, flat_congr fun b hb => h b (List.mem_cons_of_mem _ hb)]
theorem flat_if {α β : Type} (P : α → Bool) (f : α → List β) : ∀ l : List α, (l.flatMap fun a => if P a = true then f a else []) = (l.filter P).flatMap f
  | [] => rfl
  | a :: r => by
    rw [List.flatMap_cons, flat_if P f r]
    by_cases h : P a = true
    · rw [if_pos h, List.filter_cons_of_pos h, List.flatMap_cons]
    · rw [if_neg h, List.filter_cons_of_neg h]; rfl
theorem lot_lenE {cs : List (Str × Int)} {ps : List (Str × Int)} : ∀ l ∈ lotsR (cs.map (base ps)).reverse, l.length = cs.length := fun l h => by
  have := lot_len _ l h
  rw [List.length_reverse, List.length_map] at this
  exact this
/-- the lots in a part are those of all lots that are in it -/
theorem filt_lots {ps : List (Str × Int)} (hn : (ps.map (·.1)).Nodup) : ∀ cs : List (Str × Int), (∀ c ∈ cs, 0 ≤ c.2 ∧ ∀ o, lk ps c.1 = some o → 0 ≤ o ∧ o < c.2) → (lotsR (cs.map (base [])).reverse).filter (fun l => isIn cs l ps) = lotsR (cs.map (base ps)).reverse := by
  intro cs
  have key : ∀ (n : Nat) (cs : List (Str × Int)), cs.length = n → (∀ c ∈ cs, 0 ≤ c.2 ∧ ∀ o, lk ps c.1 = some o → 0 ≤ o ∧ o < c.2) → (lotsR (cs.map (base [])).reverse).filter (fun l => isIn cs l ps) = lotsR (cs.map (base ps)).reverse := by
    intro n
    induction n with
    | zero =>
      intro cs hl _
      have : cs = [] := List.length_eq_zero_iff.mp hl
      subst this
      rfl
    | succ n ih =>
      intro cs hl h
      have hne : cs ≠ [] := fun e => by rw [e] at hl; cases hl
      obtain ⟨dn, c, rfl⟩ : ∃ dn c, cs = dn ++ [c] := ⟨cs.dropLast, cs.getLast hne, (List.dropLast_concat_getLast hne).symm⟩
      rw [List.length_append, List.length_singleton] at hl
      have hc := h c (List.mem_append_right _ List.mem_cons_self)
      rw [lots_snoc, lots_snoc, flat_filt, ← ih dn (by omega) fun c hc => h c (List.mem_append_left _ hc), ← flat_if]
      refine flat_congr fun lot hlot => ?_
      have hlen := lot_lenE lot hlot
      have e : (stepL (base [] c) lot).filter (fun l => isIn (dn ++ [c]) l ps) = (stepL (0, c.2) lot).filter (fun l => isIn dn lot ps && ((lk ps c.1).getD (l.getLastD 0) == l.getLastD 0)) := by
        show (stepL (0, c.2) lot).filter _ = _
        refine List.filter_congr fun l hl => ?_
        unfold stepL at hl
        obtain ⟨o, _, rfl⟩ := List.mem_map.mp hl
        show isIn (dn ++ [c]) (lot ++ [0 + (o : Int)]) ps = _
        rw [isIn_snoc hlen, List.getLastD_concat]
      rw [e]
      cases hi : isIn dn lot ps with
      | true =>
        rw [if_pos rfl, ← step_filt (cs := dn) hn hc.2 hc.1 lot]
        simp only [Bool.true_and]
      | false =>
        rw [if_neg Bool.false_ne_true]
        simp
  exact key cs.length cs rfl
/-- a lot by its options -/
theorem mem_lots (f : Str × Int → Int) : ∀ cs : List (Str × Int), (∀ c ∈ cs, 0 ≤ f c ∧ f c < c.2) → cs.map f ∈ lotsR (cs.map (base [])).reverse := by
  intro cs
  have key : ∀ (n : Nat) (cs : List (Str × Int)), cs.length = n → (∀ c ∈ cs, 0 ≤ f c ∧ f c < c.2) → cs.map f ∈ lotsR (cs.map (base [])).reverse := by
    intro n
    induction n with
    | zero =>
      intro cs hl _
      have : cs = [] := List.length_eq_zero_iff.mp hl
      subst this
      exact List.mem_cons_self
    | succ n ih =>
      intro cs hl h
      have hne : cs ≠ [] := fun e => by rw [e] at hl; cases hl
      obtain ⟨dn, c, rfl⟩ : ∃ dn c, cs = dn ++ [c] := ⟨cs.dropLast, cs.getLast hne, (List.dropLast_concat_getLast hne).symm⟩
      rw [List.length_append, List.length_singleton] at hl
      have hc := h c (List.mem_append_right _ List.mem_cons_self)
      rw [lots_snoc, List.map_append]
      refine List.mem_flatMap.mpr ⟨dn.map f, ih dn (by omega) fun c hc => h c (List.mem_append_left _ hc), ?_⟩
      unfold stepL
      refine List.mem_map.mpr ⟨(f c).toNat, List.mem_range.mpr (by show (f c).toNat < c.2.toNat; omega), ?_⟩
      show dn.map f ++ [0 + (((f c).toNat : Nat) : Int)] = dn.map f ++ [f c]
      have : 0 + (((f c).toNat : Nat) : Int) = f c := by omega
      rw [this]
  exact key cs.length cs rfl
theorem isIn_map (cs ps : List (Str × Int)) (f : Str × Int → Int) : isIn cs (cs.map f) ps = cs.all fun c => (lk ps c.1).getD (f c) == f c := by
  unfold isIn
  induction cs with
  | nil => rfl
  | cons c r ih =>
    rw [List.map_cons, List.zip_cons_cons, List.all_cons, List.all_cons, ih]
/-- two parts meet just where some lot is in both -/
theorem meet_lots {cs ps qs : List (Str × Int)} (hcs : (cs.map (·.1)).Nodup) (hp : PartOf cs ps) (hq : PartOf cs qs) (h0 : ∀ c ∈ cs, 0 < c.2) :
    meetB ps qs = !((((lotsR (cs.map (base [])).reverse).filter fun l => isIn cs l ps).filter fun l => isIn cs l qs).isEmpty) := by
  have hpn := hp.nodup hcs
  have hqn := hq.nodup hcs
  cases hb : (((lotsR (cs.map (base [])).reverse).filter fun l => isIn cs l ps).filter fun l => isIn cs l qs) with
  | cons l r =>
    have hl : l ∈ (((lotsR (cs.map (base [])).reverse).filter fun l => isIn cs l ps).filter fun l => isIn cs l qs) := by rw [hb]; exact List.mem_cons_self
    rw [List.mem_filter, List.mem_filter] at hl
    obtain ⟨⟨hl, hi1⟩, hi2⟩ := hl
    have hlen := lot_lenE l hl
    show meetB ps qs = true
    refine List.all_eq_true.mpr fun q hqm => ?_
    obtain ⟨c, hc, e, _⟩ := hq.mem q hqm
    obtain ⟨i, hi, hci⟩ := List.getElem_of_mem hc
    have hz : (c, l[i]'(by rw [hlen]; exact hi)) ∈ cs.zip l := by
      rw [← hci]
      exact List.mem_iff_getElem.mpr ⟨i, by rw [List.length_zip]; omega, by rw [List.getElem_zip]⟩
    have a1 := List.all_eq_true.mp hi1 _ hz
    have a2 := List.all_eq_true.mp hi2 _ hz
    dsimp only at a1 a2
    rw [e] at a1 a2
    rw [lk_of hqn hqm] at a2
    have a2 : q.2 = l[i]'(by rw [hlen]; exact hi) := by simpa using a2
    rw [← a2] at a1
    exact a1
  | nil =>
    show meetB ps qs = false
    refine Bool.eq_false_iff.mpr fun hm => ?_
    let f : Str × Int → Int := fun c => (lk ps c.1).getD ((lk qs c.1).getD 0)
    have hf : ∀ c ∈ cs, 0 ≤ f c ∧ f c < c.2 := fun c hc => by
      show 0 ≤ (lk ps c.1).getD ((lk qs c.1).getD 0) ∧ (lk ps c.1).getD ((lk qs c.1).getD 0) < c.2
      cases e : lk ps c.1 with
      | some o => exact hp.opt hcs hc e
      | none =>
        cases e2 : lk qs c.1 with
        | some o => exact hq.opt hcs hc e2
        | none => exact ⟨Int.le_refl _, h0 c hc⟩
    have hmem := mem_lots f cs hf
    have i1 : isIn cs (cs.map f) ps = true := by
      rw [isIn_map]
      refine List.all_eq_true.mpr fun c hc => ?_
      show ((lk ps c.1).getD ((lk ps c.1).getD ((lk qs c.1).getD 0)) == (lk ps c.1).getD ((lk qs c.1).getD 0)) = true
      cases lk ps c.1 <;> simp [f]
    have i2 : isIn cs (cs.map f) qs = true := by
      rw [isIn_map]
      refine List.all_eq_true.mpr fun c hc => ?_
      show ((lk qs c.1).getD (f c) == (lk ps c.1).getD ((lk qs c.1).getD 0)) = true
      cases e2 : lk qs c.1 with
      | none =>
        simp [f, e2]
      | some o =>
        have := List.all_eq_true.mp hm _ (lk_mem e2)
        have this : ((lk ps c.1).getD o == o) = true := this
        show (o == (lk ps c.1).getD o) = true
        rw [beq_iff_eq] at this ⊢
        exact this.symm
    have : cs.map f ∈ (((lotsR (cs.map (base [])).reverse).filter fun l => isIn cs l ps).filter fun l => isIn cs l qs) := List.mem_filter.mpr ⟨List.mem_filter.mpr ⟨hmem, i1⟩, i2⟩
    rw [hb] at this
    cases this
end LB
end

section
set_option Elab.async false
set_option linter.all false
set_option maxRecDepth 100000
set_option maxHeartbeats 0
/-! law_k03_parts: what each def does, in the small language (printed by gen.py). -/
namespace LW
open PySem PySem.Spec PyProof.Rows L2 L3 LB
abbrev oS (x : Str) : Option Str := some x
def top (i : Nat) : Stmt := PySem.Challenge.pw_joinedrun_k03_parts.main.body.getD i (.Pass ⟨0, 0, 0, 0⟩)
def cons : List D := []
def cnam : List Str := []
def kdn : List (Str × List Str) := []
def tvL : List (Str × List (Str × D)) := []
def xxL : List Str := []
def xsL : List (Nat × Str × List Str) := []
def xiL : List (Nat × Bool × List (Bool × Str) × Bool) := []
def coL : List (Nat × String) := []
def caL : List (Nat × Str) := []
/-! is_in -/
abbrev s0 : Stmt := top 1
def N0 : List Str := ["choices", "lot", "part", "settled", "name", "many", "option"]
def P0 : List Str := ["choices", "lot", "part"]
def b0 : Ss := bIsIn
def fs0 : List (List D → Store → Res D) := []
def fn0 : List (Option Str) := []
def ks0 : List KC := []
def kc0 : List (Str × List Str) := []
def cl0 : ClI := ⟨caL, [], [], tvL, xsL, xiL, coL⟩
def T0 : Tb := mkT fs0 cons ks0
def F0 : List D → Store → Res D := runF T0 3 7 b0
theorem c0 : C8.scC N0 P0 (defScope s0) = true ∧ chkSs ⟨N0, fn0, cnam, kc0, kdn, cl0⟩ (defScope s0) b0 (defBody s0) = true := ⟨by decide +kernel, by decide +kernel⟩
/-! meet -/
abbrev s1 : Stmt := top 2
def N1 : List Str := ["one", "other", "settled", "name", "option"]
def P1 : List Str := ["one", "other"]
def b1 : Ss := bMeet
def fs1 : List (List D → Store → Res D) := [F0]
def fn1 : List (Option Str) := [oS "is_in"]
def ks1 : List KC := [⟨0, 0, 3, pD [] [.inl 1, .inl 0, .inl 2]⟩]
def kc1 : List (Str × List Str) := [("is_in", ["lot", "choices", "part"])]
def cl1 : ClI := ⟨caL, [], [], tvL, xsL, xiL, coL⟩
def T1 : Tb := mkT fs1 cons ks1
def F1 : List D → Store → Res D := runF T1 2 5 b1
theorem c1 : C8.scC N1 P1 (defScope s1) = true ∧ chkSs ⟨N1, fn1, cnam, kc1, kdn, cl1⟩ (defScope s1) b1 (defBody s1) = true := ⟨by decide +kernel, by decide +kernel⟩
/-! places_of -/
abbrev s2 : Stmt := top 3
def N2 : List Str := ["choices", "part", "at", "k", "name", "many", "option"]
def P2 : List Str := ["choices", "part"]
def b2 : Ss := bPlaces
def fs2 : List (List D → Store → Res D) := [F0, F1]
def fn2 : List (Option Str) := [oS "is_in", oS "meet"]
def ks2 : List KC := [⟨0, 0, 3, pD [] [.inl 1, .inl 0, .inl 2]⟩]
def kc2 : List (Str × List Str) := [("is_in", ["lot", "choices", "part"])]
def cl2 : ClI := ⟨caL, [], [], tvL, xsL, xiL, coL⟩
def T2 : Tb := mkT fs2 cons ks2
def F2 : List D → Store → Res D := runF T2 2 7 b2
theorem c2 : C8.scC N2 P2 (defScope s2) = true ∧ chkSs ⟨N2, fn2, cnam, kc2, kdn, cl2⟩ (defScope s2) b2 (defBody s2) = true := ⟨by decide +kernel, by decide +kernel⟩
/-! lesser -/
abbrev s3 : Stmt := top 4
def N3 : List Str := ["choices", "one", "other"]
def P3 : List Str := ["choices", "one", "other"]
def b3 : Ss := bLesser 2
def fs3 : List (List D → Store → Res D) := [F0, F1, F2]
def fn3 : List (Option Str) := [oS "is_in", oS "meet", oS "places_of"]
def ks3 : List KC := [⟨0, 0, 3, pD [] [.inl 1, .inl 0, .inl 2]⟩]
def kc3 : List (Str × List Str) := [("is_in", ["lot", "choices", "part"])]
def cl3 : ClI := ⟨caL, [], [], tvL, xsL, xiL, coL⟩
def T3 : Tb := mkT fs3 cons ks3
def F3 : List D → Store → Res D := runF T3 3 3 b3
theorem c3 : C8.scC N3 P3 (defScope s3) = true ∧ chkSs ⟨N3, fn3, cnam, kc3, kdn, cl3⟩ (defScope s3) b3 (defBody s3) = true := ⟨by decide +kernel, by decide +kernel⟩
/-! _law_purse -/
abbrev s4 : Stmt := top 6
def N4 : List Str := ["_law_script", "_law_at", "_law_cell", "_law_far"]
def P4 : List Str := ["_law_script", "_law_at"]
def b4 : Ss := bPurse
def fs4 : List (List D → Store → Res D) := [F0, F1, F2, F3]
def fn4 : List (Option Str) := [oS "is_in", oS "meet", oS "places_of", oS "lesser"]
def ks4 : List KC := [⟨0, 0, 3, pD [] [.inl 1, .inl 0, .inl 2]⟩]
def kc4 : List (Str × List Str) := [("is_in", ["lot", "choices", "part"])]
def cl4 : ClI := ⟨caL, [], [], tvL, xsL, xiL, coL⟩
def T4 : Tb := mkT fs4 cons ks4
def F4 : List D → Store → Res D := runF T4 2 4 b4
theorem c4 : C8.scC N4 P4 (defScope s4) = true ∧ chkSs ⟨N4, fn4, cnam, kc4, kdn, cl4⟩ (defScope s4) b4 (defBody s4) = true := ⟨by decide +kernel, by decide +kernel⟩
/-! _law_take -/
abbrev s5 : Stmt := top 7
def N5 : List Str := ["_law_purse_here", "_law_many", "_law_digit", "_law_primes", "_law_nth", "_law_base", "_law_blend"]
def P5 : List Str := ["_law_purse_here", "_law_many"]
def b5 : Ss := bTake
def fs5 : List (List D → Store → Res D) := [F0, F1, F2, F3, F4]
def fn5 : List (Option Str) := [oS "is_in", oS "meet", oS "places_of", oS "lesser", oS "_law_purse"]
def ks5 : List KC := [⟨0, 0, 3, pD [] [.inl 1, .inl 0, .inl 2]⟩]
def kc5 : List (Str × List Str) := [("is_in", ["lot", "choices", "part"])]
def cl5 : ClI := ⟨caL, [], [], tvL, xsL, xiL, coL⟩
def T5 : Tb := mkT fs5 cons ks5
def F5 : List D → Store → Res D := runF T5 2 7 b5
theorem c5 : C8.scC N5 P5 (defScope s5) = true ∧ chkSs ⟨N5, fn5, cnam, kc5, kdn, cl5⟩ (defScope s5) b5 (defBody s5) = true := ⟨by decide +kernel, by decide +kernel⟩
/-! _law_names -/
abbrev s6 : Stmt := top 8
def N6 : List Str := ["_law_purse_here", "_law_many", "_law_signs", "_law_wide", "_law_base", "_law_k", "_law_at", "_law_first"]
def P6 : List Str := ["_law_purse_here", "_law_many", "_law_signs", "_law_wide"]
def b6 : Ss := bNames 5
def fs6 : List (List D → Store → Res D) := [F0, F1, F2, F3, F4, F5]
def fn6 : List (Option Str) := [oS "is_in", oS "meet", oS "places_of", oS "lesser", oS "_law_purse", oS "_law_take"]
def ks6 : List KC := [⟨0, 0, 3, pD [] [.inl 1, .inl 0, .inl 2]⟩]
def kc6 : List (Str × List Str) := [("is_in", ["lot", "choices", "part"])]
def cl6 : ClI := ⟨caL, [], [], tvL, xsL, xiL, coL⟩
def T6 : Tb := mkT fs6 cons ks6
def F6 : List D → Store → Res D := runF T6 4 8 b6
theorem c6 : C8.scC N6 P6 (defScope s6) = true ∧ chkSs ⟨N6, fn6, cnam, kc6, kdn, cl6⟩ (defScope s6) b6 (defBody s6) = true := ⟨by decide +kernel, by decide +kernel⟩
/-! _law_choices -/
abbrev s7 : Stmt := top 9
def N7 : List Str := ["_law_purse_here", "_law_most", "_law_many", "_law_names_here", "_law_name"]
def P7 : List Str := ["_law_purse_here", "_law_most"]
def b7 : Ss := bChoices 5 6
def fs7 : List (List D → Store → Res D) := [F0, F1, F2, F3, F4, F5, F6]
def fn7 : List (Option Str) := [oS "is_in", oS "meet", oS "places_of", oS "lesser", oS "_law_purse", oS "_law_take", oS "_law_names"]
def ks7 : List KC := [⟨0, 0, 3, pD [] [.inl 1, .inl 0, .inl 2]⟩]
def kc7 : List (Str × List Str) := [("is_in", ["lot", "choices", "part"])]
def cl7 : ClI := ⟨caL, [], [], tvL, xsL, xiL, coL⟩
def T7 : Tb := mkT fs7 cons ks7
def F7 : List D → Store → Res D := runF T7 2 5 b7
theorem c7 : C8.scC N7 P7 (defScope s7) = true ∧ chkSs ⟨N7, fn7, cnam, kc7, kdn, cl7⟩ (defScope s7) b7 (defBody s7) = true := ⟨by decide +kernel, by decide +kernel⟩
/-! _law_part -/
abbrev s8 : Stmt := top 10
def N8 : List Str := ["_law_purse_here", "_law_open_ones", "_law_share", "_law_found", "_law_name", "_law_many", "_law_option"]
def P8 : List Str := ["_law_purse_here", "_law_open_ones", "_law_share"]
def b8 : Ss := bPart 5
def fs8 : List (List D → Store → Res D) := [F0, F1, F2, F3, F4, F5, F6, F7]
def fn8 : List (Option Str) := [oS "is_in", oS "meet", oS "places_of", oS "lesser", oS "_law_purse", oS "_law_take", oS "_law_names", oS "_law_choices"]
def ks8 : List KC := [⟨0, 0, 3, pD [] [.inl 1, .inl 0, .inl 2]⟩]
def kc8 : List (Str × List Str) := [("is_in", ["lot", "choices", "part"])]
def cl8 : ClI := ⟨caL, [], [], tvL, xsL, xiL, coL⟩
def T8 : Tb := mkT fs8 cons ks8
def F8 : List D → Store → Res D := runF T8 3 7 b8
theorem c8 : C8.scC N8 P8 (defScope s8) = true ∧ chkSs ⟨N8, fn8, cnam, kc8, kdn, cl8⟩ (defScope s8) b8 (defBody s8) = true := ⟨by decide +kernel, by decide +kernel⟩
/-! _law_lots -/
abbrev s9 : Stmt := top 11
def N9 : List Str := ["_law_open_ones", "_law_own", "_law_found", "_law_settled", "_law_name", "_law_many", "_law_longer", "_law_settling", "_law_options", "_law_option"]
def P9 : List Str := ["_law_open_ones", "_law_own"]
def b9 : Ss := bLots
def fs9 : List (List D → Store → Res D) := [F0, F1, F2, F3, F4, F5, F6, F7, F8]
def fn9 : List (Option Str) := [oS "is_in", oS "meet", oS "places_of", oS "lesser", oS "_law_purse", oS "_law_take", oS "_law_names", oS "_law_choices", oS "_law_part"]
def ks9 : List KC := [⟨0, 0, 3, pD [] [.inl 1, .inl 0, .inl 2]⟩]
def kc9 : List (Str × List Str) := [("is_in", ["lot", "choices", "part"])]
def cl9 : ClI := ⟨caL, [], [], tvL, xsL, xiL, coL⟩
def T9 : Tb := mkT fs9 cons ks9
def F9 : List D → Store → Res D := runF T9 2 10 b9
theorem c9 : C8.scC N9 P9 (defScope s9) = true ∧ chkSs ⟨N9, fn9, cnam, kc9, kdn, cl9⟩ (defScope s9) b9 (defBody s9) = true := ⟨by decide +kernel, by decide +kernel⟩
/-! _law_near -/
abbrev s10 : Stmt := top 12
def N10 : List Str := ["_law_purse_here", "_law_open_ones", "_law_settled", "_law_found", "_law_at", "_law_name", "_law_option"]
def P10 : List Str := ["_law_purse_here", "_law_open_ones", "_law_settled"]
def b10 : Ss := (ssL [.asg (.nm 3) (.prim .list_ (asL [.var 2])), .if_ (.cmp .Eq (.var 3) (.lst (asL []))) (ssL [.ret (.var 2)]) (ssL []), .asg (.nm 4) (.call 5 (asL [.var 0, .prim .len (asL [.var 3])])), .asg (.tp (psL [.nm 5, .nm 6])) (.idx (.var 3) (.var 4)), .if_ (.cmp .Eq (.call 5 (asL [.var 0, .lit (.int 2)])) (.lit (.int 0))) (ssL [.ret (.prim .tuple_ (asL [.bin .Add (.sl (.var 3) .no (.so (.var 4))) (.sl (.var 3) (.so (.bin .Add (.var 4) (.lit (.int 1)))) .no)]))]) (ssL []), .ret (.prim .tuple_ (asL [.bin .Add (.bin .Add (.sl (.var 3) .no (.so (.var 4))) (.lst (asL [.tup (asL [.var 5, .bin .Mod (.bin .Add (.var 6) (.lit (.int 1))) (.idx (.prim .dict_ (asL [.var 1])) (.var 5))])]))) (.sl (.var 3) (.so (.bin .Add (.var 4) (.lit (.int 1)))) .no)]))])
def fs10 : List (List D → Store → Res D) := [F0, F1, F2, F3, F4, F5, F6, F7, F8, F9]
def fn10 : List (Option Str) := [oS "is_in", oS "meet", oS "places_of", oS "lesser", oS "_law_purse", oS "_law_take", oS "_law_names", oS "_law_choices", oS "_law_part", oS "_law_lots"]
def ks10 : List KC := [⟨0, 0, 3, pD [] [.inl 1, .inl 0, .inl 2]⟩]
def kc10 : List (Str × List Str) := [("is_in", ["lot", "choices", "part"])]
def cl10 : ClI := ⟨caL, [], [], tvL, xsL, xiL, coL⟩
def T10 : Tb := mkT fs10 cons ks10
def F10 : List D → Store → Res D := runF T10 3 7 b10
theorem c10 : C8.scC N10 P10 (defScope s10) = true ∧ chkSs ⟨N10, fn10, cnam, kc10, kdn, cl10⟩ (defScope s10) b10 (defBody s10) = true := ⟨by decide +kernel, by decide +kernel⟩
/-! _law_key -/
abbrev s11 : Stmt := top 13
def N11 : List Str := ["_law_open_ones", "_law_settled", "_law_names_here", "_law_name", "_law_many", "_law_option"]
def P11 : List Str := ["_law_open_ones", "_law_settled"]
def b11 : Ss := (ssL [.asg (.nm 2) (.comp [3, 4] (.tp (psL [.nm 3, .nm 4])) (.seq (.var 0)) .no (.var 3)), .ret (.lst (asL [.prim .len (asL [.var 1]), .comp [3, 5] (.tp (psL [.nm 3, .nm 5])) (.seq (.var 1)) .no (.lst (asL [.mth .index (.var 2) (asL [.var 3]), .var 5]))]))])
def fs11 : List (List D → Store → Res D) := [F0, F1, F2, F3, F4, F5, F6, F7, F8, F9, F10]
def fn11 : List (Option Str) := [oS "is_in", oS "meet", oS "places_of", oS "lesser", oS "_law_purse", oS "_law_take", oS "_law_names", oS "_law_choices", oS "_law_part", oS "_law_lots", oS "_law_near"]
def ks11 : List KC := [⟨0, 0, 3, pD [] [.inl 1, .inl 0, .inl 2]⟩]
def kc11 : List (Str × List Str) := [("is_in", ["lot", "choices", "part"])]
def cl11 : ClI := ⟨caL, [], [], tvL, xsL, xiL, coL⟩
def T11 : Tb := mkT fs11 cons ks11
def F11 : List D → Store → Res D := runF T11 2 6 b11
theorem c11 : C8.scC N11 P11 (defScope s11) = true ∧ chkSs ⟨N11, fn11, cnam, kc11, kdn, cl11⟩ (defScope s11) b11 (defBody s11) = true := ⟨by decide +kernel, by decide +kernel⟩
/-! _law_two_right -/
abbrev s12 : Stmt := top 14
def N12 : List Str := ["_law_open_ones", "_law_lots_here", "_law_one", "_law_other", "_law_both", "_law_settling", "_law_found", "_law_keys", "_law_truth"]
def P12 : List Str := ["_law_open_ones", "_law_lots_here", "_law_one", "_law_other"]
def b12 : Ss := (ssL [.asg (.nm 4) (.comp [5] (.nm 5) (.seq (.var 1)) (.so (.call 0 (asL [.var 0, .var 5, .var 2]))) (.var 5)), .asg (.nm 4) (.comp [5] (.nm 5) (.seq (.var 4)) (.so (.callK 0 (asL []) (asL [.var 5, .prim .tuple_ (asL [.var 0]), .var 3]))) (.var 5)), .asg (.nm 6) (.lst (asL [.call 1 (asL [.var 2, .var 3]), .call 3 (asL [.var 0, .var 2, .var 3]), .call 3 (asL [.prim .tuple_ (asL [.var 0]), .var 3, .var 2])])), .asg (.nm 7) (.lst (asL [.call 11 (asL [.var 0, .var 2]), .call 11 (asL [.var 0, .var 3])])), .if_ (.not_ (.prim .all_ (asL [.comp [8] (.nm 8) (.seq (.var 6)) .no (.prim .isi (asL [.var 8, .ty "bool"]))]))) (ssL [.ret (.lit (.bl false))]) (ssL []), .ret (.cmp .Eq (.var 6) (.lst (asL [.cmp .NotEq (.var 4) (.lst (asL [])), .cmp .Lt (.idx (.var 7) (.lit (.int 0))) (.idx (.var 7) (.lit (.int 1))), .cmp .Lt (.idx (.var 7) (.lit (.int 1))) (.idx (.var 7) (.lit (.int 0)))])))])
def fs12 : List (List D → Store → Res D) := [F0, F1, F2, F3, F4, F5, F6, F7, F8, F9, F10, F11]
def fn12 : List (Option Str) := [oS "is_in", oS "meet", oS "places_of", oS "lesser", oS "_law_purse", oS "_law_take", oS "_law_names", oS "_law_choices", oS "_law_part", oS "_law_lots", oS "_law_near", oS "_law_key"]
def ks12 : List KC := [⟨0, 0, 3, pD [] [.inl 1, .inl 0, .inl 2]⟩]
def kc12 : List (Str × List Str) := [("is_in", ["lot", "choices", "part"])]
def cl12 : ClI := ⟨caL, [], [], tvL, xsL, xiL, coL⟩
def T12 : Tb := mkT fs12 cons ks12
def F12 : List D → Store → Res D := runF T12 4 9 b12
theorem c12 : C8.scC N12 P12 (defScope s12) = true ∧ chkSs ⟨N12, fn12, cnam, kc12, kdn, cl12⟩ (defScope s12) b12 (defBody s12) = true := ⟨by decide +kernel, by decide +kernel⟩
/-! law -/
abbrev s13 : Stmt := top 15
def N13 : List Str := ["_law_script", "_law_k", "_law_purse_here", "_law_open_ones", "_law_lots_here", "_law_parts", "_law_turn", "_law_one", "_law_own", "_law_settling", "_law_other"]
def P13 : List Str := ["_law_script"]
def b13 : Ss := (ssL [.for_ (.nm 1) (.rng1 (.prim .max2 (asL [.lit (.int 1), .prim .min2 (asL [.lit (.int 4), .prim .len (asL [.var 0])])]))) (ssL [.asg (.nm 2) (.call 4 (asL [.var 0, .var 1])), .asg (.nm 3) (.call 7 (asL [.var 2, .lit (.int 4)])), .asg (.nm 4) (.call 9 (asL [.var 3, .tup (asL [])])), .asg (.nm 5) (.comp [6] (.nm 6) (.rng1 (.lit (.int 3))) .no (.call 8 (asL [.var 2, .var 3, .bin .Add (.lit (.int 1)) (.call 5 (asL [.var 2, .lit (.int 4)]))]))), .asg (.nm 5) (.bin .Add (.bin .Add (.var 5) (.comp [7] (.nm 7) (.seq (.var 5)) .no (.call 10 (asL [.var 2, .var 3, .var 7])))) (.lst (asL [.tup (asL [])]))), .for_ (.nm 7) (.seq (.var 5)) (ssL [.asg (.nm 8) (.call 9 (asL [.var 3, .var 7])), .if_ (.cmp .NotEq (.comp [9] (.nm 9) (.seq (.var 4)) (.so (.call 0 (asL [.var 3, .var 9, .var 7]))) (.var 9)) (.var 8)) (ssL [.ret (.lit (.bl false))]) (ssL []), .if_ (.not_ (.prim .all_ (asL [.comp [10] (.nm 10) (.seq (.var 5)) .no (.call 12 (asL [.var 3, .var 4, .var 7, .var 10]))]))) (ssL [.ret (.lit (.bl false))]) (ssL [])])]), .ret (.andL (asL [.cmp .Is (.call 1 (asL [.tup (asL []), .tup (asL [])])) (.lit (.bl true)), .cmp .Is (.call 0 (asL [.lst (asL []), .tup (asL []), .tup (asL [])])) (.lit (.bl true)), .cmp .Is (.call 3 (asL [.lst (asL []), .tup (asL []), .tup (asL [])])) (.lit (.bl false))]))])
def fs13 : List (List D → Store → Res D) := [F0, F1, F2, F3, F4, F5, F6, F7, F8, F9, F10, F11, F12]
def fn13 : List (Option Str) := [oS "is_in", oS "meet", oS "places_of", oS "lesser", oS "_law_purse", oS "_law_take", oS "_law_names", oS "_law_choices", oS "_law_part", oS "_law_lots", oS "_law_near", oS "_law_key", oS "_law_two_right"]
def ks13 : List KC := [⟨0, 0, 3, pD [] [.inl 1, .inl 0, .inl 2]⟩]
def kc13 : List (Str × List Str) := [("is_in", ["lot", "choices", "part"])]
def cl13 : ClI := ⟨caL, [], [], tvL, xsL, xiL, coL⟩
def T13 : Tb := mkT fs13 cons ks13
def F13 : List D → Store → Res D := runF T13 1 11 b13
theorem c13 : C8.scC N13 P13 (defScope s13) = true ∧ chkSs ⟨N13, fn13, cnam, kc13, kdn, cl13⟩ (defScope s13) b13 (defBody s13) = true := ⟨by decide +kernel, by decide +kernel⟩
end LW
end

section
set_option Elab.async false
set_option linter.all false
set_option maxRecDepth 100000
set_option maxHeartbeats 0
namespace LW
open PySem PySem.Spec PyProof.Rows L2 L3 LB
def d0 : He.DefD := ⟨("is_in", none), "is_in", "is_in", defArgs s0, defBody s0, defScope s0, [], []⟩
def d1 : He.DefD := ⟨("meet", none), "meet", "meet", defArgs s1, defBody s1, defScope s1, [], []⟩
def d2 : He.DefD := ⟨("places_of", none), "places_of", "places_of", defArgs s2, defBody s2, defScope s2, [], []⟩
def d3 : He.DefD := ⟨("lesser", none), "lesser", "lesser", defArgs s3, defBody s3, defScope s3, [], []⟩
def d4 : He.DefD := ⟨("_law_purse", none), "_law_purse", "_law_purse", defArgs s4, defBody s4, defScope s4, [], []⟩
def d5 : He.DefD := ⟨("_law_take", none), "_law_take", "_law_take", defArgs s5, defBody s5, defScope s5, [], []⟩
def d6 : He.DefD := ⟨("_law_names", none), "_law_names", "_law_names", defArgs s6, defBody s6, defScope s6, [], []⟩
def d7 : He.DefD := ⟨("_law_choices", none), "_law_choices", "_law_choices", defArgs s7, defBody s7, defScope s7, [], []⟩
def d8 : He.DefD := ⟨("_law_part", none), "_law_part", "_law_part", defArgs s8, defBody s8, defScope s8, [], []⟩
def d9 : He.DefD := ⟨("_law_lots", none), "_law_lots", "_law_lots", defArgs s9, defBody s9, defScope s9, [], []⟩
def d10 : He.DefD := ⟨("_law_near", none), "_law_near", "_law_near", defArgs s10, defBody s10, defScope s10, [], []⟩
def d11 : He.DefD := ⟨("_law_key", none), "_law_key", "_law_key", defArgs s11, defBody s11, defScope s11, [], []⟩
def d12 : He.DefD := ⟨("_law_two_right", none), "_law_two_right", "_law_two_right", defArgs s12, defBody s12, defScope s12, [], []⟩
def d13 : He.DefD := ⟨("law", none), "law", "law", defArgs s13, defBody s13, defScope s13, [], []⟩
def fnL : List He.DefD := [d0, d1, d2, d3, d4, d5, d6, d7, d8, d9, d10, d11, d12, d13]
def faG : List He.Fa := [He.Fa.glo "is_in", He.Fa.glo "meet", He.Fa.glo "places_of", He.Fa.glo "lesser", He.Fa.glo "_law_purse", He.Fa.glo "_law_take", He.Fa.glo "_law_names", He.Fa.glo "_law_choices", He.Fa.glo "_law_part", He.Fa.glo "_law_lots", He.Fa.glo "_law_near", He.Fa.glo "_law_key", He.Fa.glo "_law_two_right", He.Fa.glo "law"]
def cxL : List Str := []
def faL : List He.Fa := faG ++ bltNames.map He.Fa.free
def exL (K : PySem.W.Frag) : Bool := consB K cnam cons
abbrev R : PySem.W.OpenRow := PySem.W.OpenLaw.row PySem.Challenge.rw_joinedrun_k03_parts
abbrev hk : PySem.W.Hook := hookXT 4 faL fnL (tabs kdn) exL
def ob (s : PySem.W.SharedT) : He.AlT := obsXG 4 faL fnL (tabs kdn) exL (HandSHeadRun.getT s)
theorem ob_eq (s : PySem.W.SharedT) : ob s = hk.obs s.abs := obsXG_eq (HandSHeadRun.getT_eq s)
def loose : List PySem.Str := [("is_in" : PySem.Str), ("meet" : PySem.Str), ("places_of" : PySem.Str), ("lesser" : PySem.Str), ("_law_purse" : PySem.Str), ("_law_take" : PySem.Str), ("_law_names" : PySem.Str), ("_law_choices" : PySem.Str), ("_law_part" : PySem.Str), ("_law_lots" : PySem.Str), ("_law_near" : PySem.Str), ("_law_key" : PySem.Str), ("_law_two_right" : PySem.Str)]
theorem run (w : World) : HandSHeadRun.RunEq R (PySem.W.view R.prog [15]) hk ob 4000 loose w := by
  intro os
  kernel_rfl
theorem facts {P : Program} {w : World} {K : PySem.W.Frag} {h : Heap} {mg : Str → Option Value} {f : Addr} (X : K.In h) (G : h.Ns mainGlobals mg) (hfa : mg ("law" : Str) = some (.ref f)) (c : SaysXT faL fnL (tabs kdn) exL w K) :
    ∃ fd : FuncData, (∀ (s : Shared) (v : Value), BindsTo s fd ⟨[v], []⟩ [("_law_script", v)]) ∧ ∀ base : Heap, K.In base → base.Ns mainGlobals mg → FnOk P w K mg base (L2.CX P w) 14 f fd ["_law_script"] (spD (CK K cxL xxL) 1 F13) := by
  have ck := c.kd X G (fun p hp => absurd hp List.not_mem_nil)
  obtain ⟨cd, ce⟩ := c.x.d
  unfold exL at ce
  have ce0 := ce
  obtain ⟨fd0, D0⟩ := cd.def_ 0 (d := d0) rfl
  have g0 : mg "is_in" = some (.ref (He.ga K "is_in")) := He.glo_ok X G (fact_mem cd (List.mem_append_left _ (List.mem_of_getElem? (i := 0) (l := faG) rfl)))
  obtain ⟨fd1, D1⟩ := cd.def_ 1 (d := d1) rfl
  have g1 : mg "meet" = some (.ref (He.ga K "meet")) := He.glo_ok X G (fact_mem cd (List.mem_append_left _ (List.mem_of_getElem? (i := 1) (l := faG) rfl)))
  obtain ⟨fd2, D2⟩ := cd.def_ 2 (d := d2) rfl
  have g2 : mg "places_of" = some (.ref (He.ga K "places_of")) := He.glo_ok X G (fact_mem cd (List.mem_append_left _ (List.mem_of_getElem? (i := 2) (l := faG) rfl)))
  obtain ⟨fd3, D3⟩ := cd.def_ 3 (d := d3) rfl
  have g3 : mg "lesser" = some (.ref (He.ga K "lesser")) := He.glo_ok X G (fact_mem cd (List.mem_append_left _ (List.mem_of_getElem? (i := 3) (l := faG) rfl)))
  obtain ⟨fd4, D4⟩ := cd.def_ 4 (d := d4) rfl
  have g4 : mg "_law_purse" = some (.ref (He.ga K "_law_purse")) := He.glo_ok X G (fact_mem cd (List.mem_append_left _ (List.mem_of_getElem? (i := 4) (l := faG) rfl)))
  obtain ⟨fd5, D5⟩ := cd.def_ 5 (d := d5) rfl
  have g5 : mg "_law_take" = some (.ref (He.ga K "_law_take")) := He.glo_ok X G (fact_mem cd (List.mem_append_left _ (List.mem_of_getElem? (i := 5) (l := faG) rfl)))
  obtain ⟨fd6, D6⟩ := cd.def_ 6 (d := d6) rfl
  have g6 : mg "_law_names" = some (.ref (He.ga K "_law_names")) := He.glo_ok X G (fact_mem cd (List.mem_append_left _ (List.mem_of_getElem? (i := 6) (l := faG) rfl)))
  obtain ⟨fd7, D7⟩ := cd.def_ 7 (d := d7) rfl
  have g7 : mg "_law_choices" = some (.ref (He.ga K "_law_choices")) := He.glo_ok X G (fact_mem cd (List.mem_append_left _ (List.mem_of_getElem? (i := 7) (l := faG) rfl)))
  obtain ⟨fd8, D8⟩ := cd.def_ 8 (d := d8) rfl
  have g8 : mg "_law_part" = some (.ref (He.ga K "_law_part")) := He.glo_ok X G (fact_mem cd (List.mem_append_left _ (List.mem_of_getElem? (i := 8) (l := faG) rfl)))
  obtain ⟨fd9, D9⟩ := cd.def_ 9 (d := d9) rfl
  have g9 : mg "_law_lots" = some (.ref (He.ga K "_law_lots")) := He.glo_ok X G (fact_mem cd (List.mem_append_left _ (List.mem_of_getElem? (i := 9) (l := faG) rfl)))
  obtain ⟨fd10, D10⟩ := cd.def_ 10 (d := d10) rfl
  have g10 : mg "_law_near" = some (.ref (He.ga K "_law_near")) := He.glo_ok X G (fact_mem cd (List.mem_append_left _ (List.mem_of_getElem? (i := 10) (l := faG) rfl)))
  obtain ⟨fd11, D11⟩ := cd.def_ 11 (d := d11) rfl
  have g11 : mg "_law_key" = some (.ref (He.ga K "_law_key")) := He.glo_ok X G (fact_mem cd (List.mem_append_left _ (List.mem_of_getElem? (i := 11) (l := faG) rfl)))
  obtain ⟨fd12, D12⟩ := cd.def_ 12 (d := d12) rfl
  have g12 : mg "_law_two_right" = some (.ref (He.ga K "_law_two_right")) := He.glo_ok X G (fact_mem cd (List.mem_append_left _ (List.mem_of_getElem? (i := 12) (l := faG) rfl)))
  obtain ⟨fd13, D13⟩ := cd.def_ 13 (d := d13) rfl
  have g13 : mg "law" = some (.ref (He.ga K "law")) := He.glo_ok X G (fact_mem cd (List.mem_append_left _ (List.mem_of_getElem? (i := 13) (l := faG) rfl)))
  have e := hfa.symm.trans g13
  cases e
  have bl := FunD.bindsA (ps := P13) D13 fun _ _ _ _ _ _ us hl => match us, hl with | [_], _ => rfl
  refine ⟨fd13, fun s v => bl s [v] rfl, fun base _ _ => ?_⟩
  have hca : ∀ c f, (c, f) ∈ caL → AttrAt K (CK K cxL xxL) c f := fun c f h => by
    cases h
  have htv : ∀ x t, (x, t) ∈ tvL → TvAt w K mg x t := fun x t h => by
    cases h
  have hxs : ∀ c x fl, (c, x, fl) ∈ xsL → ExcAt P w K mg base (CK K cxL xxL) 0 c x fl := fun c x fl h => by
    cases h
  have hxm : ∀ c x fl d y gl, (c, x, fl) ∈ xsL → (d, y, gl) ∈ xsL → PySem.W.exmOne K ((CK K cxL xxL).xc c) ((CK K cxL xxL).xc d) = some (decide (c = d)) := fun c x fl d y gl h h2 => by
    cases h
  have hxi : ∀ c tup l b, (c, tup, l, b) ∈ xiL → IsiAt K mg (CK K cxL xxL) c tup l b := fun c tup l b h => by cases h
  have hco : ∀ c n, (c, n) ∈ coL → InsIs K ((CK K cxL xxL).cls c) n := fun c n h => by
    cases h
  have Z0 : Top P w K mg base (CK K cxL xxL) [] cons [] [] cnam [] kdn ⟨caL, [], [], tvL, xsL, xiL, coL⟩ 0 := top0 hca htv ck (blt_all X G cd) (cons_all X G ce0) hxs hxm hxi hco
  have K0 : FnOk P w K mg base (L2.CX P w) 1 (He.ga K "is_in") fd0 P0 (spD (CK K cxL xxL) 3 F0) := def_ok (fs := fs0) (cs := cons) (ks := ks0) (fn := fn0) (cn := cnam) (kc := kc0) (kd := kdn) (cl := cl0) (N := N0) (ps := P0) (b := b0) Z0 D0 c0.1 c0.2
  have Y0 := Top.add (F := F0) (o := some "is_in") Z0 (fun x e => by cases e; exact ⟨_, fd0, P0, g0, D0.kp, FunD.bindsN D0 (fun _ _ _ _ _ _ us hl => match us, hl with | [_, _, _], _ => rfl), K0, fun ds st h => runF_len ds st h, rfl⟩)
  have B0 := FunD.kAll (ps := P0) D0 rfl 0 ["lot", "choices", "part"] [.inl 1, .inl 0, .inl 2] (fun _ _ _ _ _ _ us ws l1 l2 => match us, ws, l1, l2 with | [], [_, _, _], _, _ => rfl)
  have X0 := Top.addK (x := "is_in") (l := ["lot", "choices", "part"]) (c := ⟨0, 0, 3, pD [] [.inl 1, .inl 0, .inl 2]⟩) Y0 (by decide) (callK_of (fi := 0) (md := []) g0 D0.kp B0 K0 (fun ds st h => runF_len ds st h) rfl (fun _ _ => .nil))
  have Z1 : Top P w K mg base (CK K cxL xxL) fs1 cons ks1 fn1 cnam kc1 kdn cl1 1 := X0
  have K1 : FnOk P w K mg base (L2.CX P w) 2 (He.ga K "meet") fd1 P1 (spD (CK K cxL xxL) 2 F1) := def_ok (fs := fs1) (cs := cons) (ks := ks1) (fn := fn1) (cn := cnam) (kc := kc1) (kd := kdn) (cl := cl1) (N := N1) (ps := P1) (b := b1) Z1 D1 c1.1 c1.2
  have Y1 := Top.add (F := F1) (o := some "meet") Z1 (fun x e => by cases e; exact ⟨_, fd1, P1, g1, D1.kp, FunD.bindsN D1 (fun _ _ _ _ _ _ us hl => match us, hl with | [_, _], _ => rfl), K1, fun ds st h => runF_len ds st h, rfl⟩)
  have Z2 : Top P w K mg base (CK K cxL xxL) fs2 cons ks2 fn2 cnam kc2 kdn cl2 2 := Y1
  have K2 : FnOk P w K mg base (L2.CX P w) 3 (He.ga K "places_of") fd2 P2 (spD (CK K cxL xxL) 2 F2) := def_ok (fs := fs2) (cs := cons) (ks := ks2) (fn := fn2) (cn := cnam) (kc := kc2) (kd := kdn) (cl := cl2) (N := N2) (ps := P2) (b := b2) Z2 D2 c2.1 c2.2
  have Y2 := Top.add (F := F2) (o := some "places_of") Z2 (fun x e => by cases e; exact ⟨_, fd2, P2, g2, D2.kp, FunD.bindsN D2 (fun _ _ _ _ _ _ us hl => match us, hl with | [_, _], _ => rfl), K2, fun ds st h => runF_len ds st h, rfl⟩)
  have Z3 : Top P w K mg base (CK K cxL xxL) fs3 cons ks3 fn3 cnam kc3 kdn cl3 3 := Y2
  have K3 : FnOk P w K mg base (L2.CX P w) 4 (He.ga K "lesser") fd3 P3 (spD (CK K cxL xxL) 3 F3) := def_ok (fs := fs3) (cs := cons) (ks := ks3) (fn := fn3) (cn := cnam) (kc := kc3) (kd := kdn) (cl := cl3) (N := N3) (ps := P3) (b := b3) Z3 D3 c3.1 c3.2
  have Y3 := Top.add (F := F3) (o := some "lesser") Z3 (fun x e => by cases e; exact ⟨_, fd3, P3, g3, D3.kp, FunD.bindsN D3 (fun _ _ _ _ _ _ us hl => match us, hl with | [_, _, _], _ => rfl), K3, fun ds st h => runF_len ds st h, rfl⟩)
  have Z4 : Top P w K mg base (CK K cxL xxL) fs4 cons ks4 fn4 cnam kc4 kdn cl4 4 := Y3
  have K4 : FnOk P w K mg base (L2.CX P w) 5 (He.ga K "_law_purse") fd4 P4 (spD (CK K cxL xxL) 2 F4) := def_ok (fs := fs4) (cs := cons) (ks := ks4) (fn := fn4) (cn := cnam) (kc := kc4) (kd := kdn) (cl := cl4) (N := N4) (ps := P4) (b := b4) Z4 D4 c4.1 c4.2
  have Y4 := Top.add (F := F4) (o := some "_law_purse") Z4 (fun x e => by cases e; exact ⟨_, fd4, P4, g4, D4.kp, FunD.bindsN D4 (fun _ _ _ _ _ _ us hl => match us, hl with | [_, _], _ => rfl), K4, fun ds st h => runF_len ds st h, rfl⟩)
  have Z5 : Top P w K mg base (CK K cxL xxL) fs5 cons ks5 fn5 cnam kc5 kdn cl5 5 := Y4
  have K5 : FnOk P w K mg base (L2.CX P w) 6 (He.ga K "_law_take") fd5 P5 (spD (CK K cxL xxL) 2 F5) := def_ok (fs := fs5) (cs := cons) (ks := ks5) (fn := fn5) (cn := cnam) (kc := kc5) (kd := kdn) (cl := cl5) (N := N5) (ps := P5) (b := b5) Z5 D5 c5.1 c5.2
  have Y5 := Top.add (F := F5) (o := some "_law_take") Z5 (fun x e => by cases e; exact ⟨_, fd5, P5, g5, D5.kp, FunD.bindsN D5 (fun _ _ _ _ _ _ us hl => match us, hl with | [_, _], _ => rfl), K5, fun ds st h => runF_len ds st h, rfl⟩)
  have Z6 : Top P w K mg base (CK K cxL xxL) fs6 cons ks6 fn6 cnam kc6 kdn cl6 6 := Y5
  have K6 : FnOk P w K mg base (L2.CX P w) 7 (He.ga K "_law_names") fd6 P6 (spD (CK K cxL xxL) 4 F6) := def_ok (fs := fs6) (cs := cons) (ks := ks6) (fn := fn6) (cn := cnam) (kc := kc6) (kd := kdn) (cl := cl6) (N := N6) (ps := P6) (b := b6) Z6 D6 c6.1 c6.2
  have Y6 := Top.add (F := F6) (o := some "_law_names") Z6 (fun x e => by cases e; exact ⟨_, fd6, P6, g6, D6.kp, FunD.bindsN D6 (fun _ _ _ _ _ _ us hl => match us, hl with | [_, _, _, _], _ => rfl), K6, fun ds st h => runF_len ds st h, rfl⟩)
  have Z7 : Top P w K mg base (CK K cxL xxL) fs7 cons ks7 fn7 cnam kc7 kdn cl7 7 := Y6
  have K7 : FnOk P w K mg base (L2.CX P w) 8 (He.ga K "_law_choices") fd7 P7 (spD (CK K cxL xxL) 2 F7) := def_ok (fs := fs7) (cs := cons) (ks := ks7) (fn := fn7) (cn := cnam) (kc := kc7) (kd := kdn) (cl := cl7) (N := N7) (ps := P7) (b := b7) Z7 D7 c7.1 c7.2
  have Y7 := Top.add (F := F7) (o := some "_law_choices") Z7 (fun x e => by cases e; exact ⟨_, fd7, P7, g7, D7.kp, FunD.bindsN D7 (fun _ _ _ _ _ _ us hl => match us, hl with | [_, _], _ => rfl), K7, fun ds st h => runF_len ds st h, rfl⟩)
  have Z8 : Top P w K mg base (CK K cxL xxL) fs8 cons ks8 fn8 cnam kc8 kdn cl8 8 := Y7
  have K8 : FnOk P w K mg base (L2.CX P w) 9 (He.ga K "_law_part") fd8 P8 (spD (CK K cxL xxL) 3 F8) := def_ok (fs := fs8) (cs := cons) (ks := ks8) (fn := fn8) (cn := cnam) (kc := kc8) (kd := kdn) (cl := cl8) (N := N8) (ps := P8) (b := b8) Z8 D8 c8.1 c8.2
  have Y8 := Top.add (F := F8) (o := some "_law_part") Z8 (fun x e => by cases e; exact ⟨_, fd8, P8, g8, D8.kp, FunD.bindsN D8 (fun _ _ _ _ _ _ us hl => match us, hl with | [_, _, _], _ => rfl), K8, fun ds st h => runF_len ds st h, rfl⟩)
  have Z9 : Top P w K mg base (CK K cxL xxL) fs9 cons ks9 fn9 cnam kc9 kdn cl9 9 := Y8
  have K9 : FnOk P w K mg base (L2.CX P w) 10 (He.ga K "_law_lots") fd9 P9 (spD (CK K cxL xxL) 2 F9) := def_ok (fs := fs9) (cs := cons) (ks := ks9) (fn := fn9) (cn := cnam) (kc := kc9) (kd := kdn) (cl := cl9) (N := N9) (ps := P9) (b := b9) Z9 D9 c9.1 c9.2
  have Y9 := Top.add (F := F9) (o := some "_law_lots") Z9 (fun x e => by cases e; exact ⟨_, fd9, P9, g9, D9.kp, FunD.bindsN D9 (fun _ _ _ _ _ _ us hl => match us, hl with | [_, _], _ => rfl), K9, fun ds st h => runF_len ds st h, rfl⟩)
  have Z10 : Top P w K mg base (CK K cxL xxL) fs10 cons ks10 fn10 cnam kc10 kdn cl10 10 := Y9
  have K10 : FnOk P w K mg base (L2.CX P w) 11 (He.ga K "_law_near") fd10 P10 (spD (CK K cxL xxL) 3 F10) := def_ok (fs := fs10) (cs := cons) (ks := ks10) (fn := fn10) (cn := cnam) (kc := kc10) (kd := kdn) (cl := cl10) (N := N10) (ps := P10) (b := b10) Z10 D10 c10.1 c10.2
  have Y10 := Top.add (F := F10) (o := some "_law_near") Z10 (fun x e => by cases e; exact ⟨_, fd10, P10, g10, D10.kp, FunD.bindsN D10 (fun _ _ _ _ _ _ us hl => match us, hl with | [_, _, _], _ => rfl), K10, fun ds st h => runF_len ds st h, rfl⟩)
  have Z11 : Top P w K mg base (CK K cxL xxL) fs11 cons ks11 fn11 cnam kc11 kdn cl11 11 := Y10
  have K11 : FnOk P w K mg base (L2.CX P w) 12 (He.ga K "_law_key") fd11 P11 (spD (CK K cxL xxL) 2 F11) := def_ok (fs := fs11) (cs := cons) (ks := ks11) (fn := fn11) (cn := cnam) (kc := kc11) (kd := kdn) (cl := cl11) (N := N11) (ps := P11) (b := b11) Z11 D11 c11.1 c11.2
  have Y11 := Top.add (F := F11) (o := some "_law_key") Z11 (fun x e => by cases e; exact ⟨_, fd11, P11, g11, D11.kp, FunD.bindsN D11 (fun _ _ _ _ _ _ us hl => match us, hl with | [_, _], _ => rfl), K11, fun ds st h => runF_len ds st h, rfl⟩)
  have Z12 : Top P w K mg base (CK K cxL xxL) fs12 cons ks12 fn12 cnam kc12 kdn cl12 12 := Y11
  have K12 : FnOk P w K mg base (L2.CX P w) 13 (He.ga K "_law_two_right") fd12 P12 (spD (CK K cxL xxL) 4 F12) := def_ok (fs := fs12) (cs := cons) (ks := ks12) (fn := fn12) (cn := cnam) (kc := kc12) (kd := kdn) (cl := cl12) (N := N12) (ps := P12) (b := b12) Z12 D12 c12.1 c12.2
  have Y12 := Top.add (F := F12) (o := some "_law_two_right") Z12 (fun x e => by cases e; exact ⟨_, fd12, P12, g12, D12.kp, FunD.bindsN D12 (fun _ _ _ _ _ _ us hl => match us, hl with | [_, _, _, _], _ => rfl), K12, fun ds st h => runF_len ds st h, rfl⟩)
  have Z13 : Top P w K mg base (CK K cxL xxL) fs13 cons ks13 fn13 cnam kc13 kdn cl13 13 := Y12
  have K13 : FnOk P w K mg base (L2.CX P w) 14 (He.ga K "law") fd13 P13 (spD (CK K cxL xxL) 1 F13) := def_ok (fs := fs13) (cs := cons) (ks := ks13) (fn := fn13) (cn := cnam) (kc := kc13) (kd := kdn) (cl := cl13) (N := N13) (ps := P13) (b := b13) Z13 D13 c13.1 c13.2
  exact K13
end LW
end

section
set_option Elab.async false
set_option linter.all false
set_option maxRecDepth 100000
set_option maxHeartbeats 0
open PySem PySem.W PySem.Calls PyProof.Rows
theorem LW.holds_of (hm : ∀ ns : List Int, ns.length ≤ 63 → ∃ st', LW.F13 [.lst (ns.map L3.D.int)] [] = .ok (.bl true) st') : PySem.Challenge.rw_joinedrun_k03_parts.Holds := by
  w_on; o_law
  refine HandSHeadRun.head_any (r := OpenLaw.row PySem.Challenge.rw_joinedrun_k03_parts) (q := view (OpenLaw.row PySem.Challenge.rw_joinedrun_k03_parts).prog [15]) (H := LW.hk) (ob := LW.ob) (M := 4000) (loose := LW.loose) (d := HandSHeadRun.topDef (OpenLaw.row PySem.Challenge.rw_joinedrun_k03_parts).prog 15) (kwd := []) LW.ob_eq
    (by kernel_rfl) (fun s => by kernel_rfl) LW.run (by kernel_rfl) (by kernel_rfl) (by kernel_rfl) (by rfl) (by first | assumption | decide +kernel) (by decide +kernel) ⟨rfl, rfl, rfl, rfl, rfl, by decide +kernel⟩ ?hw ?hc
  case hw => w_witness2
  case hc =>
    refine L2.walk_ofE (l := PySem.Challenge.rw_joinedrun_k03_parts) (n := 63) (k := 14) (x := "_law_script") (CX := L3.CXE (PySem.Challenge.rw_joinedrun_k03_parts).prog) rfl (by decide) (by kernel_rfl) ⟨rfl, by decide, by decide⟩ ?F L3.cxE_no
    intro w mg fa h Y G hmg0
    obtain ⟨K, KX, c⟩ := Y
    have hmg : mg ("law" : PySem.Str) = some (.ref fa) := by
      have e : (HandSHeadRun.topDef (OpenLaw.row PySem.Challenge.rw_joinedrun_k03_parts).prog 15).name = ("law" : PySem.Str) := by kernel_rfl
      rw [← e]
      exact hmg0
    obtain ⟨fd, hb, hF⟩ := LW.facts (P := (PySem.Challenge.rw_joinedrun_k03_parts).prog) (w := w) KX G hmg c
    exact ⟨K, fd, _, KX, hb, fun H a ns hl _ hS => L3.law_sp hS (hm ns hl), fun base h1 h2 => L3.fn_cxE (hF base h1 h2)⟩
end

section
set_option Elab.async false
set_option linter.all false
set_option maxRecDepth 100000
set_option maxHeartbeats 4000000
namespace LW
open PySem L3 LB
theorem isIn_F : IsInOk F0 := isIn_all T0
theorem meet_F : MeetOk F1 := meet_all T1
theorem places_F : PlacesOk F2 := places_all T2
theorem lesser_F : LesserOk F3 := lesser_all (T := T3) (p := 2) places_F
theorem purse_F : PurseOk F4 := purse_all T4
theorem take_F : TakeOk F5 := take_all T5
theorem names_F : NamesOk F6 := names_all (T := T6) (t := 5) take_F
theorem choices_F {s0 : Store} {n c : Nat} {st : Store} {most : Int} (h : PO s0 n c st) (hc : c < 800000) (hm : 0 ≤ most ∧ most ≤ 20) :
    ∃ (cs : List (Str × Int)) (st' : Store), F7 [.ref n, .int most] st = .ok (.lst (cs.map encP)) st' ∧ PO s0 n (c + 40) st' ∧ cs.length ≤ most.toNat ∧ (∀ p ∈ cs, SG 20 p.1 ∧ 2 ≤ p.2 ∧ p.2 ≤ 4) ∧ (cs.map (·.1)).Nodup := choices_ok (T := T7) (t := 5) (nm := 6) take_F names_F h hc hm
theorem parts_F : PartsOk F8 := part_all (T := T8) (t := 5) take_F
theorem lots_F : LotsOk F9 := lots_all T9
/-! ### small laws -/
theorem plP {ps : List (Str × Int)} (h : ∀ p ∈ ps, PyData.strOk p.1 = true) : plB 64 (.lst (ps.map encP)) = true := by
  unfold plB
  rw [List.all_map]
  refine List.all_eq_true.mpr fun p hp => ?_
  show plB 63 (.tup [.str p.1, .int p.2]) = true
  show ([D.str p.1, .int p.2].all (plB 62)) = true
  rw [List.all_cons, List.all_cons]
  show (PyData.strOk p.1 && (true && true)) = true
  rw [h p hp]
  rfl
theorem eqD_nil {l : List D} (h : plB 64 (.lst l) = true) : eqD (.lst l) (.lst []) = some l.isEmpty := by
  obtain ⟨p, h1, h2, h3⟩ := toPy_pl 64 _ h
  have hs : SeqAt.shaped p = true := by unfold SeqAt.shaped; rw [h2, decide_eq_true h3]; rfl
  have e2 : toPy (.lst []) = some (.list []) := rfl
  have hs2 : SeqAt.shaped (.list []) = true := by decide +kernel
  unfold eqD
  rw [h1, e2]
  dsimp only
  rw [hs, hs2]
  have h1 : (toPys l).map PyData.list = some p := h1
  obtain ⟨ps, e3, rfl⟩ := Option.map_eq_some_iff.mp h1
  cases l with
  | nil => cases e3; simp [PyData.eqv, PyData.eqvAll]
  | cons a r =>
    unfold toPys at e3
    split at e3
    · cases e3; simp [PyData.eqv, PyData.eqvAll]
    · cases e3
theorem cut_to {α : Type} (l : List α) (k : Nat) (h : k ≤ l.length) : cutL l none (some (k : Int)) = l.take k := by
  have e : HT.sIx l.length l.length (some (k : Int)) = k := by rw [HT.sIx_nat]; omega
  have e0 : HT.sIx l.length 0 none = 0 := rfl
  unfold cutL
  rw [e, e0, List.drop_zero, Nat.sub_zero]
theorem cut_from {α : Type} (l : List α) (k : Nat) (h : k ≤ l.length) : cutL l (some (k : Int)) none = l.drop k := by
  have e : HT.sIx l.length 0 (some (k : Int)) = k := by rw [HT.sIx_nat]; omega
  have e0 : HT.sIx l.length l.length none = l.length := rfl
  unfold cutL
  rw [e, e0]
  exact List.take_of_length_le (by rw [List.length_drop]; exact Nat.le_refl _)
theorem dict_l (ps : List (Str × Int)) (hl : ps.length ≤ 1000) : primD .dict_ [.lst (ps.map encP)] = some (.dct .k (Sd ps)) := by
  unfold primD
  dsimp only
  rw [pairsOf_enc]
  dsimp only
  rw [if_pos]
  · rfl
  · rw [Bool.and_eq_true]
    refine ⟨List.all_eq_true.mpr fun q hq => ?_, decide_eq_true (by rw [List.length_map]; exact Nat.le_trans hl (by decide))⟩
    obtain ⟨p, _, rfl⟩ := List.mem_map.mp hq
    rfl
theorem near_ok {s0 : Store} {n c : Nat} {st : Store} {cs ps : List (Str × Int)} (h : PO s0 n c st) (hc : c < 800000) (hp : PartOf cs ps) (hn : (cs.map (·.1)).Nodup) (hb : ∀ p ∈ cs, SG 20 p.1 ∧ 2 ≤ p.2 ∧ p.2 ≤ 4) (hl : cs.length ≤ 8) :
    ∃ (qs : List (Str × Int)) (st' : Store), F10 [.ref n, .lst (cs.map encP), .tup (ps.map encP)] st = .ok (.tup (qs.map encP)) st' ∧ PO s0 n (c + 2) st' ∧ PartOf cs qs := by
  have hok : ∀ p ∈ ps, PyData.strOk p.1 = true := fun p hpm => by
    obtain ⟨c, h1, h2, _⟩ := hp.mem p hpm
    rw [← h2]
    exact (hb c h1).1.1
  have eqn := eqD_nil (plP hok)
  have f5 : T10.fn 5 = F5 := rfl
  have lp : primD .list_ [.tup (ps.map encP)] = some (.lst (ps.map encP)) := rfl
  have pr0 : small 0 = true := by decide
  have hpl := hp.len
  cases ps with
  | nil =>
    refine ⟨[], st, ?_, h.up (by omega), hp⟩
    have eqn : eqD (.lst ([] : List D)) (.lst []) = some true := eqn
    unfold F10 runF b10
    rw [if_pos (show [D.ref n, .lst (cs.map encP), .tup (List.map encP [])].length = 3 from rfl)]
    have lp : primD .list_ [.tup []] = some (.lst []) := rfl
    simp only [ssL, asL, psL, exs, ex, ev, evs, evbs, evAnd, evOr, evo, evc, evi, evB_var, evB_prim, evB_lit, evB_ty, evB_cmp, evB_call, evB_callK, evB_bin, evB_or, evB_and, evB_not, evB_tup, evB_lst, evB_idx, evB_mth, evB_cat, evB_comp, valAt, borAt, ownAt, List.map_cons, List.map_nil, rep0, rep1, rep2, rep3, rep4, rep5, rep6, rep7, rep8, rep9, rep10, rep11, rep12, rep13, drf_ty, List.cons_append, List.nil_append, Nat.reduceSub, List.getElem?_cons_zero, List.getElem?_cons_succ, of_some, of_none, bind_ok, bind_ex, bind_no, go_ok, go_ex, go_no, nox_ok, drf_int, drf_str, drf_bl, drf_non, drf_tup, drf_lst, drf_dct, idxD_lst, idxD_tup, idxD_dct, cmpD, truD, binD, augD, bindP, bindPs, oSR, List.set_cons_zero, List.set_cons_succ, then_nx, then_rt, then_bk, then_ct, then_no, Option.map_some, Option.map_none, if_true, Bool.false_eq_true, if_false, decide_true, decide_false, lp, eqn, List.length_nil, pr0]
  | cons p0 pr =>
    generalize hps : p0 :: pr = ps at *
    have hne : (ps.map encP).isEmpty = false := by rw [← hps]; rfl
    rw [hne] at eqn
    have hlen : 0 < ps.length := by rw [← hps]; exact Nat.succ_pos _
    obtain ⟨r, st1, t1, t2, t3⟩ := take_F.go (many := ((ps.map encP).length : Int)) h (by omega) (by rw [List.length_map]; omega)
    obtain ⟨k, rfl⟩ : ∃ k : Nat, r = (k : Int) := ⟨r.toNat, by omega⟩
    have hk : k < ps.length := by rw [List.length_map] at t2; omega
    obtain ⟨z, st2, u1, u2, u3⟩ := take_F.go (many := 2) t3 (by omega) (by decide)
    have ha : L2.atI (ps.map encP) (k : Int) = some (encP ps[k]) := by
      unfold L2.atI L2.ixN
      rw [if_pos (by omega), if_pos (by rw [List.length_map]; omega)]
      show (ps.map encP)[(k : Int).toNat]? = _
      rw [Int.toNat_natCast, List.getElem?_map, List.getElem?_eq_getElem hk]
      rfl
    have lnP : primD .len [.lst (ps.map encP)] = some (.int ((ps.map encP).length : Int)) := rfl
    have s1 : slD (.lst (ps.map encP)) none (some (k : Int)) = some (.lst ((ps.take k).map encP)) := by
      show some (D.lst (cutL (ps.map encP) none (some (k : Int)))) = _
      rw [cut_to _ _ (by rw [List.length_map]; omega), List.map_take]
    have s2 : slD (.lst (ps.map encP)) (some ((k : Int) + 1)) none = some (.lst ((ps.drop (k + 1)).map encP)) := by
      show some (D.lst (cutL (ps.map encP) (some ((k : Int) + 1)) none)) = _
      have : ((k : Int) + 1) = ((k + 1 : Nat) : Int) := by omega
      rw [this, cut_from _ _ (by rw [List.length_map]; omega), List.map_drop]
    have w1 : small (((ps.take k).map encP).length + ((ps.drop (k + 1)).map encP).length) = true := decide_eq_true (by
      rw [List.length_map, List.length_map, List.length_take, List.length_drop]; exact Nat.le_trans (by omega : _ ≤ 1000) (by decide))
    have tp : ∀ l : List D, primD .tuple_ [.lst l] = some (.tup l) := fun _ => rfl
    by_cases hz : z = 0
    · subst hz
      refine ⟨ps.take k ++ ps.drop (k + 1), st2, ?_, u3, hp.cut k⟩
      have e00 : eqD (.int 0) (.int 0) = some true := rfl
      unfold F10 runF b10
      rw [if_pos (show [D.ref n, .lst (cs.map encP), .tup (ps.map encP)].length = 3 from rfl)]
      simp only [ssL, asL, psL, exs, ex, ev, evs, evbs, evAnd, evOr, evo, evc, evi, evB_var, evB_prim, evB_lit, evB_ty, evB_cmp, evB_call, evB_callK, evB_bin, evB_or, evB_and, evB_not, evB_tup, evB_lst, evB_idx, evB_mth, evB_cat, evB_comp, valAt, borAt, ownAt, List.map_cons, List.map_nil, rep0, rep1, rep2, rep3, rep4, rep5, rep6, rep7, rep8, rep9, rep10, rep11, rep12, rep13, drf_ty, List.cons_append, List.nil_append, Nat.reduceSub, List.getElem?_cons_zero, List.getElem?_cons_succ, of_some, of_none, bind_ok, bind_ex, bind_no, go_ok, go_ex, go_no, nox_ok, drf_int, drf_str, drf_bl, drf_non, drf_tup, drf_lst, drf_dct, idxD_lst, idxD_tup, idxD_dct, cmpD, truD, binD, augD, bindP, bindPs, oSR, List.set_cons_zero, List.set_cons_succ, then_nx, then_rt, then_bk, then_ct, then_no, Option.map_some, Option.map_none, if_true, Bool.false_eq_true, if_false, decide_true, decide_false, lp, eqn, List.length_nil, pr0, f5, lnP, t1, ha, encP, u1, e00, s1, s2, w1, tp, List.map_append]
    · have e00 : eqD (.int z) (.int 0) = some false := by rw [eqD_int, beq_eq_false_iff_ne.mpr hz]
      have hmem : ps[k] ∈ ps := List.getElem_mem hk
      obtain ⟨c1, m1, m2, m3, m4⟩ := hp.mem _ hmem
      have hcn : cs.length ≤ 1000 := by omega
      have dl := dict_l cs hcn
      have lk1 := lk_of hn m1
      have look : lookD (Sd cs) (.str ps[k].1) = some (.int c1.2) := by rw [look_part hn, ← m2, lk1]; rfl
      have hkk : isKey .k (.str ps[k].1) = true := rfl
      have hb1 := hb c1 m1
      have hm0 : (0 : Int) < c1.2 := by omega
      have mr := mod_rng (ps[k].2 + 1) hm0
      have hpp : small 2 = true := by decide
      have hp1 : small 1 = true := by decide
      refine ⟨ps.take k ++ (ps[k].1, (ps[k].2 + 1) % c1.2) :: ps.drop (k + 1), st2, ?_, u3, hp.put k ps[k] _ (List.getElem?_eq_getElem hk) fun c2 hc2 e2 => ?_⟩
      rotate_left
      · have l2 := lk_of hn hc2
        rw [e2, ← m2, lk1] at l2
        have : c1.2 = c2.2 := Option.some.inj l2
        rw [← this]
        exact mr
      have w2 : small (((ps.take k).map encP).length + 1) = true := decide_eq_true (by rw [List.length_map, List.length_take]; exact Nat.le_trans (by omega : _ ≤ 1000) (by decide))
      have w3 : small ((((ps.take k).map encP) ++ [D.tup [.str ps[k].1, .int ((ps[k].2 + 1) % c1.2)]]).length + ((ps.drop (k + 1)).map encP).length) = true := decide_eq_true (by
        rw [List.length_append, List.length_map, List.length_map, List.length_take, List.length_drop, List.length_singleton]; exact Nat.le_trans (by omega : _ ≤ 1000) (by decide))
      have fin : D.tup ((ps.take k ++ (ps[k].1, (ps[k].2 + 1) % c1.2) :: ps.drop (k + 1)).map encP) = .tup ((((ps.take k).map encP) ++ [D.tup [.str ps[k].1, .int ((ps[k].2 + 1) % c1.2)]]) ++ (ps.drop (k + 1)).map encP) := by
        rw [List.map_append, List.map_cons, List.append_assoc]; rfl
      rw [fin]
      unfold F10 runF b10
      rw [if_pos (show [D.ref n, .lst (cs.map encP), .tup (ps.map encP)].length = 3 from rfl)]
      have ha' : L2.atI (ps.map encP) (k : Int) = some (.tup [.str ps[k].1, .int ps[k].2]) := ha
      generalize ps[k] = pk at *
      simp only [ssL, asL, psL, exs, ex, ev, evs, evbs, evAnd, evOr, evo, evc, evi, evB_var, evB_prim, evB_lit, evB_ty, evB_cmp, evB_call, evB_callK, evB_bin, evB_or, evB_and, evB_not, evB_tup, evB_lst, evB_idx, evB_mth, evB_cat, evB_comp, valAt, borAt, ownAt, List.map_cons, List.map_nil, rep0, rep1, rep2, rep3, rep4, rep5, rep6, rep7, rep8, rep9, rep10, rep11, rep12, rep13, drf_ty, List.cons_append, List.nil_append, Nat.reduceSub, List.getElem?_cons_zero, List.getElem?_cons_succ, of_some, of_none, bind_ok, bind_ex, bind_no, go_ok, go_ex, go_no, nox_ok, drf_int, drf_str, drf_bl, drf_non, drf_tup, drf_lst, drf_dct, idxD_lst, idxD_tup, idxD_dct, cmpD, truD, binD, augD, bindP, bindPs, oSR, List.set_cons_zero, List.set_cons_succ, then_nx, then_rt, then_bk, then_ct, then_no, Option.map_some, Option.map_none, if_true, Bool.false_eq_true, if_false, decide_true, decide_false, lp, eqn, List.length_nil, List.length_cons, pr0, f5, lnP, t1, ha', u1, e00, s1, s2, w1, tp, dl, look, hkk, hm0, hpp, hp1, w2, w3]
end LW
end

section
set_option Elab.async false
set_option linter.all false
set_option maxRecDepth 100000
set_option maxHeartbeats 4000000
namespace LW
open PySem L3 LB
theorem findIdx_of {α : Type} {p : α → Bool} {l : List α} {j : Nat} (hj : j < l.length) (h1 : p l[j] = true) (h2 : ∀ i (hi : i < j), p (l[i]'(by omega)) = false) : l.findIdx? p = some j := by
  rw [List.findIdx?_eq_some_iff_getElem]
  exact ⟨hj, h1, fun i hi => by rw [h2 i hi]; decide⟩
theorem index_ok {ns : List Str} {s : Str} (hok : ∀ x ∈ ns, PyData.strOk x = true) (hs : s ∈ ns) : mthD .index (.lst (ns.map .str)) [.str s] = some (.int (ns.idxOf s : Nat)) := by
  have e1 : toPys (ns.map D.str) = some (ns.map PyData.str) := toPys_map (fun _ => rfl) ns
  have c1 : PyData.canLayAll0 (ns.map PyData.str) = true := by
    clear hs e1
    induction ns with
    | nil => simp [PyData.canLayAll0]
    | cons a r ih => simp [PyData.canLayAll0, PyData.canLay0, hok a List.mem_cons_self, ih fun x hx => hok x (List.mem_cons_of_mem _ hx)]
  have d1 : PyData.depthAll (ns.map PyData.str) = 0 := by
    clear hs hok e1 c1
    induction ns with
    | nil => simp [PyData.depthAll]
    | cons a r ih => simp [PyData.depthAll, PyData.depth, ih]
  have s1 : SeqAt.shaped (.list (ns.map PyData.str)) = true := by
    unfold SeqAt.shaped
    simp only [PyData.canLay0, PyData.depth, c1, d1]
    decide
  have s2 : SeqAt.shaped (.str s) = true := by
    unfold SeqAt.shaped
    simp only [PyData.canLay0, PyData.depth, hok s hs]
    rfl
  have hlt := List.idxOf_lt_length_of_mem hs
  show indexD (ns.map .str) (.str s) = _
  unfold indexD
  have e2 : toPy (.str s) = some (.str s) := rfl
  rw [e1, e2]
  dsimp only
  rw [s1, s2]
  rw [if_pos (by rfl), findIdx_of (j := ns.idxOf s) (by rw [List.length_map]; exact hlt) ?_ ?_]
  · rfl
  · rw [List.getElem_map, List.getElem_idxOf hlt]
    simp [PyData.eqv]
  · intro i hi
    rw [List.getElem_map]
    have := List.not_of_lt_findIdx (p := fun x => x == s) (xs := ns) (i := i) hi
    have ne : ns[i]'(by omega) ≠ s := beq_eq_false_iff_ne.mp this
    simp [PyData.eqv, ne]
def pkL (l : List (Int × Int)) : D := .lst [.int l.length, .lst (l.map fun q => .lst [.int q.1, .int q.2])]
def pkQ (l : List (Int × Int)) : PyData := .list [.int l.length, .list (l.map fun q => .list [.int q.1, .int q.2])]
theorem toPy_pkL (l : List (Int × Int)) : toPy (pkL l) = some (pkQ l) := by
  have e := toPys_map (f := fun q : Int × Int => D.lst [.int q.1, .int q.2]) (g := fun q => PyData.list [.int q.1, .int q.2]) (fun _ => rfl) l
  show (match (some (PyData.int l.length) : Option PyData), (match ((toPys (l.map fun q : Int × Int => D.lst [.int q.1, .int q.2])).map PyData.list : Option PyData), (some [] : Option (List PyData)) with | some x, some xs => some (x :: xs) | _, _ => none) with | some x, some xs => some (x :: xs) | _, _ => none).map PyData.list = _
  rw [e]
  rfl
theorem alike_pairsL : ∀ l m : List (Int × Int), PySem.W.alikeAll (l.map fun q => PyData.list [.int q.1, .int q.2]) (m.map fun q => PyData.list [.int q.1, .int q.2]) = true
  | [], m => by cases m <;> simp [PySem.W.alikeAll]
  | a :: l, [] => by simp [PySem.W.alikeAll]
  | a :: l, b :: m => by
    have ih := alike_pairsL l m
    simp only [List.map_cons, PySem.W.alikeAll, PySem.W.alike, ih, Bool.and_self]
theorem depth_pairsL : ∀ l : List (Int × Int), PyData.depthAll (l.map fun q => PyData.list [.int q.1, .int q.2]) ≤ 1
  | [] => by simp [PyData.depthAll]
  | a :: l => by
    have ih := depth_pairsL l
    simp only [List.map_cons, PyData.depthAll, PyData.depth]
    omega
theorem toks_pairs : ∀ l : List (Int × Int), PySem.W.keyToksAll (l.map fun q => PyData.list [.int q.1, .int q.2]) = PySem.W.keyToksAll (l.map fun q => PyData.tuple [.int q.1, .int q.2])
  | [] => rfl
  | a :: l => by
    have ih := toks_pairs l
    simp only [List.map_cons, PySem.W.keyToksAll, PySem.W.keyToks, ih]
theorem toks_pk (l : List (Int × Int)) : PySem.W.keyToks (pkQ l) = PySem.W.keyToks (pkP l) := by
  unfold pkQ pkP
  simp only [PySem.W.keyToksAll, PySem.W.keyToks, toks_pairs]
theorem lt_pkL (l m : List (Int × Int)) : ltD (pkL l) (pkL m) = some (PySem.W.dataLt (pkP l) (pkP m)) := by
  unfold ltD
  rw [toPy_pkL, toPy_pkL]
  dsimp only
  have d1 := depth_pairsL l
  have hd : (pkQ l).depth ≤ 3 := by
    unfold pkQ
    simp only [PyData.depth, PyData.depthAll]
    omega
  have al : PySem.W.alike (pkQ l) (pkQ m) = true := by
    unfold pkQ
    simp only [PySem.W.alike, PySem.W.alikeAll, alike_pairsL, Bool.and_self]
  rw [if_pos]
  · unfold PySem.W.dataLt
    rw [toks_pk, toks_pk]
  · rw [al, decide_eq_true (show min (pkQ l).depth (pkQ m).depth ≤ 64 by omega)]
    rfl
theorem key_ok {cs ps : List (Str × Int)} (st : Store) (hl : cs.length ≤ 1000) (hp : ps.length ≤ 1000) (hok : ∀ c ∈ cs, PyData.strOk c.1 = true) (hm : ∀ p ∈ ps, p.1 ∈ cs.map (·.1)) :
    F11 [.lst (cs.map encP), .tup (ps.map encP)] st = .ok (pkL (byP cs ps)) st := by
  have c1 := comp_map (T := T11) (own := [3, 4]) (p := .tp (psL [.nm 3, .nm 4])) (it := .seq (.var 0)) (c := .no) (e := .var 3) (env := [some (.val (.lst (cs.map encP))), some (.val (.tup (ps.map encP))), none, none, none, none]) (st := st) (st1 := st) (xs := cs.map encP)
    (g := fun x => match x with | .tup [s, _] => s | _ => .non) rfl (by simp only [ssL, asL, psL, exs, ex, ev, evs, evbs, evAnd, evOr, evo, evc, evi, evB_var, evB_prim, evB_lit, evB_ty, evB_cmp, evB_call, evB_callK, evB_bin, evB_or, evB_and, evB_not, evB_tup, evB_lst, evB_idx, evB_mth, evB_cat, evB_comp, valAt, borAt, ownAt, List.map_cons, List.map_nil, rep0, rep1, rep2, rep3, rep4, rep5, rep6, rep7, rep8, rep9, rep10, rep11, rep12, rep13, drf_ty, List.cons_append, List.nil_append, Nat.reduceSub, List.getElem?_cons_zero, List.getElem?_cons_succ, of_some, of_none, bind_ok, bind_ex, bind_no, go_ok, go_ex, go_no, nox_ok, drf_int, drf_str, drf_bl, drf_non, drf_tup, drf_lst, drf_dct, idxD_lst, idxD_tup, idxD_dct, cmpD, truD, binD, augD, bindP, bindPs, oSR, List.set_cons_zero, List.set_cons_succ, then_nx, then_rt, then_bk, then_ct, then_no, Option.map_some, Option.map_none, if_true, Bool.false_eq_true, if_false, decide_true, decide_false]) (fun x hx => by
      obtain ⟨q, _, rfl⟩ := List.mem_map.mp hx
      exact ⟨_, rfl, rfl, rfl⟩) (by rw [List.length_map]; exact Nat.le_trans hl (by decide))
  have e1 : (cs.map encP).map (fun x => match x with | .tup [s, _] => s | _ => .non) = (cs.map (·.1)).map D.str := by
    rw [List.map_map, List.map_map]; rfl
  rw [e1] at c1
  have c2 := comp_map (T := T11) (own := [3, 5]) (p := .tp (psL [.nm 3, .nm 5])) (it := .seq (.var 1)) (c := .no) (e := .lst (asL [.mth .index (.var 2) (asL [.var 3]), .var 5])) (env := [some (.val (.lst (cs.map encP))), some (.val (.tup (ps.map encP))), some (.val (.lst ((cs.map (·.1)).map D.str))), none, none, none]) (st := st) (st1 := st) (xs := ps.map encP)
    (g := fun x => match x with | .tup [.str s, o] => .lst [.int (plc cs s : Int), o] | _ => .non) rfl (by simp only [ssL, asL, psL, exs, ex, ev, evs, evbs, evAnd, evOr, evo, evc, evi, evB_var, evB_prim, evB_lit, evB_ty, evB_cmp, evB_call, evB_callK, evB_bin, evB_or, evB_and, evB_not, evB_tup, evB_lst, evB_idx, evB_mth, evB_cat, evB_comp, valAt, borAt, ownAt, List.map_cons, List.map_nil, rep0, rep1, rep2, rep3, rep4, rep5, rep6, rep7, rep8, rep9, rep10, rep11, rep12, rep13, drf_ty, List.cons_append, List.nil_append, Nat.reduceSub, List.getElem?_cons_zero, List.getElem?_cons_succ, of_some, of_none, bind_ok, bind_ex, bind_no, go_ok, go_ex, go_no, nox_ok, drf_int, drf_str, drf_bl, drf_non, drf_tup, drf_lst, drf_dct, idxD_lst, idxD_tup, idxD_dct, cmpD, truD, binD, augD, bindP, bindPs, oSR, List.set_cons_zero, List.set_cons_succ, then_nx, then_rt, then_bk, then_ct, then_no, Option.map_some, Option.map_none, if_true, Bool.false_eq_true, if_false, decide_true, decide_false]) (fun x hx => by
      obtain ⟨q, hq, rfl⟩ := List.mem_map.mp hx
      refine ⟨_, rfl, rfl, ?_⟩
      have hw : wipeE [some (.val (.lst (cs.map encP))), some (.val (.tup (ps.map encP))), some (.val (.lst ((cs.map (·.1)).map D.str))), none, none, none] [3, 5] = [some (.val (.lst (cs.map encP))), some (.val (.tup (ps.map encP))), some (.val (.lst ((cs.map (·.1)).map D.str))), none, none, none] := rfl
      rw [hw]
      have ix := index_ok (ns := cs.map (·.1)) (s := q.1) (fun x hx => by obtain ⟨c, hc, rfl⟩ := List.mem_map.mp hx; exact hok c hc) (hm q hq)
      have mt : mTy .index (.lst ((cs.map (·.1)).map D.str)) = true := rfl
      have pr : small 2 = true := by decide
      generalize (cs.map (·.1)).map D.str = N at ix mt ⊢
      simp only [ssL, asL, psL, exs, ex, ev, evs, evbs, evAnd, evOr, evo, evc, evi, evB_var, evB_prim, evB_lit, evB_ty, evB_cmp, evB_call, evB_callK, evB_bin, evB_or, evB_and, evB_not, evB_tup, evB_lst, evB_idx, evB_mth, evB_cat, evB_comp, valAt, borAt, ownAt, List.map_cons, List.map_nil, rep0, rep1, rep2, rep3, rep4, rep5, rep6, rep7, rep8, rep9, rep10, rep11, rep12, rep13, drf_ty, List.cons_append, List.nil_append, Nat.reduceSub, List.getElem?_cons_zero, List.getElem?_cons_succ, of_some, of_none, bind_ok, bind_ex, bind_no, go_ok, go_ex, go_no, nox_ok, drf_int, drf_str, drf_bl, drf_non, drf_tup, drf_lst, drf_dct, idxD_lst, idxD_tup, idxD_dct, cmpD, truD, binD, augD, bindP, bindPs, oSR, List.set_cons_zero, List.set_cons_succ, then_nx, then_rt, then_bk, then_ct, then_no, Option.map_some, Option.map_none, if_true, Bool.false_eq_true, if_false, decide_true, decide_false, mt, ix, encP, List.length_cons, List.length_nil, pr, plc]) (by rw [List.length_map]; exact Nat.le_trans hp (by decide))
  have e2 : (ps.map encP).map (fun x => match x with | .tup [.str s, o] => D.lst [.int (plc cs s : Int), o] | _ => .non) = (byP cs ps).map fun q => .lst [.int q.1, .int q.2] := by
    unfold byP
    rw [List.map_map, List.map_map]; rfl
  rw [e2] at c2
  have ln : primD .len [.tup (ps.map encP)] = some (.int ((byP cs ps).length : Int)) := by
    show some (D.int ((ps.map encP).length : Int)) = _
    unfold byP
    rw [List.length_map, List.length_map]
  have pr : small 2 = true := by decide
  unfold F11 runF b11
  rw [if_pos (show [D.lst (cs.map encP), .tup (ps.map encP)].length = 2 from rfl)]
  generalize (A.comp [3, 5] (.tp (psL [.nm 3, .nm 5])) (.seq (.var 1)) .no (.lst (asL [.mth .index (.var 2) (asL [.var 3]), .var 5]))) = C2 at c2 ⊢
  generalize (A.comp [3, 4] (.tp (psL [.nm 3, .nm 4])) (.seq (.var 0)) .no (.var 3)) = C1 at c1 ⊢
  simp only [ssL, asL, psL, exs, ex, ev, evs, evbs, evAnd, evOr, evo, evc, evi, evB_var, evB_prim, evB_lit, evB_ty, evB_cmp, evB_call, evB_callK, evB_bin, evB_or, evB_and, evB_not, evB_tup, evB_lst, evB_idx, evB_mth, evB_cat, evB_comp, valAt, borAt, ownAt, List.map_cons, List.map_nil, rep0, rep1, rep2, rep3, rep4, rep5, rep6, rep7, rep8, rep9, rep10, rep11, rep12, rep13, drf_ty, List.cons_append, List.nil_append, Nat.reduceSub, List.getElem?_cons_zero, List.getElem?_cons_succ, of_some, of_none, bind_ok, bind_ex, bind_no, go_ok, go_ex, go_no, nox_ok, drf_int, drf_str, drf_bl, drf_non, drf_tup, drf_lst, drf_dct, idxD_lst, idxD_tup, idxD_dct, cmpD, truD, binD, augD, bindP, bindPs, oSR, List.set_cons_zero, List.set_cons_succ, then_nx, then_rt, then_bk, then_ct, then_no, Option.map_some, Option.map_none, if_true, Bool.false_eq_true, if_false, decide_true, decide_false, c1, c2, ln, pr, List.length_cons, List.length_nil, pkL]
def lotF (f : List Int → Bool) : D → Bool
  | .tup l => match intsOf l with
    | some ns => f ns
    | none => false
  | _ => false
theorem intsOf_map2 : ∀ l : List Int, intsOf (l.map D.int) = some l
  | [] => rfl
  | a :: r => by show (intsOf (r.map D.int)).map (a :: ·) = _; rw [intsOf_map2 r]; rfl
theorem lotF_enc (f : List Int → Bool) (l : List Int) : lotF f (encT l) = f l := by
  unfold lotF encT
  dsimp only
  rw [intsOf_map2]
theorem filt_enc (f : List Int → Bool) : ∀ l : List (List Int), ((l.map encT).filter (lotF f)).map (fun x => x) = (l.filter f).map encT
  | [] => rfl
  | a :: r => by
    have ih := filt_enc f r
    rw [List.map_id'] at ih ⊢
    rw [List.map_cons]
    by_cases h : f a = true
    · rw [List.filter_cons_of_pos (p := lotF f) (by rw [lotF_enc]; exact h), List.filter_cons_of_pos h, List.map_cons, ih]
    · rw [List.filter_cons_of_neg (p := lotF f) (by rw [lotF_enc]; exact h), List.filter_cons_of_neg h, ih]
theorem plE (l : List (List Int)) : plB 64 (.lst (l.map encT)) = true := plLT l
def bls (a b c : Bool) : D := .lst [.bl a, .bl b, .bl c]
theorem eqD_bls (a b c : Bool) : eqD (bls a b c) (bls a b c) = some true := by
  have : plB 64 (bls a b c) = true := by unfold bls plB; rfl
  exact eqD_refl this
theorem two_ok {cs ps qs : List (Str × Int)} {L : List (List Int)} (st : Store) (hL : L = lotsR (cs.map (base [])).reverse) (hLl : L.length ≤ 65536) (hl : cs.length ≤ 8) (hn : (cs.map (·.1)).Nodup) (hb : ∀ p ∈ cs, SG 20 p.1 ∧ 2 ≤ p.2 ∧ p.2 ≤ 4) (hp : PartOf cs ps) (hq : PartOf cs qs) :
    F12 [.lst (cs.map encP), .lst (L.map encT), .tup (ps.map encP), .tup (qs.map encP)] st = .ok (.bl true) st := by
  have hpl := hp.len
  have hql := hq.len
  have hpn := hp.nodup hn
  have hqn := hq.nodup hn
  have hok : ∀ c ∈ cs, PyData.strOk c.1 = true := fun c hc => (hb c hc).1.1
  have f0 : T12.fn 0 = F0 := rfl
  have f1 : T12.fn 1 = F1 := rfl
  have f3 : T12.fn 3 = F3 := rfl
  have f11 : T12.fn 11 = F11 := rfl
  have hcl : Han cs (.lst (cs.map encP)) := .inl rfl
  have hct : Han cs (.tup (cs.map encP)) := .inr rfl
  have c1 := comp_filt (T := T12) (own := [5]) (p := .nm 5) (it := .seq (.var 1)) (c := .so (.call 0 (asL [.var 0, .var 5, .var 2]))) (e := .var 5) (env := [some (.val (.lst (cs.map encP))), some (.val (.lst (L.map encT))), some (.val (.tup (ps.map encP))), some (.val (.tup (qs.map encP))), none, none, none, none, none]) (st := st) (st1 := st) (xs := L.map encT)
    (t := lotF fun l => isIn cs l ps) (g := fun x => x) rfl (by simp only [ssL, asL, psL, exs, ex, ev, evs, evbs, evAnd, evOr, evo, evc, evi, evB_var, evB_prim, evB_lit, evB_ty, evB_cmp, evB_call, evB_callK, evB_bin, evB_or, evB_and, evB_not, evB_tup, evB_lst, evB_idx, evB_mth, evB_cat, evB_comp, valAt, borAt, ownAt, List.map_cons, List.map_nil, rep0, rep1, rep2, rep3, rep4, rep5, rep6, rep7, rep8, rep9, rep10, rep11, rep12, rep13, drf_ty, List.cons_append, List.nil_append, Nat.reduceSub, List.getElem?_cons_zero, List.getElem?_cons_succ, of_some, of_none, bind_ok, bind_ex, bind_no, go_ok, go_ex, go_no, nox_ok, drf_int, drf_str, drf_bl, drf_non, drf_tup, drf_lst, drf_dct, idxD_lst, idxD_tup, idxD_dct, cmpD, truD, binD, augD, bindP, bindPs, oSR, List.set_cons_zero, List.set_cons_succ, then_nx, then_rt, then_bk, then_ct, then_no, Option.map_some, Option.map_none, if_true, Bool.false_eq_true, if_false, decide_true, decide_false]) (fun x hx => by
      obtain ⟨l, hl2, rfl⟩ := List.mem_map.mp hx
      refine ⟨_, rfl, ?_, fun _ => rfl⟩
      have a := isIn_F cs ps l (.lst (cs.map encP)) st hcl (by omega) (by omega) hpn
      have hw : wipeE [some (.val (.lst (cs.map encP))), some (.val (.lst (L.map encT))), some (.val (.tup (ps.map encP))), some (.val (.tup (qs.map encP))), none, none, none, none, none] [5] = [some (.val (.lst (cs.map encP))), some (.val (.lst (L.map encT))), some (.val (.tup (ps.map encP))), some (.val (.tup (qs.map encP))), none, none, none, none, none] := rfl
      rw [hw, lotF_enc]
      simp only [ssL, asL, psL, exs, ex, ev, evs, evbs, evAnd, evOr, evo, evc, evi, evB_var, evB_prim, evB_lit, evB_ty, evB_cmp, evB_call, evB_callK, evB_bin, evB_or, evB_and, evB_not, evB_tup, evB_lst, evB_idx, evB_mth, evB_cat, evB_comp, valAt, borAt, ownAt, List.map_cons, List.map_nil, rep0, rep1, rep2, rep3, rep4, rep5, rep6, rep7, rep8, rep9, rep10, rep11, rep12, rep13, drf_ty, List.cons_append, List.nil_append, Nat.reduceSub, List.getElem?_cons_zero, List.getElem?_cons_succ, of_some, of_none, bind_ok, bind_ex, bind_no, go_ok, go_ex, go_no, nox_ok, drf_int, drf_str, drf_bl, drf_non, drf_tup, drf_lst, drf_dct, idxD_lst, idxD_tup, idxD_dct, cmpD, truD, binD, augD, bindP, bindPs, oSR, List.set_cons_zero, List.set_cons_succ, then_nx, then_rt, then_bk, then_ct, then_no, Option.map_some, Option.map_none, if_true, Bool.false_eq_true, if_false, decide_true, decide_false, f0, a]) (by rw [List.length_map]; exact Nat.le_trans hLl (by decide))
  rw [filt_enc] at c1
  generalize hM : L.filter (fun l => isIn cs l ps) = M at c1
  have hMl : M.length ≤ 65536 := by rw [← hM]; exact Nat.le_trans (List.length_filter_le _ _) hLl
  have k0 : ∀ l : List Int, permK (T12.kp 0) [] [encT l, .tup (cs.map encP), .tup (qs.map encP)] = some [.tup (cs.map encP), encT l, .tup (qs.map encP)] := fun _ => rfl
  have k0f : (T12.kp 0).f = 0 := rfl
  have tp : ∀ l : List D, primD .tuple_ [.lst l] = some (.tup l) := fun _ => rfl
  have c2 := comp_filt (T := T12) (own := [5]) (p := .nm 5) (it := .seq (.var 4)) (c := .so (.callK 0 (asL []) (asL [.var 5, .prim .tuple_ (asL [.var 0]), .var 3]))) (e := .var 5) (env := [some (.val (.lst (cs.map encP))), some (.val (.lst (L.map encT))), some (.val (.tup (ps.map encP))), some (.val (.tup (qs.map encP))), some (.val (.lst (M.map encT))), none, none, none, none]) (st := st) (st1 := st) (xs := M.map encT)
    (t := lotF fun l => isIn cs l qs) (g := fun x => x) rfl (by simp only [ssL, asL, psL, exs, ex, ev, evs, evbs, evAnd, evOr, evo, evc, evi, evB_var, evB_prim, evB_lit, evB_ty, evB_cmp, evB_call, evB_callK, evB_bin, evB_or, evB_and, evB_not, evB_tup, evB_lst, evB_idx, evB_mth, evB_cat, evB_comp, valAt, borAt, ownAt, List.map_cons, List.map_nil, rep0, rep1, rep2, rep3, rep4, rep5, rep6, rep7, rep8, rep9, rep10, rep11, rep12, rep13, drf_ty, List.cons_append, List.nil_append, Nat.reduceSub, List.getElem?_cons_zero, List.getElem?_cons_succ, of_some, of_none, bind_ok, bind_ex, bind_no, go_ok, go_ex, go_no, nox_ok, drf_int, drf_str, drf_bl, drf_non, drf_tup, drf_lst, drf_dct, idxD_lst, idxD_tup, idxD_dct, cmpD, truD, binD, augD, bindP, bindPs, oSR, List.set_cons_zero, List.set_cons_succ, then_nx, then_rt, then_bk, then_ct, then_no, Option.map_some, Option.map_none, if_true, Bool.false_eq_true, if_false, decide_true, decide_false]) (fun x hx => by
      obtain ⟨l, hl2, rfl⟩ := List.mem_map.mp hx
      refine ⟨_, rfl, ?_, fun _ => rfl⟩
      have a := isIn_F cs qs l (.tup (cs.map encP)) st hct (by omega) (by omega) hqn
      have hw : wipeE [some (.val (.lst (cs.map encP))), some (.val (.lst (L.map encT))), some (.val (.tup (ps.map encP))), some (.val (.tup (qs.map encP))), some (.val (.lst (M.map encT))), none, none, none, none] [5] = [some (.val (.lst (cs.map encP))), some (.val (.lst (L.map encT))), some (.val (.tup (ps.map encP))), some (.val (.tup (qs.map encP))), some (.val (.lst (M.map encT))), none, none, none, none] := rfl
      rw [hw, lotF_enc]
      simp only [ssL, asL, psL, exs, ex, ev, evs, evbs, evAnd, evOr, evo, evc, evi, evB_var, evB_prim, evB_lit, evB_ty, evB_cmp, evB_call, evB_callK, evB_bin, evB_or, evB_and, evB_not, evB_tup, evB_lst, evB_idx, evB_mth, evB_cat, evB_comp, valAt, borAt, ownAt, List.map_cons, List.map_nil, rep0, rep1, rep2, rep3, rep4, rep5, rep6, rep7, rep8, rep9, rep10, rep11, rep12, rep13, drf_ty, List.cons_append, List.nil_append, Nat.reduceSub, List.getElem?_cons_zero, List.getElem?_cons_succ, of_some, of_none, bind_ok, bind_ex, bind_no, go_ok, go_ex, go_no, nox_ok, drf_int, drf_str, drf_bl, drf_non, drf_tup, drf_lst, drf_dct, idxD_lst, idxD_tup, idxD_dct, cmpD, truD, binD, augD, bindP, bindPs, oSR, List.set_cons_zero, List.set_cons_succ, then_nx, then_rt, then_bk, then_ct, then_no, Option.map_some, Option.map_none, if_true, Bool.false_eq_true, if_false, decide_true, decide_false, f0, tp, k0, k0f, a]) (by rw [List.length_map]; exact Nat.le_trans hMl (by decide))
  rw [filt_enc] at c2
  have hmt := meet_lots hn hp hq fun c hc => by have := (hb c hc).2; omega
  rw [← hL, hM] at hmt
  generalize hW : M.filter (fun l => isIn cs l qs) = W at c2 hmt
  have m1 := meet_F ps qs st (by omega) (by omega) hpn
  have l1 := lesser_F cs ps qs (.lst (cs.map encP)) st hcl (by omega) (by omega) (by omega) hn hp.names hq.names
  have l2 := lesser_F cs qs ps (.tup (cs.map encP)) st hct (by omega) (by omega) (by omega) hn hq.names hp.names
  have q1 := key_ok (cs := cs) (ps := ps) st (by omega) (by omega) hok hp.names
  have q2 := key_ok (cs := cs) (ps := qs) st (by omega) (by omega) hok hq.names
  have o1 : cmpD .Lt (pkL (byP cs ps)) (pkL (byP cs qs)) = some (lesserB cs ps qs) := lt_pkL _ _
  have o2 : cmpD .Lt (pkL (byP cs qs)) (pkL (byP cs ps)) = some (lesserB cs qs ps) := lt_pkL _ _
  have dr : ∀ l, drf st (pkL l) = pkL l := fun _ => rfl
  have d1 := dr (byP cs ps)
  have d2 := dr (byP cs qs)
  have eW := eqD_nil (plE W)
  have neW : cmpD .NotEq (.lst (W.map encT)) (.lst []) = some (meetB ps qs) := by
    show (eqD (.lst (W.map encT)) (.lst [])).map (!·) = _
    rw [eW, hmt]
    cases W <;> rfl
  generalize pkL (byP cs ps) = u at q1 o1 o2 d1
  generalize pkL (byP cs qs) = v at q2 o1 o2 d2
  have x0 : ∀ a b : D, L2.atI [a, b] 0 = some a := fun _ _ => rfl
  have x1 : ∀ a b : D, L2.atI [a, b] 1 = some b := fun _ _ => rfl
  generalize meetB ps qs = B0 at m1 neW
  generalize lesserB cs ps qs = B1 at l1 o1
  generalize lesserB cs qs ps = B2 at l2 o2
  have bl3 : cmpD .Eq (.lst [.bl B0, .bl B1, .bl B2]) (.lst [.bl B0, .bl B1, .bl B2]) = some true := eqD_bls B0 B1 B2
  have pr3 : small 3 = true := by decide
  have pr2 : small 2 = true := by decide
  have pr0 : small 0 = true := by decide
  have isb : ∀ b : Bool, primD .isi [.bl b, .ty "bool"] = some (.bl true) := fun _ => rfl
  have c3 := comp_map (T := T12) (own := [8]) (p := .nm 8) (it := .seq (.var 6)) (c := .no) (e := .prim .isi (asL [.var 8, .ty "bool"])) (env := [some (.val (.lst (cs.map encP))), some (.val (.lst (L.map encT))), some (.val (.tup (ps.map encP))), some (.val (.tup (qs.map encP))), some (.val (.lst (W.map encT))), none, some (.val (.lst [.bl B0, .bl B1, .bl B2])), some (.val (.lst [u, v])), none]) (st := st) (st1 := st) (xs := [.bl B0, .bl B1, .bl B2])
    (g := fun _ => .bl true) rfl (by simp only [ssL, asL, psL, exs, ex, ev, evs, evbs, evAnd, evOr, evo, evc, evi, evB_var, evB_prim, evB_lit, evB_ty, evB_cmp, evB_call, evB_callK, evB_bin, evB_or, evB_and, evB_not, evB_tup, evB_lst, evB_idx, evB_mth, evB_cat, evB_comp, valAt, borAt, ownAt, List.map_cons, List.map_nil, rep0, rep1, rep2, rep3, rep4, rep5, rep6, rep7, rep8, rep9, rep10, rep11, rep12, rep13, drf_ty, List.cons_append, List.nil_append, Nat.reduceSub, List.getElem?_cons_zero, List.getElem?_cons_succ, of_some, of_none, bind_ok, bind_ex, bind_no, go_ok, go_ex, go_no, nox_ok, drf_int, drf_str, drf_bl, drf_non, drf_tup, drf_lst, drf_dct, idxD_lst, idxD_tup, idxD_dct, cmpD, truD, binD, augD, bindP, bindPs, oSR, List.set_cons_zero, List.set_cons_succ, then_nx, then_rt, then_bk, then_ct, then_no, Option.map_some, Option.map_none, if_true, Bool.false_eq_true, if_false, decide_true, decide_false]) (fun x hx => by
      obtain ⟨b, rfl⟩ : ∃ b, x = .bl b := by
        rcases List.mem_cons.mp hx with e | hx
        · exact ⟨_, e⟩
        rcases List.mem_cons.mp hx with e | hx
        · exact ⟨_, e⟩
        rcases List.mem_cons.mp hx with e | hx
        · exact ⟨_, e⟩
        · cases hx
      exact ⟨_, rfl, rfl, rfl⟩) (Nat.le_trans (by show 3 ≤ 3; omega) (by decide : 3 ≤ sizeLine))
  have c3B := evB_ok c3
  have al : primD .all_ [.lst [.bl true, .bl true, .bl true]] = some (.bl true) := rfl
  unfold F12 runF b12
  rw [if_pos (show [D.lst (cs.map encP), .lst (L.map encT), .tup (ps.map encP), .tup (qs.map encP)].length = 4 from rfl)]
  generalize (A.comp [5] (.nm 5) (.seq (.var 1)) (.so (.call 0 (asL [.var 0, .var 5, .var 2]))) (.var 5)) = C1 at c1 ⊢
  generalize (A.comp [5] (.nm 5) (.seq (.var 4)) (.so (.callK 0 (asL []) (asL [.var 5, .prim .tuple_ (asL [.var 0]), .var 3]))) (.var 5)) = C2 at c2 ⊢
  generalize (A.comp [8] (.nm 8) (.seq (.var 6)) .no (.prim .isi (asL [.var 8, .ty "bool"]))) = C3 at c3 c3B ⊢
  simp only [ssL, asL, psL, exs, ex, ev, evs, evbs, evAnd, evOr, evo, evc, evi, evB_var, evB_prim, evB_lit, evB_ty, evB_cmp, evB_call, evB_callK, evB_bin, evB_or, evB_and, evB_not, evB_tup, evB_lst, evB_idx, evB_mth, evB_cat, evB_comp, valAt, borAt, ownAt, List.map_cons, List.map_nil, rep0, rep1, rep2, rep3, rep4, rep5, rep6, rep7, rep8, rep9, rep10, rep11, rep12, rep13, drf_ty, List.cons_append, List.nil_append, Nat.reduceSub, List.getElem?_cons_zero, List.getElem?_cons_succ, of_some, of_none, bind_ok, bind_ex, bind_no, go_ok, go_ex, go_no, nox_ok, drf_int, drf_str, drf_bl, drf_non, drf_tup, drf_lst, drf_dct, idxD_lst, idxD_tup, idxD_dct, truD, binD, augD, bindP, bindPs, oSR, List.set_cons_zero, List.set_cons_succ, then_nx, then_rt, then_bk, then_ct, then_no, Option.map_some, Option.map_none, if_true, Bool.false_eq_true, if_false, decide_true, decide_false, c1, c2, c3B, al, f1, f3, f11, tp, m1, l1, l2, q1, q2, o1, o2, d1, d2, neW, x0, x1, bl3, pr3, pr2, pr0, List.length_cons, List.length_nil, Bool.not_true]
end LW
end

section
set_option Elab.async false
set_option linter.all false
set_option maxRecDepth 100000
set_option maxHeartbeats 4000000
namespace LW
open PySem L3 LB
def encS (ps : List (Str × Int)) : D := .tup (ps.map encP)
def parts_of (cs : List (Str × Int)) (d : D) : Prop := ∃ ps, d = encS ps ∧ PartOf cs ps
theorem all2_parts {cs : List (Str × Int)} : ∀ {xs ds : List D}, All2 (fun _ d => parts_of cs d) xs ds → ∃ P : List (List (Str × Int)), ds = P.map encS ∧ (∀ ps ∈ P, PartOf cs ps) ∧ P.length = xs.length
  | _, _, .nil => ⟨[], rfl, fun _ h => (by cases h), rfl⟩
  | _, _, .cons ⟨ps, e, h⟩ t => by
    obtain ⟨P, rfl, h1, h2⟩ := all2_parts t
    refine ⟨ps :: P, by rw [e]; rfl, fun q hq => ?_, by simp [h2]⟩
    rcases List.mem_cons.mp hq with z | z
    · rw [z]; exact h
    · exact h1 q z
def body2 : Ss := (ssL [.asg (.nm 8) (.call 9 (asL [.var 3, .var 7])), .if_ (.cmp .NotEq (.comp [9] (.nm 9) (.seq (.var 4)) (.so (.call 0 (asL [.var 3, .var 9, .var 7]))) (.var 9)) (.var 8)) (ssL [.ret (.lit (.bl false))]) (ssL []), .if_ (.not_ (.prim .all_ (asL [.comp [10] (.nm 10) (.seq (.var 5)) .no (.call 12 (asL [.var 3, .var 4, .var 7, .var 10]))]))) (ssL [.ret (.lit (.bl false))]) (ssL [])])
theorem one_ok {cs ps : List (Str × Int)} {P : List (List (Str × Int))} {L : List (List Int)} (x0 x1 x2 x6 x8 : Option Sl) (st : Store) (hL : L = lotsR (cs.map (base [])).reverse) (hl : cs.length ≤ 8) (hn : (cs.map (·.1)).Nodup) (hb : ∀ p ∈ cs, SG 20 p.1 ∧ 2 ≤ p.2 ∧ p.2 ≤ 4) (hP : ∀ ps ∈ P, PartOf cs ps) (hPl : P.length ≤ 1000) (hp : PartOf cs ps) :
    ∃ y8, exs T13 body2 [x0, x1, x2, some (.val (.lst (cs.map encP))), some (.val (.lst (L.map encT))), some (.val (.lst (P.map encS))), x6, some (.val (encS ps)), x8, none, none] st = .ok .nx [x0, x1, x2, some (.val (.lst (cs.map encP))), some (.val (.lst (L.map encT))), some (.val (.lst (P.map encS))), x6, some (.val (encS ps)), y8, none, none] st := by
  have hpl := hp.len
  have hpn := hp.nodup hn
  have f9 : T13.fn 9 = F9 := rfl
  have f0 : T13.fn 0 = F0 := rfl
  have f12 : T13.fn 12 = F12 := rfl
  have hb4 : ∀ p ∈ cs, 0 < p.2 ∧ p.2 ≤ 4 := fun p hp => by have := (hb p hp).2; omega
  have lo := lots_F cs ps st hl (by omega) hb4
  have hcl : Han cs (.lst (cs.map encP)) := .inl rfl
  have fl := filt_lots hpn cs fun c hc => ⟨by have := (hb4 c hc).1; omega, fun o ho => hp.opt hn hc ho⟩
  rw [← hL] at fl
  have hLl : L.length ≤ 65536 := by
    rw [hL, lots_len]
    refine Nat.le_trans (prod_le _ fun b hb' => ?_) ?_
    · obtain ⟨p, hp, rfl⟩ := List.mem_map.mp (List.mem_reverse.mp hb')
      exact (hb4 p hp).2
    · rw [List.length_reverse, List.length_map]
      exact Nat.le_trans (Nat.pow_le_pow_right (by decide) hl) (by decide)
  have lo : F9 [.lst (cs.map encP), encS ps] st = _ := lo
  generalize hO : lotsR (cs.map (base ps)).reverse = O at lo fl
  have c1 := comp_filt (T := T13) (own := [9]) (p := .nm 9) (it := .seq (.var 4)) (c := .so (.call 0 (asL [.var 3, .var 9, .var 7]))) (e := .var 9) (env := [x0, x1, x2, some (.val (.lst (cs.map encP))), some (.val (.lst (L.map encT))), some (.val (.lst (P.map encS))), x6, some (.val (encS ps)), some (.val (.lst (O.map encT))), none, none]) (st := st) (st1 := st) (xs := L.map encT)
    (t := lotF fun l => isIn cs l ps) (g := fun x => x) rfl (by simp only [ssL, asL, psL, exs, ex, ev, evs, evbs, evAnd, evOr, evo, evc, evi, evB_var, evB_prim, evB_lit, evB_ty, evB_cmp, evB_call, evB_callK, evB_bin, evB_or, evB_and, evB_not, evB_tup, evB_lst, evB_idx, evB_mth, evB_cat, evB_comp, valAt, borAt, ownAt, List.map_cons, List.map_nil, rep0, rep1, rep2, rep3, rep4, rep5, rep6, rep7, rep8, rep9, rep10, rep11, rep12, rep13, drf_ty, List.cons_append, List.nil_append, Nat.reduceSub, List.getElem?_cons_zero, List.getElem?_cons_succ, of_some, of_none, bind_ok, bind_ex, bind_no, go_ok, go_ex, go_no, nox_ok, drf_int, drf_str, drf_bl, drf_non, drf_tup, drf_lst, drf_dct, idxD_lst, idxD_tup, idxD_dct, cmpD, truD, binD, augD, bindP, bindPs, oSR, List.set_cons_zero, List.set_cons_succ, then_nx, then_rt, then_bk, then_ct, then_no, Option.map_some, Option.map_none, if_true, Bool.false_eq_true, if_false, decide_true, decide_false]) (fun x hx => by
      obtain ⟨l, hl2, rfl⟩ := List.mem_map.mp hx
      refine ⟨_, rfl, ?_, fun _ => rfl⟩
      have a : F0 [.lst (cs.map encP), encT l, encS ps] st = _ := isIn_F cs ps l (.lst (cs.map encP)) st hcl (by omega) (by omega) hpn
      have hw : wipeE [x0, x1, x2, some (.val (.lst (cs.map encP))), some (.val (.lst (L.map encT))), some (.val (.lst (P.map encS))), x6, some (.val (encS ps)), some (.val (.lst (O.map encT))), none, none] [9] = [x0, x1, x2, some (.val (.lst (cs.map encP))), some (.val (.lst (L.map encT))), some (.val (.lst (P.map encS))), x6, some (.val (encS ps)), some (.val (.lst (O.map encT))), none, none] := rfl
      rw [hw, lotF_enc]
      simp only [ssL, asL, psL, exs, ex, ev, evs, evbs, evAnd, evOr, evo, evc, evi, evB_var, evB_prim, evB_lit, evB_ty, evB_cmp, evB_call, evB_callK, evB_bin, evB_or, evB_and, evB_not, evB_tup, evB_lst, evB_idx, evB_mth, evB_cat, evB_comp, valAt, borAt, ownAt, List.map_cons, List.map_nil, rep0, rep1, rep2, rep3, rep4, rep5, rep6, rep7, rep8, rep9, rep10, rep11, rep12, rep13, drf_ty, List.cons_append, List.nil_append, Nat.reduceSub, List.getElem?_cons_zero, List.getElem?_cons_succ, of_some, of_none, bind_ok, bind_ex, bind_no, go_ok, go_ex, go_no, nox_ok, drf_int, drf_str, drf_bl, drf_non, drf_tup, drf_lst, drf_dct, idxD_lst, idxD_tup, idxD_dct, cmpD, truD, binD, augD, bindP, bindPs, oSR, List.set_cons_zero, List.set_cons_succ, then_nx, then_rt, then_bk, then_ct, then_no, Option.map_some, Option.map_none, if_true, Bool.false_eq_true, if_false, decide_true, decide_false, f0, a]) (by rw [List.length_map]; exact Nat.le_trans hLl (by decide))
  rw [filt_enc, fl] at c1
  have eO : cmpD .NotEq (.lst (O.map encT)) (.lst (O.map encT)) = some false := by
    show (eqD (.lst (O.map encT)) (.lst (O.map encT))).map (!·) = _
    rw [eqD_refl (plE O)]; rfl
  have c2 := comp_map (T := T13) (own := [10]) (p := .nm 10) (it := .seq (.var 5)) (c := .no) (e := .call 12 (asL [.var 3, .var 4, .var 7, .var 10])) (env := [x0, x1, x2, some (.val (.lst (cs.map encP))), some (.val (.lst (L.map encT))), some (.val (.lst (P.map encS))), x6, some (.val (encS ps)), some (.val (.lst (O.map encT))), none, none]) (st := st) (st1 := st) (xs := P.map encS)
    (g := fun _ => .bl true) rfl (by simp only [ssL, asL, psL, exs, ex, ev, evs, evbs, evAnd, evOr, evo, evc, evi, evB_var, evB_prim, evB_lit, evB_ty, evB_cmp, evB_call, evB_callK, evB_bin, evB_or, evB_and, evB_not, evB_tup, evB_lst, evB_idx, evB_mth, evB_cat, evB_comp, valAt, borAt, ownAt, List.map_cons, List.map_nil, rep0, rep1, rep2, rep3, rep4, rep5, rep6, rep7, rep8, rep9, rep10, rep11, rep12, rep13, drf_ty, List.cons_append, List.nil_append, Nat.reduceSub, List.getElem?_cons_zero, List.getElem?_cons_succ, of_some, of_none, bind_ok, bind_ex, bind_no, go_ok, go_ex, go_no, nox_ok, drf_int, drf_str, drf_bl, drf_non, drf_tup, drf_lst, drf_dct, idxD_lst, idxD_tup, idxD_dct, cmpD, truD, binD, augD, bindP, bindPs, oSR, List.set_cons_zero, List.set_cons_succ, then_nx, then_rt, then_bk, then_ct, then_no, Option.map_some, Option.map_none, if_true, Bool.false_eq_true, if_false, decide_true, decide_false]) (fun x hx => by
      obtain ⟨qs, hq, rfl⟩ := List.mem_map.mp hx
      refine ⟨_, rfl, rfl, ?_⟩
      have a : F12 [.lst (cs.map encP), .lst (L.map encT), encS ps, encS qs] st = _ := two_ok st hL hLl hl hn hb hp (hP qs hq)
      have hw : wipeE [x0, x1, x2, some (.val (.lst (cs.map encP))), some (.val (.lst (L.map encT))), some (.val (.lst (P.map encS))), x6, some (.val (encS ps)), some (.val (.lst (O.map encT))), none, none] [10] = [x0, x1, x2, some (.val (.lst (cs.map encP))), some (.val (.lst (L.map encT))), some (.val (.lst (P.map encS))), x6, some (.val (encS ps)), some (.val (.lst (O.map encT))), none, none] := rfl
      rw [hw]
      simp only [ssL, asL, psL, exs, ex, ev, evs, evbs, evAnd, evOr, evo, evc, evi, evB_var, evB_prim, evB_lit, evB_ty, evB_cmp, evB_call, evB_callK, evB_bin, evB_or, evB_and, evB_not, evB_tup, evB_lst, evB_idx, evB_mth, evB_cat, evB_comp, valAt, borAt, ownAt, List.map_cons, List.map_nil, rep0, rep1, rep2, rep3, rep4, rep5, rep6, rep7, rep8, rep9, rep10, rep11, rep12, rep13, drf_ty, List.cons_append, List.nil_append, Nat.reduceSub, List.getElem?_cons_zero, List.getElem?_cons_succ, of_some, of_none, bind_ok, bind_ex, bind_no, go_ok, go_ex, go_no, nox_ok, drf_int, drf_str, drf_bl, drf_non, drf_tup, drf_lst, drf_dct, idxD_lst, idxD_tup, idxD_dct, cmpD, truD, binD, augD, bindP, bindPs, oSR, List.set_cons_zero, List.set_cons_succ, then_nx, then_rt, then_bk, then_ct, then_no, Option.map_some, Option.map_none, if_true, Bool.false_eq_true, if_false, decide_true, decide_false, f12, a]) (by rw [List.length_map]; exact Nat.le_trans hPl (by decide))
  have c1B := evB_ok c1
  have c2B := evB_ok c2
  have al := all_prim (fun _ => true) (P.map encS)
  have tt : (P.map encS).all (fun _ => true) = true := List.all_eq_true.mpr fun _ _ => rfl
  rw [tt] at al
  refine ⟨some (.val (.lst (O.map encT))), ?_⟩
  unfold body2
  generalize (A.comp [9] (.nm 9) (.seq (.var 4)) (.so (.call 0 (asL [.var 3, .var 9, .var 7]))) (.var 9)) = C1 at c1 c1B ⊢
  generalize (A.comp [10] (.nm 10) (.seq (.var 5)) .no (.call 12 (asL [.var 3, .var 4, .var 7, .var 10]))) = C2 at c2 c2B ⊢
  generalize List.map (fun _ => D.bl true) (P.map encS) = AL at c2B al
  generalize encS ps = S at *
  simp only [ssL, asL, psL, exs, ex, ev, evs, evbs, evAnd, evOr, evo, evc, evi, evB_var, evB_prim, evB_lit, evB_ty, evB_cmp, evB_call, evB_callK, evB_bin, evB_or, evB_and, evB_not, evB_tup, evB_lst, evB_idx, evB_mth, evB_cat, evB_comp, valAt, borAt, ownAt, List.map_cons, List.map_nil, rep0, rep1, rep2, rep3, rep4, rep5, rep6, rep7, rep8, rep9, rep10, rep11, rep12, rep13, drf_ty, List.cons_append, List.nil_append, Nat.reduceSub, List.getElem?_cons_zero, List.getElem?_cons_succ, of_some, of_none, bind_ok, bind_ex, bind_no, go_ok, go_ex, go_no, nox_ok, drf_int, drf_str, drf_bl, drf_non, drf_tup, drf_lst, drf_dct, idxD_lst, idxD_tup, idxD_dct, truD, binD, augD, bindP, bindPs, oSR, List.set_cons_zero, List.set_cons_succ, then_nx, then_rt, then_bk, then_ct, then_no, Option.map_some, Option.map_none, if_true, Bool.false_eq_true, if_false, decide_true, decide_false, f9, lo, c1B, eO, c2B, al, Bool.not_true]
def bodyL : Ss := (ssL [.asg (.nm 2) (.call 4 (asL [.var 0, .var 1])), .asg (.nm 3) (.call 7 (asL [.var 2, .lit (.int 4)])), .asg (.nm 4) (.call 9 (asL [.var 3, .tup (asL [])])), .asg (.nm 5) (.comp [6] (.nm 6) (.rng1 (.lit (.int 3))) .no (.call 8 (asL [.var 2, .var 3, .bin .Add (.lit (.int 1)) (.call 5 (asL [.var 2, .lit (.int 4)]))]))), .asg (.nm 5) (.bin .Add (.bin .Add (.var 5) (.comp [7] (.nm 7) (.seq (.var 5)) .no (.call 10 (asL [.var 2, .var 3, .var 7])))) (.lst (asL [.tup (asL [])]))), .for_ (.nm 7) (.seq (.var 5)) body2])
theorem body_ok (ns : List Int) (k : Nat) (hk : k < 4) (x2 x3 x4 x5 x8 : Option Sl) (x7 : Option D) (st : Store) :
    ∃ y2 y3 y4 y5 y7 y8 st', exs T13 bodyL [some (.val (.lst (ns.map .int))), some (.val (.int k)), x2, x3, x4, x5, none, x7.map .val, x8, none, none] st = .ok .nx [some (.val (.lst (ns.map .int))), some (.val (.int k)), y2, y3, y4, y5, none, (y7 : Option D).map .val, y8, none, none] st' := by
  obtain ⟨st1, p1, po1⟩ := purse_F ns k st (by omega)
  obtain ⟨cs, st2, c1, po2, c3, c4, c5⟩ := choices_F (most := 4) po1 (by decide) (by decide)
  have hl : cs.length ≤ 4 := c3
  have hb4 : ∀ p ∈ cs, 0 < p.2 ∧ p.2 ≤ 4 := fun p hp => by have := (c4 p hp).2; omega
  have lo : F9 [.lst (cs.map encP), .tup []] st2 = .ok (.lst ((lotsR (cs.map (base [])).reverse).map encT)) st2 := lots_F cs [] st2 (by omega) (by decide) hb4
  generalize hL : lotsR (cs.map (base [])).reverse = L at lo
  have f4 : T13.fn 4 = F4 := rfl
  have f5 : T13.fn 5 = F5 := rfl
  have f7 : T13.fn 7 = F7 := rfl
  have f8 : T13.fn 8 = F8 := rfl
  have f9 : T13.fn 9 = F9 := rfl
  have f10 : T13.fn 10 = F10 := rfl
  obtain ⟨ds, st3, g1, g2, g3⟩ := comp_st (T := T13) (own := [6]) (p := .nm 6) (it := .rng1 (.lit (.int 3))) (c := .no) (e := .call 8 (asL [.var 2, .var 3, .bin .Add (.lit (.int 1)) (.call 5 (asL [.var 2, .lit (.int 4)]))])) (env := [some (.val (.lst (ns.map .int))), some (.val (.int k)), some (.val (.ref st.length)), some (.val (.lst (cs.map encP))), some (.val (.lst (L.map encT))), x5, none, x7.map .val, x8, none, none]) (st := st2) (st1 := st2) (xs := rngD 0 3)
    (R := fun _ d => parts_of cs d) (I := fun j st' => PO st1 st.length (40 + 20 * j) st') rfl (by
      refine evi_rng1 ?_ (by decide)
      simp only [ssL, asL, psL, exs, ex, ev, evs, evbs, evAnd, evOr, evo, evc, evi, evB_var, evB_prim, evB_lit, evB_ty, evB_cmp, evB_call, evB_callK, evB_bin, evB_or, evB_and, evB_not, evB_tup, evB_lst, evB_idx, evB_mth, evB_cat, evB_comp, valAt, borAt, ownAt, List.map_cons, List.map_nil, rep0, rep1, rep2, rep3, rep4, rep5, rep6, rep7, rep8, rep9, rep10, rep11, rep12, rep13, drf_ty, List.cons_append, List.nil_append, Nat.reduceSub, List.getElem?_cons_zero, List.getElem?_cons_succ, of_some, of_none, bind_ok, bind_ex, bind_no, go_ok, go_ex, go_no, nox_ok, drf_int, drf_str, drf_bl, drf_non, drf_tup, drf_lst, drf_dct, idxD_lst, idxD_tup, idxD_dct, cmpD, truD, binD, augD, bindP, bindPs, oSR, List.set_cons_zero, List.set_cons_succ, then_nx, then_rt, then_bk, then_ct, then_no, Option.map_some, Option.map_none, if_true, Bool.false_eq_true, if_false, decide_true, decide_false]) (fun x hx j st' hj hI => by
      have hj3 : j < 3 := by rw [rngD_len 3 (by decide)] at hj; exact hj
      obtain ⟨r, st3, t1, t2, t3⟩ := take_F.go (many := 4) hI (by omega) (by decide)
      obtain ⟨ps, st4, q1, q2, q3⟩ := parts_F st1 st.length _ st3 cs (1 + r) t3 (by omega) (by omega) (by omega) (fun p hp => by have := hb4 p hp; omega)
      refine ⟨_, rfl, st', rfl, encS ps, st4, ?_, ⟨ps, rfl, q3⟩, q2.up (by omega)⟩
      have hw : wipeE [some (.val (.lst (ns.map .int))), some (.val (.int k)), some (.val (.ref st.length)), some (.val (.lst (cs.map encP))), some (.val (.lst (L.map encT))), x5, none, x7.map .val, x8, none, none] [6] = [some (.val (.lst (ns.map .int))), some (.val (.int k)), some (.val (.ref st.length)), some (.val (.lst (cs.map encP))), some (.val (.lst (L.map encT))), x5, none, x7.map .val, x8, none, none] := rfl
      rw [hw]
      simp only [ssL, asL, psL, exs, ex, ev, evs, evbs, evAnd, evOr, evo, evc, evi, evB_var, evB_prim, evB_lit, evB_ty, evB_cmp, evB_call, evB_callK, evB_bin, evB_or, evB_and, evB_not, evB_tup, evB_lst, evB_idx, evB_mth, evB_cat, evB_comp, valAt, borAt, ownAt, List.map_cons, List.map_nil, rep0, rep1, rep2, rep3, rep4, rep5, rep6, rep7, rep8, rep9, rep10, rep11, rep12, rep13, drf_ty, List.cons_append, List.nil_append, Nat.reduceSub, List.getElem?_cons_zero, List.getElem?_cons_succ, of_some, of_none, bind_ok, bind_ex, bind_no, go_ok, go_ex, go_no, nox_ok, drf_int, drf_str, drf_bl, drf_non, drf_tup, drf_lst, drf_dct, idxD_lst, idxD_tup, idxD_dct, cmpD, truD, binD, augD, bindP, bindPs, oSR, List.set_cons_zero, List.set_cons_succ, then_nx, then_rt, then_bk, then_ct, then_no, Option.map_some, Option.map_none, if_true, Bool.false_eq_true, if_false, decide_true, decide_false, f5, f8, t1, q1]
      rfl) (by rw [rngD_len 3 (by decide)]; decide) (po2.up (by omega))
  obtain ⟨P, rfl, hP, hPl⟩ := all2_parts g2
  rw [rngD_len 3 (by decide)] at g3 hPl
  have hPl : P.length = 3 := hPl
  obtain ⟨es, st4, n1, n2, n3⟩ := comp_st (T := T13) (own := [7]) (p := .nm 7) (it := .seq (.var 5)) (c := .no) (e := .call 10 (asL [.var 2, .var 3, .var 7])) (env := [some (.val (.lst (ns.map .int))), some (.val (.int k)), some (.val (.ref st.length)), some (.val (.lst (cs.map encP))), some (.val (.lst (L.map encT))), some (.val (.lst (P.map encS))), none, x7.map .val, x8, none, none]) (st := st3) (st1 := st3) (xs := P.map encS)
    (R := fun _ d => parts_of cs d) (I := fun j st' => PO st1 st.length (100 + 2 * j) st') (by cases x7 <;> rfl) (by simp only [ssL, asL, psL, exs, ex, ev, evs, evbs, evAnd, evOr, evo, evc, evi, evB_var, evB_prim, evB_lit, evB_ty, evB_cmp, evB_call, evB_callK, evB_bin, evB_or, evB_and, evB_not, evB_tup, evB_lst, evB_idx, evB_mth, evB_cat, evB_comp, valAt, borAt, ownAt, List.map_cons, List.map_nil, rep0, rep1, rep2, rep3, rep4, rep5, rep6, rep7, rep8, rep9, rep10, rep11, rep12, rep13, drf_ty, List.cons_append, List.nil_append, Nat.reduceSub, List.getElem?_cons_zero, List.getElem?_cons_succ, of_some, of_none, bind_ok, bind_ex, bind_no, go_ok, go_ex, go_no, nox_ok, drf_int, drf_str, drf_bl, drf_non, drf_tup, drf_lst, drf_dct, idxD_lst, idxD_tup, idxD_dct, cmpD, truD, binD, augD, bindP, bindPs, oSR, List.set_cons_zero, List.set_cons_succ, then_nx, then_rt, then_bk, then_ct, then_no, Option.map_some, Option.map_none, if_true, Bool.false_eq_true, if_false, decide_true, decide_false]) (fun x hx j st' hj hI => by
      rw [List.length_map, hPl] at hj
      obtain ⟨ps, hps, rfl⟩ := List.mem_map.mp hx
      obtain ⟨qs, st4, q1, q2, q3⟩ := near_ok hI (by omega) (hP ps hps) c5 c4 (by omega)
      refine ⟨_, rfl, st', rfl, encS qs, st4, ?_, ⟨qs, rfl, q3⟩, q2.up (by omega)⟩
      have hw : (wipeE [some (.val (.lst (ns.map .int))), some (.val (.int k)), some (.val (.ref st.length)), some (.val (.lst (cs.map encP))), some (.val (.lst (L.map encT))), some (.val (.lst (P.map encS))), none, x7.map .val, x8, none, none] [7]) = [some (.val (.lst (ns.map .int))), some (.val (.int k)), some (.val (.ref st.length)), some (.val (.lst (cs.map encP))), some (.val (.lst (L.map encT))), some (.val (.lst (P.map encS))), none, none, x8, none, none] := rfl
      rw [hw]
      have q1 : F10 [.ref st.length, .lst (cs.map encP), encS ps] st' = _ := q1
      simp only [ssL, asL, psL, exs, ex, ev, evs, evbs, evAnd, evOr, evo, evc, evi, evB_var, evB_prim, evB_lit, evB_ty, evB_cmp, evB_call, evB_callK, evB_bin, evB_or, evB_and, evB_not, evB_tup, evB_lst, evB_idx, evB_mth, evB_cat, evB_comp, valAt, borAt, ownAt, List.map_cons, List.map_nil, rep0, rep1, rep2, rep3, rep4, rep5, rep6, rep7, rep8, rep9, rep10, rep11, rep12, rep13, drf_ty, List.cons_append, List.nil_append, Nat.reduceSub, List.getElem?_cons_zero, List.getElem?_cons_succ, of_some, of_none, bind_ok, bind_ex, bind_no, go_ok, go_ex, go_no, nox_ok, drf_int, drf_str, drf_bl, drf_non, drf_tup, drf_lst, drf_dct, idxD_lst, idxD_tup, idxD_dct, cmpD, truD, binD, augD, bindP, bindPs, oSR, List.set_cons_zero, List.set_cons_succ, then_nx, then_rt, then_bk, then_ct, then_no, Option.map_some, Option.map_none, if_true, Bool.false_eq_true, if_false, decide_true, decide_false, f10, q1]
      rfl) (by rw [List.length_map, hPl]; decide) (g3.up (by omega))
  obtain ⟨Q, rfl, hQ, hQl⟩ := all2_parts n2
  rw [List.length_map, hPl] at hQl
  generalize hR : P ++ Q ++ [[]] = R
  have hRl : R.length ≤ 1000 := by rw [← hR, List.length_append, List.length_append, hPl, hQl]; decide
  have hRp : ∀ ps ∈ R, PartOf cs ps := fun ps h => by
    rw [← hR, List.mem_append, List.mem_append] at h
    rcases h with (h | h) | h
    · exact hP ps h
    · exact hQ ps h
    · rw [List.mem_singleton.mp h]; exact .all_nil cs
  have hRe : D.lst (P.map encS ++ Q.map encS ++ [.tup []]) = .lst (R.map encS) := by
    rw [← hR, List.map_append, List.map_append]; rfl
  obtain ⟨env', st', f1, dn, rs, y7, y8, e1, e2, rfl, rfl⟩ := forGo_inv (p := .nm 7) (f := fun e s => exs T13 body2 e s)
    (I := fun r env st' => ∃ (dn rs : List (List (Str × Int))) (y7 : Option D) (y8 : Option Sl), R = dn ++ rs ∧ r = rs.map encS ∧ env = [some (.val (.lst (ns.map .int))), some (.val (.int k)), some (.val (.ref st.length)), some (.val (.lst (cs.map encP))), some (.val (.lst (L.map encT))), some (.val (.lst (R.map encS))), none, y7.map .val, y8, none, none] ∧ st' = st4)
    (R.map encS) [some (.val (.lst (ns.map .int))), some (.val (.int k)), some (.val (.ref st.length)), some (.val (.lst (cs.map encP))), some (.val (.lst (L.map encT))), some (.val (.lst (R.map encS))), none, x7.map .val, x8, none, none] st4 (fun x r env st' hI => by
      obtain ⟨dn, rs, y7, y8, e1, e2, rfl, rfl⟩ := hI
      cases rs with
      | nil => cases e2
      | cons ps rs =>
        rw [List.map_cons] at e2
        cases e2
        have hp := hRp ps (by rw [e1]; exact List.mem_append_right _ List.mem_cons_self)
        obtain ⟨z8, hz⟩ := one_ok (P := R) (some (.val (.lst (ns.map .int)))) (some (.val (.int k))) (some (.val (.ref st.length))) none y8 st' hL.symm (by omega) c5 c4 hRp hRl hp
        exact ⟨_, rfl, _, _, .inl hz, dn ++ [ps], rs, some (encS ps), z8, by rw [e1]; simp, rfl, rfl, rfl⟩) ⟨[], R, x7, x8, rfl, rfl, rfl, rfl⟩
  refine ⟨some (.val (.ref st.length)), some (.val (.lst (cs.map encP))), some (.val (.lst (L.map encT))), some (.val (.lst (R.map encS))), y7, y8, st', ?_⟩
  have p0 : small 0 = true := by decide
  have p1s : small 1 = true := by decide
  have w1 : small ((P.map encS).length + (Q.map encS).length) = true := decide_eq_true (by rw [List.length_map, List.length_map, hPl, hQl]; decide)
  have w2 : small ((P.map encS ++ Q.map encS).length + 1) = true := decide_eq_true (by rw [List.length_append, List.length_map, List.length_map, hPl, hQl]; decide)
  unfold bodyL
  generalize (A.comp [6] (.nm 6) (.rng1 (.lit (.int 3))) .no (.call 8 (asL [.var 2, .var 3, .bin .Add (.lit (.int 1)) (.call 5 (asL [.var 2, .lit (.int 4)]))]))) = C6 at g1 ⊢
  generalize (A.comp [7] (.nm 7) (.seq (.var 5)) .no (.call 10 (asL [.var 2, .var 3, .var 7]))) = C7 at n1 ⊢
  generalize body2 = B2 at f1 ⊢
  simp only [ssL, asL, psL, exs, ex, ev, evs, evbs, evAnd, evOr, evo, evc, evi, evB_var, evB_prim, evB_lit, evB_ty, evB_cmp, evB_call, evB_callK, evB_bin, evB_or, evB_and, evB_not, evB_tup, evB_lst, evB_idx, evB_mth, evB_cat, evB_comp, valAt, borAt, ownAt, List.map_cons, List.map_nil, rep0, rep1, rep2, rep3, rep4, rep5, rep6, rep7, rep8, rep9, rep10, rep11, rep12, rep13, drf_ty, List.cons_append, List.nil_append, Nat.reduceSub, List.getElem?_cons_zero, List.getElem?_cons_succ, of_some, of_none, bind_ok, bind_ex, bind_no, go_ok, go_ex, go_no, nox_ok, drf_int, drf_str, drf_bl, drf_non, drf_tup, drf_lst, drf_dct, idxD_lst, idxD_tup, idxD_dct, cmpD, truD, binD, augD, bindP, bindPs, oSR, List.set_cons_zero, List.set_cons_succ, then_nx, then_rt, then_bk, then_ct, then_no, Option.map_some, Option.map_none, if_true, Bool.false_eq_true, if_false, decide_true, decide_false, f4, f7, f9, p1, c1, lo, g1, n1, p0, p1s, List.length_cons, List.length_nil, w1, w2, hRe, f1]
def IL (ns : List Int) (r : List D) (env : L3.Env) (st : Store) : Prop := ∃ (ks : List Nat) (x1 x2 x3 x4 x5 x8 : Option Sl) (x7 : Option D), r = ks.map (fun (k : Nat) => D.int (k : Int)) ∧ (∀ k ∈ ks, k < 4) ∧
  env = [some (.val (.lst (ns.map .int))), x1, x2, x3, x4, x5, none, x7.map .val, x8, none, none]
theorem law_ok (ns : List Int) : ∃ st', F13 [.lst (ns.map .int)] [] = .ok (.bl true) st' := by
  obtain ⟨m, hm4, hev⟩ := ev_turns (T := T13) (env := [some (.val (.lst (ns.map .int))), none, none, none, none, none, none, none, none, none, none]) (l := ns.map .int) 4 (by decide) (by decide) [] rfl
  obtain ⟨env', st', f1, ks, x1, x2, x3, x4, x5, x8, x7, _, _, rfl⟩ := forGo_inv (p := .nm 1) (f := fun e s => exs T13 bodyL e s) (I := IL ns) (rngD 0 (m : Int)) [some (.val (.lst (ns.map .int))), none, none, none, none, none, none, none, none, none, none] [] (fun x r env st hI => by
      obtain ⟨ks, x1, x2, x3, x4, x5, x8, x7, hr, hk, rfl⟩ := hI
      cases ks with
      | nil => cases hr
      | cons k ks =>
        rw [List.map_cons] at hr
        cases hr
        obtain ⟨y2, y3, y4, y5, y7, y8, st', hb⟩ := body_ok ns k (hk k List.mem_cons_self) x2 x3 x4 x5 x8 x7 st
        exact ⟨_, rfl, _, st', .inl hb, ks, _, _, _, _, _, _, _, rfl, fun q hq => hk q (List.mem_cons_of_mem _ hq), rfl⟩)
    ⟨List.range m, none, none, none, none, none, none, none, rng_nat m, fun k hk => by have := List.mem_range.mp hk; omega, rfl⟩
  refine ⟨st', ?_⟩
  have c1 : F1 [.tup [], .tup []] st' = .ok (.bl true) st' := meet_F [] [] st' (by decide) (by decide) .nil
  have c2 : F0 [.lst [], .tup [], .tup []] st' = .ok (.bl true) st' := isIn_F [] [] [] (.lst []) st' (.inl rfl) (by decide) (by decide) .nil
  have c3 : F3 [.lst [], .tup [], .tup []] st' = .ok (.bl false) st' := by
    have := lesser_F [] [] [] (.lst []) st' (.inl rfl) (by decide) (by decide) (by decide) .nil (fun _ h => by cases h) (fun _ h => by cases h)
    have e : lesserB [] [] [] = false := by decide +kernel
    rw [e] at this
    exact this
  have g1 : T13.fn 1 = F1 := rfl
  have g0 : T13.fn 0 = F0 := rfl
  have g3 : T13.fn 3 = F3 := rfl
  have p0 : small 0 = true := by decide
  have i1 : cmpD .Is (.bl true) (.bl true) = some true := rfl
  have i2 : cmpD .Is (.bl false) (.bl false) = some true := rfl
  have ub : b13 = (ssL [.for_ (.nm 1) (.rng1 (.prim .max2 (asL [.lit (.int 1), .prim .min2 (asL [.lit (.int 4), .prim .len (asL [.var 0])])]))) bodyL, .ret (.andL (asL [.cmp .Is (.call 1 (asL [.tup (asL []), .tup (asL [])])) (.lit (.bl true)), .cmp .Is (.call 0 (asL [.lst (asL []), .tup (asL []), .tup (asL [])])) (.lit (.bl true)), .cmp .Is (.call 3 (asL [.lst (asL []), .tup (asL []), .tup (asL [])])) (.lit (.bl false))]))]) := rfl
  unfold F13 runF
  rw [ub]
  rw [if_pos (show [D.lst (ns.map D.int)].length = 1 from rfl)]
  generalize bodyL = Bd at f1 ⊢
  have hev : evi T13 false (.rng1 (.prim .max2 (asL [.lit (.int 1), .prim .min2 (asL [.lit (.int 4), .prim .len (asL [.var 0])])]))) [some (.val (.lst (ns.map .int))), none, none, none, none, none, none, none, none, none, none] [] = _ := hev
  generalize (It.rng1 (.prim .max2 (asL [.lit (.int 1), .prim .min2 (asL [.lit (.int 4), .prim .len (asL [.var 0])])]))) = It1 at hev ⊢
  simp only [ssL, asL, psL, exs, ex, ev, evs, evbs, evAnd, evOr, evo, evc, evi, evB_var, evB_prim, evB_lit, evB_ty, evB_cmp, evB_call, evB_callK, evB_bin, evB_or, evB_and, evB_not, evB_tup, evB_lst, evB_idx, evB_mth, evB_cat, evB_comp, valAt, borAt, ownAt, List.map_cons, List.map_nil, rep0, rep1, rep2, rep3, rep4, rep5, rep6, rep7, rep8, rep9, rep10, rep11, rep12, rep13, drf_ty, List.cons_append, List.nil_append, Nat.reduceSub, List.getElem?_cons_zero, List.getElem?_cons_succ, of_some, of_none, bind_ok, bind_ex, bind_no, go_ok, go_ex, go_no, nox_ok, drf_int, drf_str, drf_bl, drf_non, drf_tup, drf_lst, drf_dct, idxD_lst, idxD_tup, idxD_dct, truD, binD, augD, bindP, bindPs, oSR, List.set_cons_zero, List.set_cons_succ, then_nx, then_rt, then_bk, then_ct, then_no, Option.map_some, Option.map_none, if_true, Bool.false_eq_true, if_false, decide_true, decide_false, hev, f1, c1, c2, c3, g1, g0, g3, p0, i1, i2, List.length_nil]
end LW
theorem LW.holds : PySem.Challenge.rw_joinedrun_k03_parts.Holds :=
  LW.holds_of fun ns _ => LW.law_ok ns
end

theorem PySem.Challenge.cw_joinedrun_k03_parts_holds : PySem.Challenge.rw_joinedrun_k03_parts.Holds := by
  exact LW.holds
