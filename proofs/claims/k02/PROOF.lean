import PyProof.Rows.All
import HandS.ForMost
import HandS.Flow
import HandS.IsInst
import HandS.More
import KE.KDictKeyed
import KE.KDictPairs
import KE.SortData
import HandS.TupAny
import HandS.ListEq
import HandS.RaiseMore
import HandS.Style
import HandS.CallLocal
import HandS.Zip
import HandS.Codes
import HandS.Defaults
import HandS.HeadHook2
import HandS.Ends
import OpenK.AllK
import Wide.FinOn
import HandS.ForList
import PySem.Challenge.RW_changewise_k02_whole_kinds_of_anything
set_option Elab.async false
set_option linter.all false
set_option maxRecDepth 100000
set_option maxHeartbeats 1000000
/-! Ev1: own values, the memory of cells, and what they stand for in the abstract heap. -/
namespace Ev
open PySem PySem.Spec PyProof.Rows L2

inductive D where
  | non
  | bl (b : Bool)
  | int (i : Int)
  | str (s : Str)
  | tup (l : List D)
  | lst (l : List D)
  | rol (l : List D)
  | dct (l : List (D × D))
  | obj (n : Nat)
  | fn (x : Str)
  | ty (n : String)
  deriving Inhabited

inductive Cell where
  | lst (l : List D)
  | dct (l : List (D × D))
  deriving Inhabited
abbrev Mem := List Cell

/-! ### keys -/
mutual
def D.nk : D → NestedKey
  | .bl b => .num (if b then 1 else 0)
  | .int i => .num i
  | .str s => .text s
  | .tup l => .tup (nks l)
  | _ => .none
def nks : List D → List NestedKey
  | [] => []
  | d :: r => d.nk :: nks r
end
/-- leaves as keys: whole numbers and texts -/
def D.leaf : D → Bool
  | .int _ => true
  | .str _ => true
  | _ => false
mutual
def D.tkey : Nat → D → Bool
  | _, .int _ => true
  | _, .str _ => true
  | 0, _ => false
  | n + 1, .tup l => tkeys n l
  | _, _ => false
def tkeys : Nat → List D → Bool
  | _, [] => true
  | n, d :: r => d.tkey n && tkeys n r
end
def D.isTup : D → Bool
  | .tup _ => true
  | _ => false
def D.tk (d : D) : Bool := d.isTup && d.tkey 8

/-- the cells' addresses; lists that are being made (no value knows of them) -/
structure Rho where
  c : List Addr
  gh : List Addr
instance : Membership Addr Rho := ⟨fun ρ a => a ∈ ρ.c ∨ a ∈ ρ.gh⟩
theorem Rho.not_mem {ρ : Rho} {a : Addr} : a ∉ ρ ↔ a ∉ ρ.c ∧ a ∉ ρ.gh := not_or
def Rho.push (ρ : Rho) (p : Addr) : Rho := ⟨ρ.c ++ [p], ρ.gh⟩
def Rho.cut (ρ : Rho) (m : Nat) : Rho := ⟨ρ.c.take m, ρ.gh⟩
def Rho.ghost (ρ : Rho) (p : Addr) : Rho := ⟨ρ.c, p :: ρ.gh⟩
structure Gx where
  P : Program
  w : World
  K : PySem.W.Frag
  mg : Str → Option Value
def gx (X : Cx) : Gx := ⟨X.prog, X.w, X.K, X.mg⟩

/-- a stands still: it is tracked and no cell; or the module's own -/
def AtT (g : Gx) (ρ : Rho) (H : Hp) (a : Addr) (xs : List V) : Prop :=
  (a ∉ ρ ∧ Rd H a (.tup xs)) ∨
    ∃ (o : Obj) (its : Array Value) (n : Nat), g.K.lookup a = some o ∧ o.cls = .type "tuple" ∧ o.data = .seq its n ∧ its.size ≤ sizeLine ∧ Vals xs its.toList
def AtL (g : Gx) (ρ : Rho) (H : Hp) (a : Addr) (xs : List V) : Prop :=
  (a ∉ ρ ∧ Rd H a (.lst xs)) ∨
    ∃ (o : Obj) (its : Array Value) (n : Nat), g.K.lookup a = some o ∧ o.cls = .type "list" ∧ o.dict = none ∧ o.data = .seq its n ∧ its.size ≤ sizeLine ∧ Vals xs its.toList
def xo (a : Addr) (o : Obj) : HO := .ext fun h => h.get? a = some o
def AtO (g : Gx) (ρ : Rho) (H : Hp) (a : Addr) (o : Obj) : Prop := (a ∉ ρ ∧ H a = some (xo a o)) ∨ g.K.lookup a = some o
theorem AtT.seq {g : Gx} {ρ : Rho} {H : Hp} {a : Addr} {xs : List V} (h : AtT g ρ H a xs) : SqT g.K H a xs := by
  rcases h with h | h
  · exact .inl h.2
  · exact .inr h
theorem AtL.seq {g : Gx} {ρ : Rho} {H : Hp} {a : Addr} {xs : List V} (h : AtL g ρ H a xs) : SqL g.K H a xs := by
  rcases h with h | h
  · exact .inl h.2
  · exact .inr h

/-- keys of a dict: all leaves, or all tuples; unlike ones -/
def DOk (kvs : List (D × D)) : Prop := ((∀ p ∈ kvs, p.1.leaf = true) ∨ (∀ p ∈ kvs, p.1.tk = true)) ∧ (kvs.map fun p => p.1.nk).Nodup

mutual
inductive RD (g : Gx) (ρ : Rho) (H : Hp) : D → V → Prop
  | non : RD g ρ H .non .non
  | bl (b : Bool) : RD g ρ H (.bl b) (.bl b)
  | int (i : Int) : RD g ρ H (.int i) (.int i)
  | str (s : Str) : RD g ρ H (.str s) (.str s)
  | tup {a : Addr} {vs : List V} {ds : List D} : AtT g ρ H a vs → RDs g ρ H ds vs → RD g ρ H (.tup ds) (.ref a)
  | lst {a : Addr} {vs : List V} {ds : List D} : a ∉ ρ → H a = some (.lst vs) → RDs g ρ H ds vs → RD g ρ H (.lst ds) (.ref a)
  | rol {a : Addr} {vs : List V} {ds : List D} : AtL g ρ H a vs → RDs g ρ H ds vs → RD g ρ H (.rol ds) (.ref a)
  | dct {a : Addr} {o : Obj} {es : Array DictEntry} {ep : Nat} {kvs : List (D × D)} : AtO g ρ H a o → (a == sysModules) = false → o.ExactDict → o.data = .dict es ep → DOk kvs → RDe g ρ H kvs es.toList → RD g ρ H (.dct kvs) (.ref a)
  | obj {n : Nat} {a : Addr} : ρ.c[n]? = some a → RD g ρ H (.obj n) (.ref a)
  | fn {x : Str} {f : Addr} : g.mg x = some (.ref f) → PySem.W.keepIn g.K (.ref f) = true → RD g ρ H (.fn x) (.ref f)
  | ty (n : String) : RD g ρ H (.ty n) (.ty n)
inductive RDs (g : Gx) (ρ : Rho) (H : Hp) : List D → List V → Prop
  | nil : RDs g ρ H [] []
  | cons {d : D} {v : V} {ds : List D} {vs : List V} : RD g ρ H d v → RDs g ρ H ds vs → RDs g ρ H (d :: ds) (v :: vs)
inductive RDe (g : Gx) (ρ : Rho) (H : Hp) : List (D × D) → List DictEntry → Prop
  | nil : RDe g ρ H [] []
  | cons {k v : D} {e : DictEntry} {vk vv : V} {kvs : List (D × D)} {es : List DictEntry} : RD g ρ H k vk → RelV vk e.key → e.hash = k.nk.hash g.w → RD g ρ H v vv → RelV vv e.val →
      RDe g ρ H kvs es → RDe g ρ H ((k, v) :: kvs) (e :: es)
end

/-- all that stands still stays; the cells stay the cells -/
structure ExtW (ρ : Rho) (H : Hp) (ρ' : Rho) (H' : Hp) : Prop where
  keep : ∀ a o, H a = some o → a ∉ ρ → H' a = some o ∧ a ∉ ρ'
  pre : ρ.c <+: ρ'.c
/-- and the lists that are being made are not touched -/
structure Ext (ρ : Rho) (H : Hp) (ρ' : Rho) (H' : Hp) : Prop extends ExtW ρ H ρ' H' where
  gh : ρ'.gh = ρ.gh
  gk : ∀ a ∈ ρ.gh, H' a = H a
theorem ExtW.refl (ρ : Rho) (H : Hp) : ExtW ρ H ρ H := ⟨fun _ _ h n => ⟨h, n⟩, List.prefix_refl _⟩
theorem ExtW.trans {ρ ρ' ρ'' : Rho} {H H' H'' : Hp} (a : ExtW ρ H ρ' H') (b : ExtW ρ' H' ρ'' H'') : ExtW ρ H ρ'' H'' :=
  ⟨fun x o h n => let ⟨h1, n1⟩ := a.keep x o h n; b.keep x o h1 n1, a.pre.trans b.pre⟩
theorem Ext.refl (ρ : Rho) (H : Hp) : Ext ρ H ρ H := ⟨.refl _ _, rfl, fun _ _ => rfl⟩
theorem Ext.trans {ρ ρ' ρ'' : Rho} {H H' H'' : Hp} (a : Ext ρ H ρ' H') (b : Ext ρ' H' ρ'' H'') : Ext ρ H ρ'' H'' :=
  ⟨a.toExtW.trans b.toExtW, b.gh.trans a.gh, fun x h => (b.gk x (by rw [a.gh]; exact h)).trans (a.gk x h)⟩
section
variable {g : Gx} {ρ ρ' : Rho} {H H' : Hp}
theorem AtT.extW {a : Addr} {xs : List V} (e : ExtW ρ H ρ' H') (h : AtT g ρ H a xs) : AtT g ρ' H' a xs := by
  rcases h with ⟨n, h | ⟨o, h⟩⟩ | h
  · obtain ⟨h1, n1⟩ := e.keep _ _ h n; exact .inl ⟨n1, .inl h1⟩
  · obtain ⟨h1, n1⟩ := e.keep _ _ h n; exact .inl ⟨n1, .inr ⟨o, h1⟩⟩
  · exact .inr h
theorem AtL.extW {a : Addr} {xs : List V} (e : ExtW ρ H ρ' H') (h : AtL g ρ H a xs) : AtL g ρ' H' a xs := by
  rcases h with ⟨n, h | ⟨o, h⟩⟩ | h
  · obtain ⟨h1, n1⟩ := e.keep _ _ h n; exact .inl ⟨n1, .inl h1⟩
  · obtain ⟨h1, n1⟩ := e.keep _ _ h n; exact .inl ⟨n1, .inr ⟨o, h1⟩⟩
  · exact .inr h
theorem AtO.extW {a : Addr} {o : Obj} (e : ExtW ρ H ρ' H') (h : AtO g ρ H a o) : AtO g ρ' H' a o := by
  rcases h with ⟨n, h⟩ | h
  · obtain ⟨h1, n1⟩ := e.keep _ _ h n; exact .inl ⟨n1, h1⟩
  · exact .inr h
theorem pre_get {ρ ρ' : List Addr} (h : ρ <+: ρ') {n : Nat} {a : Addr} (e : ρ[n]? = some a) : ρ'[n]? = some a := by
  obtain ⟨t, rfl⟩ := h
  rw [List.getElem?_append_left (List.getElem?_eq_some_iff.mp e).1]; exact e
mutual
theorem RD.extW (e : ExtW ρ H ρ' H') : ∀ {d : D} {v : V}, RD g ρ H d v → RD g ρ' H' d v
  | _, _, .non => .non
  | _, _, .bl b => .bl b
  | _, _, .int i => .int i
  | _, _, .str s => .str s
  | _, _, .tup h r => .tup (h.extW e) (RDs.extW e r)
  | _, _, .lst n h r => .lst (e.keep _ _ h n).2 (e.keep _ _ h n).1 (RDs.extW e r)
  | _, _, .rol h r => .rol (h.extW e) (RDs.extW e r)
  | _, _, .dct h z a b c r => .dct (h.extW e) z a b c (RDe.extW e r)
  | _, _, .obj h => .obj (pre_get e.pre h)
  | _, _, .fn h k => .fn h k
  | _, _, .ty n => .ty n
theorem RDs.extW (e : ExtW ρ H ρ' H') : ∀ {d : List D} {v : List V}, RDs g ρ H d v → RDs g ρ' H' d v
  | _, _, .nil => .nil
  | _, _, .cons a b => .cons (RD.extW e a) (RDs.extW e b)
theorem RDe.extW (e : ExtW ρ H ρ' H') : ∀ {d : List (D × D)} {v : List DictEntry}, RDe g ρ H d v → RDe g ρ' H' d v
  | _, _, .nil => .nil
  | _, _, .cons a b c d f r => .cons (RD.extW e a) b c (RD.extW e d) f (RDe.extW e r)
end
theorem RDs.length : ∀ {ds : List D} {vs : List V}, RDs g ρ H ds vs → ds.length = vs.length
  | _, _, .nil => rfl
  | _, _, .cons _ r => congrArg Nat.succ r.length
theorem RDs.append : ∀ {ds es : List D} {vs us : List V}, RDs g ρ H ds vs → RDs g ρ H es us → RDs g ρ H (ds ++ es) (vs ++ us)
  | _, _, _, _, .nil, q => q
  | _, _, _, _, .cons a r, q => .cons a (r.append q)
theorem RDs.take : ∀ {ds : List D} {vs : List V} (n : Nat), RDs g ρ H ds vs → RDs g ρ H (ds.take n) (vs.take n)
  | _, _, 0, _ => by simpa using .nil
  | _, _, _ + 1, .nil => .nil
  | _, _, n + 1, .cons a r => .cons a (r.take n)
theorem RDs.drop : ∀ {ds : List D} {vs : List V} (n : Nat), RDs g ρ H ds vs → RDs g ρ H (ds.drop n) (vs.drop n)
  | _, _, 0, r => r
  | _, _, _ + 1, .nil => .nil
  | _, _, n + 1, .cons a r => r.drop n
theorem RDs.get : ∀ {ds : List D} {vs : List V} {i : Nat} {d : D}, RDs g ρ H ds vs → ds[i]? = some d → ∃ v, vs[i]? = some v ∧ RD g ρ H d v
  | _, _, _, _, .nil, e => by simp at e
  | _, _, 0, _, .cons a _, e => by simp at e; subst e; exact ⟨_, rfl, a⟩
  | _, _, i + 1, _, .cons _ r, e => by
    obtain ⟨v, h1, h2⟩ := r.get (i := i) (by simpa using e)
    exact ⟨v, by simpa using h1, h2⟩
theorem RDs.getV : ∀ {ds : List D} {vs : List V} {i : Nat} {v : V}, RDs g ρ H ds vs → vs[i]? = some v → ∃ d, ds[i]? = some d ∧ RD g ρ H d v
  | _, _, _, _, .nil, e => by simp at e
  | _, _, 0, _, .cons a _, e => by simp at e; subst e; exact ⟨_, rfl, a⟩
  | _, _, i + 1, _, .cons _ r, e => by
    obtain ⟨v, h1, h2⟩ := r.getV (i := i) (by simpa using e)
    exact ⟨v, by simpa using h1, h2⟩
theorem RDs.set : ∀ {ds : List D} {vs : List V} (i : Nat) {d : D} {v : V}, RDs g ρ H ds vs → RD g ρ H d v → RDs g ρ H (ds.set i d) (vs.set i v)
  | _, _, _, _, _, .nil, _ => by simpa using .nil
  | _, _, 0, _, _, .cons _ r, q => .cons q r
  | _, _, i + 1, _, _, .cons a r, q => .cons a (r.set i q)
theorem RDs.reverse : ∀ {ds : List D} {vs : List V}, RDs g ρ H ds vs → RDs g ρ H ds.reverse vs.reverse
  | _, _, .nil => .nil
  | _, _, .cons a r => by rw [List.reverse_cons, List.reverse_cons]; exact r.reverse.append (.cons a .nil)
end

section
variable {g : Gx} {ρ ρ' : Rho} {H H' : Hp}
theorem AtT.ext (e : Ext ρ H ρ' H') {a : Addr} {xs : List V} (h : AtT g ρ H a xs) : AtT g ρ' H' a xs := h.extW e.toExtW
theorem AtL.ext (e : Ext ρ H ρ' H') {a : Addr} {xs : List V} (h : AtL g ρ H a xs) : AtL g ρ' H' a xs := h.extW e.toExtW
theorem AtO.ext (e : Ext ρ H ρ' H') {a : Addr} {o : Obj} (h : AtO g ρ H a o) : AtO g ρ' H' a o := h.extW e.toExtW
theorem RD.ext (e : Ext ρ H ρ' H') {d : D} {v : V} (h : RD g ρ H d v) : RD g ρ' H' d v := h.extW e.toExtW
theorem RDs.ext (e : Ext ρ H ρ' H') {d : List D} {v : List V} (h : RDs g ρ H d v) : RDs g ρ' H' d v := h.extW e.toExtW
theorem RDe.ext (e : Ext ρ H ρ' H') {d : List (D × D)} {v : List DictEntry} (h : RDe g ρ H d v) : RDe g ρ' H' d v := h.extW e.toExtW
end
/-! ### refs of a value: all below m -/
mutual
def D.und (m : Nat) : D → Bool
  | .obj n => decide (n < m)
  | .tup l => unds m l
  | .lst l => unds m l
  | .rol l => unds m l
  | .dct l => unde m l
  | _ => true
def unds (m : Nat) : List D → Bool
  | [] => true
  | d :: r => d.und m && unds m r
def unde (m : Nat) : List (D × D) → Bool
  | [] => true
  | (k, v) :: r => k.und m && v.und m && unde m r
end
def Cell.und (m : Nat) : Cell → Bool
  | .lst l => unds m l
  | .dct l => unde m l
section
variable {g : Gx} {ρ : Rho} {H : Hp}
mutual
theorem RD.belowC : ∀ {d : D} {v : V}, RD g ρ H d v → d.und ρ.c.length = true
  | _, _, .non => rfl
  | _, _, .bl b => rfl
  | _, _, .int i => rfl
  | _, _, .str s => rfl
  | _, _, .tup h r => by simp only [D.und]; exact RDs.belowC r
  | _, _, .lst n h r => by simp only [D.und]; exact RDs.belowC r
  | _, _, .rol h r => by simp only [D.und]; exact RDs.belowC r
  | _, _, .dct h z a b c r => by simp only [D.und]; exact RDe.belowC r
  | _, _, .obj h => by simp only [D.und, decide_eq_true_eq]; exact (List.getElem?_eq_some_iff.mp h).1
  | _, _, .fn h k => rfl
  | _, _, .ty n => rfl
theorem RDs.belowC : ∀ {d : List D} {v : List V}, RDs g ρ H d v → unds ρ.c.length d = true
  | _, _, .nil => rfl
  | _, _, .cons a b => by simp only [unds, Bool.and_eq_true]; exact ⟨RD.belowC a, RDs.belowC b⟩
theorem RDe.belowC : ∀ {d : List (D × D)} {v : List DictEntry}, RDe g ρ H d v → unde ρ.c.length d = true
  | _, _, .nil => rfl
  | _, _, .cons a b c d f r => by simp only [unde, Bool.and_eq_true]; exact ⟨⟨RD.belowC a, RD.belowC d⟩, RDe.belowC r⟩
end
end
/-! ### the memory stands for the heap -/
def CellOk (g : Gx) (ρ : Rho) (H : Hp) (a : Addr) : Cell → Prop
  | .lst ds => ∃ vs, H a = some (.lst vs) ∧ RDs g ρ H ds vs
  | .dct kvs => ∃ (o : Obj) (es : Array DictEntry) (ep : Nat), H a = some (xo a o) ∧ (a == sysModules) = false ∧ o.ExactDict ∧ o.data = .dict es ep ∧ DOk kvs ∧ RDe g ρ H kvs es.toList
theorem unds_all {m : Nat} : ∀ {l : List D}, unds m l = l.all (·.und m)
  | [] => rfl
  | d :: r => by simp only [unds, List.all_cons, unds_all]
theorem unds_append {m : Nat} {a b : List D} (h : unds m a = true) (k : unds m b = true) : unds m (a ++ b) = true := by
  rw [unds_all] at *
  rw [List.all_append, h, k]; rfl
theorem unds_set {m : Nat} {a : List D} (h : unds m a = true) {x : D} (k : x.und m = true) (j : Nat) : unds m (a.set j x) = true := by
  rw [unds_all, List.all_eq_true] at *
  intro y hy
  rcases List.mem_or_eq_of_mem_set hy with q | q
  · exact h y q
  · rw [q]; exact k
structure Rep (g : Gx) (ρ : Rho) (M : Mem) (H : Hp) : Prop where
  len : ρ.c.length = M.length
  nd : ρ.c.Nodup
  cell : ∀ (n : Nat) (a : Addr) (c : Cell), ρ.c[n]? = some a → M[n]? = some c → CellOk g ρ H a c
  gh : ∀ a ∈ ρ.gh, a ∉ ρ.c ∧ ∃ o, H a = some o
  un : ∀ (n : Nat) (c : Cell), M[n]? = some c → c.und n = true
section
variable {g : Gx} {ρ ρ' : Rho} {H H' : Hp} {M M' : Mem}
theorem CellOk.some {a : Addr} {c : Cell} (h : CellOk g ρ H a c) : ∃ o, H a = some o := by
  cases c with
  | lst ds => obtain ⟨vs, h, _⟩ := h; exact ⟨_, h⟩
  | dct kvs => obtain ⟨o, es, ep, h, _⟩ := h; exact ⟨_, h⟩
theorem Rep.at_ (r : Rep g ρ M H) {n : Nat} {a : Addr} (h : ρ.c[n]? = some a) : ∃ c, M[n]? = some c ∧ CellOk g ρ H a c := by
  have hl : n < M.length := by rw [← r.len]; exact (List.getElem?_eq_some_iff.mp h).1
  exact ⟨M[n], by simp [hl], r.cell n a _ h (by simp [hl])⟩
theorem Rep.mem (r : Rep g ρ M H) {a : Addr} (h : a ∈ ρ) : ∃ o, H a = some o := by
  rcases h with h | h
  · obtain ⟨n, hn⟩ := List.mem_iff_getElem?.mp h
    obtain ⟨c, _, hc⟩ := r.at_ hn
    exact hc.some
  · exact (r.gh a h).2
theorem Rep.fresh (r : Rep g ρ M H) {a : Addr} (h : H a = none) : a ∉ ρ := fun q => by
  obtain ⟨o, e⟩ := r.mem q
  rw [h] at e; cases e
theorem mem_c {n : Nat} {a : Addr} (h : ρ.c[n]? = some a) : a ∈ ρ := .inl (List.mem_of_getElem? h)
theorem Rep.ne (r : Rep g ρ M H) {a p : Addr} (h : a ∈ ρ) (hp : H p = none) : a ≠ p := fun q => by
  obtain ⟨u, e⟩ := r.mem h; rw [q, hp] at e; cases e
/-- a new object that is no cell -/
theorem Ext.new {o : HO} {p : Addr} (r : Rep g ρ M H) (h : H p = none) : Ext ρ H ρ (upd H p o) :=
  ⟨⟨fun a u e n => ⟨by rw [upd_ne (ne_of_none e h)]; exact e, n⟩, List.prefix_refl _⟩, rfl, fun a ha => upd_ne (r.ne (.inr ha) h)⟩
theorem CellOk.extW {a : Addr} {c : Cell} (e : ExtW ρ H ρ' H') (k : H' a = H a) (h : CellOk g ρ H a c) : CellOk g ρ' H' a c := by
  cases c with
  | lst ds => obtain ⟨vs, h, r⟩ := h; exact ⟨vs, by rw [k]; exact h, r.extW e⟩
  | dct kvs => obtain ⟨o, es, ep, h, z, a, b, c, r⟩ := h; exact ⟨o, es, ep, by rw [k]; exact h, z, a, b, c, r.extW e⟩
theorem Rep.new {o : HO} {p : Addr} (r : Rep g ρ M H) (h : H p = none) : Rep g ρ M (upd H p o) :=
  ⟨r.len, r.nd, fun n a c h1 h2 => (r.cell n a c h1 h2).extW (Ext.new r h).toExtW (upd_ne (r.ne (mem_c h1) h)),
    fun a ha => ⟨(r.gh a ha).1, by rw [upd_ne (r.ne (.inr ha) h)]; exact (r.gh a ha).2⟩, r.un⟩
/-- a new cell -/
theorem Ext.cell {o : HO} {p : Addr} (r : Rep g ρ M H) (h : H p = none) : Ext ρ H (ρ.push p) (upd H p o) :=
  ⟨⟨fun a u e n => ⟨by rw [upd_ne (ne_of_none e h)]; exact e, fun q => by
    rcases q with q | q
    · rcases List.mem_append.mp q with q | q
      · exact n (.inl q)
      · rw [List.mem_singleton] at q; rw [q, h] at e; cases e
    · exact n (.inr q)⟩, List.prefix_append _ _⟩, rfl, fun a ha => upd_ne (r.ne (.inr ha) h)⟩
theorem Rep.push {o : HO} {p : Addr} {c : Cell} (r : Rep g ρ M H) (h : H p = none) (hc : CellOk g (ρ.push p) (upd H p o) p c) (hu : c.und M.length = true) : Rep g (ρ.push p) (M ++ [c]) (upd H p o) := by
  refine ⟨by simp [Rho.push, r.len], List.nodup_append.mpr ⟨r.nd, by simp, fun a ha b hb => ?_⟩, fun n a c' h1 h2 => ?_, fun a ha => ⟨fun q => ?_, by rw [upd_ne (r.ne (.inr ha) h)]; exact (r.gh a ha).2⟩, fun n c' h2 => ?_⟩
  · rw [List.mem_singleton] at hb; subst hb; rintro rfl; exact r.fresh h (.inl ha)
  · have h1 : (ρ.c ++ [p])[n]? = some a := h1
    by_cases hn : n < ρ.c.length
    · rw [List.getElem?_append_left hn] at h1
      rw [List.getElem?_append_left (by rw [← r.len]; exact hn)] at h2
      exact (r.cell n a c' h1 h2).extW (Ext.cell r h).toExtW (upd_ne (r.ne (mem_c h1) h))
    · have h3 : n = ρ.c.length := by
        have := (List.getElem?_eq_some_iff.mp h1).1
        simp at this; omega
      subst h3
      rw [List.getElem?_append_right (Nat.le_refl _)] at h1
      rw [r.len, List.getElem?_append_right (Nat.le_refl _)] at h2
      simp at h1 h2
      subst h1; subst h2
      exact hc
  · rcases List.mem_append.mp (show a ∈ ρ.c ++ [p] from q) with q | q
    · exact (r.gh a ha).1 q
    · rw [List.mem_singleton] at q; exact r.ne (.inr ha) h q
  · by_cases hn : n < M.length
    · rw [List.getElem?_append_left hn] at h2
      exact r.un n c' h2
    · have h3 : n = M.length := by
        have := (List.getElem?_eq_some_iff.mp h2).1
        simp at this; omega
      subst h3
      rw [List.getElem?_append_right (Nat.le_refl _)] at h2
      simp at h2
      subst h2; exact hu
/-- a cell is written -/
theorem Ext.write {o : HO} {n : Nat} {p : Addr} (r : Rep g ρ M H) (h : ρ.c[n]? = some p) : Ext ρ H ρ (upd H p o) :=
  ⟨⟨fun a u e n => ⟨by rw [upd_ne (fun q => n (by rw [q]; exact mem_c h))]; exact e, n⟩, List.prefix_refl _⟩, rfl, fun a ha => upd_ne fun q => (r.gh a ha).1 (by rw [q]; exact List.mem_of_getElem? h)⟩
theorem Rep.write {o : HO} {n : Nat} {p : Addr} {c : Cell} (r : Rep g ρ M H) (h : ρ.c[n]? = some p) (hc : CellOk g ρ (upd H p o) p c) (hu : c.und n = true) : Rep g ρ (M.set n c) (upd H p o) := by
  refine ⟨by simp [r.len], r.nd, fun m a c' h1 h2 => ?_, fun a ha => ⟨(r.gh a ha).1, by rw [(Ext.write (o := o) r h).gk a ha]; exact (r.gh a ha).2⟩, fun m c' h2 => ?_⟩
  rotate_left
  · by_cases hm : m = n
    · subst hm
      have hl : m < M.length := by rw [← r.len]; exact (List.getElem?_eq_some_iff.mp h).1
      rw [List.getElem?_set_self hl] at h2; cases h2
      exact hu
    · rw [List.getElem?_set_ne (Ne.symm hm)] at h2
      exact r.un m c' h2
  by_cases hm : m = n
  · subst hm
    rw [h] at h1; cases h1
    have hl : m < M.length := by rw [← r.len]; exact (List.getElem?_eq_some_iff.mp h).1
    rw [List.getElem?_set_self hl] at h2; cases h2
    exact hc
  · rw [List.getElem?_set_ne (Ne.symm hm)] at h2
    refine (r.cell m a c' h1 h2).extW (Ext.write r h).toExtW (upd_ne fun q => hm ?_)
    rw [q] at h1
    have e1 : ρ.c[m]'(List.getElem?_eq_some_iff.mp h1).1 = p := (List.getElem?_eq_some_iff.mp h1).2
    have e2 : ρ.c[n]'(List.getElem?_eq_some_iff.mp h).1 = p := (List.getElem?_eq_some_iff.mp h).2
    exact (List.getElem_inj r.nd).mp (e1.trans e2.symm)
/-- a list begins to be made, goes on, is made -/
theorem ExtW.ghost {o : HO} {p : Addr} (h : H p = none) : ExtW ρ H (ρ.ghost p) (upd H p o) :=
  ⟨fun a u e n => ⟨by rw [upd_ne (ne_of_none e h)]; exact e, fun q => by
    rcases q with q | q
    · exact n (.inl q)
    · rcases List.mem_cons.mp q with q | q
      · rw [q, h] at e; cases e
      · exact n (.inr q)⟩, List.prefix_refl _⟩
theorem Rep.ghost {o : HO} {p : Addr} (r : Rep g ρ M H) (h : H p = none) : Rep g (ρ.ghost p) M (upd H p o) := by
  refine ⟨r.len, r.nd, fun n a c h1 h2 => (r.cell n a c h1 h2).extW (ExtW.ghost h) (upd_ne (r.ne (mem_c (ρ := ρ) h1) h)), fun a ha => ?_, r.un⟩
  rcases List.mem_cons.mp ha with rfl | ha
  · exact ⟨fun q => r.fresh h (.inl q), o, upd_same⟩
  · exact ⟨(r.gh a ha).1, by rw [upd_ne (r.ne (.inr ha) h)]; exact (r.gh a ha).2⟩
theorem ExtW.turn {o : HO} {p : Addr} (h : p ∈ ρ.gh) : ExtW ρ H ρ (upd H p o) :=
  ⟨fun a u e n => ⟨by rw [upd_ne (fun q => n (by rw [q]; exact .inr h))]; exact e, n⟩, List.prefix_refl _⟩
theorem Rep.turn {o : HO} {p : Addr} (r : Rep g ρ M H) (h : p ∈ ρ.gh) : Rep g ρ M (upd H p o) := by
  refine ⟨r.len, r.nd, fun n a c h1 h2 => (r.cell n a c h1 h2).extW (ExtW.turn h) (upd_ne fun q => (r.gh p h).1 (by rw [← q]; exact List.mem_of_getElem? h1)), fun a ha => ⟨(r.gh a ha).1, ?_⟩, r.un⟩
  by_cases e : a = p
  · subst e; exact ⟨o, upd_same⟩
  · rw [upd_ne e]; exact (r.gh a ha).2
theorem ExtW.made {p : Addr} : ExtW (ρ.ghost p) H ρ H :=
  ⟨fun a u e n => ⟨e, fun q => n (by rcases q with q | q; exact .inl q; exact .inr (List.mem_cons_of_mem _ q))⟩, List.prefix_refl _⟩
theorem Rep.made {p : Addr} (r : Rep g (ρ.ghost p) M H) : Rep g ρ M H :=
  ⟨r.len, r.nd, fun n a c h1 h2 => (r.cell n a c h1 h2).extW ExtW.made rfl, fun a ha => r.gh a (List.mem_cons_of_mem _ ha), r.un⟩
end

theorem take_get {ρ : Rho} {m n : Nat} {a : Addr} (h : ρ.c[n]? = some a) (hn : n < m) : (ρ.cut m).c[n]? = some a := by
  show (ρ.c.take m)[n]? = _
  rw [List.getElem?_take_of_lt hn]; exact h
section
variable {g : Gx} {ρ : Rho} {H : Hp}
theorem AtT.shrink {a : Addr} {xs : List V} (m : Nat) (h : AtT g ρ H a xs) : AtT g (ρ.cut m) H a xs := by
  rcases h with ⟨n, h⟩ | h
  · exact .inl ⟨fun q => n (by rcases q with q | q; exact .inl (List.mem_of_mem_take q); exact .inr q), h⟩
  · exact .inr h
theorem AtL.shrink {a : Addr} {xs : List V} (m : Nat) (h : AtL g ρ H a xs) : AtL g (ρ.cut m) H a xs := by
  rcases h with ⟨n, h⟩ | h
  · exact .inl ⟨fun q => n (by rcases q with q | q; exact .inl (List.mem_of_mem_take q); exact .inr q), h⟩
  · exact .inr h
theorem AtO.shrink {a : Addr} {o : Obj} (m : Nat) (h : AtO g ρ H a o) : AtO g (ρ.cut m) H a o := by
  rcases h with ⟨n, h⟩ | h
  · exact .inl ⟨fun q => n (by rcases q with q | q; exact .inl (List.mem_of_mem_take q); exact .inr q), h⟩
  · exact .inr h
mutual
theorem RD.shrink (m : Nat) : ∀ {d : D} {v : V}, RD g ρ H d v → d.und m = true → RD g (ρ.cut m) H d v
  | _, _, .non, _ => .non
  | _, _, .bl b, _ => .bl b
  | _, _, .int i, _ => .int i
  | _, _, .str s, _ => .str s
  | _, _, .tup h r, e => .tup (h.shrink m) (RDs.shrink m r (by simpa only [D.und] using e))
  | _, _, .lst n h r, e => .lst (fun q => n (by rcases q with q | q; exact .inl (List.mem_of_mem_take q); exact .inr q)) h (RDs.shrink m r (by simpa only [D.und] using e))
  | _, _, .rol h r, e => .rol (h.shrink m) (RDs.shrink m r (by simpa only [D.und] using e))
  | _, _, .dct h z a b c r, e => .dct (h.shrink m) z a b c (RDe.shrink m r (by simpa only [D.und] using e))
  | _, _, .obj h, e => .obj (take_get h (by simpa [D.und] using e))
  | _, _, .fn h k, _ => .fn h k
  | _, _, .ty n, _ => .ty n
theorem RDs.shrink (m : Nat) : ∀ {d : List D} {v : List V}, RDs g ρ H d v → unds m d = true → RDs g (ρ.cut m) H d v
  | _, _, .nil, _ => .nil
  | _, _, .cons a b, e => by
    simp only [unds, Bool.and_eq_true] at e
    exact .cons (RD.shrink m a e.1) (RDs.shrink m b e.2)
theorem RDe.shrink (m : Nat) : ∀ {d : List (D × D)} {v : List DictEntry}, RDe g ρ H d v → unde m d = true → RDe g (ρ.cut m) H d v
  | _, _, .nil, _ => .nil
  | _, _, .cons a b c d f r, e => by
    simp only [unde, Bool.and_eq_true] at e
    exact .cons (RD.shrink m a e.1.1) b c (RD.shrink m d e.1.2) f (RDe.shrink m r e.2)
end
end
end Ev

set_option Elab.async false
set_option linter.all false
set_option maxRecDepth 100000
set_option maxHeartbeats 1000000
/-! Ev2: the core language and what its texts compute. -/
namespace Ev
open PySem PySem.Spec PyProof.Rows L2

inductive Res (α : Type) where
  | ok (a : α) (M : Mem)
  | exc (e : D) (M : Mem)
  | bad
def Res.bind {α β : Type} (r : Res α) (f : α → Mem → Res β) : Res β := match r with
  | .ok a M => f a M
  | .exc e M => .exc e M
  | .bad => .bad
@[simp] theorem Res.bind_ok {α β : Type} (a : α) (M : Mem) (f : α → Mem → Res β) : (Res.ok a M).bind f = f a M := rfl
@[simp] theorem Res.bind_exc {α β : Type} (e : D) (M : Mem) (f : α → Mem → Res β) : (Res.exc e M).bind f = .exc e M := rfl
@[simp] theorem Res.bind_bad {α β : Type} (f : α → Mem → Res β) : (Res.bad).bind f = .bad := rfl
theorem Res.bind_assoc {α β γ : Type} (r : Res α) (f : α → Mem → Res β) (k : β → Mem → Res γ) : (r.bind f).bind k = r.bind fun a M => (f a M).bind k := by cases r <;> rfl

abbrev LIM : Nat := 1000000

/-! ### built-in operations -/
def seqOf (M : Mem) : D → Option (List D)
  | .tup l => some l
  | .lst l => some l
  | .rol l => some l
  | .obj n => match M[n]? with
    | some (.lst l) => some l
    | _ => none
  | _ => none
def lstOf (M : Mem) : D → Option (List D)
  | .lst l => some l
  | .obj n => match M[n]? with
    | some (.lst l) => some l
    | _ => none
  | _ => none
def lrOf (M : Mem) : D → Option (List D)
  | .lst l => some l
  | .rol l => some l
  | .obj n => match M[n]? with
    | some (.lst l) => some l
    | _ => none
  | _ => none
def truth (M : Mem) : D → Option Bool
  | .non => some false
  | .bl b => some b
  | .int i => some (i != 0)
  | .str s => if s.length ≤ LIM then some (s.length != 0) else none
  | .tup l => some !l.isEmpty
  | .lst l => some !l.isEmpty
  | .rol l => some !l.isEmpty
  | .obj n => match M[n]? with
    | some (.lst l) => some !l.isEmpty
    | _ => none
  | _ => none
/-! data: what == and repr look at -/
mutual
def D.py : D → Option PyData
  | .non => some .none
  | .bl b => some (.bool b)
  | .int i => some (.int i)
  | .str s => some (.str s)
  | .tup l => (pys l).map .tuple
  | .lst l => (pys l).map .list
  | .rol l => (pys l).map .list
  | _ => none
def pys : List D → Option (List PyData)
  | [] => some []
  | d :: r => match d.py, pys r with
    | some x, some y => some (x :: y)
    | _, _ => none
end
/-- one step through a cell -/
def D.top (M : Mem) : D → D
  | .obj n => match M[n]? with
    | some (.lst l) => .lst l
    | _ => .obj n
  | d => d
mutual
def eqD : D → D → Bool
  | .non, .non => true
  | .bl a, .bl b => a == b
  | .bl a, .int j => decide ((if a then 1 else 0) = j)
  | .int i, .bl b => decide (i = (if b then 1 else 0))
  | .int i, .int j => decide (i = j)
  | .str x, .str y => decide (x = y)
  | .tup a, .tup b => eqDs a b
  | .lst a, .lst b => eqDs a b
  | .lst a, .rol b => eqDs a b
  | .rol a, .lst b => eqDs a b
  | .rol a, .rol b => eqDs a b
  | _, _ => false
def eqDs : List D → List D → Bool
  | [], [] => true
  | a :: r, b :: s => eqD a b && eqDs r s
  | _, _ => false
end
mutual
/-- plain data of at most such a depth -/
def D.sh : Nat → D → Bool
  | _, .non => true
  | _, .bl _ => true
  | _, .int _ => true
  | _, .str s => PyData.strOk s
  | n + 1, .tup l => shs n l
  | n + 1, .lst l => shs n l
  | n + 1, .rol l => shs n l
  | _, _ => false
def shs : Nat → List D → Bool
  | _, [] => true
  | n, d :: r => d.sh n && shs n r
end
mutual
/-- plain data -/
def D.pl : D → Bool
  | .non => true
  | .bl _ => true
  | .int _ => true
  | .str s => PyData.strOk s
  | .tup l => pls l
  | .lst l => pls l
  | .rol l => pls l
  | _ => false
def pls : List D → Bool
  | [] => true
  | d :: r => d.pl && pls r
end
def eqOk (x y : D) : Bool := (x.sh 60 && y.pl) || (x.pl && y.sh 60)
def cmpEq (neg : Bool) (x y : D) (M : Mem) : Res D := if eqOk (x.top M) (y.top M) then .ok (.bl (neg != eqD (x.top M) (y.top M))) M else .bad

def D.flat : D → Bool
  | .non => true
  | .bl _ => true
  | .int _ => true
  | .str _ => true
  | _ => false
def inD (x : D) (l : List D) : Bool := l.any fun y => eqD y x
def cmpIn (neg : Bool) (x y : D) (M : Mem) : Res D := match y with
  | .dct kvs => .bad
  | .str _ => .bad
  | y => match seqOf M y with
    | some l => if x.flat && l.all D.flat then .ok (.bl (neg != inD x l)) M else .bad
    | none => .bad
def cmpI (op : CmpOp) (i j : Int) : Option Bool := match op with
  | .Lt => some (decide (i < j))
  | .LtE => some (decide (i ≤ j))
  | .Gt => some (decide (j < i))
  | .GtE => some (decide (j ≤ i))
  | _ => none
/-- a tuple beside () -/
def emptyT : D → D → Option Bool
  | .tup l, .tup [] => some l.isEmpty
  | _, _ => none
def cmpD (op : CmpOp) (x y : D) (M : Mem) : Res D := match op with
  | .Eq => match emptyT x y with
    | some b => .ok (.bl b) M
    | none => cmpEq false x y M
  | .NotEq => cmpEq true x y M
  | .In => cmpIn false x y M
  | .NotIn => cmpIn true x y M
  | op => match x, y with
    | .int i, .int j => match cmpI op i j with
      | some b => .ok (.bl b) M
      | none => .bad
    | _, _ => .bad
def i64 (i : Int) : Bool := decide (-(2 ^ 64) < i ∧ i < 2 ^ 64)
def binD (op : Operator) (x y : D) (M : Mem) : Res D := match op with
  | .Add => match x, y with
    | .int i, .int j => .ok (.int (i + j)) M
    | .str a, .str b => if a.length + b.length ≤ LIM then .ok (.str (a ++ b)) M else .bad
    | .tup a, .tup b => if a.length + b.length ≤ LIM then .ok (.tup (a ++ b)) M else .bad
    | x, y => match lstOf M x, lstOf M y with
      | some a, some b => if a.length + b.length ≤ LIM then .ok (.lst (a ++ b)) M else .bad
      | _, _ => .bad
  | .Sub => match x, y with
    | .int i, .int j => .ok (.int (i - j)) M
    | _, _ => .bad
  | .Mult => match x, y with
    | .int i, .int j => if i64 i || i64 j then .ok (.int (i * j)) M else .bad
    | x, .int k => match lstOf M x with
      | some a => if 0 ≤ k ∧ k ≤ 1000 ∧ a.length ≤ 1000 then .ok (.lst (List.replicate k.toNat a).flatten) M else .bad
      | none => .bad
    | _, _ => .bad
  | .Mod => match x, y with
    | .int i, .int j => if 0 < j then .ok (.int (i % j)) M else .bad
    | _, _ => .bad
  | .FloorDiv => match x, y with
    | .int i, .int j => if 0 < j ∧ j < 1073741824 then .ok (.int (i / j)) M else .bad
    | _, _ => .bad
  | .Pow => match x, y with
    | .int i, .int j => if 0 ≤ j ∧ j ≤ 1000000 ∧ i.natAbs < 2 ^ 64 then .ok (.int (i ^ j.toNat)) M else .bad
    | _, _ => .bad
  | _ => .bad
def atD (l : List D) (i : Int) (M : Mem) : Res D := match atI l i with
  | some d => .ok d M
  | none => .bad
def kget (kvs : List (D × D)) (k : D) : Option D := (kvs.find? fun p => decide (p.1.nk = k.nk)).map (·.2)
/-- the key's kind is that of the dict's keys -/
def kOk (kvs : List (D × D)) (k : D) : Bool := k.leaf && kvs.all fun p => p.1.leaf
def idxD (x y : D) (M : Mem) : Res D := match y with
  | .int i => match seqOf M x with
    | some l => atD l i M
    | none => .bad
  | _ => .bad
def optI : Option D → Option (Option Int)
  | none => some none
  | some (.int i) => some (some i)
  | _ => none
def optR (o : Option D) (M : Mem) : Res (Option Int) := match optI o with
  | some i => .ok i M
  | none => .bad
def cutL {α : Type} (xs : List α) (lo hi : Option Int) : List α := (xs.drop (HT.sIx xs.length 0 lo)).take (HT.sIx xs.length xs.length hi - HT.sIx xs.length 0 lo)
def sliD (x : D) (lo hi : Option Int) (M : Mem) : Res D := match x with
  | .tup l => .ok (.tup (cutL l lo hi)) M
  | x => match lrOf M x with
    | some l => .ok (.lst (cutL l lo hi)) M
    | none => .bad
def revD (x : D) (M : Mem) : Res D := match x with
  | .tup l => .ok (.tup l.reverse) M
  | x => match lrOf M x with
    | some l => .ok (.lst l.reverse) M
    | none => .bad
def unaD (op : UnaryOp) (x : D) (M : Mem) : Res D := match op, x with
  | .USub, .int i => .ok (.int (-i)) M
  | _, _ => .bad

def tyOf (M : Mem) : D → Option String
  | .non => some "NoneType"
  | .bl _ => some "bool"
  | .int _ => some "int"
  | .str _ => some "str"
  | .tup _ => some "tuple"
  | .lst _ => some "list"
  | .rol _ => some "list"
  | .dct _ => some "dict"
  | .obj n => match M[n]? with
    | some (.lst _) => some "list"
    | some (.dct _) => some "dict"
    | none => none
  | _ => none
def isiD (M : Mem) (x t : D) : Option Bool := match t with
  | .ty T => match tyOf M x with
    | some S => if T = "int" then some (S = "int" || S = "bool") else if T = "str" ∨ T = "tuple" ∨ T = "list" ∨ T = "bool" ∨ T = "dict" then some (decide (S = T)) else none
    | none => none
  | _ => none
inductive Blt where
  | len | isi | repr | all | any | int | abs | max | min | sum | tuple | list | divmod
  deriving DecidableEq
def intsD : List D → Option (List Int)
  | [] => some []
  | .int i :: r => (intsD r).map (i :: ·)
  | _ => none
def bls : List D → Option (List Bool)
  | [] => some []
  | .bl b :: r => (bls r).map (b :: ·)
  | _ => none
def maxI : Int → List Int → Int
  | m, [] => m
  | m, x :: r => maxI (if m < x then x else m) r
def minI : Int → List Int → Int
  | m, [] => m
  | m, x :: r => minI (if x < m then x else m) r
def bltD (call : D → List D → Mem → Res D) (b : Blt) (l : List D) (M : Mem) : Res D := match b, l with
  | .len, [x] => match x with
    | .str s => if s.length ≤ LIM then .ok (.int s.length) M else .bad
    | x => match seqOf M x with
      | some l => .ok (.int l.length) M
      | none => .bad
  | .isi, [x, t] => match isiD M x t with
    | some b => .ok (.bl b) M
    | none => .bad
  | .repr, [x] => match (x.top M).py with
    | some p => if p.showable && decide (p.depth ≤ 60) && decide (p.shown.length ≤ LIM) then .ok (.str p.shown) M else .bad
    | none => .bad
  | .all, [x] => match (lstOf M x).bind bls with
    | some bs => .ok (.bl (bs.all id)) M
    | none => .bad
  | .any, [x] => match (lstOf M x).bind bls with
    | some bs => .ok (.bl (bs.any id)) M
    | none => .bad
  | .int, [x] => match x with
    | .int i => .ok (.int i) M
    | .bl b => .ok (.int (if b then 1 else 0)) M
    | _ => .bad
  | .abs, [x] => match x with
    | .int i => .ok (.int (if i < 0 then -i else i)) M
    | _ => .bad
  | .max, [x] => match (lstOf M x).bind intsD with
    | some (m :: r) => .ok (.int (maxI m r)) M
    | _ => .bad
  | .max, [x, y] => match x, y with
    | .int i, .int j => .ok (.int (if j > i then j else i)) M
    | _, _ => .bad
  | .min, [x] => match (lstOf M x).bind intsD with
    | some (m :: r) => .ok (.int (minI m r)) M
    | _ => .bad
  | .min, [x, y] => match x, y with
    | .int i, .int j => .ok (.int (if j < i then j else i)) M
    | _, _ => .bad
  | .sum, [x] => match (lstOf M x).bind intsD with
    | some l => .ok (.int l.sum) M
    | _ => .bad
  | .tuple, [x] => match x with
    | .tup l => .ok (.tup l) M
    | x => match lrOf M x with
      | some l => .ok (.tup l) M
      | none => .bad
  | .list, [x] => match seqOf M x with
    | some l => .ok (.lst l) M
    | none => .bad
  | .divmod, [x, y] => match x, y with
    | .int i, .int j => if 0 < j ∧ j < 1073741824 then .ok (.tup [.int (i / j), .int (i % j)]) M else .bad
    | _, _ => .bad
  | _, _ => .bad
inductive Met where
  | append | get
  deriving DecidableEq
def metD (m : Met) (o : D) (l : List D) (M : Mem) : Res D := match m, o, l with
  | .append, .obj n, [x] => match M[n]? with
    | some (.lst xs) => if xs.length < LIM && x.und n then .ok .non (M.set n (.lst (xs ++ [x]))) else .bad
    | _ => .bad
  | .get, .dct kvs, [k, d] => if kOk kvs k then .ok ((kget kvs k).getD d) M else .bad
  | _, _, _ => .bad
/-- such a receiver -/
def recD (m : Met) (M : Mem) (d : D) : Bool := match m, d with
  | .append, .obj n => match M[n]? with
    | some (.lst _) => true
    | _ => false
  | .get, .dct _ => true
  | _, _ => false
/-- o[i] = v -/
def setD (o i v : D) (M : Mem) : Option Mem := match o, i with
  | .obj n, .int i => match M[n]? with
    | some (.lst xs) => match ixN xs.length i with
      | some j => if v.und n then some (M.set n (.lst (xs.set j v))) else none
      | none => none
    | _ => none
  | _, _ => none

/-! ### the language -/
mutual
inductive C where
  | k (d : D)
  | var (i : Nat)
  | glo (x : Str)
  | bin (op : Operator) (a b : C)
  | una (op : UnaryOp) (a : C)
  | cmp (op : CmpOp) (a b : C)
  | chn (op op' : CmpOp) (a b c : C)
  | and_ (a b : C)
  | or_ (a b : C)
  | not_ (a : C)
  | ite (t a b : C)
  | tup (l : CL)
  | lst (cell : Bool) (l : CL)
  | dnew (cell : Bool)
  | idx (a b : C)
  | sli (a : C) (lo hi : CO)
  | rev (a : C)
  | call (x : Str) (l k : CL) (ord : List (Nat ⊕ Nat))
  | cal (i : Nat) (l : CL)
  | blt (b : Blt) (l : CL)
  | met (m : Met) (o : C) (l : CL)
  | comp (cell : Bool) (own : List (Str × Nat)) (t : T) (it : I) (ifs : CO) (e : C)
inductive CL where
  | nil
  | cons (a : C) (l : CL)
inductive CO where
  | none
  | some (a : C)
inductive T where
  | var (i : Nat)
  | tup (l : TL)
  | sub (a b : C)
inductive TL where
  | nil
  | cons (t : T) (l : TL)
inductive I where
  | val (a : C)
  | rng1 (a : C)
  | rng2 (a b : C)
  | zip (a b : C)
  | enum (a : C)
end
mutual
inductive S where
  | asg (t : T) (e : C)
  | par (l : List Nat) (e : CL)
  | ex (e : C)
  | ret (e : C)
  | retN
  | if_ (c : C) (a b : SL)
  | for_ (t : T) (it : I) (b : SL)
  | whl (c : C) (b : SL)
  | pass
  | brk
  | cnt
  | never
inductive SL where
  | nil
  | cons (s : S) (l : SL)
end
def TL.len : TL → Nat
  | .nil => 0
  | .cons _ l => l.len + 1
def CL.len : CL → Nat
  | .nil => 0
  | .cons _ l => l.len + 1
abbrev St' := List (Option D)
inductive Flow' where
  | next (σ : St')
  | ret (d : D)
  | brk (σ : St')
  | cnt (σ : St')
def wipe' (σ : St') : List Nat → St'
  | [] => σ
  | i :: r => (wipe' σ r).set i none
def pick (vs ds : List D) : Nat ⊕ Nat → Option D
  | .inl i => vs[i]?
  | .inr i => ds[i]?
def arrange (vs ds : List D) : List (Nat ⊕ Nat) → Option (List D)
  | [] => some []
  | i :: r => match pick vs ds i, arrange vs ds r with
    | some d, some l => some (d :: l)
    | _, _ => none
def newCell (M : Mem) (c : Cell) : Res D := .ok (.obj M.length) (M ++ [c])
def fresh (cell : Bool) (l : List D) (M : Mem) : Res D := if cell then newCell M (.lst l) else .ok (.lst l) M
def truR (d : D) (M : Mem) : Res Bool := match truth M d with
  | some b => .ok b M
  | none => .bad
/-- the items that are walked -/
inductive W where
  | seq (l : List D)
def rngL (lo : Int) (n : Nat) : List D := (List.range n).map fun (i : Nat) => .int (lo + (i : Int))
def enumL : Nat → List D → List D
  | _, [] => []
  | i, d :: r => .tup [.int i, d] :: enumL (i + 1) r
def zipL : List D → List D → List D
  | a :: r, b :: s => .tup [a, b] :: zipL r s
  | _, _ => []
/-- what a value's walk gives -/
def walkV (x : D) (M : Mem) : Res (List D × Option Nat) := match x with
  | .obj n => match M[n]? with
    | some (.lst l) => .ok (l, some n) M
    | _ => .bad
  | x => match seqOf M x with
    | some l => .ok (l, none) M
    | none => .bad
def zipV (x y : D) (M : Mem) : Res (List D × Option Nat) := match x, y with
  | .tup l, .tup r => .ok (zipL l r, none) M
  | .lst l, .lst r => .ok (zipL l r, none) M
  | _, _ => .bad
def enumV (x : D) (M : Mem) : Res (List D × Option Nat) := match x with
  | .lst l => .ok (enumL 0 l, none) M
  | _ => .bad
def rng1V (x : D) (M : Mem) : Res (List D × Option Nat) := match x with
  | .int n => if -1000000 ≤ n ∧ n ≤ 1000000 then .ok (rngL 0 n.toNat, none) M else .bad
  | _ => .bad
def rng2V (x y : D) (M : Mem) : Res (List D × Option Nat) := match x, y with
  | .int lo, .int hi => if (-1000000 ≤ lo ∧ lo ≤ 1000000) ∧ -1000000 ≤ hi ∧ hi ≤ 1000000 then .ok (rngL lo (hi - lo).toNat, none) M else .bad
  | _, _ => .bad
/-- what a text is run in: the module's constants, the defaults, the calls -/
structure En where
  G : Str → Option D
  dfl : Str → List D
  call : D → List D → Mem → Res D
/-- a walked cell still holds the items -/
def wOk (w : Option Nat) (xs : List D) (M : Mem) : Prop := match w with
  | none => True
  | some n => M[n]? = some (.lst xs)
noncomputable def chkW (w : Option Nat) (xs : List D) (M : Mem) : Bool := @decide (wOk w xs M) (Classical.propDecidable _)
@[simp] theorem chkW_none {xs : List D} {M : Mem} : chkW none xs M = true := @decide_eq_true _ (Classical.propDecidable _) trivial
theorem chkW_some {n : Nat} {xs : List D} {M : Mem} (h : M[n]? = some (.lst xs)) : chkW (some n) xs M = true := @decide_eq_true _ (Classical.propDecidable _) h
noncomputable def compL (w : Option Nat) (all : List D) (g : D → St' → Mem → Res St') (p : St' → Mem → Res Bool) (f : St' → Mem → Res D) (σ : St') : List D → List D → Mem → Res (List D)
  | [], acc, M => if chkW w all M then .ok acc M else .bad
  | x :: r, acc, M => if chkW w all M then (g x σ M).bind fun σ1 M => (p σ1 M).bind fun b M => match b with
    | true => (f σ1 M).bind fun y M => if acc.length < LIM then compL w all g p f σ r (acc ++ [y]) M else .bad
    | false => compL w all g p f σ r acc M
    else .bad
noncomputable section
variable (E : En)
mutual
def ev : C → St' → Mem → Res D
  | .k d, _, M => .ok d M
  | .var i, σ, M => match σ[i]? with
    | some (some d) => .ok d M
    | _ => .bad
  | .glo x, _, M => match E.G x with
    | some d => .ok d M
    | none => .bad
  | .bin op a b, σ, M => (ev a σ M).bind fun x M => (ev b σ M).bind fun y M => binD op x y M
  | .una op a, σ, M => (ev a σ M).bind fun x M => unaD op x M
  | .cmp op a b, σ, M => (ev a σ M).bind fun x M => (ev b σ M).bind fun y M => cmpD op x y M
  | .chn op op' a b c, σ, M => (ev a σ M).bind fun x M => (ev b σ M).bind fun y M => (cmpD op x y M).bind fun r M => match r with
    | .bl true => (ev c σ M).bind fun z M => cmpD op' y z M
    | .bl false => .ok (.bl false) M
    | _ => .bad
  | .and_ a b, σ, M => (ev a σ M).bind fun x M => (truR x M).bind fun t M => match t with
    | true => ev b σ M
    | false => .ok x M
  | .or_ a b, σ, M => (ev a σ M).bind fun x M => (truR x M).bind fun t M => match t with
    | true => .ok x M
    | false => ev b σ M
  | .not_ a, σ, M => (ev a σ M).bind fun x M => (truR x M).bind fun t M => .ok (.bl !t) M
  | .ite t a b, σ, M => (ev t σ M).bind fun x M => (truR x M).bind fun t M => match t with
    | true => ev a σ M
    | false => ev b σ M
  | .tup l, σ, M => (evs l σ M).bind fun ds M => if ds.length ≤ LIM then .ok (.tup ds) M else .bad
  | .lst c l, σ, M => (evs l σ M).bind fun ds M => if ds.length ≤ LIM then fresh c ds M else .bad
  | .dnew c, _, M => if c then newCell M (.dct []) else .ok (.dct []) M
  | .idx a b, σ, M => (ev a σ M).bind fun x M => (ev b σ M).bind fun y M => idxD x y M
  | .sli a lo hi, σ, M => (ev a σ M).bind fun x M => ((evo lo σ M).bind optR).bind fun l M => ((evo hi σ M).bind optR).bind fun h M => sliD x l h M
  | .rev a, σ, M => (ev a σ M).bind fun x M => revD x M
  | .call x l k ord, σ, M => (evs l σ M).bind fun ds M => (evs k σ M).bind fun es M => match arrange (ds ++ es) (E.dfl x) ord with
    | some as => E.call (.fn x) as M
    | none => .bad
  | .cal i l, σ, M => match σ[i]? with
    | some (some f) => (evs l σ M).bind fun ds M => E.call f ds M
    | _ => .bad
  | .blt b l, σ, M => (evs l σ M).bind fun ds M => bltD E.call b ds M
  | .met m o l, σ, M => (ev o σ M).bind fun x M => if recD m M x then (evs l σ M).bind fun ds M => metD m x ds M else .bad
  | .comp c own t it ifs e, σ, M => (evi it σ M).bind fun xs M => (compL xs.2 xs.1 (fun x σ M => asT t x σ M) (fun σ M => (evo ifs σ M).bind fun r M => match r with
      | none => .ok true M
      | some x => truR x M) (fun σ M => ev e σ M) (wipe' σ (own.map (·.2))) xs.1 [] M).bind fun acc M => fresh c acc M
def evs : CL → St' → Mem → Res (List D)
  | .nil, _, M => .ok [] M
  | .cons a l, σ, M => (ev a σ M).bind fun x M => (evs l σ M).bind fun xs M => .ok (x :: xs) M
def evo : CO → St' → Mem → Res (Option D)
  | .none, _, M => .ok none M
  | .some a, σ, M => (ev a σ M).bind fun x M => .ok (some x) M
def evi : I → St' → Mem → Res (List D × Option Nat)
  | .val a, σ, M => (ev a σ M).bind fun x M => walkV x M
  | .rng1 a, σ, M => (ev a σ M).bind fun x M => rng1V x M
  | .rng2 a b, σ, M => (ev a σ M).bind fun x M => (ev b σ M).bind fun y M => rng2V x y M
  | .zip a b, σ, M => (ev a σ M).bind fun x M => (ev b σ M).bind fun y M => zipV x y M
  | .enum a, σ, M => (ev a σ M).bind fun x M => enumV x M
/-- a value goes to a target -/
def asT : T → D → St' → Mem → Res St'
  | .var i, d, σ, M => .ok (σ.set i (some d)) M
  | .tup l, d, σ, M => match d with
    | .tup ds => if ds.length = l.len then asTs l ds σ M else .bad
    | _ => .bad
  | .sub a b, d, σ, M => (ev a σ M).bind fun o M => (ev b σ M).bind fun i M => match setD o i d M with
    | some M => .ok σ M
    | none => .bad
def asTs : TL → List D → St' → Mem → Res St'
  | .nil, ds, σ, M => match ds with
    | [] => .ok σ M
    | _ => .bad
  | .cons t l, ds, σ, M => match ds with
    | d :: ds => (asT t d σ M).bind fun σ M => asTs l ds σ M
    | _ => .bad
end
end
end Ev

set_option Elab.async false
set_option linter.all false
set_option maxRecDepth 100000
set_option maxHeartbeats 1000000
/-! Ev3: the built-in operations do in the model what binD, cmpD .. say. -/
namespace Ev
open PySem PySem.Spec PyProof.Rows L2

def Post {α : Type} (g : Gx) (ρ : Rho) (H : Hp) (r : Res α) (Q : α → Mem → Rho → Hp → Prop) : Prop := match r with
  | .ok a M' => ∀ ρ' H', Ext ρ H ρ' H' → Rep g ρ' M' H' → Q a M' ρ' H'
  | .exc _ _ => False
  | .bad => False
section
variable {g : Gx} {ρ : Rho} {H : Hp} {α β : Type}
theorem Post.bind {r : Res α} {f : α → Mem → Res β} {Q : β → Mem → Rho → Hp → Prop} (h : Post g ρ H (r.bind f) Q) : Post g ρ H r fun a M1 ρ1 H1 => Post g ρ1 H1 (f a M1) Q := by
  cases r with
  | ok a M =>
    intro ρ1 H1 e1 r1
    have h' : Post g ρ H (f a M) Q := h
    revert h'
    cases f a M with
    | ok b M2 => exact fun h' ρ2 H2 e2 r2 => h' ρ2 H2 (e1.trans e2) r2
    | exc _ _ => exact fun h' => h'
    | bad => exact fun h' => h'
  | exc _ _ => exact h
  | bad => exact h
theorem Post.mono {r : Res α} {Q Q' : α → Mem → Rho → Hp → Prop} (h : Post g ρ H r Q) (k : ∀ a M' ρ' H', Ext ρ H ρ' H' → Rep g ρ' M' H' → Q a M' ρ' H' → Q' a M' ρ' H') : Post g ρ H r Q' := by
  cases r with
  | ok a M => exact fun ρ1 H1 e1 r1 => k _ _ _ _ e1 r1 (h ρ1 H1 e1 r1)
  | exc _ _ => exact h
  | bad => exact h
theorem Post.here {a : α} {M : Mem} {Q : α → Mem → Rho → Hp → Prop} (h : Post g ρ H (.ok a M) Q) (r : Rep g ρ M H) : Q a M ρ H := h _ _ (.refl _ _) r
theorem Post.no {Q : α → Mem → Rho → Hp → Prop} (h : Post g ρ H (.bad : Res α) Q) : False := h
end
def QV (g : Gx) (Q : VK) : D → Mem → Rho → Hp → Prop := fun d _ ρ H => ∀ v, RD g ρ H d v → Q v H
def rOp2 (g : Gx) (f : D → D → Mem → Res D) : R2 := fun x y H Q => ∃ ρ M d e, Rep g ρ M H ∧ RD g ρ H d x ∧ RD g ρ H e y ∧ Post g ρ H (f d e M) (QV g Q)
def rOp1 (g : Gx) (f : D → Mem → Res D) : V → Hp → VK → Prop := fun x H Q => ∃ ρ M d, Rep g ρ M H ∧ RD g ρ H d x ∧ Post g ρ H (f d M) (QV g Q)
def rOpN (g : Gx) (f : List D → Mem → Res D) : List V → Hp → VK → Prop := fun xs H Q => ∃ ρ M ds, Rep g ρ M H ∧ RDs g ρ H ds xs ∧ Post g ρ H (f ds M) (QV g Q)

theorem LIM_line {n : Nat} (h : n ≤ LIM) : n ≤ sizeLine := Nat.le_trans h (by decide)
theorem LIM_lt {n : Nat} (h : n < LIM) : n < sizeLine := Nat.lt_of_lt_of_le h (by decide)
section
variable {g : Gx} {ρ : Rho} {H : Hp} {M : Mem}
theorem seqOf_ok {d : D} {v : V} {l : List D} (r : Rep g ρ M H) (h : RD g ρ H d v) (e : seqOf M d = some l) : ∃ a vs, v = .ref a ∧ (SqL g.K H a vs ∨ SqT g.K H a vs) ∧ RDs g ρ H l vs := by
  cases h with
  | tup h q => simp only [seqOf, Option.some.injEq] at e; subst e; exact ⟨_, _, rfl, .inr h.seq, q⟩
  | lst n h q => simp only [seqOf, Option.some.injEq] at e; subst e; exact ⟨_, _, rfl, .inl (SqL.of h), q⟩
  | rol h q => simp only [seqOf, Option.some.injEq] at e; subst e; exact ⟨_, _, rfl, .inl h.seq, q⟩
  | @obj n a h =>
    obtain ⟨c, hc, ok⟩ := r.at_ h
    cases c with
    | lst l' =>
      simp only [seqOf, hc, Option.some.injEq] at e; subst e
      obtain ⟨vs, h1, q⟩ := ok
      exact ⟨_, _, rfl, .inl (SqL.of h1), q⟩
    | dct _ => simp [seqOf, hc] at e
  | _ => simp [seqOf] at e
theorem lstOf_ok {d : D} {v : V} {l : List D} (r : Rep g ρ M H) (h : RD g ρ H d v) (e : lstOf M d = some l) : ∃ a vs, v = .ref a ∧ H a = some (.lst vs) ∧ RDs g ρ H l vs := by
  cases h with
  | lst n h q => simp only [lstOf, Option.some.injEq] at e; subst e; exact ⟨_, _, rfl, h, q⟩
  | @obj n a h =>
    obtain ⟨c, hc, ok⟩ := r.at_ h
    cases c with
    | lst l' =>
      simp only [lstOf, hc, Option.some.injEq] at e; subst e
      obtain ⟨vs, h1, q⟩ := ok
      exact ⟨_, _, rfl, h1, q⟩
    | dct _ => simp [lstOf, hc] at e
  | _ => simp [lstOf] at e
theorem lrOf_ok {d : D} {v : V} {l : List D} (r : Rep g ρ M H) (h : RD g ρ H d v) (e : lrOf M d = some l) : ∃ a vs, v = .ref a ∧ SqL g.K H a vs ∧ RDs g ρ H l vs := by
  cases h with
  | lst n h q => simp only [lrOf, Option.some.injEq] at e; subst e; exact ⟨_, _, rfl, SqL.of h, q⟩
  | rol h q => simp only [lrOf, Option.some.injEq] at e; subst e; exact ⟨_, _, rfl, h.seq, q⟩
  | @obj n a h =>
    obtain ⟨c, hc, ok⟩ := r.at_ h
    cases c with
    | lst l' =>
      simp only [lrOf, hc, Option.some.injEq] at e; subst e
      obtain ⟨vs, h1, q⟩ := ok
      exact ⟨_, _, rfl, SqL.of h1, q⟩
    | dct _ => simp [lrOf, hc] at e
  | _ => simp [lrOf] at e
/-- a new list by value -/
theorem new_lst {Q : VK} {l : List D} {vs : List V} (r : Rep g ρ M H) (q : RDs g ρ H l vs) (h : Post g ρ H (.ok (.lst l) M) (QV g Q)) {p : Addr} (hp : H p = none) : Q (.ref p) (upd H p (.lst vs)) :=
  h _ _ (Ext.new r hp) (r.new hp) _ (.lst (r.fresh hp) upd_same (q.ext (Ext.new r hp)))
theorem new_tup {Q : VK} {l : List D} {vs : List V} (r : Rep g ρ M H) (q : RDs g ρ H l vs) (h : Post g ρ H (.ok (.tup l) M) (QV g Q)) {p : Addr} (hp : H p = none) : Q (.ref p) (upd H p (.tup vs)) :=
  h _ _ (Ext.new r hp) (r.new hp) _ (.tup (.inl ⟨r.fresh hp, .inl upd_same⟩) (q.ext (Ext.new r hp)))
theorem new_cell {Q : VK} {l : List D} {vs : List V} (r : Rep g ρ M H) (q : RDs g ρ H l vs) (h : Post g ρ H (newCell M (.lst l)) (QV g Q)) {p : Addr} (hp : H p = none) : Q (.ref p) (upd H p (.lst vs)) := by
  refine h _ _ (Ext.cell r hp) (r.push hp ⟨vs, upd_same, q.ext (Ext.cell r hp)⟩ (by rw [← r.len]; exact q.belowC)) _ (.obj ?_)
  show (ρ.c ++ [p])[M.length]? = _
  rw [← r.len, List.getElem?_append_right (Nat.le_refl _)]; simp
theorem new_fresh {Q : VK} {l : List D} {vs : List V} {c : Bool} (r : Rep g ρ M H) (q : RDs g ρ H l vs) (h : Post g ρ H (fresh c l M) (QV g Q)) {p : Addr} (hp : H p = none) : Q (.ref p) (upd H p (.lst vs)) := by
  cases c with
  | true => exact new_cell r q h hp
  | false => exact new_lst r q h hp
theorem RD_int {i : Int} {v : V} (h : RD g ρ H (.int i) v) : v = .int i := by cases h; rfl
theorem RD_str {i : Str} {v : V} (h : RD g ρ H (.str i) v) : v = .str i := by cases h; rfl
theorem RD_bl {i : Bool} {v : V} (h : RD g ρ H (.bl i) v) : v = .bl i := by cases h; rfl
theorem RD_tup {l : List D} {v : V} (h : RD g ρ H (.tup l) v) : ∃ a vs, v = .ref a ∧ SqT g.K H a vs ∧ RDs g ρ H l vs := by cases h with | tup h q => exact ⟨_, _, rfl, h.seq, q⟩
end

section
variable {X : Cx}
theorem op_binD (op : Operator) : OpR X (binaryOp op) (rOp2 (gx X) (binD op)) := by
  intro pins s σ H x y v u Q I rx ry h
  obtain ⟨ρ, M, d, e, rep, rd, re, h⟩ := h
  have go : ∀ {r : R2}, OpR X (binaryOp op) r → r x y H Q → wpAny (model X.prog X.w) X.A (binaryOp op v u) (EP X pins σ Q) X.xe s := fun o q => o pins s σ H x y v u Q I rx ry q
  cases op with
  | Add =>
    unfold binD at h
    simp only at h
    split at h
    · cases rd; cases re; exact go op_add ⟨_, _, rfl, rfl, h.here rep _ (.int _)⟩
    · cases rd; cases re
      split at h
      · rename_i hl; exact go op_add_str ⟨_, _, rfl, rfl, LIM_line hl, h.here rep _ (.str _)⟩
      · exact h.no.elim
    · obtain ⟨a, xs, rfl, ha, qa⟩ := RD_tup rd
      obtain ⟨b, ys, rfl, hb, qb⟩ := RD_tup re
      split at h
      · rename_i hl
        refine go op_catA ⟨a, b, xs, ys, rfl, rfl, ha, hb, LIM_line (by rw [← qa.length, ← qb.length]; exact hl), fun e1 => ?_, fun _ e2 => ?_, fun _ _ p hp => new_tup rep (qa.append qb) h hp⟩
        · subst e1; cases qa; exact h.here rep _ (by simpa using re)
        · subst e2; cases qb; exact h.here rep _ (by simpa using rd)
      · exact h.no.elim
    · rename_i l1 l2 l3
      split at h
      · rename_i xs ys e1 e2
        split at h
        · rename_i hl
          obtain ⟨a, vs, rfl, ha, qa⟩ := lstOf_ok rep rd e1
          obtain ⟨b, us, rfl, hb, qb⟩ := lstOf_ok rep re e2
          exact go op_cat ⟨a, b, vs, us, rfl, rfl, ha, hb, LIM_line (by rw [← qa.length, ← qb.length]; exact hl), fun p hp => new_lst rep (qa.append qb) h hp⟩
        · exact h.no.elim
      · exact h.no.elim
  | Sub =>
    unfold binD at h
    simp only at h
    split at h
    · cases rd; cases re; exact go op_sub ⟨_, _, rfl, rfl, h.here rep _ (.int _)⟩
    · exact h.no.elim
  | Mult =>
    unfold binD at h
    simp only at h
    split at h
    · cases rd; cases re
      split at h
      · rename_i hl
        refine go op_mul ⟨_, _, rfl, rfl, ?_, h.here rep _ (.int _)⟩
        simp only [Bool.or_eq_true, i64, decide_eq_true_eq] at hl
        exact hl
      · exact h.no.elim
    · cases re
      split at h
      · rename_i a e1
        split at h
        · rename_i hl
          obtain ⟨p, vs, rfl, ha, qa⟩ := lstOf_ok rep rd e1
          obtain ⟨h1, h2, h3⟩ := hl
          refine go op_rep ⟨p, _, vs, rfl, rfl, ha, by omega, by omega, ?_, fun q hq => new_lst rep ?_ h hq⟩
          · rw [← qa.length]
            rename_i k _ _
            have : k.toNat ≤ 1000 := by omega
            exact LIM_line (Nat.le_trans (Nat.mul_le_mul h3 this) (by decide))
          · rename_i k _ _
            generalize k.toNat = n
            induction n with
            | zero => exact .nil
            | succ n ih => rw [List.replicate_succ, List.replicate_succ, List.flatten_cons, List.flatten_cons]; exact qa.append ih
        · exact h.no.elim
      · exact h.no.elim
    · exact h.no.elim
  | Mod =>
    unfold binD at h
    simp only at h
    split at h
    · cases rd; cases re
      split at h
      · rename_i hl; exact go op_mod ⟨_, _, rfl, rfl, hl, h.here rep _ (.int _)⟩
      · exact h.no.elim
    · exact h.no.elim
  | FloorDiv =>
    unfold binD at h
    simp only at h
    split at h
    · cases rd; cases re
      split at h
      · rename_i hl; exact go op_fdiv ⟨_, _, rfl, rfl, hl, h.here rep _ (.int _)⟩
      · exact h.no.elim
    · exact h.no.elim
  | Pow =>
    unfold binD at h
    simp only at h
    split at h
    · cases rd; cases re
      split at h
      · rename_i hl; exact go op_pow ⟨_, _, rfl, rfl, hl, h.here rep _ (.int _)⟩
      · exact h.no.elim
    · exact h.no.elim
  | _ => exact h.no.elim
theorem op_unaD (op : UnaryOp) : UnR X (unaryOp op) (rOp1 (gx X) (unaD op)) := by
  intro pins s σ H x v Q I rx h
  obtain ⟨ρ, M, d, rep, rd, h⟩ := h
  unfold unaD at h
  split at h
  · cases rd; exact un_neg pins s σ H _ v Q I rx ⟨_, rfl, h.here rep _ (.int _)⟩
  · exact h.no.elim

/-! ### == -/
mutual
theorem eqD_py : ∀ {x y : D} {p q : PyData}, x.pl = true → y.pl = true → x.py = some p → y.py = some q → PyData.eqv p q = eqD x y
  | x, y, p, q, hx, hy, h1, h2 => by
    cases x <;> cases y <;> simp only [D.py, D.pl, Option.some.injEq, reduceCtorEq, Option.map_eq_some_iff] at h1 h2 hx hy <;>
      first
        | (subst h1; subst h2; simp only [PyData.eqv, eqD, beq_eq_decide]; done)
        | (obtain ⟨a, ha, rfl⟩ := h1; obtain ⟨b, hb, rfl⟩ := h2; simp only [PyData.eqv, eqD]; exact eqDs_py hx hy ha hb)
        | (obtain ⟨a, ha, rfl⟩ := h1; obtain ⟨b, hb, rfl⟩ := h2; simp only [PyData.eqv, eqD]; done)
        | (subst h1; obtain ⟨b, hb, rfl⟩ := h2; simp only [PyData.eqv, eqD]; done)
        | (subst h2; obtain ⟨b, hb, rfl⟩ := h1; simp only [PyData.eqv, eqD]; done)
        | (subst h1; subst h2; rename_i a b; cases a <;> cases b <;> rfl)
        | (subst h1; subst h2; rename_i a b; cases a <;> simp [PyData.eqv, eqD, beq_eq_decide])
        | (subst h1; subst h2; rename_i a b; cases b <;> simp [PyData.eqv, eqD, beq_eq_decide])
theorem eqDs_py : ∀ {x y : List D} {p q : List PyData}, pls x = true → pls y = true → pys x = some p → pys y = some q → PyData.eqvAll p q = eqDs x y
  | x, y, p, q, hx, hy, h1, h2 => by
    cases x with
    | nil =>
      simp only [pys, Option.some.injEq] at h1; subst h1
      cases y with
      | nil => simp only [pys, Option.some.injEq] at h2; subst h2; rfl
      | cons b s => 
        simp only [pys] at h2
        split at h2
        · cases h2; rfl
        · cases h2
    | cons a r =>
      simp only [pys] at h1
      split at h1
      · rename_i p1 p2 e1 e2
        cases h1
        cases y with
        | nil => simp only [pys, Option.some.injEq] at h2; subst h2; rfl
        | cons b s =>
          simp only [pys] at h2
          split at h2
          · rename_i q1 q2 e3 e4
            cases h2
            simp only [pls, Bool.and_eq_true] at hx hy
            simp only [PyData.eqvAll, eqDs]
            rw [eqD_py hx.1 hy.1 e1 e3, eqDs_py hx.2 hy.2 e2 e4]
          · cases h2
      · cases h1
end
end
end Ev

set_option Elab.async false
set_option linter.all false
set_option maxRecDepth 100000
set_option maxHeartbeats 1000000
namespace Ev
open PySem PySem.Spec PyProof.Rows L2
/-! ### data -/
mutual
theorem pl_py : ∀ {d : D}, d.pl = true → ∃ p, d.py = some p ∧ p.canLay0 = true
  | .non, _ => ⟨_, rfl, rfl⟩
  | .bl _, _ => ⟨_, rfl, rfl⟩
  | .int _, _ => ⟨_, rfl, rfl⟩
  | .str s, h => ⟨_, rfl, by simpa only [PyData.canLay0, D.pl] using h⟩
  | .tup l, h => by
    obtain ⟨p, h1, h2⟩ := pls_py (l := l) (by simpa only [D.pl] using h)
    exact ⟨.tuple p, by simp [D.py, h1], by simpa only [PyData.canLay0] using h2⟩
  | .lst l, h => by
    obtain ⟨p, h1, h2⟩ := pls_py (l := l) (by simpa only [D.pl] using h)
    exact ⟨.list p, by simp [D.py, h1], by simpa only [PyData.canLay0] using h2⟩
  | .rol l, h => by
    obtain ⟨p, h1, h2⟩ := pls_py (l := l) (by simpa only [D.pl] using h)
    exact ⟨.list p, by simp [D.py, h1], by simpa only [PyData.canLay0] using h2⟩
  | .dct _, h => by simp [D.pl] at h
  | .obj _, h => by simp [D.pl] at h
  | .fn _, h => by simp [D.pl] at h
  | .ty _, h => by simp [D.pl] at h
theorem pls_py : ∀ {l : List D}, pls l = true → ∃ p, pys l = some p ∧ PyData.canLayAll0 p = true
  | [], _ => ⟨_, rfl, rfl⟩
  | d :: r, h => by
    simp only [pls, Bool.and_eq_true] at h
    obtain ⟨p, h1, h2⟩ := pl_py h.1
    obtain ⟨q, h3, h4⟩ := pls_py h.2
    exact ⟨p :: q, by simp [pys, h1, h3], by simp [PyData.canLayAll0, h2, h4]⟩
end
mutual
theorem sh_pl : ∀ {n : Nat} {d : D}, d.sh n = true → d.pl = true ∧ ∀ p, d.py = some p → p.depth ≤ n
  | n, .non, _ => ⟨rfl, fun p e => by cases e; simp [PyData.depth]⟩
  | n, .bl _, _ => ⟨rfl, fun p e => by cases e; simp [PyData.depth]⟩
  | n, .int _, _ => ⟨rfl, fun p e => by cases e; simp [PyData.depth]⟩
  | n, .str s, h => ⟨by cases n <;> simpa only [D.sh, D.pl] using h, fun p e => by cases e; simp [PyData.depth]⟩
  | n + 1, .tup l, h => by
    obtain ⟨h1, h2⟩ := shs_pl (n := n) (l := l) (by simpa only [D.sh] using h)
    refine ⟨by simpa only [D.pl] using h1, fun p e => ?_⟩
    simp only [D.py, Option.map_eq_some_iff] at e
    obtain ⟨q, e, rfl⟩ := e
    simp only [PyData.depth]; have := h2 _ e; omega
  | n + 1, .lst l, h => by
    obtain ⟨h1, h2⟩ := shs_pl (n := n) (l := l) (by simpa only [D.sh] using h)
    refine ⟨by simpa only [D.pl] using h1, fun p e => ?_⟩
    simp only [D.py, Option.map_eq_some_iff] at e
    obtain ⟨q, e, rfl⟩ := e
    simp only [PyData.depth]; have := h2 _ e; omega
  | n + 1, .rol l, h => by
    obtain ⟨h1, h2⟩ := shs_pl (n := n) (l := l) (by simpa only [D.sh] using h)
    refine ⟨by simpa only [D.pl] using h1, fun p e => ?_⟩
    simp only [D.py, Option.map_eq_some_iff] at e
    obtain ⟨q, e, rfl⟩ := e
    simp only [PyData.depth]; have := h2 _ e; omega
  | 0, .tup _, h => by simp [D.sh] at h
  | 0, .lst _, h => by simp [D.sh] at h
  | 0, .rol _, h => by simp [D.sh] at h
  | n, .dct _, h => by cases n <;> simp [D.sh] at h
  | n, .obj _, h => by cases n <;> simp [D.sh] at h
  | n, .fn _, h => by cases n <;> simp [D.sh] at h
  | n, .ty _, h => by cases n <;> simp [D.sh] at h
theorem shs_pl : ∀ {n : Nat} {l : List D}, shs n l = true → pls l = true ∧ ∀ p, pys l = some p → PyData.depthAll p ≤ n
  | n, [], _ => ⟨rfl, fun p e => by cases e; simp [PyData.depthAll]⟩
  | n, d :: r, h => by
    simp only [shs, Bool.and_eq_true] at h
    obtain ⟨h1, h2⟩ := sh_pl h.1
    obtain ⟨h3, h4⟩ := shs_pl h.2
    refine ⟨by simp only [pls, h1, h3, Bool.and_self], fun p e => ?_⟩
    simp only [pys] at e
    split at e
    · rename_i a b e1 e2
      cases e
      simp only [PyData.depthAll]
      exact Nat.max_le.mpr ⟨h2 _ e1, h4 _ e2⟩
    · cases e
end
section
variable {g : Gx} {ρ : Rho} {H : Hp} {M : Mem}
mutual
theorem RD.dp : ∀ {d : D} {v : V} {p : PyData}, RD g ρ H d v → d.py = some p → Dp g.K H v p
  | _, _, _, .non, e => by cases e; exact .non
  | _, _, _, .bl b, e => by cases e; exact .bl b
  | _, _, _, .int b, e => by cases e; exact .int b
  | _, _, _, .str b, e => by cases e; exact .str b
  | _, _, _, .tup h r, e => by
    simp only [D.py, Option.map_eq_some_iff] at e
    obtain ⟨q, e, rfl⟩ := e
    exact .tup h.seq (RDs.dp r e)
  | _, _, _, .lst n h r, e => by
    simp only [D.py, Option.map_eq_some_iff] at e
    obtain ⟨q, e, rfl⟩ := e
    exact .lst (SqL.of h) (RDs.dp r e)
  | _, _, _, .rol h r, e => by
    simp only [D.py, Option.map_eq_some_iff] at e
    obtain ⟨q, e, rfl⟩ := e
    exact .lst h.seq (RDs.dp r e)
  | _, _, _, .dct _ _ _ _ _ _, e => by simp [D.py] at e
  | _, _, _, .obj _, e => by simp [D.py] at e
  | _, _, _, .fn _ _, e => by simp [D.py] at e
  | _, _, _, .ty _, e => by simp [D.py] at e
theorem RDs.dp : ∀ {d : List D} {v : List V} {p : List PyData}, RDs g ρ H d v → pys d = some p → DpAll g.K H v p
  | _, _, _, .nil, e => by cases e; exact .nil
  | _, _, _, .cons a r, e => by
    simp only [pys] at e
    split at e
    · rename_i x y e1 e2
      cases e
      exact .cons (RD.dp a e1) (RDs.dp r e2)
    · cases e
end
theorem RD.dpt {d : D} {v : V} {p : PyData} (r : Rep g ρ M H) (h : RD g ρ H d v) (e : (d.top M).py = some p) : Dp g.K H v p := by
  cases h with
  | @obj n a h =>
    obtain ⟨c, hc, ok⟩ := r.at_ h
    cases c with
    | lst l =>
      simp only [D.top, hc, D.py, Option.map_eq_some_iff] at e
      obtain ⟨q, e, rfl⟩ := e
      obtain ⟨vs, h1, h2⟩ := ok
      exact .lst (SqL.of h1) (RDs.dp h2 e)
    | dct _ => simp [D.top, hc, D.py] at e
  | non => exact RD.dp (ρ := ρ) .non e
  | bl b => exact RD.dp (ρ := ρ) (.bl b) e
  | int b => exact RD.dp (ρ := ρ) (.int b) e
  | str b => exact RD.dp (ρ := ρ) (.str b) e
  | tup h r => exact RD.dp (.tup h r) e
  | lst n h r => exact RD.dp (.lst n h r) e
  | rol h r => exact RD.dp (.rol h r) e
  | dct a z b c d e' => exact RD.dp (.dct a z b c d e') e
  | fn a b => exact RD.dp (ρ := ρ) (.fn a b) e
  | ty n => exact RD.dp (ρ := ρ) (.ty n) e
theorem flat_V {d : D} {v : V} (h : RD g ρ H d v) (f : d.flat = true) : flatV v = true := by cases h <;> first | rfl | (simp [D.flat] at f)
theorem flat_eq {d e : D} {v u : V} (h : RD g ρ H d v) (k : RD g ρ H e u) (f : d.flat = true) (f' : e.flat = true) : eqV v u = eqD d e := by
  cases h <;> first
    | (exact absurd f Bool.false_ne_true)
    | (cases k <;> first | (exact absurd f' Bool.false_ne_true) | rfl)
theorem flat_in {x : D} {v : V} (h : RD g ρ H x v) (f : x.flat = true) : ∀ {l : List D} {vs : List V}, RDs g ρ H l vs → l.all D.flat = true → vs.all flatV = true ∧ inV v vs = inD x l
  | _, _, .nil, _ => ⟨rfl, rfl⟩
  | _, _, .cons a r, e => by
    simp only [List.all_cons, Bool.and_eq_true] at e
    obtain ⟨h1, h2⟩ := flat_in h f r e.2
    refine ⟨by simp [flat_V a e.1, h1], ?_⟩
    show (eqV _ v || inV v _) = (eqD _ x || inD x _)
    rw [h2, flat_eq a h e.1 f]
end
section
variable {X : Cx}
theorem op_cmpD (hu : X.A.units + 64 < cLine) (op : CmpOp) : OpR X (compareOp op) (rOp2 (gx X) (cmpD op)) := by
  intro pins s σ H x y v u Q I rx ry h
  obtain ⟨ρ, M, d, e, rep, rd, re, h⟩ := h
  have go : ∀ {r : R2}, OpR X (compareOp op) r → r x y H Q → wpAny (model X.prog X.w) X.A (compareOp op v u) (EP X pins σ Q) X.xe s := fun o q => o pins s σ H x y v u Q I rx ry q
  have eqs : ∀ neg : Bool, eqOk (d.top M) (e.top M) = true → Q (.bl (neg != eqD (d.top M) (e.top M))) H → wpAny (model X.prog X.w) X.A (compareOp (if neg then .NotEq else .Eq) v u) (EP X pins σ Q) X.xe s := by
    intro neg ok q
    have dd : ∃ p q, (d.top M).py = some p ∧ (e.top M).py = some q ∧ p.canLay0 = true ∧ q.canLay0 = true ∧ PyData.eqv p q = eqD (d.top M) (e.top M) ∧ min p.depth q.depth ≤ 60 := by
      unfold eqOk at ok
      simp only [Bool.or_eq_true, Bool.and_eq_true] at ok
      rcases ok with ⟨h1, h2⟩ | ⟨h1, h2⟩
      · obtain ⟨a1, a2⟩ := sh_pl h1
        obtain ⟨p, hp, lp⟩ := pl_py a1
        obtain ⟨q, hq, lq⟩ := pl_py h2
        exact ⟨p, q, hp, hq, lp, lq, eqD_py a1 h2 hp hq, Nat.le_trans (Nat.min_le_left _ _) (a2 _ hp)⟩
      · obtain ⟨a1, a2⟩ := sh_pl h2
        obtain ⟨p, hp, lp⟩ := pl_py h1
        obtain ⟨q, hq, lq⟩ := pl_py a1
        exact ⟨p, q, hp, hq, lp, lq, eqD_py h1 a1 hp hq, Nat.le_trans (Nat.min_le_right _ _) (a2 _ hq)⟩
    obtain ⟨p, p', hp, hp', lp, lp', ee, dp⟩ := dd
    obtain ⟨as, r1⟩ := Dp.reads I p x v (RD.dpt rep rd hp) rx
    obtain ⟨bs, r2⟩ := Dp.reads I p' y u (RD.dpt rep re hp') ry
    have hu' : X.A.units + min p.depth p'.depth < cLine := by omega
    cases neg with
    | false => exact SeqAt.compareEq_reads r1 r2 lp lp' hu' ⟨.bl _, H, I, rfl, by rw [ee]; simpa using q⟩
    | true => exact SeqAt.compareNe_reads r1 r2 lp lp' hu' ⟨.bl _, H, I, rfl, by rw [ee]; simpa using q⟩
  have ins : ∀ neg : Bool, Post (gx X) ρ H (cmpIn neg d e M) (QV (gx X) Q) → wpAny (model X.prog X.w) X.A (compareOp (if neg then .NotIn else .In) v u) (EP X pins σ Q) X.xe s := by
    intro neg h
    unfold cmpIn at h
    split at h
    · exact h.no.elim
    · exact h.no.elim
    · split at h
      · rename_i l hl
        split at h
        · rename_i hf
          simp only [Bool.and_eq_true] at hf
          obtain ⟨a, vs, rfl, hs, q⟩ := seqOf_ok rep re hl
          obtain ⟨f1, f2⟩ := flat_in rd hf.1 q hf.2
          have q' := h.here rep _ (.bl _)
          cases neg with
          | false => exact op_in_seq pins s σ H x _ v u Q I rx ry ⟨a, vs, rfl, hs, flat_V rd hf.1, f1, by rw [f2]; simpa using q'⟩
          | true => exact op_notIn_seq pins s σ H x _ v u Q I rx ry ⟨a, vs, rfl, hs, flat_V rd hf.1, f1, by rw [f2]; simpa using q'⟩
        · exact h.no.elim
      · exact h.no.elim
  unfold cmpD at h
  split at h
  · split at h
    · rename_i b hb
      unfold emptyT at hb
      split at hb
      · cases hb
        obtain ⟨a1, vs, rfl, ha, qa⟩ := RD_tup rd
        obtain ⟨a2, us, rfl, hb, qb⟩ := RD_tup re
        cases qb
        cases rx; cases ry
        obtain ⟨i1, r1, t1, z1⟩ := I.tuple ha
        obtain ⟨i2, r2, t2, z2⟩ := I.tuple hb
        cases r2
        refine SeqAt.eq_tupleAt (e := fun _ => true) t1 t2 (by omega) (fun j _ h2 => absurd h2 (by simp)) ?_
        refine ⟨.bl _, H, I, ?_, h.here rep _ (.bl _)⟩
        show Value.bool _ = Value.bool _
        congr 1
        have e1 := qa.length
        have e2 := r1.length
        simp only [List.size_toArray, List.length_nil, Nat.min_zero, List.range_zero, List.all_nil, Bool.true_and, ← e2, ← e1]
        rename_i l
        cases l <;> rfl
      · cases hb
    · unfold cmpEq at h
      split at h
      · rename_i ok; exact eqs false ok (h.here rep _ (.bl _))
      · exact h.no.elim
  · unfold cmpEq at h
    split at h
    · rename_i ok; exact eqs true ok (h.here rep _ (.bl _))
    · exact h.no.elim
  · exact ins false h
  · exact ins true h
  · split at h
    · cases rd; cases re
      split at h
      · rename_i b hb
        unfold cmpI at hb
        split at hb
        · cases hb; exact go op_lt ⟨_, _, rfl, rfl, h.here rep _ (.bl _)⟩
        · cases hb; exact go op_le ⟨_, _, rfl, rfl, h.here rep _ (.bl _)⟩
        · cases hb; exact go op_gt ⟨_, _, rfl, rfl, h.here rep _ (.bl _)⟩
        · cases hb; exact go op_ge ⟨_, _, rfl, rfl, h.here rep _ (.bl _)⟩
        · cases hb
      · exact h.no.elim
    · exact h.no.elim

theorem truth_ok {g : Gx} {ρ : Rho} {H : Hp} {M : Mem} {d : D} {v : V} {b : Bool} (r : Rep g ρ M H) (h : RD g ρ H d v) (e : truth M d = some b) : TruV g.K v H b := by
  cases h with
  | non => simp only [truth, Option.some.injEq] at e; subst e; rfl
  | bl x => simp only [truth, Option.some.injEq] at e; subst e; rfl
  | int x => simp only [truth, Option.some.injEq] at e; subst e; rfl
  | str x =>
    simp only [truth] at e
    split at e
    · rename_i hl
      cases e
      refine ⟨LIM_line hl, ?_⟩
      by_cases hz : x.length = 0
      · rw [hz]; rfl
      · rw [bne_iff_ne.mpr hz, bne_iff_ne.mpr (by omega)]
    · cases e
  | tup h q =>
    simp only [truth, Option.some.injEq] at e; subst e
    refine .inr (.inl ⟨_, h.seq, ?_⟩)
    cases q <;> rfl
  | lst n h q =>
    simp only [truth, Option.some.injEq] at e; subst e
    refine .inl ⟨_, SqL.of h, ?_⟩
    cases q <;> rfl
  | rol h q =>
    simp only [truth, Option.some.injEq] at e; subst e
    refine .inl ⟨_, h.seq, ?_⟩
    cases q <;> rfl
  | @obj n a h =>
    obtain ⟨c, hc, ok⟩ := r.at_ h
    cases c with
    | lst l =>
      simp only [truth, hc, Option.some.injEq] at e; subst e
      obtain ⟨vs, h1, q⟩ := ok
      refine .inl ⟨_, SqL.of h1, ?_⟩
      cases q <;> rfl
    | dct _ => simp [truth, hc] at e
  | _ => simp [truth] at e
theorem atI_RDs {g : Gx} {ρ : Rho} {H : Hp} {l : List D} {vs : List V} {i : Int} {d : D} (q : RDs g ρ H l vs) (e : atI l i = some d) : ∃ v, atI vs i = some v ∧ RD g ρ H d v := by
  unfold atI at e ⊢
  rw [← q.length]
  obtain ⟨j, h1, h2⟩ := Option.bind_eq_some_iff.mp e
  obtain ⟨v, h3, h4⟩ := q.get h2
  exact ⟨v, by rw [h1]; exact h3, h4⟩
theorem ix_D : IxR X (rOp2 (gx X) idxD) := by
  intro value slice pins s σ H x y v u Q I rx ry h hs
  obtain ⟨ρ, M, d, e, rep, rd, re, h⟩ := h
  unfold idxD at h
  split at h
  · cases re
    split at h
    · rename_i l hl
      unfold atD at h
      split at h
      · rename_i z hz
        obtain ⟨a, vs, rfl, hs2, q⟩ := seqOf_ok rep rd hl
        obtain ⟨w, h1, h2⟩ := atI_RDs q hz
        have q' := h.here rep _ h2
        rcases hs2 with hs2 | hs2
        · exact ix_list value slice pins s σ H _ _ v u Q I rx ry ⟨a, vs, _, w, rfl, rfl, hs2, h1, q'⟩ hs
        · exact ix_tup value slice pins s σ H _ _ v u Q I rx ry ⟨a, vs, _, w, rfl, rfl, hs2, h1, q'⟩ hs
      · exact h.no.elim
    · exact h.no.elim
  · exact h.no.elim
theorem cutL_RDs {g : Gx} {ρ : Rho} {H : Hp} {l : List D} {vs : List V} (lo hi : Option Int) (q : RDs g ρ H l vs) : RDs g ρ H (cutL l lo hi) (cutV vs lo hi) := by
  unfold cutL cutV
  rw [q.length]
  exact (q.drop _).take _
def rSl (g : Gx) : V → Option Int → Option Int → Hp → VK → Prop := fun x lo hi H Q => ∃ ρ M d, Rep g ρ M H ∧ RD g ρ H d x ∧ Post g ρ H (sliD d lo hi M) (QV g Q)
theorem cutL_whole {α : Type} {l : List α} {lo hi : Option Int} (h : HT.sIx l.length 0 lo = 0 ∧ HT.sIx l.length l.length hi = l.length) : cutL l lo hi = l := by
  unfold cutL
  rw [h.1, h.2]; simp
theorem sl_D : SlR X (rSl (gx X)) := by
  intro pins s σ H x v vl vu lo hi sl Q I rx hs pl pu h
  obtain ⟨ρ, M, d, rep, rd, h⟩ := h
  unfold sliD at h
  split at h
  · obtain ⟨a, vs, rfl, ha, q⟩ := RD_tup rd
    refine sl_tupA pins s σ H _ v vl vu lo hi sl Q I rx hs pl pu ⟨a, vs, rfl, ha, fun hw => ?_, fun _ p hp => new_tup rep (cutL_RDs lo hi q) h hp⟩
    rw [← q.length] at hw
    rw [cutL_whole hw] at h
    exact h.here rep _ rd
  · split at h
    · rename_i l hl
      obtain ⟨a, vs, rfl, ha, q⟩ := lrOf_ok rep rd hl
      exact sl_list pins s σ H _ v vl vu lo hi sl Q I rx hs pl pu ⟨a, vs, rfl, ha, fun p hp => new_lst rep (cutL_RDs lo hi q) h hp⟩
    · exact h.no.elim
end
end Ev

set_option Elab.async false
set_option linter.all false
set_option maxRecDepth 100000
set_option maxHeartbeats 1000000
namespace Ev
open PySem PySem.Spec PyProof.Rows L2
def isiS (S T : String) : Option Bool := if T = "int" then some (S = "int" || S = "bool") else if T = "str" ∨ T = "tuple" ∨ T = "list" ∨ T = "bool" ∨ T = "dict" then some (decide (S = T)) else none
def tyL : List String := ["NoneType", "bool", "int", "str", "tuple", "list", "dict"]
def tyR : List String := ["int", "str", "tuple", "list", "bool", "dict"]
theorem kit_all : (tyL.all fun S => tyR.all fun T => decide (kitB S T = isiS S T)) = true := by decide +kernel
theorem kit_of' {K : PySem.W.Frag} {S T : String} {b : Bool} (hS : S ∈ tyL) (e : isiS S T = some b) : PySem.W.kitOne K (.type S) (.type T) = some b := by
  have hT : T ∈ tyR := by
    unfold isiS at e
    split at e
    · rename_i h; subst h; decide
    · split at e
      · rename_i h; rcases h with h | h | h | h | h <;> subst h <;> decide
      · cases e
  have h := List.all_eq_true.mp (List.all_eq_true.mp kit_all S hS) T hT
  exact kit_ty ((of_decide_eq_true h).trans e)
section
variable {X : Cx} {g : Gx} {ρ : Rho} {H : Hp} {M : Mem}
theorem RDs1 {x : D} {vs : List V} (h : RDs g ρ H [x] vs) : ∃ v, vs = [v] ∧ RD g ρ H x v := by
  cases h with | cons a r => cases r; exact ⟨_, rfl, a⟩
theorem RDs2 {x y : D} {vs : List V} (h : RDs g ρ H [x, y] vs) : ∃ v u, vs = [v, u] ∧ RD g ρ H x v ∧ RD g ρ H y u := by
  cases h with | cons a r => cases r with | cons b r => cases r; exact ⟨_, _, rfl, a, b⟩
theorem RDs3 {x y z : D} {vs : List V} (h : RDs g ρ H [x, y, z] vs) : ∃ v u w, vs = [v, u, w] ∧ RD g ρ H x v ∧ RD g ρ H y u ∧ RD g ρ H z w := by
  cases h with | cons a r => cases r with | cons b r => cases r with | cons c r => cases r; exact ⟨_, _, _, rfl, a, b, c⟩
theorem intsD_ok : ∀ {l : List D} {vs : List V} {ns : List Int}, RDs g ρ H l vs → intsD l = some ns → vs = ns.map V.int
  | _, _, _, .nil, e => by cases e; rfl
  | _, _, _, .cons a r, e => by
    cases a <;> simp only [intsD, reduceCtorEq, Option.map_eq_some_iff] at e
    obtain ⟨q, h, rfl⟩ := e
    rw [intsD_ok r h]; rfl
theorem bls_ok : ∀ {l : List D} {vs : List V} {ns : List Bool}, RDs g ρ H l vs → bls l = some ns → vs = ns.map V.bl
  | _, _, _, .nil, e => by cases e; rfl
  | _, _, _, .cons a r, e => by
    cases a <;> simp only [bls, reduceCtorEq, Option.map_eq_some_iff] at e
    obtain ⟨q, h, rfl⟩ := e
    rw [bls_ok r h]; rfl
theorem maxI_mem : ∀ (r : List Int) (m : Int), maxI m r ∈ m :: r ∧ ∀ y ∈ m :: r, y ≤ maxI m r
  | [], m => by simp [maxI]
  | x :: r, m => by
    obtain ⟨h1, h2⟩ := maxI_mem r (if m < x then x else m)
    have a := h2 _ List.mem_cons_self
    refine ⟨?_, fun y hy => ?_⟩
    · simp only [maxI]
      rcases List.mem_cons.mp h1 with h1 | h1
      · rw [h1]; split <;> simp
      · exact List.mem_cons_of_mem _ (List.mem_cons_of_mem _ h1)
    · simp only [maxI]
      rcases List.mem_cons.mp hy with rfl | hy
      · refine Int.le_trans ?_ a; split <;> omega
      · rcases List.mem_cons.mp hy with rfl | hy
        · refine Int.le_trans ?_ a; split <;> omega
        · exact h2 y (List.mem_cons_of_mem _ hy)
theorem minI_mem : ∀ (r : List Int) (m : Int), minI m r ∈ m :: r ∧ ∀ y ∈ m :: r, minI m r ≤ y
  | [], m => by simp [minI]
  | x :: r, m => by
    obtain ⟨h1, h2⟩ := minI_mem r (if x < m then x else m)
    have a := h2 _ List.mem_cons_self
    refine ⟨?_, fun y hy => ?_⟩
    · simp only [minI]
      rcases List.mem_cons.mp h1 with h1 | h1
      · rw [h1]; split <;> simp
      · exact List.mem_cons_of_mem _ (List.mem_cons_of_mem _ h1)
    · simp only [minI]
      rcases List.mem_cons.mp hy with rfl | hy
      · refine Int.le_trans a ?_; split <;> omega
      · rcases List.mem_cons.mp hy with rfl | hy
        · refine Int.le_trans a ?_; split <;> omega
        · exact h2 y (List.mem_cons_of_mem _ hy)
/-- what stands at a value's address, for isinstance -/
theorem kit_D {pins : List (Addr × Obj)} {σ : L2.St} {s : Shared} (I : Inv X pins σ H s) {d : D} {v : V} {u : Value} {S : String} (rep : Rep (gx X) ρ M H) (rd : RD (gx X) ρ H d v) (rv : RelV v u) (e : tyOf M d = some S) :
    S ∈ tyL ∧ ∃ P : Heap → Prop, PySem.W.KitX X.K u (.type S) P ∧ P s.heap ∧ u ≠ .builtin "__main__.__loader__#opaque" := by
  have lst : ∀ {a : Addr} {xs : List V}, SqL X.K H a xs → ∃ P : Heap → Prop, PySem.W.KitX X.K (.ref a) (.type "list") P ∧ P s.heap ∧ (Value.ref a) ≠ .builtin "__main__.__loader__#opaque" := fun h => by
    obtain ⟨its, r, pl, _⟩ := I.list h
    exact ⟨_, PySem.W.kitx_list, pl.isList.typeIs, fun z => nomatch z⟩
  have dct : ∀ {a : Addr} {o : Obj}, AtO (gx X) ρ H a o → o.ExactDict → ∃ P : Heap → Prop, PySem.W.KitX X.K (.ref a) (.type "dict") P ∧ P s.heap ∧ (Value.ref a) ≠ .builtin "__main__.__loader__#opaque" := fun {a o} h hx => by
    refine ⟨_, PySem.W.kitx_dict, ⟨o, ?_, hx.1⟩, fun z => nomatch z⟩
    rcases h with ⟨_, h⟩ | h
    · exact (I.hok a _ h).1
    · exact I.kIn a o h
  cases rd with
  | non => cases e; cases rv; exact ⟨by decide, _, PySem.W.kitx_none, True.intro, fun z => nomatch z⟩
  | bl b => cases e; cases rv; exact ⟨by decide, _, PySem.W.kitx_bool, True.intro, fun z => nomatch z⟩
  | int i => cases e; obtain ⟨t, rfl⟩ := rv; exact ⟨by decide, _, PySem.W.kitx_int, True.intro, fun z => nomatch z⟩
  | str x => cases e; obtain ⟨t, rfl⟩ := rv; exact ⟨by decide, _, PySem.W.kitx_str, True.intro, fun z => nomatch z⟩
  | tup h q =>
    cases e; cases rv
    obtain ⟨its, r, ⟨o, h1, h2, _⟩, _⟩ := I.tuple h.seq
    exact ⟨by decide, _, PySem.W.kitx_tuple, ⟨o, h1, h2⟩, fun z => nomatch z⟩
  | lst n h q => cases e; cases rv; exact ⟨by decide, lst (SqL.of h)⟩
  | rol h q => cases e; cases rv; exact ⟨by decide, lst h.seq⟩
  | dct h z a b c r => cases e; cases rv; exact ⟨by decide, dct h a⟩
  | @obj n a h =>
    obtain ⟨c, hc, ok⟩ := rep.at_ h
    cases rv
    cases c with
    | lst l =>
      simp only [tyOf, hc, Option.some.injEq] at e; subst e
      obtain ⟨vs, h1, _⟩ := ok
      exact ⟨by decide, lst (SqL.of h1)⟩
    | dct l =>
      simp only [tyOf, hc, Option.some.injEq] at e; subst e
      obtain ⟨o, es, ep, h1, _, h2, _⟩ := ok
      exact ⟨by decide, _, PySem.W.kitx_dict, ⟨o, (I.hok a _ h1).1, h2.1⟩, fun z => nomatch z⟩
  | fn _ _ => cases e
  | ty _ => cases e

mutual
theorem noDict {K : PySem.W.Frag} : ∀ {v : V} {p : PyData}, Dp K H v p → p.hasDict = false
  | _, _, .non => by simp only [PyData.hasDict]
  | _, _, .bl _ => by simp only [PyData.hasDict]
  | _, _, .int _ => by simp only [PyData.hasDict]
  | _, _, .str _ => by simp only [PyData.hasDict]
  | _, _, .lst _ r => by simp only [PyData.hasDict]; exact noDicts r
  | _, _, .tup _ r => by simp only [PyData.hasDict]; exact noDicts r
theorem noDicts {K : PySem.W.Frag} : ∀ {v : List V} {p : List PyData}, DpAll K H v p → PyData.hasDictAll p = false
  | _, _, .nil => by simp only [PyData.hasDictAll]
  | _, _, .cons a r => by simp only [PyData.hasDictAll, noDict a, noDicts r, Bool.or_self]
end
theorem repr_D {pins : List (Addr × Obj)} {σ : L2.St} {s : Shared} {v : V} {u : Value} {p : PyData} {Q : VK} (I : Inv X pins σ H s) (hu : X.A.units + 64 < cLine) (hg : X.A.guards = some []) (dp : Dp X.K H v p) (rv : RelV v u)
    (h1 : p.showable = true) (h2 : p.depth ≤ 60) (h3 : p.shown.length ≤ LIM) (q : Q (.str p.shown) H) : wpAny (model X.prog X.w) X.A (PySem.call (.builtin "repr") [u]) (EP X pins σ Q) X.xe s := by
  obtain ⟨as, rds⟩ := Dp.reads I p v u dp rv
  have nd : p.hasDict = true → sysModules ∉ as := fun hd => by rw [noDict dp] at hd; cases hd
  have big : ∀ {a : Addr}, u = .ref a → wpAny (model X.prog X.w) X.A (PySem.call (.builtin "repr") [u]) (EP X pins σ Q) X.xe s := fun {a} e => by
    subst e
    exact repr_of_reads' rds h1 nd hg (by omega) (fun _ _ e => e) (fun h' t tk hk => ⟨.str _, H, I.kept hk, ⟨_, rfl⟩, q⟩) (LIM_line h3)
  cases dp with
  | non => cases rv; exact PySem.P.repr_of_none ⟨.str _, H, I.tok _, ⟨_, rfl⟩, by simpa only [PyData.shown] using q⟩
  | bl b => cases rv; exact PySem.P.repr_of_bool ⟨.str _, H, I.tok _, ⟨_, rfl⟩, by simpa only [PyData.shown] using q⟩
  | int i => obtain ⟨t, rfl⟩ := rv; exact PySem.P.repr_of_int (by simpa only [PyData.showable, decide_eq_true_eq] using h1) ⟨.str _, H, I.tok _, ⟨_, rfl⟩, by simpa only [PyData.shown] using q⟩
  | str x => obtain ⟨t, rfl⟩ := rv; exact PySem.P.repr_of_str ⟨.str _, H, I.tok _, ⟨_, rfl⟩, by simpa only [PyData.shown] using q⟩ (by simpa only [PyData.shown] using LIM_line h3)
  | lst _ _ => exact big rv
  | tup _ _ => exact big rv

def bltV : Blt → Value
  | .len => .builtin "len"
  | .isi => .builtin "isinstance"
  | .repr => .builtin "repr"
  | .all => .builtin "all"
  | .any => .builtin "any"
  | .int => .type "int"
  | .abs => .builtin "abs"
  | .max => .builtin "max"
  | .min => .builtin "min"
  | .sum => .builtin "sum"
  | .tuple => .type "tuple"
  | .list => .type "list"
  | .divmod => .builtin "divmod"
theorem call_bltD (call : D → List D → Mem → Res D) (hc : X.calm = true) (hu : X.A.units + 64 < cLine) (hg : X.A.guards = some []) (b : Blt) : CallR X (bltV b) (rOpN (gx X) (bltD call b)) := by
  intro pins s σ H xs us Q I r h
  obtain ⟨ρ, M, ds, rep, rd, h⟩ := h
  have go : ∀ {f : Value} {r' : List V → Hp → VK → Prop}, CallR X f r' → r' xs H Q → wpAny (model X.prog X.w) X.A (PySem.call f us) (EP X pins σ Q) X.xe s := fun o q => o pins s σ H xs us Q I r q
  have lsts : ∀ {x : D} {v : V} {α : Type} {f : List D → Option α} {y : α}, RD (gx X) ρ H x v → (lstOf M x).bind f = some y → ∃ a vs l, v = .ref a ∧ SqL X.K H a vs ∧ RDs (gx X) ρ H l vs ∧ f l = some y := fun rx e => by
    obtain ⟨l, h1, h2⟩ := Option.bind_eq_some_iff.mp e
    obtain ⟨a, vs, rfl, h3, h4⟩ := lstOf_ok rep rx h1
    exact ⟨a, vs, l, rfl, SqL.of h3, h4, h2⟩
  unfold bltD at h
  split at h
  · -- len
    obtain ⟨v, rfl, rx⟩ := RDs1 rd
    split at h
    · split at h
      · rename_i hl; cases rx; exact go call_len_str ⟨_, rfl, LIM_line hl, h.here rep _ (.int _)⟩
      · exact h.no.elim
    · split at h
      · rename_i l hl
        obtain ⟨a, vs, rfl, h1, q⟩ := seqOf_ok rep rx hl
        exact go call_len_seq ⟨a, vs, rfl, h1, by rw [← q.length]; exact h.here rep _ (.int _)⟩
      · exact h.no.elim
  · -- isinstance
    obtain ⟨v, c, rfl, rx, rt⟩ := RDs2 rd
    split at h
    · rename_i b hb
      unfold isiD at hb
      split at hb
      · cases rt
        split at hb
        · rename_i S hS
          obtain ⟨u1, u2, rfl, r1, r2⟩ := vals2 r
          cases r2
          obtain ⟨mS, P, Z, p, hx⟩ := kit_D I rep rx r1 hS
          exact PySem.W.kia_one Z I.kIn p (kit_of' mS hb) hx fun tk => ⟨.bl b, H, I.tok tk, rfl, h.here rep _ (.bl _)⟩
        · cases hb
      · cases hb
    · exact h.no.elim
  · -- repr
    obtain ⟨v, rfl, rx⟩ := RDs1 rd
    split at h
    · rename_i p hp
      split at h
      · rename_i hl
        simp only [Bool.and_eq_true, decide_eq_true_eq] at hl
        obtain ⟨⟨h1, h2⟩, h3⟩ := hl
        obtain ⟨u, rfl, r1⟩ := vals1 r
        exact repr_D I hu hg (RD.dpt rep rx hp) r1 h1 h2 h3 (h.here rep _ (.str _))
      · exact h.no.elim
    · exact h.no.elim
  · -- all
    obtain ⟨v, rfl, rx⟩ := RDs1 rd
    split at h
    · rename_i bs hb
      obtain ⟨a, vs, l, rfl, h1, q, h2⟩ := lsts rx hb
      rw [bls_ok q h2] at h1
      exact go (cr_all hc) ⟨a, bs, rfl, h1, h.here rep _ (.bl _)⟩
    · exact h.no.elim
  · -- any
    obtain ⟨v, rfl, rx⟩ := RDs1 rd
    split at h
    · rename_i bs hb
      obtain ⟨a, vs, l, rfl, h1, q, h2⟩ := lsts rx hb
      rw [bls_ok q h2] at h1
      exact go (cr_any hc) ⟨a, bs, rfl, h1, h.here rep _ (.bl _)⟩
    · exact h.no.elim
  · -- int
    obtain ⟨v, rfl, rx⟩ := RDs1 rd
    split at h
    · cases rx; exact go call_int1 (.inl ⟨_, rfl, h.here rep _ (.int _)⟩)
    · cases rx; exact go call_int1 (.inr ⟨_, rfl, h.here rep _ (.int _)⟩)
    · exact h.no.elim
  · -- abs
    obtain ⟨v, rfl, rx⟩ := RDs1 rd
    split at h
    · cases rx; exact go call_abs ⟨_, rfl, h.here rep _ (.int _)⟩
    · exact h.no.elim
  · -- max of a list
    obtain ⟨v, rfl, rx⟩ := RDs1 rd
    split at h
    · rename_i m ns hb
      obtain ⟨a, vs, l, rfl, h1, q, h2⟩ := lsts rx hb
      rw [intsD_ok q h2] at h1
      refine go (cr_max hc) ⟨a, m :: ns, rfl, h1, by simp, fun k k1 k2 => ?_⟩
      obtain ⟨m1, m2⟩ := maxI_mem ns m
      have e : k = maxI m ns := Int.le_antisymm (m2 k k1) (k2 _ m1)
      rw [e]; exact h.here rep _ (.int _)
    · exact h.no.elim
  · -- max of two
    obtain ⟨v, u, rfl, rx, ry⟩ := RDs2 rd
    split at h
    · cases rx; cases ry; exact go (call_max2 hc) ⟨_, _, rfl, h.here rep _ (.int _)⟩
    · exact h.no.elim
  · -- min of a list
    obtain ⟨v, rfl, rx⟩ := RDs1 rd
    split at h
    · rename_i m ns hb
      obtain ⟨a, vs, l, rfl, h1, q, h2⟩ := lsts rx hb
      rw [intsD_ok q h2] at h1
      refine go (cr_min hc) ⟨a, m :: ns, rfl, h1, by simp, fun k k1 k2 => ?_⟩
      obtain ⟨m1, m2⟩ := minI_mem ns m
      have e : k = minI m ns := Int.le_antisymm (k2 _ m1) (m2 k k1)
      rw [e]; exact h.here rep _ (.int _)
    · exact h.no.elim
  · -- min of two
    obtain ⟨v, u, rfl, rx, ry⟩ := RDs2 rd
    split at h
    · cases rx; cases ry; exact go (call_min2 hc) ⟨_, _, rfl, h.here rep _ (.int _)⟩
    · exact h.no.elim
  · -- sum
    obtain ⟨v, rfl, rx⟩ := RDs1 rd
    split at h
    · rename_i ns hb
      obtain ⟨a, vs, l, rfl, h1, q, h2⟩ := lsts rx hb
      rw [intsD_ok q h2] at h1
      exact go (cr_sum hc) ⟨a, ns, rfl, h1, h.here rep _ (.int _)⟩
    · exact h.no.elim
  · -- tuple
    obtain ⟨v, rfl, rx⟩ := RDs1 rd
    split at h
    · obtain ⟨a, vs, rfl, h1, q⟩ := RD_tup rx
      exact go call_tuple_of ⟨_, _, rfl, .inr ⟨h1, h.here rep _ rx⟩⟩
    · split at h
      · rename_i l hl
        obtain ⟨a, vs, rfl, h1, q⟩ := lrOf_ok rep rx hl
        exact go call_tuple_of ⟨_, _, rfl, .inl ⟨h1, fun p hp => new_tup rep q h hp⟩⟩
      · exact h.no.elim
  · -- list
    obtain ⟨v, rfl, rx⟩ := RDs1 rd
    split at h
    · rename_i l hl
      obtain ⟨a, vs, rfl, h1, q⟩ := seqOf_ok rep rx hl
      exact go call_list_of ⟨_, _, rfl, h1, fun p hp => new_lst rep q h hp⟩
    · exact h.no.elim
  · -- divmod
    obtain ⟨v, u, rfl, rx, ry⟩ := RDs2 rd
    split at h
    · cases rx; cases ry
      split at h
      · rename_i hl
        exact go call_divmod ⟨_, _, rfl, hl, fun p hp => new_tup rep (.cons (.int _) (.cons (.int _) .nil)) h hp⟩
      · exact h.no.elim
    · exact h.no.elim
  · exact h.no.elim
end
end Ev

set_option Elab.async false
set_option linter.all false
set_option maxRecDepth 100000
set_option maxHeartbeats 1000000
namespace Ev
open PySem PySem.Spec PyProof.Rows L2
/-! ### dicts whose keys are whole numbers and texts -/
def lkey : D → Option Key
  | .int i => some (.inl i)
  | .str s => some (.inr s)
  | _ => none
section
variable {g : Gx} {ρ : Rho} {H : Hp} {M : Mem}
theorem leaf_key {k : D} {v : V} {u : Value} (h : k.leaf = true) (r : RD g ρ H k v) (q : RelV v u) : ∃ κ, lkey k = some κ ∧ keyIs κ u = true ∧ ∀ {k' : D} {κ' : Key}, lkey k' = some κ' → keyIs κ' u = decide (k.nk = k'.nk) := by
  cases r <;> first | (exact absurd h Bool.false_ne_true) | skip
  · obtain ⟨t, rfl⟩ := q
    refine ⟨_, rfl, keyIs_int _ _, fun {k' κ'} e => ?_⟩
    cases k' <;> cases e
    · simp only [keyIs, Value.isInt, D.nk, NestedKey.num.injEq] <;> rfl
    · simp [keyIs, Value.isStrOf, D.nk]
  · obtain ⟨t, rfl⟩ := q
    refine ⟨_, rfl, keyIs_str _ _, fun {k' κ'} e => ?_⟩
    cases k' <;> cases e
    · simp [keyIs, Value.isInt, D.nk]
    · simp only [keyIs, Value.isStrOf, D.nk, NestedKey.text.injEq] <;> rfl
theorem leaf_find {k : D} {κ : Key} (hk : lkey k = some κ) : ∀ {kvs : List (D × D)} {es : List DictEntry}, RDe g ρ H kvs es → (∀ p ∈ kvs, p.1.leaf = true) →
    match kget kvs k with
    | some d => ∃ u v, (es.find? fun e => keyIs κ e.key).map (·.val) = some u ∧ RelV v u ∧ RD g ρ H d v
    | none => (es.find? fun e => keyIs κ e.key).map (·.val) = none
  | _, _, .nil, _ => rfl
  | _, _, .cons (k := k1) (v := v1) (e := e1) (kvs := kvs) (es := es) r1 q1 h1 r2 q2 r, hl => by
    obtain ⟨κ1, _, _, h3⟩ := leaf_key (hl _ List.mem_cons_self) r1 q1
    have e3 := h3 hk
    by_cases e : k1.nk = k.nk
    · have e4 : kget ((k1, v1) :: kvs) k = some v1 := by simp [kget, e]
      rw [e4]
      refine ⟨e1.val, _, ?_, q2, r2⟩
      rw [List.find?_cons_of_pos (by rw [e3]; simp [e])]; rfl
    · have e4 : kget ((k1, v1) :: kvs) k = kget kvs k := by simp [kget, e]
      rw [e4, List.find?_cons_of_neg (by rw [e3]; simp [e])]
      exact leaf_find hk r fun p hp => hl p (List.mem_cons_of_mem _ hp)
theorem leaf_keysOf {P : Program} {w : World} (hw : g.w = w) : ∀ {kvs : List (D × D)} {es : List DictEntry}, RDe g ρ H kvs es → (∀ p ∈ kvs, p.1.leaf = true) → ∀ e ∈ es, ∃ k, (mixKind P w).is k e.key = true ∧ e.hash = (mixKind P w).hash k
  | _, _, .nil, _, e, h => by cases h
  | _, _, .cons r1 q1 h1 r2 q2 r, hl, e, h => by
    rcases List.mem_cons.mp h with rfl | h
    · obtain ⟨κ1, h2, h3, _⟩ := leaf_key (hl _ List.mem_cons_self) r1 q1
      refine ⟨κ1, h3, ?_⟩
      rw [h1, hw]
      revert h2
      cases r1 <;> intro h2 <;> cases h2 <;> rfl
    · exact leaf_keysOf hw r (fun p hp => hl p (List.mem_cons_of_mem _ hp)) e h
end
section
variable {X : Cx} {pins : List (Addr × Obj)} {σ : L2.St} {s : Shared} {ρ : Rho} {H : Hp} {M : Mem}
theorem AtO.at_ {a : Addr} {o : Obj} (I : Inv X pins σ H s) (h : AtO (gx X) ρ H a o) : s.heap.get? a = some o := by
  rcases h with ⟨_, h⟩ | h
  · exact (I.hok a _ h).1
  · exact I.kIn a o h
theorem leaf_map {a : Addr} {o : Obj} {es : Array DictEntry} {ep : Nat} {kvs : List (D × D)} (ho : s.heap.get? a = some o) (hx : o.ExactDict) (hd : o.data = .dict es ep) (r : RDe (gx X) ρ H kvs es.toList) (hl : ∀ p ∈ kvs, p.1.leaf = true) :
    s.heap.MapOf (mixKind X.prog X.w) a (findBy keyIs es) :=
  ⟨o, es, ep, ho, hx, hd, fun e he => leaf_keysOf rfl r hl e (by simpa using he), fun k => rfl⟩
end

/-! ### methods -/
/-- the receiver's built-in type and what the call gives -/
def rMet (g : Gx) (f : D → List D → Mem → Res D) : V → List V → Hp → VK → Prop := fun x xs H Q => ∃ ρ M d ds, Rep g ρ M H ∧ RD g ρ H d x ∧ RDs g ρ H ds xs ∧ Post g ρ H (f d ds M) (QV g Q)
def metT : Met → String
  | .append => "list"
  | .get => "dict"
def metId : Met → String
  | .append => "list.append"
  | .get => "dict.get"
theorem metD_rec {m : Met} {M : Mem} {d : D} {ds : List D} (h : recD m M d = false) : metD m d ds M = .bad := by
  unfold metD
  split
  · simp only [recD] at h
    split
    · rename_i e; rw [e] at h; cases h
    · rfl
  · simp [recD] at h
  · rfl
section
variable {X : Cx} {ρ : Rho} {H : Hp} {M : Mem}
theorem rec_is {pins : List (Addr × Obj)} {σ : L2.St} {s : Shared} {m : Met} {d : D} {v : V} {u : Value} (I : Inv X pins σ H s) (rep : Rep (gx X) ρ M H) (rd : RD (gx X) ρ H d v) (rv : RelV v u) (h : recD m M d = true) :
    s.TypeIs u (metT m) ∧ ∀ a, u = .ref a → ∃ ob, s.heap.get? a = some ob ∧ ob.dict = none := by
  have lst : ∀ {a : Addr} {vs : List V}, H a = some (.lst vs) → s.TypeIs (.ref a) "list" ∧ ∀ b, Value.ref a = .ref b → ∃ ob, s.heap.get? b = some ob ∧ ob.dict = none := fun {a vs} h => by
    obtain ⟨its, _, pl, _⟩ := I.list (SqL.of h)
    refine ⟨pl.isList.typeIs, fun b e => ?_⟩
    cases e
    obtain ⟨o, n, e, c, hd, _⟩ := pl
    exact ⟨o, e, hd⟩
  cases m with
  | append =>
    cases rd with
    | @obj n a h1 =>
      obtain ⟨c, hc, ok⟩ := rep.at_ h1
      cases rv
      cases c with
      | lst l => obtain ⟨vs, h2, _⟩ := ok; exact lst h2
      | dct l => simp [recD, hc] at h
    | _ => exact absurd h Bool.false_ne_true
  | get =>
    cases rd with
    | dct h1 z h2 h3 h4 h5 =>
      cases rv
      have e := h1.at_ I
      exact ⟨⟨_, e, h2.1⟩, fun b e2 => by cases e2; exact ⟨_, e, h2.2.1⟩⟩
    | _ => exact absurd h Bool.false_ne_true
theorem mt_D (m : Met) : MtR X (metId m) (rMet (gx X) (metD m)) := by
  intro pins s σ H x xs v us Q I rx rxs h
  obtain ⟨ρ, M, d, ds, rep, rd, rds, h⟩ := h
  unfold metD at h
  split at h
  · -- append
    split at h
    · rename_i x0 _ l hl
      split at h
      · rename_i hz
        simp only [Bool.and_eq_true, decide_eq_true_eq] at hz
        cases rd with
        | @obj n a h1 =>
          obtain ⟨y, rfl, ry⟩ := RDs1 rds
          have ok := rep.cell _ _ _ h1 hl
          obtain ⟨vs, h2, q⟩ := ok
          refine mt_append pins s σ H _ _ v us Q I rx rxs ⟨a, vs, y, rfl, rfl, h2, by rw [← q.length]; exact LIM_lt hz.1, ?_⟩
          have hu : Cell.und _ (.lst (l ++ [x0])) = true := unds_append (rep.un _ _ hl) (by simp only [unds, hz.2, Bool.and_true])
          refine h _ _ (Ext.write rep h1) (rep.write h1 ⟨_, upd_same, ?_⟩ hu) _ .non
          exact (q.append (.cons ry .nil)).ext (Ext.write rep h1)
      · exact h.no.elim
    · exact h.no.elim
  · -- get
    split at h
    · rename_i hk
      obtain ⟨vk, vd, rfl, rk, rd2⟩ := RDs2 rds
      simp only [kOk, Bool.and_eq_true, List.all_eq_true] at hk
      cases rd with
      | @dct a o es ep kvs h1 z h2 h3 h4 h5 =>
        cases rx
        have e := h1.at_ I
        obtain ⟨uk, ud, rfl, r1, r2⟩ := vals2 rxs
        have mp := leaf_map e h2 h3 h5 hk.2
        obtain ⟨κ, c1, c2, _⟩ := leaf_key hk.1 rk r1
        have ff := leaf_find c1 h5 hk.2
        refine call_meetsIn PySem.F.slot_dict_get (⟨_, e, h2.1⟩ : s.TypeIs (.ref a) "dict") PySem.F.entry_dict_get (PySem.F.args_dict_get_3 _ _ _) (meets_dict_get_default (knd := mixKind X.prog X.w) (k := κ) (d := a) c2 z ud) ⟨_, mp, ?_⟩
        have ef : findBy keyIs es κ = (es.toList.find? fun e => keyIs κ e.key).map (·.val) := by
          unfold findBy; rw [Array.find?_toList]
        rw [ef]
        split at ff
        · rename_i d' hd'
          obtain ⟨u', v', f1, f2, f3⟩ := ff
          rw [f1]
          exact ⟨v', H, I.tok _, f2, by rw [hd'] at h; exact h.here rep _ f3⟩
        · rename_i hd'
          rw [ff]
          exact ⟨vd, H, I.tok _, r2, by rw [hd'] at h; exact h.here rep _ rd2⟩
    · exact h.no.elim
  · exact h.no.elim
/-- o[i] = v -/
def rSet (g : Gx) : V → V → V → Hp → (Hp → Prop) → Prop := fun o i v H Q => ∃ ρ M d e f M', Rep g ρ M H ∧ RD g ρ H d o ∧ RD g ρ H e i ∧ RD g ρ H f v ∧ setD d e f M = some M' ∧ ∀ ρ' H', Ext ρ H ρ' H' → Rep g ρ' M' H' → Q H'
theorem set_D : PSet X (rSet (gx X)) := by
  intro pins s σ H o i v uo ui uv Q I ro ri rv h
  obtain ⟨ρ, M, d, e, f, M', rep, rd, re, rf, hs, h⟩ := h
  unfold setD at hs
  split at hs
  · split at hs
    · rename_i l hl
      split at hs
      · rename_i j hj
        split at hs
        · cases hs
          cases re
          cases rd with
          | @obj n a h1 =>
            have ok := rep.cell _ _ _ h1 hl
            obtain ⟨vs, h2, q⟩ := ok
            have hu : Cell.und _ (.lst (l.set j f)) = true := unds_set (rep.un _ _ hl) (by assumption) j
            refine set_list pins s σ H _ _ _ uo ui uv Q I ro ri rv ⟨a, vs, _, j, rfl, rfl, h2, by rw [← q.length]; exact hj, h _ _ (Ext.write rep h1) (rep.write h1 ⟨_, upd_same, ?_⟩ hu)⟩
            exact (q.set j rf).ext (Ext.write rep h1)
        · cases hs
      · cases hs
    · cases hs
  · cases hs
end
end Ev

set_option Elab.async false
set_option linter.all false
set_option maxRecDepth 100000
set_option maxHeartbeats 1000000
/-! Ev5: how arguments come to parameters. -/
namespace Ev
open PySem PySem.Spec PyProof.Rows L2
section
variable {α β : Type}
def bindF (s : List (Str × α)) : List (Str × α) → List (Str × α)
  | [] => s
  | p :: r => bindF (if (s.lookup p.1).isNone then s ++ [p] else s) r
def bindS (ps ks : List Str) (us ws ds : List α) : List (Str × α) := bindF (ps.zip us ++ ks.zip ws) ((ps.drop (ps.length - ds.length)).zip ds)
def look (s : List (Str × α)) : List Str → Option (List α)
  | [] => some []
  | p :: r => match s.lookup p, look s r with
    | some x, some l => some (x :: l)
    | _, _ => none
def bindP (ps ks : List Str) (us ws ds : List α) : Option (List α) := look (bindS ps ks us ws ds) ps
/-- two lists of the same keys, values related -/
abbrev Rl (R : α → β → Prop) : List (Str × α) → List (Str × β) → Prop := Paired fun p q => p.1 = q.1 ∧ R p.2 q.2
variable {R : α → β → Prop}
theorem Rl.look1 {s : List (Str × α)} {t : List (Str × β)} (h : Rl R s t) (k : Str) : (s.lookup k = none ∧ t.lookup k = none) ∨ ∃ x y, s.lookup k = some x ∧ t.lookup k = some y ∧ R x y := by
  induction h with
  | nil => exact .inl ⟨rfl, rfl⟩
  | @cons p q s t r _ ih =>
    obtain ⟨a, x⟩ := p
    obtain ⟨b, y⟩ := q
    obtain ⟨e, r⟩ := r
    cases e
    rw [List.lookup_cons, List.lookup_cons]
    cases k == a with
    | true => exact .inr ⟨x, y, rfl, rfl, r⟩
    | false => exact ih
theorem Rl.append {s s' : List (Str × α)} {t t' : List (Str × β)} (h : Rl R s t) (h' : Rl R s' t') : Rl R (s ++ s') (t ++ t') := by
  induction h with
  | nil => exact h'
  | cons r _ ih => exact .cons r ih
theorem Rl.zip {us : List α} {vs : List β} (h : Paired R us vs) : ∀ ps : List Str, Rl R (ps.zip us) (ps.zip vs) := by
  induction h with
  | nil => intro ps; rw [List.zip_nil_right, List.zip_nil_right]; exact .nil
  | cons r _ ih =>
    intro ps
    cases ps with
    | nil => exact .nil
    | cons p ps => exact .cons ⟨rfl, r⟩ (ih ps)
theorem Rl.bindF {s' : List (Str × α)} {t' : List (Str × β)} (h' : Rl R s' t') : ∀ {s : List (Str × α)} {t : List (Str × β)}, Rl R s t → Rl R (bindF s s') (bindF t t') := by
  induction h' with
  | nil => exact fun h => h
  | @cons p q s' t' r _ ih =>
    intro s t h
    obtain ⟨a, x⟩ := p
    obtain ⟨b, y⟩ := q
    obtain ⟨e, r⟩ := r
    cases e
    unfold Ev.bindF
    refine ih ?_
    rcases h.look1 a with ⟨h1, h2⟩ | ⟨x', y', h1, h2, _⟩
    · rw [h1, h2]; exact h.append (.cons ⟨rfl, r⟩ .nil)
    · rw [h1, h2]; exact h
theorem Rl.look {s : List (Str × α)} {t : List (Str × β)} (h : Rl R s t) : ∀ (ps : List Str) (l : List α), look s ps = some l → ∃ m, look t ps = some m ∧ Paired R l m
  | [], l, e => by cases e; exact ⟨[], rfl, .nil⟩
  | p :: ps, l, e => by
    unfold Ev.look at e
    rcases h.look1 p with ⟨h1, h2⟩ | ⟨x, y, h1, h2, r⟩
    · rw [h1] at e; cases e
    · rw [h1] at e
      cases e2 : Ev.look s ps with
      | none => rw [e2] at e; cases e
      | some l2 =>
        rw [e2] at e; cases e
        obtain ⟨m, h3, h4⟩ := Rl.look h ps l2 e2
        refine ⟨y :: m, ?_, .cons r h4⟩
        unfold Ev.look; rw [h2, h3]
theorem bindP_rel {ps ks : List Str} {us ws ds : List α} {us' ws' ds' : List β} (h1 : Paired R us us') (h2 : Paired R ws ws') (h3 : Paired R ds ds') {l : List α} (e : bindP ps ks us ws ds = some l) :
    ∃ m, bindP ps ks us' ws' ds' = some m ∧ Paired R l m := by
  have hl : ds.length = ds'.length := Paired.length h3
  refine Rl.look ?_ ps l e
  unfold bindS
  rw [← hl]
  exact Rl.bindF (Rl.zip h3 _) ((Rl.zip h1 _).append (Rl.zip h2 _))
theorem look_zip {s : List (Str × α)} : ∀ (ps : List Str) (l : List α), look s ps = some l → (ps.filterMap fun n => (s.lookup n).map (n, ·)) = ps.zip l
  | [], l, e => by cases e; rfl
  | p :: ps, l, e => by
    unfold look at e
    cases h1 : s.lookup p with
    | none => rw [h1] at e; cases e
    | some x =>
      rw [h1] at e
      cases e2 : look s ps with
      | none => rw [e2] at e; cases e
      | some l2 =>
        rw [e2] at e; cases e
        rw [List.filterMap_cons, h1, List.zip_cons_cons, ← look_zip ps l2 e2]; rfl
end
theorem lookup_app {α : Type} {k : Str} : ∀ {s t : List (Str × α)}, (s ++ t).lookup k = (s.lookup k).or (t.lookup k)
  | [], t => by simp
  | (a, x) :: s, t => by
    rw [List.cons_append, List.lookup_cons, List.lookup_cons]
    cases k == a with
    | true => rfl
    | false => exact lookup_app
/-- the keywords' names are parameters that are not given yet, each once -/
def kwOk (ps : List Str) : List (Str × Unit) → List Str → Bool
  | _, [] => true
  | s, k :: r => ps.contains k && (s.lookup k).isNone && kwOk ps (s ++ [(k, ())]) r
def unitsOf (ps : List Str) : List (Str × Unit) := ps.map fun p => (p, ())
def bindOk (ps ks : List Str) (n nd : Nat) : Bool :=
  decide (n ≤ ps.length) && decide (nd ≤ ps.length) && kwOk ps (unitsOf (ps.take n)) ks && (ps.take (ps.length - nd)).all fun p => ((unitsOf (ps.take n ++ ks)).lookup p).isSome
theorem loop1 {ps : List Str} {F : Str × Value → List (Str × Value) × List (Str × Value) → Sem (ForInStep (List (Str × Value) × List (Str × Value)))}
    (hF : ∀ k v s e, ps.contains k = true → (s.lookup k).isNone = true → F (k, v) (s, e) = pure (.yield (s ++ [(k, v)], e))) :
    ∀ (ks : List Str) (ws : List Value) (s : List (Str × Value)) (u : List (Str × Unit)) (e : List (Str × Value)), ks.length = ws.length → (∀ k, (s.lookup k).isNone = (u.lookup k).isNone) → kwOk ps u ks = true →
      forIn (ks.zip ws) (s, e) F = pure (s ++ ks.zip ws, e)
  | [], [], s, u, e, _, _, _ => by simp
  | [], _ :: _, _, _, _, h, _, _ => by simp at h
  | _ :: _, [], _, _, _, h, _, _ => by simp at h
  | k :: ks, v :: ws, s, u, e, hl, hu, ho => by
    unfold kwOk at ho
    simp only [Bool.and_eq_true] at ho
    rw [List.zip_cons_cons, List.forIn_cons, hF k v s e ho.1.1 (by rw [hu]; exact ho.1.2)]
    simp only [pure_bind]
    rw [loop1 hF ks ws (s ++ [(k, v)]) (u ++ [(k, ())]) e (by simpa using hl) (fun k' => ?_) ho.2]
    · simp
    · rw [lookup_app, lookup_app]
      have := hu k'
      cases h1 : s.lookup k' <;> cases h2 : u.lookup k' <;> rw [h1, h2] at this <;> simp at this ⊢
      simp only [List.lookup_cons, List.lookup_nil]
      cases k' == k <;> rfl
theorem loop2 {G : Str × Value → List (Str × Value) → Sem (ForInStep (List (Str × Value)))} (hG : ∀ p s, G p s = pure (.yield (if (s.lookup p.1).isNone then s ++ [p] else s))) :
    ∀ (l s : List (Str × Value)), forIn l s G = pure (bindF s l)
  | [], s => by simp [bindF]
  | p :: l, s => by
    rw [List.forIn_cons, hG]
    simp only [pure_bind]
    rw [loop2 hG l]; rfl
theorem units_zip {α : Type} (ps : List Str) : ∀ (us : List α) (k : Str), ((ps.zip us).lookup k).isNone = ((unitsOf (ps.take us.length)).lookup k).isNone := by
  induction ps with
  | nil => intro us k; simp [unitsOf]
  | cons p ps ih =>
    intro us k
    cases us with
    | nil => simp [unitsOf]
    | cons u us =>
      simp only [List.zip_cons_cons, List.length_cons, List.take_succ_cons, unitsOf, List.map_cons, List.lookup_cons]
      cases k == p with
      | true => rfl
      | false => exact ih us k
theorem bind_pure {fd : FuncData} {as : List Arg} {xs : List Expr} {ps ks : List Str} {us ws ds fin : List Value} {r : Option (Array Value)}
    (hp : fd.params = ⟨[], as, none, [], [], none, xs⟩) (ha : as.map (·.arg) = ps) (hr : (r.getD #[]).toList = ds) (hk : ks.length = ws.length) (ok : bindOk ps ks us.length ds.length = true) (e : bindP ps ks us ws ds = some fin) :
    ∃ k, bindArgs fd ⟨us, ks.zip ws⟩ = seqItems? fd.defaults >>= k ∧ k r = pure (ps.zip fin) := by
  unfold bindOk at ok
  simp only [Bool.and_eq_true, decide_eq_true_eq] at ok
  obtain ⟨⟨⟨o1, o2⟩, o3⟩, o4⟩ := ok
  unfold bindArgs
  rw [hp]
  simp only [List.map_nil, List.nil_append, ha]
  rw [loop1 (ps := ps) (fun k v s e h1 h2 => ?_) ks ws (ps.zip us) (unitsOf (ps.take us.length)) [] hk (units_zip ps us) o3]
  · simp only [pure_bind]
    refine ⟨_, rfl, ?_⟩
    rw [hr]
    have e1 : ¬ ((decide (us.length > ps.length) && (none : Option Arg).isNone) = true) := by simp; omega
    rw [if_neg e1]
    have e2 : ds.length - ps.length = 0 := by omega
    simp only [e2, List.drop_zero]
    have e3 : (List.filter (fun n => (List.lookup n (ps.zip us ++ ks.zip ws)).isNone) (ps.take (ps.length - ds.length))) = [] := by
      rw [List.filter_eq_nil_iff]
      intro p hp'
      have := List.all_eq_true.mp o4 p hp'
      have e4 : (List.lookup p (ps.zip us ++ ks.zip ws)).isNone = (List.lookup p (unitsOf (ps.take us.length ++ ks))).isNone := by
        have e5 : unitsOf (ps.take us.length ++ ks) = unitsOf (ps.take us.length) ++ unitsOf ks := by simp [unitsOf]
        have e6 := units_zip ks ws p
        rw [← hk, List.take_length] at e6
        rw [e5, lookup_app, lookup_app]
        have e7 := units_zip ps us p
        cases h1 : (ps.zip us).lookup p <;> cases h2 : (unitsOf (ps.take us.length)).lookup p <;> rw [h1, h2] at e7 <;> simp at e7 ⊢
        simpa using e6
      rw [e4]
      simp only [Option.isNone_iff_eq_none, Option.isSome_iff_ne_none] at this ⊢
      exact this
    rw [e3]
    simp only [List.isEmpty_nil, Bool.not_true, Bool.false_eq_true, if_false]
    rw [loop2 (fun p s => ?_)]
    · simp only [pure_bind, List.forIn_nil, List.append_nil, List.isEmpty_nil, Bool.not_true, Bool.false_eq_true, if_false]
      have e8 : bindF (ps.zip us ++ ks.zip ws) ((ps.drop (ps.length - ds.length)).zip ds) = bindS ps ks us ws ds := rfl
      rw [e8, look_zip ps fin e]
    · obtain ⟨a, b⟩ := p
      cases h : (List.lookup a s).isNone <;> simp [h]
  · have h3 : List.lookup k s = none := by simpa using h2
    simp only [h1, Bool.true_or, if_true, h3, Option.isSome_none, Bool.false_eq_true, if_false]
    try rfl
end Ev

set_option Elab.async false
set_option linter.all false
set_option maxRecDepth 100000
set_option maxHeartbeats 1000000
/-! Ev6: a core text that the checker takes for an expression of the program says what that expression does. -/
namespace Ev
open PySem PySem.Spec PyProof.Rows L2

structure FI where
  ps : List Str
  dfl : List D
structure Sx where
  N : List Str
  sc : Scope
  ft : List (Str × FI)
  cs : List Str
  fr : List Str
  fn : List Str
/-- a call of a def of the module, from any frame -/
def CallsOk (g : Gx) (base : Heap) (A : Around) (ft : List (Str × FI)) (E : En) : Prop :=
  ∀ (x : Str) (fi : FI) (f : Addr), ft.lookup x = some fi → g.mg x = some (.ref f) →
    ∀ (outer : List Env) (s : Shared) (H : Hp) (ρ : Rho) (M : Mem) (ks : List Str) (us ws : List Value) (vs zs : List V) (as bs l : List D) (Q : VK) (E' : XK),
      Env0 g.P g.w g.K g.mg base A outer s H → Rep g ρ M H → Vals vs us → Vals zs ws → RDs g ρ H as vs → RDs g ρ H bs zs → ks.length = ws.length →
      bindOk fi.ps ks us.length fi.dfl.length = true → bindP fi.ps ks as bs fi.dfl = some l → Post g ρ H (E.call (.fn x) l M) (QV g Q) →
      codeAny (model g.P g.w) A (.call (.ref f) ⟨us, ks.zip ws⟩) (CR CX0 outer g.P g.w H s Q E') s
structure XOk (S : Sx) (E : En) (X : Cx) : Prop where
  N : X.N = S.N
  sc : X.env.scope = S.sc
  nd : X.N.Nodup
  calm : X.calm = true
  fn : ∀ x ∈ S.fn, X.fn x = true
  xe : PassesOwn (model X.prog X.w) X.A X.env X.xe
  hu : X.A.units + 64 < cLine
  gd : X.A.guards = some []
  cs : ∀ x ∈ S.cs, ∃ d u v, E.G x = some d ∧ X.mg x = some u ∧ RelV v u ∧ ∀ ρ H, RD (gx X) ρ H d v
  fr : ∀ x ∈ S.fr, X.mg x = none
  ft : ∀ x fi, S.ft.lookup x = some fi → ∃ f, X.mg x = some (.ref f) ∧ PySem.W.keepIn X.K (.ref f) = true ∧ E.dfl x = fi.dfl ∧ fi.ps.Nodup ∧ fi.dfl.length ≤ fi.ps.length
  no : ∀ x as M, S.ft.lookup x = none → E.call (.fn x) as M = .bad
  len : ∀ x fi as M, S.ft.lookup x = some fi → as.length ≠ fi.ps.length → E.call (.fn x) as M = .bad
  isfn : ∀ d as M, (∀ x, d ≠ .fn x) → E.call d as M = .bad
  cl : CallsOk (gx X) X.base X.A S.ft E

/-! ### readings -/
def RO (g : Gx) (ρ : Rho) (H : Hp) : Option D → Option V → Prop
  | some d, some v => RD g ρ H d v
  | none, _ => True
  | some _, none => False
abbrev RS (g : Gx) (ρ : Rho) (H : Hp) : St' → L2.St → Prop := Paired (RO g ρ H)
section
variable {g : Gx} {ρ ρ' : Rho} {H H' : Hp}
theorem RS.extW (e : ExtW ρ H ρ' H') {ds : St'} {σ : L2.St} (h : RS g ρ H ds σ) : RS g ρ' H' ds σ := Paired.mapP h fun d v r => by
  cases d with
  | none => trivial
  | some d => cases v with
    | none => exact r
    | some v => exact RD.extW e r
theorem RS.ext (e : Ext ρ H ρ' H') {ds : St'} {σ : L2.St} (h : RS g ρ H ds σ) : RS g ρ' H' ds σ := h.extW e.toExtW
theorem RS.get {ds : St'} {σ : L2.St} (h : RS g ρ H ds σ) : ∀ {i : Nat} {d : D}, ds[i]? = some (some d) → ∃ v, σ[i]? = some (some v) ∧ RD g ρ H d v := by
  induction h with
  | nil => intro i d e; simp at e
  | @cons a b _ _ r _ ih =>
    intro i d e
    cases i with
    | zero =>
      simp at e; subst e
      cases b with
      | none => exact r.elim
      | some v => exact ⟨v, rfl, r⟩
    | succ i => simpa using ih (i := i) (d := d) (by simpa using e)
theorem RS.set {ds : St'} {σ : L2.St} (h : RS g ρ H ds σ) {d : Option D} {v : Option V} (r : RO g ρ H d v) : ∀ i : Nat, RS g ρ H (ds.set i d) (σ.set i v) := by
  induction h with
  | nil => intro i; exact .nil
  | @cons a b _ _ q _ ih =>
    intro i
    cases i with
    | zero => exact .cons r (by assumption)
    | succ i => exact .cons q (ih i)
theorem RS.wipe {ds : St'} {σ : L2.St} (h : RS g ρ H ds σ) : ∀ own : List Nat, RS g ρ H (wipe' ds own) (wipe σ own)
  | [] => h
  | i :: r => (RS.wipe h r).set (d := none) (v := none) trivial i
/-- alike but at such places -/
def Off (sl : List Nat) (σ σ' : L2.St) : Prop := σ'.length = σ.length ∧ ∀ j, j ∉ sl → σ'[j]? = σ[j]?
theorem Off.refl {sl : List Nat} {σ : L2.St} : Off sl σ σ := ⟨rfl, fun _ _ => rfl⟩
theorem Off.trans {s1 s2 s : List Nat} {a b c : L2.St} (x : Off s1 a b) (y : Off s2 b c) (h1 : ∀ i ∈ s1, i ∈ s) (h2 : ∀ i ∈ s2, i ∈ s) : Off s a c :=
  ⟨y.1.trans x.1, fun j hj => (y.2 j fun q => hj (h2 j q)).trans (x.2 j fun q => hj (h1 j q))⟩
theorem wipe_get {σ : L2.St} {j : Nat} : ∀ {own : List Nat}, (wipe σ own)[j]? = if j ∈ own then (if j < σ.length then some none else none) else σ[j]?
  | [] => by simp [L2.wipe]
  | i :: r => by
    show ((wipe σ r).set i none)[j]? = _
    by_cases e : j = i
    · subst e
      rw [List.getElem?_set]
      simp [wipe_length]
    · rw [List.getElem?_set_ne (Ne.symm e), wipe_get (own := r)]
      simp [e]
theorem Off.wipe {sl own : List Nat} {σ σ' : L2.St} (h : Off sl (L2.wipe σ own) σ') (hs : ∀ i ∈ sl, i ∈ own) : L2.wipe σ' own = L2.wipe σ own := by
  refine List.ext_getElem? fun j => ?_
  have h1 := h.1
  rw [wipe_length] at h1
  rw [wipe_get, wipe_get]
  by_cases hj : j ∈ own
  · simp only [hj, if_true, h1]
  · simp only [hj, if_false]
    have := h.2 j fun q => hj (hs j q)
    rw [this, wipe_get]; simp [hj]
end
def tE (g : Gx) (f : St' → Mem → Res D) : TE := fun σ H Q => ∃ ρ M ds, Rep g ρ M H ∧ RS g ρ H ds σ ∧ Post g ρ H (f ds M) (QV g Q)
def tT (g : Gx) (f : St' → Mem → Res Bool) : TT := fun σ H Q => ∃ ρ M ds, Rep g ρ M H ∧ RS g ρ H ds σ ∧ Post g ρ H (f ds M) fun b _ _ H' => Q b H'
def tA (g : Gx) (f : St' → Mem → Res (List D)) : TA := fun σ H Q => ∃ ρ M ds, Rep g ρ M H ∧ RS g ρ H ds σ ∧ Post g ρ H (f ds M) fun l _ ρ' H' => ∀ vs, RDs g ρ' H' l vs → Q vs H'
def tO (g : Gx) (f : St' → Mem → Res (Option Int)) : TO := fun σ H Q => ∃ ρ M ds, Rep g ρ M H ∧ RS g ρ H ds σ ∧ Post g ρ H (f ds M) fun i _ _ H' => Q i H'
def gT (g : Gx) (sl : List Nat) (f : D → St' → Mem → Res St') : TG := fun v σ H Q => ∃ ρ M ds d, Rep g ρ M H ∧ RS g ρ H ds σ ∧ RD g ρ H d v ∧ Post g ρ H (f d ds M) fun ds' _ ρ' H' => ∀ σ', RS g ρ' H' ds' σ' → Off sl σ σ' → Q σ' H'
def gTs (g : Gx) (sl : List Nat) (f : List D → St' → Mem → Res St') : TGs := fun vs σ H Q => ∃ ρ M ds l, Rep g ρ M H ∧ RS g ρ H ds σ ∧ RDs g ρ H l vs ∧ Post g ρ H (f l ds M) fun ds' _ ρ' H' => ∀ σ', RS g ρ' H' ds' σ' → Off sl σ σ' → Q σ' H'
theorem PE.mono {X : Cx} {e : Expr} {t t' : TE} (h : PE X e t) (k : ∀ σ H Q, t' σ H Q → t σ H Q) : PE X e t' := ⟨fun pins s σ H Q I q => h.run pins s σ H Q I (k σ H Q q)⟩
theorem PT.mono {X : Cx} {e : Expr} {t t' : TT} (h : PT X e t) (k : ∀ σ H Q, t' σ H Q → t σ H Q) : PT X e t' := ⟨fun pins s σ H Q I q => h.run pins s σ H Q I (k σ H Q q)⟩
theorem PA.mono {X : Cx} {e : List Expr} {t t' : TA} (h : PA X e t) (k : ∀ σ H Q, t' σ H Q → t σ H Q) : PA X e t' := ⟨fun pos pins s σ H Q I q => h.run pos pins s σ H Q I (k σ H Q q)⟩
theorem PG.mono {X : Cx} {e : Expr} {t t' : TG} (h : PG X e t) (k : ∀ v σ H Q, t' v σ H Q → t v σ H Q) : PG X e t' := ⟨fun pins s σ H v u Q I r q => h.run pins s σ H v u Q I r (k v σ H Q q)⟩
theorem PO.mono {X : Cx} {e : Option Expr} {t t' : TO} (h : PO X e t) (k : ∀ σ H Q, t' σ H Q → t σ H Q) : PO X e t' := ⟨fun pins s σ H Q I q => h.run pins s σ H Q I (k σ H Q q)⟩

/-! ### syntax -/
def notStar : Expr → Bool
  | .Starred .. => false
  | _ => true
theorem star_of {e : Expr} {es : List Expr} {env : Env} (h : notStar e = true) : starEach (e :: es) env = (false, eval e env) :: starEach es env := by
  cases e <;> first | rfl | (exact absurd h Bool.false_ne_true)
theorem star_all {env : Env} : ∀ {es : List Expr}, es.all notStar = true → starEach es env = es.map fun e => (false, eval e env)
  | [], _ => rfl
  | e :: es, h => by
    simp only [List.all_cons, Bool.and_eq_true] at h
    rw [star_of h.1, star_all h.2]; rfl
theorem back_plain {env : Env} {pos : Pos} {es : List Expr} (h : es.all notStar = true) : (backTo pos (starEach es env)).any (·.1) = false := by
  rw [star_all h]
  simp [backTo]
def plainT : Expr → Bool
  | .UnaryOp .Not _ _ => false
  | .BoolOp .. => false
  | .IfExp .. => false
  | .Compare .. => false
  | _ => true
theorem plain_test {e : Expr} {env : Env} (h : plainT e = true) (whole : Sem Value) : isTrue e env whole = (do let v ← whole; standAt e.pos; holding [v] (truthy v)) := by
  cases e <;> first | rfl | (exact absurd h Bool.false_ne_true) | skip
  rename_i op x p
  cases op <;> first | rfl | (exact absurd h Bool.false_ne_true)
def plainI : Expr → Bool
  | .Slice .. => false
  | _ => true
theorem plain_ix {e : Expr} (h : plainI e = true) : PlainIx e := by
  intro o i
  cases e <;> first | rfl | (exact absurd h Bool.false_ne_true)
def baseOk : Expr → Bool
  | .Call (.Name _ _) [] [] _ => false
  | _ => true
theorem base_of {o : Expr} {a : Str} {env : Env} {w : Sem Value} (h : baseOk o = true) : attributeBase o a env w = w := by
  unfold attributeBase
  split
  · exact absurd h Bool.false_ne_true
  · rfl
def notSet : Expr → Bool
  | .Set .. => false
  | _ => true
theorem fold_of {e : Expr} {env : Env} (h : notSet e = true) (x : Value) : foldedSetIterable e env x = pure x := by
  cases e <;> first | rfl | (exact absurd h Bool.false_ne_true)
end Ev

set_option Elab.async false
set_option linter.all false
set_option maxRecDepth 100000
set_option maxHeartbeats 1000000
/-! Ev7: one construct after another. -/
namespace Ev
open PySem PySem.Spec PyProof.Rows L2
theorem cmpD_bl {op : CmpOp} {x y d : D} {M M' : Mem} (h : cmpD op x y M = .ok d M') : ∃ b, d = .bl b ∧ M' = M := by
  unfold cmpD cmpEq cmpIn at h
  repeat' (split at h)
  all_goals first | (cases h; exact ⟨_, rfl, rfl⟩) | cases h
section
variable {X : Cx} {fa fb fc : St' → Mem → Res D} {a b c : Expr} {pos : Pos}
theorem two {f : D → D → Mem → Res D} {σ : L2.St} {H : Hp} {Q : VK} (h : tE (gx X) (fun σ M => (fa σ M).bind fun x M => (fb σ M).bind fun y M => f x y M) σ H Q) : tOp (rOp2 (gx X) f) (tE (gx X) fa) (tE (gx X) fb) σ H Q := by
  obtain ⟨ρ, M, ds, rep, rs, h⟩ := h
  refine ⟨ρ, M, ds, rep, rs, h.bind.mono fun x M1 ρ1 H1 e1 r1 h => ?_⟩
  intro v rv
  refine ⟨ρ1, M1, ds, r1, rs.ext e1, h.bind.mono fun y M2 ρ2 H2 e2 r2 h => ?_⟩
  intro u ru
  exact ⟨ρ2, M2, x, y, r2, rv.ext e2, ru, h⟩
theorem one {f : D → Mem → Res D} {σ : L2.St} {H : Hp} {Q : VK} (h : tE (gx X) (fun σ M => (fa σ M).bind fun x M => f x M) σ H Q) : tE (gx X) fa σ H fun x H1 => rOp1 (gx X) f x H1 Q := by
  obtain ⟨ρ, M, ds, rep, rs, h⟩ := h
  exact ⟨ρ, M, ds, rep, rs, h.bind.mono fun x M1 ρ1 H1 e1 r1 h v rv => ⟨ρ1, M1, x, r1, rv, h⟩⟩
theorem den_bin {op : Operator} (ha : PE X a (tE (gx X) fa)) (hb : PE X b (tE (gx X) fb)) : PE X (.BinOp a op b pos) (tE (gx X) fun σ M => (fa σ M).bind fun x M => (fb σ M).bind fun y M => binD op x y M) :=
  PE.mono (pe_op (op_binD op) ha hb) fun _ _ _ h => two h
theorem den_una {op : UnaryOp} (ha : PE X a (tE (gx X) fa)) : PE X (.UnaryOp op a pos) (tE (gx X) fun σ M => (fa σ M).bind fun x M => unaD op x M) :=
  PE.mono (pe_un (op_unaD op) ha) fun _ _ _ h => one h
theorem den_cmp {op : CmpOp} (hu : X.A.units + 64 < cLine) (ha : PE X a (tE (gx X) fa)) (hb : PE X b (tE (gx X) fb)) (hm : behindInMarks op b = false) : PE X (.Compare a [op] [b] pos) (tE (gx X) fun σ M => (fa σ M).bind fun x M => (fb σ M).bind fun y M => cmpD op x y M) :=
  PE.mono (pe_cmpR (op_cmpD hu op) ha hb hm) fun _ _ _ h => two h
theorem den_idx (ha : PE X a (tE (gx X) fa)) (hb : PE X b (tE (gx X) fb)) (hs : plainI b = true) : PE X (.Subscript a b pos) (tE (gx X) fun σ M => (fa σ M).bind fun x M => (fb σ M).bind fun y M => idxD x y M) :=
  PE.mono (pe_ix ix_D ha hb (plain_ix hs)) fun _ _ _ h => two h
theorem den_chn {op op' : CmpOp} (hu : X.A.units + 64 < cLine) (ha : PE X a (tE (gx X) fa)) (hb : PE X b (tE (gx X) fb)) (hc : PE X c (tE (gx X) fc)) (hm : behindInMarks op b = false) (hm' : behindInMarks op' c = false)  :
    PE X (.Compare a [op, op'] [b, c] pos) (tE (gx X) fun σ M => (fa σ M).bind fun x M => (fb σ M).bind fun y M => (cmpD op x y M).bind fun r M => match r with
      | .bl true => (fc σ M).bind fun z M => cmpD op' y z M
      | .bl false => .ok (.bl false) M
      | _ => .bad) := by
  refine PE.mono (pe_chain (op_cmpD hu op) (op_cmpD hu op') ha hb hc (hm := hm')) fun σ H Q h => ?_
  obtain ⟨ρ, M, ds, rep, rs, h⟩ := h
  refine ⟨ρ, M, ds, rep, rs, h.bind.mono fun x M1 ρ1 H1 e1 r1 h => ?_⟩
  intro v rv
  refine ⟨ρ1, M1, ds, r1, rs.ext e1, h.bind.mono fun y M2 ρ2 H2 e2 r2 h => ?_⟩
  intro u ru
  refine ⟨ρ2, M2, x, y, r2, rv.ext e2, ru, h.bind.mono fun r M3 ρ3 H3 e3 r3 h => ?_⟩
  intro z rz
  cases r with
  | bl t =>
    cases rz
    refine ⟨t, rfl, ?_⟩
    cases t with
    | true =>
      refine ⟨ρ3, M3, ds, r3, ((rs.ext e1).ext e2).ext e3, h.bind.mono fun w M4 ρ4 H4 e4 r4 h => ?_⟩
      intro k rk
      exact ⟨ρ4, M4, y, w, r4, (ru.ext e3).ext e4, rk, h⟩
    | false => exact h.here r3 _ (.bl _)
  | _ => exact h.no.elim
/-! ### truth -/
theorem den_test (ha : PE X a (tE (gx X) fa)) (hp : plainT a = true) : PT X a (tT (gx X) fun σ M => (fa σ M).bind fun x M => truR x M) := by
  refine PT.mono (pt_truth ha (plain_test hp)) fun σ H Q h => ?_
  obtain ⟨ρ, M, ds, rep, rs, h⟩ := h
  refine ⟨ρ, M, ds, rep, rs, h.bind.mono fun x M1 ρ1 H1 e1 r1 h v rv => ?_⟩
  unfold truR at h
  split at h
  · rename_i b hb; exact ⟨b, truth_ok r1 rv hb, h.here r1⟩
  · exact h.no.elim
theorem den_and {op : List Expr} (ha : PE X a (tE (gx X) fa)) (hb : PE X (.BoolOp .And (b :: op) pos) (tE (gx X) fb)) : PE X (.BoolOp .And (a :: b :: op) pos) (tE (gx X) fun σ M => (fa σ M).bind fun x M => (truR x M).bind fun t M => match t with
    | true => fb σ M
    | false => .ok x M) := by
  refine PE.mono (pe_andT ha hb) fun σ H Q h => ?_
  obtain ⟨ρ, M, ds, rep, rs, h⟩ := h
  refine ⟨ρ, M, ds, rep, rs, h.bind.mono fun x M1 ρ1 H1 e1 r1 h v rv => ?_⟩
  unfold truR at h
  cases hb : truth M1 x with
  | none => rw [hb] at h; exact h.no.elim
  | some t =>
    rw [hb] at h
    refine ⟨t, truth_ok r1 rv hb, ?_⟩
    cases t with
    | true => rw [if_pos rfl]; exact ⟨ρ1, M1, ds, r1, rs.ext e1, h⟩
    | false => rw [if_neg Bool.false_ne_true]; exact h.here r1 _ rv
theorem den_or {op : List Expr} (ha : PE X a (tE (gx X) fa)) (hb : PE X (.BoolOp .Or (b :: op) pos) (tE (gx X) fb)) : PE X (.BoolOp .Or (a :: b :: op) pos) (tE (gx X) fun σ M => (fa σ M).bind fun x M => (truR x M).bind fun t M => match t with
    | true => .ok x M
    | false => fb σ M) := by
  refine PE.mono (pe_orT ha hb) fun σ H Q h => ?_
  obtain ⟨ρ, M, ds, rep, rs, h⟩ := h
  refine ⟨ρ, M, ds, rep, rs, h.bind.mono fun x M1 ρ1 H1 e1 r1 h v rv => ?_⟩
  unfold truR at h
  cases hb : truth M1 x with
  | none => rw [hb] at h; exact h.no.elim
  | some t =>
    rw [hb] at h
    refine ⟨t, truth_ok r1 rv hb, ?_⟩
    cases t with
    | true => rw [if_pos rfl]; exact h.here r1 _ rv
    | false => rw [if_neg Bool.false_ne_true]; exact ⟨ρ1, M1, ds, r1, rs.ext e1, h⟩
theorem den_not (ha : PE X a (tE (gx X) fa)) : PE X (.UnaryOp .Not a pos) (tE (gx X) fun σ M => (fa σ M).bind fun x M => (truR x M).bind fun t M => .ok (.bl !t) M) := by
  refine PE.mono (pe_notT ha) fun σ H Q h => ?_
  obtain ⟨ρ, M, ds, rep, rs, h⟩ := h
  refine ⟨ρ, M, ds, rep, rs, h.bind.mono fun x M1 ρ1 H1 e1 r1 h v rv => ?_⟩
  unfold truR at h
  cases hb : truth M1 x with
  | none => rw [hb] at h; exact h.no.elim
  | some t =>
    rw [hb] at h
    exact ⟨t, truth_ok r1 rv hb, h.here r1 _ (.bl _)⟩
variable {ta tb tc : St' → Mem → Res Bool}
theorem den_ite (ht : PT X a (tT (gx X) ta)) (hb : PE X b (tE (gx X) fb)) (hc : PE X c (tE (gx X) fc)) : PE X (.IfExp a b c pos) (tE (gx X) fun σ M => (ta σ M).bind fun t M => match t with
    | true => fb σ M
    | false => fc σ M) := by
  refine PE.mono (pe_ifExp ht hb hc) fun σ H Q h => ?_
  obtain ⟨ρ, M, ds, rep, rs, h⟩ := h
  refine ⟨ρ, M, ds, rep, rs, h.bind.mono fun t M1 ρ1 H1 e1 r1 h => ?_⟩
  cases t with
  | true => rw [if_pos rfl]; exact ⟨ρ1, M1, ds, r1, rs.ext e1, h⟩
  | false => rw [if_neg Bool.false_ne_true]; exact ⟨ρ1, M1, ds, r1, rs.ext e1, h⟩
/-! tests by their own roads -/
theorem dt_and {op : List Expr} (ha : PT X a (tT (gx X) ta)) (hb : PW X (.BoolOp .And (b :: op) pos) (tT (gx X) tb)) : PW X (.BoolOp .And (a :: b :: op) pos) (tT (gx X) fun σ M => (ta σ M).bind fun t M => match t with
    | true => tb σ M
    | false => .ok false M) := by
  refine ⟨fun whole pins s σ H Q I h => (pw_and ha hb).run whole pins s σ H Q I ?_⟩
  obtain ⟨ρ, M, ds, rep, rs, h⟩ := h
  refine ⟨ρ, M, ds, rep, rs, h.bind.mono fun t M1 ρ1 H1 e1 r1 h => ?_⟩
  cases t with
  | true => rw [if_pos rfl]; exact ⟨ρ1, M1, ds, r1, rs.ext e1, h⟩
  | false => rw [if_neg Bool.false_ne_true]; exact h.here r1
theorem dt_or {op : List Expr} (ha : PT X a (tT (gx X) ta)) (hb : PW X (.BoolOp .Or (b :: op) pos) (tT (gx X) tb)) : PW X (.BoolOp .Or (a :: b :: op) pos) (tT (gx X) fun σ M => (ta σ M).bind fun t M => match t with
    | true => .ok true M
    | false => tb σ M) := by
  refine ⟨fun whole pins s σ H Q I h => (pw_or ha hb).run whole pins s σ H Q I ?_⟩
  obtain ⟨ρ, M, ds, rep, rs, h⟩ := h
  refine ⟨ρ, M, ds, rep, rs, h.bind.mono fun t M1 ρ1 H1 e1 r1 h => ?_⟩
  cases t with
  | true => rw [if_pos rfl]; exact h.here r1
  | false => rw [if_neg Bool.false_ne_true]; exact ⟨ρ1, M1, ds, r1, rs.ext e1, h⟩
theorem dt_not (ha : PT X a (tT (gx X) ta)) : PT X (.UnaryOp .Not a pos) (tT (gx X) fun σ M => (ta σ M).bind fun t M => .ok (!t) M) := by
  refine PT.mono (pt_not ha) fun σ H Q h => ?_
  obtain ⟨ρ, M, ds, rep, rs, h⟩ := h
  exact ⟨ρ, M, ds, rep, rs, h.bind.mono fun t M1 ρ1 H1 e1 r1 h => h.here r1⟩
theorem dt_cmp {op : CmpOp} (hu : X.A.units + 64 < cLine) (ha : PE X a (tE (gx X) fa)) (hb : PE X b (tE (gx X) fb)) (hm : behindInMarks op b = false) : PT X (.Compare a [op] [b] pos) (tT (gx X) fun σ M => ((fa σ M).bind fun x M => (fb σ M).bind fun y M => cmpD op x y M).bind fun x M => truR x M) := by
  refine PT.mono (pt_cmpR (op_cmpD hu op) ha hb hm) fun σ H Q h => ?_
  obtain ⟨ρ, M, ds, rep, rs, h⟩ := h
  refine two ⟨ρ, M, ds, rep, rs, ?_⟩
  dsimp only at h ⊢
  rw [Res.bind_assoc] at h
  cases ea : fa ds M with
  | ok x M1 =>
    rw [ea] at h
    simp only [Res.bind_ok, Res.bind_assoc] at h ⊢
    cases eb : fb ds M1 with
    | ok y M2 =>
      rw [eb] at h
      simp only [Res.bind_ok] at h ⊢
      cases ec : cmpD op x y M2 with
      | ok d M3 =>
        obtain ⟨t, rfl, rfl⟩ := cmpD_bl ec
        rw [ec] at h
        intro ρ' H' e' r' v rv
        cases rv
        exact ⟨t, rfl, h ρ' H' e' r'⟩
      | exc _ _ => rw [ec] at h; exact h
      | bad => rw [ec] at h; exact h
    | exc _ _ => rw [eb] at h; exact h
    | bad => rw [eb] at h; exact h
  | exc _ _ => rw [ea] at h; exact h
  | bad => rw [ea] at h; exact h
theorem dt_chn {op op' : CmpOp} (hu : X.A.units + 64 < cLine) (ha : PE X a (tE (gx X) fa)) (hb : PE X b (tE (gx X) fb)) (hc : PE X c (tE (gx X) fc)) (hm : behindInMarks op b = false) (hm' : behindInMarks op' c = false)  :
    PT X (.Compare a [op, op'] [b, c] pos) (tT (gx X) fun σ M => (fa σ M).bind fun x M => (fb σ M).bind fun y M => (cmpD op x y M).bind fun r M => match r with
      | .bl true => (fc σ M).bind fun z M => (cmpD op' y z M).bind fun x M => truR x M
      | .bl false => .ok false M
      | _ => .bad) := by
  refine PT.mono (pt_chain (op_cmpD hu op) (op_cmpD hu op') ha hb hc (hm := hm')) fun σ H Q h => ?_
  obtain ⟨ρ, M, ds, rep, rs, h⟩ := h
  refine ⟨ρ, M, ds, rep, rs, h.bind.mono fun x M1 ρ1 H1 e1 r1 h => ?_⟩
  intro v rv
  refine ⟨ρ1, M1, ds, r1, rs.ext e1, h.bind.mono fun y M2 ρ2 H2 e2 r2 h => ?_⟩
  intro u ru
  refine ⟨ρ2, M2, x, y, r2, rv.ext e2, ru, h.bind.mono fun r M3 ρ3 H3 e3 r3 h => ?_⟩
  intro z rz
  cases r with
  | bl t =>
    cases rz
    refine ⟨t, rfl, ?_⟩
    cases t with
    | true =>
      refine ⟨ρ3, M3, ds, r3, ((rs.ext e1).ext e2).ext e3, h.bind.mono fun w M4 ρ4 H4 e4 r4 h => ?_⟩
      intro k rk
      refine ⟨ρ4, M4, y, w, r4, (ru.ext e3).ext e4, rk, ?_⟩
      cases ec : cmpD op' y w M4 with
      | ok d M5 =>
        obtain ⟨t, rfl, rfl⟩ := cmpD_bl ec
        rw [ec] at h
        intro ρ' H' e' r' v rv
        cases rv
        exact ⟨t, rfl, h ρ' H' e' r'⟩
      | exc _ _ => rw [ec] at h; exact h
      | bad => rw [ec] at h; exact h
    | false => exact ⟨false, rfl, h.here r3⟩
  | _ => exact h.no.elim
/-! ### argument lists, displays, slices -/
variable {es : List Expr} {fl : St' → Mem → Res (List D)}
theorem den_nil : PA X [] (tA (gx X) fun _ M => .ok [] M) := by
  refine PA.mono pa_nil fun σ H Q h => ?_
  obtain ⟨ρ, M, ds, rep, rs, h⟩ := h
  exact h.here rep _ .nil
theorem den_cons (ha : PE X a (tE (gx X) fa)) (hl : PA X es (tA (gx X) fl)) (hs : notStar a = true) : PA X (a :: es) (tA (gx X) fun σ M => (fa σ M).bind fun x M => (fl σ M).bind fun xs M => .ok (x :: xs) M) := by
  refine PA.mono (pa_cons ha hl (star_of hs)) fun σ H Q h => ?_
  obtain ⟨ρ, M, ds, rep, rs, h⟩ := h
  refine ⟨ρ, M, ds, rep, rs, h.bind.mono fun x M1 ρ1 H1 e1 r1 h => ?_⟩
  intro v rv
  refine ⟨ρ1, M1, ds, r1, rs.ext e1, h.bind.mono fun y M2 ρ2 H2 e2 r2 h => ?_⟩
  intro u ru
  exact h.here r2 _ (.cons (rv.ext e2) ru)
theorem den_tup {k : Nat} (hl : PA X es (tA (gx X) fl)) : PE X (.Tuple es k pos) (tE (gx X) fun σ M => (fl σ M).bind fun ds M => if ds.length ≤ LIM then .ok (.tup ds) M else .bad) := by
  refine PE.mono (pe_tup hl) fun σ H Q h => ?_
  obtain ⟨ρ, M, ds, rep, rs, h⟩ := h
  refine ⟨ρ, M, ds, rep, rs, h.bind.mono fun l M1 ρ1 H1 e1 r1 h vs rv => ?_⟩
  split at h
  · rename_i hz; exact ⟨by rw [← rv.length]; exact LIM_line hz, fun p hp => new_tup r1 rv h hp⟩
  · exact h.no.elim
theorem den_lst {k : Bool} (hl : PA X es (tA (gx X) fl)) : PE X (.List es pos) (tE (gx X) fun σ M => (fl σ M).bind fun ds M => if ds.length ≤ LIM then fresh k ds M else .bad) := by
  refine PE.mono (pe_lst hl) fun σ H Q h => ?_
  obtain ⟨ρ, M, ds, rep, rs, h⟩ := h
  refine ⟨ρ, M, ds, rep, rs, h.bind.mono fun l M1 ρ1 H1 e1 r1 h vs rv => ?_⟩
  split at h
  · rename_i hz; exact ⟨by rw [← rv.length]; exact LIM_line hz, fun p hp => new_fresh r1 rv h hp⟩
  · exact h.no.elim
theorem den_ono : PO X none (tO (gx X) fun _ M => (Res.ok none M).bind optR) := by
  refine PO.mono po_none fun σ H Q h => ?_
  obtain ⟨ρ, M, ds, rep, rs, h⟩ := h
  exact h.here rep
theorem den_osome (ha : PE X a (tE (gx X) fa)) : PO X (some a) (tO (gx X) fun σ M => ((fa σ M).bind fun x M => .ok (some x) M).bind optR) := by
  refine PO.mono (po_some ha) fun σ H Q h => ?_
  obtain ⟨ρ, M, ds, rep, rs, h⟩ := h
  dsimp only at h
  rw [Res.bind_assoc] at h
  refine ⟨ρ, M, ds, rep, rs, h.bind.mono fun x M1 ρ1 H1 e1 r1 h v rv => ?_⟩
  cases rv with
  | int i => exact ⟨_, rfl, h.here r1⟩
  | _ => exact h.no.elim
theorem den_sli {lo hi : Option Expr} {fo fh : St' → Mem → Res (Option Int)} {p2 : Pos} (ha : PE X a (tE (gx X) fa)) (hl : PO X lo (tO (gx X) fo)) (hh : PO X hi (tO (gx X) fh)) : PE X (.Subscript a (.Slice lo hi none p2) pos) (tE (gx X) fun σ M => (fa σ M).bind fun x M => (fo σ M).bind fun l M => (fh σ M).bind fun h M => sliD x l h M) := by
  refine PE.mono (pe_slice sl_D ha hl hh) fun σ H Q h => ?_
  obtain ⟨ρ, M, ds, rep, rs, h⟩ := h
  refine ⟨ρ, M, ds, rep, rs, h.bind.mono fun x M1 ρ1 H1 e1 r1 h => ?_⟩
  intro v rv
  refine ⟨ρ1, M1, ds, r1, rs.ext e1, h.bind.mono fun l M2 ρ2 H2 e2 r2 h => ?_⟩
  exact ⟨ρ2, M2, ds, r2, (rs.ext e1).ext e2, h.bind.mono fun u M3 ρ3 H3 e3 r3 h => ⟨ρ3, M3, x, r3, (rv.ext e2).ext e3, h⟩⟩
/-! ### calls -/
variable {es : List Expr} {fl : St' → Mem → Res (List D)}
theorem den_blt (E : En) (b : Blt) {f : Str} {p : Pos} {cs : List Expr} {c0 : Expr} (hc : X.calm = true) (hu : X.A.units + 64 < cLine) (hgd : X.A.guards = some []) (hg : Gl X f) (hm : X.mg f = none) (hv : bootBuiltins f = some (bltV b)) (hl : PA X (c0 :: cs) (tA (gx X) fl))
    (hs : (c0 :: cs).all notStar = true) (hn : f ≠ "__name__") (hdb : (f == ("__debug__" : Str)) = false) : PE X (.Call (.Name f p) (c0 :: cs) [] pos) (tE (gx X) fun σ M => (fl σ M).bind fun ds M => bltD E.call b ds M) := by
  have h0 : starEach (c0 :: cs) X.env = (false, eval c0 X.env) :: starEach cs X.env := star_of (by simp only [List.all_cons, Bool.and_eq_true] at hs; exact hs.1)
  have h1 : (backTo pos (starEach cs X.env)).any (·.1) = false := back_plain (by simp only [List.all_cons, Bool.and_eq_true] at hs; exact hs.2)
  have go : PE X (.Call (.Name f p) (c0 :: cs) [] pos) (tCB (rOpN (gx X) (bltD E.call b)) (tA (gx X) fl)) := by
    have cr := call_bltD (X := X) E.call hc hu hgd b
    cases b <;> first | exact pe_callB cr hg hm hv hl hn hdb h0 h1 | exact pe_callTy cr hg hm hv hl hn hdb h0 h1
  refine PE.mono go fun σ H Q h => ?_
  obtain ⟨ρ, M, ds, rep, rs, h⟩ := h
  exact ⟨ρ, M, ds, rep, rs, h.bind.mono fun l M1 ρ1 H1 e1 r1 h vs rv => ⟨ρ1, M1, l, r1, rv, h⟩⟩
end
end Ev

set_option Elab.async false
set_option linter.all false
set_option maxRecDepth 100000
set_option maxHeartbeats 1000000
/-! Ev8: calls of the module's defs, methods, walks and comprehensions. -/
namespace Ev
open PySem PySem.Spec PyProof.Rows L2
def kwNames (kws : List Keyword) : List Str := kws.filterMap (·.arg)
def kwAll (kws : List Keyword) : Bool := kws.all fun k => k.arg.isSome
def inls : Nat → Nat → List (Nat ⊕ Nat)
  | _, 0 => []
  | i, n + 1 => .inl i :: inls (i + 1) n
def inrs : Nat → Nat → List (Nat ⊕ Nat)
  | _, 0 => []
  | i, n + 1 => .inr i :: inrs (i + 1) n
theorem inls_rel {ds dfl : List D} : ∀ {l : List D} {i : Nat}, (∀ j, j < l.length → ds[i + j]? = l[j]?) → Paired (fun a d => pick ds dfl a = some d) (inls i l.length) l := by
  intro l
  induction l with
  | nil => intro i _; exact .nil
  | cons d l ih =>
    intro i h
    refine .cons (by simpa [pick] using h 0 (by simp)) (ih fun j hj => ?_)
    have := h (j + 1) (by simpa using hj)
    simpa [Nat.add_assoc, Nat.add_comm 1 j] using this
theorem inrs_rel {ds dfl : List D} : ∀ {l : List D} {i : Nat}, (∀ j, j < l.length → dfl[i + j]? = l[j]?) → Paired (fun a d => pick ds dfl a = some d) (inrs i l.length) l := by
  intro l
  induction l with
  | nil => intro i _; exact .nil
  | cons d l ih =>
    intro i h
    refine .cons (by simpa [pick] using h 0 (by simp)) (ih fun j hj => ?_)
    have := h (j + 1) (by simpa using hj)
    simpa [Nat.add_assoc, Nat.add_comm 1 j] using this
theorem arrange_of {vs ds : List D} : ∀ {ord : List (Nat ⊕ Nat)} {l : List D}, Paired (fun a d => pick vs ds a = some d) ord l → arrange vs ds ord = some l
  | _, _, .nil => rfl
  | _, _, .cons r t => by unfold arrange; rw [r, arrange_of t]
/-- what an order for n written and named values and all defaults gives -/
theorem arrange_bind {ps ks : List Str} {as bs dfl : List D} {ord : List (Nat ⊕ Nat)} (h : bindP ps ks (inls 0 as.length) (inls as.length bs.length) (inrs 0 dfl.length) = some ord) : ∃ l, bindP ps ks as bs dfl = some l ∧ arrange (as ++ bs) dfl ord = some l := by
  obtain ⟨l, h1, h2⟩ := bindP_rel (R := fun a d => pick (as ++ bs) dfl a = some d) (us' := as) (ws' := bs) (ds' := dfl)
    (inls_rel fun j hj => by rw [Nat.zero_add, List.getElem?_append_left hj]) (inls_rel fun j hj => by rw [List.getElem?_append_right (by omega)]; congr 1; omega) (inrs_rel fun j hj => by rw [Nat.zero_add]) h
  exact ⟨l, h1, arrange_of h2⟩
section
variable {S : Sx} {E : En} {X : Cx}
theorem run_E (ok : XOk S E X) {x : Str} {fi : FI} {f : Addr} (hx : S.ft.lookup x = some fi) (hm : X.mg x = some (.ref f)) {pins : List (Addr × Obj)} {σ : L2.St} {H : Hp} {s : Shared} {Q : VK} {ρ : Rho} {M : Mem} {ks : List Str} {us ws : List Value} {vs zs : List V} {as bs l : List D}
    (I : Inv X pins σ H s) (rep : Rep (gx X) ρ M H) (r1 : Vals vs us) (r2 : Vals zs ws) (q1 : RDs (gx X) ρ H as vs) (q2 : RDs (gx X) ρ H bs zs) (hk : ks.length = ws.length) (hb : bindOk fi.ps ks us.length fi.dfl.length = true)
    (hl : bindP fi.ps ks as bs fi.dfl = some l) (h : Post (gx X) ρ H (E.call (.fn x) l M) (QV (gx X) Q)) : wpAny (model X.prog X.w) X.A (PySem.call (.ref f) us (ks.zip ws)) (EP X pins σ Q) X.xe s := by
  refine wpAny_call (codeAny_mono (ok.cl x fi f hx hm X.stack s H ρ M ks us ws vs zs as bs l Q (fun _ _ _ => False) I.env0 rep r1 r2 q1 q2 hk hb hl h) fun r s' hq => ?_)
  cases r with
  | error e => exact False.elim hq
  | ok fl =>
    cases fl with
    | ret u => exact I.after hq
    | next => exact False.elim hq
    | brk => exact False.elim hq
    | cont => exact False.elim hq
end
section
variable {S : Sx} {E : En} {X : Cx} {pos : Pos} {es : List Expr} {kws : List Keyword} {fl fk : St' → Mem → Res (List D)}
theorem PK.mono {e : List Keyword} {t t' : TA} (h : PK X e t) (k : ∀ σ H Q, t' σ H Q → t σ H Q) : PK X e t' := ⟨fun pos pins s σ H Q I q => h.run pos pins s σ H Q I (k σ H Q q)⟩
theorem den_knil : PK X [] (tA (gx X) fun _ M => .ok [] M) := by
  refine PK.mono pk_nil fun σ H Q h => ?_
  obtain ⟨ρ, M, ds, rep, rs, h⟩ := h
  exact h.here rep _ .nil
theorem den_kcons {a : Expr} {nm : Option Str} {kp : Pos} {fa : St' → Mem → Res D} (ha : PE X a (tE (gx X) fa)) (hl : PK X kws (tA (gx X) fl)) : PK X (⟨nm, a, kp⟩ :: kws) (tA (gx X) fun σ M => (fa σ M).bind fun x M => (fl σ M).bind fun xs M => .ok (x :: xs) M) := by
  refine PK.mono (pk_cons ha hl) fun σ H Q h => ?_
  obtain ⟨ρ, M, ds, rep, rs, h⟩ := h
  refine ⟨ρ, M, ds, rep, rs, h.bind.mono fun x M1 ρ1 H1 e1 r1 h => ?_⟩
  intro v rv
  refine ⟨ρ1, M1, ds, r1, rs.ext e1, h.bind.mono fun y M2 ρ2 H2 e2 r2 h => ?_⟩
  intro u ru
  exact h.here r2 _ (.cons (rv.ext e2) ru)
theorem kw_names : ∀ {kws : List Keyword}, (backToKw pos (keywordEach kws X.env)).filterMap (·.1) = kwNames kws
  | [] => rfl
  | ⟨nm, v, kp⟩ :: r => by
    have := kw_names (kws := r)
    show ((nm, _) :: backToKw pos (keywordEach r X.env)).filterMap (·.1) = _
    cases nm with
    | none => exact this
    | some n => exact congrArg (n :: ·) this
theorem kw_all : ∀ {kws : List Keyword}, kwAll kws = true → (backToKw pos (keywordEach kws X.env)).all (·.1.isSome) = true ∧ (backToKw pos (keywordEach kws X.env)).any (·.1.isNone) = false
  | [], _ => ⟨rfl, rfl⟩
  | ⟨nm, v, kp⟩ :: r, h => by
    unfold kwAll at h
    simp only [List.all_cons, Bool.and_eq_true] at h
    obtain ⟨h1, h2⟩ := kw_all (kws := r) h.2
    cases nm with
    | none => simp at h
    | some n =>
      refine ⟨?_, ?_⟩
      · show ((some n).isSome && (backToKw pos (keywordEach r X.env)).all (·.1.isSome)) = true
        rw [h1]; rfl
      · show ((some n).isNone || (backToKw pos (keywordEach r X.env)).any (·.1.isNone)) = false
        rw [h2]; rfl
theorem kw_len : ∀ {kws : List Keyword}, kwAll kws = true → (kwNames kws).length = kws.length
  | [], _ => rfl
  | ⟨nm, v, kp⟩ :: r, h => by
    unfold kwAll at h
    simp only [List.all_cons, Bool.and_eq_true] at h
    cases nm with
    | none => simp at h
    | some n => 
      have := kw_len (kws := r) h.2
      exact congrArg Nat.succ this
/-- f(e, .., k=v, ..), f a def of the module -/
theorem den_call (ok : XOk S E X) {x : Str} {fi : FI} {p : Pos} {ord : List (Nat ⊕ Nat)} (hx : S.ft.lookup x = some fi) (hg : Gl X x) (hl : PA X es (tA (gx X) fl)) (hk : PK X kws (tA (gx X) fk))
    (l0 : es = [] → ∀ ds M, fl ds M = .ok [] M) (ll : ∀ ds M d M', fl ds M = .ok d M' → d.length = es.length) (lk : ∀ ds M d M', fk ds M = .ok d M' → d.length = kws.length) (hs : es.all notStar = true) (hn : kwAll kws = true)
    (ho : bindP fi.ps (kwNames kws) (inls 0 es.length) (inls es.length kws.length) (inrs 0 fi.dfl.length) = some ord) (hb : bindOk fi.ps (kwNames kws) es.length fi.dfl.length = true) (hdb : (x == ("__debug__" : Str)) = false) :
    PE X (.Call (.Name x p) es kws pos) (tE (gx X) fun σ M => (fl σ M).bind fun ds M => (fk σ M).bind fun ks M => match arrange (ds ++ ks) (E.dfl x) ord with
      | some as => E.call (.fn x) as M
      | none => .bad) := by
  obtain ⟨f, hm, hkp, hd, hnd, hdl⟩ := ok.ft x fi hx
  refine ⟨fun pins s σ H Q I h => ?_⟩
  obtain ⟨ρ, M, ds, rep, rs, h⟩ := h
  dsimp only at h
  refine wpAny_Call_Name_kw (ld_glob I hg hm ?_ hdb)
  obtain ⟨n1, n2⟩ := kw_all (pos := pos) (X := X) hn
  -- behind the keywords
  have fin : ∀ {s2 : Shared} {H2 : Hp} {us ws : List Value} {vs zs : List V} {as bs : List D} {ρ2 : Rho} {M2 : Mem}, Inv X pins σ H2 s2 → Vals vs us → Vals zs ws → RDs (gx X) ρ2 H2 as vs → RDs (gx X) ρ2 H2 bs zs → Rep (gx X) ρ2 M2 H2 →
      as.length = es.length → bs.length = kws.length → Post (gx X) ρ2 H2 (match arrange (as ++ bs) (E.dfl x) ord with
      | some as => E.call (.fn x) as M2
      | none => .bad) (QV (gx X) Q) → wpAny (model X.prog X.w) X.A (PySem.call (.ref f) us ((kwNames kws).zip ws)) (EP X pins σ Q) X.xe s2 := by
    intro s2 H2 us ws vs zs as bs ρ2 M2 I2 r1 r2 q1 q2 rp l1 l2 hp
    rw [← l1, ← l2] at ho
    obtain ⟨l, b1, b2⟩ := arrange_bind ho
    rw [hd, b2] at hp
    exact run_E ok hx hm I2 rp r1 r2 q1 q2 (by rw [kw_len hn, ← l2, q2.length, r2.length]) (by rw [← r1.length, ← q1.length, l1]; exact hb) b1 hp
  -- the keywords
  have kw : ∀ {s1 : Shared} {H1 : Hp} {us : List Value} {vs : List V} {as : List D} {ρ1 : Rho} {M1 : Mem}, Inv X pins σ H1 s1 → Vals vs us → RDs (gx X) ρ1 H1 as vs → Rep (gx X) ρ1 M1 H1 → RS (gx X) ρ1 H1 ds σ → as.length = es.length →
      Post (gx X) ρ1 H1 ((fk ds M1).bind fun ks M => match arrange (as ++ ks) (E.dfl x) ord with
      | some as => E.call (.fn x) as M
      | none => .bad) (QV (gx X) Q) → wpAny (model X.prog X.w) X.A (evalAll ((backToKw pos (keywordEach kws X.env)).map (·.2))) (fun ks s₂ => X.K.In s₂.heap ∧ wpAny (model X.prog X.w) X.A (PySem.call (.ref f) us (((backToKw pos (keywordEach kws X.env)).filterMap (·.1)).zip ks)) (EP X pins σ Q) X.xe s₂) X.xe s1 := by
    intro s1 H1 us vs as ρ1 M1 I1 r1 q1 rp rs1 l1 hp
    have hp2 : Post (gx X) ρ1 H1 (fk ds M1) (fun ks M2 ρ2 H2 => ks.length = kws.length ∧ Ext ρ1 H1 ρ2 H2 ∧ Post (gx X) ρ2 H2 (match arrange (as ++ ks) (E.dfl x) ord with
      | some as => E.call (.fn x) as M2
      | none => .bad) (QV (gx X) Q) ∧ Rep (gx X) ρ2 M2 H2) := by
      have hp1 := hp.bind
      revert hp1
      cases e : fk ds M1 with
      | ok a M2 => exact fun hp1 ρ2 H2 e2 r2 => ⟨lk _ _ _ _ e, e2, hp1 ρ2 H2 e2 r2, r2⟩
      | exc _ _ => exact fun hp1 => hp1
      | bad => exact fun hp1 => hp1
    refine thn (hk.run pos pins s1 σ H1 (fun zs H2 => ∃ ρ2 M2 bs, RDs (gx X) ρ2 H2 bs zs ∧ bs.length = kws.length ∧ Ext ρ1 H1 ρ2 H2 ∧ Post (gx X) ρ2 H2 (match arrange (as ++ bs) (E.dfl x) ord with
      | some as => E.call (.fn x) as M2
      | none => .bad) (QV (gx X) Q) ∧ Rep (gx X) ρ2 M2 H2) I1 ⟨ρ1, M1, ds, rp, rs1, hp2.mono fun bs M2 ρ2 H2 _ _ h vs rv => ⟨ρ2, M2, bs, rv, h⟩⟩) fun ws s2 ⟨zs, H2, I2, r2, ρ2, M2, bs, q2, l2, e2, hp, rp2⟩ => ⟨I2.kIn, ?_⟩
    rw [kw_names]
    exact fin I2 r1 r2 (q1.ext e2) q2 rp2 l1 l2 hp
  cases es with
  | nil =>
    refine PySem.W.callWith_KW0 (h₀ := X.base) I.ok.mod.kin hkp n1 ?_ (by show (false || (backToKw pos (keywordEach kws X.env)).any (·.1.isNone)) = false; rw [n2]; rfl)
    rw [l0 rfl] at h
    exact kw I .nil .nil rep rs rfl h
  | cons a r =>
    refine PySem.W.callWith_KW (h₀ := X.base) I.ok.mod.kin hkp n1 ?_ (by rw [back_plain hs, n2]; rfl) (star_of (by simp only [List.all_cons, Bool.and_eq_true] at hs; exact hs.1))
    have hp2 : Post (gx X) ρ H (fl ds M) (fun as M1 ρ1 H1 => as.length = (a :: r).length ∧ Ext ρ H ρ1 H1 ∧ Post (gx X) ρ1 H1 ((fk ds M1).bind fun ks M => match arrange (as ++ ks) (E.dfl x) ord with
      | some as => E.call (.fn x) as M
      | none => .bad) (QV (gx X) Q) ∧ Rep (gx X) ρ1 M1 H1) := by
      have hp1 := h.bind
      revert hp1
      cases e : fl ds M with
      | ok a M2 => exact fun hp1 ρ2 H2 e2 r2 => ⟨ll _ _ _ _ e, e2, hp1 ρ2 H2 e2 r2, r2⟩
      | exc _ _ => exact fun hp1 => hp1
      | bad => exact fun hp1 => hp1
    refine thn (hl.run pos pins s σ H (fun vs H1 => ∃ ρ1 M1 as, RDs (gx X) ρ1 H1 as vs ∧ as.length = (a :: r).length ∧ Ext ρ H ρ1 H1 ∧ Post (gx X) ρ1 H1 ((fk ds M1).bind fun ks M => match arrange (as ++ ks) (E.dfl x) ord with
      | some as => E.call (.fn x) as M
      | none => .bad) (QV (gx X) Q) ∧ Rep (gx X) ρ1 M1 H1) I ⟨ρ, M, ds, rep, rs, hp2.mono fun as M1 ρ1 H1 _ _ h vs rv => ⟨ρ1, M1, as, rv, h⟩⟩) fun us s1 ⟨vs, H1, I1, r1, ρ1, M1, as, q1, l1, e1, hp, rp⟩ => ?_
    exact kw I1 r1 q1 rp (rs.ext e1) l1 hp
end
end Ev

set_option Elab.async false
set_option linter.all false
set_option maxRecDepth 100000
set_option maxHeartbeats 1000000
namespace Ev
open PySem PySem.Spec PyProof.Rows L2
section
variable {α : Type}
theorem bindF_same : ∀ {l s : List (Str × α)}, (∀ p ∈ l, (s.lookup p.1).isSome = true) → bindF s l = s
  | [], s, _ => rfl
  | p :: l, s, h => by
    have h0 := h p List.mem_cons_self
    unfold bindF
    cases e : s.lookup p.1 with
    | none => rw [e] at h0; cases h0
    | some x => simp only [Option.isNone_some, Bool.false_eq_true, if_false]; exact bindF_same fun q hq => h q (List.mem_cons_of_mem _ hq)
theorem look_cons_ne {p : Str} {a : α} {z : List (Str × α)} : ∀ {r : List Str}, p ∉ r → look ((p, a) :: z) r = look z r
  | [], _ => rfl
  | q :: r, h => by
    unfold look
    have h1 : q ≠ p := fun e => h (e ▸ List.mem_cons_self)
    have e1 : ((p, a) :: z).lookup q = z.lookup q := by
      rw [List.lookup_cons]
      cases e : q == p with
      | true => exact absurd (beq_iff_eq.mp e) h1
      | false => rfl
    rw [e1, look_cons_ne fun q' => h (List.mem_cons_of_mem _ q')]
theorem look_full : ∀ {ps : List Str} {as : List α}, ps.Nodup → as.length = ps.length → look (ps.zip as) ps = some as
  | [], [], _, _ => rfl
  | [], _ :: _, _, h => by simp at h
  | _ :: _, [], _, h => by simp at h
  | p :: ps, a :: as, nd, h => by
    have n2 := List.nodup_cons.mp nd
    rw [List.zip_cons_cons]
    unfold look
    have e1 : ((p, a) :: ps.zip as).lookup p = some a := by rw [List.lookup_cons]; simp
    rw [e1, look_cons_ne n2.1, look_full n2.2 (by simpa using h)]
theorem lookup_some_of_look {s : List (Str × α)} : ∀ {ps : List Str} {l : List α}, look s ps = some l → ∀ p ∈ ps, (s.lookup p).isSome = true
  | [], _, _, p, h => by cases h
  | q :: ps, l, e, p, h => by
    unfold look at e
    cases h1 : s.lookup q with
    | none => rw [h1] at e; cases e
    | some x =>
      cases h2 : look s ps with
      | none => rw [h1, h2] at e; cases e
      | some t =>
        rcases List.mem_cons.mp h with rfl | h
        · rw [h1]; rfl
        · exact lookup_some_of_look h2 p h
theorem bindP_full {ps : List Str} {as ds : List α} (nd : ps.Nodup) (h : as.length = ps.length) : bindP ps [] as [] ds = some as := by
  have e := look_full (α := α) nd h
  unfold bindP bindS
  rw [List.zip_nil_left, List.append_nil, bindF_same fun p hp => ?_]
  · exact e
  · exact lookup_some_of_look e p.1 (List.mem_of_mem_drop (List.of_mem_zip hp).1)
end
theorem bindOk_full {ps : List Str} {nd : Nat} (hd : ps.Nodup) (h : nd ≤ ps.length) : bindOk ps [] ps.length nd = true := by
  unfold bindOk
  simp only [Bool.and_eq_true, decide_eq_true_eq, Nat.le_refl, kwOk, true_and, and_true, h, List.append_nil, List.take_length, List.all_eq_true]
  intro p hp
  have e := look_full (α := Unit) (as := ps.map fun _ => ()) hd (by simp)
  have e2 : ps.zip (ps.map fun _ => ()) = unitsOf ps := by
    unfold unitsOf
    clear e hd hp h
    induction ps with
    | nil => rfl
    | cons a l ih => simp [ih]
  rw [e2] at e
  exact lookup_some_of_look e p (List.mem_of_mem_take hp)
section
variable {S : Sx} {E : En} {X : Cx} {pos : Pos} {es : List Expr} {fl fk : St' → Mem → Res (List D)} {fa fb : St' → Mem → Res D} {a b : Expr}
/-- v(e, ..), v a local name that holds a def of the module -/
theorem den_cal (ok : XOk S E X) {x : Str} {p : Pos} {i : Nat} {e : Expr} (hN : X.N[i]? = some x) (hv : Vis X.env.scope x) (hl : PA X (e :: es) (tA (gx X) fl)) (hs : (e :: es).all notStar = true)
    (hdb : (x == ("__debug__" : Str)) = false) (hcd : (x == ("__classdict__" : Str)) = false) :
    PE X (.Call (.Name x p) (e :: es) [] pos) (tE (gx X) fun σ M => match σ[i]? with
      | some (some f) => (fl σ M).bind fun ds M => E.call f ds M
      | _ => .bad) := by
  refine ⟨fun pins s σ H Q I h => ?_⟩
  obtain ⟨ρ, M, ds, rep, rs, h⟩ := h
  dsimp only at h
  split at h
  · rename_i d hd
    obtain ⟨v, hv', rv⟩ := rs.get hd
    have h0 : ∃ y f, d = .fn y ∧ v = .ref f ∧ X.mg y = some (.ref f) ∧ PySem.W.keepIn X.K (.ref f) = true := by
      cases rv with
      | fn h1 h2 => exact ⟨_, _, rfl, rfl, h1, h2⟩
      | _ =>
        exfalso
        revert h
        cases fl ds M with
        | ok a M1 => simp only [Res.bind_ok]; rw [ok.isfn _ _ _ (by intro y; exact fun e => nomatch e)]; exact fun h => h
        | exc _ _ => exact fun h => h
        | bad => exact fun h => h
    obtain ⟨y, f, rfl, rfl, hm, hkp⟩ := h0
    have hst : starEach (e :: es) X.env = (false, eval e X.env) :: starEach es X.env := star_of (by simp only [List.all_cons, Bool.and_eq_true] at hs; exact hs.1)
    have hpl : (backTo pos (starEach es X.env)).any (·.1) = false := back_plain (by simp only [List.all_cons, Bool.and_eq_true] at hs; exact hs.2)
    refine wpAny_Call_Name_kw (thn ((pe_var (pos := p) hN hv hdb hcd).run pins s σ H (fun v H1 => v = .ref f ∧ H1 = H) I ⟨.ref f, hv', rfl, rfl⟩) fun u s1 ⟨v, H1, I1, r1, q1⟩ => ?_)
    obtain ⟨rfl, rfl⟩ := q1
    cases r1
    refine PySem.W.callWith_K (h₀ := X.base) I.ok.mod.kin hkp (thn (hl.run pos pins s1 σ _ (fun vs H1 => ∃ ρ1 M1 as, Rep (gx X) ρ1 M1 H1 ∧ RDs (gx X) ρ1 H1 as vs ∧ Post (gx X) ρ1 H1 (E.call (.fn y) as M1) (QV (gx X) Q)) I1 ⟨ρ, M, ds, rep, rs, h.bind.mono fun as M1 ρ1 H1 e1 r1 h vs rv => ⟨ρ1, M1, as, r1, rv, h⟩⟩) fun us s2 ⟨vs, H2, I2, r, q⟩ => ⟨I2.kIn, ?_⟩) hst hpl
    obtain ⟨ρ1, M1, as, rp, rv, hp⟩ := q
    cases hf : S.ft.lookup y with
    | none => rw [ok.no y as M1 hf] at hp; exact hp.elim
    | some fi =>
      by_cases hlen : as.length = fi.ps.length
      · obtain ⟨f', hm', _, _, hnd, hdl⟩ := ok.ft y fi hf
        exact run_E (ks := []) (ws := []) (zs := []) (bs := []) ok hf hm I2 rp r .nil rv .nil rfl (by rw [List.nil_append, ← r.length, ← rv.length, hlen]; exact bindOk_full hnd hdl) (bindP_full hnd hlen) hp
      · rw [ok.len y fi as M1 hf hlen] at hp; exact hp.elim
  · exact h.elim
theorem metT_attrs (m : Met) : PlainAttrs (metT m) := by
  cases m with
  | append => exact PySem.F.plainAttrs_list
  | get => exact PySem.F.plainAttrs_dict
def metN : Met → Str
  | .append => "append"
  | .get => "get"
theorem metT_slot (m : Met) : Slot (metT m) (metN m) (metId m) := by
  cases m with
  | append => exact PySem.F.slot_list_append
  | get => exact PySem.F.slot_dict_get
theorem metT_type (m : Met) : typeOf (.builtin (metId m)) = pure (.type "method_descriptor") := by
  cases m with
  | append => exact PySem.F.type_list_append
  | get => exact PySem.F.type_dict_get
/-- o.m(e, ..), m a method of a built-in type; the arguments leave the receiver what it is -/
theorem den_met (m : Met) {apos : Pos} {e : Expr} (ha : PE X a (tE (gx X) fa)) (hl : PA X (e :: es) (tA (gx X) fl)) (hb : baseOk a = true) (hs : (e :: es).all notStar = true) (h30 : es.length < 28) (hline : (apos.endLine == pos.line) = true) :
    PE X (.Call (.Attribute a (metN m) apos) (e :: es) [] pos) (tE (gx X) fun σ M => (fa σ M).bind fun x M => if recD m M x then (fl σ M).bind fun ds M => metD m x ds M else .bad) := by
  have hst : starEach (e :: es) X.env = (false, eval e X.env) :: starEach es X.env := star_of (by simp only [List.all_cons, Bool.and_eq_true] at hs; exact hs.1)
  have hpl : (backTo pos (starEach es X.env)).any (·.1) = false := back_plain (by simp only [List.all_cons, Bool.and_eq_true] at hs; exact hs.2)
  have hfew : ((backTo pos (starEach (e :: es) X.env)).all (fun x => !x.1) && (backToKw pos (keywordEach [] X.env)).all (fun x => x.1.isSome)
      && decide ((e :: es).length + ([] : List Keyword).length + (if ([] : List Keyword).isEmpty then 0 else 1) < 30)) = true := by
    rw [star_all hs]
    simp [backTo, backToKw, keywordEach]
    omega
  refine ⟨fun pins s σ H Q I h => ?_⟩
  obtain ⟨ρ, M, ds, rep, rs, h⟩ := h
  dsimp only at h
  refine wpAny_Call_method_late (base_of hb) hfew hline rfl (thn (ha.run pins s σ H (fun v H1 => ∃ ρ1 M1 x, Rep (gx X) ρ1 M1 H1 ∧ RD (gx X) ρ1 H1 x v ∧ RS (gx X) ρ1 H1 ds σ ∧ Post (gx X) ρ1 H1 (if recD m M1 x then (fl ds M1).bind fun ds M => metD m x ds M else .bad) (QV (gx X) Q)) I ⟨ρ, M, ds, rep, rs, h.bind.mono fun x M1 ρ1 H1 e1 r1 h v rv => ⟨ρ1, M1, x, r1, rv, rs.ext e1, h⟩⟩) fun v s1 ⟨x, H1, I1, r1, q1⟩ => ?_)
  obtain ⟨ρ1, M1, d, rp1, rd, rs1, hp⟩ := q1
  split at hp
  · rename_i hr
    obtain ⟨h1, h2⟩ := rec_is I1 rp1 rd r1 hr
    refine ⟨metT m, metId m, metT_attrs m, metT_slot m, metT_type m, h1, h2, ?_⟩
    have hA := hl.run pos pins s1 σ H1 (fun xs H2 => rMet (gx X) (metD m) x xs H2 Q) I1 ⟨ρ1, M1, ds, rp1, rs1, hp.bind.mono fun as M2 ρ2 H2 e2 r2 h vs rv => ⟨ρ2, M2, d, as, r2, rd.ext e2, rv, h⟩⟩
    rw [hst] at hA ⊢
    refine Calls.callWith_builtin (by show (false || (backTo pos (starEach es X.env)).any (·.1)) = false; rw [hpl] <;> rfl) (Calls.evalArgs_plain ?_)
    exact thn hA fun us s2 ⟨vs, H2, I2, r2, q2⟩ => mt_D m pins s2 σ H2 x vs v us Q I2 r1 r2 q2
  · exact hp.elim
/-! ### targets -/
theorem dg_var {i : Nat} {x : Str} (hN : X.N.Nodup) (hi : X.N[i]? = some x) (hx : Loc X.env.scope x) (hf : X.fn x = true ∨ X.env.scope.names.lookup x = some .local) : PG X (.Name x pos) (gT (gx X) [i] fun d σ M => .ok (σ.set i (some d)) M) := by
  refine PG.mono (pg_name hN hi hx hf) fun v σ H Q h => ?_
  obtain ⟨ρ, M, ds, d, rep, rs, rd, h⟩ := h
  refine h.here rep _ (rs.set (d := some d) (v := some v) rd i) ⟨by simp, fun j hj => ?_⟩
  rw [List.getElem?_set_ne (by simp at hj; omega)]
theorem dg_nil : PGs X [] (gTs (gx X) [] fun l σ M => match l with
    | [] => .ok σ M
    | _ => .bad) := by
  refine ⟨fun pins s σ H vs us Q I r h => pgs_nil.run pins s σ H vs us Q I r ?_⟩
  obtain ⟨ρ, M, ds, l, rep, rs, rd, h⟩ := h
  cases rd with
  | nil => exact ⟨rfl, h.here rep _ rs Off.refl⟩
  | cons _ _ => exact h.elim
theorem dg_cons {t : Expr} {ts : List Expr} {s1 s2 : List Nat} {ft : D → St' → Mem → Res St'} {fts : List D → St' → Mem → Res St'} (h1 : PG X t (gT (gx X) s1 ft)) (h2 : PGs X ts (gTs (gx X) s2 fts))
    (he : (assignEach (t :: ts) X.env).map (·.2) = assign t X.env :: (assignEach ts X.env).map (·.2)) : PGs X (t :: ts) (gTs (gx X) (s1 ++ s2) fun l σ M => match l with
    | d :: l => (ft d σ M).bind fun σ M => fts l σ M
    | _ => .bad) := by
  refine ⟨fun pins s σ H vs us Q I r h => ?_⟩
  obtain ⟨ρ, M, ds, l, rep, rs, rd, h⟩ := h
  cases rd with
  | nil => exact h.elim
  | @cons d v l vs rd rds =>
    cases r with
    | @cons _ u _ us rv rvs =>
      rw [he]
      dsimp only at h
      refine assignInOrder_cons (thn (h1.run pins s σ H v u (fun σ1 H1 => ∃ ρ1 M1 ds1, Rep (gx X) ρ1 M1 H1 ∧ RS (gx X) ρ1 H1 ds1 σ1 ∧ RDs (gx X) ρ1 H1 l vs ∧ Off s1 σ σ1 ∧ Post (gx X) ρ1 H1 (fts l ds1 M1) fun ds' _ ρ' H' => ∀ σ', RS (gx X) ρ' H' ds' σ' → Off (s1 ++ s2) σ σ' → Q σ' H') I rv
        ⟨ρ, M, ds, d, rep, rs, rd, h.bind.mono fun ds1 M1 ρ1 H1 e1 r1 h σ1 rs1 o1 => ⟨ρ1, M1, ds1, r1, rs1, rds.ext e1, o1, h⟩⟩) fun _ s' ⟨σ1, H1, I1, ρ1, M1, ds1, r1, rs1, rds1, o1, hp⟩ => ?_)
      exact h2.run pins s' σ1 H1 vs us Q I1 rvs ⟨ρ1, M1, ds1, l, r1, rs1, rds1, hp.mono fun ds' M' ρ' H' _ _ h σ' rs' o' => h σ' rs' (o1.trans o' (fun i hi => List.mem_append_left _ hi) (fun i hi => List.mem_append_right _ hi))⟩
theorem assignEach_len : ∀ {ts : List Expr}, (assignEach ts X.env).length = ts.length
  | [] => rfl
  | t :: ts => by
    have := assignEach_len (ts := ts)
    cases t <;> simpa [assignEach] using this
theorem assignEach_cons {t : Expr} {ts : List Expr} (h : notStar t = true) : (assignEach (t :: ts) X.env).map (·.2) = assign t X.env :: (assignEach ts X.env).map (·.2) := by
  cases t <;> first | rfl | (exact absurd h Bool.false_ne_true)
theorem assignEach_star : ∀ {ts : List Expr}, ts.all notStar = true → (assignEach ts X.env).findIdx? (·.1) = none
  | [], _ => rfl
  | t :: ts, h => by
    simp only [List.all_cons, Bool.and_eq_true] at h
    have := assignEach_star (ts := ts) h.2
    cases t <;> first | (exact absurd h.1 Bool.false_ne_true) | (simp only [assignEach, List.findIdx?_cons, this] <;> rfl)
theorem dg_tup {ts : List Expr} {k : Nat} {sl : List Nat} {n : Nat} {fts : List D → St' → Mem → Res St'} (hc : X.calm = true) (h : PGs X ts (gTs (gx X) sl fts)) (hn : n = ts.length) (hs : ts.all notStar = true) : PG X (.Tuple ts k pos) (gT (gx X) sl fun d σ M => match d with
    | .tup ds => if ds.length = n then fts ds σ M else .bad
    | _ => .bad) := by
  refine ⟨fun pins s σ H v u Q I r hw => ?_⟩
  obtain ⟨ρ, M, ds, d, rep, rs, rd, hw⟩ := hw
  cases rd with
  | @tup a vs l h1 q =>
    dsimp only at hw
    split at hw
    · rename_i hl
      cases r
      obtain ⟨its, rv, ht, hz⟩ := I.tuple h1.seq
      refine assign_Tuple_tuple (I.ok.hd hc) ht (by rw [assignEach_len, ← hn, ← hl, q.length, rv.length]; simp) (assignEach_star hs) fun h' hx => ?_
      have I1 : Inv X pins σ H { s with heap := h' } := I.kept (t' := s.toks) fun b o e => hx b o (Nat.ne_of_lt (Heap.lt_size e)) e
      exact h.run pins _ σ H vs _ Q I1 (by simpa using rv) ⟨ρ, M, ds, l, rep, rs, q, hw⟩
    · exact hw.elim
  | _ => exact hw.elim
theorem dg_sub {o i : Expr} {fo fi : St' → Mem → Res D} (ho : PE X o (tE (gx X) fo)) (hi : PE X i (tE (gx X) fi)) (hp : plainI i = true) : PG X (.Subscript o i pos) (gT (gx X) [] fun d σ M => (fo σ M).bind fun o M => (fi σ M).bind fun i M => match setD o i d M with
    | some M => .ok σ M
    | none => .bad) := by
  refine PG.mono (pg_sub ho hi set_D (by intro v; cases i <;> first | rfl | (exact absurd hp Bool.false_ne_true))) fun v σ H Q h => ?_
  obtain ⟨ρ, M, ds, d, rep, rs, rd, h⟩ := h
  refine ⟨ρ, M, ds, rep, rs, h.bind.mono fun x M1 ρ1 H1 e1 r1 h => ?_⟩
  intro vo rvo
  refine ⟨ρ1, M1, ds, r1, rs.ext e1, h.bind.mono fun y M2 ρ2 H2 e2 r2 h => ?_⟩
  intro vi rvi
  split at h
  · rename_i M' hM
    exact ⟨ρ2, M2, x, y, d, M', r2, rvo.ext e2, rvi, (rd.ext e1).ext e2, hM, fun ρ' H' e' r' => h ρ' H' e' r' σ (((rs.ext e1).ext e2).ext e') Off.refl⟩
  · exact h.elim
end
end Ev

set_option Elab.async false
set_option linter.all false
set_option maxRecDepth 100000
set_option maxHeartbeats 1000000
/-! Ev10: walks and comprehensions. -/
namespace Ev
open PySem PySem.Spec PyProof.Rows L2 RZ
theorem wOk_of {w : Option Nat} {xs : List D} {M : Mem} (h : chkW w xs M = true) : wOk w xs M := by
  unfold chkW at h
  exact @of_decide_eq_true _ (Classical.propDecidable _) h
/-- J walks the items xs, from a state on -/
def ItOk (g : Gx) (J : It) (xs : List D) (w : Option Nat) (ρ : Rho) (H : Hp) : Prop := ∀ (i : Nat) (ρ' : Rho) (H' : Hp) (M : Mem), ExtW ρ H ρ' H' → Rep g ρ' M H' → wOk w xs M →
  (i < xs.length → J.go i H' ∧ ∀ x H'', J.yld i H' x H'' → ∃ d, xs[i]? = some d ∧ Rep g ρ' M H'' ∧ Ext ρ' H' ρ' H'' ∧ RD g ρ' H'' d x) ∧ (xs.length ≤ i → J.stop i H')
def iE (g : Gx) (f : St' → Mem → Res (List D × Option Nat)) : TI := fun σ H R => ∃ ρ M ds, Rep g ρ M H ∧ RS g ρ H ds σ ∧ Post g ρ H (f ds M) fun xs _ ρ' H' => ∀ J, ItOk g J xs.1 xs.2 ρ' H' → R J H'
theorem PI.mono {X : Cx} {tg e : Expr} {t t' : TI} (h : PI X tg e t) (k : ∀ σ H Q, t' σ H Q → t σ H Q) : PI X tg e t' := ⟨fun pins s σ H R I q => h.run pins s σ H R I (k σ H R q)⟩
section
variable {g : Gx} {ρ : Rho} {H : Hp}
/-- a list that stands (by the state's own words) -/
theorem itl_ok {a : Addr} {xs : List D} {w : Option Nat} (h : ∀ ρ' H' M, ExtW ρ H ρ' H' → Rep g ρ' M H' → wOk w xs M → ∃ vs, SqL g.K H' a vs ∧ RDs g ρ' H' xs vs) : ItOk g (Itl g.K a) xs w ρ H := fun i ρ' H' M e r k => by
  obtain ⟨vs, h', q⟩ := h ρ' H' M e r k
  refine ⟨fun hi => ?_, fun hi => ⟨vs, h', by rw [← q.length]; exact hi⟩⟩
  obtain ⟨v, hv, rv⟩ := q.get (i := i) (by simp [hi] : xs[i]? = some xs[i])
  refine ⟨⟨vs, v, h', hv⟩, fun x H'' y => ?_⟩
  obtain ⟨rfl, y⟩ := y
  have := y vs h'
  rw [hv] at this; cases this
  exact ⟨_, by simp [hi], r, .refl _ _, rv⟩
theorem itt_ok {a : Addr} {vs : List V} {xs : List D} (h : AtT g ρ H a vs) (q : RDs g ρ H xs vs) : ItOk g (Itt g.K a) xs none ρ H := fun i ρ' H' M e r k => by
  have h' := (h.extW e).seq
  have q := q.extW e
  refine ⟨fun hi => ?_, fun hi => ⟨vs, h', by rw [← q.length]; exact hi⟩⟩
  obtain ⟨v, hv, rv⟩ := q.get (i := i) (by simp [hi] : xs[i]? = some xs[i])
  refine ⟨⟨vs, v, h', hv⟩, fun x H'' y => ?_⟩
  obtain ⟨rfl, y⟩ := y
  have := y vs h'
  rw [hv] at this; cases this
  exact ⟨_, by simp [hi], r, .refl _ _, rv⟩
theorem itr_ok {lo : Int} {n : Nat} : ItOk g (Itr lo n) (rngL lo n) none ρ H := fun i ρ' H' M e r k => by
  have hl : (rngL lo n).length = n := by simp [rngL]
  refine ⟨fun hi => ⟨by rw [hl] at hi; exact hi, fun x H'' y => ?_⟩, fun hi => by rw [hl] at hi; exact hi⟩
  obtain ⟨rfl, rfl⟩ := y
  rw [hl] at hi
  exact ⟨_, by simp [rngL, hi], r, .refl _ _, .int _⟩
theorem zipL_get : ∀ {xs ys : List D} {i : Nat}, (zipL xs ys)[i]? = match xs[i]?, ys[i]? with
    | some a, some b => some (.tup [a, b])
    | _, _ => none
  | [], _, i => by simp [zipL]
  | _ :: _, [], i => by simp [zipL]
  | a :: r, b :: s, 0 => by simp [zipL]
  | a :: r, b :: s, i + 1 => by simpa [zipL] using zipL_get (xs := r) (ys := s) (i := i)
theorem zipL_len : ∀ {xs ys : List D}, (zipL xs ys).length = min xs.length ys.length
  | [], _ => by simp [zipL]
  | _ :: _, [] => by simp [zipL]
  | _ :: r, _ :: s => by simp [zipL, zipL_len (xs := r) (ys := s)]
theorem itz_ok {a b : Addr} {vs us : List V} {xs ys : List D} (h : a ∉ ρ ∧ H a = some (.lst vs)) (k : b ∉ ρ ∧ H b = some (.lst us)) (q : RDs g ρ H xs vs) (p : RDs g ρ H ys us) : ItOk g (Itz g.K a b) (zipL xs ys) none ρ H := fun i ρ' H' M e r _ => by
  have h' : SqL g.K H' a vs := SqL.of (e.keep _ _ h.2 h.1).1
  have k' : SqL g.K H' b us := SqL.of (e.keep _ _ k.2 k.1).1
  have q := q.extW e
  have p := p.extW e
  refine ⟨fun hi => ?_, fun hi => ⟨vs, us, h', k', by rw [zipL_len] at hi; rw [← q.length, ← p.length]; omega⟩⟩
  rw [zipL_len] at hi
  have i1 : i < xs.length := by omega
  have i2 : i < ys.length := by omega
  obtain ⟨v, hv, rv⟩ := q.get (i := i) (by simp [i1] : xs[i]? = some xs[i])
  obtain ⟨u, hu, ru⟩ := p.get (i := i) (by simp [i2] : ys[i]? = some ys[i])
  refine ⟨⟨vs, us, v, u, h', k', hv, hu⟩, fun x H'' y => ?_⟩
  obtain ⟨T, x1, x2, rfl, hT, rfl, y1, y2⟩ := y
  have e1 := y1 vs h'
  have e2 := y2 us k'
  rw [hv] at e1; rw [hu] at e2; cases e1; cases e2
  refine ⟨.tup [xs[i], ys[i]], by rw [zipL_get]; simp [i1, i2], r.new hT, Ext.new r hT, .tup (.inl ⟨r.fresh hT, .inl upd_same⟩) (.cons (rv.ext (Ext.new r hT)) (.cons (ru.ext (Ext.new r hT)) .nil))⟩
theorem itzT_ok {a b : Addr} {vs us : List V} {xs ys : List D} (h : AtT g ρ H a vs) (k : AtT g ρ H b us) (q : RDs g ρ H xs vs) (p : RDs g ρ H ys us) : ItOk g (ItzT g.K a b) (zipL xs ys) none ρ H := fun i ρ' H' M e r _ => by
  have h' := (h.extW e).seq
  have k' := (k.extW e).seq
  have q := q.extW e
  have p := p.extW e
  refine ⟨fun hi => ?_, fun hi => ⟨vs, us, h', k', by rw [zipL_len] at hi; rw [← q.length, ← p.length]; omega⟩⟩
  rw [zipL_len] at hi
  have i1 : i < xs.length := by omega
  have i2 : i < ys.length := by omega
  obtain ⟨v, hv, rv⟩ := q.get (i := i) (by simp [i1] : xs[i]? = some xs[i])
  obtain ⟨u, hu, ru⟩ := p.get (i := i) (by simp [i2] : ys[i]? = some ys[i])
  refine ⟨⟨vs, us, v, u, h', k', hv, hu⟩, fun x H'' y => ?_⟩
  obtain ⟨T, x1, x2, rfl, hT, rfl, y1, y2⟩ := y
  have e1 := y1 vs h'
  have e2 := y2 us k'
  rw [hv] at e1; rw [hu] at e2; cases e1; cases e2
  refine ⟨.tup [xs[i], ys[i]], by rw [zipL_get]; simp [i1, i2], r.new hT, Ext.new r hT, .tup (.inl ⟨r.fresh hT, .inl upd_same⟩) (.cons (rv.ext (Ext.new r hT)) (.cons (ru.ext (Ext.new r hT)) .nil))⟩
end
section
variable {S : Sx} {E : En} {X : Cx} {pos : Pos} {fa fb : St' → Mem → Res D} {a b tg : Expr}
theorem it_l {pins : List (Addr × Obj)} {σ : L2.St} {H : Hp} {s : Shared} {p : Addr} {vs : List V} {R : It → Hp → Prop} (I : Inv X pins σ H s) (h : SqL X.K H p vs) (q : R (Itl X.K p) H) : wpAny (model X.prog X.w) X.A (pyIter (.ref p)) (PIE X pins σ tg R) X.xe s := by
  obtain ⟨its, _, pl, _⟩ := I.list h
  refine wpAny_pyIter_list pl.isList ⟨s.heap.objs.size, [s.heap.objs.size], _, _, H, rfl, ?_, turn_list p _, ⟨_, Heap.get?_push_size _ rfl, rfl, rfl⟩, ?_, q⟩
  · exact I.kept (t' := s.toks) fun b o e => Heap.get?_push_of_some _ e
  · intro b hb
    rw [List.mem_singleton] at hb
    rw [hb]
    exact I.fpOk (Nat.le_refl _) (I.hok.fresh (Nat.le_refl _))
theorem it_t {pins : List (Addr × Obj)} {σ : L2.St} {H : Hp} {s : Shared} {p : Addr} {vs : List V} {R : It → Hp → Prop} (I : Inv X pins σ H s) (h : SqT X.K H p vs) (q : R (Itt X.K p) H) : wpAny (model X.prog X.w) X.A (pyIter (.ref p)) (PIE X pins σ tg R) X.xe s := by
  obtain ⟨its, _, pl, _⟩ := I.tuple h
  refine wpAny_pyIter_tuple (show s.heap.IsTuple p its.toArray from pl) ⟨s.heap.objs.size, [s.heap.objs.size], _, _, H, rfl, ?_, turn_tuple p _, ⟨_, Heap.get?_push_size _ rfl, rfl, rfl⟩, ?_, q⟩
  · exact I.kept (t' := s.toks) fun b o e => Heap.get?_push_of_some _ e
  · intro b hb
    rw [List.mem_singleton] at hb
    rw [hb]
    exact I.fpOk (Nat.le_refl _) (I.hok.fresh (Nat.le_refl _))
/-- over a list or a tuple -/
theorem di_val (ha : PE X a (tE (gx X) fa)) : PI X tg a (iE (gx X) fun σ M => (fa σ M).bind fun x M => walkV x M) := by
  refine ⟨fun pins s σ H R I h => ?_⟩
  obtain ⟨ρ, M, ds, rep, rs, h⟩ := h
  refine thn (ha.run pins s σ H (fun v H1 => ∃ ρ1 M1 x, Rep (gx X) ρ1 M1 H1 ∧ RD (gx X) ρ1 H1 x v ∧ Post (gx X) ρ1 H1 (walkV x M1) fun xs _ ρ' H' => ∀ J, ItOk (gx X) J xs.1 xs.2 ρ' H' → R J H') I
    ⟨ρ, M, ds, rep, rs, h.bind.mono fun x M1 ρ1 H1 e1 r1 h v rv => ⟨ρ1, M1, x, r1, rv, h⟩⟩) fun u s1 ⟨v, H1, I1, r1, ρ1, M1, x, rp, rd, hp⟩ => ?_
  cases rd with
  | tup h1 q => cases r1; exact it_t I1 h1.seq (hp.here rp _ (itt_ok h1 q))
  | lst n h1 q => cases r1; exact it_l I1 (SqL.of h1) (hp.here rp _ (itl_ok fun ρ' H' M e r k => ⟨_, SqL.of (e.keep _ _ h1 n).1, q.extW e⟩))
  | rol h1 q => cases r1; exact it_l I1 h1.seq (hp.here rp _ (itl_ok fun ρ' H' M e r k => ⟨_, (h1.extW e).seq, q.extW e⟩))
  | @obj n p h1 =>
    cases r1
    obtain ⟨c, hc, ok⟩ := rp.at_ h1
    cases c with
    | lst l =>
      simp only [walkV, hc] at hp
      obtain ⟨vs, h2, q⟩ := ok
      refine it_l I1 (SqL.of h2) (hp.here rp _ (itl_ok fun ρ' H' M e r k => ?_))
      obtain ⟨vs', h3, q3⟩ := r.cell n p _ (pre_get e.pre h1) k
      exact ⟨vs', SqL.of h3, q3⟩
    | dct _ => simp only [walkV, hc] at hp; exact hp.elim
  | _ => exact hp.elim
theorem den_c1 (ha : PE X a (tE (gx X) fa)) (hs : notStar a = true) : PA X [a] (tA (gx X) fun σ M => (fa σ M).bind fun x M => .ok [x] M) := PA.mono (den_cons ha den_nil hs) fun σ H Q h => h
theorem den_c2 (ha : PE X a (tE (gx X) fa)) (hb : PE X b (tE (gx X) fb)) (hs : notStar a = true) (hs2 : notStar b = true) : PA X [a, b] (tA (gx X) fun σ M => (fa σ M).bind fun x M => (fb σ M).bind fun y M => .ok [x, y] M) := by
  refine PA.mono (den_cons ha (den_c1 hb hs2) hs) fun σ H Q h => ?_
  obtain ⟨ρ, M, ds, rep, rs, h⟩ := h
  exact ⟨ρ, M, ds, rep, rs, by simp only [Res.bind_assoc, Res.bind_ok] at h ⊢; exact h⟩
theorem bnd {n : Int} (h : -1000000 ≤ n ∧ n ≤ 1000000) : -(2 ^ 62) ≤ n ∧ n < 2 ^ 62 := ⟨by omega, by omega⟩
theorem di_rng1 {p : Pos} (hg : Gl X "range") (hm : X.mg "range" = none) (ha : PE X a (tE (gx X) fa)) (hs : notStar a = true) : PI X tg (.Call (.Name "range" p) [a] [] pos) (iE (gx X) fun σ M => (fa σ M).bind fun x M => rng1V x M) := by
  refine PI.mono (pi_range1 hg hm (den_c1 ha hs) (star_of hs)) fun σ H R h => ?_
  obtain ⟨ρ, M, ds, rep, rs, h⟩ := h
  refine ⟨ρ, M, ds, rep, rs, ?_⟩
  dsimp only at h ⊢
  cases e : fa ds M with
  | ok x M1 =>
    rw [e] at h
    intro ρ1 H1 e1 r1 vs rv
    obtain ⟨v, rfl, rq⟩ := RDs1 rv
    cases rq with
    | int n =>
      simp only [Res.bind_ok, rng1V] at h
      split at h
      · rename_i hn
        exact ⟨n, rfl, (bnd hn).1, (bnd hn).2, h ρ1 H1 e1 r1 _ itr_ok⟩
      · exact h.elim
    | _ => exact h.elim
  | exc _ _ => rw [e] at h; exact h
  | bad => rw [e] at h; exact h
theorem two_args {α : Type} {f : D → D → Mem → Res α} {ds : St'} {M : Mem} {ρ : Rho} {H : Hp} {Q : α → Mem → Rho → Hp → Prop} (h : Post (gx X) ρ H ((fa ds M).bind fun x M => (fb ds M).bind fun y M => f x y M) Q) :
    Post (gx X) ρ H ((fa ds M).bind fun x M => (fb ds M).bind fun y M => .ok [x, y] M) fun l M' ρ' H' => ∃ x y, l = [x, y] ∧ Post (gx X) ρ' H' (f x y M') Q := by
  cases e : fa ds M with
  | ok x M1 =>
    rw [e] at h
    simp only [Res.bind_ok] at h ⊢
    cases e2 : fb ds M1 with
    | ok y M2 =>
      rw [e2] at h
      simp only [Res.bind_ok] at h ⊢
      intro ρ' H' e' r'
      refine ⟨x, y, rfl, ?_⟩
      revert h
      cases f x y M2 with
      | ok a M3 => exact fun h ρ2 H2 e2 r2 => h ρ2 H2 (e'.trans e2) r2
      | exc _ _ => exact fun h => h
      | bad => exact fun h => h
    | exc _ _ => rw [e2] at h; exact h
    | bad => rw [e2] at h; exact h
  | exc _ _ => rw [e] at h; exact h
  | bad => rw [e] at h; exact h
theorem di_rng2 {p : Pos} (hg : Gl X "range") (hm : X.mg "range" = none) (ha : PE X a (tE (gx X) fa)) (hb : PE X b (tE (gx X) fb)) (hs : notStar a = true) (hs2 : notStar b = true) : PI X tg (.Call (.Name "range" p) [a, b] [] pos) (iE (gx X) fun σ M => (fa σ M).bind fun x M => (fb σ M).bind fun y M => rng2V x y M) := by
  refine PI.mono (pi_range2 hg hm (den_c2 ha hb hs hs2) (by rw [star_of hs, star_of hs2]; rfl) (by rw [star_of hs2]; rfl)) fun σ H R h => ?_
  obtain ⟨ρ, M, ds, rep, rs, h⟩ := h
  refine ⟨ρ, M, ds, rep, rs, (two_args h).mono fun l M1 ρ1 H1 e1 r1 h vs rv => ?_⟩
  obtain ⟨x, y, rfl, h⟩ := h
  obtain ⟨v, u, rfl, rq, ru⟩ := RDs2 rv
  cases rq with
  | int i =>
    cases ru with
    | int j =>
      simp only [rng2V] at h
      split at h
      · rename_i hn
        exact ⟨i, j, rfl, ⟨(bnd hn.1).1, (bnd hn.1).2, (bnd hn.2).1, (bnd hn.2).2⟩, h.here r1 _ itr_ok⟩
      · exact h.elim
    | _ => exact h.elim
  | _ => exact h.elim
theorem di_zip {elts : List Expr} {kk : Nat} {p tpos : Pos} (hg : Gl X "zip") (hm : X.mg "zip" = none) (ha : PE X a (tE (gx X) fa)) (hb : PE X b (tE (gx X) fb)) (hs : notStar a = true) (hs2 : notStar b = true) :
    PI X (.Tuple elts kk tpos) (.Call (.Name "zip" p) [a, b] [] pos) (iE (gx X) fun σ M => (fa σ M).bind fun x M => (fb σ M).bind fun y M => zipV x y M) := by
  refine PI.mono (pi_zipA hg hm (den_c2 ha hb hs hs2) (star_of hs) (back_plain (by simp [hs2]))) fun σ H R h => ?_
  obtain ⟨ρ, M, ds, rep, rs, h⟩ := h
  refine ⟨ρ, M, ds, rep, rs, (two_args h).mono fun l M1 ρ1 H1 e1 r1 h vs rv => ?_⟩
  obtain ⟨x, y, rfl, h⟩ := h
  obtain ⟨v, u, rfl, rq, ru⟩ := RDs2 rv
  cases rq with
  | tup h1 q =>
    cases ru with
    | tup h2 p => exact ⟨_, _, _, _, rfl, .inr ⟨h1.seq, h2.seq, h.here r1 _ (itzT_ok h1 h2 q p)⟩⟩
    | _ => exact h.elim
  | lst n h1 q =>
    cases ru with
    | lst n2 h2 p => exact ⟨_, _, _, _, rfl, .inl ⟨SqL.of h1, SqL.of h2, h.here r1 _ (itz_ok ⟨n, h1⟩ ⟨n2, h2⟩ q p)⟩⟩
    | _ => exact h.elim
  | _ => exact h.elim
theorem enumL_get : ∀ {xs : List D} {k i : Nat}, (enumL k xs)[i]? = (xs[i]?).map fun d => .tup [.int ((k + i : Nat) : Int), d]
  | [], k, i => by simp [enumL]
  | a :: r, k, 0 => by simp [enumL]
  | a :: r, k, i + 1 => by
    have := enumL_get (xs := r) (k := k + 1) (i := i)
    simp only [enumL, List.getElem?_cons_succ, this]
    congr 1; funext d
    rw [show k + 1 + i = k + (i + 1) by omega]
theorem enumL_len : ∀ {xs : List D} {k : Nat}, (enumL k xs).length = xs.length
  | [], _ => rfl
  | _ :: r, k => by simp [enumL, enumL_len (xs := r)]
theorem ite_ok {gg : Gx} {ρ : Rho} {H : Hp} {a : Addr} {vs : List V} {xs : List D} (n : a ∉ ρ) (h : H a = some (.lst vs)) (q : RDs gg ρ H xs vs) : ItOk gg (Ite gg.K a) (enumL 0 xs) none ρ H := fun i ρ' H' M e r _ => by
  have h' : SqL gg.K H' a vs := SqL.of (e.keep _ _ h n).1
  have q := q.extW e
  rw [enumL_len]
  refine ⟨fun hi => ?_, fun hi => ⟨vs, h', by rw [← q.length]; exact hi⟩⟩
  obtain ⟨v, hv, rv⟩ := q.get (i := i) (by simp [hi] : xs[i]? = some xs[i])
  refine ⟨⟨vs, v, h', hv⟩, fun x H'' y => ?_⟩
  obtain ⟨T, x1, rfl, hT, rfl, y1⟩ := y
  have e1 := y1 vs h'
  rw [hv] at e1; cases e1
  refine ⟨.tup [.int (i : Int), xs[i]], by rw [enumL_get]; simp [hi], r.new hT, Ext.new r hT, .tup (.inl ⟨r.fresh hT, .inl upd_same⟩) (.cons (.int _) (.cons (rv.ext (Ext.new r hT)) .nil))⟩
theorem di_enum {elts : List Expr} {kk : Nat} {p tpos : Pos} (hg : Gl X "enumerate") (hm : X.mg "enumerate" = none) (ha : PE X a (tE (gx X) fa)) (hs : notStar a = true) :
    PI X (.Tuple elts kk tpos) (.Call (.Name "enumerate" p) [a] [] pos) (iE (gx X) fun σ M => (fa σ M).bind fun x M => enumV x M) := by
  refine PI.mono (pi_enum hg hm (den_c1 ha hs) (star_of hs)) fun σ H R h => ?_
  obtain ⟨ρ, M, ds, rep, rs, h⟩ := h
  refine ⟨ρ, M, ds, rep, rs, ?_⟩
  dsimp only at h ⊢
  cases e : fa ds M with
  | ok x M1 =>
    rw [e] at h
    intro ρ1 H1 e1 r1 vs rv
    obtain ⟨v, rfl, rq⟩ := RDs1 rv
    cases rq with
    | lst n h1 q => exact ⟨_, _, rfl, SqL.of h1, h ρ1 H1 e1 r1 _ (ite_ok n h1 q)⟩
    | _ => exact h.elim
  | exc _ _ => rw [e] at h; exact h
  | bad => rw [e] at h; exact h
end
end Ev

set_option Elab.async false
set_option linter.all false
set_option maxRecDepth 100000
set_option maxHeartbeats 1000000
/-! Ev11: comprehensions; statements. -/
namespace Ev
open PySem PySem.Spec PyProof.Rows L2
section
variable {S : Sx} {E : En} {X : Cx} {pos : Pos} {fa fb : St' → Mem → Res D} {a b tg it elt : Expr}
theorem lc_red {own : List (Str × Nat)} {sl : List Nat} {fi : St' → Mem → Res (List D × Option Nat)} {ft : D → St' → Mem → Res St'} {fp : St' → Mem → Res Bool} {fe : St' → Mem → Res D} {cell : Bool} (hsl : ∀ i ∈ sl, i ∈ own.map (·.2))
    {σ : L2.St} {H : Hp} {Q : VK} (h : tE (gx X) (fun σ M => (fi σ M).bind fun xs M => (compL xs.2 xs.1 ft fp fe (wipe' σ (own.map (·.2))) xs.1 [] M).bind fun acc M => fresh cell acc M) σ H Q) : tLc (iE (gx X) fi) (gT (gx X) sl ft) (tT (gx X) fp) (tE (gx X) fe) (own.map (·.2)) σ H Q := by
  obtain ⟨ρ, M, ds, rep, rs, h⟩ := h
  refine ⟨ρ, M, ds, rep, rs, h.bind.mono fun xs M1 ρ1 H1 e1 r1 h J hJ D hD => ?_⟩
  obtain ⟨xs, w⟩ := xs
  dsimp only at h hJ
  -- the state between two turns
  let Wk : Nat → Hp → Prop := fun i H' => ∃ ρ' M' acc vs, ExtW ρ1 H1 ρ' H' ∧ ρ'.gh = D :: ρ1.gh ∧ Rep (gx X) ρ' M' H' ∧ H' D = some (.lst vs) ∧ RDs (gx X) ρ' H' acc vs ∧ (∀ a ∈ ρ1.gh, H' a = H1 a) ∧ i ≤ xs.length ∧
    Post (gx X) ρ1 H1 ((compL w xs ft fp fe (wipe' ds (own.map (·.2))) (xs.drop i) acc M').bind fun acc M => fresh cell acc M) (QV (gx X) Q)
  have ghr : ∀ a ∈ ρ1.gh, ∃ o, H1 a = some o := fun a ha => (r1.gh a ha).2
  have gne : ∀ a ∈ ρ1.gh, a ≠ D := fun a ha => r1.ne (.inr ha) hD
  refine ⟨fun i m H' => m = xs.length - i ∧ Wk i H', ⟨xs.length, by simp, ρ1.ghost D, M1, [], [], ExtW.ghost hD, rfl, r1.ghost hD, upd_same, .nil, fun a ha => upd_ne (gne a ha), Nat.zero_le _, by rw [List.drop_zero]; exact h⟩, ?_⟩
  rintro i m H' ⟨rfl, ρ', M', acc, vs, eW, gh, rep', hD', ra, gk, hi', hp⟩
  have hDm : D ∈ ρ'.gh := by rw [gh]; exact List.mem_cons_self
  have wk : chkW w xs M' = true := by
    cases hq : chkW w xs M' with
    | true => rfl
    | false =>
      exfalso
      cases hd : xs.drop i with
      | nil => rw [hd] at hp; simp only [compL, hq] at hp; exact hp
      | cons x r => rw [hd] at hp; simp only [compL, hq] at hp; exact hp
  have jk := hJ i ρ' H' M' eW rep' (wOk_of wk)
  by_cases hlt : i < xs.length
  · obtain ⟨jgo, jy⟩ := jk.1 hlt
    refine .inr ⟨jgo, Wk (i + 1), fun H'' k => ⟨xs.length - (i + 1), by omega, rfl, k⟩, fun x H2 y => ?_⟩
    obtain ⟨d, hd, rep2, e2, rd⟩ := jy x H2 y
    have hdr : xs.drop i = d :: xs.drop (i + 1) := by
      rw [List.drop_eq_getElem_cons hlt]
      rw [List.getElem?_eq_getElem hlt] at hd; cases hd; rfl
    rw [hdr] at hp
    simp only [compL, wk, if_true, Res.bind_assoc] at hp
    -- what is known behind a step of the turn
    have rsw : RS (gx X) ρ' H2 (wipe' ds (own.map (·.2))) (wipe σ (own.map (·.2))) := ((rs.extW e1.toExtW).extW (eW.trans e2.toExtW)).wipe _
    -- the turn is over: with a further item or without
    have fin : ∀ {ρ5 : Rho} {M5 : Mem} {H5 : Hp} {acc' : List Ev.D}, Ext ρ' H' ρ5 H5 → Rep (gx X) ρ5 M5 H5 → ∀ vs', RDs (gx X) ρ5 H5 acc' vs' → (Post (gx X) ρ1 H1 ((compL w xs ft fp fe (wipe' ds (own.map (·.2))) (xs.drop (i + 1)) acc' M5).bind fun acc M => fresh cell acc M) (QV (gx X) Q)) → Wk (i + 1) (upd H5 D (.lst vs')) := by
      intro ρ5 M5 H5 acc' e5 r5 vs' ra' hp5
      have gh5 : ρ5.gh = D :: ρ1.gh := e5.gh.trans gh
      have hD5 : D ∈ ρ5.gh := by rw [gh5]; exact List.mem_cons_self
      refine ⟨ρ5, M5, acc', vs', (eW.trans e5.toExtW).trans (ExtW.turn hD5), gh5, r5.turn hD5, upd_same, ra'.extW (ExtW.turn hD5), fun a ha => ?_, hlt, hp5⟩
      rw [upd_ne (gne a ha), e5.gk a (by rw [gh]; exact List.mem_cons_of_mem _ ha)]
      exact gk a ha
    have same : ∀ {H5 : Hp}, H5 D = some (.lst vs) → upd H5 D (.lst vs) = H5 := by
      intro H5 e
      funext q
      unfold upd
      split
      · rename_i z; rw [z, e]
      · rfl
    cases ef : ft d (wipe' ds (own.map (·.2))) M' with
    | exc _ _ => rw [ef] at hp; exact hp.elim
    | bad => rw [ef] at hp; exact hp.elim
    | ok ds2 M2 =>
      rw [ef] at hp
      simp only [Res.bind_ok] at hp
      refine ⟨ρ', M', wipe' ds (own.map (·.2)), d, rep2, rsw, rd, ?_⟩
      rw [ef]
      intro ρ3 H3 e3 r3 σ2 rs2 off2
      refine ⟨off2.wipe hsl, ρ3, M2, ds2, r3, rs2, ?_⟩
      cases eb : fp ds2 M2 with
      | exc _ _ => rw [eb] at hp; exact hp.elim
      | bad => rw [eb] at hp; exact hp.elim
      | ok t M3 =>
        rw [eb] at hp
        simp only [Res.bind_ok] at hp
        intro ρ4 H4 e4 r4
        have e04 : Ext ρ' H' ρ4 H4 := (e2.trans e3).trans e4
        have hD4 : H4 D = some (.lst vs) := (e04.gk D hDm).trans hD'
        cases t with
        | false =>
          dsimp only at hp
          show Wk (i + 1) H4
          rw [← same hD4]
          exact fin e04 r4 vs (ra.ext e04) hp
        | true =>
          dsimp only at hp
          show tE (gx X) fe σ2 H4 _
          refine ⟨ρ4, M3, ds2, r4, rs2.ext e4, ?_⟩
          simp only [Res.bind_assoc] at hp
          cases ee : fe ds2 M3 with
          | exc _ _ => rw [ee] at hp; exact hp.elim
          | bad => rw [ee] at hp; exact hp.elim
          | ok dy M4 =>
            rw [ee] at hp
            simp only [Res.bind_ok] at hp
            intro ρ5 H5 e5 r5 v rv
            have e05 : Ext ρ' H' ρ5 H5 := e04.trans e5
            have hD5 : H5 D = some (.lst vs) := (e05.gk D hDm).trans hD'
            split at hp
            · rename_i hz
              refine ⟨vs, hD5, by rw [← ra.length]; exact LIM_lt hz, ?_⟩
              exact fin e05 r5 _ ((ra.ext e05).append (.cons rv .nil)) hp
            · exact hp.elim
  · have hie : i = xs.length := by omega
    refine .inl ⟨jk.2 (by omega), ?_⟩
    rw [hie, List.drop_length] at hp
    simp only [compL, wk, if_true, Res.bind_ok] at hp
    have nD : D ∉ ρ'.c := (rep'.gh D hDm).1
    have toU : ExtW ρ' H' ⟨ρ'.c, ρ1.gh⟩ H' := ⟨fun a o e n => ⟨e, fun q => n (by
        rcases q with q | q
        · exact .inl q
        · exact .inr (by rw [gh]; exact List.mem_cons_of_mem _ q))⟩, List.prefix_refl _⟩
    have repU : Rep (gx X) ⟨ρ'.c, ρ1.gh⟩ M' H' := ⟨rep'.len, rep'.nd, fun n a c h1 h2 => (rep'.cell n a c h1 h2).extW toU rfl, fun a ha => rep'.gh a (by rw [gh]; exact List.mem_cons_of_mem _ ha), rep'.un⟩
    have eU : Ext ρ1 H1 ⟨ρ'.c, ρ1.gh⟩ H' := ⟨eW.trans toU, rfl, gk⟩
    cases cell with
    | false =>
      refine hp _ _ eU repU _ (.lst ?_ hD' (ra.extW toU))
      rintro (q | q)
      · exact nD q
      · exact gne D q rfl
    | true =>
      have toC : ExtW ρ' H' ⟨ρ'.c ++ [D], ρ1.gh⟩ H' := ⟨fun a o e n => ⟨e, fun q => n (by
          rcases q with q | q
          · rcases List.mem_append.mp q with q | q
            · exact .inl q
            · rw [List.mem_singleton] at q; rw [q]; exact .inr hDm
          · exact .inr (by rw [gh]; exact List.mem_cons_of_mem _ q))⟩, List.prefix_append _ _⟩
      refine hp ⟨ρ'.c ++ [D], ρ1.gh⟩ H' ⟨eW.trans toC, rfl, gk⟩ ⟨by simp [rep'.len], List.nodup_append.mpr ⟨rep'.nd, by simp, fun a ha b hb => ?_⟩, fun n a c h1 h2 => ?_, fun a ha => ⟨fun q => ?_, by rw [gk a ha]; exact ghr a ha⟩, fun n c h2 => ?_⟩ _ (.obj ?_)
      · rw [List.mem_singleton] at hb; subst hb; rintro rfl; exact nD ha
      · have h1 : (ρ'.c ++ [D])[n]? = some a := h1
        by_cases hn : n < ρ'.c.length
        · rw [List.getElem?_append_left hn] at h1
          rw [List.getElem?_append_left (by rw [← rep'.len]; exact hn)] at h2
          exact (rep'.cell n a c h1 h2).extW toC rfl
        · have h3 : n = ρ'.c.length := by
            have := (List.getElem?_eq_some_iff.mp h1).1
            simp at this; omega
          subst h3
          rw [List.getElem?_append_right (Nat.le_refl _)] at h1
          rw [rep'.len, List.getElem?_append_right (Nat.le_refl _)] at h2
          simp at h1 h2
          subst h1; subst h2
          exact ⟨vs, hD', ra.extW toC⟩
      · rcases List.mem_append.mp (show a ∈ ρ'.c ++ [D] from q) with q | q
        · exact (rep'.gh a (by rw [gh]; exact List.mem_cons_of_mem _ ha)).1 q
        · rw [List.mem_singleton] at q; exact gne a ha q
      · by_cases hn : n < M'.length
        · rw [List.getElem?_append_left hn] at h2
          exact rep'.un n c h2
        · have h3 : n = M'.length := by
            have := (List.getElem?_eq_some_iff.mp h2).1
            simp at this; omega
          subst h3
          rw [List.getElem?_append_right (Nat.le_refl _)] at h2
          simp at h2
          subst h2
          show unds M'.length acc = true
          rw [← rep'.len]; exact ra.belowC
      · show (ρ'.c ++ [D])[M'.length]? = _
        rw [← rep'.len, List.getElem?_append_right (Nat.le_refl _)]; simp
/-- [elt for tg in it if ..] -/
theorem den_comp {own : List (Str × Nat)} {sl : List Nat} {scope : Scope} {ifs : List Expr} {fi : St' → Mem → Res (List D × Option Nat)} {ft : D → St' → Mem → Res St'} {fp : St' → Mem → Res Bool} {fe : St' → Mem → Res D} {cell : Bool}
    (hc : X.calm = true) (hN : X.N.Nodup) (hi : PI X tg it (iE (gx X) fi)) (ok : BlkOk X.N X.env.scope scope own)
    (hg : ∀ (s : Shared) (H : Hp) (C : Addr) (cl : List (Str × Addr)) (fp : List Addr), PG (X.blk s H scope (compEnvC scope cl C X.env) fp) tg (gT (gx X) sl ft))
    (hsl : ∀ i ∈ sl, i ∈ own.map (·.2))
    (ht : ∀ (s : Shared) (H : Hp) (C : Addr) (cl : List (Str × Addr)) (fp' : List Addr), PTs (X.blk s H scope (compEnvC scope cl C X.env) fp') ifs (tT (gx X) fp))
    (he : ∀ (s : Shared) (H : Hp) (C : Addr) (cl : List (Str × Addr)) (fp : List Addr), PE (X.blk s H scope (compEnvC scope cl C X.env) fp) elt (tE (gx X) fe)) (hs : notSet it = true) :
    PE X (.ListComp elt [⟨tg, it, ifs, 0⟩] scope pos) (tE (gx X) fun σ M => (fi σ M).bind fun xs M => (compL xs.2 xs.1 ft fp fe (wipe' σ (own.map (·.2))) xs.1 [] M).bind fun acc M => fresh cell acc M) :=
  PE.mono (pe_lc hc hN hi ok hg ht he (fold_of hs)) fun _ _ _ h => lc_red hsl h
end
end Ev

set_option Elab.async false
set_option linter.all false
set_option maxRecDepth 100000
set_option maxHeartbeats 1000000
/-! Ev12: statements. -/
namespace Ev
open PySem PySem.Spec PyProof.Rows L2
def setAll : St' → List Nat → List D → St'
  | σ, i :: l, d :: ds => setAll (σ.set i (some d)) l ds
  | σ, _, _ => σ
noncomputable def forL (w : Option Nat) (all : List D) (g : D → St' → Mem → Res St') (f : St' → Mem → Res Flow') : List D → St' → Mem → Res Flow'
  | [], σ, M => if chkW w all M then .ok (.next σ) M else .bad
  | x :: r, σ, M => if chkW w all M then (g x σ M).bind fun σ1 M => (f σ1 M).bind fun k M => match k with
    | .next σ2 => forL w all g f r σ2 M
    | .cnt σ2 => forL w all g f r σ2 M
    | .brk σ2 => .ok (.next σ2) M
    | .ret d => .ok (.ret d) M
    else .bad
def whlL (p : St' → Mem → Res Bool) (f : St' → Mem → Res Flow') : Nat → St' → Mem → Res Flow'
  | 0, _, _ => .bad
  | n + 1, σ, M => (p σ M).bind fun b M => match b with
    | true => (f σ M).bind fun k M => match k with
      | .next σ2 => whlL p f n σ2 M
      | .cnt σ2 => whlL p f n σ2 M
      | .brk σ2 => .ok (.next σ2) M
      | .ret d => .ok (.ret d) M
    | false => .ok (.next σ) M
def FUEL : Nat := 100000000
noncomputable section
variable (E : En)
mutual
def exS : S → St' → Mem → Res Flow'
  | .asg t e, σ, M => (ev E e σ M).bind fun x M => (asT E t x σ M).bind fun σ M => .ok (.next σ) M
  | .par l e, σ, M => (evs E e σ M).bind fun ds M => .ok (.next (setAll σ l ds)) M
  | .ex e, σ, M => (ev E e σ M).bind fun _ M => .ok (.next σ) M
  | .ret e, σ, M => (ev E e σ M).bind fun x M => .ok (.ret x) M
  | .retN, _, M => .ok (.ret .non) M
  | .if_ c a b, σ, M => ((ev E c σ M).bind fun x M => truR x M).bind fun t M => match t with
    | true => exs a σ M
    | false => exs b σ M
  | .for_ t it b, σ, M => (evi E it σ M).bind fun xs M => forL xs.2 xs.1 (fun d σ M => asT E t d σ M) (fun σ M => exs b σ M) xs.1 σ M
  | .whl c b, σ, M => whlL (fun σ M => (ev E c σ M).bind fun x M => truR x M) (fun σ M => exs b σ M) FUEL σ M
  | .pass, σ, M => .ok (.next σ) M
  | .brk, σ, M => .ok (.brk σ) M
  | .cnt, σ, M => .ok (.cnt σ) M
  | .never, _, _ => .bad
def exs : SL → St' → Mem → Res Flow'
  | .nil, σ, M => .ok (.next σ) M
  | .cons s l, σ, M => (exS s σ M).bind fun k M => match k with
    | .next σ => exs l σ M
    | k => .ok k M
end
end
def FQ (g : Gx) (D : Ends) : Flow' → Mem → Rho → Hp → Prop
  | .next ds, _, ρ, H => ∀ σ, RS g ρ H ds σ → D.nx σ H
  | .ret d, _, ρ, H => ∀ v, RD g ρ H d v → D.rt v H
  | .brk ds, _, ρ, H => ∀ σ, RS g ρ H ds σ → D.bk σ H
  | .cnt ds, _, ρ, H => ∀ σ, RS g ρ H ds σ → D.ct σ H
def tS (g : Gx) (f : St' → Mem → Res Flow') : TS := fun D σ H => ∃ ρ M ds, Rep g ρ M H ∧ RS g ρ H ds σ ∧ Post g ρ H (f ds M) (FQ g D)
theorem PS.mono {X : Cx} {e : Stmt} {t t' : TS} (h : PS X e t) (k : ∀ D σ H, t' D σ H → t D σ H) : PS X e t' := ⟨fun pins s σ H D I q => h.run pins s σ H D I (k D σ H q)⟩
theorem PSs.mono {X : Cx} {e : List Stmt} {t t' : TS} (h : PSs X e t) (k : ∀ D σ H, t' D σ H → t D σ H) : PSs X e t' := ⟨fun pins s σ H D I q => h.run pins s σ H D I (k D σ H q)⟩
section
variable {X : Cx} {pos : Pos} {st : Stmt} {rest : List Stmt} {e tg it : Expr} {fa : St' → Mem → Res D} {ft : D → St' → Mem → Res St'} {fp : St' → Mem → Res Bool} {fi : St' → Mem → Res (List D × Option Nat)} {f1 f2 : St' → Mem → Res Flow'} {sl : List Nat}
theorem ds_nil : PSs X [] (tS (gx X) fun σ M => .ok (.next σ) M) := by
  refine PSs.mono pss_nil fun D σ H h => ?_
  obtain ⟨ρ, M, ds, rep, rs, h⟩ := h
  exact h.here rep _ rs
theorem ds_cons (h1 : PS X st (tS (gx X) f1)) (h2 : PSs X rest (tS (gx X) f2)) : PSs X (st :: rest) (tS (gx X) fun σ M => (f1 σ M).bind fun k M => match k with
    | .next σ => f2 σ M
    | k => .ok k M) := by
  refine PSs.mono (pss_cons h1 h2) fun D σ H h => ?_
  obtain ⟨ρ, M, ds, rep, rs, h⟩ := h
  refine ⟨ρ, M, ds, rep, rs, h.bind.mono fun k M1 ρ1 H1 e1 r1 h => ?_⟩
  cases k with
  | next ds1 => exact fun σ1 rs1 => ⟨ρ1, M1, ds1, r1, rs1, h⟩
  | ret d => exact h.here r1
  | brk d => exact h.here r1
  | cnt d => exact h.here r1
theorem ds_pass : PS X (.Pass pos) (tS (gx X) fun σ M => .ok (.next σ) M) := by
  refine PS.mono ps_pass fun D σ H h => ?_
  obtain ⟨ρ, M, ds, rep, rs, h⟩ := h
  exact h.here rep _ rs
theorem ds_brk : PS X (.Break pos) (tS (gx X) fun σ M => .ok (.brk σ) M) := by
  refine PS.mono ps_break fun D σ H h => ?_
  obtain ⟨ρ, M, ds, rep, rs, h⟩ := h
  exact h.here rep _ rs
theorem ds_cnt : PS X (.Continue pos) (tS (gx X) fun σ M => .ok (.cnt σ) M) := by
  refine PS.mono ps_continue fun D σ H h => ?_
  obtain ⟨ρ, M, ds, rep, rs, h⟩ := h
  exact h.here rep _ rs
theorem ds_never : PS X st (tS (gx X) fun _ _ => .bad) := by
  refine PS.mono ps_never fun D σ H h => ?_
  obtain ⟨ρ, M, ds, rep, rs, h⟩ := h
  exact h.no
theorem ds_retN : PS X (.Return none pos) (tS (gx X) fun _ M => .ok (.ret .non) M) := by
  refine PS.mono ps_retN fun D σ H h => ?_
  obtain ⟨ρ, M, ds, rep, rs, h⟩ := h
  exact h.here rep _ .non
theorem ds_ret (he : PE X e (tE (gx X) fa)) : PS X (.Return (some e) pos) (tS (gx X) fun σ M => (fa σ M).bind fun x M => .ok (.ret x) M) := by
  refine PS.mono (ps_ret he) fun D σ H h => ?_
  obtain ⟨ρ, M, ds, rep, rs, h⟩ := h
  exact ⟨ρ, M, ds, rep, rs, h.bind.mono fun x M1 ρ1 H1 e1 r1 h => h.here r1⟩
def notComp : Expr → Bool
  | .ListComp .. => false
  | .SetComp .. => false
  | .DictComp .. => false
  | _ => true
theorem swaps_no {t : Option Expr} {n : Nat} {env : Env} (h : notComp e = true) : swapsWith e t n env = pure false := by
  cases e <;> first | rfl | (exact absurd h Bool.false_ne_true)
theorem ds_ex (he : PE X e (tE (gx X) fa)) (hs : notComp e = true) : PS X (.Expr e pos) (tS (gx X) fun σ M => (fa σ M).bind fun _ M => .ok (.next σ) M) := by
  refine PS.mono (ps_expr he (swaps_no hs)) fun D σ H h => ?_
  obtain ⟨ρ, M, ds, rep, rs, h⟩ := h
  exact ⟨ρ, M, ds, rep, rs, h.bind.mono fun x M1 ρ1 H1 e1 r1 h _ _ => h.here r1 _ (rs.ext e1)⟩
theorem asg_red {D : Ends} {σ : L2.St} {H : Hp} (h : tS (gx X) (fun σ M => (fa σ M).bind fun x M => (ft x σ M).bind fun σ M => .ok (.next σ) M) D σ H) : tAsg (tE (gx X) fa) (gT (gx X) sl ft) D σ H := by
  obtain ⟨ρ, M, ds, rep, rs, h⟩ := h
  exact ⟨ρ, M, ds, rep, rs, h.bind.mono fun x M1 ρ1 H1 e1 r1 h v rv => ⟨ρ1, M1, ds, x, r1, rs.ext e1, rv, h.bind.mono fun ds2 M2 ρ2 H2 e2 r2 h σ' rs' _ => h.here r2 _ rs'⟩⟩
theorem ds_asg (he : PE X e (tE (gx X) fa)) (hg : PG X tg (gT (gx X) sl ft)) (hs : swapsWithSole [tg] e pos.line X.env = pure false) (hw : swappedStores [tg] e X.env = pure none) (hst : notStar tg = true) :
    PS X (.Assign [tg] e pos) (tS (gx X) fun σ M => (fa σ M).bind fun x M => (ft x σ M).bind fun σ M => .ok (.next σ) M) := by
  refine PS.mono (ps_asg he hg hs hw ?_) fun D σ H h => asg_red h
  cases tg <;> first | rfl | (exact absurd hst Bool.false_ne_true)
theorem ds_if {c : Expr} {p q : List Stmt} (hc : PT X c (tT (gx X) fp)) (h1 : PSs X p (tS (gx X) f1)) (h2 : PSs X q (tS (gx X) f2)) : PS X (.If c p q pos) (tS (gx X) fun σ M => (fp σ M).bind fun t M => match t with
    | true => f1 σ M
    | false => f2 σ M) := by
  refine PS.mono (ps_if hc h1 h2) fun D σ H h => ?_
  obtain ⟨ρ, M, ds, rep, rs, h⟩ := h
  refine ⟨ρ, M, ds, rep, rs, h.bind.mono fun t M1 ρ1 H1 e1 r1 h => ?_⟩
  cases t with
  | true => rw [if_pos rfl]; exact ⟨ρ1, M1, ds, r1, rs.ext e1, h⟩
  | false => rw [if_neg Bool.false_ne_true]; exact ⟨ρ1, M1, ds, r1, rs.ext e1, h⟩
theorem ds_for {body : List Stmt} (hp : PassesOwn (model X.prog X.w) X.A X.env X.xe) (hc : X.calm = true) (hi : PI X tg it (iE (gx X) fi)) (hg : PG X tg (gT (gx X) sl ft)) (hb : PSs X body (tS (gx X) f1)) (hs : notSet it = true) :
    PS X (.For tg it body [] pos) (tS (gx X) fun σ M => (fi σ M).bind fun xs M => forL xs.2 xs.1 ft f1 xs.1 σ M) := by
  refine PS.mono (ps_for hp hc hi hg hb (fold_of hs)) fun D σ H h => ?_
  obtain ⟨ρ, M, ds, rep, rs, h⟩ := h
  refine ⟨ρ, M, ds, rep, rs, h.bind.mono fun xs M1 ρ1 H1 e1 r1 h J hJ => ?_⟩
  obtain ⟨xs, w⟩ := xs
  dsimp only at h hJ
  let Wk : Nat → L2.St → Hp → Prop := fun i σ' H' => ∃ ρ' M' ds', Ext ρ1 H1 ρ' H' ∧ Rep (gx X) ρ' M' H' ∧ RS (gx X) ρ' H' ds' σ' ∧ i ≤ xs.length ∧ Post (gx X) ρ' H' (forL w xs ft f1 (xs.drop i) ds' M') (FQ (gx X) D)
  refine ⟨fun i m σ' H' => m = xs.length - i ∧ Wk i σ' H', ⟨xs.length, by simp, ρ1, M1, ds, .refl _ _, r1, rs.ext e1, Nat.zero_le _, by rw [List.drop_zero]; exact h⟩, ?_⟩
  rintro i m σ' H' ⟨rfl, ρ', M', ds', e', rep', rs', hi', hp'⟩
  have wk : chkW w xs M' = true := by
    cases hq : chkW w xs M' with
    | true => rfl
    | false =>
      exfalso
      cases hd : xs.drop i with
      | nil => rw [hd] at hp'; simp only [forL, hq] at hp'; exact hp'
      | cons x r => rw [hd] at hp'; simp only [forL, hq] at hp'; exact hp'
  have jk := hJ i ρ' H' M' e'.toExtW rep' (wOk_of wk)
  by_cases hlt : i < xs.length
  · obtain ⟨jgo, jy⟩ := jk.1 hlt
    refine .inr ⟨jgo, Wk (i + 1), fun σ2 H'' k => ⟨xs.length - (i + 1), by omega, rfl, k⟩, fun x H2 y => ?_⟩
    obtain ⟨d, hd, rep2, e2, rd⟩ := jy x H2 y
    have hdr : xs.drop i = d :: xs.drop (i + 1) := by
      rw [List.drop_eq_getElem_cons hlt]
      rw [List.getElem?_eq_getElem hlt] at hd; cases hd; rfl
    rw [hdr] at hp'
    simp only [forL, wk, if_true] at hp'
    have hp2 : Post (gx X) ρ' H2 ((ft d ds' M').bind fun σ1 M => (f1 σ1 M).bind fun k M => match k with
      | .next σ2 => forL w xs ft f1 (xs.drop (i + 1)) σ2 M
      | .cnt σ2 => forL w xs ft f1 (xs.drop (i + 1)) σ2 M
      | .brk σ2 => .ok (.next σ2) M
      | .ret d => .ok (.ret d) M) (FQ (gx X) D) := by
      revert hp'
      cases ((ft d ds' M').bind fun σ1 M => (f1 σ1 M).bind fun k M => match k with
        | .next σ2 => forL w xs ft f1 (xs.drop (i + 1)) σ2 M
        | .cnt σ2 => forL w xs ft f1 (xs.drop (i + 1)) σ2 M
        | .brk σ2 => .ok (.next σ2) M
        | .ret d => .ok (.ret d) M) with
      | ok a M3 => exact fun hp' ρ3 H3 e3 r3 => hp' ρ3 H3 (e2.trans e3) r3
      | exc _ _ => exact fun hp' => hp'
      | bad => exact fun hp' => hp'
    refine ⟨ρ', M', ds', d, rep2, rs'.ext e2, rd, hp2.bind.mono fun ds3 M3 ρ3 H3 e3 r3 hp3 σ3 rs3 _ => ⟨ρ3, M3, ds3, r3, rs3, hp3.bind.mono fun k M4 ρ4 H4 e4 r4 hp4 => ?_⟩⟩
    have e14 : Ext ρ1 H1 ρ4 H4 := ((e'.trans e2).trans e3).trans e4
    cases k with
    | next ds4 => exact fun σ4 rs4 => ⟨ρ4, M4, ds4, e14, r4, rs4, hlt, hp4⟩
    | cnt ds4 => exact fun σ4 rs4 => ⟨ρ4, M4, ds4, e14, r4, rs4, hlt, hp4⟩
    | brk ds4 => exact hp4.here r4
    | ret d4 => exact hp4.here r4
  · have hie : i = xs.length := by omega
    refine .inl ⟨jk.2 (by omega), ?_⟩
    rw [hie, List.drop_length] at hp'
    simp only [forL, wk, if_true] at hp'
    exact hp'.here rep' _ rs'
theorem ds_whl {c : Expr} {body : List Stmt} (hp : PassesOwn (model X.prog X.w) X.A X.env X.xe) (hc : PT X c (tT (gx X) fp)) (hb : PSs X body (tS (gx X) f1)) (n : Nat) :
    PS X (.While c body [] pos) (tS (gx X) fun σ M => whlL fp f1 n σ M) := by
  refine PS.mono (ps_while hp hc hb) fun D σ H h => ?_
  obtain ⟨ρ, M, ds, rep, rs, h⟩ := h
  refine ⟨fun m σ H => ∃ ρ M ds, Rep (gx X) ρ M H ∧ RS (gx X) ρ H ds σ ∧ Post (gx X) ρ H (whlL fp f1 m ds M) (FQ (gx X) D), ⟨n, ρ, M, ds, rep, rs, h⟩, ?_⟩
  rintro m σ H ⟨ρ, M, ds, rep, rs, h⟩
  cases m with
  | zero => exact h.no.elim
  | succ m =>
    simp only [whlL] at h
    refine ⟨ρ, M, ds, rep, rs, h.bind.mono fun t M1 ρ1 H1 e1 r1 h => ?_⟩
    cases t with
    | false => show D.nx σ H1; exact h.here r1 _ (rs.ext e1)
    | true =>
      rw [if_pos rfl]
      refine ⟨fun σ' H' => ∃ ρ M ds, Rep (gx X) ρ M H' ∧ RS (gx X) ρ H' ds σ' ∧ Post (gx X) ρ H' (whlL fp f1 m ds M) (FQ (gx X) D), fun σ' H' k => ⟨m, Nat.lt_succ_self _, k⟩, ρ1, M1, ds, r1, rs.ext e1, h.bind.mono fun k M2 ρ2 H2 e2 r2 h => ?_⟩
      cases k with
      | next ds4 => exact fun σ4 rs4 => ⟨ρ2, M2, ds4, r2, rs4, h⟩
      | cnt ds4 => exact fun σ4 rs4 => ⟨ρ2, M2, ds4, r2, rs4, h⟩
      | brk ds4 => exact h.here r2
      | ret d4 => exact h.here r2
end
end Ev

set_option Elab.async false
set_option linter.all false
set_option maxRecDepth 100000
set_option maxHeartbeats 1000000
/-! Ev13: t[::-1], new dicts, names and constants, the stores that take an own road. -/
namespace Ev
open PySem PySem.Spec PyProof.Rows L2 HT
/-! ### turned round -/
theorem rev_pick (ys : Array Value) : ((List.range ys.size).filterMap fun (m : Nat) => ys[(((ys.size : Int) - 1) + (m : Int) * (-1)).toNat]?).toArray = ys.toList.reverse.toArray := by
  have e : (fun (m : Nat) => ys[(((ys.size : Int) - 1) + (m : Int) * (-1)).toNat]?) = (fun k => ys[k]?) ∘ fun m : Nat => (((ys.size : Int) - 1) + (m : Int) * (-1)).toNat := rfl
  rw [e, ← List.filterMap_map]
  have e2 : (List.range ys.size).map (fun m : Nat => (((ys.size : Int) - 1) + (m : Int) * (-1)).toNat) = (List.range ys.size).reverse := by
    rw [← PySem.W.krv_range]
    apply List.map_congr_left
    intro m hm
    have := List.mem_range.mp hm
    omega
  rw [e2, List.filterMap_reverse, PySem.W.krv_all]
section
variable {prog : Program} {w : World} {A : Around} {E : Value → Shared → Prop} {s : Shared}
theorem rev_applied {q : Addr} {c : Value} {n : Nat} {Q : Int × Int × Nat → Shared → Prop} (hq : s.heap.IsSliceOf q .none .none c) (pc : IsPart c (some (-1))) (h : Q ((n : Int) - 1, -1, n) s) :
    wpAny (model prog w) A (Builtin.Slice.sliceApplied (.ref q) (pure (n : Int))) Q E s := by
  obtain ⟨ob, h1, -, h2⟩ := id hq
  unfold Builtin.Slice.sliceApplied
  refine wpAny_bind ?_
  unfold Builtin.Slice.sliceFields
  refine wpAny_bind (wpAny_field h1 h2 (x := .none) rfl (wpAny_bind ?_))
  refine wpAny_field h1 h2 (x := .none) rfl (wpAny_bind ?_)
  refine wpAny_field h1 h2 (x := c) rfl (wpAny_pure ?_)
  refine wpAny_bind (slicePart_ pc ?_)
  show wpAny _ _ (if ((-1 : Int) == 0) = true then _ else _) _ _ s
  rw [if_neg (by decide)]
  refine wpAny_bind (slicePart_ .none ?_)
  refine wpAny_bind (slicePart_ .none (wpAny_bind (wpAny_pure ?_)))
  show wpAny _ _ (pure ((n : Int) - 1, (-1 : Int), Builtin.Slice.slicePlaces ((n : Int) - 1) (-1) (-1))) _ _ s
  have e : Builtin.Slice.slicePlaces ((n : Int) - 1) (-1) (-1) = n := by
    unfold Builtin.Slice.slicePlaces
    have z : ¬ (-1 : Int) > 0 := by omega
    simp only [z, if_false, Int.neg_neg, Int.ediv_one]
    split <;> omega
  rw [e]
  exact wpAny_pure h
theorem rev_get {t q : Addr} {ys : Array Value} {c : Value} {Q : Value → Shared → Prop} (ht : IsTup s.heap t ys) (hq : s.heap.IsSliceOf q .none .none c) (pc : IsPart c (some (-1))) (hz : ys.size ≤ sizeLine)
    (h : Q (.ref s.heap.objs.size) { s with heap := s.heap.push { cls := .type "tuple", data := .seq ys.toList.reverse.toArray } }) : wpAny (model prog w) A (getItem (.ref t) (.ref q)) Q E s := by
  have hT : s.TypeIs (.ref q) "slice" := by
    obtain ⟨ob, h1, h2, -⟩ := id hq
    exact ⟨ob, h1, h2⟩
  have fit : sizeOk (.seq ys.toList.reverse.toArray) := by
    show ys.toList.reverse.toArray.size ≤ sizeLine
    simpa using hz
  unfold getItem
  refine wpAny_holding ?_
  refine wpAny_bind (wpAny_sequenceKey ht.typeIs (by decide) ?_)
  refine wpAny_bind (wpAny_callSpecial?_slot (name := Str.ofString "__getitem__") ht.typeIs slot_tuple_getitem ?_)
  refine wpAny_call_entry slot_tuple_getitem ht.typeIs entry_tuple_getitem ?_ (args_tuple_getitem _ _)
  show wpAny _ _ (Builtin.Tuple.tupleItemsOf (.ref t) >>= _) _ _ s
  refine wpAny_bind (tupleItemsOf_ ht (wpAny_bind (wpAny_typeOf hT ?_)))
  rw [if_pos (by decide)]
  refine wpAny_bind (rev_applied hq pc ?_)
  show wpAny _ _ (if ((((ys.size : Int) - 1) == 0 && (-1 : Int) == 1 && ys.size == ys.size) = true) then _ else _) _ _ s
  have no : ¬ ((((ys.size : Int) - 1) == 0 && (-1 : Int) == 1 && ys.size == ys.size) = true) := by
    simp
  rw [if_neg no, rev_pick]
  refine wpAny_bind (m := Builtin.Tuple.tupleExact _) ?_
  refine wpAny_newObj_type ?_ fit
  first
    | exact wpAny_pure ⟨_, rfl, wpAny_pure h⟩
    | exact wpAny_pure (wpAny_pure ⟨_, rfl, wpAny_pure h⟩)
    | exact wpAny_bind (wpAny_pure (wpAny_pure ⟨_, rfl, wpAny_pure h⟩))
    | trace_state
end
section
variable {X : Cx} {fa : St' → Mem → Res D} {e : Expr} {pos : Pos}
def isRev : Expr → Bool
  | .Slice none none (some (.UnaryOp .USub (.Constant (.int 1) _ _) _)) _ => true
  | _ => false
theorem den_rev {sl : Expr} (hs : isRev sl = true) (he : PE X e (tE (gx X) fa)) : PE X (.Subscript e sl pos) (tE (gx X) fun σ M => (fa σ M).bind fun x M => revD x M) := by
  obtain ⟨k, p1, p2, p3, rfl⟩ : ∃ k p1 p2 p3, sl = .Slice none none (some (.UnaryOp .USub (.Constant (.int 1) k p1) p2)) p3 := by
    unfold isRev at hs
    split at hs
    · exact ⟨_, _, _, _, rfl⟩
    · cases hs
  refine ⟨fun pins s σ H Q I h => Subscript_ ?_⟩
  refine thn (he.run pins s σ H _ I (one (f := revD) h)) fun u s1 hu => ?_
  obtain ⟨x, H1, I1, rx, ρ, M, d, rep, rd, hp⟩ := hu
  have part : PO X (some (.UnaryOp .USub (.Constant (.int 1) k p1) p2)) (tPart (tUn (rU fun i => .int (-i)) (tC (.int 1)))) := po_some (pe_un un_neg pe_int)
  have nop : PO X none _ := po_none
  refine wpAny_Slice (thn (nop.run pins s1 σ H1 (fun o H2 => o = none ∧ H1 = H2) I1 ⟨rfl, rfl⟩) ?_)
  rintro va s2 ⟨_, _, I2, pa, rfl, rfl⟩
  refine thn (nop.run pins s2 σ _ (fun o H2 => o = none ∧ H1 = H2) I2 ⟨rfl, rfl⟩) ?_
  rintro vb s3 ⟨_, _, I3, pb, rfl, rfl⟩
  refine thn (part.run pins s3 σ _ (fun o H2 => o = some (-1) ∧ H1 = H2) I3 ⟨1, rfl, -1, rfl, rfl, rfl⟩) ?_
  rintro vc s4 ⟨_, _, I4, pc, rfl, rfl⟩
  have I5 : Inv X pins σ H1 { s4 with heap := s4.heap.push { cls := .type "slice", data := .fields #[va, vb, vc] } } := I4.kept (t' := s4.toks) fun _ _ z => Heap.get?_push_of_some _ z
  have na : va = .none := by cases pa; rfl
  have nb : vb = .none := by cases pb; rfl
  subst na; subst nb
  unfold revD at hp
  split at hp
  · obtain ⟨a, xs, rfl, ha, q⟩ := RD_tup rd
    cases rx
    obtain ⟨its, r, ht, hz⟩ := I5.tuple ha
    have hl := r.length
    refine tail_any (ops := [.ref a, .ref s4.heap.objs.size]) ht.typeIs slot_tuple_getitem.lookup ?_ (by with_unfolding_all rfl)
    refine rev_get ht (Heap.IsSliceOf.new _ _ _ vc) pc (by simpa [← hl] using hz) ?_
    refine ⟨.ref _, _, I5.laid (t' := s4.toks) (o := .tup xs.reverse) (fun _ _ z => Heap.get?_push_of_some _ z) (Nat.le_refl _) ?_, rfl, new_tup rep q.reverse hp (I5.hok.fresh (Nat.le_refl _))⟩
    exact ⟨by simpa using hz, _, r.reverse, IsTup.new _ _⟩
  · split at hp
    · rename_i l hl'
      obtain ⟨a, xs, rfl, ha, q⟩ := lrOf_ok rep rd hl'
      cases rx
      obtain ⟨its, r, ht, hz⟩ := I5.list ha
      have hl := r.length
      refine tail_any (ops := [.ref a, .ref s4.heap.objs.size]) ht.isList.typeIs slot_list_getitem.lookup ?_ (by with_unfolding_all rfl)
      refine wpAny_getItem_list_slice ht.isList (Heap.IsSliceOf.new _ _ _ vc) .none .none pc (by decide) ?_ (by simpa [← hl] using hz)
      rw [PySem.W.krv_pick]
      refine ⟨.ref _, _, I5.laid (t' := s4.toks) (o := .lst xs.reverse) (fun _ _ z => Heap.get?_push_of_some _ z) (Nat.le_refl _) ?_, rfl, new_lst rep q.reverse hp (I5.hok.fresh (Nat.le_refl _))⟩
      exact ⟨by simpa using hz, _, 0, r.reverse, Heap.get?_push_size _ rfl⟩
    · exact hp.no.elim
/-! ### {} -/
theorem den_dnew {c : Bool} : PE X (.Dict [] [] pos) (tE (gx X) fun _ M => if c then newCell M (.dct []) else .ok (.dct []) M) := by
  refine ⟨fun pins s σ H Q I h => wpAny_Dict_empty ?_⟩
  obtain ⟨ρ, M, ds, rep, rs, h⟩ := h
  have fr := I.hok.fresh (Nat.le_refl s.heap.objs.size)
  have ob : ObjOk X.prog X.w (upd H s.heap.objs.size (xo s.heap.objs.size { cls := .type "dict", data := .dict #[] })) (s.heap.push { cls := .type "dict", data := .dict #[] }) s.heap.objs.size (xo s.heap.objs.size { cls := .type "dict", data := .dict #[] }) :=
    ⟨Heap.get?_push_size _ rfl, ⟨_, Heap.get?_push_size _ rfl⟩, fun h1 h2 p1 p2 => p2 _ p1⟩
  have I1 := I.laid (t' := s.toks) (fun _ _ z => Heap.get?_push_of_some _ z) (Nat.le_refl _) ob
  have nb : (s.heap.objs.size == sysModules) = false := beq_eq_false_iff_ne.mpr (Ne.symm (Nat.ne_of_lt I.big))
  refine ⟨.ref s.heap.objs.size, _, I1, rfl, ?_⟩
  cases c with
  | false =>
    exact h _ _ (Ext.new rep fr) (rep.new fr) _ (.dct (.inl ⟨rep.fresh fr, upd_same⟩) nb ⟨rfl, rfl, rfl⟩ rfl ⟨.inl fun _ z => (nomatch z), List.nodup_nil⟩ .nil)
  | true =>
    refine h _ _ (Ext.cell rep fr) (rep.push fr ?_ rfl) _ (.obj ?_)
    · exact ⟨_, _, _, upd_same, nb, ⟨rfl, rfl, rfl⟩, rfl, ⟨.inl fun _ z => (nomatch z), List.nodup_nil⟩, .nil⟩
    · show (ρ.c ++ [s.heap.objs.size])[M.length]? = _
      rw [← rep.len, List.getElem?_append_right (Nat.le_refl _)]; simp
end
end Ev

set_option Elab.async false
set_option linter.all false
set_option maxRecDepth 100000
set_option maxHeartbeats 1000000
/-! Ev14: names, constants, the stores that take an own road, blocks. -/
namespace Ev
open PySem PySem.Spec PyProof.Rows L2
def ndbg (x : Str) : Bool := !(x == ("__debug__" : Str)) && !(x == ("__classdict__" : Str))
theorem ndbg_1 {x : Str} (h : ndbg x = true) : (x == ("__debug__" : Str)) = false := by
  unfold ndbg at h; simp only [Bool.and_eq_true, Bool.not_eq_true'] at h; exact h.1
theorem ndbg_2 {x : Str} (h : ndbg x = true) : (x == ("__classdict__" : Str)) = false := by
  unfold ndbg at h; simp only [Bool.and_eq_true, Bool.not_eq_true'] at h; exact h.2
def visC (sc : Scope) (x : Str) : Bool := match sc.names.lookup x with
  | some .local => true
  | some .cell => true
  | some .free => true
  | _ => false
theorem visC_ok {sc : Scope} {x : Str} (h : visC sc x = true) : Vis sc x := by
  unfold visC at h
  split at h
  · exact .inl (by assumption)
  · exact .inr (.inl (by assumption))
  · exact .inr (.inr (by assumption))
  · cases h
def glC (sc : Scope) (x : Str) : Bool := match sc.names.lookup x with
  | some .globalImplicit => true
  | _ => false
theorem glC_ok {X : Cx} {S : Sx} {E : En} (ok : XOk S E X) {x : Str} (h : glC S.sc x = true) : Gl X x := by
  unfold glC at h
  split at h
  · show X.env.scope.names.lookup x = _
    rw [ok.sc]; assumption
  · cases h
def locC (S : Sx) (x : Str) : Bool := match S.sc.names.lookup x with
  | some .local => true
  | some .cell => S.fn.contains x
  | _ => false
theorem locC_ok {X : Cx} {S : Sx} {E : En} (ok : XOk S E X) {x : Str} (h : locC S x = true) : Loc X.env.scope x ∧ (X.fn x = true ∨ X.env.scope.names.lookup x = some .local) := by
  unfold locC at h
  rw [ok.sc]
  split at h
  · exact ⟨.inl (by assumption), .inr (by assumption)⟩
  · exact ⟨.inr (by assumption), .inl (ok.fn x (by simpa using h))⟩
  · cases h
def tyNm : String → Str
  | "int" => "int"
  | "str" => "str"
  | "tuple" => "tuple"
  | "list" => "list"
  | "bool" => "bool"
  | "dict" => "dict"
  | _ => ""
def tyIs (n : String) : Bool := n == "int" || n == "str" || n == "tuple" || n == "list" || n == "bool" || n == "dict"
theorem tyNm_boot {n : String} (h : tyIs n = true) : bootBuiltins (tyNm n) = some (.type n) ∧ tyNm n ≠ "__name__" := by
  unfold tyIs at h
  simp only [Bool.or_eq_true, beq_iff_eq] at h
  rcases h with ((((rfl | rfl) | rfl) | rfl) | rfl) | rfl <;> exact ⟨by decide +kernel, by decide⟩
def bltNm : Blt → Str
  | .len => "len"
  | .isi => "isinstance"
  | .repr => "repr"
  | .all => "all"
  | .any => "any"
  | .int => "int"
  | .abs => "abs"
  | .max => "max"
  | .min => "min"
  | .sum => "sum"
  | .tuple => "tuple"
  | .list => "list"
  | .divmod => "divmod"
theorem bltNm_boot (b : Blt) : bootBuiltins (bltNm b) = some (bltV b) ∧ bltNm b ≠ "__name__" ∧ (bltNm b == ("__debug__" : Str)) = false := by
  cases b <;> exact ⟨by decide +kernel, by decide, by decide⟩
section
variable {X : Cx} {S : Sx} {E : En} {pos : Pos}
theorem den_var {i : Nat} {x : Str} (hN : X.N[i]? = some x) (hv : Vis X.env.scope x) (hd : ndbg x = true) : PE X (.Name x pos) (tE (gx X) fun σ M => match σ[i]? with
    | some (some d) => .ok d M
    | _ => .bad) := by
  refine PE.mono (pe_var hN hv (ndbg_1 hd) (ndbg_2 hd)) fun σ H Q h => ?_
  obtain ⟨ρ, M, ds, rep, rs, h⟩ := h
  dsimp only at h
  split at h
  · rename_i d e
    obtain ⟨v, e2, rv⟩ := rs.get e
    exact ⟨v, e2, h.here rep v rv⟩
  · exact h.no.elim
theorem den_glo (ok : XOk S E X) {x : Str} (hx : x ∈ S.cs) (hg : Gl X x) (hd : ndbg x = true) : PE X (.Name x pos) (tE (gx X) fun σ M => match E.G x with
    | some d => .ok d M
    | none => .bad) := by
  obtain ⟨d, u, v, h1, h2, h3, h4⟩ := ok.cs x hx
  refine PE.mono (pe_glob hg h2 h3 (ndbg_1 hd)) fun σ H Q h => ?_
  obtain ⟨ρ, M, ds, rep, rs, h⟩ := h
  dsimp only at h
  rw [h1] at h
  exact h.here rep v (h4 _ _)
/-- constants; names of defs and of types -/
def ckK (S : Sx) : D → Expr → Bool
  | .non, .Constant .none _ _ => true
  | .bl b, .Constant (.bool b') _ _ => b == b'
  | .int i, .Constant (.int j) _ _ => decide (i = j)
  | .str s, .Constant (.str t) _ _ => decide (s = t)
  | .ty n, .Name x _ => tyIs n && decide (tyNm n = x) && S.fr.contains x && glC S.sc x && ndbg x
  | .fn x, .Name y _ => decide (x = y) && (S.ft.lookup x).isSome && glC S.sc x && ndbg x
  | _, _ => false
theorem den_k (ok : XOk S E X) {d : D} {e : Expr} (h : ckK S d e = true) : PE X e (tE (gx X) fun _ M => .ok d M) := by
  have fin : ∀ {v : V} {σ : L2.St} {H : Hp} {Q : VK}, (∀ ρ H, RD (gx X) ρ H d v) → tE (gx X) (fun _ M => .ok d M) σ H Q → Q v H := fun hr h => by
    obtain ⟨ρ, M, ds, rep, rs, h⟩ := h
    exact h.here rep _ (hr _ _)
  unfold ckK at h
  split at h
  · exact PE.mono pe_non fun σ H Q h => fin (fun _ _ => .non) h
  · cases (eq_of_beq h); exact PE.mono pe_bl fun σ H Q h => fin (fun _ _ => .bl _) h
  · cases (of_decide_eq_true h); exact PE.mono pe_int fun σ H Q h => fin (fun _ _ => .int _) h
  · cases (of_decide_eq_true h); exact PE.mono pe_str fun σ H Q h => fin (fun _ _ => .str _) h
  · simp only [Bool.and_eq_true, decide_eq_true_eq] at h
    obtain ⟨⟨⟨⟨h1, rfl⟩, h3⟩, h4⟩, h5⟩ := h
    obtain ⟨b1, b2⟩ := tyNm_boot h1
    exact PE.mono (pe_bltn (v := .ty _) (glC_ok ok h4) (ok.fr _ (by simpa using h3)) b1 rfl b2 (ndbg_1 h5)) fun σ H Q h => fin (fun _ _ => .ty _) h
  · simp only [Bool.and_eq_true, decide_eq_true_eq] at h
    obtain ⟨⟨⟨rfl, h2⟩, h3⟩, h4⟩ := h
    obtain ⟨fi, hfi⟩ := Option.isSome_iff_exists.mp h2
    obtain ⟨f, hm, hk, _⟩ := ok.ft _ fi hfi
    exact PE.mono (pe_glob (v := .ref f) (glC_ok ok h3) hm rfl (ndbg_1 h4)) fun σ H Q h => fin (fun _ _ => .fn hm hk) h
  · cases h
/-! ### stores that take an own road -/
variable {fa : St' → Mem → Res D} {fl : St' → Mem → Res (List D)} {e tg : Expr}
/-- a tuple's parts are stored as they stand, not exchanged -/
def isName : Expr → Bool
  | .Name .. => true
  | _ => false
def swNo (tg e : Expr) : Bool := match tg, e with
  | .Tuple ts _ _, .Tuple vs _ _ => !(ts.length == 2 || ts.length == 3) || vs.all (foldedForSure 8) || !ts.all isName
  | .List .., _ => false
  | _, _ => true
theorem ite_none {α : Type} {c : Prop} [Decidable c] {a b : α} (h : ¬ c → b = a) : (if c then a else b) = a := by
  by_cases k : c
  · exact if_pos k
  · rw [if_neg k]; exact h k
theorem names_all {β : Type} (F : Expr → Option β) (hF : ∀ e, isName e = false → F e = none) : ∀ {ts : List Expr}, (ts.filterMap F).length = ts.length → ts.all isName = true
  | [], _ => rfl
  | t :: ts, h => by
    have le : (ts.filterMap F).length ≤ ts.length := List.length_filterMap_le _ _
    cases e : isName t with
    | false =>
      rw [List.filterMap_cons_none (hF t e)] at h
      simp only [List.length_cons] at h
      omega
    | true =>
      simp only [List.all_cons, e, Bool.true_and]
      refine names_all F hF ?_
      cases q : F t with
      | none => rw [List.filterMap_cons_none q] at h; simp only [List.length_cons] at h; omega
      | some b => rw [List.filterMap_cons_some q] at h; simpa using h
theorem swNo_ok (hk : X.env.scope.kind = .function) (h : swNo tg e = true) : swappedStores [tg] e X.env = pure none := by
  unfold swNo at h
  split at h
  · rename_i ts _ _ vs _ _
    unfold swappedStores
    refine ite_none fun n1 => ite_none fun n2 => ite_none fun n3 => ?_
    simp only [Bool.or_eq_true] at h
    rcases h with (h | h) | h
    · exfalso; apply n1; rw [h]; rfl
    · exact if_pos h
    · exfalso
      apply n3
      simp only [Bool.or_eq_true]
      left
      refine bne_iff_ne.mpr fun q => ?_
      rw [names_all _ (fun e he => ?_) q] at h
      · cases h
      · cases e <;> first | rfl | (exact absurd he (fun z => nomatch z))
  · cases h
  · rename_i h1 h2
    cases tg <;> first | rfl | (exact (h1 _ _ rfl).elim) | skip
    cases e <;> first | rfl | exact (h2 _ _ _ _ _ _ rfl rfl).elim
end
end Ev

set_option Elab.async false
set_option linter.all false
set_option maxRecDepth 100000
set_option maxHeartbeats 1000000
/-! Ev15: stores side by side, comprehensions on the line of their name, blocks. -/
namespace Ev
open PySem PySem.Spec PyProof.Rows L2
section
variable {X : Cx} {S : Sx} {E : En} {pos : Pos} {fl : St' → Mem → Res (List D)} {a b c : Expr} {x y z : Str} {px py pz p p2 : Pos} {k k2 : Nat}
theorem blockKind_of (hk : X.env.scope.kind = .function) : X.env.blockKind = .function := by
  unfold Env.blockKind
  rw [hk]; rfl
theorem star_any {vs : List Expr} (h : vs.all notStar = true) : ¬ (vs.any fun | .Starred .. => true | _ => false) = true := by
  intro q
  obtain ⟨e, h1, h2⟩ := List.any_eq_true.mp q
  have h3 := List.all_eq_true.mp h e h1
  cases e <;> first | (exact absurd h3 Bool.false_ne_true) | (exact absurd h2 Bool.false_ne_true)
theorem ite_no {α : Type} {c : Prop} [Decidable c] {u v w : α} (n : ¬ c) (h : v = w) : (if c then u else v) = w := by rw [if_neg n]; exact h
theorem sw2 (hk : X.env.scope.kind = .function) (hx : X.env.scope.names.lookup x = some .local) (hy : X.env.scope.names.lookup y = some .local) (hl : py.line = px.line) (hn : x ≠ y) (hs : [a, b].all notStar = true)
    (h1 : [a, b].all (foldedForSure 8) = false) (h2 : [a, b].all (constantsAlone 8) = false) : swappedStores [.Tuple [.Name x px, .Name y py] k p] (.Tuple [a, b] k2 p2) X.env = pure (some [x, y]) := by
  have ex : X.env.kindOf x = some .local := hx
  have ey : X.env.kindOf y = some .local := hy
  unfold swappedStores
  have n : (y == x) = false := beq_false_of_ne (Ne.symm hn)
  refine ite_no (by simp [blockKind_of hk]) (ite_no (star_any hs) (ite_no ?_ (ite_no (by rw [h1]; exact Bool.false_ne_true) (ite_no (by rw [h2]; exact Bool.false_ne_true) ?_))))
  · simp [List.filterMap, ex, ey, hl, Expr.pos, List.eraseDups, List.eraseDupsBy, List.eraseDupsBy.loop, n]
  · simp [List.filterMap, ex, ey, hl, Expr.pos]
theorem sw3 (hk : X.env.scope.kind = .function) (hx : X.env.scope.names.lookup x = some .local) (hy : X.env.scope.names.lookup y = some .local) (hz : X.env.scope.names.lookup z = some .local) (hl : py.line = px.line) (hl2 : pz.line = px.line) (hn : x ≠ y) (hn2 : x ≠ z) (hn3 : y ≠ z) (hs : [a, b, c].all notStar = true)
    (h1 : [a, b, c].all (foldedForSure 8) = false) (h2 : [a, b, c].all (constantsAlone 8) = false) : swappedStores [.Tuple [.Name x px, .Name y py, .Name z pz] k p] (.Tuple [a, b, c] k2 p2) X.env = pure (some [x, y, z]) := by
  have ex : X.env.kindOf x = some .local := hx
  have ey : X.env.kindOf y = some .local := hy
  have ez : X.env.kindOf z = some .local := hz
  unfold swappedStores
  have n : (y == x) = false := beq_false_of_ne (Ne.symm hn)
  have n2 : (z == x) = false := beq_false_of_ne (Ne.symm hn2)
  have n3 : (z == y) = false := beq_false_of_ne (Ne.symm hn3)
  refine ite_no (by simp [blockKind_of hk]) (ite_no (star_any hs) (ite_no ?_ (ite_no (by rw [h1]; exact Bool.false_ne_true) (ite_no (by rw [h2]; exact Bool.false_ne_true) ?_))))
  · simp [List.filterMap, ex, ey, ez, hl, hl2, Expr.pos, List.eraseDups, List.eraseDupsBy, List.eraseDupsBy.loop, n, n2, n3]
  · simp [List.filterMap, ex, ey, ez, hl, hl2, Expr.pos]
theorem ds_par2 {i j : Nat} (hc : X.calm = true) (hk : X.env.scope.kind = .function) (hN : X.N.Nodup) (hi : X.N[i]? = some x) (hj : X.N[j]? = some y) (hij : i ≠ j) (hx : X.env.scope.names.lookup x = some .local) (hy : X.env.scope.names.lookup y = some .local) (hl : py.line = px.line) (hn : x ≠ y) (hs : [a, b].all notStar = true)
    (h1 : [a, b].all (foldedForSure 8) = false) (h2 : [a, b].all (constantsAlone 8) = false) (ha : PA X [a, b] (tA (gx X) fl)) (ll : ∀ ds M d M', fl ds M = .ok d M' → d.length = 2) :
    PS X (.Assign [.Tuple [.Name x px, .Name y py] k p] (.Tuple [a, b] k2 p2) pos) (tS (gx X) fun σ M => (fl σ M).bind fun ds M => .ok (.next (setAll σ [i, j] ds)) M) := by
  refine PS.mono (ps_par hc hN hi hj hij hx hy ha (sw2 hk hx hy hl hn hs h1 h2) rfl) fun D σ H h => ?_
  obtain ⟨ρ, M, ds, rep, rs, h⟩ := h
  dsimp only at h
  refine ⟨ρ, M, ds, rep, rs, ?_⟩
  cases ef : fl ds M with
  | exc _ _ => rw [ef] at h; exact h
  | bad => rw [ef] at h; exact h
  | ok l M1 =>
    rw [ef] at h
    have le := ll _ _ _ _ ef
    intro ρ1 H1 e1 r1 vs rv
    match l, vs, le, rv with
    | [d1, d2], [v1, v2], _, .cons q1 (.cons q2 .nil) => exact ⟨v1, v2, rfl, h _ _ e1 r1 _ ((((rs.ext e1).set (d := some d1) (v := some v1) q1 i)).set (d := some d2) (v := some v2) q2 j)⟩
theorem ds_par3 {i j l : Nat} (hc : X.calm = true) (hk : X.env.scope.kind = .function) (hN : X.N.Nodup) (hi : X.N[i]? = some x) (hj : X.N[j]? = some y) (hl' : X.N[l]? = some z) (hij : i ≠ j) (hil : i ≠ l) (hjl : j ≠ l) (hx : X.env.scope.names.lookup x = some .local) (hy : X.env.scope.names.lookup y = some .local) (hz : X.env.scope.names.lookup z = some .local) (hl : py.line = px.line) (hl2 : pz.line = px.line) (hn : x ≠ y) (hn2 : x ≠ z) (hn3 : y ≠ z) (hs : [a, b, c].all notStar = true)
    (h1 : [a, b, c].all (foldedForSure 8) = false) (h2 : [a, b, c].all (constantsAlone 8) = false) (ha : PA X [a, b, c] (tA (gx X) fl)) (ll : ∀ ds M d M', fl ds M = .ok d M' → d.length = 3) :
    PS X (.Assign [.Tuple [.Name x px, .Name y py, .Name z pz] k p] (.Tuple [a, b, c] k2 p2) pos) (tS (gx X) fun σ M => (fl σ M).bind fun ds M => .ok (.next (setAll σ [i, j, l] ds)) M) := by
  refine PS.mono (ps_par3 hc hN hi hj hl' hij hil hjl hx hy hz ha (sw3 hk hx hy hz hl hl2 hn hn2 hn3 hs h1 h2) rfl) fun D σ H h => ?_
  obtain ⟨ρ, M, ds, rep, rs, h⟩ := h
  dsimp only at h
  refine ⟨ρ, M, ds, rep, rs, ?_⟩
  cases ef : fl ds M with
  | exc _ _ => rw [ef] at h; exact h
  | bad => rw [ef] at h; exact h
  | ok l' M1 =>
    rw [ef] at h
    have le := ll _ _ _ _ ef
    intro ρ1 H1 e1 r1 vs rv
    match l', vs, le, rv with
    | [d1, d2, d3], [v1, v2, v3], _, .cons q1 (.cons q2 (.cons q3 .nil)) => exact ⟨v1, v2, v3, rfl, h _ _ e1 r1 _ (((((rs.ext e1).set (d := some d1) (v := some v1) q1 i)).set (d := some d2) (v := some v2) q2 j).set (d := some d3) (v := some v3) q3 l)⟩
/-! ### blocks -/
def relab (o i : Scope) : Scope := { i with names := i.names.map fun (m, q) => if (q == .free && o.kind == .function && o.names.lookup m == some .cell) then (m, .cell) else (m, q) }
def Sx.blk (S : Sx) (scope : Scope) : Sx := { S with sc := relab S.sc scope, fn := (scope.names.filter fun q => scope.names.lookup q.1 == some .cell).map (·.1) }
theorem XOk.blk (ok : XOk S E X) {scope : Scope} {s : Shared} {H : Hp} {C : Addr} {cl : List (Str × Addr)} {fp : List Addr} : XOk (S.blk scope) E (X.blk s H scope (compEnvC scope cl C X.env) fp) where
  N := ok.N
  sc := by
    show relabel scope X.env = relab S.sc scope
    rw [← ok.sc]; rfl
  nd := ok.nd
  calm := ok.calm
  fn := fun x hx => by
    obtain ⟨q, hq, rfl⟩ := List.mem_map.mp hx
    exact (List.mem_filter.mp hq).2
  xe := PassesOwn.never
  hu := ok.hu
  gd := ok.gd
  cs := ok.cs
  fr := ok.fr
  ft := ok.ft
  no := ok.no
  len := ok.len
  isfn := ok.isfn
  cl := ok.cl
/-! ### name = [..] -/
theorem ds_setLc {i : Nat} {own : List (Str × Nat)} {sl : List Nat} {scope : Scope} {ifs : List Expr} {elt tg it : Expr} {fi : St' → Mem → Res (List D × Option Nat)} {ft : D → St' → Mem → Res St'} {fp : St' → Mem → Res Bool} {fe : St' → Mem → Res D} {cell : Bool}
    (hc : X.calm = true) (hN : X.N.Nodup) (hk : X.env.scope.kind = .function) (hy : X.N[i]? = some y) (hyl : X.env.scope.names.lookup y = some .local) (hln : py.line = p.line) (hno : (scope.names.any fun q => q.1 == y && (q.2 == .local || q.2 == .cell)) = false)
    (hi : PI X tg it (iE (gx X) fi)) (ok : BlkOk X.N X.env.scope scope own)
    (hg : ∀ (s : Shared) (H : Hp) (C : Addr) (cl : List (Str × Addr)) (fp : List Addr), PG (X.blk s H scope (compEnvC scope cl C X.env) fp) tg (gT (gx X) sl ft))
    (hsl : ∀ i ∈ sl, i ∈ own.map (·.2))
    (ht : ∀ (s : Shared) (H : Hp) (C : Addr) (cl : List (Str × Addr)) (fp' : List Addr), PTs (X.blk s H scope (compEnvC scope cl C X.env) fp') ifs (tT (gx X) fp))
    (he : ∀ (s : Shared) (H : Hp) (C : Addr) (cl : List (Str × Addr)) (fp : List Addr), PE (X.blk s H scope (compEnvC scope cl C X.env) fp) elt (tE (gx X) fe)) (hs : notSet it = true) :
    PS X (.Assign [.Name y py] (.ListComp elt [⟨tg, it, ifs, 0⟩] scope p) pos) (tS (gx X) fun σ M => ((fi σ M).bind fun xs M => (compL xs.2 xs.1 ft fp fe (wipe' σ (own.map (·.2))) xs.1 [] M).bind fun acc M => fresh cell acc M).bind fun d M => .ok (.next (σ.set i (some d))) M) := by
  have sw : swapsWith (.ListComp elt [⟨tg, it, ifs, 0⟩] scope p) (some (.Name y py)) pos.line X.env = pure true := by
    have e1 : X.env.kindOf y = some .local := hyl
    unfold swapsWith
    show (pure _ : Sem Bool) = _
    simp only [blockKind_of hk, e1, hno, Bool.not_false, Bool.and_true]
    congr 1
    have q : (py.line == p.line) = true := beq_iff_eq.mpr hln
    exact q
  refine PS.mono (ps_setLc hc hN hy hyl sw hi ok hg ht he (fold_of hs)) fun D σ H h => ?_
  obtain ⟨ρ, M, ds, rep, rs, h⟩ := h
  refine lc_red (cell := cell) hsl ⟨ρ, M, ds, rep, rs, h.bind.mono fun d M1 ρ1 H1 e1 r1 h v rv => ?_⟩
  exact h.here r1 _ ((rs.ext e1).set (d := some d) (v := some v) rv i)
end
end Ev

set_option Elab.async false
set_option linter.all false
set_option maxRecDepth 100000
set_option maxHeartbeats 1000000
/-! Ev16: a check that a core text is the text of the program; what passes it does what it says: expressions. -/
namespace Ev
open PySem PySem.Spec PyProof.Rows L2
/-- tests that are walked by their own roads -/
def tst : Nat → Expr → Bool
  | n, .BoolOp _ es _ => match n with
    | n + 1 => es.all (tst n)
    | 0 => false
  | n, .UnaryOp .Not e _ => match n with
    | n + 1 => tst n e
    | 0 => false
  | _, .IfExp .. => false
  | _, _ => true
def isBool : Expr → Bool
  | .BoolOp .. => true
  | _ => false
mutual
def T.slots : T → List Nat
  | .var i => [i]
  | .tup l => l.slots
  | .sub _ _ => []
def TL.slots : TL → List Nat
  | .nil => []
  | .cons t l => t.slots ++ l.slots
end
mutual
def ckE : C → Sx → Expr → Bool
  | .k d, S, e => ckK S d e
  | .var i, S, e => match e with
    | .Name x _ => decide (S.N[i]? = some x) && visC S.sc x && ndbg x
    | _ => false
  | .glo x, S, e => match e with
    | .Name y _ => decide (x = y) && S.cs.contains x && glC S.sc x && ndbg x
    | _ => false
  | .bin op a b, S, e => match e with
    | .BinOp l o r _ => decide (op = o) && ckE a S l && ckE b S r
    | _ => false
  | .una op a, S, e => match e with
    | .UnaryOp o x _ => decide (op = o) && decide (op ≠ .Not) && ckE a S x
    | _ => false
  | .cmp op a b, S, e => match e with
    | .Compare l [o] [r] _ => decide (op = o) && ckE a S l && ckE b S r && !behindInMarks op r
    | _ => false
  | .chn op op' a b c, S, e => match e with
    | .Compare l [o, o'] [r, q] _ => decide (op = o) && decide (op' = o') && ckE a S l && ckE b S r && ckE c S q && !behindInMarks op r && !behindInMarks op' q
    | _ => false
  | .and_ a b, S, e => match e with
    | .BoolOp .And (x :: y :: r) p => ckE a S x && (match r with
      | [] => ckE b S y
      | z :: r => ckE b S (.BoolOp .And (y :: z :: r) p))
    | _ => false
  | .or_ a b, S, e => match e with
    | .BoolOp .Or (x :: y :: r) p => ckE a S x && (match r with
      | [] => ckE b S y
      | z :: r => ckE b S (.BoolOp .Or (y :: z :: r) p))
    | _ => false
  | .not_ a, S, e => match e with
    | .UnaryOp .Not x _ => ckE a S x
    | _ => false
  | .ite t a b, S, e => match e with
    | .IfExp t' a' b' _ => tst 20 t' && ckE t S t' && ckE a S a' && ckE b S b'
    | _ => false
  | .tup l, S, e => match e with
    | .Tuple es _ _ => ckL l S es
    | _ => false
  | .lst _ l, S, e => match e with
    | .List es _ => ckL l S es
    | _ => false
  | .dnew _, S, e => match e with
    | .Dict [] [] _ => true
    | _ => false
  | .idx a b, S, e => match e with
    | .Subscript x i _ => plainI i && ckE a S x && ckE b S i
    | _ => false
  | .sli a lo hi, S, e => match e with
    | .Subscript x (.Slice l h none _) _ => ckE a S x && ckO lo S l && ckO hi S h
    | _ => false
  | .rev a, S, e => match e with
    | .Subscript x s _ => isRev s && ckE a S x
    | _ => false
  | .call x l k ord, S, e => match e with
    | .Call (.Name y _) es kws _ => decide (x = y) && glC S.sc x && ndbg x && ckL l S es && ckL k S (kws.map (·.value)) && kwAll kws && (match S.ft.lookup x with
      | some fi => decide (bindP fi.ps (kwNames kws) (inls 0 es.length) (inls es.length kws.length) (inrs 0 fi.dfl.length) = some ord) && bindOk fi.ps (kwNames kws) es.length fi.dfl.length
      | none => false)
    | _ => false
  | .cal i l, S, e => match e with
    | .Call (.Name x _) (e :: es) [] _ => decide (S.N[i]? = some x) && visC S.sc x && ndbg x && ckL l S (e :: es)
    | _ => false
  | .blt b l, S, e => match e with
    | .Call (.Name x _) (e :: es) [] _ => decide (bltNm b = x) && S.fr.contains x && glC S.sc x && ckL l S (e :: es)
    | _ => false
  | .met m o l, S, e => match e with
    | .Call (.Attribute o' nm ap) (e :: es) [] p => decide (metN m = nm) && baseOk o' && decide (es.length < 28) && (ap.endLine == p.line) && ckE o S o' && ckL l S (e :: es)
    | _ => false
  | .comp _ own t it ifs e, S, ex => match ex with
    | .ListComp elt [⟨tg, it', fs, as⟩] scope _ => decide (as = 0) && ckI it S tg it' && notSet it' && blkC S.N S.sc scope own && ckT t (S.blk scope) tg && (t.slots.all fun i => (own.map (·.2)).contains i) && ckE e (S.blk scope) elt &&
      (match fs with
      | [] => ckO ifs (S.blk scope) none
      | [c] => ckO ifs (S.blk scope) (some c) && tst 20 c
      | _ => false)
    | _ => false
def ckL : CL → Sx → List Expr → Bool
  | .nil, _, es => es.isEmpty
  | .cons a l, S, es => match es with
    | e :: es => notStar e && ckE a S e && ckL l S es
    | [] => false
def ckO : CO → Sx → Option Expr → Bool
  | .none, _, e => e.isNone
  | .some a, S, e => match e with
    | some e => ckE a S e
    | none => false
def ckT : T → Sx → Expr → Bool
  | .var i, S, e => match e with
    | .Name x _ => decide (S.N[i]? = some x) && locC S x
    | _ => false
  | .tup l, S, e => match e with
    | .Tuple ts _ _ => ckTs l S ts
    | _ => false
  | .sub a b, S, e => match e with
    | .Subscript o i _ => plainI i && ckE a S o && ckE b S i
    | _ => false
def ckTs : TL → Sx → List Expr → Bool
  | .nil, _, es => es.isEmpty
  | .cons a l, S, es => match es with
    | e :: es => notStar e && ckT a S e && ckTs l S es
    | [] => false
def ckI : I → Sx → Expr → Expr → Bool
  | .val a, S, _, e => ckE a S e
  | .rng1 a, S, _, e => match e with
    | .Call (.Name y _) [x] [] _ => decide (y = ("range" : Str)) && S.fr.contains y && glC S.sc y && notStar x && ckE a S x
    | _ => false
  | .rng2 a b, S, _, e => match e with
    | .Call (.Name y _) [x, z] [] _ => decide (y = ("range" : Str)) && S.fr.contains y && glC S.sc y && notStar x && notStar z && ckE a S x && ckE b S z
    | _ => false
  | .zip a b, S, tg, e => match tg with
    | .Tuple _ _ _ => match e with
      | .Call (.Name y _) [x, z] [] _ => decide (y = ("zip" : Str)) && S.fr.contains y && glC S.sc y && notStar x && notStar z && ckE a S x && ckE b S z
      | _ => false
    | _ => false
  | .enum a, S, tg, e => match tg with
    | .Tuple _ _ _ => match e with
      | .Call (.Name y _) [x] [] _ => decide (y = ("enumerate" : Str)) && S.fr.contains y && glC S.sc y && notStar x && ckE a S x
      | _ => false
    | _ => false
end
end Ev

set_option Elab.async false
set_option linter.all false
set_option maxRecDepth 100000
set_option maxHeartbeats 1000000
/-! Ev17: what passes the check of expressions does what it says. -/
namespace Ev
open PySem PySem.Spec PyProof.Rows L2
section
variable {E : En} {X : Cx} {S : Sx}
structure Good (E : En) (X : Cx) (c : C) (e : Expr) : Prop where
  pe : PE X e (tE (gx X) (ev E c))
  pt : ∀ n, tst n e = true → PT X e (tT (gx X) fun σ M => (ev E c σ M).bind fun x M => truR x M)
  pw : ∀ n, tst n e = true → isBool e = true → PW X e (tT (gx X) fun σ M => (ev E c σ M).bind fun x M => truR x M)
def plainB (e : Expr) : Bool := plainT e && !isBool e
theorem plainB_of {e : Expr} (h : plainT e = true) : isBool e = false := by
  cases e <;> first | rfl | (exact absurd h Bool.false_ne_true)
theorem Good.of {c : C} {e : Expr} (h : PE X e (tE (gx X) (ev E c))) (hp : plainT e = true) : Good E X c e :=
  ⟨h, fun _ _ => den_test h hp, fun _ _ hb => by rw [plainB_of hp] at hb; cases hb⟩
theorem PW.mono {X : Cx} {e : Expr} {t t' : TT} (h : PW X e t) (k : ∀ σ H Q, t' σ H Q → t σ H Q) : PW X e t' := ⟨fun wh pins s σ H Q I q => h.run wh pins s σ H Q I (k σ H Q q)⟩
theorem tE_eq {f f' : St' → Mem → Res D} (h : ∀ σ M, f σ M = f' σ M) : tE (gx X) f = tE (gx X) f' := by
  have : f = f' := funext fun σ => funext fun M => h σ M
  rw [this]
theorem tT_eq {f f' : St' → Mem → Res Bool} (h : ∀ σ M, f σ M = f' σ M) : tT (gx X) f = tT (gx X) f' := by
  have : f = f' := funext fun σ => funext fun M => h σ M
  rw [this]
theorem and_test (r : Res D) (k : Mem → Res D) : (r.bind fun x M => (truR x M).bind fun t M => match t with
    | true => k M
    | false => .ok x M).bind (fun x M => truR x M) = (r.bind fun x M => truR x M).bind fun t M => match t with
    | true => (k M).bind fun x M => truR x M
    | false => .ok false M := by
  cases r with
  | ok x M =>
    simp only [Res.bind_ok, Res.bind_assoc]
    unfold truR
    cases h : truth M x with
    | none => rfl
    | some t => cases t <;> simp [h]
  | exc _ _ => rfl
  | bad => rfl
theorem or_test (r : Res D) (k : Mem → Res D) : (r.bind fun x M => (truR x M).bind fun t M => match t with
    | true => .ok x M
    | false => k M).bind (fun x M => truR x M) = (r.bind fun x M => truR x M).bind fun t M => match t with
    | true => .ok true M
    | false => (k M).bind fun x M => truR x M := by
  cases r with
  | ok x M =>
    simp only [Res.bind_ok, Res.bind_assoc]
    unfold truR
    cases h : truth M x with
    | none => rfl
    | some t => cases t <;> simp [h]
  | exc _ _ => rfl
  | bad => rfl
inductive AllL (E : En) (X : Cx) : CL → List Expr → Prop
  | nil : AllL E X .nil []
  | cons {a : C} {l : CL} {e : Expr} {es : List Expr} : PE X e (tE (gx X) (ev E a)) → notStar e = true → AllL E X l es → AllL E X (.cons a l) (e :: es)
theorem AllL.pa : ∀ {l : CL} {es : List Expr}, AllL E X l es → PA X es (tA (gx X) (evs E l))
  | _, _, .nil => den_nil
  | _, _, .cons h n r => den_cons h r.pa n
theorem AllL.pk : ∀ {l : CL} {kws : List Keyword}, AllL E X l (kws.map (·.value)) → PK X kws (tA (gx X) (evs E l))
  | _, [], .nil => den_knil
  | _, ⟨_, _, _⟩ :: _, .cons h n r => den_kcons h r.pk
theorem AllL.len : ∀ {l : CL} {es : List Expr}, AllL E X l es → l.len = es.length
  | _, _, .nil => rfl
  | _, _, .cons _ _ r => congrArg (· + 1) r.len
theorem AllL.star : ∀ {l : CL} {es : List Expr}, AllL E X l es → es.all notStar = true
  | _, _, .nil => rfl
  | _, _, .cons _ n r => by simp [n, r.star]
theorem evs_len : ∀ {l : CL} {σ : St'} {M : Mem} {ds : List D} {M' : Mem}, evs E l σ M = .ok ds M' → ds.length = l.len
  | .nil, σ, M, ds, M', h => by simp only [evs] at h; cases h; rfl
  | .cons a l, σ, M, ds, M', h => by
    simp only [evs] at h
    cases e1 : ev E a σ M with
    | ok x M1 =>
      rw [e1] at h
      simp only [Res.bind_ok] at h
      cases e2 : evs E l σ M1 with
      | ok xs M2 =>
        rw [e2] at h
        simp only [Res.bind_ok] at h
        cases h
        exact congrArg (· + 1) (evs_len e2)
      | exc _ _ => rw [e2] at h; cases h
      | bad => rw [e2] at h; cases h
    | exc _ _ => rw [e1] at h; cases h
    | bad => rw [e1] at h; cases h
inductive AllT (E : En) (X : Cx) : TL → List Expr → Prop
  | nil : AllT E X .nil []
  | cons {t : T} {l : TL} {e : Expr} {es : List Expr} : PG X e (gT (gx X) t.slots (asT E t)) → notStar e = true → AllT E X l es → AllT E X (.cons t l) (e :: es)
theorem AllT.pg : ∀ {l : TL} {es : List Expr}, AllT E X l es → PGs X es (gTs (gx X) l.slots (asTs E l))
  | _, _, .nil => by
    have h : asTs E .nil = fun l σ M => match l with
      | [] => .ok σ M
      | _ => .bad := by
      funext l σ M
      cases l <;> simp only [asTs]
    rw [h]
    exact dg_nil
  | _, _, .cons h n r => by
    rename_i t l e es
    have q : asTs E (.cons t l) = fun ds σ M => match ds with
      | d :: ds => (asT E t d σ M).bind fun σ M => asTs E l ds σ M
      | _ => .bad := by
      funext ds σ M
      cases ds <;> simp only [asTs]
    rw [q]
    exact dg_cons h r.pg (assignEach_cons n)
theorem AllT.len : ∀ {l : TL} {es : List Expr}, AllT E X l es → l.len = es.length
  | _, _, .nil => rfl
  | _, _, .cons _ _ r => congrArg (· + 1) r.len
theorem AllT.star : ∀ {l : TL} {es : List Expr}, AllT E X l es → es.all notStar = true
  | _, _, .nil => rfl
  | _, _, .cons _ n r => by simp [n, r.star]
def GoodO (E : En) (X : Cx) (c : CO) (e : Option Expr) : Prop := match c, e with
  | .none, none => True
  | .some a, some e => Good E X a e
  | _, _ => False
theorem ev_eq {c : C} {f : St' → Mem → Res D} {e : Expr} (hf : ∀ σ M, ev E c σ M = f σ M) (h : PE X e (tE (gx X) f)) : PE X e (tE (gx X) (ev E c)) := by
  have q : ev E c = f := funext fun σ => funext fun M => hf σ M
  rw [q]; exact h
theorem good_and {a b : C} {x y : Expr} {r : List Expr} {p : Pos} (ha : Good E X a x) (hb : match r with
    | [] => Good E X b y
    | z :: r => Good E X b (.BoolOp .And (y :: z :: r) p)) : Good E X (.and_ a b) (.BoolOp .And (x :: y :: r) p) := by
  have rest : PE X (.BoolOp .And (y :: r) p) (tE (gx X) (ev E b)) := by
    cases r with
    | nil => exact pe_one hb.pe
    | cons z r => exact hb.pe
  have pw : ∀ n, tst n (.BoolOp .And (x :: y :: r) p) = true → PW X (.BoolOp .And (x :: y :: r) p) (tT (gx X) fun σ M => (ev E (.and_ a b) σ M).bind fun x M => truR x M) := by
    intro n hn
    cases n with
    | zero => cases hn
    | succ n =>
      simp only [tst, List.all_cons, Bool.and_eq_true] at hn
      obtain ⟨n1, n2, n3⟩ := hn
      have rw' : PW X (.BoolOp .And (y :: r) p) (tT (gx X) fun σ M => (ev E b σ M).bind fun x M => truR x M) := by
        cases r with
        | nil => exact pw_and1 (hb.pt n n2)
        | cons z r =>
          refine hb.pw (n + 1) ?_ rfl
          simp only [tst, List.all_cons, Bool.and_eq_true] at n3 ⊢
          exact ⟨n2, n3⟩
      have := dt_and (ha.pt n n1) rw'
      rw [tT_eq (f' := fun σ M => (ev E (.and_ a b) σ M).bind fun x M => truR x M) fun σ M => ?_] at this
      · exact this
      · simp only [ev]
        exact (and_test _ _).symm
  refine ⟨ev_eq (fun σ M => by simp only [ev] <;> rfl) (den_and ha.pe rest), fun n hn => (pw n hn).pt, fun n hn _ => pw n hn⟩
theorem good_or {a b : C} {x y : Expr} {r : List Expr} {p : Pos} (ha : Good E X a x) (hb : match r with
    | [] => Good E X b y
    | z :: r => Good E X b (.BoolOp .Or (y :: z :: r) p)) : Good E X (.or_ a b) (.BoolOp .Or (x :: y :: r) p) := by
  have rest : PE X (.BoolOp .Or (y :: r) p) (tE (gx X) (ev E b)) := by
    cases r with
    | nil => exact pe_one hb.pe
    | cons z r => exact hb.pe
  have pw : ∀ n, tst n (.BoolOp .Or (x :: y :: r) p) = true → PW X (.BoolOp .Or (x :: y :: r) p) (tT (gx X) fun σ M => (ev E (.or_ a b) σ M).bind fun x M => truR x M) := by
    intro n hn
    cases n with
    | zero => cases hn
    | succ n =>
      simp only [tst, List.all_cons, Bool.and_eq_true] at hn
      obtain ⟨n1, n2, n3⟩ := hn
      have rw' : PW X (.BoolOp .Or (y :: r) p) (tT (gx X) fun σ M => (ev E b σ M).bind fun x M => truR x M) := by
        cases r with
        | nil => exact pw_or1 (hb.pt n n2)
        | cons z r =>
          refine hb.pw (n + 1) ?_ rfl
          simp only [tst, List.all_cons, Bool.and_eq_true] at n3 ⊢
          exact ⟨n2, n3⟩
      have := dt_or (ha.pt n n1) rw'
      rw [tT_eq (f' := fun σ M => (ev E (.or_ a b) σ M).bind fun x M => truR x M) fun σ M => ?_] at this
      · exact this
      · simp only [ev]
        exact (or_test _ _).symm
  refine ⟨ev_eq (fun σ M => by simp only [ev] <;> rfl) (den_or ha.pe rest), fun n hn => (pw n hn).pt, fun n hn _ => pw n hn⟩
theorem good_not {a : C} {x : Expr} {p : Pos} (ha : Good E X a x) : Good E X (.not_ a) (.UnaryOp .Not x p) := by
  refine ⟨ev_eq (fun σ M => by simp only [ev]) (den_not ha.pe), fun n hn => ?_, fun n hn hb => by cases hb⟩
  cases n with
  | zero => cases hn
  | succ n =>
    have := dt_not (pos := p) (ha.pt n hn)
    rw [tT_eq (f' := fun σ M => (ev E (.not_ a) σ M).bind fun x M => truR x M) fun σ M => ?_] at this
    · exact this
    · simp only [ev, Res.bind_assoc, Res.bind_ok, truR, truth]
theorem good_cmp {a b : C} {x y : Expr} {p : Pos} {op : CmpOp} (hu : X.A.units + 64 < cLine) (ha : Good E X a x) (hb : Good E X b y) (hm : behindInMarks op y = false) : Good E X (.cmp op a b) (.Compare x [op] [y] p) := by
  refine ⟨ev_eq (fun σ M => by simp only [ev]) (den_cmp hu ha.pe hb.pe hm), fun n _ => ?_, fun n hn hb => by cases hb⟩
  have := dt_cmp (pos := p) hu ha.pe hb.pe hm
  rw [tT_eq (f' := fun σ M => (ev E (.cmp op a b) σ M).bind fun x M => truR x M) fun σ M => ?_] at this
  · exact this
  · simp only [ev]
theorem good_chn {a b c : C} {x y z : Expr} {p : Pos} {op op' : CmpOp} (hu : X.A.units + 64 < cLine) (ha : Good E X a x) (hb : Good E X b y) (hc : Good E X c z) (hm : behindInMarks op y = false) (hm' : behindInMarks op' z = false) : Good E X (.chn op op' a b c) (.Compare x [op, op'] [y, z] p) := by
  refine ⟨ev_eq (fun σ M => by simp only [ev] <;> rfl) (den_chn hu ha.pe hb.pe hc.pe hm hm'), fun n _ => ?_, fun n hn hb => by cases hb⟩
  have := dt_chn (pos := p) hu ha.pe hb.pe hc.pe hm hm'
  rw [tT_eq (f' := fun σ M => (ev E (.chn op op' a b c) σ M).bind fun x M => truR x M) fun σ M => ?_] at this
  · exact this
  · simp only [ev, Res.bind_assoc]
    congr 1; funext x M; congr 1; funext y M; congr 1; funext r M
    cases r <;> try rfl
    rename_i t
    cases t
    · rfl
    · exact (Res.bind_assoc _ _ _).symm
theorem good_ite {a b c : C} {x y z : Expr} {p : Pos} (ht : tst 20 x = true) (ha : Good E X a x) (hb : Good E X b y) (hc : Good E X c z) : Good E X (.ite a b c) (.IfExp x y z p) := by
  refine ⟨ev_eq (fun σ M => ?_) (den_ite (ha.pt 20 ht) hb.pe hc.pe), fun n hn => ?_, fun n hn hb => by cases hb⟩
  · simp only [ev, Res.bind_assoc] <;> rfl
  · cases n <;> cases hn
end
end Ev

set_option Elab.async false
set_option linter.all false
set_option maxRecDepth 100000
set_option maxHeartbeats 1000000
/-! Ev18: the check of expressions is sound. -/
namespace Ev
open PySem PySem.Spec PyProof.Rows L2
theorem slotsIn {sl : List Nat} {own : List (Str × Nat)} (h : (sl.all fun i => (own.map (·.2)).contains i) = true) : ∀ i ∈ sl, i ∈ own.map (·.2) := fun i hi => by
  have := List.all_eq_true.mp h i hi
  simpa using this
theorem po_of {E : En} {X : Cx} {c : CO} {e : Option Expr} (h : GoodO E X c e) : PO X e (tO (gx X) fun σ M => (evo E c σ M).bind optR) := by
  cases c with
  | none =>
    cases e with
    | none =>
      have : (fun (σ : St') (M : Mem) => (evo E .none σ M).bind optR) = fun _ M => (Res.ok none M).bind optR := by
        funext σ M; simp only [evo]
      rw [this]; exact den_ono
    | some e => exact h.elim
  | some a =>
    cases e with
    | none => exact h.elim
    | some e =>
      have : (fun (σ : St') (M : Mem) => (evo E (.some a) σ M).bind optR) = fun σ M => ((ev E a σ M).bind fun x M => .ok (some x) M).bind optR := by
        funext σ M; simp only [evo]
      rw [this]; exact den_osome h.pe
theorem pts_of {E : En} {X : Cx} {c : CO} {fs : List Expr} (h : match fs with
    | [] => GoodO E X c none
    | [e] => GoodO E X c (some e) ∧ tst 20 e = true
    | _ => False) : PTs X fs (tT (gx X) fun σ M => (evo E c σ M).bind fun r M => match r with
      | none => .ok true M
      | some x => truR x M) := by
  match fs, h with
  | [], h =>
    cases c with
    | some a => exact h.elim
    | none =>
      refine ⟨fun pins s σ H Q I q => pts_nil.run pins s σ H Q I ?_⟩
      obtain ⟨ρ, M, ds, rep, rs, q⟩ := q
      simp only [evo] at q
      exact q.here rep
  | [e], h =>
    cases c with
    | none => exact h.1.elim
    | some a =>
      have h1 : Good E X a e := h.1
      have h2 := h1.pt 20 h.2
      rw [tT_eq (f' := fun σ M => (evo E (.some a) σ M).bind fun r M => match r with
        | none => .ok true M
        | some x => truR x M) fun σ M => ?_] at h2
      · exact pts_one h2
      · simp only [evo, Res.bind_assoc, Res.bind_ok]
mutual
theorem ckE_ok {E : En} : ∀ (c : C) {S : Sx} {X : Cx} {e : Expr}, XOk S E X → ckE c S e = true → Good E X c e
  | .k d, S, X, e, ok, h => by
    simp only [ckE] at h
    refine .of (ev_eq (fun σ M => by simp only [ev]) (den_k ok h)) ?_
    revert h
    cases d <;> cases e <;> first | (intro h; rfl) | (intro h; cases h)
  | .var i, S, X, e, ok, h => by
    simp only [ckE] at h
    split at h
    · simp only [Bool.and_eq_true, decide_eq_true_eq] at h
      obtain ⟨⟨h1, h2⟩, h3⟩ := h
      exact .of (ev_eq (fun σ M => by simp only [ev] <;> rfl) (den_var (i := i) (by rw [ok.N]; exact h1) (by rw [ok.sc]; exact visC_ok h2) h3)) rfl
    · cases h
  | .glo x, S, X, e, ok, h => by
    simp only [ckE] at h
    split at h
    · simp only [Bool.and_eq_true, decide_eq_true_eq] at h
      obtain ⟨⟨⟨rfl, h2⟩, h3⟩, h4⟩ := h
      exact .of (ev_eq (fun σ M => by simp only [ev] <;> rfl) (den_glo ok (by simpa using h2) (glC_ok ok h3) h4)) rfl
    · cases h
  | .bin op a b, S, X, e, ok, h => by
    simp only [ckE] at h
    split at h
    · simp only [Bool.and_eq_true, decide_eq_true_eq] at h
      obtain ⟨⟨rfl, h2⟩, h3⟩ := h
      exact .of (ev_eq (fun σ M => by simp only [ev]) (den_bin (ckE_ok a ok h2).pe (ckE_ok b ok h3).pe)) rfl
    · cases h
  | .una op a, S, X, e, ok, h => by
    simp only [ckE] at h
    split at h
    · simp only [Bool.and_eq_true, decide_eq_true_eq] at h
      obtain ⟨⟨rfl, h2⟩, h3⟩ := h
      exact .of (ev_eq (fun σ M => by simp only [ev]) (den_una (ckE_ok a ok h3).pe)) (by cases op <;> first | rfl | exact (h2 rfl).elim)
    · cases h
  | .cmp op a b, S, X, e, ok, h => by
    simp only [ckE] at h
    split at h
    · simp only [Bool.and_eq_true, decide_eq_true_eq, Bool.not_eq_true'] at h
      obtain ⟨⟨⟨rfl, h2⟩, h3⟩, h4⟩ := h
      exact good_cmp ok.hu (ckE_ok a ok h2) (ckE_ok b ok h3) h4
    · cases h
  | .chn op op' a b c, S, X, e, ok, h => by
    simp only [ckE] at h
    split at h
    · simp only [Bool.and_eq_true, decide_eq_true_eq, Bool.not_eq_true'] at h
      obtain ⟨⟨⟨⟨⟨⟨rfl, rfl⟩, h2⟩, h3⟩, h4⟩, h5⟩, h6⟩ := h
      exact good_chn ok.hu (ckE_ok a ok h2) (ckE_ok b ok h3) (ckE_ok c ok h4) h5 h6
    · cases h
  | .and_ a b, S, X, e, ok, h => by
    simp only [ckE] at h
    split at h
    · simp only [Bool.and_eq_true] at h
      obtain ⟨h1, h2⟩ := h
      refine good_and (ckE_ok a ok h1) ?_
      split at h2
      · exact ckE_ok b ok h2
      · exact ckE_ok b ok h2
    · cases h
  | .or_ a b, S, X, e, ok, h => by
    simp only [ckE] at h
    split at h
    · simp only [Bool.and_eq_true] at h
      obtain ⟨h1, h2⟩ := h
      refine good_or (ckE_ok a ok h1) ?_
      split at h2
      · exact ckE_ok b ok h2
      · exact ckE_ok b ok h2
    · cases h
  | .not_ a, S, X, e, ok, h => by
    simp only [ckE] at h
    split at h
    · exact good_not (ckE_ok a ok h)
    · cases h
  | .ite t a b, S, X, e, ok, h => by
    simp only [ckE] at h
    split at h
    · simp only [Bool.and_eq_true] at h
      obtain ⟨⟨⟨h1, h2⟩, h3⟩, h4⟩ := h
      exact good_ite h1 (ckE_ok t ok h2) (ckE_ok a ok h3) (ckE_ok b ok h4)
    · cases h
  | .tup l, S, X, e, ok, h => by
    simp only [ckE] at h
    split at h
    · exact .of (ev_eq (fun σ M => by simp only [ev]) (den_tup (ckL_ok l ok h).pa)) rfl
    · cases h
  | .lst c l, S, X, e, ok, h => by
    simp only [ckE] at h
    split at h
    · exact .of (ev_eq (fun σ M => by simp only [ev]) (den_lst (k := c) (ckL_ok l ok h).pa)) rfl
    · cases h
  | .dnew c, S, X, e, ok, h => by
    simp only [ckE] at h
    split at h
    · exact .of (ev_eq (fun σ M => by simp only [ev]) (den_dnew (c := c))) rfl
    · cases h
  | .idx a b, S, X, e, ok, h => by
    simp only [ckE] at h
    split at h
    · simp only [Bool.and_eq_true] at h
      obtain ⟨⟨h1, h2⟩, h3⟩ := h
      exact .of (ev_eq (fun σ M => by simp only [ev]) (den_idx (ckE_ok a ok h2).pe (ckE_ok b ok h3).pe h1)) rfl
    · cases h
  | .sli a lo hi, S, X, e, ok, h => by
    simp only [ckE] at h
    split at h
    · simp only [Bool.and_eq_true] at h
      obtain ⟨⟨h1, h2⟩, h3⟩ := h
      exact .of (ev_eq (fun σ M => by simp only [ev]) (den_sli (ckE_ok a ok h1).pe (po_of (ckO_ok lo ok h2)) (po_of (ckO_ok hi ok h3)))) rfl
    · cases h
  | .rev a, S, X, e, ok, h => by
    simp only [ckE] at h
    split at h
    · simp only [Bool.and_eq_true] at h
      obtain ⟨h1, h2⟩ := h
      exact .of (ev_eq (fun σ M => by simp only [ev]) (den_rev h1 (ckE_ok a ok h2).pe)) rfl
    · cases h
  | .call x l k ord, S, X, e, ok, h => by
    simp only [ckE] at h
    split at h
    · rename_i y _ es kws _
      simp only [Bool.and_eq_true, decide_eq_true_eq] at h
      obtain ⟨⟨⟨⟨⟨⟨rfl, h2⟩, h3⟩, h4⟩, h5⟩, h6⟩, h7⟩ := h
      split at h7
      · rename_i fi hfi
        simp only [Bool.and_eq_true, decide_eq_true_eq] at h7
        have hl := ckL_ok l ok h4
        have hk := ckL_ok k ok h5
        refine .of (ev_eq (fun σ M => by simp only [ev] <;> rfl) (den_call ok hfi (glC_ok ok h2) hl.pa hk.pk (fun he ds M => ?_) (fun ds M d M' he => ?_) (fun ds M d M' he => ?_) hl.star h6 h7.1 h7.2 (ndbg_1 h3))) rfl
        · subst he
          cases hl
          simp only [evs]
        · rw [evs_len he, hl.len]
        · rw [evs_len he, hk.len, List.length_map]
      · cases h7
    · cases h
  | .cal i l, S, X, e, ok, h => by
    simp only [ckE] at h
    split at h
    · simp only [Bool.and_eq_true, decide_eq_true_eq] at h
      obtain ⟨⟨⟨h1, h2⟩, h3⟩, h4⟩ := h
      have hl := ckL_ok l ok h4
      exact .of (ev_eq (fun σ M => by simp only [ev] <;> rfl) (den_cal (i := i) ok (by rw [ok.N]; exact h1) (by rw [ok.sc]; exact visC_ok h2) hl.pa hl.star (ndbg_1 h3) (ndbg_2 h3))) rfl
    · cases h
  | .blt b l, S, X, e, ok, h => by
    simp only [ckE] at h
    split at h
    · simp only [Bool.and_eq_true, decide_eq_true_eq] at h
      obtain ⟨⟨⟨rfl, h2⟩, h3⟩, h4⟩ := h
      have hl := ckL_ok l ok h4
      obtain ⟨b1, b2, b3⟩ := bltNm_boot b
      exact .of (ev_eq (fun σ M => by simp only [ev]) (den_blt E b ok.calm ok.hu ok.gd (glC_ok ok h3) (ok.fr _ (by simpa using h2)) b1 hl.pa hl.star b2 b3)) rfl
    · cases h
  | .met m o l, S, X, e, ok, h => by
    simp only [ckE] at h
    split at h
    · simp only [Bool.and_eq_true, decide_eq_true_eq] at h
      obtain ⟨⟨⟨⟨⟨rfl, h2⟩, h3⟩, h4⟩, h5⟩, h6⟩ := h
      have hl := ckL_ok l ok h6
      exact .of (ev_eq (fun σ M => by simp only [ev]) (den_met m (ckE_ok o ok h5).pe hl.pa h2 hl.star h3 h4)) rfl
    · cases h
  | .comp cell own t it ifs e, S, X, ex, ok, h => by
    simp only [ckE] at h
    split at h
    · rename_i elt tg it' fs as scope p
      simp only [Bool.and_eq_true, decide_eq_true_eq] at h
      obtain ⟨⟨⟨⟨⟨⟨⟨rfl, h2⟩, h3⟩, h4⟩, h5⟩, h6⟩, h7⟩, h8⟩ := h
      refine .of (ev_eq (fun σ M => by simp only [ev] <;> rfl) (den_comp (own := own) (sl := t.slots) (cell := cell) ok.calm ok.nd (ckI_ok it ok h2) (blkOk_by (by rw [ok.N, ok.sc]; exact h4)) (fun s H C cl fp => ckT_ok t ok.blk h5) (slotsIn h6) (fun s H C cl fp => pts_of ?_) (fun s H C cl fp => (ckE_ok e ok.blk h7).pe) h3)) rfl
      split at h8
      · exact ckO_ok ifs ok.blk h8
      · simp only [Bool.and_eq_true] at h8
        exact ⟨ckO_ok ifs ok.blk h8.1, h8.2⟩
      · cases h8
    · cases h
theorem ckL_ok {E : En} : ∀ (l : CL) {S : Sx} {X : Cx} {es : List Expr}, XOk S E X → ckL l S es = true → AllL E X l es
  | .nil, S, X, es, ok, h => by
    simp only [ckL] at h
    cases es with
    | nil => exact .nil
    | cons _ _ => cases h
  | .cons a l, S, X, es, ok, h => by
    simp only [ckL] at h
    split at h
    · simp only [Bool.and_eq_true] at h
      exact .cons (ckE_ok a ok h.1.2).pe h.1.1 (ckL_ok l ok h.2)
    · cases h
theorem ckO_ok {E : En} : ∀ (c : CO) {S : Sx} {X : Cx} {e : Option Expr}, XOk S E X → ckO c S e = true → GoodO E X c e
  | .none, S, X, e, ok, h => by
    simp only [ckO] at h
    cases e with
    | none => trivial
    | some _ => cases h
  | .some a, S, X, e, ok, h => by
    simp only [ckO] at h
    split at h
    · exact ckE_ok a ok h
    · cases h
theorem ckT_ok {E : En} : ∀ (t : T) {S : Sx} {X : Cx} {e : Expr}, XOk S E X → ckT t S e = true → PG X e (gT (gx X) t.slots (asT E t))
  | .var i, S, X, e, ok, h => by
    simp only [ckT] at h
    split at h
    · simp only [Bool.and_eq_true, decide_eq_true_eq] at h
      obtain ⟨l1, l2⟩ := locC_ok ok h.2
      have q : asT E (.var i) = fun d σ M => .ok (σ.set i (some d)) M := by funext d σ M; simp only [asT]
      rw [q]
      exact dg_var ok.nd (by rw [ok.N]; exact h.1) l1 l2
    · cases h
  | .tup l, S, X, e, ok, h => by
    simp only [ckT] at h
    split at h
    · have hl := ckTs_ok l ok h
      have q : asT E (.tup l) = fun d σ M => match d with
        | .tup ds => if ds.length = l.len then asTs E l ds σ M else .bad
        | _ => .bad := by funext d σ M; cases d <;> simp only [asT]
      rw [q]
      exact dg_tup ok.calm hl.pg hl.len hl.star
    · cases h
  | .sub a b, S, X, e, ok, h => by
    simp only [ckT] at h
    split at h
    · simp only [Bool.and_eq_true] at h
      have q : asT E (.sub a b) = fun d σ M => (ev E a σ M).bind fun o M => (ev E b σ M).bind fun i M => match setD o i d M with
        | some M => .ok σ M
        | none => .bad := by funext d σ M; simp only [asT] <;> rfl
      rw [q]
      exact dg_sub (ckE_ok a ok h.1.2).pe (ckE_ok b ok h.2).pe h.1.1
    · cases h
theorem ckTs_ok {E : En} : ∀ (l : TL) {S : Sx} {X : Cx} {es : List Expr}, XOk S E X → ckTs l S es = true → AllT E X l es
  | .nil, S, X, es, ok, h => by
    simp only [ckTs] at h
    cases es with
    | nil => exact .nil
    | cons _ _ => cases h
  | .cons a l, S, X, es, ok, h => by
    simp only [ckTs] at h
    split at h
    · simp only [Bool.and_eq_true] at h
      exact .cons (ckT_ok a ok h.1.2) h.1.1 (ckTs_ok l ok h.2)
    · cases h
theorem ckI_ok {E : En} : ∀ (i : I) {S : Sx} {X : Cx} {tg e : Expr}, XOk S E X → ckI i S tg e = true → PI X tg e (iE (gx X) (evi E i))
  | .val a, S, X, tg, e, ok, h => by
    simp only [ckI] at h
    have q : evi E (.val a) = fun σ M => (ev E a σ M).bind fun x M => walkV x M := by funext σ M; simp only [evi]
    rw [q]
    exact di_val (ckE_ok a ok h).pe
  | .rng1 a, S, X, tg, e, ok, h => by
    simp only [ckI] at h
    split at h
    · simp only [Bool.and_eq_true, decide_eq_true_eq] at h
      obtain ⟨⟨⟨⟨rfl, h2⟩, h3⟩, h4⟩, h5⟩ := h
      have q : evi E (.rng1 a) = fun σ M => (ev E a σ M).bind fun x M => rng1V x M := by funext σ M; simp only [evi]
      rw [q]
      exact di_rng1 (glC_ok ok h3) (ok.fr _ (by simpa using h2)) (ckE_ok a ok h5).pe h4
    · cases h
  | .rng2 a b, S, X, tg, e, ok, h => by
    simp only [ckI] at h
    split at h
    · simp only [Bool.and_eq_true, decide_eq_true_eq] at h
      obtain ⟨⟨⟨⟨⟨⟨rfl, h2⟩, h3⟩, h4⟩, h5⟩, h6⟩, h7⟩ := h
      have q : evi E (.rng2 a b) = fun σ M => (ev E a σ M).bind fun x M => (ev E b σ M).bind fun y M => rng2V x y M := by funext σ M; simp only [evi]
      rw [q]
      exact di_rng2 (glC_ok ok h3) (ok.fr _ (by simpa using h2)) (ckE_ok a ok h6).pe (ckE_ok b ok h7).pe h4 h5
    · cases h
  | .zip a b, S, X, tg, e, ok, h => by
    simp only [ckI] at h
    split at h
    · split at h
      · simp only [Bool.and_eq_true, decide_eq_true_eq] at h
        obtain ⟨⟨⟨⟨⟨⟨rfl, h2⟩, h3⟩, h4⟩, h5⟩, h6⟩, h7⟩ := h
        have q : evi E (.zip a b) = fun σ M => (ev E a σ M).bind fun x M => (ev E b σ M).bind fun y M => zipV x y M := by funext σ M; simp only [evi]
        rw [q]
        exact di_zip (glC_ok ok h3) (ok.fr _ (by simpa using h2)) (ckE_ok a ok h6).pe (ckE_ok b ok h7).pe h4 h5
      · cases h
    · cases h
  | .enum a, S, X, tg, e, ok, h => by
    simp only [ckI] at h
    split at h
    · split at h
      · simp only [Bool.and_eq_true, decide_eq_true_eq] at h
        obtain ⟨⟨⟨⟨rfl, h2⟩, h3⟩, h4⟩, h5⟩ := h
        have q : evi E (.enum a) = fun σ M => (ev E a σ M).bind fun x M => enumV x M := by funext σ M; simp only [evi]
        rw [q]
        exact di_enum (glC_ok ok h3) (ok.fr _ (by simpa using h2)) (ckE_ok a ok h5).pe h4
      · cases h
    · cases h
end
end Ev

set_option Elab.async false
set_option linter.all false
set_option maxRecDepth 100000
set_option maxHeartbeats 1000000
/-! Ev19: the check of statements; it is sound. -/
namespace Ev
open PySem PySem.Spec PyProof.Rows L2
def isLoc (S : Sx) (i : Nat) (x : Str) : Bool := decide (S.N[i]? = some x) && (match S.sc.names.lookup x with
  | some .local => true
  | _ => false)
theorem isLoc_ok {S : Sx} {E : En} {X : Cx} (ok : XOk S E X) {i : Nat} {x : Str} (h : isLoc S i x = true) : X.N[i]? = some x ∧ X.env.scope.names.lookup x = some .local := by
  unfold isLoc at h
  rw [Bool.and_eq_true] at h
  refine ⟨by rw [ok.N]; exact of_decide_eq_true h.1, ?_⟩
  rw [ok.sc]
  have h2 := h.2
  split at h2
  · assumption
  · cases h2
/-- x = [..], on one line or not -/
def ckLc (S : Sx) (t : T) (e : C) (tg v : Expr) : Bool := match t, tg, v with
  | .var i, .Name y py, .ListComp _ _ scope p => ckE e S v && ckT t S tg && (!(py.line == p.line) || (isLoc S i y && !(scope.names.any fun q => q.1 == y && (q.2 == .local || q.2 == .cell))))
  | _, _, _ => false
mutual
def ckS : Ev.S → Sx → Stmt → Bool
  | .asg t e, S, st => match st with
    | .Assign [tg] v _ => if notComp v then notStar tg && ckT t S tg && ckE e S v && swNo tg v else ckLc S t e tg v
    | _ => false
  | .par l e, S, st => match st with
    | .Assign [.Tuple ts _ _] (.Tuple vs _ _) _ => match l, ts, vs with
      | [i, j], [.Name x px, .Name y py], [a, b] => isLoc S i x && isLoc S j y && decide (i ≠ j) && decide (x ≠ y) && (py.line == px.line) && !([a, b].all (foldedForSure 8)) && !([a, b].all (constantsAlone 8)) && ckL e S [a, b]
      | [i, j, l], [.Name x px, .Name y py, .Name z pz], [a, b, c] => isLoc S i x && isLoc S j y && isLoc S l z && decide (i ≠ j) && decide (i ≠ l) && decide (j ≠ l) && decide (x ≠ y) && decide (x ≠ z) && decide (y ≠ z) && (py.line == px.line) && (pz.line == px.line) && !([a, b, c].all (foldedForSure 8)) && !([a, b, c].all (constantsAlone 8)) && ckL e S [a, b, c]
      | _, _, _ => false
    | _ => false
  | .ex e, S, st => match st with
    | .Expr v _ => notComp v && ckE e S v
    | _ => false
  | .ret e, S, st => match st with
    | .Return (some v) _ => ckE e S v
    | _ => false
  | .retN, S, st => match st with
    | .Return none _ => true
    | _ => false
  | .if_ c a b, S, st => match st with
    | .If t p q _ => tst 20 t && ckE c S t && ckSs a S p && ckSs b S q
    | _ => false
  | .for_ t it b, S, st => match st with
    | .For tg i body [] _ => notSet i && ckT t S tg && ckI it S tg i && ckSs b S body
    | _ => false
  | .whl c b, S, st => match st with
    | .While t body [] _ => tst 20 t && ckE c S t && ckSs b S body
    | _ => false
  | .pass, S, st => match st with
    | .Pass _ => true
    | _ => false
  | .brk, S, st => match st with
    | .Break _ => true
    | _ => false
  | .cnt, S, st => match st with
    | .Continue _ => true
    | _ => false
  | .never, S, st => true
def ckSs : SL → Sx → List Stmt → Bool
  | .nil, S, l => l.isEmpty
  | .cons s l, S, sts => match sts with
    | st :: sts => ckS s S st && ckSs l S sts
    | [] => false
end
section
variable {E : En} {X : Cx} {S : Sx}
theorem exS_eq {s : Ev.S} {f : St' → Mem → Res Flow'} {st : Stmt} (hf : ∀ σ M, exS E s σ M = f σ M) (h : PS X st (tS (gx X) f)) : PS X st (tS (gx X) (exS E s)) := by
  have q : exS E s = f := funext fun σ => funext fun M => hf σ M
  rw [q]; exact h
theorem exs_eq {s : SL} {f : St' → Mem → Res Flow'} {st : List Stmt} (hf : ∀ σ M, exs E s σ M = f σ M) (h : PSs X st (tS (gx X) f)) : PSs X st (tS (gx X) (exs E s)) := by
  have q : exs E s = f := funext fun σ => funext fun M => hf σ M
  rw [q]; exact h
theorem lc_ok (ok : XOk S E X) (hk : X.env.scope.kind = .function) {t : T} {e : C} {tg v : Expr} {pos : Pos} (h : ckLc S t e tg v = true) : PS X (.Assign [tg] v pos) (tS (gx X) (exS E (.asg t e))) := by
  unfold ckLc at h
  split at h
  · rename_i i y py elt gens scope p
    simp only [Bool.and_eq_true, Bool.or_eq_true] at h
    obtain ⟨⟨h1, h2⟩, h3⟩ := h
    by_cases hl : (py.line == p.line) = true
    · -- the same line
      have h3' : isLoc S i y = true ∧ (scope.names.any fun q => q.1 == y && (q.2 == .local || q.2 == .cell)) = false := by
        rcases h3 with h3 | h3
        · rw [hl] at h3; cases h3
        · simpa using h3
      obtain ⟨n1, n2⟩ := isLoc_ok ok h3'.1
      -- the parts of the comprehension
      cases e <;> simp only [ckE] at h1 <;> try (cases h1; done)
      case k d => exfalso; revert h1; cases d <;> (intro h1; cases h1)
      case comp cell own t' it ifs e' =>
        split at h1
        · rename_i elt tg' it' fs as scope' p' heq
          cases heq
          simp only [Bool.and_eq_true, decide_eq_true_eq] at h1
          obtain ⟨⟨⟨⟨⟨⟨⟨rfl, c2⟩, c3⟩, c4⟩, c5⟩, c6⟩, c7⟩, c8⟩ := h1
          refine exS_eq (fun σ M => ?_) (ds_setLc (own := own) (sl := t'.slots) (cell := cell) ok.calm ok.nd hk n1 n2 (by simpa using hl) h3'.2 (ckI_ok it ok c2) (blkOk_by (by rw [ok.N, ok.sc]; exact c4)) (fun s H C cl fp => ckT_ok t' ok.blk c5) (slotsIn c6) (fun s H C cl fp => pts_of (E := E) (c := ifs) ?_) (fun s H C cl fp => (ckE_ok e' ok.blk c7).pe) c3)
          · simp only [exS, ev, asT, Res.bind_ok] <;> rfl
          · split at c8
            · exact ckO_ok ifs ok.blk c8
            · simp only [Bool.and_eq_true] at c8
              exact ⟨ckO_ok ifs ok.blk c8.1, c8.2⟩
            · cases c8
        · cases h1
    · refine exS_eq (fun σ M => by simp only [exS]) (ds_asg (ckE_ok e ok h1).pe (ckT_ok _ ok h2) ?_ rfl rfl)
      have hb := blockKind_of hk
      have hq : (py.line == p.line) = false := by simpa using hl
      show (pure (X.env.blockKind == .function && X.env.kindOf y == some .local && (py.line == p.line) && !(scope.names.any fun (n, k) => n == y && (k == .local || k == .cell))) : Sem Bool) = _
      rw [hq]; simp
  · cases h
end
mutual
theorem ckS_ok {E : En} : ∀ (s : Ev.S) {S : Sx} {X : Cx} {st : Stmt}, XOk S E X → X.env.scope.kind = .function → ckS s S st = true → PS X st (tS (gx X) (exS E s))
  | .asg t e, S, X, st, ok, hk, h => by
    simp only [ckS] at h
    split at h
    · split at h
      · rename_i hn
        simp only [Bool.and_eq_true] at h
        obtain ⟨⟨⟨h1, h2⟩, h3⟩, h4⟩ := h
        exact exS_eq (fun σ M => by simp only [exS]) (ds_asg (ckE_ok e ok h3).pe (ckT_ok t ok h2) (swaps_no hn) (swNo_ok hk h4) h1)
      · exact lc_ok ok hk h
    · cases h
  | .par l e, S, X, st, ok, hk, h => by
    simp only [ckS] at h
    split at h
    · split at h
      · simp only [Bool.and_eq_true, decide_eq_true_eq, Bool.not_eq_true', beq_iff_eq] at h
        obtain ⟨⟨⟨⟨⟨⟨⟨h1, h2⟩, h3⟩, h4⟩, h5⟩, h6⟩, h7⟩, h8⟩ := h
        obtain ⟨i1, i2⟩ := isLoc_ok ok h1
        obtain ⟨j1, j2⟩ := isLoc_ok ok h2
        have hl := ckL_ok e ok h8
        exact exS_eq (fun σ M => by simp only [exS]) (ds_par2 ok.calm hk ok.nd i1 j1 h3 i2 j2 h5 h4 hl.star h6 h7 hl.pa fun ds M d M' he => by rw [evs_len he, hl.len]; rfl)
      · simp only [Bool.and_eq_true, decide_eq_true_eq, Bool.not_eq_true', beq_iff_eq] at h
        obtain ⟨⟨⟨⟨⟨⟨⟨⟨⟨⟨⟨⟨⟨h1, h2⟩, h3⟩, a1⟩, a2⟩, a3⟩, b1⟩, b2⟩, b3⟩, c1⟩, c2⟩, h6⟩, h7⟩, h8⟩ := h
        obtain ⟨i1, i2⟩ := isLoc_ok ok h1
        obtain ⟨j1, j2⟩ := isLoc_ok ok h2
        obtain ⟨k1, k2⟩ := isLoc_ok ok h3
        have hl := ckL_ok e ok h8
        exact exS_eq (fun σ M => by simp only [exS]) (ds_par3 ok.calm hk ok.nd i1 j1 k1 a1 a2 a3 i2 j2 k2 c1 c2 b1 b2 b3 hl.star h6 h7 hl.pa fun ds M d M' he => by rw [evs_len he, hl.len]; rfl)
      · cases h
    · cases h
  | .ex e, S, X, st, ok, hk, h => by
    simp only [ckS] at h
    split at h
    · simp only [Bool.and_eq_true] at h
      exact exS_eq (fun σ M => by simp only [exS]) (ds_ex (ckE_ok e ok h.2).pe h.1)
    · cases h
  | .ret e, S, X, st, ok, hk, h => by
    simp only [ckS] at h
    split at h
    · exact exS_eq (fun σ M => by simp only [exS]) (ds_ret (ckE_ok e ok h).pe)
    · cases h
  | .retN, S, X, st, ok, hk, h => by
    simp only [ckS] at h
    split at h
    · exact exS_eq (fun σ M => by simp only [exS]) ds_retN
    · cases h
  | .if_ c a b, S, X, st, ok, hk, h => by
    simp only [ckS] at h
    split at h
    · simp only [Bool.and_eq_true] at h
      obtain ⟨⟨⟨h1, h2⟩, h3⟩, h4⟩ := h
      exact exS_eq (fun σ M => by simp only [exS]) (ds_if ((ckE_ok c ok h2).pt 20 h1) (ckSs_ok a ok hk h3) (ckSs_ok b ok hk h4))
    · cases h
  | .for_ t it b, S, X, st, ok, hk, h => by
    simp only [ckS] at h
    split at h
    · simp only [Bool.and_eq_true] at h
      obtain ⟨⟨⟨h1, h2⟩, h3⟩, h4⟩ := h
      exact exS_eq (fun σ M => by simp only [exS]) (ds_for ok.xe ok.calm (ckI_ok it ok h3) (ckT_ok t ok h2) (ckSs_ok b ok hk h4) h1)
    · cases h
  | .whl c b, S, X, st, ok, hk, h => by
    simp only [ckS] at h
    split at h
    · simp only [Bool.and_eq_true] at h
      obtain ⟨⟨h1, h2⟩, h3⟩ := h
      exact exS_eq (fun σ M => by simp only [exS]) (ds_whl ok.xe ((ckE_ok c ok h2).pt 20 h1) (ckSs_ok b ok hk h3) FUEL)
    · cases h
  | .pass, S, X, st, ok, hk, h => by
    simp only [ckS] at h
    split at h
    · exact exS_eq (fun σ M => by simp only [exS]) ds_pass
    · cases h
  | .brk, S, X, st, ok, hk, h => by
    simp only [ckS] at h
    split at h
    · exact exS_eq (fun σ M => by simp only [exS]) ds_brk
    · cases h
  | .cnt, S, X, st, ok, hk, h => by
    simp only [ckS] at h
    split at h
    · exact exS_eq (fun σ M => by simp only [exS]) ds_cnt
    · cases h
  | .never, S, X, st, ok, hk, h => exS_eq (fun σ M => by simp only [exS]) ds_never
theorem ckSs_ok {E : En} : ∀ (l : SL) {S : Sx} {X : Cx} {sts : List Stmt}, XOk S E X → X.env.scope.kind = .function → ckSs l S sts = true → PSs X sts (tS (gx X) (exs E l))
  | .nil, S, X, sts, ok, hk, h => by
    simp only [ckSs] at h
    cases sts with
    | nil => exact exs_eq (fun σ M => by simp only [exs]) ds_nil
    | cons _ _ => cases h
  | .cons s l, S, X, sts, ok, hk, h => by
    simp only [ckSs] at h
    split at h
    · simp only [Bool.and_eq_true] at h
      exact exs_eq (fun σ M => by simp only [exs]) (ds_cons (ckS_ok s ok hk h.1) (ckSs_ok l ok hk h.2))
    · cases h
end
end Ev

set_option Elab.async false
set_option linter.all false
set_option maxRecDepth 100000
set_option maxHeartbeats 1000000
/-! Ev20: defs of a program; what their calls compute. -/
namespace Ev
open PySem PySem.Spec PyProof.Rows L2
inductive Mode where
  | drop | freeze | keep
  deriving DecidableEq
structure FnD where
  ps : List Str
  dfl : List D
  N : List Str
  body : SL
  mode : Mode
structure Prg where
  G : Str → Option D
  fns : List (Str × FnD)
  cs : List Str
  fr : List Str
def Prg.dfl (P : Prg) (x : Str) : List D := match P.fns.lookup x with
  | some f => f.dfl
  | none => []
def Prg.en (P : Prg) (call : D → List D → Mem → Res D) : En := ⟨P.G, P.dfl, call⟩
def start' (N : List Str) (as : List D) : St' := as.map some ++ List.replicate (N.length - as.length) none
/-- a value leaves a call: the cells that were made there are given up, or kept -/
def leave (mode : Mode) (m : Nat) (d : D) (M : Mem) : Res D := match mode with
  | .keep => .ok d M
  | .drop => if d.und m then .ok d (M.take m) else .bad
  | .freeze => match d with
    | .obj n => match M[n]? with
      | some (.lst l) => if decide (m ≤ n) && unds m l then .ok (.lst l) (M.take m) else .bad
      | some (.dct l) => if decide (m ≤ n) && unde m l then .ok (.dct l) (M.take m) else .bad
      | none => .bad
    | d => if d.und m then .ok d (M.take m) else .bad
def finish (mode : Mode) (m : Nat) (r : Res Flow') : Res D := r.bind fun k M => match k with
  | .ret d => leave mode m d M
  | .next _ => leave mode m .non M
  | _ => .bad
noncomputable def run (P : Prg) : Nat → D → List D → Mem → Res D
  | 0, _, _, _ => .bad
  | n + 1, d, as, M => match d with
    | .fn x => match P.fns.lookup x with
      | some f => if as.length = f.ps.length then finish f.mode M.length (exs (P.en (run P n)) f.body (start' f.N as) M) else .bad
      | none => .bad
    | _ => .bad

/-! ### giving up cells -/
mutual
theorem D.und_mono {m n : Nat} (h : n ≤ m) : ∀ {d : D}, d.und n = true → d.und m = true
  | .non, _ => rfl
  | .bl _, _ => rfl
  | .int _, _ => rfl
  | .str _, _ => rfl
  | .tup l, k => by simp only [D.und] at *; exact unds_mono h k
  | .lst l, k => by simp only [D.und] at *; exact unds_mono h k
  | .rol l, k => by simp only [D.und] at *; exact unds_mono h k
  | .dct l, k => by simp only [D.und] at *; exact unde_mono h k
  | .obj j, k => by simp only [D.und, decide_eq_true_eq] at *; omega
  | .fn _, _ => rfl
  | .ty _, _ => rfl
theorem unds_mono {m n : Nat} (h : n ≤ m) : ∀ {l : List D}, unds n l = true → unds m l = true
  | [], _ => rfl
  | d :: r, k => by simp only [unds, Bool.and_eq_true] at *; exact ⟨D.und_mono h k.1, unds_mono h k.2⟩
theorem unde_mono {m n : Nat} (h : n ≤ m) : ∀ {l : List (D × D)}, unde n l = true → unde m l = true
  | [], _ => rfl
  | (a, b) :: r, k => by simp only [unde, Bool.and_eq_true] at *; exact ⟨⟨D.und_mono h k.1.1, D.und_mono h k.1.2⟩, unde_mono h k.2⟩
end
section
variable {g : Gx} {ρ ρ' : Rho} {H H' : Hp} {M M' : Mem}
theorem CellOk.shrink {a : Addr} {c : Cell} (m : Nat) (h : CellOk g ρ H a c) (u : c.und m = true) : CellOk g (ρ.cut m) H a c := by
  cases c with
  | lst ds => obtain ⟨vs, h, r⟩ := h; exact ⟨vs, h, r.shrink m u⟩
  | dct kvs => obtain ⟨o, es, ep, h, z, a, b, c, r⟩ := h; exact ⟨o, es, ep, h, z, a, b, c, r.shrink m u⟩
theorem Rep.cut (r : Rep g ρ M H) (m : Nat) : Rep g (ρ.cut m) (M.take m) H := by
  refine ⟨by simp [Rho.cut, r.len], r.nd.sublist (List.take_sublist _ _), fun n a c h1 h2 => ?_, fun a ha => ⟨fun q => (r.gh a ha).1 (List.mem_of_mem_take q), (r.gh a ha).2⟩, fun n c h2 => ?_⟩
  · have hn : n < m := by
      have := (List.getElem?_eq_some_iff.mp h2).1
      simp at this; omega
    have h1 : (ρ.c.take m)[n]? = some a := h1
    rw [List.getElem?_take_of_lt hn] at h1 h2
    refine (r.cell n a c h1 h2).shrink m ?_
    have := r.un n c h2
    cases c with
    | lst l => exact unds_mono (Nat.le_of_lt hn) this
    | dct l => exact unde_mono (Nat.le_of_lt hn) this
  · have hn : n < m := by
      have := (List.getElem?_eq_some_iff.mp h2).1
      simp at this; omega
    rw [List.getElem?_take_of_lt hn] at h2
    exact r.un n c h2
theorem Ext.cut (e : Ext ρ H ρ' H') (m : Nat) (h : m = ρ.c.length) : Ext ρ H (ρ'.cut m) H' := by
  refine ⟨⟨fun a o h1 h2 => ⟨(e.keep a o h1 h2).1, fun q => (e.keep a o h1 h2).2 ?_⟩, ?_⟩, e.gh, e.gk⟩
  · rcases q with q | q
    · exact .inl (List.mem_of_mem_take q)
    · exact .inr q
  · obtain ⟨t, ht⟩ := e.pre
    refine ⟨[], ?_⟩
    show ρ.c ++ [] = ρ'.c.take m
    rw [← ht, h, List.append_nil, List.take_left']
    rfl
theorem leave_ok {mode : Mode} {m : Nat} {d : D} {Q : VK} {v : V} (hm : m = ρ.c.length) (e : Ext ρ H ρ' H') (r : Rep g ρ' M' H') (rd : RD g ρ' H' d v) (h : Post g ρ H (leave mode m d M') (QV g Q)) : Q v H' := by
  have drop : ∀ {d : D}, RD g ρ' H' d v → Post g ρ H (if d.und m then .ok d (M'.take m) else .bad) (QV g Q) → Q v H' := by
    intro d rd h
    split at h
    · rename_i hu
      exact h _ _ (e.cut m hm) (r.cut m) v (rd.shrink m hu)
    · exact h.no.elim
  cases mode with
  | keep => exact h _ _ e r v rd
  | drop => exact drop rd h
  | freeze =>
    unfold leave at h
    dsimp only at h
    split at h
    · cases rd with
      | @obj n a ha =>
        rename_i n0
        have out : m ≤ n0 → a ∉ ρ'.cut m := fun le q => by
          rcases q with q | q
          · obtain ⟨i, hi⟩ := List.mem_iff_getElem?.mp q
            have hi : (ρ'.c.take m)[i]? = some a := hi
            have him : i < m := by
              have := (List.getElem?_eq_some_iff.mp hi).1
              simp at this; omega
            rw [List.getElem?_take_of_lt him] at hi
            have e1 := (List.getElem?_eq_some_iff.mp hi).2
            have e2 := (List.getElem?_eq_some_iff.mp ha).2
            have := (List.getElem_inj r.nd).mp (e1.trans e2.symm)
            omega
          · exact (r.gh a q).1 (List.mem_of_getElem? ha)
        split at h
        · rename_i l hl
          split at h
          · rename_i hu
            simp only [Bool.and_eq_true, decide_eq_true_eq] at hu
            obtain ⟨vs, h1, q⟩ := r.cell _ _ _ ha hl
            exact h _ _ (e.cut m hm) (r.cut m) _ (.lst (out hu.1) h1 (q.shrink m hu.2))
          · exact h.no.elim
        · rename_i l hl
          split at h
          · rename_i hu
            simp only [Bool.and_eq_true, decide_eq_true_eq] at hu
            obtain ⟨o, es, ep, h1, z, a1, b1, c1, q⟩ := r.cell _ _ _ ha hl
            exact h _ _ (e.cut m hm) (r.cut m) _ (.dct (.inl ⟨out hu.1, h1⟩) z a1 b1 c1 (q.shrink m hu.2))
          · exact h.no.elim
        · exact h.no.elim
    · exact drop rd h
theorem RDs.paired : ∀ {ds : List D} {vs : List V}, RDs g ρ H ds vs → Paired (RD g ρ H) ds vs
  | _, _, .nil => .nil
  | _, _, .cons a b => .cons a b.paired
theorem RDs.of_paired : ∀ {ds : List D} {vs : List V}, Paired (RD g ρ H) ds vs → RDs g ρ H ds vs
  | _, _, .nil => .nil
  | _, _, .cons a b => .cons a (RDs.of_paired b)
theorem RS.start {as : List D} {vs : List V} (h : RDs g ρ H as vs) (N : List Str) : RS g ρ H (start' N as) (L2.start N vs) := by
  have hl := h.length
  unfold start' L2.start
  rw [hl]
  have rep : ∀ n : Nat, Paired (RO g ρ H) (List.replicate n none) (List.replicate n none) := fun n => by
    induction n with
    | zero => exact .nil
    | succ n ih => exact .cons trivial ih
  have app : ∀ {as : List D} {vs : List V} {l : St'} {r : L2.St}, RDs g ρ H as vs → Paired (RO g ρ H) l r → Paired (RO g ρ H) (as.map some ++ l) (vs.map some ++ r) := by
    intro as vs l r h k
    induction as generalizing vs with
    | nil => cases h; exact k
    | cons a as ih => cases h with | cons p q => exact .cons p (ih q)
  exact app h (rep _)
end
end Ev

set_option Elab.async false
set_option linter.all false
set_option maxRecDepth 100000
set_option maxHeartbeats 1000000
/-! Ev21: every call of a checked program computes what run says. -/
namespace Ev
open PySem PySem.Spec PyProof.Rows L2
def Prg.fis (P : Prg) : List (Str × FI) := P.fns.map fun p => (p.1, ⟨p.2.ps, p.2.dfl⟩)
theorem Prg.fis_at {P : Prg} {x : Str} : P.fis.lookup x = (P.fns.lookup x).map fun f => ⟨f.ps, f.dfl⟩ := by
  unfold Prg.fis
  induction P.fns with
  | nil => rfl
  | cons p l ih =>
    obtain ⟨a, f⟩ := p
    rw [List.map_cons, List.lookup_cons, List.lookup_cons]
    cases x == a with
    | true => rfl
    | false => exact ih
def cellsOf (sc : Scope) : List Str := (sc.names.filter fun q => q.2 == .cell).map (·.1)
def Prg.sx (P : Prg) (f : FnD) (sc : Scope) : Sx := ⟨f.N, sc, P.fis, P.cs, P.fr, cellsOf sc⟩
/-- a def of the program, as K holds it, and its core text -/
structure FnK (g : Gx) (P : Prg) (x : Str) (f : FnD) : Prop where
  ex : ∃ (fa : Addr) (nm qual : Str) (as : List Arg) (xs : List Expr) (body : List Stmt) (scope : Scope) (dvs : List V) (fd : FuncData),
    g.mg x = some (.ref fa) ∧ FunD g.K nm qual ⟨[], as, none, [], [], none, xs⟩ body scope dvs [] fa fd ∧ FnScope f.N f.ps scope ∧ as.map (·.arg) = f.ps ∧ (∀ ρ H, RDs g ρ H f.dfl dvs) ∧ f.dfl.length ≤ f.ps.length ∧
    ckSs f.body (P.sx f scope) body = true
structure PrgOk (g : Gx) (P : Prg) : Prop where
  fn : ∀ x f, P.fns.lookup x = some f → FnK g P x f
  cs : ∀ x ∈ P.cs, ∃ d u v, P.G x = some d ∧ g.mg x = some u ∧ RelV v u ∧ ∀ ρ H, RD g ρ H d v
  fr : ∀ x ∈ P.fr, g.mg x = none
theorem psNd_of {N ps : List Str} {sc : Scope} (S : FnScope N ps sc) : ps.Nodup := by
  rw [← S.pre]; exact S.nd.sublist (List.take_sublist _ _)
theorem run_no {P : Prg} {n : Nat} {x : Str} {as : List D} {M : Mem} (h : P.fns.lookup x = none) : run P n (.fn x) as M = .bad := by
  cases n with
  | zero => rfl
  | succ n => simp only [run, h]
theorem run_len {P : Prg} {n : Nat} {x : Str} {f : FnD} {as : List D} {M : Mem} (h : P.fns.lookup x = some f) (hl : as.length ≠ f.ps.length) : run P n (.fn x) as M = .bad := by
  cases n with
  | zero => rfl
  | succ n => simp only [run, h]; rw [if_neg hl]
theorem run_isfn {P : Prg} {n : Nat} {d : D} {as : List D} {M : Mem} (h : ∀ x, d ≠ .fn x) : run P n d as M = .bad := by
  cases n with
  | zero => rfl
  | succ n =>
    unfold run
    split
    · exact (h _ rfl).elim
    · rfl
theorem vals_paired {α : Type} {R : α → V → Prop} {S : α → Value → Prop} (h : ∀ a v u, R a v → RelV v u → S a u) : ∀ {as : List α} {vs : List V} {us : List Value}, Paired R as vs → Vals vs us → Paired S as us
  | _, _, _, .nil, .nil => .nil
  | _, _, _, .cons a b, .cons c d => .cons (h _ _ _ a c) (vals_paired h b d)
/-- the defaults' values, and how arguments come to the parameters -/
theorem dfl_bind {K : PySem.W.Frag} {s : Shared} {fd : FuncData} {as : List Arg} {xs : List Expr} {ps : List Str} {dvs : List V} (KX : K.In s.heap) (hp : fd.params = ⟨[], as, none, [], [], none, xs⟩) (ha : as.map (·.arg) = ps) (hd : DflV K fd.defaults dvs) :
    ∃ ds : List Value, Vals dvs ds ∧ ∀ (ks : List Str) (us ws fin : List Value), ks.length = ws.length → bindOk ps ks us.length ds.length = true → bindP ps ks us ws ds = some fin → BindsTo s fd ⟨us, ks.zip ws⟩ (ps.zip fin) := by
  rcases hd with ⟨rfl, hn⟩ | ⟨_, T, o, its, n, hT, lT, oT, hv⟩
  · refine ⟨[], .nil, fun ks us ws fin hk ok e => ?_⟩
    obtain ⟨k, h1, h2⟩ := bind_pure (r := none) hp ha rfl hk ok e
    refine .of_eq ?_
    rw [h1, hn]
    exact h2
  · refine ⟨its, hv, fun ks us ws fin hk ok e => ?_⟩
    obtain ⟨k, h1, h2⟩ := bind_pure (r := some its.toArray) hp ha (by simp) hk ok e
    exact .of_defaults hT (KX _ _ lT) oT h1 h2
theorem calls_ok {g : Gx} {base : Heap} {P : Prg} (ok : PrgOk g P) : ∀ (n : Nat) (A : Around), Room n A → A.guards = some [] → CallsOk g base A P.fis (P.en (run P n))
  | 0, A, hr, hg => fun x fi f hx hm outer s H ρ M ks us ws vs zs as bs l Q E' e0 rep r1 r2 q1 q2 hk hb hl hp => hp.elim
  | n + 1, A, hr, hg => fun x fi f hx hm outer s H ρ M ks us ws vs zs as bs l Q E' e0 rep r1 r2 q1 q2 hk hb hl hp => by
    rw [Prg.fis_at] at hx
    cases hf : P.fns.lookup x with
    | none => rw [hf] at hx; cases hx
    | some d =>
      rw [hf] at hx; cases hx
      obtain ⟨fa, nm, qual, pas, xs, body, scope, dvs, fd, m1, F, S, ha, hdf, hdl, hck⟩ := (ok.fn x d hf).ex
      rw [hm] at m1; cases m1
      obtain ⟨oc, od, dV, kV, doc, pm, an, cdv, ct, osl, rfl, lk, hcd, hdV, _⟩ := F.ex
      have KX : g.K.In s.heap := e0.mod.kin.keeps fun b o e => (e0.bs b o e).1
      have lim : s.heap.NoLimit := e0.mod.nolimit.keeps fun b o e => (e0.bs b o e).1
      obtain ⟨ds, hds, hbind⟩ := dfl_bind (s := s) (fd := PySem.W.fnOf nm qual ⟨[], pas, none, [], [], none, xs⟩ body scope dV kV doc pm an cdv ct) KX rfl ha hdV
      -- from the values' texts to the values
      have p1 := vals_paired (S := fun a u => ∃ v, RD g ρ H a v ∧ RelV v u) (fun a v u h k => ⟨v, h, k⟩) q1.paired r1
      have p2 := vals_paired (S := fun a u => ∃ v, RD g ρ H a v ∧ RelV v u) (fun a v u h k => ⟨v, h, k⟩) q2.paired r2
      have p3 := vals_paired (S := fun a u => ∃ v, RD g ρ H a v ∧ RelV v u) (fun a v u h k => ⟨v, h, k⟩) (hdf ρ H).paired hds
      obtain ⟨fin, hfin, hlf⟩ := bindP_rel p1 p2 p3 hl
      obtain ⟨vl, hvl, hvf⟩ : ∃ vl : List V, RDs g ρ H l vl ∧ Vals vl fin := by
        clear hfin hl hp
        induction hlf with
        | nil => exact ⟨[], .nil, .nil⟩
        | cons h _ ih =>
          obtain ⟨v, h1, h2⟩ := h
          obtain ⟨vl, i1, i2⟩ := ih
          exact ⟨v :: vl, .cons h1 i1, .cons h2 i2⟩
      -- the body
      simp only [Prg.en, run, hf] at hp
      have hlen : l.length = d.ps.length := by
        by_cases q : l.length = d.ps.length
        · exact q
        · rw [if_neg q] at hp; exact hp.elim
      rw [if_pos hlen] at hp
      have hvlen : vl.length = d.ps.length := hvl.length.symm.trans hlen
      have hkind : ∀ y ∈ d.ps.zip fin, scope.names.lookup y.1 = some .local ∨ (scope.names.lookup y.1 = some .cell ∧ ((cellsFrom (s.heap.objs.size + 1) scope.names []).lookup y.1).isSome = true) := by
        rintro ⟨a, u⟩ hy
        rcases S.par a (List.of_mem_zip hy).1 with q | q
        · exact .inl q
        · exact .inr ⟨q, PySem.W.cellsFrom_some _ _ _ (.inl q)⟩
      have hdsl : ds.length = d.dfl.length := by rw [← hds.length, ← (hdf ρ H).length]
      refine codeAny_call_function hr.depth (KX _ _ lk) rfl S.co S.gen rfl (PySem.W.codeRec_of KX hcd) (hbind ks us ws fin hk (by rw [hdsl]; exact hb) hfin _ _ _ _ ?_)
      refine wpAny_newFunctionEnv_cells S.kind hkind fun env he s1 y => ?_
      subst he
      refine ⟨lim.keeps y.toInCall.keep, codeAny_func ?_⟩
      let X : Cx := cxOf CX0 g.P g.w g.K g.mg base d.N qual scope f cdv A outer s H E'
      have I : Inv X [] (L2.start d.N vl) H s1 := inv_start S hr.hd e0 hvlen hvf y
      have hrn : Room n X.A := hr.deeper _
      have xok : XOk (P.sx d scope) (P.en (run P n)) X.nox := {
        N := rfl
        sc := rfl
        nd := S.nd
        calm := rfl
        fn := fun _ _ => rfl
        xe := PassesOwn.never
        hu := hrn.units
        gd := hg
        cs := ok.cs
        fr := ok.fr
        ft := fun y fi hy => by
          have hy : P.fis.lookup y = some fi := hy
          rw [Prg.fis_at] at hy
          cases e : P.fns.lookup y with
          | none => rw [e] at hy; cases hy
          | some d' =>
            rw [e] at hy; cases hy
            obtain ⟨fa', nm', qual', pas', xs', body', scope', dvs', fd', m1', F', S', ha', hdf', hdl', hck'⟩ := (ok.fn y d' e).ex
            refine ⟨fa', m1', F'.kp, ?_, psNd_of S', hdl'⟩
            show P.dfl y = d'.dfl
            unfold Prg.dfl; rw [e]
        no := fun y as M hy => by
          have hy : P.fis.lookup y = none := hy
          rw [Prg.fis_at] at hy
          cases e : P.fns.lookup y with
          | none => exact run_no e
          | some d' => rw [e] at hy; cases hy
        len := fun y fi as M hy hl => by
          have hy : P.fis.lookup y = some fi := hy
          rw [Prg.fis_at] at hy
          cases e : P.fns.lookup y with
          | none => rw [e] at hy; cases hy
          | some d' => rw [e] at hy; cases hy; exact run_len e hl
        isfn := fun d' as M h => run_isfn h
        cl := calls_ok ok n _ hrn hg }
      have hps : PSs X body (tS g (exs (P.en (run P n)) d.body)) := (ckSs_ok d.body xok S.kind hck).nox
      refine wpAny_mono (hps.run [] s1 (L2.start d.N vl) H { nx := fun _ H' => Q .non H', rt := Q } I ⟨ρ, M, start' d.N l, rep, RS.start hvl d.N, ?_⟩) (fun fl s' hs => ?_) fun e s' hs => hs
      · show Post g ρ H (exs ⟨P.G, P.dfl, run P n⟩ d.body (start' d.N l) M) _
        revert hp
        unfold finish
        cases exs ⟨P.G, P.dfl, run P n⟩ d.body (start' d.N l) M with
        | exc _ _ => exact fun hp => hp
        | bad => exact fun hp => hp
        | ok k M1 =>
          intro hp ρ1 H1 e1 rp1
          cases k with
          | ret d1 => exact fun v rv => leave_ok rep.len.symm e1 rp1 rv hp
          | next d1 => exact fun _ _ => leave_ok rep.len.symm e1 rp1 .non hp
          | brk _ => exact hp.no.elim
          | cnt _ => exact hp.no.elim
      · have fin : ∀ {σ' : L2.St} {H' : Hp} {v : V} {u : Value}, Inv X [] σ' H' s' → RelV v u → Q v H' → CE outer g.P g.w H s Q u s' :=
          fun {σ' H' v u} J rv q => ⟨v, H', J.os, J.bare, J.base, J.hok, rv, q⟩
        cases fl with
        | ret u =>
          obtain ⟨v, σ', H', J, rv, q⟩ := hs
          exact fin J rv q
        | next =>
          obtain ⟨σ', H', J, q⟩ := hs
          exact fin (v := V.non) (u := Value.none) J rfl q
        | brk => obtain ⟨_, _, _, q⟩ := hs; exact False.elim q
        | cont => obtain ⟨_, _, _, q⟩ := hs; exact False.elim q
end Ev

set_option Elab.async false
set_option linter.all false
set_option maxRecDepth 100000
set_option maxHeartbeats 1000000
/-! Ev22: a program's facts, read from what stands behind the top. -/
namespace Ev
open PySem PySem.Spec PyProof.Rows L2
def dOkC (kvs : List (D × D)) : Bool := (kvs.all (fun p => p.1.leaf) || kvs.all (fun p => p.1.tk)) && decide (kvs.map fun p => p.1.nk).Nodup
theorem dOkC_ok {kvs : List (D × D)} (h : dOkC kvs = true) : DOk kvs := by
  unfold dOkC at h
  simp only [Bool.and_eq_true, Bool.or_eq_true, List.all_eq_true, decide_eq_true_eq] at h
  exact ⟨h.1.imp (fun q p hp => q p hp) (fun q p hp => q p hp), h.2⟩
/-- the exact dict at a -/
def dictAt (K : PySem.W.Frag) (a : Addr) : Option (List DictEntry) := match K.lookup a with
  | some ⟨.type c, none, .dict es _, sl⟩ => if c = "dict" ∧ sl.size = 0 then some es.toList else none
  | _ => none
def seqAt (K : PySem.W.Frag) (a : Addr) (c : String) : Option (List Value) := match K.lookup a with
  | some ⟨.type t, none, .seq its _, _⟩ => if t = c ∧ its.size ≤ sizeLine then some its.toList else none
  | _ => none
mutual
def kV (K : PySem.W.Frag) : D → Value → Bool
  | .non, u => match u with
    | .none => true
    | _ => false
  | .bl b, u => match u with
    | .bool c => b == c
    | _ => false
  | .int i, u => match u with
    | .int j _ => decide (i = j)
    | _ => false
  | .str s, u => match u with
    | .str t _ => decide (s = t)
    | _ => false
  | .ty n, u => match u with
    | .type m => decide (n = m)
    | _ => false
  | .fn x, u => match u with
    | .ref a => He.eqO (PySem.W.nsIn K mainGlobals x) (some (some (.ref a))) && PySem.W.keepIn K (.ref a)
    | _ => false
  | .tup l, u => match u with
    | .ref a => match seqAt K a "tuple" with
      | some its => kVs K l its
      | none => false
    | _ => false
  | .rol l, u => match u with
    | .ref a => match seqAt K a "list" with
      | some its => kVs K l its
      | none => false
    | _ => false
  | .dct kvs, u => match u with
    | .ref a => match dictAt K a with
      | some es => !(a == sysModules) && dOkC kvs && kVe K kvs es
      | none => false
    | _ => false
  | .lst _, _ => false
  | .obj _, _ => false
def kVs (K : PySem.W.Frag) : List D → List Value → Bool
  | [], us => us.isEmpty
  | d :: r, us => match us with
    | u :: us => kV K d u && kVs K r us
    | [] => false
def kVe (K : PySem.W.Frag) : List (D × D) → List DictEntry → Bool
  | [], es => es.isEmpty
  | (a, b) :: r, es => match es with
    | e :: es => kV K a e.key && kV K b e.val && kVe K r es
    | [] => false
end
mutual
/-- the hashes that must agree -/
def kH (w : World) (K : PySem.W.Frag) : D → Value → List (Int × Int)
  | .tup l, u => match u with
    | .ref a => match seqAt K a "tuple" with
      | some its => kHs w K l its
      | none => []
    | _ => []
  | .rol l, u => match u with
    | .ref a => match seqAt K a "list" with
      | some its => kHs w K l its
      | none => []
    | _ => []
  | .dct kvs, u => match u with
    | .ref a => match dictAt K a with
      | some es => kHe w K kvs es
      | none => []
    | _ => []
  | _, _ => []
def kHs (w : World) (K : PySem.W.Frag) : List D → List Value → List (Int × Int)
  | [], _ => []
  | d :: r, us => match us with
    | u :: us => kH w K d u ++ kHs w K r us
    | [] => []
def kHe (w : World) (K : PySem.W.Frag) : List (D × D) → List DictEntry → List (Int × Int)
  | [], _ => []
  | (a, b) :: r, es => match es with
    | e :: es => (e.hash, a.nk.hash w) :: (kH w K a e.key ++ kH w K b e.val ++ kHe w K r es)
    | [] => []
end
theorem seqAt_ok {K : PySem.W.Frag} {a : Addr} {c : String} {l : List Value} (h : seqAt K a c = some l) : ∃ (o : Obj) (its : Array Value) (n : Nat), K.lookup a = some o ∧ o.cls = .type c ∧ o.dict = none ∧ o.data = .seq its n ∧ its.size ≤ sizeLine ∧ its.toList = l := by
  unfold seqAt at h
  split at h
  · rename_i e
    split at h
    · rename_i q
      cases h
      exact ⟨_, _, _, e, by rw [q.1], rfl, rfl, q.2, rfl⟩
    · cases h
  · cases h
theorem dictAt_ok {K : PySem.W.Frag} {a : Addr} {l : List DictEntry} (h : dictAt K a = some l) : ∃ (o : Obj) (es : Array DictEntry) (n : Nat), K.lookup a = some o ∧ o.ExactDict ∧ o.data = .dict es n ∧ es.toList = l := by
  unfold dictAt at h
  split at h
  · rename_i e
    split at h
    · rename_i q
      cases h
      exact ⟨_, _, _, e, ⟨by rw [q.1], rfl, by simpa using q.2⟩, rfl, rfl⟩
    · cases h
  · cases h
section
variable {g : Gx} {h : Heap}
mutual
theorem kV_ok (X : g.K.In h) (G : h.Ns mainGlobals g.mg) : ∀ {d : D} {u : Value}, kV g.K d u = true → (∀ p ∈ kH g.w g.K d u, p.1 = p.2) → ∃ v, RelV v u ∧ ∀ ρ H, RD g ρ H d v
  | .non, u, c, _ => by
    cases u <;> (try simp only [kV] at c) <;> first | exact ⟨.non, rfl, fun _ _ => .non⟩ | cases c
  | .bl b, u, c, _ => by
    cases u <;> simp only [kV] at c <;> first | (cases eq_of_beq c; exact ⟨.bl b, rfl, fun _ _ => .bl _⟩) | cases c
  | .int i, u, c, _ => by
    cases u <;> simp only [kV] at c <;> first | (cases of_decide_eq_true c; exact ⟨.int i, ⟨_, rfl⟩, fun _ _ => .int _⟩) | cases c
  | .str s, u, c, _ => by
    cases u <;> simp only [kV] at c <;> first | (cases of_decide_eq_true c; exact ⟨.str s, ⟨_, rfl⟩, fun _ _ => .str _⟩) | cases c
  | .ty n, u, c, _ => by
    cases u <;> simp only [kV] at c <;> first | (cases of_decide_eq_true c; exact ⟨.ty n, rfl, fun _ _ => .ty _⟩) | cases c
  | .fn x, u, c, hh => by
    cases u <;> simp only [kV] at c <;> first | (cases c; done) | skip
    rename_i a
    simp only [Bool.and_eq_true] at c
    exact ⟨.ref a, rfl, fun _ _ => .fn (PySem.W.mg_of X G (He.eqO_ok c.1)) c.2⟩
  | .tup l, u, c, hh => by
    cases u <;> simp only [kV] at c <;> first | (cases c; done) | skip
    rename_i a
    cases e : seqAt g.K a "tuple" with
    | none => rw [e] at c; cases c
    | some its =>
      rw [e] at c
      simp only [kH, e] at hh
      obtain ⟨vs, r, q⟩ := kVs_ok X G c hh
      obtain ⟨o, arr, n, h1, h2, h3, h4, h5, h6⟩ := seqAt_ok e
      exact ⟨.ref a, rfl, fun ρ H => .tup (.inr ⟨o, arr, n, h1, h2, h4, h5, by rw [h6]; exact r⟩) (q ρ H)⟩
  | .rol l, u, c, hh => by
    cases u <;> simp only [kV] at c <;> first | (cases c; done) | skip
    rename_i a
    cases e : seqAt g.K a "list" with
    | none => rw [e] at c; cases c
    | some its =>
      rw [e] at c
      simp only [kH, e] at hh
      obtain ⟨vs, r, q⟩ := kVs_ok X G c hh
      obtain ⟨o, arr, n, h1, h2, h3, h4, h5, h6⟩ := seqAt_ok e
      exact ⟨.ref a, rfl, fun ρ H => .rol (.inr ⟨o, arr, n, h1, h2, h3, h4, h5, by rw [h6]; exact r⟩) (q ρ H)⟩
  | .dct l, u, c, hh => by
    cases u <;> simp only [kV] at c <;> first | (cases c; done) | skip
    rename_i a
    cases e : dictAt g.K a with
    | none => rw [e] at c; cases c
    | some es =>
      rw [e] at c
      simp only [kH, e] at hh
      simp only [Bool.and_eq_true, Bool.not_eq_true'] at c
      have q := kVe_ok X G c.2 hh
      obtain ⟨o, arr, n, h1, h2, h3, h4⟩ := dictAt_ok e
      exact ⟨.ref a, rfl, fun ρ H => .dct (.inr h1) c.1.1 h2 h3 (dOkC_ok c.1.2) (by rw [h4]; exact q ρ H)⟩
  | .lst l, u, c, _ => by simp only [kV] at c; cases c
  | .obj n, u, c, _ => by simp only [kV] at c; cases c
theorem kVs_ok (X : g.K.In h) (G : h.Ns mainGlobals g.mg) : ∀ {l : List D} {us : List Value}, kVs g.K l us = true → (∀ p ∈ kHs g.w g.K l us, p.1 = p.2) → ∃ vs, Vals vs us ∧ ∀ ρ H, RDs g ρ H l vs
  | [], us, c, _ => by
    simp only [kVs] at c
    cases us with
    | nil => exact ⟨[], .nil, fun _ _ => .nil⟩
    | cons _ _ => cases c
  | d :: r, us, c, hh => by
    simp only [kVs] at c
    cases us with
    | nil => cases c
    | cons u us =>
      simp only [Bool.and_eq_true] at c
      simp only [kHs, List.mem_append] at hh
      obtain ⟨v, r1, q1⟩ := kV_ok X G c.1 fun p hp => hh p (.inl hp)
      obtain ⟨vs, r2, q2⟩ := kVs_ok X G c.2 fun p hp => hh p (.inr hp)
      exact ⟨v :: vs, .cons r1 r2, fun ρ H => .cons (q1 ρ H) (q2 ρ H)⟩
theorem kVe_ok (X : g.K.In h) (G : h.Ns mainGlobals g.mg) : ∀ {l : List (D × D)} {es : List DictEntry}, kVe g.K l es = true → (∀ p ∈ kHe g.w g.K l es, p.1 = p.2) → ∀ ρ H, RDe g ρ H l es
  | [], es, c, _ => by
    simp only [kVe] at c
    cases es with
    | nil => exact fun _ _ => .nil
    | cons _ _ => cases c
  | (a, b) :: r, es, c, hh => by
    simp only [kVe] at c
    cases es with
    | nil => cases c
    | cons e es =>
      simp only [Bool.and_eq_true] at c
      simp only [kHe, List.mem_cons, List.mem_append] at hh
      obtain ⟨v, r1, q1⟩ := kV_ok X G c.1.1 fun p hp => hh p (.inr (.inl (.inl hp)))
      obtain ⟨v2, r2, q2⟩ := kV_ok X G c.1.2 fun p hp => hh p (.inr (.inl (.inr hp)))
      have q3 := kVe_ok X G c.2 fun p hp => hh p (.inr (.inr hp))
      exact fun ρ H => .cons (q1 ρ H) r1 (hh _ (.inl rfl)) (q2 ρ H) r2 (q3 ρ H)
end
end
/-! ### the program -/
def paramC (p : Arguments) (ps : List Str) : Bool := match p with
  | ⟨[], as, none, [], [], none, _⟩ => decide (as.map (·.arg) = ps)
  | _ => false
theorem paramC_ok {p : Arguments} {ps : List Str} (h : paramC p ps = true) : ∃ as xs, p = ⟨[], as, none, [], [], none, xs⟩ ∧ as.map (·.arg) = ps := by
  unfold paramC at h
  split at h
  · exact ⟨_, _, rfl, of_decide_eq_true h⟩
  · cases h
/-- defaults -/
def dvD : He.Dv → Option D
  | .non => some .non
  | .bl b => some (.bl b)
  | .int i => some (.int i)
  | .str s => some (.str s)
  | _ => none
def dvC : List D → List He.Dv → Bool
  | [], [] => true
  | d :: r, v :: s => (match d, v with
    | .non, .non => true
    | .bl b, .bl c => b == c
    | .int i, .int j => decide (i = j)
    | .str x, .str y => decide (x = y)
    | _, _ => false) && dvC r s
  | _, _ => false
theorem dvC_ok {g : Gx} : ∀ {l : List D} {r : List He.Dv}, dvC l r = true → ∀ ρ H, RDs g ρ H l (r.map (He.Dv.v g.K))
  | [], [], _, _, _ => .nil
  | d :: l, v :: r, h, ρ, H => by
    simp only [dvC, Bool.and_eq_true] at h
    obtain ⟨h1, h2⟩ := h
    refine .cons ?_ (dvC_ok h2 ρ H)
    split at h1
    · exact .non
    · cases eq_of_beq h1; exact .bl _
    · cases of_decide_eq_true h1; exact .int _
    · cases of_decide_eq_true h1; exact .str _
    · cases h1
  | [], _ :: _, h, _, _ => by simp only [dvC] at h; cases h
  | _ :: _, [], h, _, _ => by simp only [dvC] at h; cases h
def scopeC (N ps : List Str) (sc : Scope) : Bool :=
  (match sc.kind with
    | .function => true
    | _ => false) && !sc.isCoroutine && !sc.isGenerator && decide N.Nodup && decide (N.take ps.length = ps) && (ps.all fun x => match sc.names.lookup x with
    | some .local => true
    | some .cell => true
    | _ => false) && sc.names.all fun y => match y.2 with
    | .free => false
    | _ => true
theorem scopeC_ok {N ps : List Str} {sc : Scope} (h : scopeC N ps sc = true) : FnScope N ps sc := by
  unfold scopeC at h
  simp only [Bool.and_eq_true, Bool.not_eq_true', decide_eq_true_eq, List.all_eq_true] at h
  obtain ⟨⟨⟨⟨⟨⟨h1, h2⟩, h3⟩, h4⟩, h5⟩, h6⟩, h7⟩ := h
  refine ⟨?_, h2, h3, h4, h5, fun x hx => ?_, fun y hy e => ?_⟩
  · split at h1
    · assumption
    · cases h1
  · have q := h6 x hx
    split at q
    · exact .inl (by assumption)
    · exact .inr (by assumption)
    · cases q
  · have q := h7 y hy
    rw [e] at q; cases q
def fnC (P : Prg) (x : Str) (f : FnD) (d : He.DefD) : Bool := decide (d.at_ = (x, none)) && paramC d.params f.ps && dvC f.dfl d.dfl && d.kwd.isEmpty && scopeC f.N f.ps d.scope && decide (f.dfl.length ≤ f.ps.length) && ckSs f.body (P.sx f d.scope) d.body
def faOf (P : Prg) : List He.Fa := P.fns.map (fun p => He.Fa.glo p.1) ++ P.fr.map He.Fa.free
/-- the constants that are read -/
def conC (K : PySem.W.Frag) (l : List (Str × D)) : Bool := l.all fun p => match PySem.W.nsIn K mainGlobals p.1 with
  | some (some u) => kV K p.2 u
  | _ => false
def conH (w : World) (K : PySem.W.Frag) (l : List (Str × D)) : List (Int × Int) := l.flatMap fun p => match PySem.W.nsIn K mainGlobals p.1 with
  | some (some u) => kH w K p.2 u
  | _ => []
inductive AllF (P : Prg) : List (Str × FnD) → List He.DefD → Prop
  | nil : AllF P [] []
  | cons {x : Str} {f : FnD} {d : He.DefD} {fs : List (Str × FnD)} {ds : List He.DefD} : fnC P x f d = true → AllF P fs ds → AllF P ((x, f) :: fs) (d :: ds)
theorem AllF.at_ {P : Prg} : ∀ {fs : List (Str × FnD)} {ds : List He.DefD}, AllF P fs ds → ∀ {x : Str} {f : FnD}, fs.lookup x = some f → ∃ (i : Nat) (d : He.DefD), fs[i]? = some (x, f) ∧ ds[i]? = some d ∧ fnC P x f d = true
  | _, _, .nil, x, f, h => by cases h
  | _, _, .cons (x := y) (f := f0) (d := d) (fs := fs) (ds := ds) c r, x, f, h => by
    rw [List.lookup_cons] at h
    cases e : x == y with
    | true =>
      rw [e] at h; cases h
      cases eq_of_beq e
      exact ⟨0, d, rfl, rfl, c⟩
    | false =>
      rw [e] at h
      obtain ⟨i, d', h1, h2, h3⟩ := r.at_ h
      exact ⟨i + 1, d', by simpa using h1, by simpa using h2, h3⟩
theorem prg_ok {p : Program} {w : World} {K : PySem.W.Frag} {h : Heap} {mg : Str → Option Value} {P : Prg} {src : List He.DefD} {con : List (Str × D)} (X : K.In h) (G : h.Ns mainGlobals mg) (says : He.SaysD (faOf P) src K) (hf : AllF P P.fns src)
    (hG : P.G = fun x => con.lookup x) (hcs : P.cs = con.map (·.1)) (hnd : (con.map (·.1)).Nodup) (hc : conC K con = true) (hh : (conH w K con).map (·.1) = (conH w K con).map (·.2)) : PrgOk ⟨p, w, K, mg⟩ P := by
  have hh' : ∀ q ∈ conH w K con, q.1 = q.2 := by
    revert hh
    generalize conH w K con = l
    induction l with
    | nil => intro _ q hq; cases hq
    | cons a l ih =>
      intro hh q hq
      simp only [List.map_cons, List.cons.injEq] at hh
      rcases List.mem_cons.mp hq with rfl | hq
      · exact hh.1
      · exact ih hh.2 q hq
  refine ⟨fun x f hx => ?_, fun x hx => ?_, fun x hx => ?_⟩
  · obtain ⟨i, d, h1, h2, c⟩ := hf.at_ hx
    unfold fnC at c
    simp only [Bool.and_eq_true, decide_eq_true_eq] at c
    obtain ⟨⟨⟨⟨⟨⟨c1, c2⟩, c3⟩, c4⟩, c5⟩, c6⟩, c7⟩ := c
    obtain ⟨fd, F⟩ := says.def_ i h2
    obtain ⟨as, xs, e1, e2⟩ := paramC_ok c2
    have hm : mg x = some (.ref (He.ga K x)) := He.glo_ok X G (says.fact i (by
      unfold faOf
      have : i < (P.fns.map fun p => He.Fa.glo p.1).length := by rw [List.length_map]; exact (List.getElem?_eq_some_iff.mp h1).1
      rw [List.getElem?_append_left this, List.getElem?_map, h1]; rfl))
    have ef : He.fAd K d.at_ = He.ga K x := by rw [c1]; rfl
    rw [ef, e1] at F
    have ek : d.kws K = [] := by
      unfold He.DefD.kws
      cases hk : d.kwd with
      | nil => rfl
      | cons _ _ => rw [hk] at c4; cases c4
    rw [ek] at F
    exact ⟨⟨He.ga K x, d.name, d.qual, as, xs, d.body, d.scope, d.dvs K, fd, hm, F, scopeC_ok c5, e2, dvC_ok c3, c6, c7⟩⟩
  · rw [hcs] at hx
    obtain ⟨⟨y, d⟩, hq, rfl⟩ := List.mem_map.mp hx
    have c := List.all_eq_true.mp hc _ hq
    dsimp only at c ⊢
    have hl : con.lookup y = some d := by
      clear hh hh' hc says hf hcs hG hx c
      induction con with
      | nil => cases hq
      | cons a l ih =>
        simp only [List.map_cons, List.nodup_cons] at hnd
        rw [List.lookup_cons]
        rcases List.mem_cons.mp hq with rfl | hq
        · simp
        · have : (y == a.1) = false := beq_false_of_ne fun e => hnd.1 (e ▸ List.mem_map_of_mem (f := (·.1)) hq)
          rw [this]
          exact ih hnd.2 hq
    cases e : PySem.W.nsIn K mainGlobals y with
    | none => rw [e] at c; cases c
    | some r =>
      rw [e] at c
      cases r with
      | none => cases c
      | some u =>
        have c : kV K d u = true := c
        obtain ⟨v, r1, q1⟩ := kV_ok (g := ⟨p, w, K, mg⟩) X G (d := d) (u := u) c fun q hq' => hh' q (List.mem_flatMap.mpr ⟨(y, d), hq, by
          dsimp only
          rw [e]; exact hq'⟩)
        exact ⟨d, u, v, by rw [hG]; exact hl, PySem.W.mg_of X G e, r1, q1⟩
  · obtain ⟨i, hi⟩ := List.mem_iff_getElem?.mp hx
    exact He.free_ok X G (says.fact (P.fns.length + i) (by
      unfold faOf
      rw [List.getElem?_append_right (by rw [List.length_map]; omega), List.length_map, Nat.add_sub_cancel_left, List.getElem?_map, hi]; rfl))
end Ev

set_option Elab.async false
set_option linter.all false
set_option maxRecDepth 100000
set_option maxHeartbeats 1000000
/-! Ev23: the law's call behind the top. -/
namespace Ev
open PySem PySem.Spec PyProof.Rows L2
theorem ints_rd {g : Gx} {ρ : Rho} {H : Hp} : ∀ ns : List Int, RDs g ρ H (ns.map D.int) (ns.map V.int)
  | [] => .nil
  | n :: r => .cons (.int n) (ints_rd r)
/-- the script as it lies: known to its object, unless it is one of the module's own -/
def scr (K : PySem.W.Frag) (a : Addr) (o : Obj) (xs : List V) : Hp := fun b => if b = a ∧ (K.lookup a).isNone = true then some (.frz o (.lst xs)) else none
section
variable {K : PySem.W.Frag} {a : Addr} {o : Obj} {xs : List V}
theorem scr_some {b : Addr} {u : HO} (h : scr K a o xs b = some u) : b = a ∧ K.lookup a = none ∧ u = .frz o (.lst xs) := by
  unfold scr at h
  split at h
  · rename_i q
    cases h
    exact ⟨q.1, by simpa using q.2, rfl⟩
  · cases h
theorem scr_in (h : K.lookup a = none) : scr K a o xs a = some (.frz o (.lst xs)) := if_pos ⟨rfl, by rw [h]; rfl⟩
end
theorem law_run {p : Program} {w : World} {K : PySem.W.Frag} {mg mb : Str → Option Value} {P : Prg} {k : Nat} {fa a : Addr} {f : FnD} {s : Shared} {vs : List Value} {ns : List Int} {M : Mem}
    (KX : K.In s.heap) (G : s.heap.Ns mainGlobals mg) (B : s.heap.Ns builtinsNs mb) (BB : ∀ x : Str, x ≠ "__name__" → mb x = bootBuiltins x) (lim : s.heap.NoLimit) (gens : s.gens = #[])
    (ha : s.heap.get? a = some { cls := .type "list", data := .seq vs.toArray }) (hi : IntsAre vs ns) (hl : ns.length ≤ sizeLine) (hr : Room k callerA)
    (ok : PrgOk ⟨p, w, K, mg⟩ P) (hm : mg "law" = some (.ref fa)) (hf : P.fns.lookup ("law" : Str) = some f) (h1 : f.ps.length = 1) (hd : f.dfl = []) (run : run P k (.fn "law") [.rol (ns.map .int)] [] = .ok (.bl true) M) :
    codeAny (model p w) callerA (.call (.ref fa) ⟨[.ref a], []⟩) (fun r s' => r = .ok (.ret (.bool true)) ∧ OldK s.heap s'.heap ∧ s'.os = s.os ∧ AllBare s'.gens) s := by
  have rv := vals_ints hi
  have lv := hi.length
  have noL : sizeOk (.seq vs.toArray) := by
    show vs.toArray.size ≤ sizeLine
    rw [List.size_toArray, lv]; exact hl
  let H : Hp := scr K a { cls := .type "list", data := .seq vs.toArray } (ns.map V.int)
  -- what lies in the heap is none of ours, but the script
  have free : ∀ {b : Addr} {o : Obj}, s.heap.get? b = some o → (b = a → K.lookup a = none → False) → H b = none := fun {b o} e n => by
    cases q : H b with
    | none => rfl
    | some u => exact (n (scr_some q).1 (scr_some q).2.1).elim
  have notDict : ∀ {b : Addr} {m : Str → Option Value}, s.heap.Ns b m → (hidT s.heap H).Ns b m := fun {b m} ⟨o, es, ep, e, d, r⟩ => ⟨o, es, ep, hidT_get e (free e fun z _ => by
    subst z
    rw [ha] at e; cases e
    have d' : Data.seq vs.toArray _ = Data.dict es ep := d
    cases d'), d, r⟩
  have KB : K.In (hidT s.heap H) := fun b o e => hidT_get (KX b o e) (free (KX b o e) fun z n => by subst z; rw [e] at n; cases n)
  have mod : Mod K mg (hidT s.heap H) := ⟨KB, notDict G, ⟨mb, notDict B, BB⟩, let ⟨mc, q1, q2⟩ := lim; ⟨mc, notDict q1, q2⟩⟩
  have hok : HOk p w H s.heap := fun b u z => by
    obtain ⟨rfl, _, rfl⟩ := scr_some z
    exact ⟨ha, by rw [List.length_map]; exact hl, vs, _, rv, ha⟩
  have e0 : Env0 p w K mg (hidT s.heap H) callerA [] s H := ⟨rfl, mod, fun b o e => of_hidT e, Nat.le_of_eq (hidT_size _ _), trivial, fun b hb => (nomatch hb), hok, .of_eq gens⟩
  have nd : f.ps.Nodup := by
    obtain ⟨_, _, _, _, _, _, _, _, _, _, _, S, _⟩ := (ok.fn _ _ hf).ex
    exact psNd_of S
  have rep : Rep ⟨p, w, K, mg⟩ ⟨[], []⟩ [] H := ⟨rfl, List.nodup_nil, fun n a c h => by simp at h, fun a h => (nomatch h), fun n c h => by simp at h⟩
  have at_ : AtL ⟨p, w, K, mg⟩ ⟨[], []⟩ H a (ns.map V.int) := by
    cases hk : K.lookup a with
    | none => exact .inl ⟨fun q => (by rcases q with q | q <;> cases q), .inr ⟨_, scr_in hk⟩⟩
    | some o =>
      have e := KX a o hk
      rw [ha] at e; cases e
      exact .inr ⟨_, vs.toArray, _, hk, rfl, rfl, rfl, noL, by simpa using rv⟩
  have fl : P.fis.lookup ("law" : Str) = some ⟨f.ps, f.dfl⟩ := by rw [Prg.fis_at, hf]; rfl
  have go := calls_ok (base := hidT s.heap H) ok k callerA hr rfl "law" ⟨f.ps, f.dfl⟩ fa fl hm [] s H ⟨[], []⟩ [] [] [.ref a] [] [.ref a] [] [.rol (ns.map .int)] [] [.rol (ns.map .int)] (fun v _ => v = .bl true) (fun _ _ _ => False)
    e0 rep (.cons rfl .nil) .nil (.cons (.rol at_ (ints_rd ns)) .nil) .nil rfl (by
      have := bindOk_full (nd := f.dfl.length) nd (by rw [hd, h1]; decide)
      rw [h1] at this
      exact this) (bindP_full nd (by rw [h1]; rfl)) (by
      show Post _ _ _ (Ev.run P k (.fn "law") [.rol (ns.map .int)] []) _
      rw [run]
      intro ρ' H' _ _ v rd
      cases rd; rfl)
  refine codeAny_mono go fun r s' h => ?_
  cases r with
  | error e => exact False.elim h
  | ok fl =>
    cases fl with
    | next => exact False.elim h
    | brk => exact False.elim h
    | cont => exact False.elim h
    | ret u =>
      obtain ⟨v, H', os, bare, un, hok', r', q⟩ := h
      cases (show v = .bl true from q)
      cases (show u = Value.bool true from r')
      refine ⟨rfl, OldK.of_keep fun b o e => ?_, os, bare⟩
      cases z : H b with
      | none => exact un.keep b o e z (fun y => nomatch y) (fun y => nomatch y)
      | some y =>
        obtain ⟨rfl, _, rfl⟩ := scr_some z
        rw [ha] at e; cases e
        exact (hok' b _ (un.frzs b _ _ z)).1
/-- THE JOIN: a program that is checked, whose run tells True for every script -/
theorem law_walk {l : PySem.W.OpenLaw} {n : Nat} {q : Program} {loose : List Str} {XP : (Str → Option Value) → Heap → Prop} {YP : World → Heap → Prop} {d : DefRec} {K : World → PySem.W.Frag} {P : Prg} {src : List He.DefD} {con : List (Str × D)} {f : FnD}
    (hn : l.most = some n) (hn2 : n ≤ sizeLine) (hdf : d.params.defaults = []) (hnm : d.name = "law") (hY : ∀ (w : World) (h : Heap), YP w h → (K w).In h)
    (says : ∀ w : World, He.SaysD (faOf P) src (K w)) (hfs : AllF P P.fns src) (hG : P.G = fun x => con.lookup x) (hcs : P.cs = con.map (·.1)) (hnd : (con.map (·.1)).Nodup) (hc : ∀ w : World, conC (K w) con = true)
    (hh : ∀ w : World, (conH w (K w) con).map (·.1) = (conH w (K w) con).map (·.2)) (hf : P.fns.lookup ("law" : Str) = some f) (h1 : f.ps.length = 1) (hd : f.dfl = [])
    (run : ∀ ns : List Int, ns.length ≤ n → ∃ k M, Room k callerA ∧ run P k (.fn "law") [.rol (ns.map .int)] [] = .ok (.bl true) M) :
    PySem.W.WalkO q loose XP YP l.row.toRowW d [] (fun f vs => PySem.call f vs) := by
  refine Att.attach_call hn hdf fun w s₀ s mg mb fa o pm cd doc a vs ns G Y ho hd' hcd hmg hobj hints hlen hg => ?_
  obtain ⟨k, M, hr, hrun⟩ := run ns hlen
  have KX := hY w _ Y
  rw [hnm] at hmg
  exact law_run KX G.T.g G.T.b G.T.builtins G.T.nolimit hg hobj hints (Nat.le_trans hlen hn2) hr (prg_ok KX G.T.g (says w) hfs hG hcs hnd (hc w) (hh w)) hmg hf h1 hd hrun
end Ev

set_option Elab.async false
set_option linter.all false
set_option maxRecDepth 100000
set_option maxHeartbeats 1000000
/-! Ev24: rules for simp: what core texts compute. -/
namespace Ev
open PySem (Str PyData)
section
variable {E : En} {σ : St'} {M : Mem}
@[simp] theorem ev_k {d : D} : ev E (.k d) σ M = .ok d M := by simp only [ev]
@[simp] theorem ev_var {i : Nat} : ev E (.var i) σ M = match σ[i]? with
    | some (some d) => .ok d M
    | _ => .bad := by simp only [ev] <;> rfl
@[simp] theorem ev_glo {x : Str} : ev E (.glo x) σ M = match E.G x with
    | some d => .ok d M
    | none => .bad := by simp only [ev] <;> rfl
@[simp] theorem ev_bin {op : PySem.Operator} {a b : C} : ev E (.bin op a b) σ M = (ev E a σ M).bind fun x M => (ev E b σ M).bind fun y M => binD op x y M := by simp only [ev]
@[simp] theorem ev_una {op : PySem.UnaryOp} {a : C} : ev E (.una op a) σ M = (ev E a σ M).bind fun x M => unaD op x M := by simp only [ev]
@[simp] theorem ev_cmp {op : PySem.CmpOp} {a b : C} : ev E (.cmp op a b) σ M = (ev E a σ M).bind fun x M => (ev E b σ M).bind fun y M => cmpD op x y M := by simp only [ev]
/-- what and, or, not, a choice do with a value's truth -/
def tIte (x : D) (M : Mem) (a b : Mem → Res D) : Res D := (truR x M).bind fun t M => match t with
  | true => a M
  | false => b M
@[simp] theorem tIte_bl {b : Bool} {f g : Mem → Res D} : tIte (.bl b) M f g = if b then f M else g M := by cases b <;> rfl
theorem tIte_of {x : D} {t : Bool} {f g : Mem → Res D} (h : truth M x = some t) : tIte x M f g = if t then f M else g M := by
  unfold tIte truR; rw [h]; cases t <;> rfl
@[simp] theorem ev_and {a b : C} : ev E (.and_ a b) σ M = (ev E a σ M).bind fun x M => tIte x M (fun M => ev E b σ M) fun M => .ok x M := by simp only [ev] <;> rfl
@[simp] theorem ev_or {a b : C} : ev E (.or_ a b) σ M = (ev E a σ M).bind fun x M => tIte x M (fun M => .ok x M) fun M => ev E b σ M := by simp only [ev] <;> rfl
@[simp] theorem ev_not {a : C} : ev E (.not_ a) σ M = (ev E a σ M).bind fun x M => tIte x M (fun M => .ok (.bl false) M) fun M => .ok (.bl true) M := by
  simp only [ev, tIte]
  congr 1; funext x M; congr 1; funext t M; cases t <;> rfl
@[simp] theorem ev_ite {t a b : C} : ev E (.ite t a b) σ M = (ev E t σ M).bind fun x M => tIte x M (fun M => ev E a σ M) fun M => ev E b σ M := by simp only [ev] <;> rfl
@[simp] theorem ev_tup {l : CL} : ev E (.tup l) σ M = (evs E l σ M).bind fun ds M => if ds.length ≤ LIM then .ok (.tup ds) M else .bad := by simp only [ev]
@[simp] theorem ev_lst {c : Bool} {l : CL} : ev E (.lst c l) σ M = (evs E l σ M).bind fun ds M => if ds.length ≤ LIM then fresh c ds M else .bad := by simp only [ev]
@[simp] theorem ev_dnewF : ev E (.dnew false) σ M = .ok (.dct []) M := by simp only [ev] <;> rfl
@[simp] theorem ev_dnewT : ev E (.dnew true) σ M = newCell M (.dct []) := by simp only [ev] <;> rfl
@[simp] theorem ev_idx {a b : C} : ev E (.idx a b) σ M = (ev E a σ M).bind fun x M => (ev E b σ M).bind fun y M => idxD x y M := by simp only [ev]
@[simp] theorem ev_sli {a : C} {lo hi : CO} : ev E (.sli a lo hi) σ M = (ev E a σ M).bind fun x M => ((evo E lo σ M).bind optR).bind fun l M => ((evo E hi σ M).bind optR).bind fun h M => sliD x l h M := by simp only [ev]
@[simp] theorem ev_rev {a : C} : ev E (.rev a) σ M = (ev E a σ M).bind fun x M => revD x M := by simp only [ev]
def callA (E : En) (x : Str) (l : Option (List D)) (M : Mem) : Res D := match l with
  | some as => E.call (.fn x) as M
  | none => .bad
@[simp] theorem callA_some {x : Str} {l : List D} : callA E x (some l) M = E.call (.fn x) l M := rfl
@[simp] theorem ev_call {x : Str} {l k : CL} {ord : List (Nat ⊕ Nat)} : ev E (.call x l k ord) σ M = (evs E l σ M).bind fun ds M => (evs E k σ M).bind fun es M => callA E x (arrange (ds ++ es) (E.dfl x) ord) M := by simp only [ev] <;> rfl
@[simp] theorem ev_blt {b : Blt} {l : CL} : ev E (.blt b l) σ M = (evs E l σ M).bind fun ds M => bltD E.call b ds M := by simp only [ev]
@[simp] theorem ev_met {m : Met} {o : C} {l : CL} : ev E (.met m o l) σ M = (ev E o σ M).bind fun x M => if recD m M x then (evs E l σ M).bind fun ds M => metD m x ds M else .bad := by simp only [ev]
noncomputable def ifsR (E : En) (ifs : CO) (σ : St') (M : Mem) : Res Bool := (evo E ifs σ M).bind fun r M => match r with
  | none => .ok true M
  | some x => truR x M
@[simp] theorem ifsR_none : ifsR E .none σ M = .ok true M := by simp only [ifsR, evo, Res.bind_ok]
@[simp] theorem ifsR_some {a : C} : ifsR E (.some a) σ M = (ev E a σ M).bind fun x M => truR x M := by simp only [ifsR, evo, Res.bind_assoc, Res.bind_ok]
@[simp] theorem ev_comp {c : Bool} {own : List (Str × Nat)} {t : T} {it : I} {ifs : CO} {e : C} : ev E (.comp c own t it ifs e) σ M =
    (evi E it σ M).bind fun xs M => (compL xs.2 xs.1 (fun x σ M => asT E t x σ M) (fun σ M => ifsR E ifs σ M) (fun σ M => ev E e σ M) (wipe' σ (own.map (·.2))) xs.1 [] M).bind fun acc M => fresh c acc M := by simp only [ev] <;> rfl
@[simp] theorem evs_nil : evs E .nil σ M = .ok [] M := by simp only [evs]
@[simp] theorem evs_cons {a : C} {l : CL} : evs E (.cons a l) σ M = (ev E a σ M).bind fun x M => (evs E l σ M).bind fun xs M => .ok (x :: xs) M := by simp only [evs]
@[simp] theorem evo_none : evo E .none σ M = .ok none M := by simp only [evo]
@[simp] theorem evo_some {a : C} : evo E (.some a) σ M = (ev E a σ M).bind fun x M => .ok (some x) M := by simp only [evo]
@[simp] theorem evi_val {a : C} : evi E (.val a) σ M = (ev E a σ M).bind fun x M => walkV x M := by simp only [evi]
@[simp] theorem evi_rng1 {a : C} : evi E (.rng1 a) σ M = (ev E a σ M).bind fun x M => rng1V x M := by simp only [evi]
@[simp] theorem evi_rng2 {a b : C} : evi E (.rng2 a b) σ M = (ev E a σ M).bind fun x M => (ev E b σ M).bind fun y M => rng2V x y M := by simp only [evi]
@[simp] theorem evi_zip {a b : C} : evi E (.zip a b) σ M = (ev E a σ M).bind fun x M => (ev E b σ M).bind fun y M => zipV x y M := by simp only [evi]
@[simp] theorem evi_enum {a : C} : evi E (.enum a) σ M = (ev E a σ M).bind fun x M => enumV x M := by simp only [evi]
variable {d : D}
@[simp] theorem asT_var {i : Nat} : asT E (.var i) d σ M = .ok (σ.set i (some d)) M := by simp only [asT]
@[simp] theorem asT_tup {l : TL} {ds : List D} : asT E (.tup l) (.tup ds) σ M = if ds.length = l.len then asTs E l ds σ M else .bad := by simp only [asT]
def setR (σ : St') : Option Mem → Res St'
  | some M => .ok σ M
  | none => .bad
@[simp] theorem setR_some : setR σ (some M) = .ok σ M := rfl
@[simp] theorem asT_sub {a b : C} : asT E (.sub a b) d σ M = (ev E a σ M).bind fun o M => (ev E b σ M).bind fun i M => setR σ (setD o i d M) := by simp only [asT] <;> rfl
@[simp] theorem asTs_nil : asTs E .nil [] σ M = .ok σ M := by simp only [asTs]
@[simp] theorem asTs_cons {t : T} {l : TL} {ds : List D} : asTs E (.cons t l) (d :: ds) σ M = (asT E t d σ M).bind fun σ M => asTs E l ds σ M := by simp only [asTs]
/-! statements -/
@[simp] theorem ex_asg {t : T} {e : C} : exS E (.asg t e) σ M = (ev E e σ M).bind fun x M => (asT E t x σ M).bind fun σ M => .ok (.next σ) M := by simp only [exS]
@[simp] theorem ex_par {l : List Nat} {e : CL} : exS E (.par l e) σ M = (evs E e σ M).bind fun ds M => .ok (.next (setAll σ l ds)) M := by simp only [exS]
@[simp] theorem ex_ex {e : C} : exS E (.ex e) σ M = (ev E e σ M).bind fun _ M => .ok (.next σ) M := by simp only [exS]
@[simp] theorem ex_ret {e : C} : exS E (.ret e) σ M = (ev E e σ M).bind fun x M => .ok (.ret x) M := by simp only [exS]
@[simp] theorem ex_retN : exS E .retN σ M = .ok (.ret .non) M := by simp only [exS]
def tIf (x : D) (M : Mem) (a b : Mem → Res Flow') : Res Flow' := (truR x M).bind fun t M => match t with
  | true => a M
  | false => b M
@[simp] theorem tIf_bl {b : Bool} {f g : Mem → Res Flow'} : tIf (.bl b) M f g = if b then f M else g M := by cases b <;> rfl
@[simp] theorem ex_if {c : C} {a b : SL} : exS E (.if_ c a b) σ M = (ev E c σ M).bind fun x M => tIf x M (fun M => exs E a σ M) fun M => exs E b σ M := by
  simp only [exS, Res.bind_assoc] <;> rfl
@[simp] theorem ex_for {t : T} {it : I} {b : SL} : exS E (.for_ t it b) σ M = (evi E it σ M).bind fun xs M => forL xs.2 xs.1 (fun d σ M => asT E t d σ M) (fun σ M => exs E b σ M) xs.1 σ M := by simp only [exS]
@[simp] theorem ex_pass : exS E .pass σ M = .ok (.next σ) M := by simp only [exS]
@[simp] theorem ex_brk : exS E .brk σ M = .ok (.brk σ) M := by simp only [exS]
@[simp] theorem ex_cnt : exS E .cnt σ M = .ok (.cnt σ) M := by simp only [exS]
@[simp] theorem ex_never : exS E .never σ M = .bad := by simp only [exS]
def seqF (k : Flow') (M : Mem) (f : St' → Mem → Res Flow') : Res Flow' := match k with
  | .next σ => f σ M
  | k => .ok k M
@[simp] theorem seqF_next {f : St' → Mem → Res Flow'} : seqF (.next σ) M f = f σ M := rfl
@[simp] theorem seqF_ret {f : St' → Mem → Res Flow'} : seqF (.ret d) M f = .ok (.ret d) M := rfl
@[simp] theorem seqF_brk {f : St' → Mem → Res Flow'} : seqF (.brk σ) M f = .ok (.brk σ) M := rfl
@[simp] theorem seqF_cnt {f : St' → Mem → Res Flow'} : seqF (.cnt σ) M f = .ok (.cnt σ) M := rfl
@[simp] theorem exs_nil : exs E .nil σ M = .ok (.next σ) M := by simp only [exs]
@[simp] theorem exs_cons {s : S} {l : SL} : exs E (.cons s l) σ M = (exS E s σ M).bind fun k M => seqF k M fun σ M => exs E l σ M := by simp only [exs] <;> rfl
/-! results -/
@[simp] theorem ite_bind {α β : Type} {c : Prop} [Decidable c] {a b : Res α} {f : α → Mem → Res β} : (if c then a else b).bind f = if c then a.bind f else b.bind f := by split <;> rfl
@[simp] theorem finish_ret {mode : Mode} {m : Nat} : finish mode m (.ok (.ret d) M) = leave mode m d M := rfl
@[simp] theorem finish_next {mode : Mode} {m : Nat} : finish mode m (.ok (.next σ) M) = leave mode m .non M := rfl
@[simp] theorem finish_ite {c : Prop} [Decidable c] {mode : Mode} {m : Nat} {a b : Res Flow'} : finish mode m (if c then a else b) = if c then finish mode m a else finish mode m b := by split <;> rfl
@[simp] theorem leave_keep {m : Nat} : leave .keep m d M = .ok d M := rfl
@[simp] theorem leave_bl {b : Bool} : leave .drop M.length (.bl b) M = .ok (.bl b) M := by simp [leave, D.und]
@[simp] theorem leave_int {i : Int} : leave .drop M.length (.int i) M = .ok (.int i) M := by simp [leave, D.und]
@[simp] theorem leave_non : leave .drop M.length .non M = .ok .non M := by simp [leave, D.und]
@[simp] theorem leave_str {s : Str} : leave .drop M.length (.str s) M = .ok (.str s) M := by simp [leave, D.und]
theorem leave_und {m : Nat} (h : d.und m = true) (hm : m = M.length) : leave .drop m d M = .ok d M := by subst hm; simp [leave, h]
/-! operations -/
@[simp] theorem truR_bl {b : Bool} : truR (.bl b) M = .ok b M := rfl
@[simp] theorem optR_some {i : Int} : optR (some (.int i)) M = .ok (some i) M := rfl
@[simp] theorem optR_none : optR none M = .ok none M := rfl
@[simp] theorem walk_tup {l : List D} : walkV (.tup l) M = .ok (l, none) M := rfl
@[simp] theorem walk_lst {l : List D} : walkV (.lst l) M = .ok (l, none) M := rfl
@[simp] theorem walk_rol {l : List D} : walkV (.rol l) M = .ok (l, none) M := rfl
@[simp] theorem fresh_f {l : List D} : fresh false l M = .ok (.lst l) M := rfl
@[simp] theorem fresh_t {l : List D} : fresh true l M = .ok (.obj M.length) (M ++ [.lst l]) := rfl
@[simp] theorem newCell_ok {c : Cell} : newCell M c = .ok (.obj M.length) (M ++ [c]) := rfl
theorem atI_nat {α : Type} {l : List α} {n : Nat} : L2.atI l (n : Int) = l[n]? := by
  unfold L2.atI L2.ixN
  rw [if_pos (by omega)]
  by_cases h : n < l.length
  · rw [if_pos (by omega)]; simp
  · rw [if_neg (by omega)]; simp; omega
theorem idx_nat {l : List D} {n : Nat} {d : D} (h : l[n]? = some d) : idxD (.tup l) (.int n) M = .ok d M := by
  simp only [idxD, seqOf, atD]
  rw [atI_nat, h]
theorem idx_natL {l : List D} {n : Nat} {d : D} (h : l[n]? = some d) : idxD (.lst l) (.int n) M = .ok d M := by
  simp only [idxD, seqOf, atD]
  rw [atI_nat, h]
theorem idx_natR {l : List D} {n : Nat} {d : D} (h : l[n]? = some d) : idxD (.rol l) (.int n) M = .ok d M := by
  simp only [idxD, seqOf, atD]
  rw [atI_nat, h]
theorem idx_obj {l : List D} {j n : Nat} {d : D} (hj : M[j]? = some (.lst l)) (h : l[n]? = some d) : idxD (.obj j) (.int n) M = .ok d M := by
  simp only [idxD, seqOf, hj, atD]
  rw [atI_nat, h]
variable {a b c : D} {l r : List D}
@[simp] theorem idx_0 : idxD (.tup (a :: l)) (.int 0) M = .ok a M := idx_nat (n := 0) rfl
@[simp] theorem idx_1 : idxD (.tup (a :: b :: l)) (.int 1) M = .ok b M := idx_nat (n := 1) rfl
@[simp] theorem idx_2 : idxD (.tup (a :: b :: c :: l)) (.int 2) M = .ok c M := idx_nat (n := 2) rfl
theorem cutL_from {α : Type} {l : List α} {n : Nat} : cutL l (some (n : Int)) none = l.drop n := by
  unfold cutL
  rw [HT.sIx_nat, HT.sIx_none]
  by_cases h : n ≤ l.length
  · rw [Nat.min_eq_left h, ← List.length_drop, List.take_length]
  · rw [Nat.min_eq_right (by omega), List.drop_length, List.drop_of_length_le (by omega)]; simp
theorem cutL_to {α : Type} {l : List α} {n : Nat} : cutL l none (some (n : Int)) = l.take n := by
  unfold cutL
  rw [HT.sIx_nat, HT.sIx_none, List.drop_zero, Nat.sub_zero]
  by_cases h : n ≤ l.length
  · rw [Nat.min_eq_left h]
  · rw [Nat.min_eq_right (by omega), List.take_length, List.take_of_length_le (by omega)]
@[simp] theorem sli_1 : sliD (.tup l) (some 1) none M = .ok (.tup (l.drop 1)) M := by
  have := cutL_from (l := l) (n := 1)
  simp only [sliD]
  exact congrArg (fun z => Res.ok (D.tup z) M) this
theorem sli_from {n : Nat} : sliD (.tup l) (some (n : Int)) none M = .ok (.tup (l.drop n)) M := by
  simp only [sliD, cutL_from]
theorem sli_to {n : Nat} : sliD (.tup l) none (some (n : Int)) M = .ok (.tup (l.take n)) M := by
  simp only [sliD, cutL_to]
@[simp] theorem sli_1L : sliD (.lst l) (some 1) none M = .ok (.lst (l.drop 1)) M := by
  have := cutL_from (l := l) (n := 1)
  simp only [sliD, lrOf]
  exact congrArg (fun z => Res.ok (D.lst z) M) this
@[simp] theorem rev_tup : revD (.tup l) M = .ok (.tup l.reverse) M := rfl
@[simp] theorem eqD_ss {x y : Str} : eqD (.str x) (.str y) = decide (x = y) := by simp only [eqD]
@[simp] theorem inD_nil {x : D} : inD x [] = false := rfl
@[simp] theorem inD_cons {x y : D} {l : List D} : inD x (y :: l) = (eqD y x || inD x l) := rfl
theorem cmp_in {x : D} {l : List D} (h : x.flat = true) (k : l.all D.flat = true) : cmpD .In x (.tup l) M = .ok (.bl (inD x l)) M := by
  simp only [cmpD, cmpIn, seqOf, h, k, Bool.and_self, if_true, Bool.false_bne]
theorem cmp_notIn {x : D} {l : List D} (h : x.flat = true) (k : l.all D.flat = true) : cmpD .NotIn x (.tup l) M = .ok (.bl (!inD x l)) M := by
  simp only [cmpD, cmpIn, seqOf, h, k, Bool.and_self, if_true, Bool.true_bne]
def isIn (x : Str) : List Str → Bool
  | [] => false
  | y :: r => decide (y = x) || isIn x r
theorem inD_strs {x : Str} : ∀ {l : List Str}, inD (.str x) (l.map D.str) = isIn x l
  | [] => rfl
  | y :: r => by rw [List.map_cons, inD_cons, eqD_ss, inD_strs]; rfl
theorem flat_strs : ∀ {l : List Str}, (l.map D.str).all D.flat = true
  | [] => rfl
  | y :: r => by rw [List.map_cons, List.all_cons, flat_strs]; rfl
theorem cmp_inS {x : Str} {l : List Str} : cmpD .In (.str x) (.tup (l.map D.str)) M = .ok (.bl (isIn x l)) M := by rw [cmp_in rfl flat_strs, inD_strs]
theorem cmp_notInS {x : Str} {l : List Str} : cmpD .NotIn (.str x) (.tup (l.map D.str)) M = .ok (.bl (!isIn x l)) M := by rw [cmp_notIn rfl flat_strs, inD_strs]
section
variable {x p q r s : Str}
@[simp] theorem in_1 : cmpD .In (.str x) (.tup [.str p]) M = .ok (.bl (isIn x [p])) M := cmp_inS (l := [p])
@[simp] theorem in_2 : cmpD .In (.str x) (.tup [.str p, .str q]) M = .ok (.bl (isIn x [p, q])) M := cmp_inS (l := [p, q])
@[simp] theorem in_3 : cmpD .In (.str x) (.tup [.str p, .str q, .str r]) M = .ok (.bl (isIn x [p, q, r])) M := cmp_inS (l := [p, q, r])
@[simp] theorem in_4 : cmpD .In (.str x) (.tup [.str p, .str q, .str r, .str s]) M = .ok (.bl (isIn x [p, q, r, s])) M := cmp_inS (l := [p, q, r, s])
@[simp] theorem notIn_1 : cmpD .NotIn (.str x) (.tup [.str p]) M = .ok (.bl (!isIn x [p])) M := cmp_notInS (l := [p])
@[simp] theorem notIn_2 : cmpD .NotIn (.str x) (.tup [.str p, .str q]) M = .ok (.bl (!isIn x [p, q])) M := cmp_notInS (l := [p, q])
@[simp] theorem notIn_3 : cmpD .NotIn (.str x) (.tup [.str p, .str q, .str r]) M = .ok (.bl (!isIn x [p, q, r])) M := cmp_notInS (l := [p, q, r])
@[simp] theorem notIn_4 : cmpD .NotIn (.str x) (.tup [.str p, .str q, .str r, .str s]) M = .ok (.bl (!isIn x [p, q, r, s])) M := cmp_notInS (l := [p, q, r, s])
end
theorem cmp_ss {x y : Str} (h : PyData.strOk x = true) (k : PyData.strOk y = true) : cmpD .Eq (.str x) (.str y) M = .ok (.bl (decide (x = y))) M := by
  simp only [cmpD, emptyT, cmpEq, eqOk, D.top, D.sh, D.pl, h, k, Bool.and_self, Bool.or_self, if_true, eqD_ss, Bool.false_bne]
theorem cmp_ne {x y : Str} (h : PyData.strOk x = true) (k : PyData.strOk y = true) : cmpD .NotEq (.str x) (.str y) M = .ok (.bl (!decide (x = y))) M := by
  simp only [cmpD, cmpEq, eqOk, D.top, D.sh, D.pl, h, k, Bool.and_self, Bool.or_self, if_true, eqD_ss, Bool.true_bne]
@[simp] theorem cmp_ii {i j : Int} : cmpD .Eq (.int i) (.int j) M = .ok (.bl (decide (i = j))) M := by
  simp only [cmpD, emptyT, cmpEq, eqOk, D.top, D.sh, D.pl, Bool.and_self, Bool.or_self, if_true, eqD, Bool.false_bne]
@[simp] theorem cmp_nii {i j : Int} : cmpD .NotEq (.int i) (.int j) M = .ok (.bl (!decide (i = j))) M := by
  simp only [cmpD, cmpEq, eqOk, D.top, D.sh, D.pl, Bool.and_self, Bool.or_self, if_true, eqD, Bool.true_bne]
@[simp] theorem cmp_lt {i j : Int} : cmpD .Lt (.int i) (.int j) M = .ok (.bl (decide (i < j))) M := rfl
@[simp] theorem cmp_le {i j : Int} : cmpD .LtE (.int i) (.int j) M = .ok (.bl (decide (i ≤ j))) M := rfl
@[simp] theorem cmp_gt {i j : Int} : cmpD .Gt (.int i) (.int j) M = .ok (.bl (decide (j < i))) M := rfl
@[simp] theorem cmp_ge {i j : Int} : cmpD .GtE (.int i) (.int j) M = .ok (.bl (decide (j ≤ i))) M := rfl
@[simp] theorem cmp_empty {l : List D} : cmpD .Eq (.tup l) (.tup []) M = .ok (.bl l.isEmpty) M := by simp only [cmpD, emptyT]
@[simp] theorem add_ii {i j : Int} : binD .Add (.int i) (.int j) M = .ok (.int (i + j)) M := by simp only [binD]
@[simp] theorem sub_ii {i j : Int} : binD .Sub (.int i) (.int j) M = .ok (.int (i - j)) M := by simp only [binD]
theorem mod_ii {i j : Int} (h : 0 < j) : binD .Mod (.int i) (.int j) M = .ok (.int (i % j)) M := by simp only [binD, h, if_true]
theorem div_ii {i j : Int} (h : 0 < j) (k : j < 1073741824) : binD .FloorDiv (.int i) (.int j) M = .ok (.int (i / j)) M := by simp only [binD, h, k, and_self, if_true]
theorem mul_ii {i j : Int} (h : (i64 i || i64 j) = true) : binD .Mult (.int i) (.int j) M = .ok (.int (i * j)) M := by simp only [binD, h, if_true]
theorem add_tt (h : l.length + r.length ≤ LIM) : binD .Add (.tup l) (.tup r) M = .ok (.tup (l ++ r)) M := by simp only [binD, h, if_true]
theorem add_ll (h : l.length + r.length ≤ LIM) : binD .Add (.lst l) (.lst r) M = .ok (.lst (l ++ r)) M := by simp only [binD, lstOf, h, if_true]
@[simp] theorem usub_i {i : Int} : unaD .USub (.int i) M = .ok (.int (-i)) M := rfl
variable {call : D → List D → Mem → Res D}
@[simp] theorem len_tup : bltD call .len [.tup l] M = .ok (.int l.length) M := rfl
@[simp] theorem len_lst : bltD call .len [.lst l] M = .ok (.int l.length) M := rfl
@[simp] theorem len_rol : bltD call .len [.rol l] M = .ok (.int l.length) M := rfl
theorem isi_of {x : D} {t : String} {b : Bool} (h : isiD M x (.ty t) = some b) : bltD call .isi [x, .ty t] M = .ok (.bl b) M := by simp only [bltD, h]
theorem bls_map (bs : List Bool) : bls (bs.map D.bl) = some bs := by
  induction bs with
  | nil => rfl
  | cons b r ih => simp only [List.map_cons, bls, ih, Option.map_some]
theorem all_of {bs : List Bool} : bltD call .all [.lst (bs.map D.bl)] M = .ok (.bl (bs.all id)) M := by
  simp only [bltD, lstOf, Option.bind_some, bls_map]
@[simp] theorem all_0 : bltD call .all [.lst []] M = .ok (.bl true) M := rfl
@[simp] theorem all_1 {p : Bool} : bltD call .all [.lst [.bl p]] M = .ok (.bl p) M := by simpa using all_of (bs := [p]) (call := call) (M := M)
@[simp] theorem all_2 {p q : Bool} : bltD call .all [.lst [.bl p, .bl q]] M = .ok (.bl (p && q)) M := by simpa using all_of (bs := [p, q]) (call := call) (M := M)
@[simp] theorem all_3 {p q s : Bool} : bltD call .all [.lst [.bl p, .bl q, .bl s]] M = .ok (.bl (p && (q && s))) M := by simpa using all_of (bs := [p, q, s]) (call := call) (M := M)
@[simp] theorem int_i {i : Int} : bltD call .int [.int i] M = .ok (.int i) M := rfl
@[simp] theorem abs_i {i : Int} : bltD call .abs [.int i] M = .ok (.int (if i < 0 then -i else i)) M := rfl
/-! walks over lists that are written out -/
variable {ft : D → St' → Mem → Res St'} {fp : St' → Mem → Res Bool} {fe : St' → Mem → Res D} {all acc : List D}
@[simp] theorem compL_nil : compL none all ft fp fe σ [] acc M = .ok acc M := by simp only [compL, chkW_none, if_true]
theorem compL_cons {x : D} {xs : List D} : compL none all ft fp fe σ (x :: xs) acc M = (ft x σ M).bind fun σ1 M => (fp σ1 M).bind fun b M => match b with
    | true => (fe σ1 M).bind fun y M => if acc.length < LIM then compL none all ft fp fe σ xs (acc ++ [y]) M else .bad
    | false => compL none all ft fp fe σ xs acc M := by simp only [compL, chkW_none, if_true] <;> rfl
/-- each item gives a value, the memory as it was -/
theorem compL_map {φ : D → D} {xs : List D} : ∀ {acc : List D}, (∀ x ∈ xs, ∃ σ', ft x σ M = .ok σ' M ∧ fp σ' M = .ok true M ∧ fe σ' M = .ok (φ x) M) → acc.length + xs.length ≤ LIM → compL none all ft fp fe σ xs acc M = .ok (acc ++ xs.map φ) M := by
  induction xs with
  | nil => intro acc _ _; simp
  | cons x xs ih =>
    intro acc h hl
    obtain ⟨σ', h1, h2, h3⟩ := h x List.mem_cons_self
    rw [compL_cons, h1]
    simp only [Res.bind_ok, h2, h3]
    simp only [List.length_cons] at hl
    rw [if_pos (by omega), ih (fun y hy => h y (List.mem_cons_of_mem _ hy)) (by simp; omega)]
    simp
theorem run_step {P : Prg} {n : Nat} {x : Str} {f : FnD} {as : List D} {M : Mem} (h : P.fns.lookup x = some f) (hl : as.length = f.ps.length) : run P (n + 1) (.fn x) as M = finish f.mode M.length (exs (P.en (run P n)) f.body (start' f.N as) M) := by
  simp only [run, h, hl, if_true]
end
end Ev

set_option Elab.async false
set_option linter.all false
set_option maxRecDepth 100000
set_option maxHeartbeats 0
/-! the core texts of k02 (printed by gen.py) -/
namespace Cw
open PySem PySem.Spec PyProof.Rows L2 Ev
def t_is_kinded : Ev.FnD := ⟨["value", "deep"], [(.int 100)], ["value", "deep", "each"],
  (.cons (.if_ (.or_ (.cmp .Eq (.var 1) (.k (.int 0))) (.or_ (.not_ (.blt .isi (.cons (.var 0) (.cons (.k (.ty "tuple")) .nil)))) (.or_ (.cmp .Eq (.var 0) (.tup .nil)) (.not_ (.blt .isi (.cons (.idx (.var 0) (.k (.int 0))) (.cons (.k (.ty "str")) .nil)))))))
  (.cons (.ret (.k (.bl false)))
  .nil)
  .nil)
  (.cons (.if_ (.or_ (.cmp .NotEq (.blt .len (.cons (.var 0) .nil)) (.met .get (.glo "KIND_SIZES") (.cons (.idx (.var 0) (.k (.int 0))) (.cons (.k (.int 0)) .nil)))) (.not_ (.blt .all (.cons (.comp false [("each", 2)] (.var 2) (.val (.sli (.var 0) (.some (.k (.int 1))) .none)) .none (.call "is_kinded" (.cons (.var 2) (.cons (.bin .Sub (.var 1) (.k (.int 1))) .nil)) .nil [.inl 0, .inl 1])) .nil))))
  (.cons (.ret (.k (.bl false)))
  .nil)
  .nil)
  (.cons (.ret (.or_ (.cmp .NotEq (.idx (.var 0) (.k (.int 0))) (.k (.str "bag"))) (.call "is_plain" (.cons (.idx (.var 0) (.k (.int 1))) .nil) .nil [.inl 0])))
  .nil))), .drop⟩
def t_is_plain : Ev.FnD := ⟨["kind"], [], ["kind", "each"],
  (.cons (.ret (.and_ (.cmp .NotIn (.idx (.var 0) (.k (.int 0))) (.tup (.cons (.k (.str "bag")) (.cons (.k (.str "fun")) .nil)))) (.blt .all (.cons (.comp false [("each", 1)] (.var 1) (.val (.sli (.var 0) (.some (.k (.int 1))) .none)) .none (.call "is_plain" (.cons (.var 1) .nil) .nil [.inl 0])) .nil))))
  .nil), .drop⟩
def t_is_data : Ev.FnD := ⟨["kind"], [], ["kind", "each"],
  (.cons (.ret (.and_ (.cmp .NotEq (.idx (.var 0) (.k (.int 0))) (.k (.str "fun"))) (.blt .all (.cons (.comp false [("each", 1)] (.var 1) (.val (.sli (.var 0) (.some (.k (.int 1))) .none)) .none (.call "is_data" (.cons (.var 1) .nil) .nil [.inl 0])) .nil))))
  .nil), .drop⟩
def t_is_group : Ev.FnD := ⟨["kind"], [], ["kind", "each"],
  (.cons (.ret (.or_ (.cmp .In (.idx (.var 0) (.k (.int 0))) (.tup (.cons (.k (.str "num")) (.cons (.k (.str "bag")) .nil)))) (.and_ (.cmp .Eq (.idx (.var 0) (.k (.int 0))) (.k (.str "pair"))) (.blt .all (.cons (.comp false [("each", 1)] (.var 1) (.val (.sli (.var 0) (.some (.k (.int 1))) .none)) .none (.call "is_group" (.cons (.var 1) .nil) .nil [.inl 0])) .nil)))))
  .nil), .drop⟩
def t_kind_depth : Ev.FnD := ⟨["kind"], [], ["kind", "each"],
  (.cons (.ret (.bin .Add (.k (.int 1)) (.blt .max (.cons (.bin .Add (.lst false (.cons (.k (.int 0)) .nil)) (.comp false [("each", 1)] (.var 1) (.val (.sli (.var 0) (.some (.k (.int 1))) .none)) .none (.call "kind_depth" (.cons (.var 1) .nil) .nil [.inl 0]))) .nil))))
  .nil), .drop⟩
def t_check_kind : Ev.FnD := ⟨["value"], [], ["value"],
  (.cons (.if_ (.not_ (.call "is_kinded" (.cons (.var 0) .nil) .nil [.inl 0, .inr 0]))
  (.cons .never
  .nil)
  .nil)
  .nil), .drop⟩
def t_is_kind : Ev.FnD := ⟨["value"], [], ["value"],
  (.cons (.ret (.call "is_kinded" (.cons (.var 0) .nil) .nil [.inl 0, .inr 0]))
  .nil), .drop⟩
def t_is_plain_kind : Ev.FnD := ⟨["value"], [], ["value"],
  (.cons (.ret (.and_ (.call "is_kinded" (.cons (.var 0) .nil) .nil [.inl 0, .inr 0]) (.call "is_plain" (.cons (.var 0) .nil) .nil [.inl 0])))
  .nil), .drop⟩
def t_is_data_kind : Ev.FnD := ⟨["value"], [], ["value"],
  (.cons (.ret (.and_ (.call "is_kinded" (.cons (.var 0) .nil) .nil [.inl 0, .inr 0]) (.call "is_data" (.cons (.var 0) .nil) .nil [.inl 0])))
  .nil), .drop⟩
def t_is_group_kind : Ev.FnD := ⟨["value"], [], ["value"],
  (.cons (.ret (.and_ (.call "is_kinded" (.cons (.var 0) .nil) .nil [.inl 0, .inr 0]) (.call "is_group" (.cons (.var 0) .nil) .nil [.inl 0])))
  .nil), .drop⟩
def t_depth_of_kind : Ev.FnD := ⟨["kind"], [], ["kind"],
  (.cons (.ex (.call "check_kind" (.cons (.var 0) .nil) .nil [.inl 0]))
  (.cons (.ret (.call "kind_depth" (.cons (.var 0) .nil) .nil [.inl 0]))
  .nil)), .drop⟩
def t__law_well : Ev.FnD := ⟨["_law_script", "_law_turn"], [], ["_law_script", "_law_turn", "_law_mixed", "_law_cell", "_law_own"],
  (.cons (.asg (.var 2) (.bin .Add (.k (.int 612049)) (.bin .Mult (.k (.int 8219)) (.var 1))))
  (.cons (.for_ (.var 3) (.val (.sli (.var 0) .none (.some (.k (.int 9)))))
  (.cons (.asg (.var 2) (.bin .Mod (.blt .int (.cons (.bin .Add (.bin .Add (.bin .Mult (.var 2) (.k (.int 50707))) (.bin .Mod (.blt .int (.cons (.var 3) .nil)) (.k (.int 2147483587)))) (.k (.int 9))) .nil)) (.k (.int 2147483563))))
  .nil))
  (.cons (.asg (.var 4) (.ite (.cmp .Lt (.var 1) (.blt .len (.cons (.var 0) .nil))) (.blt .int (.cons (.idx (.var 0) (.var 1)) .nil)) (.k (.int 0))))
  (.cons (.asg (.var 2) (.bin .Mod (.blt .int (.cons (.bin .Add (.bin .Add (.bin .Mult (.var 2) (.k (.int 41))) (.bin .Mult (.bin .Mod (.blt .int (.cons (.var 4) .nil)) (.k (.int 2147483587))) (.k (.int 20047)))) (.k (.int 7))) .nil)) (.k (.int 2147483563))))
  (.cons (.ret (.lst true (.cons (.ite (.or_ (.cmp .Lt (.var 4) (.k (.int 0))) (.cmp .GtE (.var 4) (.bin .Pow (.k (.int 10)) (.k (.int 14))))) (.blt .abs (.cons (.var 4) .nil)) (.k (.int 0))) (.cons (.var 2) (.cons (.k (.int 0)) (.cons (.k (.int 2)) .nil))))))
  .nil))))), .keep⟩
def t__law_draw : Ev.FnD := ⟨["_law_well_here", "_law_many"], [], ["_law_well_here", "_law_many", "_law_seed", "_law_figure"],
  (.cons (.if_ (.cmp .Gt (.idx (.var 0) (.k (.int 0))) (.k (.int 0)))
  (.cons (.asg (.tup (.cons (.sub (.var 0) (.k (.int 0))) (.cons (.var 3) .nil))) (.blt .divmod (.cons (.idx (.var 0) (.k (.int 0))) (.cons (.var 1) .nil))))
  (.cons (.ret (.var 3))
  .nil))
  .nil)
  (.cons (.asg (.sub (.var 0) (.k (.int 2))) (.bin .Add (.idx (.var 0) (.k (.int 2))) (.k (.int 1))))
  (.cons (.asg (.var 2) (.bin .Mod (.blt .int (.cons (.bin .Add (.idx (.var 0) (.k (.int 1))) (.bin .Mult (.k (.int 60017)) (.idx (.var 0) (.k (.int 2))))) .nil)) (.k (.int 2147483563))))
  (.cons (.asg (.sub (.var 0) (.k (.int 1))) (.bin .Mod (.blt .int (.cons (.bin .Add (.bin .Mult (.var 2) (.bin .Add (.bin .Mod (.blt .int (.cons (.var 2) .nil)) (.k (.int 5003))) (.k (.int 40013)))) (.bin .Mult (.k (.int 37)) (.idx (.var 0) (.k (.int 2))))) .nil)) (.k (.int 2147483563))))
  (.cons (.ret (.bin .Mod (.blt .int (.cons (.bin .FloorDiv (.idx (.var 0) (.k (.int 1))) (.k (.int 647))) .nil)) (.var 1)))
  .nil))))), .drop⟩
def t__law_pick : Ev.FnD := ⟨["_law_well_here", "_law_some"], [], ["_law_well_here", "_law_some"],
  (.cons (.ret (.idx (.var 1) (.call "_law_draw" (.cons (.var 0) (.cons (.blt .len (.cons (.var 1) .nil)) .nil)) .nil [.inl 0, .inl 1])))
  .nil), .drop⟩
def t__law_same : Ev.FnD := ⟨["_law_told_here", "_law_due_here"], [], ["_law_told_here", "_law_due_here"],
  (.cons (.ret (.cmp .Eq (.blt .repr (.cons (.var 0) .nil)) (.blt .repr (.cons (.var 1) .nil))))
  .nil), .drop⟩
def t__law_odd : Ev.FnD := ⟨["_law_well_here"], [], ["_law_well_here", "_law_some", "_law_more", "_law_ends"],
  (.cons (.asg (.var 1) (.tup (.cons (.k (.non)) (.cons (.k (.bl true)) (.cons (.k (.bl false)) (.cons (.k (.int 0)) (.cons (.k (.int 1)) (.cons (.una .USub (.k (.int 1))) (.cons (.k (.int 7)) (.cons (.bin .Pow (.k (.int 10)) (.k (.int 30))) (.cons (.k (.str "")) (.cons (.k (.str "num")) (.cons (.k (.str "x")) (.cons (.k (.str "let")) (.cons (.k (.str "unit")) (.cons (.tup .nil) (.cons (.tup (.cons (.k (.int 0)) .nil)) (.cons (.tup (.cons (.k (.str "num")) .nil)) (.cons (.tup (.cons (.k (.str "unit")) (.cons (.k (.int 1)) .nil))) .nil)))))))))))))))))))
  (.cons (.asg (.var 2) (.tup (.cons (.tup (.cons (.k (.str "pair")) (.cons (.tup (.cons (.k (.str "num")) .nil)) .nil))) (.cons (.tup (.cons (.k (.str "bag")) .nil)) (.cons (.tup (.cons (.k (.str "bag")) (.cons (.tup (.cons (.k (.str "bag")) (.cons (.tup (.cons (.k (.str "num")) .nil)) .nil))) .nil))) (.cons (.tup (.cons (.k (.str "name")) (.cons (.k (.str "x")) .nil))) (.cons (.tup (.cons (.k (.str "name")) (.cons (.k (.str "let")) .nil))) (.cons (.tup (.cons (.k (.str "number")) (.cons (.k (.bl true)) .nil))) .nil))))))))
  (.cons (.asg (.var 3) (.tup (.cons (.tup (.cons (.k (.str "fun")) (.cons (.tup (.cons (.k (.str "num")) .nil)) (.cons (.tup (.cons (.k (.str "num")) .nil)) .nil)))) (.cons (.lst false .nil) (.cons (.lst false (.cons (.k (.int 1)) .nil)) (.cons (.dnew false) (.cons (.k (.str "1x")) (.cons (.tup (.cons (.k (.str "left")) (.cons (.k (.int 1)) .nil))) (.cons (.tup (.cons (.tup (.cons (.k (.str "num")) .nil)) (.cons (.k (.int 2)) .nil))) (.cons (.k (.str "x'")) (.cons (.tup (.cons (.k (.str "name")) (.cons (.k (.str "x'")) .nil))) .nil)))))))))))
  (.cons (.ret (.call "_law_pick" (.cons (.var 0) (.cons (.bin .Add (.bin .Add (.var 1) (.var 2)) (.var 3)) .nil)) .nil [.inl 0, .inl 1]))
  .nil)))), .drop⟩
def t__law_plain : Ev.FnD := ⟨["_law_well_here", "_law_deep"], [], ["_law_well_here", "_law_deep", "_law_branch", "_law_one"],
  (.cons (.asg (.var 2) (.ite (.cmp .Gt (.var 1) (.k (.int 1))) (.call "_law_draw" (.cons (.var 0) (.cons (.k (.int 7)) .nil)) .nil [.inl 0, .inl 1]) (.call "_law_draw" (.cons (.var 0) (.cons (.k (.int 4)) .nil)) .nil [.inl 0, .inl 1])))
  (.cons (.if_ (.cmp .Lt (.var 2) (.k (.int 4)))
  (.cons (.ret (.ite (.cmp .Eq (.var 2) (.k (.int 3))) (.tup (.cons (.k (.str "unit")) .nil)) (.tup (.cons (.k (.str "num")) .nil))))
  .nil)
  .nil)
  (.cons (.asg (.var 3) (.call "_law_plain" (.cons (.var 0) (.cons (.bin .Sub (.var 1) (.k (.int 1))) .nil)) .nil [.inl 0, .inl 1]))
  (.cons (.ret (.tup (.cons (.ite (.cmp .Lt (.var 2) (.k (.int 6))) (.k (.str "pair")) (.k (.str "either"))) (.cons (.var 3) (.cons (.call "_law_plain" (.cons (.var 0) (.cons (.bin .Sub (.var 1) (.k (.int 1))) .nil)) .nil [.inl 0, .inl 1]) .nil)))))
  .nil)))), .drop⟩
def t__law_group : Ev.FnD := ⟨["_law_well_here", "_law_deep"], [], ["_law_well_here", "_law_deep", "_law_branch", "_law_one"],
  (.cons (.asg (.var 2) (.ite (.cmp .Gt (.var 1) (.k (.int 1))) (.call "_law_draw" (.cons (.var 0) (.cons (.k (.int 6)) .nil)) .nil [.inl 0, .inl 1]) (.k (.int 0))))
  (.cons (.if_ (.cmp .Lt (.var 2) (.k (.int 2)))
  (.cons (.ret (.tup (.cons (.k (.str "num")) .nil)))
  .nil)
  .nil)
  (.cons (.if_ (.cmp .Lt (.var 2) (.k (.int 4)))
  (.cons (.ret (.tup (.cons (.k (.str "bag")) (.cons (.call "_law_plain" (.cons (.var 0) (.cons (.bin .Sub (.var 1) (.k (.int 1))) .nil)) .nil [.inl 0, .inl 1]) .nil))))
  .nil)
  .nil)
  (.cons (.asg (.var 3) (.call "_law_group" (.cons (.var 0) (.cons (.bin .Sub (.var 1) (.k (.int 1))) .nil)) .nil [.inl 0, .inl 1]))
  (.cons (.ret (.tup (.cons (.k (.str "pair")) (.cons (.var 3) (.cons (.call "_law_group" (.cons (.var 0) (.cons (.bin .Sub (.var 1) (.k (.int 1))) .nil)) .nil [.inl 0, .inl 1]) .nil)))))
  .nil))))), .drop⟩
def t__law_data : Ev.FnD := ⟨["_law_well_here", "_law_deep"], [], ["_law_well_here", "_law_deep", "_law_branch", "_law_one"],
  (.cons (.asg (.var 2) (.ite (.cmp .Gt (.var 1) (.k (.int 1))) (.call "_law_draw" (.cons (.var 0) (.cons (.k (.int 8)) .nil)) .nil [.inl 0, .inl 1]) (.call "_law_draw" (.cons (.var 0) (.cons (.k (.int 4)) .nil)) .nil [.inl 0, .inl 1])))
  (.cons (.if_ (.cmp .Lt (.var 2) (.k (.int 4)))
  (.cons (.ret (.ite (.cmp .Eq (.var 2) (.k (.int 3))) (.tup (.cons (.k (.str "unit")) .nil)) (.tup (.cons (.k (.str "num")) .nil))))
  .nil)
  .nil)
  (.cons (.if_ (.cmp .Lt (.var 2) (.k (.int 6)))
  (.cons (.ret (.tup (.cons (.k (.str "bag")) (.cons (.call "_law_plain" (.cons (.var 0) (.cons (.bin .Sub (.var 1) (.k (.int 1))) .nil)) .nil [.inl 0, .inl 1]) .nil))))
  .nil)
  .nil)
  (.cons (.asg (.var 3) (.call "_law_data" (.cons (.var 0) (.cons (.bin .Sub (.var 1) (.k (.int 1))) .nil)) .nil [.inl 0, .inl 1]))
  (.cons (.ret (.tup (.cons (.ite (.cmp .Eq (.var 2) (.k (.int 6))) (.k (.str "pair")) (.k (.str "either"))) (.cons (.var 3) (.cons (.call "_law_data" (.cons (.var 0) (.cons (.bin .Sub (.var 1) (.k (.int 1))) .nil)) .nil [.inl 0, .inl 1]) .nil)))))
  .nil))))), .drop⟩
def t__law_kind : Ev.FnD := ⟨["_law_well_here", "_law_deep"], [], ["_law_well_here", "_law_deep", "_law_one"],
  (.cons (.if_ (.and_ (.cmp .Gt (.var 1) (.k (.int 1))) (.cmp .Eq (.call "_law_draw" (.cons (.var 0) (.cons (.k (.int 3)) .nil)) .nil [.inl 0, .inl 1]) (.k (.int 0))))
  (.cons (.asg (.var 2) (.call "_law_kind" (.cons (.var 0) (.cons (.bin .Sub (.var 1) (.k (.int 1))) .nil)) .nil [.inl 0, .inl 1]))
  (.cons (.ret (.tup (.cons (.call "_law_pick" (.cons (.var 0) (.cons (.tup (.cons (.k (.str "fun")) (.cons (.k (.str "fun")) (.cons (.k (.str "pair")) (.cons (.k (.str "either")) .nil))))) .nil)) .nil [.inl 0, .inl 1]) (.cons (.var 2) (.cons (.call "_law_kind" (.cons (.var 0) (.cons (.bin .Sub (.var 1) (.k (.int 1))) .nil)) .nil [.inl 0, .inl 1]) .nil)))))
  .nil))
  .nil)
  (.cons (.ret (.call "_law_data" (.cons (.var 0) (.cons (.var 1) .nil)) .nil [.inl 0, .inl 1]))
  .nil)), .drop⟩
def t__law_is_whole : Ev.FnD := ⟨["_law_thing"], [], ["_law_thing"],
  (.cons (.ret (.and_ (.blt .isi (.cons (.var 0) (.cons (.k (.ty "int")) .nil))) (.not_ (.blt .isi (.cons (.var 0) (.cons (.k (.ty "bool")) .nil))))))
  .nil), .drop⟩
def t__law_is_headed : Ev.FnD := ⟨["_law_thing", "_law_many"], [], ["_law_thing", "_law_many"],
  (.cons (.ret (.and_ (.blt .isi (.cons (.var 0) (.cons (.k (.ty "tuple")) .nil))) (.and_ (.cmp .Eq (.blt .len (.cons (.var 0) .nil)) (.var 1)) (.blt .isi (.cons (.idx (.var 0) (.k (.int 0))) (.cons (.k (.ty "str")) .nil))))))
  .nil), .drop⟩
def t__law_is_plain : Ev.FnD := ⟨["_law_thing"], [], ["_law_thing"],
  (.cons (.if_ (.call "_law_is_headed" (.cons (.var 0) (.cons (.k (.int 1)) .nil)) .nil [.inl 0, .inl 1])
  (.cons (.ret (.cmp .In (.idx (.var 0) (.k (.int 0))) (.tup (.cons (.k (.str "unit")) (.cons (.k (.str "num")) .nil)))))
  .nil)
  .nil)
  (.cons (.if_ (.or_ (.not_ (.call "_law_is_headed" (.cons (.var 0) (.cons (.k (.int 3)) .nil)) .nil [.inl 0, .inl 1])) (.cmp .NotIn (.idx (.var 0) (.k (.int 0))) (.tup (.cons (.k (.str "pair")) (.cons (.k (.str "either")) .nil)))))
  (.cons (.ret (.k (.bl false)))
  .nil)
  .nil)
  (.cons (.ret (.and_ (.call "_law_is_plain" (.cons (.idx (.var 0) (.k (.int 1))) .nil) .nil [.inl 0]) (.call "_law_is_plain" (.cons (.idx (.var 0) (.k (.int 2))) .nil) .nil [.inl 0])))
  .nil))), .drop⟩
def t__law_is_kind : Ev.FnD := ⟨["_law_thing"], [], ["_law_thing"],
  (.cons (.if_ (.call "_law_is_headed" (.cons (.var 0) (.cons (.k (.int 1)) .nil)) .nil [.inl 0, .inl 1])
  (.cons (.ret (.cmp .In (.idx (.var 0) (.k (.int 0))) (.tup (.cons (.k (.str "unit")) (.cons (.k (.str "num")) .nil)))))
  .nil)
  .nil)
  (.cons (.if_ (.call "_law_is_headed" (.cons (.var 0) (.cons (.k (.int 2)) .nil)) .nil [.inl 0, .inl 1])
  (.cons (.ret (.and_ (.cmp .Eq (.idx (.var 0) (.k (.int 0))) (.k (.str "bag"))) (.call "_law_is_plain" (.cons (.idx (.var 0) (.k (.int 1))) .nil) .nil [.inl 0])))
  .nil)
  .nil)
  (.cons (.if_ (.or_ (.not_ (.call "_law_is_headed" (.cons (.var 0) (.cons (.k (.int 3)) .nil)) .nil [.inl 0, .inl 1])) (.cmp .NotIn (.idx (.var 0) (.k (.int 0))) (.tup (.cons (.k (.str "pair")) (.cons (.k (.str "either")) (.cons (.k (.str "fun")) .nil))))))
  (.cons (.ret (.k (.bl false)))
  .nil)
  .nil)
  (.cons (.ret (.and_ (.call "_law_is_kind" (.cons (.idx (.var 0) (.k (.int 1))) .nil) .nil [.inl 0]) (.call "_law_is_kind" (.cons (.idx (.var 0) (.k (.int 2))) .nil) .nil [.inl 0])))
  .nil)))), .drop⟩
def t__law_has_fun : Ev.FnD := ⟨["_law_kind_here"], [], ["_law_kind_here"],
  (.cons (.if_ (.cmp .Eq (.idx (.var 0) (.k (.int 0))) (.k (.str "fun")))
  (.cons (.ret (.k (.bl true)))
  .nil)
  .nil)
  (.cons (.ret (.and_ (.cmp .In (.idx (.var 0) (.k (.int 0))) (.tup (.cons (.k (.str "pair")) (.cons (.k (.str "either")) .nil)))) (.or_ (.call "_law_has_fun" (.cons (.idx (.var 0) (.k (.int 1))) .nil) .nil [.inl 0]) (.call "_law_has_fun" (.cons (.idx (.var 0) (.k (.int 2))) .nil) .nil [.inl 0]))))
  .nil)), .drop⟩
def t__law_is_data : Ev.FnD := ⟨["_law_thing"], [], ["_law_thing"],
  (.cons (.ret (.and_ (.call "_law_is_kind" (.cons (.var 0) .nil) .nil [.inl 0]) (.not_ (.call "_law_has_fun" (.cons (.var 0) .nil) .nil [.inl 0]))))
  .nil), .drop⟩
def t__law_is_group : Ev.FnD := ⟨["_law_thing"], [], ["_law_thing"],
  (.cons (.if_ (.not_ (.call "_law_is_kind" (.cons (.var 0) .nil) .nil [.inl 0]))
  (.cons (.ret (.k (.bl false)))
  .nil)
  .nil)
  (.cons (.if_ (.cmp .Eq (.idx (.var 0) (.k (.int 0))) (.k (.str "pair")))
  (.cons (.ret (.and_ (.call "_law_is_group" (.cons (.idx (.var 0) (.k (.int 1))) .nil) .nil [.inl 0]) (.call "_law_is_group" (.cons (.idx (.var 0) (.k (.int 2))) .nil) .nil [.inl 0])))
  .nil)
  .nil)
  (.cons (.ret (.cmp .In (.idx (.var 0) (.k (.int 0))) (.tup (.cons (.k (.str "num")) (.cons (.k (.str "bag")) .nil)))))
  .nil))), .drop⟩
def t__law_deep_kind : Ev.FnD := ⟨["_law_kind_here"], [], ["_law_kind_here", "_law_part"],
  (.cons (.if_ (.cmp .In (.idx (.var 0) (.k (.int 0))) (.tup (.cons (.k (.str "unit")) (.cons (.k (.str "num")) .nil))))
  (.cons (.ret (.k (.int 1)))
  .nil)
  .nil)
  (.cons (.ret (.bin .Add (.k (.int 1)) (.blt .max (.cons (.comp false [("_law_part", 1)] (.var 1) (.val (.sli (.var 0) (.some (.k (.int 1))) .none)) .none (.call "_law_deep_kind" (.cons (.var 1) .nil) .nil [.inl 0])) .nil))))
  .nil)), .drop⟩
def t__law_bent : Ev.FnD := ⟨["_law_well_here", "_law_thing"], [], ["_law_well_here", "_law_thing", "_law_way", "_law_at"],
  (.cons (.asg (.var 2) (.call "_law_draw" (.cons (.var 0) (.cons (.k (.int 8)) .nil)) .nil [.inl 0, .inl 1]))
  (.cons (.if_ (.and_ (.cmp .Lt (.var 2) (.k (.int 2))) (.call "_law_is_whole" (.cons (.var 1) .nil) .nil [.inl 0]))
  (.cons (.ret (.bin .Add (.var 1) (.ite (.cmp .Eq (.var 2) (.k (.int 0))) (.k (.int 1)) (.una .USub (.k (.int 1))))))
  .nil)
  .nil)
  (.cons (.if_ (.or_ (.cmp .Lt (.var 2) (.k (.int 3))) (.or_ (.not_ (.blt .isi (.cons (.var 1) (.cons (.k (.ty "tuple")) .nil)))) (.cmp .Eq (.var 1) (.tup .nil))))
  (.cons (.ret (.call "_law_odd" (.cons (.var 0) .nil) .nil [.inl 0]))
  .nil)
  .nil)
  (.cons (.asg (.var 3) (.call "_law_draw" (.cons (.var 0) (.cons (.blt .len (.cons (.var 1) .nil)) .nil)) .nil [.inl 0, .inl 1]))
  (.cons (.if_ (.cmp .Eq (.var 2) (.k (.int 3)))
  (.cons (.ret (.bin .Add (.sli (.var 1) .none (.some (.var 3))) (.sli (.var 1) (.some (.bin .Add (.var 3) (.k (.int 1)))) .none)))
  .nil)
  .nil)
  (.cons (.if_ (.cmp .Eq (.var 2) (.k (.int 4)))
  (.cons (.ret (.bin .Add (.bin .Add (.sli (.var 1) .none (.some (.var 3))) (.tup (.cons (.idx (.var 1) (.var 3)) .nil))) (.sli (.var 1) (.some (.var 3)) .none)))
  .nil)
  .nil)
  (.cons (.if_ (.cmp .Eq (.var 2) (.k (.int 5)))
  (.cons (.ret (.bin .Add (.var 1) (.tup (.cons (.call "_law_odd" (.cons (.var 0) .nil) .nil [.inl 0]) .nil))))
  .nil)
  .nil)
  (.cons (.ret (.ite (.cmp .Eq (.var 2) (.k (.int 6))) (.rev (.var 1)) (.blt .list (.cons (.var 1) .nil))))
  .nil)))))))), .drop⟩
def t__law_spoilt : Ev.FnD := ⟨["_law_well_here", "_law_thing"], [], ["_law_well_here", "_law_thing", "_law_path", "_law_here", "_law_turn", "_law_whole", "_law_at"],
  (.cons (.par [2, 3] (.cons (.lst true .nil) (.cons (.var 1) .nil)))
  (.cons (.for_ (.var 4) (.rng1 (.call "_law_draw" (.cons (.var 0) (.cons (.k (.int 6)) .nil)) .nil [.inl 0, .inl 1]))
  (.cons (.if_ (.or_ (.not_ (.blt .isi (.cons (.var 3) (.cons (.k (.ty "tuple")) .nil)))) (.cmp .Eq (.var 3) (.tup .nil)))
  (.cons .brk
  .nil)
  .nil)
  (.cons (.asg (.var 6) (.call "_law_draw" (.cons (.var 0) (.cons (.blt .len (.cons (.var 3) .nil)) .nil)) .nil [.inl 0, .inl 1]))
  (.cons (.ex (.met .append (.var 2) (.cons (.tup (.cons (.var 3) (.cons (.var 6) .nil))) .nil)))
  (.cons (.asg (.var 3) (.idx (.var 3) (.var 6)))
  .nil)))))
  (.cons (.asg (.var 3) (.call "_law_bent" (.cons (.var 0) (.cons (.var 3) .nil)) .nil [.inl 0, .inl 1]))
  (.cons (.for_ (.tup (.cons (.var 5) (.cons (.var 6) .nil))) (.val (.rev (.var 2)))
  (.cons (.asg (.var 3) (.bin .Add (.bin .Add (.sli (.var 5) .none (.some (.var 6))) (.tup (.cons (.var 3) .nil))) (.sli (.var 5) (.some (.bin .Add (.var 6) (.k (.int 1)))) .none)))
  .nil))
  (.cons (.ret (.var 3))
  .nil))))), .drop⟩
def t__law_tower : Ev.FnD := ⟨["_law_well_here"], [], ["_law_well_here", "_law_kind_here", "_law_words", "_law_turn", "_law_word", "_law_part"],
  (.cons (.par [1, 2] (.cons (.tup (.cons (.k (.str "num")) .nil)) (.cons (.call "_law_pick" (.cons (.var 0) (.cons (.tup (.cons (.tup (.cons (.k (.str "pair")) .nil)) (.cons (.tup (.cons (.k (.str "either")) (.cons (.k (.str "pair")) .nil))) (.cons (.tup (.cons (.k (.str "fun")) (.cons (.k (.str "pair")) (.cons (.k (.str "either")) .nil)))) .nil)))) .nil)) .nil [.inl 0, .inl 1]) .nil)))
  (.cons (.for_ (.var 3) (.rng1 (.call "_law_pick" (.cons (.var 0) (.cons (.tup (.cons (.k (.int 40)) (.cons (.k (.int 98)) (.cons (.k (.int 99)) (.cons (.k (.int 100)) (.cons (.k (.int 130)) .nil)))))) .nil)) .nil [.inl 0, .inl 1]))
  (.cons (.par [4, 5] (.cons (.idx (.var 2) (.bin .Mod (.var 3) (.blt .len (.cons (.var 2) .nil)))) (.cons (.idx (.tup (.cons (.tup (.cons (.k (.str "num")) .nil)) (.cons (.tup (.cons (.k (.str "unit")) .nil)) .nil))) (.bin .Mod (.var 3) (.k (.int 2)))) .nil)))
  (.cons (.asg (.var 1) (.ite (.cmp .Gt (.bin .Mod (.var 3) (.k (.int 3))) (.k (.int 0))) (.tup (.cons (.var 4) (.cons (.var 1) (.cons (.var 5) .nil)))) (.tup (.cons (.var 4) (.cons (.var 5) (.cons (.var 1) .nil))))))
  .nil)))
  (.cons (.ret (.var 1))
  .nil))), .drop⟩
def t__law_told : Ev.FnD := ⟨["_law_thing"], [], ["_law_thing"],
  (.cons (.ret (.lst false (.cons (.call "is_kind" (.cons (.var 0) .nil) .nil [.inl 0]) (.cons (.call "is_plain_kind" (.cons (.var 0) .nil) .nil [.inl 0]) (.cons (.call "is_data_kind" (.cons (.var 0) .nil) .nil [.inl 0]) (.cons (.call "is_group_kind" (.cons (.var 0) .nil) .nil [.inl 0]) .nil))))))
  .nil), .drop⟩
def t__law_due : Ev.FnD := ⟨["_law_thing"], [], ["_law_thing"],
  (.cons (.if_ (.or_ (.not_ (.call "_law_is_kind" (.cons (.var 0) .nil) .nil [.inl 0])) (.cmp .Gt (.call "_law_deep_kind" (.cons (.var 0) .nil) .nil [.inl 0]) (.k (.int 100))))
  (.cons (.ret (.bin .Mult (.lst false (.cons (.k (.bl false)) .nil)) (.k (.int 4))))
  .nil)
  .nil)
  (.cons (.ret (.lst false (.cons (.k (.bl true)) (.cons (.call "_law_is_plain" (.cons (.var 0) .nil) .nil [.inl 0]) (.cons (.call "_law_is_data" (.cons (.var 0) .nil) .nil [.inl 0]) (.cons (.call "_law_is_group" (.cons (.var 0) .nil) .nil [.inl 0]) .nil))))))
  .nil)), .drop⟩
def t__law_some_kind : Ev.FnD := ⟨["_law_well_here"], [], ["_law_well_here", "_law_way"],
  (.cons (.asg (.var 1) (.call "_law_draw" (.cons (.var 0) (.cons (.k (.int 5)) .nil)) .nil [.inl 0, .inl 1]))
  (.cons (.if_ (.cmp .Eq (.var 1) (.k (.int 0)))
  (.cons (.ret (.call "_law_plain" (.cons (.var 0) (.cons (.k (.int 5)) .nil)) .nil [.inl 0, .inl 1]))
  .nil)
  .nil)
  (.cons (.if_ (.cmp .Eq (.var 1) (.k (.int 1)))
  (.cons (.ret (.call "_law_group" (.cons (.var 0) (.cons (.k (.int 5)) .nil)) .nil [.inl 0, .inl 1]))
  .nil)
  .nil)
  (.cons (.ret (.ite (.cmp .Eq (.var 1) (.k (.int 2))) (.call "_law_data" (.cons (.var 0) (.cons (.k (.int 6)) .nil)) .nil [.inl 0, .inl 1]) (.call "_law_kind" (.cons (.var 0) (.cons (.k (.int 6)) .nil)) .nil [.inl 0, .inl 1])))
  .nil)))), .drop⟩
def t__law_right : Ev.FnD := ⟨["_law_well_here"], [], ["_law_well_here", "_law_turn", "_law_odd_here", "_law_tall", "_law_kind_here", "_law_lap", "_law_by_name", "_law_thing"],
  (.cons (.for_ (.var 1) (.rng1 (.k (.int 5)))
  (.cons (.asg (.var 4) (.call "_law_some_kind" (.cons (.var 0) .nil) .nil [.inl 0]))
  (.cons (.if_ (.or_ (.not_ (.call "_law_same" (.cons (.call "_law_told" (.cons (.var 4) .nil) .nil [.inl 0]) (.cons (.call "_law_due" (.cons (.var 4) .nil) .nil [.inl 0]) .nil)) .nil [.inl 0, .inl 1])) (.not_ (.call "_law_same" (.cons (.call "is_kind" .nil (.cons (.var 4) .nil) [.inl 0]) (.cons (.k (.bl true)) .nil)) .nil [.inl 0, .inl 1])))
  (.cons (.ret (.k (.bl false)))
  .nil)
  .nil)
  (.cons (.if_ (.not_ (.call "_law_same" (.cons (.lst false (.cons (.call "depth_of_kind" (.cons (.var 4) .nil) .nil [.inl 0]) (.cons (.call "depth_of_kind" .nil (.cons (.var 4) .nil) [.inl 0]) .nil))) (.cons (.bin .Mult (.lst false (.cons (.call "_law_deep_kind" (.cons (.var 4) .nil) .nil [.inl 0]) .nil)) (.k (.int 2))) .nil)) .nil [.inl 0, .inl 1]))
  (.cons (.ret (.k (.bl false)))
  .nil)
  .nil)
  (.cons (.for_ (.var 5) (.rng1 (.k (.int 3)))
  (.cons (.asg (.var 7) (.call "_law_spoilt" (.cons (.var 0) (.cons (.var 4) .nil)) .nil [.inl 0, .inl 1]))
  (.cons (.if_ (.not_ (.call "_law_same" (.cons (.call "_law_told" (.cons (.var 7) .nil) .nil [.inl 0]) (.cons (.call "_law_due" (.cons (.var 7) .nil) .nil [.inl 0]) .nil)) .nil [.inl 0, .inl 1]))
  (.cons (.ret (.k (.bl false)))
  .nil)
  .nil)
  .nil)))
  (.cons (.asg (.var 6) (.lst false (.cons (.call "is_plain_kind" .nil (.cons (.var 7) .nil) [.inl 0]) (.cons (.call "is_data_kind" .nil (.cons (.var 7) .nil) [.inl 0]) (.cons (.call "is_group_kind" .nil (.cons (.var 7) .nil) [.inl 0]) .nil)))))
  (.cons (.if_ (.not_ (.call "_law_same" (.cons (.var 6) (.cons (.sli (.call "_law_due" (.cons (.var 7) .nil) .nil [.inl 0]) (.some (.k (.int 1))) .none) .nil)) .nil [.inl 0, .inl 1]))
  (.cons (.ret (.k (.bl false)))
  .nil)
  .nil)
  .nil)))))))
  (.cons (.par [2, 3] (.cons (.call "_law_odd" (.cons (.var 0) .nil) .nil [.inl 0]) (.cons (.call "_law_tower" (.cons (.var 0) .nil) .nil [.inl 0]) .nil)))
  (.cons (.if_ (.or_ (.not_ (.call "_law_same" (.cons (.call "_law_told" (.cons (.var 2) .nil) .nil [.inl 0]) (.cons (.call "_law_due" (.cons (.var 2) .nil) .nil [.inl 0]) .nil)) .nil [.inl 0, .inl 1])) (.not_ (.call "_law_same" (.cons (.call "_law_told" (.cons (.var 3) .nil) .nil [.inl 0]) (.cons (.call "_law_due" (.cons (.var 3) .nil) .nil [.inl 0]) .nil)) .nil [.inl 0, .inl 1])))
  (.cons (.ret (.k (.bl false)))
  .nil)
  .nil)
  (.cons (.if_ (.and_ (.cmp .LtE (.call "_law_deep_kind" (.cons (.var 3) .nil) .nil [.inl 0]) (.k (.int 100))) (.not_ (.call "_law_same" (.cons (.call "depth_of_kind" (.cons (.var 3) .nil) .nil [.inl 0]) (.cons (.call "_law_deep_kind" (.cons (.var 3) .nil) .nil [.inl 0]) .nil)) .nil [.inl 0, .inl 1])))
  (.cons (.ret (.k (.bl false)))
  .nil)
  .nil)
  (.cons (.ret (.call "_law_same" (.cons (.glo "TRUTH") (.cons (.tup (.cons (.k (.str "either")) (.cons (.tup (.cons (.k (.str "unit")) .nil)) (.cons (.tup (.cons (.k (.str "unit")) .nil)) .nil)))) .nil)) .nil [.inl 0, .inl 1]))
  .nil))))), .drop⟩
def t_law : Ev.FnD := ⟨["_law_script"], [], ["_law_script", "_law_turn"],
  (.cons (.ret (.blt .all (.cons (.comp false [("_law_turn", 1)] (.var 1) (.rng1 (.blt .max (.cons (.k (.int 2)) (.cons (.blt .min (.cons (.blt .len (.cons (.var 0) .nil)) (.cons (.k (.int 3)) .nil))) .nil)))) .none (.call "_law_right" (.cons (.call "_law_well" (.cons (.var 0) (.cons (.var 1) .nil)) .nil [.inl 0, .inl 1]) .nil) .nil [.inl 0])) .nil)))
  .nil), .drop⟩
def con : List (Str × Ev.D) := [("KIND_SIZES", (.dct [((.str "unit"), (.int 1)), ((.str "num"), (.int 1)), ((.str "pair"), (.int 3)), ((.str "either"), (.int 3)), ((.str "bag"), (.int 2)), ((.str "fun"), (.int 3))])), ("TRUTH", (.tup [(.str "either"), (.tup [(.str "unit")]), (.tup [(.str "unit")])]))]
def P : Ev.Prg := ⟨fun x => con.lookup x, ([("is_kinded", t_is_kinded), ("is_plain", t_is_plain), ("is_data", t_is_data), ("is_group", t_is_group), ("kind_depth", t_kind_depth), ("check_kind", t_check_kind), ("is_kind", t_is_kind), ("is_plain_kind", t_is_plain_kind), ("is_data_kind", t_is_data_kind), ("is_group_kind", t_is_group_kind), ("depth_of_kind", t_depth_of_kind), ("_law_well", t__law_well), ("_law_draw", t__law_draw), ("_law_pick", t__law_pick), ("_law_same", t__law_same), ("_law_odd", t__law_odd), ("_law_plain", t__law_plain), ("_law_group", t__law_group), ("_law_data", t__law_data), ("_law_kind", t__law_kind)] : List (Str × Ev.FnD)) ++ ([("_law_is_whole", t__law_is_whole), ("_law_is_headed", t__law_is_headed), ("_law_is_plain", t__law_is_plain), ("_law_is_kind", t__law_is_kind), ("_law_has_fun", t__law_has_fun), ("_law_is_data", t__law_is_data), ("_law_is_group", t__law_is_group), ("_law_deep_kind", t__law_deep_kind), ("_law_bent", t__law_bent), ("_law_spoilt", t__law_spoilt), ("_law_tower", t__law_tower), ("_law_told", t__law_told), ("_law_due", t__law_due), ("_law_some_kind", t__law_some_kind), ("_law_right", t__law_right), ("law", t_law)] : List (Str × Ev.FnD)),
  ["KIND_SIZES", "TRUTH"], ["abs", "all", "bool", "divmod", "int", "isinstance", "len", "list", "max", "min", "range", "repr", "str", "tuple"]⟩
def top (i : Nat) : Stmt := PySem.Challenge.pw_changewise_k02_whole_kinds_of_anything.main.body.getD i (.Pass ⟨0, 0, 0, 0⟩)
def s_is_kinded : He.DefD := ⟨("is_kinded", none), "is_kinded", "is_kinded", defArgs (top 6), defBody (top 6), defScope (top 6), [.int 100], []⟩
def s_is_plain : He.DefD := ⟨("is_plain", none), "is_plain", "is_plain", defArgs (top 7), defBody (top 7), defScope (top 7), [], []⟩
def s_is_data : He.DefD := ⟨("is_data", none), "is_data", "is_data", defArgs (top 8), defBody (top 8), defScope (top 8), [], []⟩
def s_is_group : He.DefD := ⟨("is_group", none), "is_group", "is_group", defArgs (top 9), defBody (top 9), defScope (top 9), [], []⟩
def s_kind_depth : He.DefD := ⟨("kind_depth", none), "kind_depth", "kind_depth", defArgs (top 10), defBody (top 10), defScope (top 10), [], []⟩
def s_check_kind : He.DefD := ⟨("check_kind", none), "check_kind", "check_kind", defArgs (top 12), defBody (top 12), defScope (top 12), [], []⟩
def s_is_kind : He.DefD := ⟨("is_kind", none), "is_kind", "is_kind", defArgs (top 15), defBody (top 15), defScope (top 15), [], []⟩
def s_is_plain_kind : He.DefD := ⟨("is_plain_kind", none), "is_plain_kind", "is_plain_kind", defArgs (top 16), defBody (top 16), defScope (top 16), [], []⟩
def s_is_data_kind : He.DefD := ⟨("is_data_kind", none), "is_data_kind", "is_data_kind", defArgs (top 17), defBody (top 17), defScope (top 17), [], []⟩
def s_is_group_kind : He.DefD := ⟨("is_group_kind", none), "is_group_kind", "is_group_kind", defArgs (top 18), defBody (top 18), defScope (top 18), [], []⟩
def s_depth_of_kind : He.DefD := ⟨("depth_of_kind", none), "depth_of_kind", "depth_of_kind", defArgs (top 19), defBody (top 19), defScope (top 19), [], []⟩
def s__law_well : He.DefD := ⟨("_law_well", none), "_law_well", "_law_well", defArgs (top 21), defBody (top 21), defScope (top 21), [], []⟩
def s__law_draw : He.DefD := ⟨("_law_draw", none), "_law_draw", "_law_draw", defArgs (top 22), defBody (top 22), defScope (top 22), [], []⟩
def s__law_pick : He.DefD := ⟨("_law_pick", none), "_law_pick", "_law_pick", defArgs (top 23), defBody (top 23), defScope (top 23), [], []⟩
def s__law_same : He.DefD := ⟨("_law_same", none), "_law_same", "_law_same", defArgs (top 24), defBody (top 24), defScope (top 24), [], []⟩
def s__law_odd : He.DefD := ⟨("_law_odd", none), "_law_odd", "_law_odd", defArgs (top 25), defBody (top 25), defScope (top 25), [], []⟩
def s__law_plain : He.DefD := ⟨("_law_plain", none), "_law_plain", "_law_plain", defArgs (top 26), defBody (top 26), defScope (top 26), [], []⟩
def s__law_group : He.DefD := ⟨("_law_group", none), "_law_group", "_law_group", defArgs (top 27), defBody (top 27), defScope (top 27), [], []⟩
def s__law_data : He.DefD := ⟨("_law_data", none), "_law_data", "_law_data", defArgs (top 28), defBody (top 28), defScope (top 28), [], []⟩
def s__law_kind : He.DefD := ⟨("_law_kind", none), "_law_kind", "_law_kind", defArgs (top 29), defBody (top 29), defScope (top 29), [], []⟩
def s__law_is_whole : He.DefD := ⟨("_law_is_whole", none), "_law_is_whole", "_law_is_whole", defArgs (top 30), defBody (top 30), defScope (top 30), [], []⟩
def s__law_is_headed : He.DefD := ⟨("_law_is_headed", none), "_law_is_headed", "_law_is_headed", defArgs (top 31), defBody (top 31), defScope (top 31), [], []⟩
def s__law_is_plain : He.DefD := ⟨("_law_is_plain", none), "_law_is_plain", "_law_is_plain", defArgs (top 32), defBody (top 32), defScope (top 32), [], []⟩
def s__law_is_kind : He.DefD := ⟨("_law_is_kind", none), "_law_is_kind", "_law_is_kind", defArgs (top 33), defBody (top 33), defScope (top 33), [], []⟩
def s__law_has_fun : He.DefD := ⟨("_law_has_fun", none), "_law_has_fun", "_law_has_fun", defArgs (top 34), defBody (top 34), defScope (top 34), [], []⟩
def s__law_is_data : He.DefD := ⟨("_law_is_data", none), "_law_is_data", "_law_is_data", defArgs (top 35), defBody (top 35), defScope (top 35), [], []⟩
def s__law_is_group : He.DefD := ⟨("_law_is_group", none), "_law_is_group", "_law_is_group", defArgs (top 36), defBody (top 36), defScope (top 36), [], []⟩
def s__law_deep_kind : He.DefD := ⟨("_law_deep_kind", none), "_law_deep_kind", "_law_deep_kind", defArgs (top 37), defBody (top 37), defScope (top 37), [], []⟩
def s__law_bent : He.DefD := ⟨("_law_bent", none), "_law_bent", "_law_bent", defArgs (top 38), defBody (top 38), defScope (top 38), [], []⟩
def s__law_spoilt : He.DefD := ⟨("_law_spoilt", none), "_law_spoilt", "_law_spoilt", defArgs (top 39), defBody (top 39), defScope (top 39), [], []⟩
def s__law_tower : He.DefD := ⟨("_law_tower", none), "_law_tower", "_law_tower", defArgs (top 40), defBody (top 40), defScope (top 40), [], []⟩
def s__law_told : He.DefD := ⟨("_law_told", none), "_law_told", "_law_told", defArgs (top 41), defBody (top 41), defScope (top 41), [], []⟩
def s__law_due : He.DefD := ⟨("_law_due", none), "_law_due", "_law_due", defArgs (top 42), defBody (top 42), defScope (top 42), [], []⟩
def s__law_some_kind : He.DefD := ⟨("_law_some_kind", none), "_law_some_kind", "_law_some_kind", defArgs (top 43), defBody (top 43), defScope (top 43), [], []⟩
def s__law_right : He.DefD := ⟨("_law_right", none), "_law_right", "_law_right", defArgs (top 44), defBody (top 44), defScope (top 44), [], []⟩
def s_law : He.DefD := ⟨("law", none), "law", "law", defArgs (top 45), defBody (top 45), defScope (top 45), [], []⟩
def src : List He.DefD := ([s_is_kinded, s_is_plain, s_is_data, s_is_group, s_kind_depth, s_check_kind, s_is_kind, s_is_plain_kind, s_is_data_kind, s_is_group_kind, s_depth_of_kind, s__law_well, s__law_draw, s__law_pick, s__law_same, s__law_odd, s__law_plain, s__law_group, s__law_data, s__law_kind] : List He.DefD) ++ ([s__law_is_whole, s__law_is_headed, s__law_is_plain, s__law_is_kind, s__law_has_fun, s__law_is_data, s__law_is_group, s__law_deep_kind, s__law_bent, s__law_spoilt, s__law_tower, s__law_told, s__law_due, s__law_some_kind, s__law_right, s_law] : List He.DefD)
theorem c_is_kinded : Ev.fnC P "is_kinded" t_is_kinded s_is_kinded = true := by decide +kernel
theorem c_is_plain : Ev.fnC P "is_plain" t_is_plain s_is_plain = true := by decide +kernel
theorem c_is_data : Ev.fnC P "is_data" t_is_data s_is_data = true := by decide +kernel
theorem c_is_group : Ev.fnC P "is_group" t_is_group s_is_group = true := by decide +kernel
theorem c_kind_depth : Ev.fnC P "kind_depth" t_kind_depth s_kind_depth = true := by decide +kernel
theorem c_check_kind : Ev.fnC P "check_kind" t_check_kind s_check_kind = true := by decide +kernel
theorem c_is_kind : Ev.fnC P "is_kind" t_is_kind s_is_kind = true := by decide +kernel
theorem c_is_plain_kind : Ev.fnC P "is_plain_kind" t_is_plain_kind s_is_plain_kind = true := by decide +kernel
theorem c_is_data_kind : Ev.fnC P "is_data_kind" t_is_data_kind s_is_data_kind = true := by decide +kernel
theorem c_is_group_kind : Ev.fnC P "is_group_kind" t_is_group_kind s_is_group_kind = true := by decide +kernel
theorem c_depth_of_kind : Ev.fnC P "depth_of_kind" t_depth_of_kind s_depth_of_kind = true := by decide +kernel
theorem c__law_well : Ev.fnC P "_law_well" t__law_well s__law_well = true := by decide +kernel
theorem c__law_draw : Ev.fnC P "_law_draw" t__law_draw s__law_draw = true := by decide +kernel
theorem c__law_pick : Ev.fnC P "_law_pick" t__law_pick s__law_pick = true := by decide +kernel
theorem c__law_same : Ev.fnC P "_law_same" t__law_same s__law_same = true := by decide +kernel
theorem c__law_odd : Ev.fnC P "_law_odd" t__law_odd s__law_odd = true := by decide +kernel
theorem c__law_plain : Ev.fnC P "_law_plain" t__law_plain s__law_plain = true := by decide +kernel
theorem c__law_group : Ev.fnC P "_law_group" t__law_group s__law_group = true := by decide +kernel
theorem c__law_data : Ev.fnC P "_law_data" t__law_data s__law_data = true := by decide +kernel
theorem c__law_kind : Ev.fnC P "_law_kind" t__law_kind s__law_kind = true := by decide +kernel
theorem c__law_is_whole : Ev.fnC P "_law_is_whole" t__law_is_whole s__law_is_whole = true := by decide +kernel
theorem c__law_is_headed : Ev.fnC P "_law_is_headed" t__law_is_headed s__law_is_headed = true := by decide +kernel
theorem c__law_is_plain : Ev.fnC P "_law_is_plain" t__law_is_plain s__law_is_plain = true := by decide +kernel
theorem c__law_is_kind : Ev.fnC P "_law_is_kind" t__law_is_kind s__law_is_kind = true := by decide +kernel
theorem c__law_has_fun : Ev.fnC P "_law_has_fun" t__law_has_fun s__law_has_fun = true := by decide +kernel
theorem c__law_is_data : Ev.fnC P "_law_is_data" t__law_is_data s__law_is_data = true := by decide +kernel
theorem c__law_is_group : Ev.fnC P "_law_is_group" t__law_is_group s__law_is_group = true := by decide +kernel
theorem c__law_deep_kind : Ev.fnC P "_law_deep_kind" t__law_deep_kind s__law_deep_kind = true := by decide +kernel
theorem c__law_bent : Ev.fnC P "_law_bent" t__law_bent s__law_bent = true := by decide +kernel
theorem c__law_spoilt : Ev.fnC P "_law_spoilt" t__law_spoilt s__law_spoilt = true := by decide +kernel
theorem c__law_tower : Ev.fnC P "_law_tower" t__law_tower s__law_tower = true := by decide +kernel
theorem c__law_told : Ev.fnC P "_law_told" t__law_told s__law_told = true := by decide +kernel
theorem c__law_due : Ev.fnC P "_law_due" t__law_due s__law_due = true := by decide +kernel
theorem c__law_some_kind : Ev.fnC P "_law_some_kind" t__law_some_kind s__law_some_kind = true := by decide +kernel
theorem c__law_right : Ev.fnC P "_law_right" t__law_right s__law_right = true := by decide +kernel
theorem c_law : Ev.fnC P "law" t_law s_law = true := by decide +kernel
theorem allf : Ev.AllF P P.fns src := (.cons c_is_kinded
  (.cons c_is_plain
  (.cons c_is_data
  (.cons c_is_group
  (.cons c_kind_depth
  (.cons c_check_kind
  (.cons c_is_kind
  (.cons c_is_plain_kind
  (.cons c_is_data_kind
  (.cons c_is_group_kind
  (.cons c_depth_of_kind
  (.cons c__law_well
  (.cons c__law_draw
  (.cons c__law_pick
  (.cons c__law_same
  (.cons c__law_odd
  (.cons c__law_plain
  (.cons c__law_group
  (.cons c__law_data
  (.cons c__law_kind
  (.cons c__law_is_whole
  (.cons c__law_is_headed
  (.cons c__law_is_plain
  (.cons c__law_is_kind
  (.cons c__law_has_fun
  (.cons c__law_is_data
  (.cons c__law_is_group
  (.cons c__law_deep_kind
  (.cons c__law_bent
  (.cons c__law_spoilt
  (.cons c__law_tower
  (.cons c__law_told
  (.cons c__law_due
  (.cons c__law_some_kind
  (.cons c__law_right
  (.cons c_law
  Ev.AllF.nil))))))))))))))))))))))))))))))))))))
end Cw

set_option Elab.async false
set_option linter.all false
set_option maxRecDepth 100000
set_option maxHeartbeats 1000000
namespace Cw
open Ev
open PySem (Str PyData)
theorem l_is_kinded : P.fns.lookup ("is_kinded" : Str) = some t_is_kinded := by rfl
theorem l_is_plain : P.fns.lookup ("is_plain" : Str) = some t_is_plain := by rfl
theorem d_is_plain : P.dfl ("is_plain" : Str) = [] := by rfl
theorem d_is_kinded : P.dfl ("is_kinded" : Str) = [.int 100] := by rfl
@[simp] theorem ok_unit : PyData.strOk ("unit" : Str) = true := by decide +kernel
@[simp] theorem ne_unit_num : (("unit" : Str) = ("num" : Str)) = False := eq_false (by decide +kernel)
@[simp] theorem ne_unit_pair : (("unit" : Str) = ("pair" : Str)) = False := eq_false (by decide +kernel)
@[simp] theorem ne_unit_either : (("unit" : Str) = ("either" : Str)) = False := eq_false (by decide +kernel)
@[simp] theorem ne_unit_bag : (("unit" : Str) = ("bag" : Str)) = False := eq_false (by decide +kernel)
@[simp] theorem ne_unit_fun : (("unit" : Str) = ("fun" : Str)) = False := eq_false (by decide +kernel)
@[simp] theorem ok_num : PyData.strOk ("num" : Str) = true := by decide +kernel
@[simp] theorem ne_num_unit : (("num" : Str) = ("unit" : Str)) = False := eq_false (by decide +kernel)
@[simp] theorem ne_num_pair : (("num" : Str) = ("pair" : Str)) = False := eq_false (by decide +kernel)
@[simp] theorem ne_num_either : (("num" : Str) = ("either" : Str)) = False := eq_false (by decide +kernel)
@[simp] theorem ne_num_bag : (("num" : Str) = ("bag" : Str)) = False := eq_false (by decide +kernel)
@[simp] theorem ne_num_fun : (("num" : Str) = ("fun" : Str)) = False := eq_false (by decide +kernel)
@[simp] theorem ok_pair : PyData.strOk ("pair" : Str) = true := by decide +kernel
@[simp] theorem ne_pair_unit : (("pair" : Str) = ("unit" : Str)) = False := eq_false (by decide +kernel)
@[simp] theorem ne_pair_num : (("pair" : Str) = ("num" : Str)) = False := eq_false (by decide +kernel)
@[simp] theorem ne_pair_either : (("pair" : Str) = ("either" : Str)) = False := eq_false (by decide +kernel)
@[simp] theorem ne_pair_bag : (("pair" : Str) = ("bag" : Str)) = False := eq_false (by decide +kernel)
@[simp] theorem ne_pair_fun : (("pair" : Str) = ("fun" : Str)) = False := eq_false (by decide +kernel)
@[simp] theorem ok_either : PyData.strOk ("either" : Str) = true := by decide +kernel
@[simp] theorem ne_either_unit : (("either" : Str) = ("unit" : Str)) = False := eq_false (by decide +kernel)
@[simp] theorem ne_either_num : (("either" : Str) = ("num" : Str)) = False := eq_false (by decide +kernel)
@[simp] theorem ne_either_pair : (("either" : Str) = ("pair" : Str)) = False := eq_false (by decide +kernel)
@[simp] theorem ne_either_bag : (("either" : Str) = ("bag" : Str)) = False := eq_false (by decide +kernel)
@[simp] theorem ne_either_fun : (("either" : Str) = ("fun" : Str)) = False := eq_false (by decide +kernel)
@[simp] theorem ok_bag : PyData.strOk ("bag" : Str) = true := by decide +kernel
@[simp] theorem ne_bag_unit : (("bag" : Str) = ("unit" : Str)) = False := eq_false (by decide +kernel)
@[simp] theorem ne_bag_num : (("bag" : Str) = ("num" : Str)) = False := eq_false (by decide +kernel)
@[simp] theorem ne_bag_pair : (("bag" : Str) = ("pair" : Str)) = False := eq_false (by decide +kernel)
@[simp] theorem ne_bag_either : (("bag" : Str) = ("either" : Str)) = False := eq_false (by decide +kernel)
@[simp] theorem ne_bag_fun : (("bag" : Str) = ("fun" : Str)) = False := eq_false (by decide +kernel)
@[simp] theorem ok_fun : PyData.strOk ("fun" : Str) = true := by decide +kernel
@[simp] theorem ne_fun_unit : (("fun" : Str) = ("unit" : Str)) = False := eq_false (by decide +kernel)
@[simp] theorem ne_fun_num : (("fun" : Str) = ("num" : Str)) = False := eq_false (by decide +kernel)
@[simp] theorem ne_fun_pair : (("fun" : Str) = ("pair" : Str)) = False := eq_false (by decide +kernel)
@[simp] theorem ne_fun_either : (("fun" : Str) = ("either" : Str)) = False := eq_false (by decide +kernel)
@[simp] theorem ne_fun_bag : (("fun" : Str) = ("bag" : Str)) = False := eq_false (by decide +kernel)
inductive Kd where
  | unit | num
  | bag (a : Kd)
  | pair (a b : Kd)
  | either (a b : Kd)
  | fn (a b : Kd)
def enc : Kd → D
  | .unit => .tup [.str "unit"]
  | .num => .tup [.str "num"]
  | .bag a => .tup [.str "bag", enc a]
  | .pair a b => .tup [.str "pair", enc a, enc b]
  | .either a b => .tup [.str "either", enc a, enc b]
  | .fn a b => .tup [.str "fun", enc a, enc b]
def Kd.pl : Kd → Bool
  | .unit => true
  | .num => true
  | .pair a b => a.pl && b.pl
  | .either a b => a.pl && b.pl
  | _ => false
def Kd.dp : Kd → Nat
  | .unit => 1
  | .num => 1
  | .bag a => a.dp + 1
  | .pair a b => max a.dp b.dp + 1
  | .either a b => max a.dp b.dp + 1
  | .fn a b => max a.dp b.dp + 1
theorem succ_of {n m : Nat} (h : m + 1 ≤ n) : ∃ k, n = k + 1 ∧ m ≤ k := ⟨n - 1, by omega, by omega⟩
theorem dp_pos (k : Kd) : 1 ≤ k.dp := by cases k <;> simp [Kd.dp]
theorem en_call {n : Nat} : (P.en (run P n)).call = run P n := rfl
theorem en_dfl {n : Nat} : (P.en (run P n)).dfl = P.dfl := rfl
theorem en_G {n : Nat} : (P.en (run P n)).G = P.G := rfl
theorem run_is_plain (k : Kd) : ∀ n M, k.dp ≤ n → run P n (.fn "is_plain") [enc k] M = .ok (.bl k.pl) M := by
  have one : ∀ (w : Str) n M, run P (n + 1) (.fn "is_plain") [.tup [.str w]] M = .ok (.bl (!isIn w ["bag", "fun"])) M := by
    intro w n M
    simp only [run, l_is_plain]
    simp [t_is_plain, start', wipe', LIM]
  have two : ∀ (w : Str) (a b : D) (p q : Bool) n M, isIn w ["bag", "fun"] = false → (∀ M, run P n (.fn "is_plain") [a] M = .ok (.bl p) M) → (∀ M, run P n (.fn "is_plain") [b] M = .ok (.bl q) M) →
      run P (n + 1) (.fn "is_plain") [.tup [.str w, a, b]] M = .ok (.bl (p && q)) M := by
    intro w a b p q n M h1 h2 h3
    simp only [run, l_is_plain]
    simp [t_is_plain, start', wipe', LIM, h1, h2, h3, compL_cons, en_call, en_dfl, d_is_plain, arrange, pick]
  induction k with
  | unit => intro n M h; obtain ⟨n, rfl, h⟩ := succ_of h; exact one _ _ _
  | num => intro n M h; obtain ⟨n, rfl, h⟩ := succ_of h; exact one _ _ _
  | pair a b iha ihb => intro n M h; obtain ⟨n, rfl, h⟩ := succ_of h; exact two _ _ _ _ _ _ _ (by decide +kernel) (fun M => iha n M (by omega)) (fun M => ihb n M (by omega))
  | either a b iha ihb => intro n M h; obtain ⟨n, rfl, h⟩ := succ_of h; exact two _ _ _ _ _ _ _ (by decide +kernel) (fun M => iha n M (by omega)) (fun M => ihb n M (by omega))
  | bag a _ =>
    intro n M h; obtain ⟨n, rfl, h⟩ := succ_of h
    simp only [run, l_is_plain]
    simp [t_is_plain, start', wipe', enc, LIM, isIn, Kd.pl]
  | fn a b _ _ =>
    intro n M h; obtain ⟨n, rfl, h⟩ := succ_of h
    simp only [run, l_is_plain]
    simp [t_is_plain, start', wipe', enc, LIM, isIn, Kd.pl]
theorem l_is_data : P.fns.lookup ("is_data" : Str) = some t_is_data := by rfl
theorem d_is_data : P.dfl ("is_data" : Str) = [] := by rfl
theorem l_is_group : P.fns.lookup ("is_group" : Str) = some t_is_group := by rfl
theorem d_is_group : P.dfl ("is_group" : Str) = [] := by rfl
theorem l_kind_depth : P.fns.lookup ("kind_depth" : Str) = some t_kind_depth := by rfl
theorem d_kind_depth : P.dfl ("kind_depth" : Str) = [] := by rfl
theorem l__law_has_fun : P.fns.lookup ("_law_has_fun" : Str) = some t__law_has_fun := by rfl
theorem d__law_has_fun : P.dfl ("_law_has_fun" : Str) = [] := by rfl
theorem l__law_deep_kind : P.fns.lookup ("_law_deep_kind" : Str) = some t__law_deep_kind := by rfl
theorem d__law_deep_kind : P.dfl ("_law_deep_kind" : Str) = [] := by rfl
theorem l__law_is_headed : P.fns.lookup ("_law_is_headed" : Str) = some t__law_is_headed := by rfl
theorem d__law_is_headed : P.dfl ("_law_is_headed" : Str) = [] := by rfl
theorem l__law_is_plain : P.fns.lookup ("_law_is_plain" : Str) = some t__law_is_plain := by rfl
theorem d__law_is_plain : P.dfl ("_law_is_plain" : Str) = [] := by rfl
theorem l__law_is_kind : P.fns.lookup ("_law_is_kind" : Str) = some t__law_is_kind := by rfl
theorem d__law_is_kind : P.dfl ("_law_is_kind" : Str) = [] := by rfl
theorem l__law_is_data : P.fns.lookup ("_law_is_data" : Str) = some t__law_is_data := by rfl
theorem d__law_is_data : P.dfl ("_law_is_data" : Str) = [] := by rfl
theorem l__law_is_group : P.fns.lookup ("_law_is_group" : Str) = some t__law_is_group := by rfl
theorem d__law_is_group : P.dfl ("_law_is_group" : Str) = [] := by rfl
theorem l__law_is_whole : P.fns.lookup ("_law_is_whole" : Str) = some t__law_is_whole := by rfl
theorem d__law_is_whole : P.dfl ("_law_is_whole" : Str) = [] := by rfl

def Kd.dt : Kd → Bool
  | .unit => true
  | .num => true
  | .bag a => a.dt
  | .pair a b => a.dt && b.dt
  | .either a b => a.dt && b.dt
  | .fn _ _ => false
def Kd.gr : Kd → Bool
  | .num => true
  | .bag _ => true
  | .pair a b => a.gr && b.gr
  | _ => false
theorem run_is_data (k : Kd) : ∀ n M, k.dp ≤ n → run P n (.fn "is_data") [enc k] M = .ok (.bl k.dt) M := by
  have two : ∀ (w : Str) (a b : D) (p q : Bool) n M, PyData.strOk w = true → w ≠ "fun" → (∀ M, run P n (.fn "is_data") [a] M = .ok (.bl p) M) → (∀ M, run P n (.fn "is_data") [b] M = .ok (.bl q) M) →
      run P (n + 1) (.fn "is_data") [.tup [.str w, a, b]] M = .ok (.bl (p && q)) M := by
    intro w a b p q n M h0 h1 h2 h3
    simp only [run, l_is_data]
    simp [t_is_data, start', wipe', LIM, cmp_ne h0 (y := "fun") (by decide +kernel), h1, h2, h3, compL_cons, en_call, en_dfl, d_is_data, arrange, pick]
  have one : ∀ (w : Str) n M, PyData.strOk w = true → w ≠ "fun" → run P (n + 1) (.fn "is_data") [.tup [.str w]] M = .ok (.bl true) M := by
    intro w n M h0 h1
    simp only [run, l_is_data]
    simp [t_is_data, start', wipe', LIM, cmp_ne h0 (y := "fun") (by decide +kernel), h1]
  induction k with
  | unit => intro n M h; obtain ⟨n, rfl, h⟩ := succ_of h; exact one _ _ _ (by decide +kernel) (by decide +kernel)
  | num => intro n M h; obtain ⟨n, rfl, h⟩ := succ_of h; exact one _ _ _ (by decide +kernel) (by decide +kernel)
  | pair a b iha ihb => intro n M h; obtain ⟨n, rfl, h⟩ := succ_of h; exact two _ _ _ _ _ _ _ (by decide +kernel) (by decide +kernel) (fun M => iha n M (by omega)) (fun M => ihb n M (by omega))
  | either a b iha ihb => intro n M h; obtain ⟨n, rfl, h⟩ := succ_of h; exact two _ _ _ _ _ _ _ (by decide +kernel) (by decide +kernel) (fun M => iha n M (by omega)) (fun M => ihb n M (by omega))
  | bag a iha =>
    intro n M h; obtain ⟨n, rfl, h⟩ := succ_of h
    have h2 := fun M => iha n M (by omega)
    simp only [run, l_is_data]
    simp [t_is_data, start', wipe', enc, LIM, Kd.dt, cmp_ne (x := "bag") (y := "fun") (by decide +kernel) (by decide +kernel), h2, compL_cons, en_call, en_dfl, d_is_data, arrange, pick, show ¬ ((Str.ofString "bag" : Str) = PySem.Str.ofString "fun") by decide +kernel]
  | fn a b _ _ =>
    intro n M h; obtain ⟨n, rfl, h⟩ := succ_of h
    simp only [run, l_is_data]
    simp [t_is_data, start', wipe', enc, LIM, Kd.dt, cmp_ne (x := "fun") (y := "fun") (by decide +kernel) (by decide +kernel)]
theorem run_is_group (k : Kd) : ∀ n M, k.dp ≤ n → run P n (.fn "is_group") [enc k] M = .ok (.bl k.gr) M := by
  induction k with
  | pair a b iha ihb =>
    intro n M h; obtain ⟨n, rfl, h⟩ := succ_of h
    have h2 := fun M => iha n M (by omega)
    have h3 := fun M => ihb n M (by omega)
    simp only [run, l_is_group]
    simp [t_is_group, start', wipe', enc, LIM, Kd.gr, isIn, cmp_ss (x := "pair") (y := "pair") (by decide +kernel) (by decide +kernel), h2, h3, compL_cons, en_call, en_dfl, d_is_group, arrange, pick]
  | either a b iha ihb =>
    intro n M h; obtain ⟨n, rfl, h⟩ := succ_of h
    simp only [run, l_is_group]
    simp [t_is_group, start', wipe', enc, LIM, Kd.gr, isIn, cmp_ss (x := "either") (y := "pair") (by decide +kernel) (by decide +kernel)]
  | unit =>
    intro n M h; obtain ⟨n, rfl, h⟩ := succ_of h
    simp only [run, l_is_group]
    simp [t_is_group, start', wipe', enc, LIM, Kd.gr, isIn, cmp_ss (x := "unit") (y := "pair") (by decide +kernel) (by decide +kernel)]
  | num =>
    intro n M h; obtain ⟨n, rfl, h⟩ := succ_of h
    simp only [run, l_is_group]
    simp [t_is_group, start', wipe', enc, LIM, Kd.gr, isIn]
  | bag a iha =>
    intro n M h; obtain ⟨n, rfl, h⟩ := succ_of h
    simp only [run, l_is_group]
    simp [t_is_group, start', wipe', enc, LIM, Kd.gr, isIn]
  | fn a b _ _ =>
    intro n M h; obtain ⟨n, rfl, h⟩ := succ_of h
    simp only [run, l_is_group]
    simp [t_is_group, start', wipe', enc, LIM, Kd.gr, isIn, cmp_ss (x := "fun") (y := "pair") (by decide +kernel) (by decide +kernel)]
end Cw

set_option Elab.async false
set_option linter.all false
set_option maxRecDepth 100000
set_option maxHeartbeats 1000000
namespace Cw
open Ev
open PySem (Str PyData)
/-! things: what the law hands on -/
mutual
def th : D → Bool
  | .non => true
  | .bl _ => true
  | .int _ => true
  | .str s => PyData.strOk s
  | .tup l => ths l
  | .lst _ => true
  | .dct _ => true
  | _ => false
def ths : List D → Bool
  | [] => true
  | d :: r => th d && ths r
end
mutual
def tdp : D → Nat
  | .tup l => tdps l + 1
  | _ => 0
def tdps : List D → Nat
  | [] => 0
  | d :: r => max (tdp d) (tdps r)
end
def Kd.wf : Kd → Bool
  | .unit => true
  | .num => true
  | .bag a => a.pl
  | .pair a b => a.wf && b.wf
  | .either a b => a.wf && b.wf
  | .fn a b => a.wf && b.wf
theorem pl_wf : ∀ {k : Kd}, k.pl = true → k.wf = true
  | .unit, _ => rfl
  | .num, _ => rfl
  | .pair a b, h => by simp only [Kd.pl, Kd.wf, Bool.and_eq_true] at *; exact ⟨pl_wf h.1, pl_wf h.2⟩
  | .either a b, h => by simp only [Kd.pl, Kd.wf, Bool.and_eq_true] at *; exact ⟨pl_wf h.1, pl_wf h.2⟩
  | .bag _, h => by simp [Kd.pl] at h
  | .fn _ _, h => by simp [Kd.pl] at h
theorem enc_tdp : ∀ k : Kd, tdp (enc k) = k.dp
  | .unit => rfl
  | .num => rfl
  | .bag a => by simp [enc, tdp, tdps, Kd.dp, enc_tdp a]
  | .pair a b => by simp [enc, tdp, tdps, Kd.dp, enc_tdp a, enc_tdp b]
  | .either a b => by simp [enc, tdp, tdps, Kd.dp, enc_tdp a, enc_tdp b]
  | .fn a b => by simp [enc, tdp, tdps, Kd.dp, enc_tdp a, enc_tdp b]
theorem enc_th : ∀ k : Kd, th (enc k) = true
  | .unit => by simp [enc, th, ths]
  | .num => by simp [enc, th, ths]
  | .bag a => by simp [enc, th, ths, enc_th a]
  | .pair a b => by simp [enc, th, ths, enc_th a, enc_th b]
  | .either a b => by simp [enc, th, ths, enc_th a, enc_th b]
  | .fn a b => by simp [enc, th, ths, enc_th a, enc_th b]
theorem enc_inj : ∀ {k l : Kd}, enc k = enc l → k = l := by
  intro k
  induction k with
  | unit => intro l h; cases l <;> simp [enc] at h ⊢
  | num => intro l h; cases l <;> simp [enc] at h ⊢
  | bag a ih => intro l h; cases l <;> simp [enc] at h ⊢; exact ih h
  | pair a b iha ihb => intro l h; cases l <;> simp [enc] at h ⊢; exact ⟨iha h.1, ihb h.2⟩
  | either a b iha ihb => intro l h; cases l <;> simp [enc] at h ⊢; exact ⟨iha h.1, ihb h.2⟩
  | fn a b iha ihb => intro l h; cases l <;> simp [enc] at h ⊢; exact ⟨iha h.1, ihb h.2⟩
noncomputable section
open Classical
def isPl (d : D) : Bool := decide (∃ k : Kd, k.pl = true ∧ enc k = d)
def isKd (d : D) : Bool := decide (∃ k : Kd, k.wf = true ∧ enc k = d)
def isKdN (n : Nat) (d : D) : Bool := decide (∃ k : Kd, k.wf = true ∧ k.dp ≤ n ∧ enc k = d)
theorem dec_false {p : Prop} (h : ¬ p) : decide p = false := decide_eq_false h
theorem isPl_enc (k : Kd) : isPl (enc k) = k.pl := by
  unfold isPl
  cases h : k.pl with
  | true => exact decide_eq_true ⟨k, h, rfl⟩
  | false => exact dec_false fun ⟨l, h1, h2⟩ => by rw [enc_inj h2, h] at h1; cases h1
theorem isKd_enc (k : Kd) : isKd (enc k) = k.wf := by
  unfold isKd
  cases h : k.wf with
  | true => exact decide_eq_true ⟨k, h, rfl⟩
  | false => exact dec_false fun ⟨l, h1, h2⟩ => by rw [enc_inj h2, h] at h1; cases h1
variable {a b : D} {n : Nat}
theorem isPl_pair : isPl (.tup [.str "pair", a, b]) = (isPl a && isPl b) := by
  unfold isPl
  rw [Bool.eq_iff_iff, Bool.and_eq_true, decide_eq_true_eq, decide_eq_true_eq, decide_eq_true_eq]
  constructor
  · rintro ⟨k, h1, h2⟩
    cases k <;> simp [enc] at h2
    simp only [Kd.pl, Bool.and_eq_true] at h1
    exact ⟨⟨_, h1.1, h2.1⟩, ⟨_, h1.2, h2.2⟩⟩
  · rintro ⟨⟨k, h1, rfl⟩, ⟨l, h2, rfl⟩⟩
    exact ⟨.pair k l, by simp [Kd.pl, h1, h2], rfl⟩
theorem isPl_either : isPl (.tup [.str "either", a, b]) = (isPl a && isPl b) := by
  unfold isPl
  rw [Bool.eq_iff_iff, Bool.and_eq_true, decide_eq_true_eq, decide_eq_true_eq, decide_eq_true_eq]
  constructor
  · rintro ⟨k, h1, h2⟩
    cases k <;> simp [enc] at h2
    simp only [Kd.pl, Bool.and_eq_true] at h1
    exact ⟨⟨_, h1.1, h2.1⟩, ⟨_, h1.2, h2.2⟩⟩
  · rintro ⟨⟨k, h1, rfl⟩, ⟨l, h2, rfl⟩⟩
    exact ⟨.either k l, by simp [Kd.pl, h1, h2], rfl⟩
theorem isKd_pair : isKd (.tup [.str "pair", a, b]) = (isKd a && isKd b) := by
  unfold isKd
  rw [Bool.eq_iff_iff, Bool.and_eq_true, decide_eq_true_eq, decide_eq_true_eq, decide_eq_true_eq]
  constructor
  · rintro ⟨k, h1, h2⟩
    cases k <;> simp [enc] at h2
    simp only [Kd.wf, Bool.and_eq_true] at h1
    exact ⟨⟨_, h1.1, h2.1⟩, ⟨_, h1.2, h2.2⟩⟩
  · rintro ⟨⟨k, h1, rfl⟩, ⟨l, h2, rfl⟩⟩
    exact ⟨.pair k l, by simp [Kd.wf, h1, h2], rfl⟩
theorem isKd_either : isKd (.tup [.str "either", a, b]) = (isKd a && isKd b) := by
  unfold isKd
  rw [Bool.eq_iff_iff, Bool.and_eq_true, decide_eq_true_eq, decide_eq_true_eq, decide_eq_true_eq]
  constructor
  · rintro ⟨k, h1, h2⟩
    cases k <;> simp [enc] at h2
    simp only [Kd.wf, Bool.and_eq_true] at h1
    exact ⟨⟨_, h1.1, h2.1⟩, ⟨_, h1.2, h2.2⟩⟩
  · rintro ⟨⟨k, h1, rfl⟩, ⟨l, h2, rfl⟩⟩
    exact ⟨.either k l, by simp [Kd.wf, h1, h2], rfl⟩
theorem isKd_fun : isKd (.tup [.str "fun", a, b]) = (isKd a && isKd b) := by
  unfold isKd
  rw [Bool.eq_iff_iff, Bool.and_eq_true, decide_eq_true_eq, decide_eq_true_eq, decide_eq_true_eq]
  constructor
  · rintro ⟨k, h1, h2⟩
    cases k <;> simp [enc] at h2
    simp only [Kd.wf, Bool.and_eq_true] at h1
    exact ⟨⟨_, h1.1, h2.1⟩, ⟨_, h1.2, h2.2⟩⟩
  · rintro ⟨⟨k, h1, rfl⟩, ⟨l, h2, rfl⟩⟩
    exact ⟨.fn k l, by simp [Kd.wf, h1, h2], rfl⟩
theorem isKd_bag : isKd (.tup [.str "bag", a]) = isPl a := by
  unfold isKd isPl
  rw [Bool.eq_iff_iff, decide_eq_true_eq, decide_eq_true_eq]
  constructor
  · rintro ⟨k, h1, h2⟩
    cases k <;> simp [enc] at h2
    exact ⟨_, h1, h2⟩
  · rintro ⟨k, h1, rfl⟩
    exact ⟨.bag k, h1, rfl⟩
/-- the forms of a kind -/
theorem isKd_no {w : Str} {r : List D} (h : (isIn w ["unit", "num"] && r.length == 0 || isIn w ["pair", "either", "fun"] && r.length == 2 || decide (w = "bag") && r.length == 1) = false) : isKd (.tup (.str w :: r)) = false := by
  unfold isKd
  refine dec_false fun ⟨k, _, h2⟩ => ?_
  cases k <;> simp [enc] at h2 <;> obtain ⟨rfl, rfl⟩ := h2 <;> simp [isIn] at h
theorem isPl_no {w : Str} {r : List D} (h : (isIn w ["unit", "num"] && r.length == 0 || isIn w ["pair", "either"] && r.length == 2) = false) : isPl (.tup (.str w :: r)) = false := by
  unfold isPl
  refine dec_false fun ⟨k, h1, h2⟩ => ?_
  cases k <;> simp [enc] at h2 <;> obtain ⟨rfl, rfl⟩ := h2 <;> simp [isIn, Kd.pl] at h h1
def headed : D → Bool
  | .tup (.str _ :: _) => true
  | _ => false
theorem isKd_head {d : D} (h : headed d = false) : isKd d = false := by
  unfold isKd
  refine dec_false fun ⟨k, _, h2⟩ => ?_
  subst h2
  cases k <;> simp [enc, headed] at h
theorem isPl_head {d : D} (h : headed d = false) : isPl d = false := by
  unfold isPl
  refine dec_false fun ⟨k, _, h2⟩ => ?_
  subst h2
  cases k <;> simp [enc, headed] at h
end
/-- headed, so many parts -/
def hdd : D → Int → Bool
  | .tup (.str _ :: r), m => decide (((r.length : Int) + 1) = m)
  | _, _ => false
theorem tyOf_th {d : D} {M : Mem} (h : th d = true) : ∃ t, tyOf M d = some t := by
  cases d <;> simp only [tyOf] <;> first | exact ⟨_, rfl⟩ | (simp [th] at h)
theorem isi_tup {M : Mem} {call : D → List D → Mem → Res D} {d : D} (h : th d = true) : bltD call .isi [d, .ty "tuple"] M = .ok (.bl (match d with
    | .tup _ => true
    | _ => false)) M := by
  apply isi_of
  cases d <;> simp [isiD, tyOf] <;> simp [th] at h
theorem isi_str {M : Mem} {call : D → List D → Mem → Res D} {d : D} (h : th d = true) : bltD call .isi [d, .ty "str"] M = .ok (.bl (match d with
    | .str _ => true
    | _ => false)) M := by
  apply isi_of
  cases d <;> simp [isiD, tyOf] <;> simp [th] at h
theorem run_headed {d : D} {m : Int} {n : Nat} {M : Mem} (h : th d = true) (hm : 1 ≤ m) : run P (n + 1) (.fn "_law_is_headed") [d, .int m] M = .ok (.bl (hdd d m)) M := by
  simp only [run, l__law_is_headed]
  cases d with
  | tup l =>
    cases l with
    | nil =>
      simp [t__law_is_headed, start', isi_tup (d := .tup []) h, hdd, show ¬ (0 : Int) = m by omega]
    | cons x r =>
      have hx : th x = true := by simp [th, ths] at h; exact h.1
      simp [t__law_is_headed, start', isi_tup (d := .tup (x :: r)) h, isi_str hx]
      by_cases e : (r.length : Int) + 1 = m
      · simp [e]
        cases x <;> simp [hdd, e]
      · simp [e]
        cases x <;> simp [hdd, e]
  | _ => simp [t__law_is_headed, start', isi_tup h, hdd]
end Cw

set_option Elab.async false
set_option linter.all false
set_option maxRecDepth 100000
set_option maxHeartbeats 1000000
namespace Cw
open Ev
open PySem (Str PyData)
theorem th_tup {l : List D} : th (.tup l) = ths l := by simp [th]
theorem ths_cons {d : D} {l : List D} : ths (d :: l) = (th d && ths l) := by simp [ths]
theorem hdd_1 {d : D} (h : hdd d 1 = true) : ∃ w, d = .tup [.str w] := by
  unfold hdd at h
  split at h
  · rename_i w r
    simp only [decide_eq_true_eq] at h
    cases r with
    | nil => exact ⟨w, rfl⟩
    | cons _ _ => simp at h; omega
  · cases h
theorem hdd_2 {d : D} (h : hdd d 2 = true) : ∃ w a, d = .tup [.str w, a] := by
  unfold hdd at h
  split at h
  · rename_i w r
    simp only [decide_eq_true_eq] at h
    match r, h with
    | [a], _ => exact ⟨w, a, rfl⟩
    | [], h => simp at h
    | _ :: _ :: _, h => simp at h; omega
  · cases h
theorem hdd_3 {d : D} (h : hdd d 3 = true) : ∃ w a b, d = .tup [.str w, a, b] := by
  unfold hdd at h
  split at h
  · rename_i w r
    simp only [decide_eq_true_eq] at h
    match r, h with
    | [a, b], _ => exact ⟨w, a, b, rfl⟩
    | [], h => simp at h
    | [_], h => simp at h
    | _ :: _ :: _ :: _, h => simp at h; omega
  · cases h
/-- what is no kind by its parts' number -/
theorem hdd_no {d : D} (h1 : hdd d 1 = false) (h2 : hdd d 2 = false) (h3 : hdd d 3 = false) : isKd d = false := by
  cases hh : headed d with
  | false => exact isKd_head hh
  | true =>
    cases d <;> simp only [headed] at hh <;> try (cases hh; done)
    split at hh
    · rename_i heq
      cases heq
      rename_i w r
      refine isKd_no ?_
      simp only [hdd, decide_eq_false_iff_not] at h1 h2 h3
      have e0 : (r.length == 0) = false := by simp; intro e; simp [e] at h1
      have e1 : (r.length == 1) = false := by simp; omega
      have e2 : (r.length == 2) = false := by simp; omega
      simp [e0, e1, e2]
    · cases hh
theorem hdd_noP {d : D} (h1 : hdd d 1 = false) (h3 : hdd d 3 = false) : isPl d = false := by
  cases hh : headed d with
  | false => exact isPl_head hh
  | true =>
    cases d <;> simp only [headed] at hh <;> try (cases hh; done)
    split at hh
    · rename_i heq
      cases heq
      rename_i w r
      refine isPl_no ?_
      simp only [hdd, decide_eq_false_iff_not] at h1 h3
      have e0 : (r.length == 0) = false := by simp; intro e; simp [e] at h1
      have e2 : (r.length == 2) = false := by simp; omega
      simp [e0, e2]
    · cases hh
theorem isPl_1 {w : Str} : isPl (.tup [.str w]) = isIn w ["unit", "num"] := by
  cases h : isIn w ["unit", "num"] with
  | false => exact isPl_no (by simp [h])
  | true =>
    simp [isIn] at h
    rcases h with rfl | rfl
    · exact isPl_enc .unit
    · exact isPl_enc .num
theorem isKd_1 {w : Str} : isKd (.tup [.str w]) = isIn w ["unit", "num"] := by
  cases h : isIn w ["unit", "num"] with
  | false => exact isKd_no (by simp [h])
  | true =>
    simp [isIn] at h
    rcases h with rfl | rfl
    · exact isKd_enc .unit
    · exact isKd_enc .num
theorem isPl_3 {w : Str} {a b : D} : isPl (.tup [.str w, a, b]) = (isIn w ["pair", "either"] && (isPl a && isPl b)) := by
  cases h : isIn w ["pair", "either"] with
  | false => rw [isPl_no (by simp [h])]; rfl
  | true =>
    simp [isIn] at h
    rcases h with rfl | rfl
    · exact isPl_pair
    · exact isPl_either
theorem isKd_3 {w : Str} {a b : D} : isKd (.tup [.str w, a, b]) = (isIn w ["pair", "either", "fun"] && (isKd a && isKd b)) := by
  cases h : isIn w ["pair", "either", "fun"] with
  | false => rw [isKd_no (by simp [h])]; rfl
  | true =>
    simp [isIn] at h
    rcases h with rfl | rfl | rfl
    · exact isKd_pair
    · exact isKd_either
    · exact isKd_fun
theorem isKd_2 {w : Str} {a : D} : isKd (.tup [.str w, a]) = (decide (w = "bag") && isPl a) := by
  cases h : decide (w = ("bag" : Str)) with
  | false => rw [isKd_no (by simp at h; simp [h])]; rfl
  | true =>
    have : w = "bag" := of_decide_eq_true h
    subst this
    exact isKd_bag
theorem tdp_1 {w : Str} : tdp (.tup [.str w]) = 1 := by simp [tdp, tdps]
theorem tdp_2 {w : Str} {a : D} : tdp (.tup [.str w, a]) = tdp a + 1 := by simp [tdp, tdps]
theorem tdp_3 {w : Str} {a b : D} : tdp (.tup [.str w, a, b]) = max (tdp a) (tdp b) + 1 := by simp [tdp, tdps]
theorem run_law_is_plain : ∀ (n : Nat) (d : D) (M : Mem), th d = true → tdp d + 2 ≤ n → run P n (.fn "_law_is_plain") [d] M = .ok (.bl (isPl d)) M
  | n, d, M, h, hn => by
    obtain ⟨n, rfl, hn⟩ := succ_of hn
    obtain ⟨n', rfl, hn'⟩ := succ_of (m := 0) (n := n) (by omega)
    have H1 := fun M => run_headed (n := n') (M := M) h (m := 1) (by decide)
    have H3 := fun M => run_headed (n := n') (M := M) h (m := 3) (by decide)
    cases e1 : hdd d 1 with
    | true =>
      obtain ⟨w, rfl⟩ := hdd_1 e1
      rw [run_step l__law_is_plain rfl]
      simp [t__law_is_plain, start', en_call, en_dfl, d__law_is_headed, arrange, pick, H1, e1, LIM, isPl_1]
    | false =>
      cases e3 : hdd d 3 with
      | false =>
        rw [run_step l__law_is_plain rfl]
        simp [t__law_is_plain, start', en_call, en_dfl, d__law_is_headed, arrange, pick, H1, e1, H3, e3, hdd_noP e1 e3]
      | true =>
        obtain ⟨w, a, b, rfl⟩ := hdd_3 e3
        rw [tdp_3] at hn
        simp only [th_tup, ths_cons, Bool.and_eq_true] at h
        have ia := fun M => run_law_is_plain (n' + 1) a M h.2.1 (by omega)
        have ib := fun M => run_law_is_plain (n' + 1) b M h.2.2.1 (by omega)
        rw [isPl_3]
        rw [run_step l__law_is_plain rfl]
        simp [t__law_is_plain, start', en_call, en_dfl, d__law_is_headed, d__law_is_plain, arrange, pick, H1, e1, H3, e3, LIM]
        cases q : isIn w ["pair", "either"] with
        | false => simp
        | true =>
          simp [ia, ib]
          cases isPl a <;> simp
termination_by n => n
end Cw

set_option Elab.async false
set_option linter.all false
set_option maxRecDepth 100000
set_option maxHeartbeats 1000000
namespace Cw
open Ev
open PySem (Str PyData)
theorem run_law_is_kind : ∀ (n : Nat) (d : D) (M : Mem), th d = true → tdp d + 2 ≤ n → run P n (.fn "_law_is_kind") [d] M = .ok (.bl (isKd d)) M
  | n, d, M, h, hn => by
    obtain ⟨n, rfl, hn⟩ := succ_of hn
    obtain ⟨n', rfl, hn'⟩ := succ_of (m := 0) (n := n) (by omega)
    have H1 := fun M => run_headed (n := n') (M := M) h (m := 1) (by decide)
    have H2 := fun M => run_headed (n := n') (M := M) h (m := 2) (by decide)
    have H3 := fun M => run_headed (n := n') (M := M) h (m := 3) (by decide)
    cases e1 : hdd d 1 with
    | true =>
      obtain ⟨w, rfl⟩ := hdd_1 e1
      rw [run_step l__law_is_kind rfl]
      simp [t__law_is_kind, start', en_call, en_dfl, d__law_is_headed, arrange, pick, H1, e1, LIM, isKd_1]
    | false =>
      cases e2 : hdd d 2 with
      | true =>
        obtain ⟨w, a, rfl⟩ := hdd_2 e2
        rw [tdp_2] at hn
        simp only [th_tup, ths_cons, Bool.and_eq_true] at h
        have ia := fun M => run_law_is_plain (n' + 1) a M h.2.1 (by omega)
        have hw : PyData.strOk w = true := by simpa [th] using h.1
        rw [run_step l__law_is_kind rfl]
        simp [t__law_is_kind, start', en_call, en_dfl, d__law_is_headed, d__law_is_plain, arrange, pick, H1, e1, H2, e2, LIM, isKd_2, ia, cmp_ss hw ok_bag]
        cases q : decide (w = ("bag" : Str)) <;> simp at q <;> simp [q]
      | false =>
        cases e3 : hdd d 3 with
        | false =>
          rw [run_step l__law_is_kind rfl]
          simp [t__law_is_kind, start', en_call, en_dfl, d__law_is_headed, arrange, pick, H1, e1, H2, e2, H3, e3, hdd_no e1 e2 e3]
        | true =>
          obtain ⟨w, a, b, rfl⟩ := hdd_3 e3
          rw [tdp_3] at hn
          simp only [th_tup, ths_cons, Bool.and_eq_true] at h
          have ia := fun M => run_law_is_kind (n' + 1) a M h.2.1 (by omega)
          have ib := fun M => run_law_is_kind (n' + 1) b M h.2.2.1 (by omega)
          rw [isKd_3]
          rw [run_step l__law_is_kind rfl]
          simp [t__law_is_kind, start', en_call, en_dfl, d__law_is_headed, d__law_is_kind, arrange, pick, H1, e1, H2, e2, H3, e3, LIM]
          cases q : isIn w ["pair", "either", "fun"] with
          | false => simp
          | true =>
            simp [ia, ib]
            cases isKd a <;> simp
termination_by n => n
def Kd.hf : Kd → Bool
  | .fn _ _ => true
  | .pair a b => a.hf || b.hf
  | .either a b => a.hf || b.hf
  | _ => false
theorem pl_dt : ∀ {k : Kd}, k.pl = true → k.dt = true
  | .unit, _ => rfl
  | .num, _ => rfl
  | .pair a b, h => by simp only [Kd.pl, Kd.dt, Bool.and_eq_true] at *; exact ⟨pl_dt h.1, pl_dt h.2⟩
  | .either a b, h => by simp only [Kd.pl, Kd.dt, Bool.and_eq_true] at *; exact ⟨pl_dt h.1, pl_dt h.2⟩
  | .bag _, h => by simp [Kd.pl] at h
  | .fn _ _, h => by simp [Kd.pl] at h
theorem dt_hf : ∀ {k : Kd}, k.wf = true → k.dt = !k.hf
  | .unit, _ => rfl
  | .num, _ => rfl
  | .pair a b, h => by simp only [Kd.wf, Kd.dt, Kd.hf, Bool.and_eq_true, Bool.not_or] at *; rw [dt_hf h.1, dt_hf h.2]
  | .either a b, h => by simp only [Kd.wf, Kd.dt, Kd.hf, Bool.and_eq_true, Bool.not_or] at *; rw [dt_hf h.1, dt_hf h.2]
  | .bag _, h => by simp only [Kd.wf, Kd.dt, Kd.hf] at *; rw [pl_dt h]; rfl
  | .fn _ _, h => rfl
theorem run_has_fun (k : Kd) : ∀ n M, k.dp ≤ n → run P n (.fn "_law_has_fun") [enc k] M = .ok (.bl k.hf) M := by
  induction k with
  | pair a b iha ihb =>
    intro n M h; obtain ⟨n, rfl, h⟩ := succ_of h
    have h2 := fun M => iha n M (by omega)
    have h3 := fun M => ihb n M (by omega)
    rw [run_step l__law_has_fun rfl]
    simp [t__law_has_fun, start', enc, LIM, Kd.hf, isIn, cmp_ss ok_pair ok_fun, h2, h3, en_call, en_dfl, d__law_has_fun, arrange, pick]
    cases a.hf <;> simp
  | either a b iha ihb =>
    intro n M h; obtain ⟨n, rfl, h⟩ := succ_of h
    have h2 := fun M => iha n M (by omega)
    have h3 := fun M => ihb n M (by omega)
    rw [run_step l__law_has_fun rfl]
    simp [t__law_has_fun, start', enc, LIM, Kd.hf, isIn, cmp_ss ok_either ok_fun, h2, h3, en_call, en_dfl, d__law_has_fun, arrange, pick]
    cases a.hf <;> simp
  | unit =>
    intro n M h; obtain ⟨n, rfl, h⟩ := succ_of h
    rw [run_step l__law_has_fun rfl]
    simp [t__law_has_fun, start', enc, LIM, Kd.hf, isIn, cmp_ss ok_unit ok_fun]
  | num =>
    intro n M h; obtain ⟨n, rfl, h⟩ := succ_of h
    rw [run_step l__law_has_fun rfl]
    simp [t__law_has_fun, start', enc, LIM, Kd.hf, isIn, cmp_ss ok_num ok_fun]
  | bag a _ =>
    intro n M h; obtain ⟨n, rfl, h⟩ := succ_of h
    rw [run_step l__law_has_fun rfl]
    simp [t__law_has_fun, start', enc, LIM, Kd.hf, isIn, cmp_ss ok_bag ok_fun]
  | fn a b _ _ =>
    intro n M h; obtain ⟨n, rfl, h⟩ := succ_of h
    rw [run_step l__law_has_fun rfl]
    simp [t__law_has_fun, start', enc, LIM, Kd.hf, isIn, cmp_ss ok_fun ok_fun]
theorem isKd_ex {d : D} (h : isKd d = true) : ∃ k : Kd, k.wf = true ∧ enc k = d := by
  unfold isKd at h
  exact @of_decide_eq_true _ (Classical.propDecidable _) h
/-- a kind of such a sort -/
noncomputable def isK (f : Kd → Bool) (d : D) : Bool := @decide (∃ k : Kd, k.wf = true ∧ f k = true ∧ enc k = d) (Classical.propDecidable _)
theorem isK_enc {f : Kd → Bool} {k : Kd} (h : k.wf = true) : isK f (enc k) = f k := by
  unfold isK
  cases e : f k with
  | true => exact @decide_eq_true _ (Classical.propDecidable _) ⟨k, h, e, rfl⟩
  | false => exact @decide_eq_false _ (Classical.propDecidable _) fun ⟨l, h1, h2, h3⟩ => by rw [enc_inj h3, e] at h2; cases h2
theorem isK_no {f : Kd → Bool} {d : D} (h : isKd d = false) : isK f d = false := by
  unfold isK
  refine @decide_eq_false _ (Classical.propDecidable _) fun ⟨l, h1, h2, h3⟩ => ?_
  rw [← h3, isKd_enc, h1] at h
  cases h
theorem run_law_is_data {d : D} {n : Nat} {M : Mem} (h : th d = true) (hn : tdp d + 3 ≤ n) : run P n (.fn "_law_is_data") [d] M = .ok (.bl (isK Kd.dt d)) M := by
  obtain ⟨n, rfl, hn⟩ := succ_of hn
  have H := fun M => run_law_is_kind n d M h (by omega)
  rw [run_step l__law_is_data rfl]
  cases e : isKd d with
  | false => simp [t__law_is_data, start', en_call, en_dfl, d__law_is_kind, arrange, pick, H, e, isK_no e]
  | true =>
    obtain ⟨k, hk, rfl⟩ := isKd_ex e
    rw [enc_tdp] at hn
    have H2 := fun M => run_has_fun k n M (by omega)
    simp [t__law_is_data, start', en_call, en_dfl, d__law_is_kind, d__law_has_fun, arrange, pick, H, e, H2, isK_enc hk, dt_hf hk]
    cases k.hf <;> simp
theorem run_law_is_group : ∀ (n : Nat) (d : D) (M : Mem), th d = true → tdp d + 3 ≤ n → run P n (.fn "_law_is_group") [d] M = .ok (.bl (isK Kd.gr d)) M
  | n, d, M, h, hn => by
    obtain ⟨n, rfl, hn⟩ := succ_of hn
    have H := fun M => run_law_is_kind n d M h (by omega)
    rw [run_step l__law_is_group rfl]
    cases e : isKd d with
    | false => simp [t__law_is_group, start', en_call, en_dfl, d__law_is_kind, arrange, pick, H, e, isK_no e]
    | true =>
      obtain ⟨k, hk, rfl⟩ := isKd_ex e
      rw [isK_enc hk]
      cases k with
      | pair a b =>
        simp only [Kd.wf, Bool.and_eq_true] at hk
        rw [enc_tdp] at hn
        simp only [Kd.dp] at hn
        have ia := fun M => run_law_is_group n (enc a) M (enc_th a) (by rw [enc_tdp]; omega)
        have ib := fun M => run_law_is_group n (enc b) M (enc_th b) (by rw [enc_tdp]; omega)
        rw [isK_enc hk.1] at ia
        rw [isK_enc hk.2] at ib
        rw [enc] at H e ⊢
        simp [t__law_is_group, start', en_call, en_dfl, d__law_is_kind, d__law_is_group, arrange, pick, H, e, ia, ib, Kd.gr, LIM, cmp_ss ok_pair ok_pair]
        cases a.gr <;> simp
      | unit => rw [enc] at H e ⊢; simp [t__law_is_group, start', en_call, en_dfl, d__law_is_kind, arrange, pick, H, e, Kd.gr, LIM, isIn, cmp_ss ok_unit ok_pair]
      | num => rw [enc] at H e ⊢; simp [t__law_is_group, start', en_call, en_dfl, d__law_is_kind, arrange, pick, H, e, Kd.gr, LIM, isIn, cmp_ss ok_num ok_pair]
      | bag a => rw [enc] at H e ⊢; simp [t__law_is_group, start', en_call, en_dfl, d__law_is_kind, arrange, pick, H, e, Kd.gr, LIM, isIn, cmp_ss ok_bag ok_pair]
      | either a b => rw [enc] at H e ⊢; simp [t__law_is_group, start', en_call, en_dfl, d__law_is_kind, arrange, pick, H, e, Kd.gr, LIM, isIn, cmp_ss ok_either ok_pair]
      | fn a b => rw [enc] at H e ⊢; simp [t__law_is_group, start', en_call, en_dfl, d__law_is_kind, arrange, pick, H, e, Kd.gr, LIM, isIn, cmp_ss ok_fun ok_pair]
termination_by n => n
end Cw

set_option Elab.async false
set_option linter.all false
set_option maxRecDepth 100000
set_option maxHeartbeats 1000000
namespace Cw
open Ev
open PySem (Str PyData)
def KS : D := .dct [(.str "unit", .int 1), (.str "num", .int 1), (.str "pair", .int 3), (.str "either", .int 3), (.str "bag", .int 2), (.str "fun", .int 3)]
theorem G_KS : P.G ("KIND_SIZES" : Str) = some KS := by rfl
def sizes (w : Str) : Int := if isIn w ["unit", "num"] then 1 else if isIn w ["pair", "either", "fun"] then 3 else if w = "bag" then 2 else 0
theorem sizes_1 {w : Str} (h : sizes w = 1) : isIn w ["unit", "num"] = true := by
  unfold sizes at h
  cases e : isIn w ["unit", "num"] with
  | true => rfl
  | false => rw [e] at h; simp at h; split at h; omega; split at h <;> omega
theorem sizes_2 {w : Str} (h : sizes w = 2) : w = "bag" := by
  unfold sizes at h
  split at h
  · omega
  · split at h
    · omega
    · split at h
      · assumption
      · omega
theorem sizes_3 {w : Str} (h : sizes w = 3) : isIn w ["pair", "either", "fun"] = true := by
  unfold sizes at h
  split at h
  · omega
  · split at h
    · assumption
    · split at h <;> omega
theorem sizes_le {w : Str} : sizes w ≤ 3 := by
  unfold sizes
  split
  · omega
  · split
    · omega
    · split <;> omega
theorem sizes_bag : sizes "bag" = 2 := by simp [sizes, isIn]
theorem kget_nil {k : D} : kget [] k = none := rfl
theorem kget_cons {k a b : D} {l : List (D × D)} : kget ((a, b) :: l) k = if a.nk = k.nk then some b else kget l k := by
  unfold kget
  by_cases h : a.nk = k.nk
  · rw [List.find?_cons_of_pos (by simpa using h), if_pos h]; rfl
  · rw [List.find?_cons_of_neg (by simpa using h), if_neg h]
theorem get_KS {w : Str} {M : Mem} : metD .get KS [.str w, .int 0] M = .ok (.int (sizes w)) M := by
  have hk : kOk [(.str "unit", .int 1), (.str "num", .int 1), (.str "pair", .int 3), (.str "either", .int 3), (.str "bag", .int 2), (.str "fun", .int 3)] (.str w) = true := rfl
  unfold KS metD
  simp only [hk, if_true, kget_cons, kget_nil, D.nk, PySem.NestedKey.text.injEq]
  unfold sizes isIn
  by_cases h1 : ("unit" : Str) = w
  · subst h1; simp
  · by_cases h2 : ("num" : Str) = w
    · subst h2; simp [isIn]
    · by_cases h3 : ("pair" : Str) = w
      · subst h3; simp [isIn]
      · by_cases h4 : ("either" : Str) = w
        · subst h4; simp [isIn]
        · by_cases h5 : ("bag" : Str) = w
          · subst h5; simp [isIn]
          · by_cases h6 : ("fun" : Str) = w
            · subst h6; simp [isIn]
            · have h5' : ¬ w = ("bag" : Str) := fun e => h5 e.symm
              simp [isIn, h1, h2, h3, h4, h5, h6, h5']
theorem rec_KS {M : Mem} : recD .get M KS = true := rfl
theorem isKdN_0 {d : D} : isKdN 0 d = false := by
  unfold isKdN
  refine @decide_eq_false _ (Classical.propDecidable _) fun ⟨k, _, h, _⟩ => ?_
  have := dp_pos k
  omega
theorem isKdN_no {d : D} {m : Nat} (h : isKd d = false) : isKdN m d = false := by
  unfold isKdN
  refine @decide_eq_false _ (Classical.propDecidable _) fun ⟨k, h1, _, h3⟩ => ?_
  rw [← h3, isKd_enc, h1] at h
  cases h
theorem isKdN_enc {k : Kd} {m : Nat} (h : k.wf = true) : isKdN m (enc k) = decide (k.dp ≤ m) := by
  unfold isKdN
  by_cases e : k.dp ≤ m
  · rw [decide_eq_true e]
    exact @decide_eq_true _ (Classical.propDecidable _) ⟨k, h, e, rfl⟩
  · rw [decide_eq_false e]
    exact @decide_eq_false _ (Classical.propDecidable _) fun ⟨l, h1, h2, h3⟩ => by rw [enc_inj h3] at h2; exact e h2
theorem isKdN_1 {w : Str} {m : Nat} : isKdN (m + 1) (.tup [.str w]) = isIn w ["unit", "num"] := by
  cases e : isKd (.tup [.str w]) with
  | false => rw [isKdN_no e, ← isKd_1, e]
  | true =>
    obtain ⟨k, hk, h⟩ := isKd_ex e
    rw [← isKd_1, e, ← h, isKdN_enc hk]
    cases k <;> simp [enc] at h <;> simp [Kd.dp]
theorem isKdN_2 {a : D} {m : Nat} : isKdN (m + 1) (.tup [.str "bag", a]) = (isKdN m a && isPl a) := by
  cases e : isPl a with
  | false => rw [isKdN_no (by rw [isKd_bag, e])]; simp
  | true =>
    obtain ⟨k, hk, rfl⟩ : ∃ k : Kd, k.pl = true ∧ enc k = a := by
      unfold isPl at e
      exact @of_decide_eq_true _ (Classical.propDecidable _) e
    have : D.tup [.str "bag", enc k] = enc (.bag k) := rfl
    rw [this, isKdN_enc (k := .bag k) hk, isKdN_enc (pl_wf hk)]
    simp [Kd.dp]
theorem isKdN_3 {w : Str} {a b : D} {m : Nat} (hw : isIn w ["pair", "either", "fun"] = true) : isKdN (m + 1) (.tup [.str w, a, b]) = (isKdN m a && isKdN m b) := by
  have hk : isKd (.tup [.str w, a, b]) = (isKd a && isKd b) := by rw [isKd_3, hw]; rfl
  cases e : isKd a with
  | false => rw [isKdN_no (by rw [hk, e]; rfl), isKdN_no e]; rfl
  | true =>
    cases e2 : isKd b with
    | false => rw [isKdN_no (by rw [hk, e, e2]; rfl), isKdN_no e2]; simp
    | true =>
      obtain ⟨k, h1, rfl⟩ := isKd_ex e
      obtain ⟨l, h2, rfl⟩ := isKd_ex e2
      rw [isKdN_enc h1, isKdN_enc h2]
      simp [isIn] at hw
      have fin : ∀ (q : Kd), q.wf = true → q.dp = max k.dp l.dp + 1 → isKdN (m + 1) (enc q) = (decide (k.dp ≤ m) && decide (l.dp ≤ m)) := fun q h1 h2 => by
        rw [isKdN_enc h1, h2, Bool.eq_iff_iff]
        simp only [decide_eq_true_eq, Bool.and_eq_true]
        omega
      rcases hw with rfl | rfl | rfl
      · exact fin (.pair k l) (by simp [Kd.wf, h1, h2]) rfl
      · exact fin (.either k l) (by simp [Kd.wf, h1, h2]) rfl
      · exact fin (.fn k l) (by simp [Kd.wf, h1, h2]) rfl
theorem cast_sub (m : Nat) : ((m + 1 : Nat) : Int) - 1 = (m : Int) := by omega
theorem isPl_ex {d : D} (h : isPl d = true) : ∃ k : Kd, k.pl = true ∧ enc k = d := by
  unfold isPl at h
  exact @of_decide_eq_true _ (Classical.propDecidable _) h
theorem run_is_kinded : ∀ (n : Nat) (d : D) (m : Nat) (M : Mem), th d = true → tdp d + 2 ≤ n → run P n (.fn "is_kinded") [d, .int m] M = .ok (.bl (isKdN m d)) M
  | n, d, m, M, h, hn => by
    obtain ⟨n, rfl, hn⟩ := succ_of hn
    rw [run_step l_is_kinded rfl]
    cases m with
    | zero => simp [t_is_kinded, start', isKdN_0]
    | succ m =>
      have nz : ¬ ((m : Int) + 1 = 0) := by omega
      cases hh : headed d with
      | false =>
        rw [isKdN_no (isKd_head hh)]
        cases d with
        | tup l =>
          cases l with
          | nil => simp [t_is_kinded, start', nz, isi_tup h]
          | cons x r =>
            have hx : th x = true := by simp [th, ths] at h; exact h.1
            cases x <;> simp [headed] at hh <;> simp [t_is_kinded, start', nz, isi_tup h, isi_str hx, LIM]
        | _ => simp [t_is_kinded, start', nz, isi_tup h]
      | true =>
        obtain ⟨w, r, rfl⟩ : ∃ w r, d = .tup (.str w :: r) := by
          unfold headed at hh
          split at hh
          · exact ⟨_, _, rfl⟩
          · cases hh
        simp only [th_tup, ths_cons, Bool.and_eq_true] at h
        have hw : PyData.strOk w = true := by simpa [th] using h.1
        have hx : th (.str w) = true := by simp [th, hw]
        have hd : th (.tup (.str w :: r)) = true := by simp [th, ths, hw, h.2]
        by_cases hs : ((r.length : Int) + 1) = sizes w
        · -- as many parts as told
          match r, hs, h.2, hn with
          | [], hs, _, _ =>
            have hu : isIn w ["unit", "num"] = true := sizes_1 (by simp at hs; exact hs.symm)
            have nb : ¬ w = "bag" := fun e => by subst e; simp [isIn] at hu
            rw [isKdN_1, hu]
            simp at hs
            simp [t_is_kinded, start', nz, isi_tup hd, isi_str hx, LIM, en_G, G_KS, rec_KS, get_KS, ← hs, wipe', cmp_ne hw ok_bag, nb]
          | [a], hs, h2, hn =>
            have hu : w = "bag" := sizes_2 (by simp at hs; omega)
            subst hu
            rw [tdp_2] at hn
            have h3 : th a = true := by simp [ths] at h2; exact h2
            have ia := fun M => run_is_kinded n a m M h3 (by omega)
            rw [isKdN_2]
            have hb : sizes "bag" = 2 := sizes_bag
            cases e : isKdN m a with
            | false => simp [t_is_kinded, start', nz, isi_tup hd, isi_str hx, LIM, en_G, G_KS, rec_KS, get_KS, hb, wipe', compL_cons, en_call, en_dfl, d_is_kinded, arrange, pick, cast_sub, ia, e]
            | true =>
              obtain ⟨k, hk, rfl⟩ : ∃ k : Kd, k.wf = true ∧ enc k = a := by
                cases q : isKd a with
                | true => exact isKd_ex q
                | false => rw [isKdN_no q] at e; cases e
              rw [enc_tdp] at hn
              have ip := fun M => run_is_plain k n M (by omega)
              simp [t_is_kinded, start', nz, isi_tup hd, isi_str hx, LIM, en_G, G_KS, rec_KS, get_KS, hb, wipe', compL_cons, en_call, en_dfl, d_is_kinded, d_is_plain, arrange, pick, cast_sub, ia, e, ip, isPl_enc, cmp_ne ok_bag ok_bag]
          | [a, b], hs, h2, hn =>
            have hu : isIn w ["pair", "either", "fun"] = true := sizes_3 (by simp at hs; omega)
            have nb : ¬ w = "bag" := fun e => by subst e; simp [isIn] at hu
            rw [tdp_3] at hn
            simp only [ths_cons, Bool.and_eq_true] at h2
            have ia := fun M => run_is_kinded n a m M h2.1 (by omega)
            have ib := fun M => run_is_kinded n b m M h2.2.1 (by omega)
            rw [isKdN_3 hu]
            simp at hs
            simp [t_is_kinded, start', nz, isi_tup hd, isi_str hx, LIM, en_G, G_KS, rec_KS, get_KS, ← hs, wipe', compL_cons, en_call, en_dfl, d_is_kinded, arrange, pick, cast_sub, ia, ib, cmp_ne hw ok_bag, nb]
            cases isKdN m a <;> cases isKdN m b <;> simp
          | a :: b :: c :: r, hs, _, _ =>
            exfalso
            have := sizes_le (w := w)
            simp at hs
            omega
        · have no : isKd (.tup (.str w :: r)) = false := by
            refine isKd_no ?_
            unfold sizes at hs
            cases q1 : isIn w ["unit", "num"] with
            | true =>
              rw [q1] at hs; simp at hs
              have a1 : isIn w ["pair", "either", "fun"] = false := by
                simp [isIn] at q1; rcases q1 with rfl | rfl <;> simp [isIn]
              have a2 : ¬ w = "bag" := by
                simp [isIn] at q1; rcases q1 with rfl | rfl <;> simp
              simp [a1, a2]; intro e; subst e; simp at hs
            | false =>
              rw [q1] at hs
              cases q2 : isIn w ["pair", "either", "fun"] with
              | true =>
                rw [q2] at hs; simp at hs
                have a2 : ¬ w = "bag" := by
                  simp [isIn] at q2; rcases q2 with rfl | rfl | rfl <;> simp
                simp [a2]; omega
              | false =>
                rw [q2] at hs
                by_cases q3 : w = "bag"
                · simp [q3] at hs; simp [q3]; omega
                · simp [q3]
          rw [isKdN_no no]
          simp [t_is_kinded, start', nz, isi_tup hd, isi_str hx, LIM, en_G, G_KS, rec_KS, get_KS, hs]
termination_by n => n
end Cw

set_option Elab.async false
set_option linter.all false
set_option maxRecDepth 100000
set_option maxHeartbeats 1000000
namespace Cw
open Ev
open PySem (Str PyData)
theorem l_is_kind : P.fns.lookup ("is_kind" : Str) = some t_is_kind := by rfl
theorem d_is_kind : P.dfl ("is_kind" : Str) = [] := by rfl
theorem l_is_plain_kind : P.fns.lookup ("is_plain_kind" : Str) = some t_is_plain_kind := by rfl
theorem d_is_plain_kind : P.dfl ("is_plain_kind" : Str) = [] := by rfl
theorem l_is_data_kind : P.fns.lookup ("is_data_kind" : Str) = some t_is_data_kind := by rfl
theorem d_is_data_kind : P.dfl ("is_data_kind" : Str) = [] := by rfl
theorem l_is_group_kind : P.fns.lookup ("is_group_kind" : Str) = some t_is_group_kind := by rfl
theorem d_is_group_kind : P.dfl ("is_group_kind" : Str) = [] := by rfl
theorem l_depth_of_kind : P.fns.lookup ("depth_of_kind" : Str) = some t_depth_of_kind := by rfl
theorem d_depth_of_kind : P.dfl ("depth_of_kind" : Str) = [] := by rfl
theorem l_check_kind : P.fns.lookup ("check_kind" : Str) = some t_check_kind := by rfl
theorem d_check_kind : P.dfl ("check_kind" : Str) = [] := by rfl
theorem l__law_told : P.fns.lookup ("_law_told" : Str) = some t__law_told := by rfl
theorem d__law_told : P.dfl ("_law_told" : Str) = [] := by rfl
theorem l__law_due : P.fns.lookup ("_law_due" : Str) = some t__law_due := by rfl
theorem d__law_due : P.dfl ("_law_due" : Str) = [] := by rfl
theorem l__law_same : P.fns.lookup ("_law_same" : Str) = some t__law_same := by rfl
theorem d__law_same : P.dfl ("_law_same" : Str) = [] := by rfl
section
variable {d : D} {n : Nat} {M : Mem}
theorem run_is_kinded1 (h : th d = true) (hn : tdp d + 2 ≤ n) : run P n (.fn "is_kinded") [d, .int 100] M = .ok (.bl (isKdN 100 d)) M := run_is_kinded n d 100 M h hn
theorem run_is_kind (h : th d = true) (hn : tdp d + 3 ≤ n) : run P n (.fn "is_kind") [d] M = .ok (.bl (isKdN 100 d)) M := by
  obtain ⟨n, rfl, hn⟩ := succ_of hn
  have H := fun M => run_is_kinded1 (M := M) (n := n) h (by omega)
  rw [run_step l_is_kind rfl]
  simp [t_is_kind, start', en_call, en_dfl, d_is_kinded, arrange, pick, H]
theorem isKdN_ex {m : Nat} (h : isKdN m d = true) : ∃ k : Kd, k.wf = true ∧ k.dp ≤ m ∧ enc k = d := by
  unfold isKdN at h
  exact @of_decide_eq_true _ (Classical.propDecidable _) h
theorem run_is_plain_kind (h : th d = true) (hn : tdp d + 3 ≤ n) : run P n (.fn "is_plain_kind") [d] M = .ok (.bl (isKdN 100 d && isPl d)) M := by
  obtain ⟨n, rfl, hn⟩ := succ_of hn
  have H := fun M => run_is_kinded1 (M := M) (n := n) h (by omega)
  rw [run_step l_is_plain_kind rfl]
  cases e : isKdN 100 d with
  | false => simp [t_is_plain_kind, start', en_call, en_dfl, d_is_kinded, arrange, pick, H, e]
  | true =>
    obtain ⟨k, h1, h2, rfl⟩ := isKdN_ex e
    rw [enc_tdp] at hn
    have H2 := fun M => run_is_plain k n M (by omega)
    simp [t_is_plain_kind, start', en_call, en_dfl, d_is_kinded, d_is_plain, arrange, pick, H, e, H2, isPl_enc]
theorem run_is_data_kind (h : th d = true) (hn : tdp d + 3 ≤ n) : run P n (.fn "is_data_kind") [d] M = .ok (.bl (isKdN 100 d && isK Kd.dt d)) M := by
  obtain ⟨n, rfl, hn⟩ := succ_of hn
  have H := fun M => run_is_kinded1 (M := M) (n := n) h (by omega)
  rw [run_step l_is_data_kind rfl]
  cases e : isKdN 100 d with
  | false => simp [t_is_data_kind, start', en_call, en_dfl, d_is_kinded, arrange, pick, H, e]
  | true =>
    obtain ⟨k, h1, h2, rfl⟩ := isKdN_ex e
    rw [enc_tdp] at hn
    have H2 := fun M => run_is_data k n M (by omega)
    simp [t_is_data_kind, start', en_call, en_dfl, d_is_kinded, d_is_data, arrange, pick, H, e, H2, isK_enc h1]
theorem run_is_group_kind (h : th d = true) (hn : tdp d + 3 ≤ n) : run P n (.fn "is_group_kind") [d] M = .ok (.bl (isKdN 100 d && isK Kd.gr d)) M := by
  obtain ⟨n, rfl, hn⟩ := succ_of hn
  have H := fun M => run_is_kinded1 (M := M) (n := n) h (by omega)
  rw [run_step l_is_group_kind rfl]
  cases e : isKdN 100 d with
  | false => simp [t_is_group_kind, start', en_call, en_dfl, d_is_kinded, arrange, pick, H, e]
  | true =>
    obtain ⟨k, h1, h2, rfl⟩ := isKdN_ex e
    rw [enc_tdp] at hn
    have H2 := fun M => run_is_group k n M (by omega)
    simp [t_is_group_kind, start', en_call, en_dfl, d_is_kinded, d_is_group, arrange, pick, H, e, H2, isK_enc h1]
/-! depth -/
variable {call : D → List D → Mem → Res D}
theorem max_1 {a : Int} : bltD call .max [.lst [.int a]] M = .ok (.int a) M := rfl
theorem max_2 {a b : Int} : bltD call .max [.lst [.int a, .int b]] M = .ok (.int (if a < b then b else a)) M := rfl
theorem max_3 {a b c : Int} : bltD call .max [.lst [.int a, .int b, .int c]] M = .ok (.int (if (if a < b then b else a) < c then c else (if a < b then b else a))) M := rfl
theorem run_kind_depth (k : Kd) : ∀ n M, k.dp ≤ n → run P n (.fn "kind_depth") [enc k] M = .ok (.int k.dp) M := by
  induction k with
  | unit =>
    intro n M h; obtain ⟨n, rfl, h⟩ := succ_of h
    rw [run_step l_kind_depth rfl]
    simp [t_kind_depth, start', enc, LIM, wipe', add_ll, max_1, Kd.dp]
  | num =>
    intro n M h; obtain ⟨n, rfl, h⟩ := succ_of h
    rw [run_step l_kind_depth rfl]
    simp [t_kind_depth, start', enc, LIM, wipe', add_ll, max_1, Kd.dp]
  | bag a ih =>
    intro n M h; obtain ⟨n, rfl, h⟩ := succ_of h
    have h2 := fun M => ih n M (by omega)
    have := dp_pos a
    rw [run_step l_kind_depth rfl]
    simp [t_kind_depth, start', enc, LIM, wipe', add_ll, max_2, Kd.dp, compL_cons, h2, en_call, en_dfl, d_kind_depth, arrange, pick]
    split <;> omega
  | pair a b iha ihb =>
    intro n M h; obtain ⟨n, rfl, h⟩ := succ_of h
    have h2 := fun M => iha n M (by omega)
    have h3 := fun M => ihb n M (by omega)
    have := dp_pos a
    rw [run_step l_kind_depth rfl]
    simp [t_kind_depth, start', enc, LIM, wipe', add_ll, max_3, Kd.dp, compL_cons, h2, h3, en_call, en_dfl, d_kind_depth, arrange, pick]
    split <;> split <;> omega
  | either a b iha ihb =>
    intro n M h; obtain ⟨n, rfl, h⟩ := succ_of h
    have h2 := fun M => iha n M (by omega)
    have h3 := fun M => ihb n M (by omega)
    have := dp_pos a
    rw [run_step l_kind_depth rfl]
    simp [t_kind_depth, start', enc, LIM, wipe', add_ll, max_3, Kd.dp, compL_cons, h2, h3, en_call, en_dfl, d_kind_depth, arrange, pick]
    split <;> split <;> omega
  | fn a b iha ihb =>
    intro n M h; obtain ⟨n, rfl, h⟩ := succ_of h
    have h2 := fun M => iha n M (by omega)
    have h3 := fun M => ihb n M (by omega)
    have := dp_pos a
    rw [run_step l_kind_depth rfl]
    simp [t_kind_depth, start', enc, LIM, wipe', add_ll, max_3, Kd.dp, compL_cons, h2, h3, en_call, en_dfl, d_kind_depth, arrange, pick]
    split <;> split <;> omega
theorem run_deep_kind (k : Kd) : ∀ n M, k.dp ≤ n → run P n (.fn "_law_deep_kind") [enc k] M = .ok (.int k.dp) M := by
  induction k with
  | unit =>
    intro n M h; obtain ⟨n, rfl, h⟩ := succ_of h
    rw [run_step l__law_deep_kind rfl]
    simp [t__law_deep_kind, start', enc, LIM, isIn, Kd.dp]
  | num =>
    intro n M h; obtain ⟨n, rfl, h⟩ := succ_of h
    rw [run_step l__law_deep_kind rfl]
    simp [t__law_deep_kind, start', enc, LIM, isIn, Kd.dp]
  | bag a ih =>
    intro n M h; obtain ⟨n, rfl, h⟩ := succ_of h
    have h2 := fun M => ih n M (by omega)
    have := dp_pos a
    rw [run_step l__law_deep_kind rfl]
    simp [t__law_deep_kind, start', enc, LIM, isIn, wipe', max_1, Kd.dp, compL_cons, h2, en_call, en_dfl, d__law_deep_kind, arrange, pick]
    try omega
  | pair a b iha ihb =>
    intro n M h; obtain ⟨n, rfl, h⟩ := succ_of h
    have h2 := fun M => iha n M (by omega)
    have h3 := fun M => ihb n M (by omega)
    rw [run_step l__law_deep_kind rfl]
    simp [t__law_deep_kind, start', enc, LIM, isIn, wipe', max_2, Kd.dp, compL_cons, h2, h3, en_call, en_dfl, d__law_deep_kind, arrange, pick]
    split <;> omega
  | either a b iha ihb =>
    intro n M h; obtain ⟨n, rfl, h⟩ := succ_of h
    have h2 := fun M => iha n M (by omega)
    have h3 := fun M => ihb n M (by omega)
    rw [run_step l__law_deep_kind rfl]
    simp [t__law_deep_kind, start', enc, LIM, isIn, wipe', max_2, Kd.dp, compL_cons, h2, h3, en_call, en_dfl, d__law_deep_kind, arrange, pick]
    split <;> omega
  | fn a b iha ihb =>
    intro n M h; obtain ⟨n, rfl, h⟩ := succ_of h
    have h2 := fun M => iha n M (by omega)
    have h3 := fun M => ihb n M (by omega)
    rw [run_step l__law_deep_kind rfl]
    simp [t__law_deep_kind, start', enc, LIM, isIn, wipe', max_2, Kd.dp, compL_cons, h2, h3, en_call, en_dfl, d__law_deep_kind, arrange, pick]
    split <;> omega
theorem run_check_kind {k : Kd} (hk : k.wf = true) (h : k.dp ≤ 100) (hn : k.dp + 3 ≤ n) : run P n (.fn "check_kind") [enc k] M = .ok .non M := by
  obtain ⟨n, rfl, hn⟩ := succ_of hn
  have H := fun M => run_is_kinded1 (M := M) (enc_th k) (n := n) (by rw [enc_tdp]; omega)
  have e : isKdN 100 (enc k) = true := by rw [isKdN_enc hk]; simpa using h
  rw [run_step l_check_kind rfl]
  simp [t_check_kind, start', en_call, en_dfl, d_is_kinded, arrange, pick, H, e]
theorem run_depth_of_kind {k : Kd} (hk : k.wf = true) (h : k.dp ≤ 100) (hn : k.dp + 4 ≤ n) : run P n (.fn "depth_of_kind") [enc k] M = .ok (.int k.dp) M := by
  obtain ⟨n, rfl, hn⟩ := succ_of hn
  have H := fun M => run_check_kind (M := M) (n := n) hk h (by omega)
  have H2 := fun M => run_kind_depth k n M (by omega)
  rw [run_step l_depth_of_kind rfl]
  simp [t_depth_of_kind, start', en_call, en_dfl, d_check_kind, d_kind_depth, arrange, pick, H, H2]
/-! told, due, same -/
theorem leave_lst {l : List D} (h : unds M.length l = true) : leave .drop M.length (.lst l) M = .ok (.lst l) M := leave_und (by simpa [D.und] using h) rfl
noncomputable def dueL (d : D) : List D := if isKdN 100 d then [.bl true, .bl (isPl d), .bl (isK Kd.dt d), .bl (isK Kd.gr d)] else [.bl false, .bl false, .bl false, .bl false]
theorem isKdN_kd {m : Nat} (h : isKd d = false) : isKdN m d = false := isKdN_no h
theorem run_told (h : th d = true) (hn : tdp d + 4 ≤ n) : run P n (.fn "_law_told") [d] M = .ok (.lst (dueL d)) M := by
  obtain ⟨n, rfl, hn⟩ := succ_of hn
  have H1 := fun M => run_is_kind (M := M) (n := n) h (by omega)
  have H2 := fun M => run_is_plain_kind (M := M) (n := n) h (by omega)
  have H3 := fun M => run_is_data_kind (M := M) (n := n) h (by omega)
  have H4 := fun M => run_is_group_kind (M := M) (n := n) h (by omega)
  rw [run_step l__law_told rfl]
  simp [t__law_told, start', en_call, en_dfl, d_is_kind, d_is_plain_kind, d_is_data_kind, d_is_group_kind, arrange, pick, H1, H2, H3, H4, LIM]
  rw [leave_lst (by simp [unds, D.und])]
  unfold dueL
  cases isKdN 100 d <;> simp
theorem mul_4 : binD .Mult (.lst [.bl false]) (.int 4) M = .ok (.lst [.bl false, .bl false, .bl false, .bl false]) M := rfl
theorem run_due (h : th d = true) (hn : tdp d + 4 ≤ n) : run P n (.fn "_law_due") [d] M = .ok (.lst (dueL d)) M := by
  obtain ⟨n, rfl, hn⟩ := succ_of hn
  have H1 := fun M => run_law_is_kind n d M h (by omega)
  have H2 := fun M => run_law_is_plain n d M h (by omega)
  have H3 := fun M => run_law_is_data (n := n) (M := M) h (by omega)
  have H4 := fun M => run_law_is_group n d M h (by omega)
  rw [run_step l__law_due rfl]
  cases e : isKd d with
  | false =>
    simp [t__law_due, start', en_call, en_dfl, d__law_is_kind, arrange, pick, H1, e, LIM, mul_4]
    rw [leave_lst (by simp [unds, D.und]), dueL, isKdN_no e]
    simp
  | true =>
    obtain ⟨k, hk, rfl⟩ := isKd_ex e
    rw [enc_tdp] at hn
    have H5 := fun M => run_deep_kind k n M (by omega)
    by_cases q : k.dp ≤ 100
    · have q' : ¬ (100 < (k.dp : Int)) := by omega
      simp [t__law_due, start', en_call, en_dfl, d__law_is_kind, d__law_deep_kind, d__law_is_plain, d__law_is_data, d__law_is_group, arrange, pick, H1, e, LIM, H5, q', H2, H3, H4]
      rw [leave_lst (by simp [unds, D.und]), dueL, isKdN_enc hk, decide_eq_true q]
      simp
    · have q' : 100 < (k.dp : Int) := by omega
      simp [t__law_due, start', en_call, en_dfl, d__law_is_kind, d__law_deep_kind, arrange, pick, H1, e, LIM, H5, q', mul_4]
      rw [leave_lst (by simp [unds, D.und]), dueL, isKdN_enc hk, decide_eq_false q]
      simp
def rpOk (x : D) : Bool := match x.py with
  | some p => p.showable && decide (p.depth ≤ 60) && decide (p.shown.length ≤ LIM) && PyData.strOk p.shown
  | none => false
theorem top_py {x : D} (h : rpOk x = true) : x.top M = x := by
  cases x <;> first | rfl | (simp [rpOk, D.py] at h)
theorem run_same {x : D} (h : rpOk x = true) : run P (n + 1) (.fn "_law_same") [x, x] M = .ok (.bl true) M := by
  have ht := top_py (M := M) h
  unfold rpOk at h
  cases e : x.py with
  | none => rw [e] at h; cases h
  | some p =>
    rw [e] at h
    simp only [Bool.and_eq_true, decide_eq_true_eq] at h
    obtain ⟨⟨⟨h1, h2⟩, h3⟩, h4⟩ := h
    have rp : bltD (run P n) .repr [x] M = .ok (.str p.shown) M := by
      unfold bltD
      simp only [ht, e, h1, h2, h3, decide_true, Bool.and_self, if_true]
    rw [run_step l__law_same rfl]
    simp [t__law_same, start', en_call, rp, cmp_ss h4 h4]
theorem rp_due : rpOk (.lst (dueL d)) = true := by
  unfold dueL
  cases isKdN 100 d with
  | false => rw [if_neg Bool.false_ne_true]; decide +kernel
  | true => rw [if_pos rfl]; cases isPl d <;> cases isK Kd.dt d <;> cases isK Kd.gr d <;> decide +kernel
end
end Cw

set_option Elab.async false
set_option linter.all false
set_option maxRecDepth 100000
set_option maxHeartbeats 1000000
namespace Cw
open Ev
open PySem (Str PyData)
def Wl (M : Mem) (j : Nat) : Prop := ∃ a b c e : Int, M[j]? = some (.lst [.int a, .int b, .int c, .int e])
/-- the well has turned; all else is as it was -/
structure Stp (j : Nat) (M M' : Mem) : Prop where
  len : M'.length = M.length
  wl : Wl M' j
  fr : ∀ i, i ≠ j → M'[i]? = M[i]?
theorem Stp.trans {j : Nat} {M M' M'' : Mem} (a : Stp j M M') (b : Stp j M' M'') : Stp j M M'' := ⟨b.1.trans a.1, b.2, fun i h => (b.3 i h).trans (a.3 i h)⟩
theorem Wl.lt {M : Mem} {j : Nat} (h : Wl M j) : j < M.length := by
  obtain ⟨_, _, _, _, h⟩ := h
  exact (List.getElem?_eq_some_iff.mp h).1
theorem Stp.refl {j : Nat} {M : Mem} (h : Wl M j) : Stp j M M := ⟨rfl, h, fun _ _ => rfl⟩
theorem l__law_draw : P.fns.lookup ("_law_draw" : Str) = some t__law_draw := by rfl
theorem d__law_draw : P.dfl ("_law_draw" : Str) = [] := by rfl
theorem l__law_pick : P.fns.lookup ("_law_pick" : Str) = some t__law_pick := by rfl
theorem d__law_pick : P.dfl ("_law_pick" : Str) = [] := by rfl
section
variable {M : Mem} {j n : Nat} {a b c e v : Int}
theorem set_0 (h : M[j]? = some (.lst [.int a, .int b, .int c, .int e])) : setD (.obj j) (.int 0) (.int v) M = some (M.set j (.lst [.int v, .int b, .int c, .int e])) := by
  simp [setD, h, L2.ixN, D.und]
theorem set_1 (h : M[j]? = some (.lst [.int a, .int b, .int c, .int e])) : setD (.obj j) (.int 1) (.int v) M = some (M.set j (.lst [.int a, .int v, .int c, .int e])) := by
  simp [setD, h, L2.ixN, D.und]
theorem set_2 (h : M[j]? = some (.lst [.int a, .int b, .int c, .int e])) : setD (.obj j) (.int 2) (.int v) M = some (M.set j (.lst [.int a, .int b, .int v, .int e])) := by
  simp [setD, h, L2.ixN, D.und]
theorem at_set {x : Cell} (h : j < M.length) : (M.set j x)[j]? = some x := List.getElem?_set_self h
theorem divmod_ii {call : D → List D → Mem → Res D} {x y : Int} (h : 0 < y) (k : y < 1073741824) : bltD call .divmod [.int x, .int y] M = .ok (.tup [.int (x / y), .int (x % y)]) M := by
  simp [bltD, h, k]
theorem run_draw {m : Int} (w : Wl M j) (h : 0 < m) (k : m < 1073741824) : ∃ r M', run P (n + 1) (.fn "_law_draw") [.obj j, .int m] M = .ok (.int r) M' ∧ 0 ≤ r ∧ r < m ∧ Stp j M M' := by
  have hj := w.lt
  obtain ⟨a, b, c, e, hM⟩ := w
  have i0 : idxD (.obj j) (.int 0) M = .ok (.int a) M := idx_obj (n := 0) hM rfl
  have i2 : idxD (.obj j) (.int 2) M = .ok (.int c) M := idx_obj (n := 2) hM rfl
  rw [run_step l__law_draw rfl]
  by_cases ha : 0 < a
  · refine ⟨a % m, M.set j (.lst [.int (a / m), .int b, .int c, .int e]), ?_, Int.emod_nonneg _ (by omega), Int.emod_lt_of_pos _ h, by simp, ⟨_, _, _, _, at_set hj⟩, fun i hi => List.getElem?_set_ne (Ne.symm hi)⟩
    simp [t__law_draw, start', i0, ha, divmod_ii h k, TL.len, set_0 hM]
    exact leave_und (by simp [D.und]) (by simp)
  · have hM1 := at_set (x := .lst [.int a, .int b, .int (c + 1), .int e]) hj
    generalize hm1 : M.set j (.lst [.int a, .int b, .int (c + 1), .int e]) = M1 at hM1
    have hl1 : M1.length = M.length := by rw [← hm1]; simp
    have i1' : idxD (.obj j) (.int 1) M1 = .ok (.int b) M1 := idx_obj (n := 1) hM1 rfl
    have i2' : idxD (.obj j) (.int 2) M1 = .ok (.int (c + 1)) M1 := idx_obj (n := 2) hM1 rfl
    have m1 : binD .Mult (.int 60017) (.int (c + 1)) M1 = .ok (.int (60017 * (c + 1))) M1 := mul_ii (by simp [i64])
    have m2 : binD .Mult (.int 37) (.int (c + 1)) M1 = .ok (.int (37 * (c + 1))) M1 := mul_ii (by simp [i64])
    generalize hs : (b + 60017 * (c + 1)) % 2147483563 = s
    have s0 : 0 ≤ s := by rw [← hs]; exact Int.emod_nonneg _ (by decide)
    have s1 : s < 2147483563 := by rw [← hs]; exact Int.emod_lt_of_pos _ (by decide)
    have m3 : binD .Mult (.int s) (.int (s % 5003 + 40013)) M1 = .ok (.int (s * (s % 5003 + 40013))) M1 := mul_ii (by
      have : i64 s = true := by unfold i64; exact decide_eq_true ⟨by omega, by omega⟩
      rw [this]; rfl)
    generalize ht : (s * (s % 5003 + 40013) + 37 * (c + 1)) % 2147483563 = t
    have hM2 := at_set (M := M1) (x := .lst [.int a, .int t, .int (c + 1), .int e]) (j := j) (by rw [hl1]; exact hj)
    have st := set_1 (v := t) hM1
    generalize hm2 : M1.set j (.lst [.int a, .int t, .int (c + 1), .int e]) = M2 at hM2 st
    have hl2 : M2.length = M.length := by rw [← hm2]; simp [hl1]
    have i3 : idxD (.obj j) (.int 1) M2 = .ok (.int t) M2 := idx_obj (n := 1) hM2 rfl
    refine ⟨(t / 647) % m, M2, ?_, Int.emod_nonneg _ (by omega), Int.emod_lt_of_pos _ h, hl2, ⟨_, _, _, _, hM2⟩, fun i hi => by rw [← hm2, List.getElem?_set_ne (Ne.symm hi), ← hm1, List.getElem?_set_ne (Ne.symm hi)]⟩
    simp [t__law_draw, start', i0, ha, i2, set_2 hM, hm1, i1', i2', m1, mod_ii, hs, m2, m3, ht, st, i3, div_ii, mod_ii h]
    exact leave_und (by simp [D.und]) hl2.symm
theorem run_pick {l : List D} (w : Wl M j) (h0 : l ≠ []) (h1 : l.length < 1000) (hu : unds M.length l = true) (hn : 2 ≤ n) : ∃ d M', run P n (.fn "_law_pick") [.obj j, .tup l] M = .ok d M' ∧ d ∈ l ∧ Stp j M M' := by
  obtain ⟨n, rfl⟩ : ∃ m, n = m + 1 + 1 := ⟨n - 2, by omega⟩
  have hp : 0 < l.length := List.length_pos_iff.mpr h0
  obtain ⟨r, M', hr, r0, r1, st⟩ := run_draw (n := n) (M := M) (m := l.length) w (by omega) (by omega)
  obtain ⟨k, rfl⟩ : ∃ k : Nat, r = k := ⟨r.toNat, by omega⟩
  have hk : k < l.length := by omega
  have hi : idxD (.tup l) (.int k) M' = .ok l[k] M' := idx_nat (by simp [hk])
  refine ⟨l[k], M', ?_, List.getElem_mem hk, st⟩
  rw [run_step l__law_pick rfl]
  simp [t__law_pick, start', en_call, en_dfl, d__law_draw, arrange, pick, hr, hi]
  refine leave_und ?_ st.1.symm
  rw [unds_all, List.all_eq_true] at hu
  exact hu _ (List.getElem_mem hk)
end
end Cw

set_option Elab.async false
set_option linter.all false
set_option maxRecDepth 100000
set_option maxHeartbeats 1000000
namespace Cw
open Ev
open PySem (Str PyData)
theorem l__law_plain : P.fns.lookup ("_law_plain" : Str) = some t__law_plain := by rfl
theorem d__law_plain : P.dfl ("_law_plain" : Str) = [] := by rfl
theorem l__law_group : P.fns.lookup ("_law_group" : Str) = some t__law_group := by rfl
theorem d__law_group : P.dfl ("_law_group" : Str) = [] := by rfl
theorem l__law_data : P.fns.lookup ("_law_data" : Str) = some t__law_data := by rfl
theorem d__law_data : P.dfl ("_law_data" : Str) = [] := by rfl
theorem l__law_kind : P.fns.lookup ("_law_kind" : Str) = some t__law_kind := by rfl
theorem d__law_kind : P.dfl ("_law_kind" : Str) = [] := by rfl
theorem enc_und (m : Nat) : ∀ k : Kd, (enc k).und m = true
  | .unit => by simp [enc, D.und, unds]
  | .num => by simp [enc, D.und, unds]
  | .bag a => by simp [enc, D.und, unds, enc_und m a]
  | .pair a b => by simp [enc, D.und, unds, enc_und m a, enc_und m b]
  | .either a b => by simp [enc, D.und, unds, enc_und m a, enc_und m b]
  | .fn a b => by simp [enc, D.und, unds, enc_und m a, enc_und m b]
theorem leave_enc {k : Kd} {m : Nat} {M : Mem} (h : m = M.length) : leave .drop m (enc k) M = .ok (enc k) M := leave_und (enc_und _ _) h
section
variable {j : Nat}
/-- such a kind is drawn -/
def Draws (f : Str) (Q : Kd → Prop) (n : Nat) (M : Mem) (x : Int) : Prop := ∃ k M', run P n (.fn f) [.obj j, .int x] M = .ok (enc k) M' ∧ Q k ∧ (k.dp : Int) ≤ x ∧ Stp j M M'
theorem run_plain : ∀ (n : Nat) (M : Mem) (x : Int), Wl M j → 1 ≤ x → x + 1 ≤ n → Draws (j := j) "_law_plain" (fun k => k.pl = true) n M x
  | n, M, x, w, h1, hn => by
    obtain ⟨n, rfl⟩ : ∃ m, n = m + 1 + 1 := ⟨n - 2, by omega⟩
    unfold Draws
    rw [run_step l__law_plain rfl]
    by_cases hx : 1 < x
    · obtain ⟨r, M1, hr, r0, r1, s1⟩ := run_draw (n := n) (M := M) (m := 7) w (by decide) (by decide)
      by_cases hb : r < 4
      · by_cases h3 : r = 3
        · refine ⟨.unit, M1, ?_, rfl, by simp [Kd.dp]; omega, s1⟩
          rw [← leave_enc (k := .unit) (M := M1) s1.1.symm]
          simp [t__law_plain, start', en_call, en_dfl, d__law_draw, arrange, pick, hx, hr, hb, h3, LIM, enc]
        · refine ⟨.num, M1, ?_, rfl, by simp [Kd.dp]; omega, s1⟩
          rw [← leave_enc (k := .num) (M := M1) s1.1.symm]
          simp [t__law_plain, start', en_call, en_dfl, d__law_draw, arrange, pick, hx, hr, hb, h3, LIM, enc]
      · obtain ⟨k1, M2, e1, q1, p1, s2⟩ := run_plain (n + 1) M1 (x - 1) s1.2 (by omega) (by omega)
        obtain ⟨k2, M3, e2, q2, p2, s3⟩ := run_plain (n + 1) M2 (x - 1) s2.2 (by omega) (by omega)
        have s := (s1.trans s2).trans s3
        by_cases h6 : r < 6
        · refine ⟨.pair k1 k2, M3, ?_, by simp [Kd.pl, q1, q2], by simp [Kd.dp]; omega, s⟩
          rw [← leave_enc (k := .pair k1 k2) (M := M3) s.1.symm]
          simp [t__law_plain, start', en_call, en_dfl, d__law_draw, d__law_plain, arrange, pick, hx, hr, hb, e1, e2, h6, LIM, enc]
        · refine ⟨.either k1 k2, M3, ?_, by simp [Kd.pl, q1, q2], by simp [Kd.dp]; omega, s⟩
          rw [← leave_enc (k := .either k1 k2) (M := M3) s.1.symm]
          simp [t__law_plain, start', en_call, en_dfl, d__law_draw, d__law_plain, arrange, pick, hx, hr, hb, e1, e2, h6, LIM, enc]
    · obtain ⟨r, M1, hr, r0, r1, s1⟩ := run_draw (n := n) (M := M) (m := 4) w (by decide) (by decide)
      by_cases h3 : r = 3
      · refine ⟨.unit, M1, ?_, rfl, by simp [Kd.dp]; omega, s1⟩
        rw [← leave_enc (k := .unit) (M := M1) s1.1.symm]
        simp [t__law_plain, start', en_call, en_dfl, d__law_draw, arrange, pick, hx, hr, r1, h3, LIM, enc]
      · refine ⟨.num, M1, ?_, rfl, by simp [Kd.dp]; omega, s1⟩
        rw [← leave_enc (k := .num) (M := M1) s1.1.symm]
        simp [t__law_plain, start', en_call, en_dfl, d__law_draw, arrange, pick, hx, hr, r1, h3, LIM, enc]
termination_by n => n
theorem run_group_k : ∀ (n : Nat) (M : Mem) (x : Int), Wl M j → 1 ≤ x → x + 2 ≤ n → Draws (j := j) "_law_group" (fun k => k.wf = true) n M x
  | n, M, x, w, h1, hn => by
    obtain ⟨n, rfl⟩ : ∃ m, n = m + 1 + 1 := ⟨n - 2, by omega⟩
    unfold Draws
    rw [run_step l__law_group rfl]
    by_cases hx : 1 < x
    · obtain ⟨r, M1, hr, r0, r1, s1⟩ := run_draw (n := n) (M := M) (m := 6) w (by decide) (by decide)
      by_cases hb : r < 2
      · refine ⟨.num, M1, ?_, rfl, by simp [Kd.dp]; omega, s1⟩
        rw [← leave_enc (k := .num) (M := M1) s1.1.symm]
        simp [t__law_group, start', en_call, en_dfl, d__law_draw, arrange, pick, hx, hr, hb, LIM, enc]
      · by_cases h4 : r < 4
        · obtain ⟨k1, M2, e1, q1, p1, s2⟩ := run_plain (n + 1) M1 (x - 1) s1.2 (by omega) (by omega)
          have s := s1.trans s2
          refine ⟨.bag k1, M2, ?_, q1, by simp [Kd.dp]; omega, s⟩
          rw [← leave_enc (k := .bag k1) (M := M2) s.1.symm]
          simp [t__law_group, start', en_call, en_dfl, d__law_draw, d__law_plain, arrange, pick, hx, hr, hb, h4, e1, LIM, enc]
        · obtain ⟨k1, M2, e1, q1, p1, s2⟩ := run_group_k (n + 1) M1 (x - 1) s1.2 (by omega) (by omega)
          obtain ⟨k2, M3, e2, q2, p2, s3⟩ := run_group_k (n + 1) M2 (x - 1) s2.2 (by omega) (by omega)
          have s := (s1.trans s2).trans s3
          refine ⟨.pair k1 k2, M3, ?_, by simp [Kd.wf, q1, q2], by simp [Kd.dp]; omega, s⟩
          rw [← leave_enc (k := .pair k1 k2) (M := M3) s.1.symm]
          simp [t__law_group, start', en_call, en_dfl, d__law_draw, d__law_group, arrange, pick, hx, hr, hb, h4, e1, e2, LIM, enc]
    · refine ⟨.num, M, ?_, rfl, by simp [Kd.dp]; omega, .refl w⟩
      rw [← leave_enc (k := .num) (M := M) rfl]
      simp [t__law_group, start', hx, LIM, enc]
termination_by n => n
theorem run_data_k : ∀ (n : Nat) (M : Mem) (x : Int), Wl M j → 1 ≤ x → x + 2 ≤ n → Draws (j := j) "_law_data" (fun k => k.wf = true) n M x
  | n, M, x, w, h1, hn => by
    obtain ⟨n, rfl⟩ : ∃ m, n = m + 1 + 1 := ⟨n - 2, by omega⟩
    unfold Draws
    rw [run_step l__law_data rfl]
    by_cases hx : 1 < x
    · obtain ⟨r, M1, hr, r0, r1, s1⟩ := run_draw (n := n) (M := M) (m := 8) w (by decide) (by decide)
      by_cases hb : r < 4
      · by_cases h3 : r = 3
        · refine ⟨.unit, M1, ?_, rfl, by simp [Kd.dp]; omega, s1⟩
          rw [← leave_enc (k := .unit) (M := M1) s1.1.symm]
          simp [t__law_data, start', en_call, en_dfl, d__law_draw, arrange, pick, hx, hr, hb, h3, LIM, enc]
        · refine ⟨.num, M1, ?_, rfl, by simp [Kd.dp]; omega, s1⟩
          rw [← leave_enc (k := .num) (M := M1) s1.1.symm]
          simp [t__law_data, start', en_call, en_dfl, d__law_draw, arrange, pick, hx, hr, hb, h3, LIM, enc]
      · by_cases h4 : r < 6
        · obtain ⟨k1, M2, e1, q1, p1, s2⟩ := run_plain (n + 1) M1 (x - 1) s1.2 (by omega) (by omega)
          have s := s1.trans s2
          refine ⟨.bag k1, M2, ?_, q1, by simp [Kd.dp]; omega, s⟩
          rw [← leave_enc (k := .bag k1) (M := M2) s.1.symm]
          simp [t__law_data, start', en_call, en_dfl, d__law_draw, d__law_plain, arrange, pick, hx, hr, hb, h4, e1, LIM, enc]
        · obtain ⟨k1, M2, e1, q1, p1, s2⟩ := run_data_k (n + 1) M1 (x - 1) s1.2 (by omega) (by omega)
          obtain ⟨k2, M3, e2, q2, p2, s3⟩ := run_data_k (n + 1) M2 (x - 1) s2.2 (by omega) (by omega)
          have s := (s1.trans s2).trans s3
          by_cases h6 : r = 6
          · refine ⟨.pair k1 k2, M3, ?_, by simp [Kd.wf, q1, q2], by simp [Kd.dp]; omega, s⟩
            rw [← leave_enc (k := .pair k1 k2) (M := M3) s.1.symm]
            subst h6
            simp [t__law_data, start', en_call, en_dfl, d__law_draw, d__law_data, arrange, pick, hx, hr, e1, e2, LIM, enc]
          · refine ⟨.either k1 k2, M3, ?_, by simp [Kd.wf, q1, q2], by simp [Kd.dp]; omega, s⟩
            rw [← leave_enc (k := .either k1 k2) (M := M3) s.1.symm]
            simp [t__law_data, start', en_call, en_dfl, d__law_draw, d__law_data, arrange, pick, hx, hr, hb, h4, h6, e1, e2, LIM, enc]
    · obtain ⟨r, M1, hr, r0, r1, s1⟩ := run_draw (n := n) (M := M) (m := 4) w (by decide) (by decide)
      by_cases h3 : r = 3
      · refine ⟨.unit, M1, ?_, rfl, by simp [Kd.dp]; omega, s1⟩
        rw [← leave_enc (k := .unit) (M := M1) s1.1.symm]
        simp [t__law_data, start', en_call, en_dfl, d__law_draw, arrange, pick, hx, hr, r1, h3, LIM, enc]
      · refine ⟨.num, M1, ?_, rfl, by simp [Kd.dp]; omega, s1⟩
        rw [← leave_enc (k := .num) (M := M1) s1.1.symm]
        simp [t__law_data, start', en_call, en_dfl, d__law_draw, arrange, pick, hx, hr, r1, h3, LIM, enc]
termination_by n => n
theorem run_kind_k : ∀ (n : Nat) (M : Mem) (x : Int), Wl M j → 1 ≤ x → x + 4 ≤ n → Draws (j := j) "_law_kind" (fun k => k.wf = true) n M x
  | n, M, x, w, h1, hn => by
    obtain ⟨n, rfl⟩ : ∃ m, n = m + 1 + 1 := ⟨n - 2, by omega⟩
    unfold Draws
    rw [run_step l__law_kind rfl]
    by_cases hx : 1 < x
    · obtain ⟨r, M1, hr, r0, r1, s1⟩ := run_draw (n := n) (M := M) (m := 3) w (by decide) (by decide)
      by_cases hb : r = 0
      · obtain ⟨k1, M2, e1, q1, p1, s2⟩ := run_kind_k (n + 1) M1 (x - 1) s1.2 (by omega) (by omega)
        obtain ⟨d, M3, e2, q2, s3⟩ := run_pick (n := n + 1) (M := M2) (l := [.str "fun", .str "fun", .str "pair", .str "either"]) s2.2 (by simp) (by simp) (by simp [unds, D.und]) (by omega)
        obtain ⟨k2, M4, e3, q3, p3, s4⟩ := run_kind_k (n + 1) M3 (x - 1) s3.2 (by omega) (by omega)
        have s := ((s1.trans s2).trans s3).trans s4
        have go : ∀ (q : Kd), q.wf = true → q.dp = max k1.dp k2.dp + 1 → enc q = .tup [d, enc k1, enc k2] → ∃ k M', finish t__law_kind.mode M.length (exs (P.en (run P (n + 1))) t__law_kind.body (start' t__law_kind.N [.obj j, .int x]) M) = .ok (enc k) M' ∧ k.wf = true ∧ (k.dp : Int) ≤ x ∧ Stp j M M' := by
          intro q w1 w2 w3
          refine ⟨q, M4, ?_, w1, by rw [w2]; omega, s⟩
          rw [← leave_enc (k := q) (M := M4) s.1.symm, w3]
          simp [t__law_kind, start', en_call, en_dfl, d__law_draw, d__law_kind, d__law_pick, arrange, pick, hx, hr, hb, e1, e2, e3, LIM]
        simp at q2
        rcases q2 with rfl | rfl | rfl
        · exact go (.fn k1 k2) (by simp [Kd.wf, q1, q3]) rfl rfl
        · exact go (.pair k1 k2) (by simp [Kd.wf, q1, q3]) rfl rfl
        · exact go (.either k1 k2) (by simp [Kd.wf, q1, q3]) rfl rfl
      · obtain ⟨k1, M2, e1, q1, p1, s2⟩ := run_data_k (n + 1) M1 x s1.2 (by omega) (by omega)
        have s := s1.trans s2
        refine ⟨k1, M2, ?_, q1, p1, s⟩
        rw [← leave_enc (k := k1) (M := M2) s.1.symm]
        simp [t__law_kind, start', en_call, en_dfl, d__law_draw, d__law_data, arrange, pick, hx, hr, hb, e1]
    · obtain ⟨k1, M2, e1, q1, p1, s⟩ := run_data_k (n + 1) M x w (by omega) (by omega)
      refine ⟨k1, M2, ?_, q1, p1, s⟩
      rw [← leave_enc (k := k1) (M := M2) s.1.symm]
      simp [t__law_kind, start', en_call, en_dfl, d__law_data, arrange, pick, hx, e1]
termination_by n => n
theorem l__law_some_kind : P.fns.lookup ("_law_some_kind" : Str) = some t__law_some_kind := by rfl
theorem d__law_some_kind : P.dfl ("_law_some_kind" : Str) = [] := by rfl
theorem run_some_kind {n : Nat} {M : Mem} (w : Wl M j) (hn : 12 ≤ n) : ∃ k M', run P n (.fn "_law_some_kind") [.obj j] M = .ok (enc k) M' ∧ k.wf = true ∧ k.dp ≤ 6 ∧ Stp j M M' := by
  obtain ⟨n, rfl⟩ : ∃ m, n = m + 1 + 1 := ⟨n - 2, by omega⟩
  rw [run_step l__law_some_kind rfl]
  obtain ⟨r, M1, hr, r0, r1, s1⟩ := run_draw (n := n) (M := M) (m := 5) w (by decide) (by decide)
  by_cases h0 : r = 0
  · obtain ⟨k, M2, e1, q1, p1, s2⟩ := run_plain (n + 1) M1 5 s1.2 (by omega) (by omega)
    have s := s1.trans s2
    refine ⟨k, M2, ?_, pl_wf q1, by omega, s⟩
    rw [← leave_enc (k := k) (M := M2) s.1.symm]
    simp [t__law_some_kind, start', en_call, en_dfl, d__law_draw, d__law_plain, arrange, pick, hr, h0, e1]
  · by_cases h1 : r = 1
    · obtain ⟨k, M2, e1, q1, p1, s2⟩ := run_group_k (n + 1) M1 5 s1.2 (by omega) (by omega)
      have s := s1.trans s2
      refine ⟨k, M2, ?_, q1, by omega, s⟩
      rw [← leave_enc (k := k) (M := M2) s.1.symm]
      simp [t__law_some_kind, start', en_call, en_dfl, d__law_draw, d__law_group, arrange, pick, hr, h1, e1]
    · by_cases h2 : r = 2
      · obtain ⟨k, M2, e1, q1, p1, s2⟩ := run_data_k (n + 1) M1 6 s1.2 (by omega) (by omega)
        have s := s1.trans s2
        refine ⟨k, M2, ?_, q1, by omega, s⟩
        rw [← leave_enc (k := k) (M := M2) s.1.symm]
        simp [t__law_some_kind, start', en_call, en_dfl, d__law_draw, d__law_data, arrange, pick, hr, h2, e1]
      · obtain ⟨k, M2, e1, q1, p1, s2⟩ := run_kind_k (n + 1) M1 6 s1.2 (by omega) (by omega)
        have s := s1.trans s2
        refine ⟨k, M2, ?_, q1, by omega, s⟩
        rw [← leave_enc (k := k) (M := M2) s.1.symm]
        simp [t__law_some_kind, start', en_call, en_dfl, d__law_draw, d__law_kind, arrange, pick, hr, h0, h1, h2, e1]
end
end Cw

set_option Elab.async false
set_option linter.all false
set_option maxRecDepth 100000
set_option maxHeartbeats 1000000
namespace Cw
open Ev
open PySem (Str PyData)
theorem l__law_odd : P.fns.lookup ("_law_odd" : Str) = some t__law_odd := by rfl
theorem d__law_odd : P.dfl ("_law_odd" : Str) = [] := by rfl
theorem l__law_bent : P.fns.lookup ("_law_bent" : Str) = some t__law_bent := by rfl
theorem d__law_bent : P.dfl ("_law_bent" : Str) = [] := by rfl
theorem d__law_is_whole' : P.dfl ("_law_is_whole" : Str) = [] := by rfl
/-- a thing of such a depth, without cells -/
def Tg (b : Nat) (d : D) : Prop := th d = true ∧ tdp d ≤ b ∧ d.und 0 = true
def tgB (b : Nat) (d : D) : Bool := th d && decide (tdp d ≤ b) && d.und 0
theorem tgB_ok {b : Nat} {d : D} (h : tgB b d = true) : Tg b d := by
  unfold tgB at h
  simp only [Bool.and_eq_true, decide_eq_true_eq] at h
  exact ⟨h.1.1, h.1.2, h.2⟩
theorem Tg.mono {b c : Nat} {d : D} (h : Tg b d) (k : b ≤ c) : Tg c d := ⟨h.1, Nat.le_trans h.2.1 k, h.2.2⟩
theorem Tg.leave {b m : Nat} {d : D} {M : Mem} (h : Tg b d) (hm : m = M.length) : leave .drop m d M = .ok d M := leave_und (D.und_mono (Nat.zero_le _) h.2.2) hm
def num : D := .tup [.str "num"]
def OD1 : List D := [.non, .bl true, .bl false, .int 0, .int 1, .int (-1), .int 7, .int 1000000000000000000000000000000, .str "", .str "num", .str "x", .str "let", .str "unit", .tup [], .tup [.int 0], .tup [.str "num"], .tup [.str "unit", .int 1]]
def OD2 : List D := [.tup [.str "pair", .tup [.str "num"]], .tup [.str "bag"], .tup [.str "bag", .tup [.str "bag", .tup [.str "num"]]], .tup [.str "name", .str "x"], .tup [.str "name", .str "let"], .tup [.str "number", .bl true]]
def OD3 : List D := [.tup [.str "fun", .tup [.str "num"], .tup [.str "num"]], .lst [], .lst [.int 1], .dct [], .str "1x", .tup [.str "left", .int 1], .tup [.tup [.str "num"], .int 2], .str "x'", .tup [.str "name", .str "x'"]]
theorem od_tg : (OD1 ++ OD2 ++ OD3).all (tgB 3) = true := by decide +kernel
theorem pow_30 {M : Mem} : binD .Pow (.int 10) (.int 30) M = .ok (.int 1000000000000000000000000000000) M := by
  simp [binD]
section
variable {j : Nat}
theorem run_odd {n : Nat} {M : Mem} (w : Wl M j) (hn : 3 ≤ n) : ∃ d M', run P n (.fn "_law_odd") [.obj j] M = .ok d M' ∧ Tg 3 d ∧ Stp j M M' := by
  obtain ⟨n, rfl⟩ : ∃ m, n = m + 1 := ⟨n - 1, by omega⟩
  have od : ∀ d ∈ OD1 ++ OD2 ++ OD3, Tg 3 d := fun d hd => tgB_ok (List.all_eq_true.mp od_tg d hd)
  obtain ⟨d, M', e, hd, s⟩ := run_pick (n := n) (M := M) (l := OD1 ++ OD2 ++ OD3) w (by simp [OD1]) (by decide +kernel) (by
    rw [unds_all, List.all_eq_true]
    exact fun d hd => D.und_mono (Nat.zero_le _) (od d hd).2.2) (by omega)
  have t := od d hd
  refine ⟨d, M', ?_, t, s⟩
  rw [run_step l__law_odd rfl, ← t.leave (M := M') s.1.symm]
  simp only [OD1, OD2, OD3, List.cons_append, List.nil_append] at e
  simp [t__law_odd, start', LIM, pow_30, add_tt, en_call, en_dfl, d__law_pick, arrange, pick, e]
theorem run_whole_no {n : Nat} {M : Mem} {d : D} (h : (∃ s, d = .str s) ∨ ∃ l, d = .tup l) : run P (n + 1) (.fn "_law_is_whole") [d] M = .ok (.bl false) M := by
  rw [run_step l__law_is_whole rfl]
  rcases h with ⟨s, rfl⟩ | ⟨l, rfl⟩ <;> simp [t__law_is_whole, start', bltD, isiD, tyOf]
/-- a kind or a word -/
def Sub (b : Nat) (d : D) : Prop := (∃ s, d = .str s ∧ PyData.strOk s = true) ∨ ∃ k : Kd, d = enc k ∧ k.dp ≤ b
theorem Sub.tg {b : Nat} {d : D} (h : Sub b d) : Tg b d := by
  rcases h with ⟨s, rfl, h⟩ | ⟨k, rfl, h⟩
  · exact ⟨by simp [th, h], by simp [tdp], by simp [D.und]⟩
  · exact ⟨enc_th k, by rw [enc_tdp]; exact h, enc_und _ _⟩
theorem Sub.mono {b c : Nat} {d : D} (h : Sub b d) (k : b ≤ c) : Sub c d := by
  rcases h with h | ⟨q, h1, h2⟩
  · exact .inl h
  · exact .inr ⟨q, h1, by omega⟩
/-- what is so many parts wide, of such things -/
def Wd (b : Nat) (l : List D) : Prop := l ≠ [] ∧ l.length ≤ 3 ∧ ∀ x ∈ l, Sub b x
theorem enc_wd (k : Kd) : ∃ l, enc k = .tup l ∧ Wd (k.dp - 1) l := by
  cases k with
  | unit => exact ⟨_, rfl, by simp, by simp, by simp [Sub]⟩
  | num => exact ⟨_, rfl, by simp, by simp, by simp [Sub]⟩
  | bag a =>
    refine ⟨_, rfl, by simp, by simp, fun x hx => ?_⟩
    simp at hx
    rcases hx with rfl | rfl
    · exact .inl ⟨_, rfl, by simp⟩
    · exact .inr ⟨a, rfl, by simp [Kd.dp]⟩
  | pair a b =>
    refine ⟨_, rfl, by simp, by simp, fun x hx => ?_⟩
    simp at hx
    rcases hx with rfl | rfl | rfl
    · exact .inl ⟨_, rfl, by simp⟩
    · exact .inr ⟨a, rfl, by simp [Kd.dp]; omega⟩
    · exact .inr ⟨b, rfl, by simp [Kd.dp]; omega⟩
  | either a b =>
    refine ⟨_, rfl, by simp, by simp, fun x hx => ?_⟩
    simp at hx
    rcases hx with rfl | rfl | rfl
    · exact .inl ⟨_, rfl, by simp⟩
    · exact .inr ⟨a, rfl, by simp [Kd.dp]; omega⟩
    · exact .inr ⟨b, rfl, by simp [Kd.dp]; omega⟩
  | fn a b =>
    refine ⟨_, rfl, by simp, by simp, fun x hx => ?_⟩
    simp at hx
    rcases hx with rfl | rfl | rfl
    · exact .inl ⟨_, rfl, by simp⟩
    · exact .inr ⟨a, rfl, by simp [Kd.dp]; omega⟩
    · exact .inr ⟨b, rfl, by simp [Kd.dp]; omega⟩
theorem ths_all : ∀ {l : List D}, ths l = l.all th
  | [] => rfl
  | d :: r => by simp [ths, ths_all]
theorem tdps_le {b : Nat} : ∀ {l : List D}, (∀ x ∈ l, tdp x ≤ b) → tdps l ≤ b
  | [], _ => by simp [tdps]
  | d :: r, h => by
    simp only [tdps]
    have h1 := h d List.mem_cons_self
    have h2 := tdps_le (l := r) fun x hx => h x (List.mem_cons_of_mem _ hx)
    omega
theorem tg_tup {b : Nat} {l : List D} (h : ∀ x ∈ l, Tg b x) : Tg (b + 1) (.tup l) := by
  refine ⟨?_, ?_, ?_⟩
  · rw [th_tup, ths_all, List.all_eq_true]; exact fun x hx => (h x hx).1
  · simp only [tdp]
    have := tdps_le (b := b) fun x hx => (h x hx).2.1
    omega
  · simp only [D.und]; rw [unds_all, List.all_eq_true]; exact fun x hx => (h x hx).2.2
theorem tg_lst {b : Nat} {l : List D} (h : ∀ x ∈ l, Tg b x) : Tg (b + 1) (.lst l) := by
  refine ⟨by simp [th], by simp [tdp], ?_⟩
  simp only [D.und]; rw [unds_all, List.all_eq_true]; exact fun x hx => (h x hx).2.2
theorem list_tup {call : D → List D → Mem → Res D} {l : List D} {M : Mem} : bltD call .list [.tup l] M = .ok (.lst l) M := rfl
theorem isEmpty_no {l : List D} (h : l ≠ []) : l.isEmpty = false := by cases l <;> simp at h ⊢
theorem run_bent {n : Nat} {M : Mem} {d : D} (w : Wl M j) (hd : Sub 6 d) (hn : 5 ≤ n) : ∃ r M', run P n (.fn "_law_bent") [.obj j, d] M = .ok r M' ∧ Tg 8 r ∧ Stp j M M' := by
  obtain ⟨n, rfl⟩ : ∃ m, n = m + 1 + 1 := ⟨n - 2, by omega⟩
  obtain ⟨r, M1, hr, r0, r1, s1⟩ := run_draw (n := n) (M := M) (m := 8) w (by decide) (by decide)
  obtain ⟨o, M2, e2, t2, s2⟩ := run_odd (n := n + 1) s1.2 (by omega)
  have s12 := s1.trans s2
  rw [run_step l__law_bent rfl]
  rcases hd with ⟨s, rfl, hs⟩ | ⟨k, rfl, hk⟩
  · -- a word
    have wh := fun M => run_whole_no (n := n) (M := M) (d := .str s) (.inl ⟨_, rfl⟩)
    have it := fun (M : Mem) => isi_tup (M := M) (call := run P (n + 1)) (d := .str s) (by simp [th, hs])
    refine ⟨o, M2, ?_, t2.mono (by decide), s12⟩
    rw [← t2.leave (M := M2) s12.1.symm]
    by_cases h2 : r < 2
    · have h3 : r < 3 := by omega
      simp [t__law_bent, start', en_call, en_dfl, d__law_draw, d__law_odd, d__law_is_whole', arrange, pick, hr, wh, h2, h3, e2]
    · by_cases h3 : r < 3
      · simp [t__law_bent, start', en_call, en_dfl, d__law_draw, d__law_odd, d__law_is_whole', arrange, pick, hr, wh, h2, h3, e2]
      · simp [t__law_bent, start', en_call, en_dfl, d__law_draw, d__law_odd, d__law_is_whole', arrange, pick, hr, wh, h2, h3, it, e2]
  · obtain ⟨l, hl, l0, l3, lm⟩ := enc_wd k
    rw [hl]
    have lm' : ∀ x ∈ l, Tg 6 x := fun x hx => ((lm x hx).mono (by omega)).tg
    have wh := fun M => run_whole_no (n := n) (M := M) (d := .tup l) (.inr ⟨_, rfl⟩)
    have it := fun (M : Mem) => isi_tup (M := M) (call := run P (n + 1)) (d := .tup l) (by rw [← hl]; exact enc_th k)
    have ie := isEmpty_no l0
    have hp : 0 < l.length := List.length_pos_iff.mpr l0
    by_cases h3 : r < 3
    · refine ⟨o, M2, ?_, t2.mono (by decide), s12⟩
      rw [← t2.leave (M := M2) s12.1.symm]
      by_cases h2 : r < 2
      · simp [t__law_bent, start', en_call, en_dfl, d__law_draw, d__law_odd, d__law_is_whole', arrange, pick, hr, wh, h2, h3, e2]
      · simp [t__law_bent, start', en_call, en_dfl, d__law_draw, d__law_odd, d__law_is_whole', arrange, pick, hr, wh, h2, h3, e2]
    · have h2 : ¬ r < 2 := by omega
      obtain ⟨q, M3, hq, q0, q1, s3⟩ := run_draw (n := n) (M := M1) (m := l.length) s1.2 (by omega) (by omega)
      have s13 := s1.trans s3
      obtain ⟨i, rfl⟩ : ∃ i : Nat, q = i := ⟨q.toNat, by omega⟩
      have hi : i < l.length := by omega
      have a1 : ∀ M, sliD (.tup l) none (some (i : Int)) M = .ok (.tup (l.take i)) M := fun M => sli_to
      have a2 : ∀ M, sliD (.tup l) (some ((i : Int) + 1)) none M = .ok (.tup (l.drop (i + 1))) M := fun M => sli_from (n := i + 1)
      have a3 : ∀ M, sliD (.tup l) (some (i : Int)) none M = .ok (.tup (l.drop i)) M := fun M => sli_from (n := i)
      have a4 : ∀ M, idxD (.tup l) (.int (i : Int)) M = .ok l[i] M := fun M => idx_nat (by simp [hi])
      have fin : ∀ {z : D}, Tg 8 z → exs (P.en (run P (n + 1))) t__law_bent.body (start' t__law_bent.N [.obj j, .tup l]) M = .ok (.ret z) M3 → ∃ r M', finish t__law_bent.mode M.length (exs (P.en (run P (n + 1))) t__law_bent.body (start' t__law_bent.N [.obj j, .tup l]) M) = .ok r M' ∧ Tg 8 r ∧ Stp j M M' := by
        intro z tz ez
        refine ⟨z, M3, ?_, tz, s13⟩
        rw [ez, finish_ret]
        exact tz.leave s13.1.symm
      by_cases w3 : r = 3
      · refine fin (z := .tup (l.take i ++ l.drop (i + 1))) (tg_tup (b := 7) fun x hx => ?_) ?_
        · rcases List.mem_append.mp hx with hx | hx
          · exact (lm' x (List.mem_of_mem_take hx)).mono (by decide)
          · exact (lm' x (List.mem_of_mem_drop hx)).mono (by decide)
        · have ad : ∀ M, binD .Add (.tup (l.take i)) (.tup (l.drop (i + 1))) M = .ok (.tup (l.take i ++ l.drop (i + 1))) M := fun M => add_tt (by simp [LIM]; omega)
          subst w3
          simp [t__law_bent, start', en_call, en_dfl, d__law_draw, d__law_is_whole', arrange, pick, hr, it, ie, hq, a1, a2, ad]
      · by_cases w4 : r = 4
        · refine fin (z := .tup ((l.take i ++ [l[i]]) ++ l.drop i)) (tg_tup (b := 7) fun x hx => ?_) ?_
          · rcases List.mem_append.mp hx with hx | hx
            · rcases List.mem_append.mp hx with hx | hx
              · exact (lm' x (List.mem_of_mem_take hx)).mono (by decide)
              · rw [List.mem_singleton] at hx; rw [hx]; exact (lm' _ (List.getElem_mem hi)).mono (by decide)
            · exact (lm' x (List.mem_of_mem_drop hx)).mono (by decide)
          · have ad : ∀ M, binD .Add (.tup (l.take i)) (.tup [l[i]]) M = .ok (.tup (l.take i ++ [l[i]])) M := fun M => add_tt (by simp [LIM]; omega)
            have ad2 : ∀ M, binD .Add (.tup (l.take i ++ [l[i]])) (.tup (l.drop i)) M = .ok (.tup ((l.take i ++ [l[i]]) ++ l.drop i)) M := fun M => add_tt (by simp [LIM]; omega)
            subst w4
            simp only [t__law_bent, start']
            simp [-List.take_append_getElem, -List.append_assoc, en_call, en_dfl, d__law_draw, d__law_is_whole', arrange, pick, hr, it, ie, hq, a1, a3, a4, ad, ad2, LIM]
        · by_cases w5 : r = 5
          · obtain ⟨o', M4, e4, t4, s4⟩ := run_odd (n := n + 1) s3.2 (by omega)
            have s14 := s13.trans s4
            have tz : Tg 8 (.tup (l ++ [o'])) := tg_tup (b := 7) fun x hx => by
              rcases List.mem_append.mp hx with hx | hx
              · exact (lm' x hx).mono (by decide)
              · rw [List.mem_singleton] at hx; rw [hx]; exact t4.mono (by decide)
            refine ⟨.tup (l ++ [o']), M4, ?_, tz, s14⟩
            have ad : ∀ M, binD .Add (.tup l) (.tup [o']) M = .ok (.tup (l ++ [o'])) M := fun M => add_tt (by simp [LIM]; omega)
            rw [← tz.leave (M := M4) s14.1.symm]
            subst w5
            simp [t__law_bent, start', en_call, en_dfl, d__law_draw, d__law_odd, d__law_is_whole', arrange, pick, hr, it, ie, hq, e4, ad, LIM]
          · by_cases w6 : r = 6
            · refine fin (z := .tup l.reverse) (tg_tup (b := 7) fun x hx => (lm' x (List.mem_reverse.mp hx)).mono (by decide)) ?_
              subst w6
              simp [t__law_bent, start', en_call, en_dfl, d__law_draw, d__law_is_whole', arrange, pick, hr, it, ie, hq]
            · refine fin (z := .lst l) (tg_lst (b := 7) fun x hx => (lm' x hx).mono (by decide)) ?_
              simp [t__law_bent, start', en_call, en_dfl, d__law_draw, d__law_is_whole', arrange, pick, hr, h2, h3, it, ie, hq, w3, w4, w5, w6, list_tup]
end
end Cw

set_option Elab.async false
set_option linter.all false
set_option maxRecDepth 100000
set_option maxHeartbeats 1000000
namespace Ev
section
variable {σ : St'} {M : Mem} {all : List D} {g : D → St' → Mem → Res St'} {f : St' → Mem → Res Flow'}
def loopK (k : Flow') (M : Mem) (r : St' → Mem → Res Flow') : Res Flow' := match k with
  | .next σ2 => r σ2 M
  | .cnt σ2 => r σ2 M
  | .brk σ2 => .ok (.next σ2) M
  | .ret d => .ok (.ret d) M
theorem forL_nil : forL none all g f [] σ M = .ok (.next σ) M := by simp only [forL, chkW_none, if_true]
theorem forL_cons {x : D} {r : List D} : forL none all g f (x :: r) σ M = (g x σ M).bind fun σ1 M => (f σ1 M).bind fun k M => loopK k M fun σ M => forL none all g f r σ M := by
  simp only [forL, chkW_none, if_true] <;> rfl
/-- an invariant through a loop that may be left early -/
theorem forL_inv {Inv : Nat → St' → Mem → Prop} {Out : St' → Mem → Prop} {xs : List D}
    (step : ∀ i x σ M, xs[i]? = some x → Inv i σ M → ∃ σ1 M1, g x σ M = .ok σ1 M1 ∧ ∃ k M2, f σ1 M1 = .ok k M2 ∧ ((∃ σ2, k = .next σ2 ∧ Inv (i + 1) σ2 M2) ∨ ∃ σ2, k = .brk σ2 ∧ Out σ2 M2))
    (fin : ∀ σ M, Inv xs.length σ M → Out σ M) (h0 : Inv 0 σ M) : ∃ σ' M', forL none all g f xs σ M = .ok (.next σ') M' ∧ Out σ' M' := by
  have go : ∀ (n i : Nat) (σ : St') (M : Mem), xs.length - i = n → i ≤ xs.length → Inv i σ M → ∃ σ' M', forL none all g f (xs.drop i) σ M = .ok (.next σ') M' ∧ Out σ' M' := by
    intro n
    induction n with
    | zero =>
      intro i σ M hn hi h
      have : i = xs.length := by omega
      subst this
      exact ⟨σ, M, by rw [List.drop_length, forL_nil], fin σ M h⟩
    | succ n ih =>
      intro i σ M hn hi h
      have hl : i < xs.length := by omega
      obtain ⟨σ1, M1, e1, k, M2, e2, q⟩ := step i xs[i] σ M (by simp [hl]) h
      rw [List.drop_eq_getElem_cons hl, forL_cons, e1]
      simp only [Res.bind_ok, e2]
      rcases q with ⟨σ2, rfl, q⟩ | ⟨σ2, rfl, q⟩
      · exact ih (i + 1) σ2 M2 (by omega) hl q
      · exact ⟨σ2, M2, rfl, q⟩
  have := go xs.length 0 σ M (by omega) (by omega) h0
  simpa using this
theorem rng1_ok {n : Int} (h : -1000000 ≤ n) (k : n ≤ 1000000) : rng1V (.int n) M = .ok (rngL 0 n.toNat, none) M := by simp [rng1V, h, k]
theorem rngL_len {lo : Int} {n : Nat} : (rngL lo n).length = n := by simp [rngL]
theorem rngL_get {lo : Int} {n i : Nat} {x : D} (h : (rngL lo n)[i]? = some x) : x = .int (lo + (i : Int)) ∧ i < n := by
  unfold rngL at h
  rw [List.getElem?_map] at h
  cases e : (List.range n)[i]? with
  | none => rw [e] at h; cases h
  | some k =>
    rw [e] at h
    have hi : i < n := by
      have := (List.getElem?_eq_some_iff.mp e).1
      simpa using this
    rw [List.getElem?_range hi] at e
    cases e; cases h
    exact ⟨rfl, hi⟩
end
end Ev
namespace Cw
open Ev
open PySem (Str PyData)
theorem l__law_spoilt : P.fns.lookup ("_law_spoilt" : Str) = some t__law_spoilt := by rfl
theorem d__law_spoilt : P.dfl ("_law_spoilt" : Str) = [] := by rfl
theorem l__law_tower : P.fns.lookup ("_law_tower" : Str) = some t__law_tower := by rfl
theorem d__law_tower : P.dfl ("_law_tower" : Str) = [] := by rfl
section
variable {j : Nat}
def penc (p : List D × Nat) : D := .tup [.tup p.1, .int p.2]
def POk (ps : List (List D × Nat)) : Prop := ∀ p ∈ ps, Wd 6 p.1 ∧ p.2 < p.1.length
theorem app_ok {n : Nat} {M : Mem} {xs : List D} {x : D} (h : M[n]? = some (.lst xs)) (hl : xs.length < LIM) (hu : x.und n = true) : metD .append (.obj n) [x] M = .ok .non (M.set n (.lst (xs ++ [x]))) := by
  simp [metD, h, hu]; omega
theorem rec_app {n : Nat} {M : Mem} {xs : List D} (h : M[n]? = some (.lst xs)) : recD .append M (.obj n) = true := by simp [recD, h]
theorem rev_obj {n : Nat} {M : Mem} {xs : List D} (h : M[n]? = some (.lst xs)) : revD (.obj n) M = .ok (.lst xs.reverse) M := by simp [revD, lrOf, h]
/-- between two turns of the first loop -/
def SInv (j : Nat) (M0 : Mem) (thing : D) (i : Nat) (σ : St') (M : Mem) : Prop := ∃ here t w a ps, σ = [some (.obj j), some thing, some (.obj M0.length), some here, t, w, a] ∧ M.length = M0.length + 1 ∧ Wl M j ∧ M[M0.length]? = some (.lst (ps.map penc)) ∧ (∀ i, i ≠ j → i < M0.length → M[i]? = M0[i]?) ∧ ps.length ≤ i ∧ POk ps ∧ Sub 6 here
def UInv (j L : Nat) (thing : D) (M0 : Mem) (i : Nat) (σ : St') (M : Mem) : Prop := M = M0 ∧ ∃ here t w a, σ = [some (.obj j), some thing, some (.obj L), some here, t, w, a] ∧ Tg (8 + i) here
theorem Wd.tg {b : Nat} {l : List D} (h : Wd b l) : ∀ x ∈ l, Tg b x := fun x hx => (h.2.2 x hx).tg
def sp1 : SL := .cons (.if_ (.or_ (.not_ (.blt .isi (.cons (.var 3) (.cons (.k (.ty "tuple")) .nil)))) (.cmp .Eq (.var 3) (.tup .nil)))
  (.cons .brk
  .nil)
  .nil)
  (.cons (.asg (.var 6) (.call "_law_draw" (.cons (.var 0) (.cons (.blt .len (.cons (.var 3) .nil)) .nil)) .nil [.inl 0, .inl 1]))
  (.cons (.ex (.met .append (.var 2) (.cons (.tup (.cons (.var 3) (.cons (.var 6) .nil))) .nil)))
  (.cons (.asg (.var 3) (.idx (.var 3) (.var 6)))
  .nil)))
def sp2 : SL := .cons (.asg (.var 3) (.bin .Add (.bin .Add (.sli (.var 5) .none (.some (.var 6))) (.tup (.cons (.var 3) .nil))) (.sli (.var 5) (.some (.bin .Add (.var 6) (.k (.int 1)))) .none)))
  .nil
theorem spoilt_body : t__law_spoilt.body = .cons (.par [2, 3] (.cons (.lst true .nil) (.cons (.var 1) .nil)))
  (.cons (.for_ (.var 4) (.rng1 (.call "_law_draw" (.cons (.var 0) (.cons (.k (.int 6)) .nil)) .nil [.inl 0, .inl 1])) sp1)
  (.cons (.asg (.var 3) (.call "_law_bent" (.cons (.var 0) (.cons (.var 3) .nil)) .nil [.inl 0, .inl 1]))
  (.cons (.for_ (.tup (.cons (.var 5) (.cons (.var 6) .nil))) (.val (.rev (.var 2))) sp2)
  (.cons (.ret (.var 3))
  .nil)))) := rfl
theorem step1 {n : Nat} {M0 M : Mem} {thing : D} {i : Nat} {σ : St'} {x : D} (hj : j < M0.length) (hi : i < 6) (inv : SInv j M0 thing i σ M) :
    ∃ k M2, exs (P.en (run P (n + 1))) sp1 (σ.set 4 (some x)) M = .ok k M2 ∧ ((∃ σ2, k = .next σ2 ∧ SInv j M0 thing (i + 1) σ2 M2) ∨ ∃ σ2, k = .brk σ2 ∧ SInv j M0 thing 6 σ2 M2) := by
  obtain ⟨here, t, w', a, ps, rfl, hl, wl, hL, fr, hps, pok, sub⟩ := inv
  rcases sub with ⟨s, rfl, hs⟩ | ⟨k', rfl, hk'⟩
  · have it := fun (M : Mem) => isi_tup (M := M) (call := run P (n + 1)) (d := .str s) (by simp [th, hs])
    refine ⟨.brk [some (.obj j), some thing, some (.obj M0.length), some (.str s), some x, w', a], M, ?_, .inr ⟨_, rfl, .str s, some x, w', a, ps, rfl, hl, wl, hL, fr, by omega, pok, .inl ⟨s, rfl, hs⟩⟩⟩
    simp [sp1, en_call, it]
  · obtain ⟨l, hl', wd⟩ := enc_wd k'
    rw [hl']
    have it := fun (M : Mem) => isi_tup (M := M) (call := run P (n + 1)) (d := .tup l) (by rw [← hl']; exact enc_th k')
    have ie := isEmpty_no wd.1
    have hp : 0 < l.length := List.length_pos_iff.mpr wd.1
    have l3 := wd.2.1
    have wd' : Wd 6 l := ⟨wd.1, wd.2.1, fun y hy => (wd.2.2 y hy).mono (by omega)⟩
    obtain ⟨r, M2, hr, r0, r1, s2⟩ := run_draw (n := n) (M := M) (m := l.length) wl (by omega) (by omega)
    obtain ⟨c, rfl⟩ : ∃ c : Nat, r = c := ⟨r.toNat, by omega⟩
    have hc : c < l.length := by omega
    have hL2 : M2[M0.length]? = some (.lst (ps.map penc)) := by rw [s2.3 _ (by omega)]; exact hL
    have und : (D.tup [.tup l, .int (c : Int)]).und M0.length = true := by
      have := D.und_mono (Nat.zero_le M0.length) (tg_tup (b := 6) wd'.tg).2.2
      simp only [D.und, unds, Bool.and_true] at this ⊢
      exact this
    have ap := app_ok (x := .tup [.tup l, .int (c : Int)]) hL2 (by simp [LIM]; omega) und
    have ra := rec_app hL2
    have ix : ∀ M, idxD (.tup l) (.int (c : Int)) M = .ok l[c] M := fun M => idx_nat (by simp [hc])
    have hlt : M0.length < M2.length := by rw [s2.1, hl]; omega
    refine ⟨.next [some (.obj j), some thing, some (.obj M0.length), some l[c], some x, w', some (.int c)], M2.set M0.length (.lst (ps.map penc ++ [.tup [.tup l, .int (c : Int)]])), ?_, .inl ⟨_, rfl, l[c], some x, w', some (.int c), ps ++ [(l, c)], rfl, by simp [s2.1, hl], ?_, ?_, fun i h1 h2 => ?_, by simp; omega, fun p hp => ?_, wd'.2.2 _ (List.getElem_mem hc)⟩⟩
    · simp [sp1, en_call, en_dfl, d__law_draw, arrange, pick, it, ie, hr, ra, ap, ix, LIM]
    · obtain ⟨a1, b1, c1, e1, h⟩ := s2.2
      exact ⟨a1, b1, c1, e1, by rw [List.getElem?_set_ne (by omega)]; exact h⟩
    · rw [at_set hlt, List.map_append]; rfl
    · rw [List.getElem?_set_ne (by omega), s2.3 _ h1]; exact fr i h1 h2
    · rcases List.mem_append.mp hp with hp | hp
      · exact pok p hp
      · rw [List.mem_singleton] at hp; subst hp; exact ⟨wd', hc⟩
theorem step2 {n : Nat} {M0 M : Mem} {L : Nat} {thing : D} {i : Nat} {σ : St'} {p : List D × Nat} (wd : Wd 6 p.1) (hp : p.2 < p.1.length) (inv : UInv j L thing M0 i σ M) :
    ∃ σ1 M1, asT (P.en (run P (n + 1))) (.tup (.cons (.var 5) (.cons (.var 6) .nil))) (penc p) σ M = .ok σ1 M1 ∧ ∃ k M2, exs (P.en (run P (n + 1))) sp2 σ1 M1 = .ok k M2 ∧ ((∃ σ2, k = .next σ2 ∧ UInv j L thing M0 (i + 1) σ2 M2) ∨ ∃ σ2, k = .brk σ2 ∧ UInv j L thing M0 6 σ2 M2) := by
  obtain ⟨rfl, here, t, w, a, rfl, tg⟩ := inv
  obtain ⟨l, c⟩ := p
  dsimp only at wd hp
  have l3 := wd.2.1
  have a1 : ∀ M, sliD (.tup l) none (some (c : Int)) M = .ok (.tup (l.take c)) M := fun M => sli_to
  have a2 : ∀ M, sliD (.tup l) (some ((c : Int) + 1)) none M = .ok (.tup (l.drop (c + 1))) M := fun M => sli_from (n := c + 1)
  have ad : ∀ M, binD .Add (.tup (l.take c)) (.tup [here]) M = .ok (.tup (l.take c ++ [here])) M := fun M => add_tt (by simp [LIM]; omega)
  have ad2 : ∀ M, binD .Add (.tup (l.take c ++ [here])) (.tup (l.drop (c + 1))) M = .ok (.tup ((l.take c ++ [here]) ++ l.drop (c + 1))) M := fun M => add_tt (by simp [LIM]; omega)
  refine ⟨[some (.obj j), some thing, some (.obj L), some here, t, some (.tup l), some (.int c)], M, by simp [penc, TL.len], .next [some (.obj j), some thing, some (.obj L), some (.tup ((l.take c ++ [here]) ++ l.drop (c + 1))), t, some (.tup l), some (.int c)], M, ?_, .inl ⟨_, rfl, rfl, _, _, _, _, rfl, ?_⟩⟩
  · simp only [sp2]
    simp [-List.append_assoc, a1, a2, ad, ad2, LIM]
  · have : Tg (8 + i + 1) (.tup ((l.take c ++ [here]) ++ l.drop (c + 1))) := tg_tup fun x hx => by
      rcases List.mem_append.mp hx with hx | hx
      · rcases List.mem_append.mp hx with hx | hx
        · exact (wd.tg x (List.mem_of_mem_take hx)).mono (by omega)
        · rw [List.mem_singleton] at hx; rw [hx]; exact tg
      · exact (wd.tg x (List.mem_of_mem_drop hx)).mono (by omega)
    exact this
theorem run_spoilt {n : Nat} {M : Mem} {k : Kd} (w : Wl M j) (hk : k.dp ≤ 6) (hn : 7 ≤ n) : ∃ r M', run P n (.fn "_law_spoilt") [.obj j, enc k] M = .ok r M' ∧ Tg 14 r ∧ Stp j M M' := by
  obtain ⟨n, rfl⟩ : ∃ m, n = m + 1 + 1 := ⟨n - 2, by omega⟩
  have hj := w.lt
  have w0 : Wl (M ++ [.lst []]) j := by
    obtain ⟨a, b, c, e, h⟩ := w
    exact ⟨a, b, c, e, by rw [List.getElem?_append_left hj]; exact h⟩
  obtain ⟨q, M1, hq, q0, q1, s1⟩ := run_draw (n := n) (M := M ++ [.lst []]) (m := 6) w0 (by decide) (by decide)
  have hp1 : M1[M.length]? = some (.lst []) := by rw [s1.3 _ (by omega)]; simp
  have l1 : M1.length = M.length + 1 := by rw [s1.1]; simp
  obtain ⟨σ1, M2, e1, inv1⟩ := forL_inv (Inv := SInv j M (enc k)) (Out := SInv j M (enc k) 6) (all := rngL 0 q.toNat) (xs := rngL 0 q.toNat) (σ := [some (.obj j), some (enc k), some (.obj M.length), some (enc k), none, none, none]) (M := M1)
    (g := fun d σ M => asT (P.en (run P (n + 1))) (.var 4) d σ M) (f := fun σ M => exs (P.en (run P (n + 1))) sp1 σ M)
    (fun i x σ M' hx inv => ⟨σ.set 4 (some x), M', asT_var, step1 hj (by have := (rngL_get hx).2; omega) inv⟩)
    (fun σ M' inv => by
      obtain ⟨here, t, w', a, ps, e, hl, wl, hL, fr, hps, pok, sub⟩ := inv
      rw [rngL_len] at hps
      exact ⟨here, t, w', a, ps, e, hl, wl, hL, fr, by omega, pok, sub⟩)
    ⟨enc k, none, none, none, [], rfl, l1, s1.2, hp1, fun i h1 h2 => by rw [s1.3 i h1, List.getElem?_append_left h2], Nat.le_refl _, fun p hp => (nomatch hp), .inr ⟨k, rfl, hk⟩⟩
  obtain ⟨here, t, w', a, ps, rfl, hl2, wl2, hL2, fr2, hps, pok, sub⟩ := inv1
  obtain ⟨b, M3, e3, tb, s3⟩ := run_bent (n := n + 1) wl2 sub (by omega)
  have hL3 : M3[M.length]? = some (.lst (ps.map penc)) := by rw [s3.3 _ (by omega)]; exact hL2
  have rv := rev_obj hL3
  obtain ⟨σ2, M4, e4, inv2⟩ := forL_inv (Inv := UInv j M.length (enc k) M3) (Out := UInv j M.length (enc k) M3 6) (all := (ps.map penc).reverse) (xs := (ps.map penc).reverse) (σ := [some (.obj j), some (enc k), some (.obj M.length), some b, t, w', a]) (M := M3)
    (g := fun d σ M => asT (P.en (run P (n + 1))) (.tup (.cons (.var 5) (.cons (.var 6) .nil))) d σ M) (f := fun σ M => exs (P.en (run P (n + 1))) sp2 σ M)
    (fun i x σ M' hx inv => by
      have hx := List.mem_of_getElem? hx
      rw [List.mem_reverse, List.mem_map] at hx
      obtain ⟨p, hp, rfl⟩ := hx
      exact step2 (pok p hp).1 (pok p hp).2 inv)
    (fun σ M' inv => by
      obtain ⟨e, here, t, w, a, e', tg⟩ := inv
      simp at tg
      exact ⟨e, here, t, w, a, e', tg.mono (by omega)⟩)
    ⟨rfl, b, t, w', a, rfl, tb⟩
  obtain ⟨rfl, here', t', w'', a', rfl, tg⟩ := inv2
  have st : Stp j M (M4.take M.length) := by
    have l3 : M4.length = M.length + 1 := by rw [s3.1, hl2]
    refine ⟨by simp [l3], ?_, fun i hi => ?_⟩
    · obtain ⟨a1, b1, c1, e1', h⟩ := s3.2
      exact ⟨a1, b1, c1, e1', by rw [List.getElem?_take_of_lt hj]; exact h⟩
    · by_cases hlt : i < M.length
      · rw [List.getElem?_take_of_lt hlt, s3.3 i hi]; exact fr2 i hi hlt
      · rw [List.getElem?_eq_none (by simp; omega), List.getElem?_eq_none (by omega)]
  refine ⟨here', M4.take M.length, ?_, tg.mono (by decide), st⟩
  rw [run_step l__law_spoilt rfl]
  have lv : leave .drop M.length here' M4 = .ok here' (M4.take M.length) := by simp [leave, D.und_mono (Nat.zero_le M.length) tg.2.2]
  rw [← lv, spoilt_body]
  have N7 : t__law_spoilt.N.length = 7 := rfl
  simp only [asT_var] at e1
  have md : t__law_spoilt.mode = .drop := rfl
  simp [N7, md, start', setAll, LIM, en_call, en_dfl, d__law_draw, d__law_bent, arrange, pick, hq, rng1_ok (n := q) (by omega) (by omega), e1, e3, rv, e4]
end
end Cw

set_option Elab.async false
set_option linter.all false
set_option maxRecDepth 100000
set_option maxHeartbeats 1000000
namespace Cw
open Ev
open PySem (Str PyData)
section
variable {j : Nat}
def tw1 : SL := .cons (.par [4, 5] (.cons (.idx (.var 2) (.bin .Mod (.var 3) (.blt .len (.cons (.var 2) .nil)))) (.cons (.idx (.tup (.cons (.tup (.cons (.k (.str "num")) .nil)) (.cons (.tup (.cons (.k (.str "unit")) .nil)) .nil))) (.bin .Mod (.var 3) (.k (.int 2)))) .nil)))
  (.cons (.asg (.var 1) (.ite (.cmp .Gt (.bin .Mod (.var 3) (.k (.int 3))) (.k (.int 0))) (.tup (.cons (.var 4) (.cons (.var 1) (.cons (.var 5) .nil)))) (.tup (.cons (.var 4) (.cons (.var 5) (.cons (.var 1) .nil))))))
  .nil)
theorem tower_body : t__law_tower.body = .cons (.par [1, 2] (.cons (.tup (.cons (.k (.str "num")) .nil)) (.cons (.call "_law_pick" (.cons (.var 0) (.cons (.tup (.cons (.tup (.cons (.k (.str "pair")) .nil)) (.cons (.tup (.cons (.k (.str "either")) (.cons (.k (.str "pair")) .nil))) (.cons (.tup (.cons (.k (.str "fun")) (.cons (.k (.str "pair")) (.cons (.k (.str "either")) .nil)))) .nil)))) .nil)) .nil [.inl 0, .inl 1]) .nil)))
  (.cons (.for_ (.var 3) (.rng1 (.call "_law_pick" (.cons (.var 0) (.cons (.tup (.cons (.k (.int 40)) (.cons (.k (.int 98)) (.cons (.k (.int 99)) (.cons (.k (.int 100)) (.cons (.k (.int 130)) .nil)))))) .nil)) .nil [.inl 0, .inl 1])) tw1)
  (.cons (.ret (.var 1))
  .nil)) := rfl
def Wrd (d : D) : Prop := d = .str "pair" ∨ d = .str "either" ∨ d = .str "fun"
def TInv (j : Nat) (M0 : Mem) (W : List D) (i : Nat) (σ : St') (M : Mem) : Prop := M = M0 ∧ ∃ (k : Kd) (t wd pt : Option D), σ = [some (.obj j), some (enc k), some (.tup W), t, wd, pt] ∧ k.wf = true ∧ k.dp ≤ i + 1
theorem tw_step {n : Nat} {M0 M : Mem} {W : List D} {i : Nat} {σ : St'} (hW : W ≠ []) (hw : ∀ x ∈ W, Wrd x) (inv : TInv j M0 W i σ M) :
    ∃ k M2, exs (P.en (run P n)) tw1 (σ.set 3 (some (.int (i : Int)))) M = .ok k M2 ∧ ((∃ σ2, k = .next σ2 ∧ TInv j M0 W (i + 1) σ2 M2) ∨ ∃ σ2, k = .brk σ2 ∧ TInv j M0 W 130 σ2 M2) := by
  obtain ⟨rfl, k, t, wd, pt, rfl, hk, hd⟩ := inv
  have hp : 0 < W.length := List.length_pos_iff.mpr hW
  have hm : i % W.length < W.length := Nat.mod_lt _ hp
  have c1 : (i : Int) % (W.length : Int) = ((i % W.length : Nat) : Int) := by push_cast; rfl
  have m1 : binD .Mod (.int (i : Int)) (.int (W.length : Int)) M = .ok (.int ((i : Int) % (W.length : Int))) M := mod_ii (by omega)
  have x1 : idxD (.tup W) (.int ((i : Int) % (W.length : Int))) M = .ok W[i % W.length] M := by rw [c1]; exact idx_nat (by simp [hm])
  have m2 : binD .Mod (.int (i : Int)) (.int 2) M = .ok (.int ((i : Int) % 2)) M := mod_ii (by decide)
  have m3 : binD .Mod (.int (i : Int)) (.int 3) M = .ok (.int ((i : Int) % 3)) M := mod_ii (by decide)
  obtain ⟨p, hp1, hp2, x2⟩ : ∃ p : Kd, p.wf = true ∧ p.dp = 1 ∧ idxD (.tup [.tup [.str "num"], .tup [.str "unit"]]) (.int ((i : Int) % 2)) M = .ok (enc p) M := by
    have : (i : Int) % 2 = 0 ∨ (i : Int) % 2 = 1 := by omega
    rcases this with h | h <;> rw [h]
    · exact ⟨.num, rfl, rfl, by simp [enc]⟩
    · exact ⟨.unit, rfl, rfl, by simp [enc]⟩
  have wr := hw _ (List.getElem_mem hm)
  generalize hwd : W[i % W.length] = wd' at wr x1
  have fin : ∀ a b : Kd, ∃ q : Kd, enc q = .tup [wd', enc a, enc b] ∧ q.wf = (a.wf && b.wf) ∧ q.dp = max a.dp b.dp + 1 := fun a b => by
    rcases wr with rfl | rfl | rfl
    · exact ⟨.pair a b, rfl, rfl, rfl⟩
    · exact ⟨.either a b, rfl, rfl, rfl⟩
    · exact ⟨.fn a b, rfl, rfl, rfl⟩
  by_cases h3 : 0 < (i : Int) % 3
  · obtain ⟨q, q1, q2, q3⟩ := fin k p
    refine ⟨.next [some (.obj j), some (enc q), some (.tup W), some (.int i), some wd', some (enc p)], M, ?_, .inl ⟨_, rfl, rfl, q, _, _, _, rfl, by rw [q2, hk, hp1]; rfl, by rw [q3]; omega⟩⟩
    rw [q1]
    simp [tw1, m1, x1, m2, x2, m3, h3, setAll, LIM]
  · obtain ⟨q, q1, q2, q3⟩ := fin p k
    refine ⟨.next [some (.obj j), some (enc q), some (.tup W), some (.int i), some wd', some (enc p)], M, ?_, .inl ⟨_, rfl, rfl, q, _, _, _, rfl, by rw [q2, hk, hp1]; rfl, by rw [q3]; omega⟩⟩
    rw [q1]
    simp [tw1, m1, x1, m2, x2, m3, h3, setAll, LIM]
theorem run_tower {n : Nat} {M : Mem} (w : Wl M j) (hn : 7 ≤ n) : ∃ k M', run P n (.fn "_law_tower") [.obj j] M = .ok (enc k) M' ∧ k.wf = true ∧ k.dp ≤ 131 ∧ Stp j M M' := by
  obtain ⟨n, rfl⟩ : ∃ m, n = m + 1 := ⟨n - 1, by omega⟩
  obtain ⟨d, M1, e1, hd, s1⟩ := run_pick (n := n) (M := M) (l := [.tup [.str "pair"], .tup [.str "either", .str "pair"], .tup [.str "fun", .str "pair", .str "either"]]) w (by simp) (by simp) (by simp [unds, D.und]) (by omega)
  obtain ⟨r, M2, e2, hr, s2⟩ := run_pick (n := n) (M := M1) (l := [.int 40, .int 98, .int 99, .int 100, .int 130]) s1.2 (by simp) (by simp) (by simp [unds, D.und]) (by omega)
  have s := s1.trans s2
  obtain ⟨W, rfl, hW, hw⟩ : ∃ W, d = .tup W ∧ W ≠ [] ∧ ∀ x ∈ W, Wrd x := by
    simp at hd
    rcases hd with rfl | rfl | rfl
    · exact ⟨_, rfl, by simp, by simp [Wrd]⟩
    · exact ⟨_, rfl, by simp, by simp [Wrd]⟩
    · exact ⟨_, rfl, by simp, by simp [Wrd]⟩
  obtain ⟨q, rfl, hq⟩ : ∃ q : Nat, r = .int (q : Int) ∧ q ≤ 130 := by
    simp at hr
    rcases hr with rfl | rfl | rfl | rfl | rfl
    · exact ⟨40, rfl, by decide⟩
    · exact ⟨98, rfl, by decide⟩
    · exact ⟨99, rfl, by decide⟩
    · exact ⟨100, rfl, by decide⟩
    · exact ⟨130, rfl, by decide⟩
  obtain ⟨σ1, M3, e3, inv⟩ := forL_inv (Inv := TInv j M2 W) (Out := TInv j M2 W 130) (all := rngL 0 q) (xs := rngL 0 q) (σ := [some (.obj j), some (enc .num), some (.tup W), none, none, none]) (M := M2)
    (g := fun d σ M => asT (P.en (run P n)) (.var 3) d σ M) (f := fun σ M => exs (P.en (run P n)) tw1 σ M)
    (fun i x σ M' hx inv => ⟨σ.set 3 (some x), M', asT_var, by
      obtain ⟨rfl, hi⟩ := rngL_get hx
      rw [Int.zero_add]
      exact tw_step hW hw inv⟩)
    (fun σ M' inv => by
      obtain ⟨e, k, t, wd, pt, e', h1, h2⟩ := inv
      rw [rngL_len] at h2
      exact ⟨e, k, t, wd, pt, e', h1, by omega⟩)
    ⟨rfl, .num, none, none, none, rfl, rfl, Nat.le_refl _⟩
  obtain ⟨rfl, k, t, wd, pt, rfl, hk, hkd⟩ := inv
  refine ⟨k, M3, ?_, hk, by omega, s⟩
  rw [run_step l__law_tower rfl, ← leave_enc (k := k) (M := M3) s.1.symm, tower_body]
  have N6 : t__law_tower.N.length = 6 := rfl
  have md : t__law_tower.mode = .drop := rfl
  simp only [asT_var] at e3
  have rg := rng1_ok (M := M3) (n := (q : Int)) (by omega) (by omega)
  simp only [Int.toNat_natCast] at rg
  simp only [enc] at e3
  simp [N6, md, start', setAll, LIM, en_call, en_dfl, d__law_pick, arrange, pick, e1, e2, rg, e3]
end
end Cw

set_option Elab.async false
set_option linter.all false
set_option maxRecDepth 100000
set_option maxHeartbeats 1000000
namespace Cw
open Ev
open PySem (Str PyData)
theorem l__law_right : P.fns.lookup ("_law_right" : Str) = some t__law_right := by rfl
theorem d__law_right : P.dfl ("_law_right" : Str) = [] := by rfl
theorem l__law_well : P.fns.lookup ("_law_well" : Str) = some t__law_well := by rfl
theorem d__law_well : P.dfl ("_law_well" : Str) = [] := by rfl
theorem l_law : P.fns.lookup ("law" : Str) = some t_law := by rfl
def rb1 : SL := .cons (.asg (.var 7) (.call "_law_spoilt" (.cons (.var 0) (.cons (.var 4) .nil)) .nil [.inl 0, .inl 1]))
  (.cons (.if_ (.not_ (.call "_law_same" (.cons (.call "_law_told" (.cons (.var 7) .nil) .nil [.inl 0]) (.cons (.call "_law_due" (.cons (.var 7) .nil) .nil [.inl 0]) .nil)) .nil [.inl 0, .inl 1]))
  (.cons (.ret (.k (.bl false)))
  .nil)
  .nil)
  .nil)
def rb0 : SL := .cons (.asg (.var 4) (.call "_law_some_kind" (.cons (.var 0) .nil) .nil [.inl 0]))
  (.cons (.if_ (.or_ (.not_ (.call "_law_same" (.cons (.call "_law_told" (.cons (.var 4) .nil) .nil [.inl 0]) (.cons (.call "_law_due" (.cons (.var 4) .nil) .nil [.inl 0]) .nil)) .nil [.inl 0, .inl 1])) (.not_ (.call "_law_same" (.cons (.call "is_kind" .nil (.cons (.var 4) .nil) [.inl 0]) (.cons (.k (.bl true)) .nil)) .nil [.inl 0, .inl 1])))
  (.cons (.ret (.k (.bl false)))
  .nil)
  .nil)
  (.cons (.if_ (.not_ (.call "_law_same" (.cons (.lst false (.cons (.call "depth_of_kind" (.cons (.var 4) .nil) .nil [.inl 0]) (.cons (.call "depth_of_kind" .nil (.cons (.var 4) .nil) [.inl 0]) .nil))) (.cons (.bin .Mult (.lst false (.cons (.call "_law_deep_kind" (.cons (.var 4) .nil) .nil [.inl 0]) .nil)) (.k (.int 2))) .nil)) .nil [.inl 0, .inl 1]))
  (.cons (.ret (.k (.bl false)))
  .nil)
  .nil)
  (.cons (.for_ (.var 5) (.rng1 (.k (.int 3)))
  rb1)
  (.cons (.asg (.var 6) (.lst false (.cons (.call "is_plain_kind" .nil (.cons (.var 7) .nil) [.inl 0]) (.cons (.call "is_data_kind" .nil (.cons (.var 7) .nil) [.inl 0]) (.cons (.call "is_group_kind" .nil (.cons (.var 7) .nil) [.inl 0]) .nil)))))
  (.cons (.if_ (.not_ (.call "_law_same" (.cons (.var 6) (.cons (.sli (.call "_law_due" (.cons (.var 7) .nil) .nil [.inl 0]) (.some (.k (.int 1))) .none) .nil)) .nil [.inl 0, .inl 1]))
  (.cons (.ret (.k (.bl false)))
  .nil)
  .nil)
  .nil)))))
theorem right_body : t__law_right.body = .cons (.for_ (.var 1) (.rng1 (.k (.int 5)))
  rb0)
  (.cons (.par [2, 3] (.cons (.call "_law_odd" (.cons (.var 0) .nil) .nil [.inl 0]) (.cons (.call "_law_tower" (.cons (.var 0) .nil) .nil [.inl 0]) .nil)))
  (.cons (.if_ (.or_ (.not_ (.call "_law_same" (.cons (.call "_law_told" (.cons (.var 2) .nil) .nil [.inl 0]) (.cons (.call "_law_due" (.cons (.var 2) .nil) .nil [.inl 0]) .nil)) .nil [.inl 0, .inl 1])) (.not_ (.call "_law_same" (.cons (.call "_law_told" (.cons (.var 3) .nil) .nil [.inl 0]) (.cons (.call "_law_due" (.cons (.var 3) .nil) .nil [.inl 0]) .nil)) .nil [.inl 0, .inl 1])))
  (.cons (.ret (.k (.bl false)))
  .nil)
  .nil)
  (.cons (.if_ (.and_ (.cmp .LtE (.call "_law_deep_kind" (.cons (.var 3) .nil) .nil [.inl 0]) (.k (.int 100))) (.not_ (.call "_law_same" (.cons (.call "depth_of_kind" (.cons (.var 3) .nil) .nil [.inl 0]) (.cons (.call "_law_deep_kind" (.cons (.var 3) .nil) .nil [.inl 0]) .nil)) .nil [.inl 0, .inl 1])))
  (.cons (.ret (.k (.bl false)))
  .nil)
  .nil)
  (.cons (.ret (.call "_law_same" (.cons (.glo "TRUTH") (.cons (.tup (.cons (.k (.str "either")) (.cons (.tup (.cons (.k (.str "unit")) .nil)) (.cons (.tup (.cons (.k (.str "unit")) .nil)) .nil)))) .nil)) .nil [.inl 0, .inl 1]))
  .nil)))) := rfl
noncomputable def byL (d : D) : List D := [.bl (isKdN 100 d && isPl d), .bl (isKdN 100 d && isK Kd.dt d), .bl (isKdN 100 d && isK Kd.gr d)]
theorem due_drop (d : D) : (dueL d).drop 1 = byL d := by
  unfold dueL byL
  cases isKdN 100 d <;> simp
theorem rp_by {d : D} : rpOk (.lst (byL d)) = true := by
  unfold byL
  cases (isKdN 100 d && isPl d) <;> cases (isKdN 100 d && isK Kd.dt d) <;> cases (isKdN 100 d && isK Kd.gr d) <;> decide +kernel
theorem rp_ints : ∀ a : Nat, a < 140 → rpOk (.lst [.int a, .int a]) = true := by decide +kernel
theorem rp_int : ∀ a : Nat, a < 140 → rpOk (.int a) = true := by decide +kernel
theorem rp_tt : rpOk (.bl true) = true := by decide +kernel
def TR : D := .tup [.str "either", .tup [.str "unit"], .tup [.str "unit"]]
theorem rp_TR : rpOk TR = true := by decide +kernel
theorem G_TR : P.G ("TRUTH" : Str) = some TR := by rfl
section
variable {j : Nat}
def LInv (j : Nat) (M0 : Mem) (k : Kd) (i : Nat) (σ : St') (M : Mem) : Prop := Stp j M0 M ∧ ∃ a b c e f g, σ = [some (.obj j), a, b, c, some (enc k), e, f, g] ∧ (1 ≤ i → ∃ d, g = some d ∧ Tg 14 d)
def OInv (j : Nat) (M0 : Mem) (i : Nat) (σ : St') (M : Mem) : Prop := Stp j M0 M ∧ ∃ a b c d e f g, σ = [some (.obj j), a, b, c, d, e, f, g]
theorem in_step {n : Nat} {M0 M : Mem} {k : Kd} {i : Nat} {σ : St'} {x : D} (hn : 30 ≤ n) (hk : k.dp ≤ 6) (inv : LInv j M0 k i σ M) :
    ∃ q M2, exs (P.en (run P (n + 1))) rb1 (σ.set 5 (some x)) M = .ok q M2 ∧ ((∃ σ2, q = .next σ2 ∧ LInv j M0 k (i + 1) σ2 M2) ∨ ∃ σ2, q = .brk σ2 ∧ LInv j M0 k 3 σ2 M2) := by
  obtain ⟨st, a, b, c, e, f, g, rfl, _⟩ := inv
  obtain ⟨d, M2, e1, tg, s2⟩ := run_spoilt (n := n + 1) st.2 hk (by omega)
  have ht := tg.1
  have hd := tg.2.1
  have t1 := fun M => run_told (n := n + 1) (M := M) ht (by omega)
  have t2 := fun M => run_due (n := n + 1) (M := M) ht (by omega)
  have t3 := fun M => run_same (n := n) (M := M) (x := .lst (dueL d)) rp_due
  refine ⟨.next [some (.obj j), a, b, c, some (enc k), some x, f, some d], M2, ?_, .inl ⟨_, rfl, st.trans s2, a, b, c, some x, f, some d, rfl, fun _ => ⟨d, rfl, tg⟩⟩⟩
  simp [rb1, en_call, en_dfl, d__law_spoilt, d__law_told, d__law_due, d__law_same, arrange, pick, e1, t1, t2, t3]
theorem mul_2 {M : Mem} {x : D} : binD .Mult (.lst [x]) (.int 2) M = .ok (.lst [x, x]) M := rfl
theorem out_step {n : Nat} {M0 M : Mem} {i : Nat} {σ : St'} {x : D} (hn : 30 ≤ n) (inv : OInv j M0 i σ M) :
    ∃ q M2, exs (P.en (run P (n + 1))) rb0 (σ.set 1 (some x)) M = .ok q M2 ∧ ((∃ σ2, q = .next σ2 ∧ OInv j M0 (i + 1) σ2 M2) ∨ ∃ σ2, q = .brk σ2 ∧ OInv j M0 5 σ2 M2) := by
  obtain ⟨st, a, b, c, d, e, f, g, rfl⟩ := inv
  obtain ⟨k, M1, e1, hk, hd, s1⟩ := run_some_kind (n := n + 1) st.2 (by omega)
  have tk := enc_th k
  have dk : tdp (enc k) ≤ 6 := by rw [enc_tdp]; exact hd
  have t1 := fun M => run_told (n := n + 1) (M := M) tk (by omega)
  have t2 := fun M => run_due (n := n + 1) (M := M) tk (by omega)
  have t3 := fun M => run_same (n := n) (M := M) (x := .lst (dueL (enc k))) rp_due
  have kn : isKdN 100 (enc k) = true := by rw [isKdN_enc hk]; simp; omega
  have t4 := fun M => run_is_kind (n := n + 1) (M := M) tk (by omega)
  rw [kn] at t4
  have t5 := fun M => run_same (n := n) (M := M) (x := .bl true) rp_tt
  have t6 := fun M => run_depth_of_kind (n := n + 1) (M := M) hk (by omega) (by omega)
  have t7 := fun M => run_deep_kind k (n + 1) M (by omega)
  have t8 := fun M => run_same (n := n) (M := M) (x := .lst [.int k.dp, .int k.dp]) (rp_ints _ (by omega))
  obtain ⟨σ2, M2, e2, inv⟩ := forL_inv (Inv := LInv j M1 k) (Out := LInv j M1 k 3) (all := rngL 0 3) (xs := rngL 0 3) (σ := [some (.obj j), some x, b, c, some (enc k), e, f, g]) (M := M1)
    (g := fun d σ M => asT (P.en (run P (n + 1))) (.var 5) d σ M) (f := fun σ M => exs (P.en (run P (n + 1))) rb1 σ M)
    (fun i x σ M' hx inv => ⟨σ.set 5 (some x), M', asT_var, in_step hn hd inv⟩)
    (fun σ M' inv => by rw [rngL_len] at inv; exact inv)
    ⟨.refl s1.2, some x, b, c, e, f, g, rfl, fun h => by omega⟩
  obtain ⟨s2, a', b', c', e', f', g', rfl, hg⟩ := inv
  obtain ⟨d', rfl, tg⟩ := hg (by decide)
  have ht := tg.1
  have hd' := tg.2.1
  have u1 := fun M => run_is_plain_kind (n := n + 1) (M := M) ht (by omega)
  have u2 := fun M => run_is_data_kind (n := n + 1) (M := M) ht (by omega)
  have u3 := fun M => run_is_group_kind (n := n + 1) (M := M) ht (by omega)
  have u4 := fun M => run_due (n := n + 1) (M := M) ht (by omega)
  have u5 := fun M => run_same (n := n) (M := M) (x := .lst (byL d')) rp_by
  have bl : D.lst [.bl (isKdN 100 d' && isPl d'), .bl (isKdN 100 d' && isK Kd.dt d'), .bl (isKdN 100 d' && isK Kd.gr d')] = .lst (byL d') := rfl
  have u6 : ∀ M, sliD (.lst (dueL d')) (some 1) none M = .ok (.lst (byL d')) M := fun M => by rw [sli_1L, due_drop]
  have rg : ∀ M, rng1V (.int 3) M = .ok (rngL 0 3, none) M := fun M => rng1_ok (by decide) (by decide)
  simp only [asT_var] at e2
  refine ⟨.next [some (.obj j), a', b', c', some (enc k), e', some (.lst (byL d')), some d'], M2, ?_, .inl ⟨_, rfl, (st.trans s1).trans s2, _, _, _, _, _, _, _, rfl⟩⟩
  simp only [rb0]
  simp [en_call, en_dfl, d__law_some_kind, d__law_told, d__law_due, d__law_same, d_is_kind, d_depth_of_kind, d__law_deep_kind, d_is_plain_kind, d_is_data_kind, d_is_group_kind, arrange, pick, LIM, e1, t1, t2, t3, t4, t5, t6, t7, mul_2, t8, rg, e2, u1, u2, u3, bl, u4, u6, u5, -sli_1L]
theorem run_right {n : Nat} {M : Mem} (w : Wl M j) (hn : 140 ≤ n) : ∃ M', run P n (.fn "_law_right") [.obj j] M = .ok (.bl true) M' ∧ M'.length = M.length := by
  obtain ⟨n, rfl⟩ : ∃ m, n = m + 1 + 1 := ⟨n - 2, by omega⟩
  obtain ⟨σ1, M1, e1, inv⟩ := forL_inv (Inv := OInv j M) (Out := OInv j M 5) (all := rngL 0 5) (xs := rngL 0 5) (σ := [some (.obj j), none, none, none, none, none, none, none]) (M := M)
    (g := fun d σ M => asT (P.en (run P (n + 1))) (.var 1) d σ M) (f := fun σ M => exs (P.en (run P (n + 1))) rb0 σ M)
    (fun i x σ M' hx inv => ⟨σ.set 1 (some x), M', asT_var, out_step (by omega) inv⟩)
    (fun σ M' inv => by rw [rngL_len] at inv; exact inv)
    ⟨.refl w, none, none, none, none, none, none, none, rfl⟩
  obtain ⟨s1, a, b, c, d, e, f, g, rfl⟩ := inv
  obtain ⟨o, M2, e2, tg, s2⟩ := run_odd (n := n + 1) s1.2 (by omega)
  obtain ⟨k, M3, e3, hk, hd, s3⟩ := run_tower (n := n + 1) s2.2 (by omega)
  have s := (s1.trans s2).trans s3
  have ht := tg.1
  have hd' := tg.2.1
  have t1 := fun M => run_told (n := n + 1) (M := M) ht (by omega)
  have t2 := fun M => run_due (n := n + 1) (M := M) ht (by omega)
  have t3 := fun M => run_same (n := n) (M := M) (x := .lst (dueL o)) rp_due
  have tk := enc_th k
  have dk : tdp (enc k) ≤ 131 := by rw [enc_tdp]; exact hd
  have v1 := fun M => run_told (n := n + 1) (M := M) tk (by omega)
  have v2 := fun M => run_due (n := n + 1) (M := M) tk (by omega)
  have v3 := fun M => run_same (n := n) (M := M) (x := .lst (dueL (enc k))) rp_due
  have v4 := fun M => run_deep_kind k (n + 1) M (by omega)
  have rg : ∀ M, rng1V (.int 5) M = .ok (rngL 0 5, none) M := fun M => rng1_ok (by decide) (by decide)
  have tr := fun M => run_same (n := n) (M := M) (x := TR) rp_TR
  have trd : D.tup [.str "either", .tup [.str "unit"], .tup [.str "unit"]] = TR := rfl
  simp only [asT_var] at e1
  refine ⟨M3, ?_, s.1⟩
  have N8 : t__law_right.N.length = 8 := rfl
  have md : t__law_right.mode = .drop := rfl
  have lv : leave .drop M.length (.bl true) M3 = .ok (.bl true) M3 := leave_und (by simp [D.und]) s.1.symm
  rw [run_step l__law_right rfl, right_body, ← lv]
  by_cases h : (k.dp : Int) ≤ 100
  · have v5 := fun M => run_depth_of_kind (n := n + 1) (M := M) hk (by omega) (by omega)
    have v6 := fun M => run_same (n := n) (M := M) (x := .int k.dp) (rp_int _ (by omega))
    simp [N8, md, start', setAll, LIM, en_call, en_dfl, en_G, G_TR, trd, d__law_odd, d__law_tower, d__law_told, d__law_due, d__law_same, d__law_deep_kind, d_depth_of_kind, arrange, pick, rg, e1, e2, e3, t1, t2, t3, v1, v2, v3, v4, h, v5, v6, tr]
  · simp [N8, md, start', setAll, LIM, en_call, en_dfl, en_G, G_TR, trd, d__law_odd, d__law_tower, d__law_told, d__law_due, d__law_same, d__law_deep_kind, d_depth_of_kind, arrange, pick, rg, e1, e2, e3, t1, t2, t3, v1, v2, v3, v4, h, tr]
end
end Cw

set_option Elab.async false
set_option linter.all false
set_option maxRecDepth 100000
set_option maxHeartbeats 1000000
namespace Cw
open Ev
open PySem (Str PyData)
def wl1 : SL := .cons (.asg (.var 2) (.bin .Mod (.blt .int (.cons (.bin .Add (.bin .Add (.bin .Mult (.var 2) (.k (.int 50707))) (.bin .Mod (.blt .int (.cons (.var 3) .nil)) (.k (.int 2147483587)))) (.k (.int 9))) .nil)) (.k (.int 2147483563))))
  .nil
def wl2 : SL := .cons (.asg (.var 4) (.ite (.cmp .Lt (.var 1) (.blt .len (.cons (.var 0) .nil))) (.blt .int (.cons (.idx (.var 0) (.var 1)) .nil)) (.k (.int 0))))
  (.cons (.asg (.var 2) (.bin .Mod (.blt .int (.cons (.bin .Add (.bin .Add (.bin .Mult (.var 2) (.k (.int 41))) (.bin .Mult (.bin .Mod (.blt .int (.cons (.var 4) .nil)) (.k (.int 2147483587))) (.k (.int 20047)))) (.k (.int 7))) .nil)) (.k (.int 2147483563))))
  (.cons (.ret (.lst true (.cons (.ite (.or_ (.cmp .Lt (.var 4) (.k (.int 0))) (.cmp .GtE (.var 4) (.bin .Pow (.k (.int 10)) (.k (.int 14))))) (.blt .abs (.cons (.var 4) .nil)) (.k (.int 0))) (.cons (.var 2) (.cons (.k (.int 0)) (.cons (.k (.int 2)) .nil))))))
  .nil))
theorem well_body : t__law_well.body = .cons (.asg (.var 2) (.bin .Add (.k (.int 612049)) (.bin .Mult (.k (.int 8219)) (.var 1))))
  (.cons (.for_ (.var 3) (.val (.sli (.var 0) .none (.some (.k (.int 9))))) wl1) wl2) := rfl
def WInv (a b : D) (M0 : Mem) (i : Nat) (σ : St') (M : Mem) : Prop := M = M0 ∧ ∃ (m : Int) (c : Option D), σ = [some a, some b, some (.int m), c, none]
theorem mul_l {i j : Int} {M : Mem} (h : i64 i = true) : binD .Mult (.int i) (.int j) M = .ok (.int (i * j)) M := mul_ii (by rw [h]; rfl)
theorem mul_r {i j : Int} {M : Mem} (h : i64 j = true) : binD .Mult (.int i) (.int j) M = .ok (.int (i * j)) M := mul_ii (by rw [h]; simp)
theorem pow_14 {M : Mem} : binD .Pow (.int 10) (.int 14) M = .ok (.int 100000000000000) M := by simp [binD]
theorem run_well {ns : List Int} {t n : Nat} {M : Mem} : ∃ a b c e : Int, run P (n + 1) (.fn "_law_well") [.rol (ns.map .int), .int t] M = .ok (.obj M.length) (M ++ [.lst [.int a, .int b, .int c, .int e]]) := by
  have sl : ∀ M, sliD (.rol (ns.map .int)) none (some 9) M = .ok (.lst ((ns.take 9).map .int)) M := fun M => by
    have := cutL_to (l := ns.map D.int) (n := 9)
    rw [List.map_take]
    exact congrArg (fun z => Res.ok (D.lst z) M) this
  have m1 : ∀ M, binD .Mult (.int 8219) (.int (t : Int)) M = .ok (.int (8219 * (t : Int))) M := fun M => mul_l (by decide +kernel)
  obtain ⟨σ1, M1, e1, inv⟩ := forL_inv (Inv := WInv (.rol (ns.map .int)) (.int t) M) (Out := WInv (.rol (ns.map .int)) (.int t) M 9) (all := (ns.take 9).map .int) (xs := (ns.take 9).map .int) (σ := [some (.rol (ns.map .int)), some (.int t), some (.int (612049 + 8219 * (t : Int))), none, none]) (M := M)
    (g := fun d σ M => asT (P.en (run P n)) (.var 3) d σ M) (f := fun σ M => exs (P.en (run P n)) wl1 σ M)
    (fun i x σ M' hx inv => by
      obtain ⟨rfl, m, c, rfl⟩ := inv
      have hx := List.mem_of_getElem? hx
      rw [List.mem_map] at hx
      obtain ⟨v, _, rfl⟩ := hx
      have m2 : ∀ M, binD .Mult (.int m) (.int 50707) M = .ok (.int (m * 50707)) M := fun M => mul_r (by decide +kernel)
      have m3 : ∀ M, binD .Mod (.int v) (.int 2147483587) M = .ok (.int (v % 2147483587)) M := fun M => mod_ii (by decide)
      have m4 : ∀ z M, binD .Mod (.int z) (.int 2147483563) M = .ok (.int (z % 2147483563)) M := fun z M => mod_ii (by decide)
      exact ⟨_, _, asT_var, .next [some (.rol (ns.map .int)), some (.int t), some (.int ((m * 50707 + v % 2147483587 + 9) % 2147483563)), some (.int v), none], M', by simp [wl1, m2, m3, m4], .inl ⟨_, rfl, rfl, _, _, rfl⟩⟩)
    (fun σ M' inv => inv) ⟨rfl, _, _, rfl⟩
  obtain ⟨rfl, m, c, rfl⟩ := inv
  obtain ⟨v, hv⟩ : ∃ v : Int, ev (P.en (run P n)) (.ite (.cmp .Lt (.var 1) (.blt .len (.cons (.var 0) .nil))) (.blt .int (.cons (.idx (.var 0) (.var 1)) .nil)) (.k (.int 0))) [some (.rol (ns.map .int)), some (.int t), some (.int m), c, none] M1 = .ok (.int v) M1 := by
    by_cases h : t < ns.length
    · have hi : idxD (.rol (ns.map .int)) (.int (t : Int)) M1 = .ok (.int ns[t]) M1 := idx_natR (by simp [h])
      refine ⟨ns[t], ?_⟩
      have h' : (t : Int) < (ns.length : Int) := by omega
      simp [h', hi, h]
    · have h' : ¬ (t : Int) < (ns.length : Int) := by omega
      exact ⟨0, by simp [h', h]⟩
  have m2 : ∀ M, binD .Mult (.int m) (.int 41) M = .ok (.int (m * 41)) M := fun M => mul_r (by decide +kernel)
  have m3 : ∀ M, binD .Mod (.int v) (.int 2147483587) M = .ok (.int (v % 2147483587)) M := fun M => mod_ii (by decide)
  have m4 : ∀ z M, binD .Mod (.int z) (.int 2147483563) M = .ok (.int (z % 2147483563)) M := fun z M => mod_ii (by decide)
  have m5 : ∀ z M, binD .Mult (.int z) (.int 20047) M = .ok (.int (z * 20047)) M := fun z M => mul_r (by decide +kernel)
  obtain ⟨a, ha⟩ : ∃ a : Int, ev (P.en (run P n)) (.ite (.or_ (.cmp .Lt (.var 4) (.k (.int 0))) (.cmp .GtE (.var 4) (.bin .Pow (.k (.int 10)) (.k (.int 14))))) (.blt .abs (.cons (.var 4) .nil)) (.k (.int 0))) [some (.rol (ns.map .int)), some (.int t), some (.int ((m * 41 + v % 2147483587 * 20047 + 7) % 2147483563)), c, some (.int v)] M1 = .ok (.int a) M1 := by
    by_cases h : v < 0
    · exact ⟨_, by simp [h]; rfl⟩
    · by_cases h2 : 100000000000000 ≤ v
      · exact ⟨_, by simp [h, pow_14, h2]; rfl⟩
      · exact ⟨_, by simp [h, pow_14, h2]; rfl⟩
  refine ⟨a, (m * 41 + v % 2147483587 * 20047 + 7) % 2147483563, 0, 2, ?_⟩
  rw [run_step l__law_well rfl, well_body]
  have N5 : t__law_well.N.length = 5 := rfl
  have md : t__law_well.mode = .keep := rfl
  simp only [asT_var, List.map_take] at e1
  have st : exs (P.en (run P n)) wl2 [some (.rol (ns.map .int)), some (.int t), some (.int m), c, none] M1 = .ok (.ret (.obj M1.length)) (M1 ++ [.lst [.int a, .int ((m * 41 + v % 2147483587 * 20047 + 7) % 2147483563), .int 0, .int 2]]) := by
    simp only [wl2, exs_cons, ex_asg, hv, Res.bind_ok, asT_var, seqF_next]
    simp only [ex_ret, ev_lst, evs_cons]
    simp [-ev_ite, m2, m3, m4, m5, ha, LIM]
  simp [N5, md, start', m1, sl, e1, st]
theorem max_ii {call : D → List D → Mem → Res D} {x y : Int} {M : Mem} : bltD call .max [.int x, .int y] M = .ok (.int (if y > x then y else x)) M := rfl
theorem min_ii {call : D → List D → Mem → Res D} {x y : Int} {M : Mem} : bltD call .min [.int x, .int y] M = .ok (.int (if y < x then y else x)) M := rfl
theorem wl_new {M : Mem} {a b c e : Int} : Wl (M ++ [.lst [.int a, .int b, .int c, .int e]]) M.length := ⟨a, b, c, e, by simp⟩
theorem turn_ok {ns : List Int} {n : Nat} (hn : 140 ≤ n + 1) (t : Nat) (M : Mem) : ∃ M1 M2, run P (n + 1) (.fn "_law_well") [.rol (ns.map .int), .int t] M = .ok (.obj M.length) M1 ∧ run P (n + 1) (.fn "_law_right") [.obj M.length] M1 = .ok (.bl true) M2 := by
  obtain ⟨a, b, c, e, h⟩ := run_well (ns := ns) (t := t) (n := n) (M := M)
  obtain ⟨M2, h2, _⟩ := run_right (n := n + 1) (wl_new (M := M) (a := a) (b := b) (c := c) (e := e)) hn
  exact ⟨_, M2, h, h2⟩
theorem runs : ∀ ns : List Int, ns.length ≤ 63 → ∃ k M, L2.Room k PySem.callerA ∧ Ev.run P k (.fn "law") [.rol (ns.map .int)] [] = .ok (.bl true) M := by
  intro ns _
  obtain ⟨A0, B0, e0, f0⟩ := turn_ok (ns := ns) (n := 148) (by decide) 0 []
  obtain ⟨A1, B1, e1, f1⟩ := turn_ok (ns := ns) (n := 148) (by decide) 1 B0
  obtain ⟨A2, B2, e2, f2⟩ := turn_ok (ns := ns) (n := 148) (by decide) 2 B1
  simp only [Int.natCast_zero, Int.natCast_one, List.length_nil] at e0 f0 e1 f1 e2 f2
  have e2 : run P (148 + 1) (.fn "_law_well") [.rol (ns.map .int), .int 2] B1 = .ok (.obj B1.length) A2 := e2
  have r2 : rngL 0 2 = [.int 0, .int 1] := rfl
  have r3 : rngL 0 3 = [.int 0, .int 1, .int 2] := rfl
  have hm : (if (if (3 : Int) < (ns.length : Int) then (3 : Int) else (ns.length : Int)) > 2 then (if (3 : Int) < (ns.length : Int) then (3 : Int) else (ns.length : Int)) else (2 : Int)) = 2 ∨ (if (if (3 : Int) < (ns.length : Int) then (3 : Int) else (ns.length : Int)) > 2 then (if (3 : Int) < (ns.length : Int) then (3 : Int) else (ns.length : Int)) else (2 : Int)) = 3 := by
    split <;> split <;> omega
  have go : ∃ M, finish t_law.mode ([] : Mem).length (exs (P.en (run P 149)) t_law.body (start' t_law.N [.rol (ns.map .int)]) []) = .ok (.bl true) M := by
    rcases hm with hm | hm
    · refine ⟨B1.take 0, ?_⟩
      have rg : ∀ M, rng1V (.int 2) M = .ok (rngL 0 2, none) M := fun M => rng1_ok (by decide) (by decide)
      simp [t_law, start', wipe', max_ii, min_ii, hm, rg, r2, compL_cons, en_call, en_dfl, d__law_well, d__law_right, arrange, pick, LIM, e0, f0, e1, f1]
      rfl
    · refine ⟨B2.take 0, ?_⟩
      have rg : ∀ M, rng1V (.int 3) M = .ok (rngL 0 3, none) M := fun M => rng1_ok (by decide) (by decide)
      simp [t_law, start', wipe', max_ii, min_ii, hm, rg, r3, compL_cons, en_call, en_dfl, d__law_well, d__law_right, arrange, pick, LIM, e0, f0, e1, f1, e2, f2]
      rfl
  obtain ⟨M, hM⟩ := go
  exact ⟨150, M, ⟨rfl, by decide, by decide⟩, by rw [run_step l_law rfl]; exact hM⟩
end Cw

open PySem PySem.W PyProof.Rows
set_option Elab.async false
set_option maxRecDepth 100000
set_option maxHeartbeats 0 in
theorem PySem.Challenge.cw_changewise_k02_whole_kinds_of_anything_holds : PySem.Challenge.rw_changewise_k02_whole_kinds_of_anything.Holds := by
  w_on; o_law; k_head; (case hw => w_witness2)
  k_fill
  refine Ev.law_walk (l := PySem.Challenge.rw_changewise_k02_whole_kinds_of_anything) (n := 63) (P := Cw.P) (src := Cw.src) (con := Cw.con) (f := Cw.t_law) (by kernel_rfl) (by decide) (by kernel_rfl) (by kernel_rfl) (fun w h Y => PySem.W.kIn_of Y) (fun w => ?says) Cw.allf rfl (by decide +kernel) (by decide +kernel) (fun w => ?con) (fun w => ?hash) (by rfl) rfl rfl Cw.runs
  case says =>
    show He.obsD (Ev.faOf Cw.P) Cw.src _ = He.valD Cw.src
    kernel_rfl
  case con => kernel_rfl
  case hash => kernel_rfl

