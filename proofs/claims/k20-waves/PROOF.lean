import PyProof.Rows.All
import Wide.All
import OpenK.AllK
import Wide.FinOn
import HandS.ForMost
import HandS.ForExc
import HandS.EndTab
import HandS.Wide
import HandS.TupAny
import HandS.Deep
import HandS.Flow
import HandS.IsInst
import HandS.More
import HandS.SortInts
import HandS.SortRule
import HandS.Zip
import HandS.Small
import HandS.Style
import HandS.Records
import HandS.MapSum
import HandS.Iter
import HandS.DictComp
import KE.GoesNew
import KE.SortData
import HandS.ExcInit
import HandS.ExcField
import HandS.IterVal
import HandS.Defaults
import HandS.Star
import HandS.TryMany
import PyProof.ReprRoads
import KE.DataMinMax
import PySem.Challenge.RW_tablevow_k20_whole_waves
set_option Elab.async false
set_option linter.all false
set_option maxRecDepth 100000
set_option maxHeartbeats 2000000
/-! Fn1: flagged trees, what represents them, heaps that grow. -/
namespace Fn
open PySem L2

/-- sh: shared (never written again), pk: peeked at (as it stands now), ow: owned by the one who holds it, lk: owned, but a loop walks it -/
inductive Fl where
  | sh | pk | ow | lk
  deriving DecidableEq
/-- a dict's kind: keys ints and texts; keys tuples of these -/
inductive DK where
  | k | t
  deriving DecidableEq
inductive T where
  | non | bl (b : Bool) | int (i : Int) | str (x : Str) | fn (n : Nat) | scr (ns : List Int) | ktup (xs : List T)
  | tup (xs : List T)
  | lst (f : Fl) (xs : List T)
  | dct (f : Fl) (k : DK) (kvs : List (T × T))
  | obj (f : Fl) (c : Nat) (fs : List T)

/-- no pk in it -/
def T.np : T → Bool
  | .lst .pk _ => false
  | .dct .pk _ _ => false
  | .obj .pk _ _ => false
  | _ => true
/-- no pk, no owned object -/
def T.np1 : T → Bool
  | .lst .pk _ => false
  | .dct .pk _ _ => false
  | .obj .pk _ _ => false
  | .obj .ow _ _ => false
  | _ => true
theorem T.np_of {t : T} (h : t.np1 = true) : t.np = true := by
  unfold T.np1 at h
  unfold T.np
  split <;> simp_all
/-- the addresses: of defs and of classes, by number -/
structure Tx where
  K : PySem.W.Frag
  fa : Nat → Addr
  ca : Nat → Addr
  fl : Nat → List Str
/-- a class's instances: the names of their attributes -/
structure ObjC (x : Tx) (c : Nat) : Prop where
  cls : Cls x.K (x.ca c)
  no : ∀ n ∈ x.fl c, NoAttr x.K (x.ca c) n
  nd : (x.fl c).Nodup
  few : (x.fl c).length < 1000

/-! ### heaps that grow -/
def NT (o : HO) : Prop := ∀ ps, o ≠ .tbl ps
/-- no object there (but a table, perhaps) -/
def Vac (H : Hp) (a : Addr) : Prop := ∀ o, H a = some o → ¬ NT o
theorem Vac.of {H : Hp} {a : Addr} (h : H a = none) : Vac H a := fun o e => by rw [h] at e; cases e
theorem Vac.not {H : Hp} {a : Addr} {o : HO} (h : H a = some o) (n : NT o) : ¬ Vac H a := fun v => v o h n
theorem Vac.upd {H : Hp} {a b : Addr} {o : HO} (h : Vac (upd H b o) a) (n : NT o) : a ≠ b ∧ Vac H a := by
  have ne : a ≠ b := fun z => h o (by rw [z]; exact upd_same) n
  exact ⟨ne, fun u e => h u (by rw [upd_ne ne]; exact e)⟩
theorem Vac.put {H : Hp} {a b : Addr} {o u : HO} (h : Vac H a) (e : H b = some u) (n : NT u) : Vac (L2.upd H b o) a := fun w z => by
  have ne : a ≠ b := fun q => h u (by rw [q]; exact e) n
  rw [upd_ne ne] at z; exact h w z
abbrev No : Addr → Prop := fun _ => False
/-- the tables of code objects, each with its lambdas' name -/
class Tbs where
  tb : List (Addr × Str)
variable [Tbs]
/-- they stand -/
def TbOk (H : Hp) : Prop := LamX.Tabs Tbs.tb H
theorem TbOk.upd {H : Hp} {p : Addr} {u : HO} (h : TbOk H) (n : NT u) (hp : ∀ o, H p = some o → NT o ∧ ∀ φ, o ≠ .ext φ) : TbOk (upd H p u) := fun t ht => by
  obtain ⟨ps, h1, h2, h3⟩ := h t ht
  have n1 : t.1 ≠ p := fun z => (hp _ (by rw [← z]; exact h1)).1 ps rfl
  refine ⟨ps, by rw [upd_ne n1]; exact h1, h2, fun pos cv hc => ?_⟩
  obtain ⟨c, e1, e2⟩ := h3 pos cv hc
  exact ⟨c, e1, by rw [upd_ne (fun z => (hp _ (by rw [← z]; exact e2)).2 _ rfl)]; exact e2⟩
theorem tb_none {H : Hp} {p : Addr} (h : H p = none) : ∀ o, H p = some o → NT o ∧ ∀ φ, o ≠ .ext φ := fun o e => by rw [h] at e; cases e
theorem tb_some {H : Hp} {p : Addr} {o : HO} (h : H p = some o) (n : NT o) (x : ∀ φ, o ≠ .ext φ) : ∀ o, H p = some o → NT o ∧ ∀ φ, o ≠ .ext φ := fun o' e => by rw [h] at e; cases e; exact ⟨n, x⟩
/-- all but the tables stay, but for the addresses of P -/
structure Ext (P : Addr → Prop) (H H' : Hp) : Prop where
  keep : ∀ b o, H b = some o → NT o → ¬ P b → H' b = some o
  live : ∀ b o, H b = some o → NT o → ∃ o', H' b = some o' ∧ NT o'
  tabs : TbOk H → TbOk H'
theorem Ext.refl (P : Addr → Prop) (H : Hp) : Ext P H H := ⟨fun _ _ h _ _ => h, fun _ o h n => ⟨o, h, n⟩, fun h => h⟩
theorem Ext.trans {P : Addr → Prop} {H H1 H2 : Hp} (a : Ext P H H1) (b : Ext P H1 H2) : Ext P H H2 :=
  ⟨fun c o h n q => b.keep c o (a.keep c o h n q) n q, fun c o h n => let ⟨o', h', n'⟩ := a.live c o h n; b.live c o' h' n', fun h => b.tabs (a.tabs h)⟩
theorem Ext.back {P : Addr → Prop} {H H' : Hp} (e : Ext P H H') {b : Addr} (h : Vac H' b) : Vac H b := fun o q n => by
  obtain ⟨o', q', n'⟩ := e.live b o q n
  exact h o' q' n'
/-- addresses that the first heap does not have may be forgotten -/
theorem Ext.less {P P' : Addr → Prop} {H H' : Hp} (a : Ext P H H') (h : ∀ b, P b → P' b ∨ Vac H b) : Ext P' H H' :=
  ⟨fun c o e n q => a.keep c o e n fun z => (h c z).elim q fun z => z o e n, a.live, a.tabs⟩
theorem Ext.mono {P P' : Addr → Prop} {H H' : Hp} (a : Ext P H H') (h : ∀ b, P b → P' b) : Ext P' H H' := a.less fun b z => .inl (h b z)
theorem Ext.new {P : Addr → Prop} {H : Hp} {p : Addr} {o : HO} (h : H p = none) (n : NT o) : Ext P H (upd H p o) where
  keep := fun b u e _ _ => by rw [upd_ne (ne_of_none e h)]; exact e
  live := fun b u e m => ⟨u, by rw [upd_ne (ne_of_none e h)]; exact e, m⟩
  tabs := fun t => t.upd n (tb_none h)
/-- an object that is written -/
theorem Ext.put {P : Addr → Prop} {H : Hp} {p : Addr} {o u : HO} (h : H p = some o) (hm : Mut (some o)) (hx : ∀ φ, o ≠ .ext φ) (hp : P p) (nu : NT u) : Ext P H (upd H p u) where
  keep := fun b v e _ q => by rw [upd_ne (fun z => q (by rw [z]; exact hp))]; exact e
  live := fun b v e m => by
    by_cases z : b = p
    · rw [z, upd_same]; exact ⟨u, rfl, nu⟩
    · rw [upd_ne z]; exact ⟨v, e, m⟩
  tabs := fun t => t.upd nu (tb_some h (fun ps z => by rw [z] at hm; exact hm) hx)

def IsDct : HO → Prop
  | .dK _ => True
  | .dT _ => True
  | _ => False
/-- G stands in H (a dict may be locked) -/
def Sub (G H : Hp) : Prop := ∀ a o, G a = some o → NT o ∧ (H a = some o ∨ ∃ od, H a = some (.frz od o) ∧ IsDct o)

/-! ### what represents a tree -/
def kT : Key → T
  | .inl i => .int i
  | .inr x => .str x

mutual
/-- shared: every object stands in G -/
inductive RepS (x : Tx) (G : Hp) : V → T → Prop where
  | non : RepS x G .non .non
  | bl (b : Bool) : RepS x G (.bl b) (.bl b)
  | int (i : Int) : RepS x G (.int i) (.int i)
  | str (s : Str) : RepS x G (.str s) (.str s)
  | fn (n : Nat) : RepS x G (.ref (x.fa n)) (.fn n)
  | scr {a : Addr} {ns : List Int} {o : Obj} (h : G a = some (.frz o (.lst (ns.map V.int)))) : RepS x G (.ref a) (.scr ns)
  | scrK {a : Addr} {ns : List Int} (h : SqL x.K (fun _ => none) a (ns.map V.int)) : RepS x G (.ref a) (.scr ns)
  | ktup {a : Addr} {vs : List V} {ts : List T} (h : SqT x.K (fun _ => none) a vs) (r : RepsS x G vs ts) : RepS x G (.ref a) (.ktup ts)
  | tup {a : Addr} {vs : List V} {ts : List T} (h : G a = some (.tup vs)) (r : RepsS x G vs ts) : RepS x G (.ref a) (.tup ts)
  | lst {a : Addr} {vs : List V} {ts : List T} (h : G a = some (.lst vs)) (r : RepsS x G vs ts) : RepS x G (.ref a) (.lst .sh ts)
  | dctK {a : Addr} {kvs : List (Key × V)} {ts : List T} (h : G a = some (.dK kvs)) (r : RepsS x G (kvs.map (·.2)) ts) : RepS x G (.ref a) (.dct .sh .k ((kvs.map fun kv => kT kv.1).zip ts))
  | dctT {a : Addr} {kvs : List (List Key × V)} {ts : List T} (h : G a = some (.dT kvs)) (r : RepsS x G (kvs.map (·.2)) ts) : RepS x G (.ref a) (.dct .sh .t ((kvs.map fun kv => T.tup (kv.1.map kT)).zip ts))
  | obj {a dx : Addr} {c : Nat} {fs : List (Str × V)} {ts : List T} (ok : ObjC x c) (h : G a = some (.ins (x.ca c) dx fs)) (e : fs.map (·.1) = (x.fl c).take ts.length) (r : RepsS x G (fs.map (·.2)) ts) : RepS x G (.ref a) (.obj .sh c ts)
inductive RepsS (x : Tx) (G : Hp) : List V → List T → Prop where
  | nil : RepsS x G [] []
  | cons {v : V} {t : T} {vs : List V} {ts : List T} (h : RepS x G v t) (r : RepsS x G vs ts) : RepsS x G (v :: vs) (t :: ts)
end

def fpo : Fl → Addr → List Addr
  | .ow, a => [a]
  | .lk, a => [a]
  | _, _ => []
/-- how an object stands by the flag -/
def At (f : Fl) (H : Hp) (a : Addr) (o : HO) : Prop := match f with
  | .sh => False
  | .pk => Rd H a o
  | .ow => H a = some o
  | .lk => ∃ od, H a = some (.frz od o)
theorem At.rd {f : Fl} {H : Hp} {a : Addr} {o : HO} (h : At f H a o) : Rd H a o := by
  cases f with
  | sh => exact h.elim
  | pk => exact h
  | ow => exact .inl h
  | lk => exact .inr h
theorem At.move {f : Fl} {H H' : Hp} {a : Addr} {o : HO} (h : At f H a o) (n : NT o) (k : ∀ u, H a = some u → NT u → H' a = some u) : At f H' a o := by
  cases f with
  | sh => exact h
  | pk => exact h.elim (fun h => .inl (k _ h n)) fun ⟨od, h⟩ => .inr ⟨od, k _ h fun ps z => by cases z⟩
  | ow => exact k _ h n
  | lk => obtain ⟨od, h⟩ := h; exact ⟨od, k _ h fun ps z => by cases z⟩
mutual
/-- shared, peeked or owned; fp: what it owns -/
inductive Rep (x : Tx) (G H : Hp) : V → T → List Addr → Prop where
  | s {v : V} {t : T} (h : RepS x G v t) : Rep x G H v t []
  | lst {a : Addr} {vs : List V} {ts : List T} (f : Fl) (hf : f ≠ .sh ∧ f ≠ .lk) (h : H a = some (.lst vs)) (r : RepsS x G vs ts) : Rep x G H (.ref a) (.lst f ts) (fpo f a)
  | dctK {a : Addr} {kvs : List (Key × V)} {ts : List T} (f : Fl) (h : At f H a (.dK kvs)) (r : RepsS x G (kvs.map (·.2)) ts) : Rep x G H (.ref a) (.dct f .k ((kvs.map fun kv => kT kv.1).zip ts)) (fpo f a)
  | dctT {a : Addr} {kvs : List (List Key × V)} {ts : List T} (f : Fl) (h : At f H a (.dT kvs)) (r : RepsS x G (kvs.map (·.2)) ts) : Rep x G H (.ref a) (.dct f .t ((kvs.map fun kv => T.tup (kv.1.map kT)).zip ts)) (fpo f a)
  | obj {a dx : Addr} {c : Nat} {fs : List (Str × V)} {ts : List T} {fp : List Addr} (f : Fl) (hf : f ≠ .sh ∧ f ≠ .lk) (hp : f = .pk → fp = []) (hn : f = .ow → ∀ t ∈ ts, t.np1 = true) (ok : ObjC x c) (h : H a = some (.ins (x.ca c) dx fs)) (e : fs.map (·.1) = (x.fl c).take ts.length) (r : Reps x G H (fs.map (·.2)) ts fp) (nd : (fpo f a ++ fp).Nodup) :
      Rep x G H (.ref a) (.obj f c ts) (fpo f a ++ fp)
inductive Reps (x : Tx) (G H : Hp) : List V → List T → List Addr → Prop where
  | nil : Reps x G H [] [] []
  | cons {v : V} {t : T} {vs : List V} {ts : List T} {f1 f2 : List Addr} (h : Rep x G H v t f1) (r : Reps x G H vs ts f2) : Reps x G H (v :: vs) (t :: ts) (f1 ++ f2)
end

/-! ### growing -/
section
variable {x : Tx} {G G' H H' : Hp}
theorem Rd.le {a : Addr} {u : HO} (h : ∀ b o, G b = some o → G' b = some o) (r : Rd G a u) : Rd G' a u := by
  rcases r with r | ⟨o, r⟩
  · exact .inl (h _ _ r)
  · exact .inr ⟨o, h _ _ r⟩
theorem sqL_le {K : PySem.W.Frag} {a : Addr} {vs : List V} (h : ∀ b o, G b = some o → G' b = some o) (r : SqL K G a vs) : SqL K G' a vs := r.imp (Rd.le h) id
theorem sqT_le {K : PySem.W.Frag} {a : Addr} {vs : List V} (h : ∀ b o, G b = some o → G' b = some o) (r : SqT K G a vs) : SqT K G' a vs := r.imp (Rd.le h) id
theorem Sub.at {a : Addr} {o : HO} (s : Sub G H) (h : G a = some o) (hn : ¬ IsDct o) : H a = some o := (s a o h).2.elim id fun ⟨_, _, z⟩ => absurd z hn
theorem Sub.rd {a : Addr} {o : HO} (s : Sub G H) (h : G a = some o) : Rd H a o := (s a o h).2.elim .inl fun ⟨od, z, _⟩ => .inr ⟨od, z⟩
mutual
theorem RepS.le (h : ∀ b o, G b = some o → G' b = some o) : ∀ {v t}, RepS x G v t → RepS x G' v t
  | _, _, .non => .non
  | _, _, .bl b => .bl b
  | _, _, .int b => .int b
  | _, _, .str b => .str b
  | _, _, .fn n => .fn n
  | _, _, .scr a => .scr (h _ _ a)
  | _, _, .scrK a => .scrK a
  | _, _, .ktup a r => .ktup a (RepsS.le h r)
  | _, _, .tup a r => .tup (h _ _ a) (RepsS.le h r)
  | _, _, .lst a r => .lst (h _ _ a) (RepsS.le h r)
  | _, _, .dctK a r => .dctK (h _ _ a) (RepsS.le h r)
  | _, _, .dctT a r => .dctT (h _ _ a) (RepsS.le h r)
  | _, _, .obj k a e r => .obj k (h _ _ a) e (RepsS.le h r)
theorem RepsS.le (h : ∀ b o, G b = some o → G' b = some o) : ∀ {v t}, RepsS x G v t → RepsS x G' v t
  | _, _, .nil => .nil
  | _, _, .cons a r => .cons (RepS.le h a) (RepsS.le h r)
end
theorem RepsS.length {vs : List V} {ts : List T} (h : RepsS x G vs ts) : vs.length = ts.length := by
  induction vs generalizing ts with
  | nil => cases h; rfl
  | cons v vs ih => cases h with | cons a r => simp [ih r]
theorem RepsS.get {vs : List V} {ts : List T} (h : RepsS x G vs ts) {i : Nat} {v : V} (e : vs[i]? = some v) : ∃ t, ts[i]? = some t ∧ RepS x G v t := by
  induction vs generalizing ts i with
  | nil => simp at e
  | cons w vs ih =>
    cases h with
    | cons a r =>
      cases i with
      | zero => simp at e; subst e; exact ⟨_, rfl, a⟩
      | succ i => simpa using ih r (i := i) (by simpa using e)
theorem RepsS.get' {vs : List V} {ts : List T} (h : RepsS x G vs ts) {i : Nat} {t : T} (e : ts[i]? = some t) : ∃ v, vs[i]? = some v ∧ RepS x G v t := by
  induction vs generalizing ts i with
  | nil => cases h; simp at e
  | cons w vs ih =>
    cases h with
    | cons a r =>
      cases i with
      | zero => simp at e; subst e; exact ⟨_, rfl, a⟩
      | succ i => simpa using ih r (i := i) (by simpa using e)
theorem RepsS.append {vs ws : List V} {ts us : List T} (h : RepsS x G vs ts) (h' : RepsS x G ws us) : RepsS x G (vs ++ ws) (ts ++ us) := by
  induction vs generalizing ts with
  | nil => cases h; exact h'
  | cons v vs ih => cases h with | cons a r => exact .cons a (ih r)
theorem RepsS.take {vs : List V} {ts : List T} (h : RepsS x G vs ts) : ∀ n, RepsS x G (vs.take n) (ts.take n) := by
  induction vs generalizing ts with
  | nil => cases h; intro n; simp; exact .nil
  | cons v vs ih => cases h with | cons a r => intro n; cases n with | zero => exact .nil | succ n => exact .cons a (ih r n)
theorem RepsS.drop {vs : List V} {ts : List T} (h : RepsS x G vs ts) : ∀ n, RepsS x G (vs.drop n) (ts.drop n) := by
  induction vs generalizing ts with
  | nil => cases h; intro n; simp; exact .nil
  | cons v vs ih => cases h with | cons a r => intro n; cases n with | zero => exact .cons a r | succ n => exact ih r n
theorem RepsS.set {vs : List V} {ts : List T} {v : V} {t : T} (h : RepsS x G vs ts) (hv : RepS x G v t) : ∀ n, RepsS x G (vs.set n v) (ts.set n t) := by
  induction vs generalizing ts with
  | nil => cases h; intro n; exact .nil
  | cons w vs ih => cases h with | cons a r => intro n; cases n with | zero => exact .cons hv r | succ n => exact .cons a (ih r n)
theorem RepS.np {v : V} {t : T} (h : RepS x G v t) : t.np = true := by cases h <;> rfl
mutual
/-- an owned thing stays where its own objects stay, a peeked one where all stay -/
theorem Rep.move (hG : ∀ b o, G b = some o → G' b = some o) : ∀ {v t fp}, Rep x G H v t fp → (∀ a o, H a = some o → NT o → (t.np = true → a ∈ fp) → H' a = some o) → Rep x G' H' v t fp
  | _, _, _, .s h, _ => .s (h.le hG)
  | _, _, _, .lst f hf h r, k => .lst f hf (k _ _ h (fun _ z => by cases z) fun z => by
      cases f with
      | ow => exact List.mem_singleton.mpr rfl
      | sh => exact absurd rfl hf.1
      | lk => exact absurd rfl hf.2
      | pk => cases z) (r.le hG)
  | _, _, _, .dctK f h r, k => .dctK f (h.move (fun _ z => by cases z) fun u e n => k _ _ e n fun z => by
      cases f with
      | ow => exact List.mem_singleton.mpr rfl
      | sh => exact h.elim
      | lk => exact List.mem_singleton.mpr rfl
      | pk => cases z) (r.le hG)
  | _, _, _, .dctT f h r, k => .dctT f (h.move (fun _ z => by cases z) fun u e n => k _ _ e n fun z => by
      cases f with
      | ow => exact List.mem_singleton.mpr rfl
      | sh => exact h.elim
      | lk => exact List.mem_singleton.mpr rfl
      | pk => cases z) (r.le hG)
  | _, _, _, .obj f hf hp hn ok h e r nd, k => by
      refine .obj f hf hp hn ok (k _ _ h (fun _ z => by cases z) fun z => ?_) e (Reps.move hG r fun a o e n q => k a o e n fun z => ?_) nd
      · cases f with
        | ow => exact List.mem_cons_self
        | sh => exact absurd rfl hf.1
        | lk => exact absurd rfl hf.2
        | pk => cases z
      · cases f with
        | ow => exact List.mem_append_right _ (q fun u hu => T.np_of (hn rfl u hu))
        | sh => exact absurd rfl hf.1
        | lk => exact absurd rfl hf.2
        | pk => cases z
theorem Reps.move (hG : ∀ b o, G b = some o → G' b = some o) : ∀ {v t fp}, Reps x G H v t fp → (∀ a o, H a = some o → NT o → ((∀ u ∈ t, u.np = true) → a ∈ fp) → H' a = some o) → Reps x G' H' v t fp
  | _, _, _, .nil, _ => .nil
  | _, _, _, .cons h r, k => .cons (Rep.move hG h (fun a o e n q => k a o e n fun z => List.mem_append_left _ (q (z _ List.mem_cons_self))))
      (Reps.move hG r (fun a o e n q => k a o e n fun z => List.mem_append_right _ (q fun u hu => z u (List.mem_cons_of_mem _ hu))))
end
/-- an object that may be owned -/
def Ownd (H : Hp) (a : Addr) : Prop := ∃ o, H a = some o ∧ NT o ∧ ∀ xs, o ≠ .tup xs
mutual
/-- what it owns stands -/
theorem Rep.there : ∀ {v t fp}, Rep x G H v t fp → ∀ a ∈ fp, Ownd H a
  | _, _, _, .s h => fun a z => by cases z
  | _, _, _, .lst f hf h r => fun a z => by
      cases f with
      | ow => cases List.mem_singleton.mp z; exact ⟨_, h, fun _ z => (by cases z), fun _ z => (by cases z)⟩
      | sh => cases z
      | lk => exact absurd rfl hf.2
      | pk => cases z
  | _, _, _, .dctK f h r => fun a z => by
      cases f with
      | ow => cases List.mem_singleton.mp z; exact ⟨_, h, fun _ z => (by cases z), fun _ z => (by cases z)⟩
      | sh => cases z
      | lk => cases List.mem_singleton.mp z; obtain ⟨od, h⟩ := h; exact ⟨_, h, fun _ z => (by cases z), fun _ z => (by cases z)⟩
      | pk => cases z
  | _, _, _, .dctT f h r => fun a z => by
      cases f with
      | ow => cases List.mem_singleton.mp z; exact ⟨_, h, fun _ z => (by cases z), fun _ z => (by cases z)⟩
      | sh => cases z
      | lk => cases List.mem_singleton.mp z; obtain ⟨od, h⟩ := h; exact ⟨_, h, fun _ z => (by cases z), fun _ z => (by cases z)⟩
      | pk => cases z
  | _, _, _, .obj f hf hp hn ok h e r nd => fun a z => by
      rcases List.mem_append.mp z with z | z
      · cases f with
        | ow => cases List.mem_singleton.mp z; exact ⟨_, h, fun _ z => (by cases z), fun _ z => (by cases z)⟩
        | sh => cases z
        | lk => exact absurd rfl hf.2
        | pk => cases z
      · exact Reps.there r a z
theorem Reps.there : ∀ {v t fp}, Reps x G H v t fp → ∀ a ∈ fp, Ownd H a
  | _, _, _, .nil => fun a z => by cases z
  | _, _, _, .cons h r => fun a z => by
      rcases List.mem_append.mp z with z | z
      · exact Rep.there h a z
      · exact Reps.there r a z
end
theorem Reps.length : ∀ {vs : List V} {ts : List T} {fp : List Addr}, Reps x G H vs ts fp → vs.length = ts.length
  | _, _, _, .nil => rfl
  | _, _, _, .cons h r => by rw [List.length_cons, List.length_cons, Reps.length r]
theorem Rep.live {v : V} {t : T} {fp : List Addr} (h : Rep x G H v t fp) : ∀ a ∈ fp, ¬ Vac H a := fun a z => by
  obtain ⟨o, e, n, _⟩ := h.there a z
  exact Vac.not e n
end

/-! ### steps -/
/-- from G in H to G' in H': only what P tells is written; what is shared anew was not there, or P's -/
structure Stp (P : Addr → Prop) (G H G' H' : Hp) : Prop where
  ext : Ext P H H'
  sub : Sub G' H'
  le : ∀ b o, G b = some o → G' b = some o
  new : ∀ a, G' a ≠ none → G a ≠ none ∨ Vac H a ∨ P a ∨ ∃ xs, H a = some (.tup xs)
section
variable {x : Tx} {P P' : Addr → Prop} {G G' G'' H H' H'' : Hp}
theorem Stp.refl (P : Addr → Prop) (s : Sub G H) : Stp P G H G H := ⟨.refl _ _, s, fun _ _ h => h, fun _ h => .inl h⟩
theorem Ext.tupBack {P : Addr → Prop} {H H' : Hp} (e : Ext P H H') {a : Addr} {xs : List V} (h : H' a = some (.tup xs)) : Vac H a ∨ P a ∨ ∃ xs, H a = some (.tup xs) := by
  by_cases hp : P a
  · exact .inr (.inl hp)
  by_cases hv : Vac H a
  · exact .inl hv
  · cases q : H a with
    | none => exact absurd (Vac.of q) hv
    | some o =>
      have n : NT o := Classical.byContradiction fun n => hv fun u e => by rw [q] at e; cases e; exact n
      have := e.keep a o q n hp
      rw [h] at this; cases this
      exact .inr (.inr ⟨xs, rfl⟩)
theorem Stp.trans (a : Stp P G H G' H') (b : Stp P G' H' G'' H'') : Stp P G H G'' H'' :=
  ⟨a.ext.trans b.ext, b.sub, fun c o h => b.le c o (a.le c o h), fun c h => by
    rcases b.new c h with h | h | h | ⟨xs, h⟩
    · exact a.new c h
    · exact .inr (.inl (a.ext.back h))
    · exact .inr (.inr (.inl h))
    · exact .inr (a.ext.tupBack h)⟩
theorem Stp.less (a : Stp P G H G' H') (h : ∀ b, P b → P' b ∨ Vac H b) : Stp P' G H G' H' := ⟨a.ext.less h, a.sub, a.le, fun c z => by
  rcases a.new c z with z | z | z | z
  · exact .inl z
  · exact .inr (.inl z)
  · exact (h c z).elim (fun z => .inr (.inr (.inl z))) fun z => .inr (.inl z)
  · exact .inr (.inr (.inr z))⟩
theorem Stp.mono (a : Stp P G H G' H') (h : ∀ b, P b → P' b) : Stp P' G H G' H' := a.less fun b z => .inl (h b z)
theorem Stp.pure (a : Stp No G H G' H') : Stp P G H G' H' := a.mono fun _ z => z.elim
/-- pure steps keep everything -/
theorem Rep.step {v : V} {t : T} {fp : List Addr} (h : Rep x G H v t fp) (s : Stp No G H G' H') : Rep x G' H' v t fp := Rep.move s.le h fun a o e n _ => s.ext.keep a o e n id
theorem RepS.step {v : V} {t : T} (h : RepS x G v t) (s : Stp P G H G' H') : RepS x G' v t := h.le s.le
theorem Rep.frame {v : V} {t : T} {fp : List Addr} (h : Rep x G H v t fp) (s : Stp P G H G' H') (hn : t.np = true) (hd : ∀ a ∈ fp, ¬ P a) : Rep x G' H' v t fp := Rep.move s.le h fun a o e n q => s.ext.keep a o e n (hd a (q hn))
/-- a new object -/
theorem Stp.laid {p : Addr} {o : HO} (s : Sub G H) (h : H p = none) (n : NT o := by intro _ z; cases z) : Stp P G H G (upd H p o) :=
  ⟨.new h n, fun a u e => ⟨(s a u e).1, (s a u e).2.imp (fun z => by rw [upd_ne (ne_of_none z h)]; exact z) fun ⟨od, z, m⟩ => ⟨od, by rw [upd_ne (ne_of_none z h)]; exact z, m⟩⟩, fun _ _ h => h, fun _ h => .inl h⟩
/-- .. that is shared at once -/
theorem Stp.laidS {p : Addr} {o : HO} (s : Sub G H) (h : H p = none) (n : NT o) : Stp P G H (upd G p o) (upd H p o) := by
  have gp : G p = none := by
    cases q : G p with
    | none => rfl
    | some u => rcases (s p u q).2 with z | ⟨od, z, _⟩ <;> (rw [h] at z; cases z)
  refine ⟨.new h n, fun a u e => ?_, fun a u e => by rw [upd_ne (ne_of_none e gp)]; exact e, fun a e => ?_⟩
  · by_cases z : a = p
    · rw [z, upd_same] at e; cases e; rw [z]; exact ⟨n, .inl upd_same⟩
    · rw [upd_ne z] at e
      exact ⟨(s a u e).1, by rw [upd_ne z]; exact (s a u e).2⟩
  · by_cases z : a = p
    · rw [z]; exact .inr (.inl (Vac.of h))
    · rw [upd_ne z] at e; exact .inl e
end
end Fn

/-! Fn2: what the names hold, results, the judgements. -/
namespace Fn
open PySem L2
variable [Tbs]

/-! ### peeking, sharing -/
def T.pkd1 : T → T
  | .lst .ow xs => .lst .pk xs
  | .dct .ow k kvs => .dct .pk k kvs
  | .dct .lk k kvs => .dct .pk k kvs
  | t => t
def T.pkd : T → T
  | .lst .ow xs => .lst .pk xs
  | .dct .ow k kvs => .dct .pk k kvs
  | .dct .lk k kvs => .dct .pk k kvs
  | .obj .ow c ts => .obj .pk c (ts.map T.pkd1)
  | t => t
/-- shared from now on; none: it is but peeked at -/
def T.frz1 : T → Option T
  | .lst .ow xs => some (.lst .sh xs)
  | .lst .pk _ => none
  | .dct .ow k kvs => some (.dct .sh k kvs)
  | .dct .pk _ _ => none
  | .dct .lk _ _ => none
  | .obj .sh c fs => some (.obj .sh c fs)
  | .obj _ _ _ => none
  | t => some t
def frzs1 : List T → Option (List T)
  | [] => some []
  | t :: r => match t.frz1, frzs1 r with
    | some t', some r' => some (t' :: r')
    | _, _ => none
def T.frz : T → Option T
  | .obj .ow c fs => (frzs1 fs).map fun fs' => .obj .sh c fs'
  | t => t.frz1
section
variable {x : Tx} {G H : Hp}
theorem Rep.pkd1 {v : V} {t : T} {fp : List Addr} (h : Rep x G H v t fp) (hn : t.np1 = true) : Rep x G H v t.pkd1 [] := by
  cases h with
  | s h =>
    have e : t.pkd1 = t := by cases h <;> rfl
    rw [e]; exact .s h
  | lst f hf h r => cases f with
    | ow => exact .lst .pk (by simp) h r
    | pk => cases hn
    | sh => exact absurd rfl hf.1
    | lk => exact absurd rfl hf.2
  | dctK f h r => cases f with
    | ow => exact .dctK .pk h.rd r
    | pk => cases hn
    | sh => exact h.elim
    | lk => exact .dctK .pk h.rd r
  | dctT f h r => cases f with
    | ow => exact .dctT .pk h.rd r
    | pk => cases hn
    | sh => exact h.elim
    | lk => exact .dctT .pk h.rd r
  | obj f hf hp hn' ok h e' r nd => cases f with
    | ow => cases hn
    | pk => cases hn
    | sh => exact absurd rfl hf.1
    | lk => exact absurd rfl hf.2
theorem Reps.pkd1 : ∀ {vs : List V} {ts : List T} {fp : List Addr}, Reps x G H vs ts fp → (∀ t ∈ ts, t.np1 = true) → Reps x G H vs (ts.map T.pkd1) []
  | _, _, _, .nil, _ => .nil
  | _, _, _, .cons h r, k => .cons (f1 := []) (f2 := []) (h.pkd1 (k _ List.mem_cons_self)) (Reps.pkd1 r fun t ht => k t (List.mem_cons_of_mem _ ht))
theorem Rep.pkd {v : V} {t : T} {fp : List Addr} (h : Rep x G H v t fp) : Rep x G H v t.pkd (if t.np = true then [] else fp) := by
  cases h with
  | s h => 
    have e : t.pkd = t := by cases h <;> rfl
    rw [h.np, e]; exact .s h
  | lst f hf h r => cases f with
    | ow => exact .lst .pk (by simp) h r
    | pk => exact .lst .pk (by simp) h r
    | sh => exact absurd rfl hf.1
    | lk => exact absurd rfl hf.2
  | dctK f h r => cases f with
    | ow => exact .dctK .pk h.rd r
    | pk => exact .dctK .pk h r
    | sh => exact h.elim
    | lk => exact .dctK .pk h.rd r
  | dctT f h r => cases f with
    | ow => exact .dctT .pk h.rd r
    | pk => exact .dctT .pk h r
    | sh => exact h.elim
    | lk => exact .dctT .pk h.rd r
  | @obj a dx c fs ts fp f hf hp hn' ok h e' r nd => cases f with
    | ow => exact Rep.obj (c := c) (fp := []) .pk (by simp) (fun _ => rfl) (fun z => by cases z) ok h (by rw [List.length_map]; exact e') (r.pkd1 (hn' rfl)) (by simp [fpo])
    | pk => exact .obj .pk (by simp) hp hn' ok h e' r nd
    | sh => exact absurd rfl hf.1
    | lk => exact absurd rfl hf.2
theorem Rep.pkd0 {v : V} {t : T} {fp : List Addr} (h : Rep x G H v t fp) : Rep x G H v t.pkd [] := by
  by_cases hn : t.np = true
  · have := h.pkd
    rw [if_pos hn] at this; exact this
  · have q := h.pkd
    rw [if_neg hn] at q
    have e : fp = [] := by
      cases h with
      | s h => exact absurd h.np hn
      | lst f hf h r => cases f with
        | pk => rfl
        | _ => exact absurd rfl hn
      | dctK f h r => cases f with
        | pk => rfl
        | _ => exact absurd rfl hn
      | dctT f h r => cases f with
        | pk => rfl
        | _ => exact absurd rfl hn
      | obj f hf hp hn' ok h e' r nd => cases f with
        | pk => rw [hp rfl]; rfl
        | _ => exact absurd rfl hn
    rw [e] at q; exact q
/-- G with the objects of H at fp -/
def add (G H : Hp) (fp : List Addr) : Hp := fun a => if a ∈ fp then H a else G a
theorem add_in {fp : List Addr} {a : Addr} (h : a ∈ fp) : add G H fp a = H a := if_pos h
theorem add_out {fp : List Addr} {a : Addr} (h : a ∉ fp) : add G H fp a = G a := if_neg h
theorem add_le {fp : List Addr} (hd : ∀ a ∈ fp, G a = none) : ∀ b o, G b = some o → add G H fp b = some o := fun b o e => by
  rw [add_out fun z => by rw [hd b z] at e; cases e]; exact e
theorem add_mono {fp fp' : List Addr} (hd : ∀ a ∈ fp', G a = none) (h : ∀ a ∈ fp, a ∈ fp') : ∀ b o, add G H fp b = some o → add G H fp' b = some o := fun b o e => by
  by_cases z : b ∈ fp'
  · rw [add_in z]
    by_cases y : b ∈ fp
    · rw [add_in y] at e; exact e
    · rw [add_out y, hd b z] at e; cases e
  · rw [add_out z]; rw [add_out fun y => z (h b y)] at e; exact e
theorem Rep.frz1 {v : V} {t t' : T} {fp : List Addr} (h : Rep x G H v t fp) (hd : ∀ a ∈ fp, G a = none) (e : t.frz1 = some t') : RepS x (add G H fp) v t' := by
  have le := add_le (G := G) (H := H) hd
  cases h with
  | s h => 
    have : t' = t := by cases h <;> (first | (cases e; rfl) | (simp [T.frz1] at e; exact e.symm))
    subst this; exact h.le le
  | lst f hf h r => cases f with
    | ow => cases e; exact .lst (by rw [add_in (by simp [fpo])]; exact h) (r.le le)
    | pk => cases e
    | sh => exact absurd rfl hf.1
    | lk => exact absurd rfl hf.2
  | dctK f h r => cases f with
    | ow => cases e; exact .dctK (by rw [add_in (by simp [fpo])]; exact h) (r.le le)
    | pk => cases e
    | sh => exact h.elim
    | lk => cases e
  | dctT f h r => cases f with
    | ow => cases e; exact .dctT (by rw [add_in (by simp [fpo])]; exact h) (r.le le)
    | pk => cases e
    | sh => exact h.elim
    | lk => cases e
  | obj f hf hp hn' ok h e' r nd => cases f with
    | ow => cases e
    | pk => cases e
    | sh => exact absurd rfl hf.1
    | lk => exact absurd rfl hf.2
theorem Reps.frz1 : ∀ {vs : List V} {ts : List T} {fp : List Addr} {ts' : List T}, Reps x G H vs ts fp → (∀ a ∈ fp, G a = none) → frzs1 ts = some ts' → ts'.length = ts.length ∧ RepsS x (add G H fp) vs ts'
  | _, _, _, _, .nil, hd, e => by cases e; exact ⟨rfl, .nil⟩
  | _, _, _, _, .cons (f1 := f1) (f2 := f2) h r, hd, e => by
    unfold frzs1 at e
    split at e
    · rename_i t' r'' e1 e2
      cases e
      obtain ⟨l, q⟩ := Reps.frz1 r (fun a ha => hd a (List.mem_append_right _ ha)) e2
      exact ⟨by rw [List.length_cons, List.length_cons, l], .cons ((h.frz1 (fun a ha => hd a (List.mem_append_left _ ha)) e1).le (add_mono hd fun a ha => List.mem_append_left _ ha)) (q.le (add_mono hd fun a ha => List.mem_append_right _ ha))⟩
    · cases e
theorem Rep.frz {v : V} {t t' : T} {fp : List Addr} (h : Rep x G H v t fp) (hd : ∀ a ∈ fp, G a = none) (e : t.frz = some t') : RepS x (add G H fp) v t' := by
  cases h with
  | @obj a dx c fs ts fp f hf hp hn' ok h e' r nd => cases f with
    | ow =>
      have e : (frzs1 ts).map (fun fs' => T.obj .sh c fs') = some t' := e
      cases q : frzs1 ts with
      | none => rw [q] at e; cases e
      | some r' =>
        rw [q] at e; cases e
        obtain ⟨l, q3⟩ := Reps.frz1 r (fun a ha => hd a (List.mem_append_right _ ha)) q
        exact .obj (dx := dx) ok (by rw [add_in (by simp [fpo])]; exact h) (by rw [l]; exact e') (q3.le (add_mono hd fun a ha => List.mem_append_right _ ha))
    | pk => cases e
    | sh => exact absurd rfl hf.1
    | lk => exact absurd rfl hf.2
  | s h => exact Rep.frz1 (.s h) hd (by cases h <;> exact e)
  | lst f hf h r => exact Rep.frz1 (.lst f hf h r) hd e
  | dctK f h r => exact Rep.frz1 (.dctK f h r) hd e
  | dctT f h r => exact Rep.frz1 (.dctT f h r) hd e
/-- what is owned is shared from now on -/
theorem Stp.frz {P : Addr → Prop} {v : V} {t : T} {fp : List Addr} (s : Sub G H) (h : Rep x G H v t fp) (hd : ∀ a ∈ fp, G a = none) (hP : ∀ a ∈ fp, P a) : Stp P G H (add G H fp) H := by
  refine ⟨.refl _ _, fun a o e => ?_, add_le hd, fun a e => ?_⟩
  · by_cases z : a ∈ fp
    · rw [add_in z] at e
      obtain ⟨u, e', m, _⟩ := h.there a z
      rw [e] at e'; cases e'
      exact ⟨m, .inl e⟩
    · rw [add_out z] at e; exact s a o e
  · by_cases z : a ∈ fp
    · exact .inr (.inr (.inl (hP a z)))
    · rw [add_out z] at e; exact .inl e
end
end Fn

/-! Fn3: environments, results, the judgements P (pure), M (that write), S (statements). -/
namespace Fn
open PySem PySem.Spec L2
variable [Tbs]

abbrev Env := List (Option T)
inductive Res (α : Type) where
  | ok (a : α) | exc (c : Nat) (p : List T) | stuck
inductive ResM (α : Type) where
  | ok (a : α) (ρ : Env) | exc (c : Nat) (p : List T) (ρ : Env) | stuck
inductive Fw where
  | next | brk | cont | ret (t : T)
abbrev ResS := ResM Fw
@[simp] def Res.bind {α β : Type} (r : Res α) (g : α → Res β) : Res β := match r with
  | .ok a => g a
  | .exc c p => .exc c p
  | .stuck => .stuck
@[simp] def ResM.bind {α β : Type} (r : ResM α) (g : α → Env → ResM β) : ResM β := match r with
  | .ok a ρ => g a ρ
  | .exc c p ρ => .exc c p ρ
  | .stuck => .stuck
@[simp] def Res.up {α : Type} (r : Res α) (ρ : Env) : ResM α := match r with
  | .ok a => .ok a ρ
  | .exc c p => .exc c p ρ
  | .stuck => .stuck
@[simp] theorem Res.bind_ok {α β : Type} (a : α) (g : α → Res β) : (Res.ok a).bind g = g a := rfl
@[simp] theorem Res.bind_exc {α β : Type} (c : Nat) (p : List T) (g : α → Res β) : (Res.exc c p).bind g = .exc c p := rfl
@[simp] theorem Res.bind_stuck {α β : Type} (g : α → Res β) : (Res.stuck : Res α).bind g = .stuck := rfl
@[simp] theorem ResM.bind_ok {α β : Type} (a : α) (ρ : Env) (g : α → Env → ResM β) : (ResM.ok a ρ).bind g = g a ρ := rfl
@[simp] theorem ResM.bind_exc {α β : Type} (c : Nat) (p : List T) (ρ : Env) (g : α → Env → ResM β) : (ResM.exc c p ρ).bind g = .exc c p ρ := rfl
@[simp] theorem ResM.bind_stuck {α β : Type} (g : α → Env → ResM β) : (ResM.stuck : ResM α).bind g = .stuck := rfl
@[simp] theorem Res.up_ok {α : Type} (a : α) (ρ : Env) : (Res.ok a).up ρ = .ok a ρ := rfl
@[simp] theorem Res.up_exc {α : Type} (c : Nat) (p : List T) (ρ : Env) : (Res.exc c p : Res α).up ρ = .exc c p ρ := rfl
@[simp] theorem Res.up_stuck {α : Type} (ρ : Env) : (Res.stuck : Res α).up ρ = .stuck := rfl

/-- an exception's dict -/
def XRep (x : Tx) (G H : Hp) (d : Addr) (c : Nat) (p : List T) : Prop := ∃ fs : List (Str × V), H d = some (.xd fs) ∧ fs.map (·.1) = x.fl c ∧ Reps x G H (fs.map (·.2)) p []
/-- what a stretch of code must leave: the slots b, the locked objects l -/
structure Bo where
  b : Nat → Option V
  l : Addr → Option HO
  p : Bool
/-- the environment ρ stands: slot i owns φ i; β: slots that keep their value -/
structure ER (x : Tx) (β : Bo) (φ : Nat → List Addr) (G H : Hp) (σ : St) (ρ : Env) : Prop where
  len : ρ.length = σ.length
  rep : ∀ i t, ρ[i]? = some (some t) → ∃ v, σ[i]? = some (some v) ∧ Rep x G H v t (φ i) ∧ (β.p = false → t.np = true)
  nd : ∀ i, (φ i).Nodup
  dj : ∀ i j a, a ∈ φ i → a ∈ φ j → i = j
  dis : ∀ i a, a ∈ φ i → G a = none ∧ Ownd H a
  sub : Sub G H
  bor : ∀ (i : Nat) (v : V), β.b i = some v → σ[i]? = some (some v)
  lck : ∀ a o, β.l a = some o → H a = some o ∧ ∃ od u, o = .frz od u
  tab : TbOk H
abbrev Ow (φ : Nat → List Addr) : Addr → Prop := fun a => ∃ i, a ∈ φ i

section
variable {x : Tx} {β : Bo} {φ φ' : Nat → List Addr} {G G' G1 H H' H1 : Hp} {σ σ' : St} {ρ ρ' : Env} {W : XK}
theorem Ownd.ne {a : Addr} (h : Ownd H a) : ¬ Vac H a := by obtain ⟨o, e, n, _⟩ := h; exact Vac.not e n
theorem Ownd.step {a : Addr} (h : Ownd H a) (s : Ext No H H') : Ownd H' a := by
  obtain ⟨o, e, n, t⟩ := h
  exact ⟨o, s.keep a o e n id, n, t⟩
/-- what is owned does not come to be shared in passing -/
theorem Stp.notIn {P : Addr → Prop} {a : Addr} (s : Stp P G H G' H') (hg : G a = none) (ho : Ownd H a) (hp : ¬ P a) : G' a = none := by
  cases q : G' a with
  | none => rfl
  | some o =>
    rcases s.new a (by rw [q]; simp) with z | z | z | ⟨xs, z⟩
    · exact absurd hg z
    · exact absurd z ho.ne
    · exact absurd z hp
    · obtain ⟨o, e, _, t⟩ := ho
      rw [z] at e; cases e
      exact absurd rfl (t xs)
theorem ER.step (E : ER x β φ G H σ ρ) (s : Stp No G H G' H') : ER x β φ G' H' σ ρ :=
  ⟨E.len, fun i t h => let ⟨v, e, r, n⟩ := E.rep i t h; ⟨v, e, r.step s, n⟩, E.nd, E.dj, fun i a h => ⟨s.notIn (E.dis i a h).1 (E.dis i a h).2 id, (E.dis i a h).2.step s.ext⟩, s.sub, E.bor, fun a o h => by
    obtain ⟨h1, od, u, rfl⟩ := E.lck a o h
    exact ⟨s.ext.keep a _ h1 (fun _ z => by cases z) id, od, u, rfl⟩, s.ext.tabs E.tab⟩

/-- what a pure result must reach; fp0: what was owned on the way -/
def Pst {α : Type} (x : Tx) (W : XK) (G H : Hp) (r : Res α) (Q : α → Hp → Hp → Prop) : Prop := match r with
  | .ok t => ∀ G' H', Stp No G H G' H' → Q t G' H'
  | .exc c p => ∀ d G' H', Stp No G H G' H' → XRep x G' H' d c p → W (.ref (x.ca c)) (some d) H'
  | .stuck => False
/-- a value for a tree, made behind H -/
def Made (x : Tx) (H : Hp) (Q : V → Hp → Prop) (t : T) (G' H' : Hp) : Prop := ∀ v fp, Rep x G' H' v t fp → fp.Nodup → (∀ a ∈ fp, Vac H a ∧ G' a = none) → Q v H'
def tP (x : Tx) (W : XK) (f : Env → Res T) : TE := fun σ H Q => ∃ β φ G ρ, ER x β φ G H σ ρ ∧ Pst x W G H (f ρ) (Made x H Q)
def tPT (x : Tx) (W : XK) (f : Env → Res Bool) : TT := fun σ H Q => ∃ β φ G ρ, ER x β φ G H σ ρ ∧ Pst x W G H (f ρ) (fun b _ H' => Q b H')
/-- several values -/
def MadeA (x : Tx) (H : Hp) (Q : List V → Hp → Prop) (ts : List T) (G' H' : Hp) : Prop := ∀ vs fp, Reps x G' H' vs ts fp → fp.Nodup → (∀ a ∈ fp, Vac H a ∧ G' a = none) → Q vs H'
def tPA (x : Tx) (W : XK) (f : Env → Res (List T)) : TA := fun σ H Q => ∃ β φ G ρ, ER x β φ G H σ ρ ∧ Pst x W G H (f ρ) (MadeA x H Q)
/-- what every rule may ask of the context -/
structure XOk (x : Tx) (X : Cx) : Prop where
  K : X.K = x.K
  calm : X.calm = true
  room : Room 0 X.A
  nd : X.N.Nodup
structure P (x : Tx) (X : Cx) (e : Expr) (f : Env → Res T) : Prop where
  run : XOk x X → ∀ W : XK, Takes X (fun c d _ H => W c d H) → PE X e (tP x W f)
structure PTe (x : Tx) (X : Cx) (e : Expr) (f : Env → Res Bool) : Prop where
  run : XOk x X → ∀ W : XK, Takes X (fun c d _ H => W c d H) → PT X e (tPT x W f)
structure PAr (x : Tx) (X : Cx) (es : List Expr) (f : Env → Res (List T)) : Prop where
  run : XOk x X → ∀ W : XK, Takes X (fun c d _ H => W c d H) → PA X es (tPA x W f)
  len : ∀ ρ ts, f ρ = .ok ts → ts.length = es.length

theorem pe_imp {X : Cx} {e : Expr} {t t' : TE} (h : PE X e t) (i : ∀ σ H Q, t' σ H Q → t σ H Q) : PE X e t' := ⟨fun pins s σ H Q I q => h.run pins s σ H Q I (i _ _ _ q)⟩
theorem pt_imp {X : Cx} {e : Expr} {t t' : TT} (h : PT X e t) (i : ∀ σ H Q, t' σ H Q → t σ H Q) : PT X e t' := ⟨fun pins s σ H Q I q => h.run pins s σ H Q I (i _ _ _ q)⟩
theorem pa_imp {X : Cx} {e : List Expr} {t t' : TA} (h : PA X e t) (i : ∀ σ H Q, t' σ H Q → t σ H Q) : PA X e t' := ⟨fun pos pins s σ H Q I q => h.run pos pins s σ H Q I (i _ _ _ q)⟩
theorem ps_imp {X : Cx} {e : Stmt} {t t' : TS} (h : PS X e t) (i : ∀ D σ H, t' D σ H → t D σ H) : PS X e t' := ⟨fun pins s σ H D I q => h.run pins s σ H D I (i _ _ _ q)⟩
theorem pss_imp {X : Cx} {e : List Stmt} {t t' : TS} (h : PSs X e t) (i : ∀ D σ H, t' D σ H → t D σ H) : PSs X e t' := ⟨fun pins s σ H D I q => h.run pins s σ H D I (i _ _ _ q)⟩

theorem Pst.later {α : Type} {r : Res α} {Q : α → Hp → Hp → Prop} (h : Pst x W G H r Q) (s : Stp No G H G1 H1) : Pst x W G1 H1 r Q := by
  cases r with
  | ok t => exact fun G' H' s' => h G' H' (s.trans s')
  | exc c p => exact fun d G' H' s' xr => h d G' H' (s.trans s') xr
  | stuck => exact h
theorem Pst.imp {α : Type} {r : Res α} {Q Q' : α → Hp → Hp → Prop} (h : Pst x W G H r Q) (i : ∀ t G' H', Stp No G H G' H' → Q t G' H' → Q' t G' H') : Pst x W G H r Q' := by
  cases r with
  | ok t => exact fun G' H' s' => i t G' H' s' (h G' H' s')
  | exc c p => exact h
  | stuck => exact h
/-- one thing behind another -/
theorem Pst.bind {α β' : Type} {r : Res α} {g : α → Res β'} {Q : β' → Hp → Hp → Prop} {R : α → Hp → Hp → Prop} (h : Pst x W G H (r.bind g) Q) (k : ∀ t G1 H1, Stp No G H G1 H1 → Pst x W G H (g t) Q → R t G1 H1) : Pst x W G H r R := by
  cases r with
  | ok t => exact fun G' H' s' => k t G' H' s' h
  | exc c p => exact h
  | stuck => exact h
/-- the rest of a Pst where the result is there -/
theorem Pst.now {α : Type} {t : α} {Q : α → Hp → Hp → Prop} (s : Sub G H) (h : Pst x W G H (.ok t) Q) : Q t G H := h G H (.refl _ s)
theorem Made.mono {H0 : Hp} {Q : V → Hp → Prop} {t : T} (h : Made x H Q t G' H') (k : ∀ a, Vac H0 a → Vac H a) : Made x H0 Q t G' H' := fun v fp r nd fr => h v fp r nd fun a ha => ⟨k a (fr a ha).1, (fr a ha).2⟩

/-! ### names, constants -/
def dVar (i : Nat) : Env → Res T := fun ρ => match ρ[i]? with
  | some (some t) => .ok t.pkd
  | _ => .stuck
def dC (t : T) : Env → Res T := fun _ => .ok t
variable {X : Cx}
theorem p_var (i : Nat) {n : Str} {pos : Pos} (hN : X.N[i]? = some n := by rfl) (hv : Vis X.env.scope n := by first | exact Or.inl rfl | exact Or.inr (Or.inl rfl) | exact Or.inr (Or.inr rfl)) (hd : (n == ("__debug__" : Str)) = false := by decide)
    (hcd : (n == ("__classdict__" : Str)) = false := by decide) : P x X (.Name n pos) (dVar i) := ⟨fun ok W tk => pe_imp (pe_var hN hv hd hcd) fun σ H Q ⟨β, φ, G, ρ, E, h⟩ => by
  unfold dVar at h
  split at h
  · rename_i t e
    obtain ⟨v, e2, r, n⟩ := E.rep i t e
    exact ⟨v, e2, h G H (.refl _ E.sub) v [] r.pkd0 .nil (fun a z => by cases z)⟩
  · exact h.elim⟩
theorem p_const {e : Expr} {v : V} {t : T} (h : PE X e (tC v)) (hr : ∀ G, RepS x G v t) : P x X e (dC t) := ⟨fun ok W tk => pe_imp h fun σ H Q ⟨β, φ, G, ρ, E, h⟩ =>
  h G H (.refl _ E.sub) v [] (.s (hr G)) .nil (fun a z => by cases z)⟩
theorem p_int {i : Int} {j : Nat} {pos : Pos} : P x X (.Constant (.int i) j pos) (dC (.int i)) := p_const pe_int fun _ => .int i
theorem p_bl {b : Bool} {j : Nat} {pos : Pos} : P x X (.Constant (.bool b) j pos) (dC (.bl b)) := p_const pe_bl fun _ => .bl b
theorem p_non {j : Nat} {pos : Pos} : P x X (.Constant .none j pos) (dC .non) := p_const pe_non fun _ => .non
theorem p_str {z : Str} {j : Nat} {pos : Pos} : P x X (.Constant (.str z) j pos) (dC (.str z)) := p_const pe_str fun _ => .str z

/-! ### operators -/
/-- f, by values, does what g does with trees -/
def OpSem (x : Tx) (X : Cx) (f : Value → Value → Sem Value) (g : T → T → Res T) : Prop := XOk x X → ∀ (W : XK), Takes X (fun c d _ H => W c d H) → ∀ (G H H0 : Hp) (a b : V) (s t : T) (f1 f2 : List Addr) (Q : V → Hp → Prop), Sub G H → Rep x G H a s f1 → Rep x G H b t f2 → (∀ a, Vac H a → Vac H0 a) →
  Pst x W G H (g s t) (Made x H0 Q) → ∀ (pins : List (Addr × Obj)) (sh : Shared) (σ : L2.St) (v u : Value), Inv X pins σ H sh → RelV a v → RelV b u → wpAny (model X.prog X.w) X.A (f v u) (EP X pins σ Q) X.xe sh
def rTop (X : Cx) (f : Value → Value → Sem Value) : R2 := fun a b H Q => ∀ (pins : List (Addr × Obj)) (sh : Shared) (σ : L2.St) (v u : Value), Inv X pins σ H sh → RelV a v → RelV b u → wpAny (model X.prog X.w) X.A (f v u) (EP X pins σ Q) X.xe sh
theorem op_top (f : Value → Value → Sem Value) : OpR X f (rTop X f) := fun pins s σ H a b v u Q I ra rb h => h pins s σ v u I ra rb
def dOp (g : T → T → Res T) (fa fb : Env → Res T) : Env → Res T := fun ρ => (fa ρ).bind fun s => (fb ρ).bind fun t => g s t
theorem tOp_of {f : Value → Value → Sem Value} {g : T → T → Res T} {fa fb : Env → Res T} {H : Hp} {Q : VK} (hs : OpSem x X f g) (ok : XOk x X) (tk : Takes X (fun c d _ H => W c d H)) (h : tP x W (dOp g fa fb) σ H Q) : tOp (rTop X f) (tP x W fa) (tP x W fb) σ H Q := by
  obtain ⟨β, φ, G, ρ, E, h⟩ := h
  exact ⟨β, φ, G, ρ, E, Pst.bind h fun s G1 H1 s1 h1 v1 f1 r1 n1 d1 => ⟨β, φ, G1, ρ, E.step s1, Pst.bind (h1.later s1) fun t G2 H2 s2 h2 v2 f2 r2 n2 d2 =>
    hs ok W tk G2 H2 H v1 v2 s t f1 f2 Q s2.sub (r1.step s2) r2 (fun a z => s1.ext.back (s2.ext.back z)) (h2.later s2)⟩⟩
theorem p_op {a b : Expr} {fa fb : Env → Res T} {op : Operator} {pos : Pos} {g : T → T → Res T} (hs : OpSem x X (binaryOp op) g) (ha : P x X a fa) (hb : P x X b fb) : P x X (.BinOp a op b pos) (dOp g fa fb) :=
  ⟨fun ok W tk => pe_imp (pe_op (op_top _) (ha.run ok W tk) (hb.run ok W tk)) fun σ H Q h => tOp_of hs ok tk h⟩
theorem p_cmp {a b : Expr} {fa fb : Env → Res T} {op : CmpOp} {pos : Pos} {g : T → T → Res T} (hs : OpSem x X (compareOp op) g) (ha : P x X a fa) (hb : P x X b fb) (hm : behindInMarks op b = false) : P x X (.Compare a [op] [b] pos) (dOp g fa fb) :=
  ⟨fun ok W tk => pe_imp (pe_cmpR (op_top _) (ha.run ok W tk) (hb.run ok W tk) hm) fun σ H Q h => tOp_of hs ok tk h⟩
end
end Fn

/-! Fn4: M and S: expressions that write, statements. -/
namespace Fn
open PySem PySem.Spec L2
variable [Tbs]
section
variable {x : Tx} {β : Bo} {φ φ' φ1 : Nat → List Addr} {G G' G1 H H' H1 : Hp} {σ σ' : St} {ρ ρ' : Env} {W : XK} {Po : Addr → Prop} {α α' : Type} {X : Cx}
def fput (φ : Nat → List Addr) (i : Nat) (fp : List Addr) : Nat → List Addr := fun j => if j = i then fp else φ j
theorem ow_put {i : Nat} {fp : List Addr} {a : Addr} (h : Ow (fput φ i fp) a) : a ∈ fp ∨ ∃ j, j ≠ i ∧ a ∈ φ j := by
  obtain ⟨j, z⟩ := h
  unfold fput at z
  by_cases y : j = i
  · rw [if_pos y] at z; exact .inl z
  · rw [if_neg y] at z; exact .inr ⟨j, y, z⟩
/-- slot i gets a tree that nobody else owns -/
theorem ER.set (E : ER x β φ G H σ ρ) {i : Nat} {v : V} {t : T} {fp : List Addr} (r : Rep x G H v t fp) (hn : t.np = true) (nd : fp.Nodup) (fr : ∀ a ∈ fp, G a = none ∧ ∀ j, j ≠ i → a ∉ φ j) (hb : β.b i = none) :
    ER x β (fput φ i fp) G H (σ.set i (some v)) (ρ.set i (some t)) where
  len := by rw [List.length_set, List.length_set]; exact E.len
  rep := fun j u e => by
    by_cases z : j = i
    · subst z
      have hl : j < ρ.length := by
        have := (List.getElem?_eq_some_iff.mp e).1
        rwa [List.length_set] at this
      rw [List.getElem?_set_self hl] at e
      cases e
      exact ⟨v, List.getElem?_set_self (by rw [← E.len]; exact hl), by unfold fput; rw [if_pos rfl]; exact r, fun _ => hn⟩
    · rw [List.getElem?_set_ne (Ne.symm z)] at e
      obtain ⟨w, e1, r1, n1⟩ := E.rep j u e
      exact ⟨w, by rw [List.getElem?_set_ne (Ne.symm z)]; exact e1, by unfold fput; rw [if_neg z]; exact r1, n1⟩
  nd := fun j => by
    unfold fput
    by_cases z : j = i
    · rw [if_pos z]; exact nd
    · rw [if_neg z]; exact E.nd j
  dj := fun j k a h1 h2 => by
    unfold fput at h1 h2
    by_cases z : j = i
    · by_cases y : k = i
      · rw [z, y]
      · rw [if_pos z] at h1; rw [if_neg y] at h2
        exact absurd h2 ((fr a h1).2 k y)
    · by_cases y : k = i
      · rw [if_neg z] at h1; rw [if_pos y] at h2
        exact absurd h1 ((fr a h2).2 j z)
      · rw [if_neg z] at h1; rw [if_neg y] at h2
        exact E.dj j k a h1 h2
  dis := fun j a h => by
    unfold fput at h
    by_cases z : j = i
    · rw [if_pos z] at h; exact ⟨(fr a h).1, r.there a h⟩
    · rw [if_neg z] at h; exact E.dis j a h
  sub := E.sub
  tab := E.tab
  bor := fun j w e => by
    by_cases z : j = i
    · rw [z, hb] at e; cases e
    · rw [List.getElem?_set_ne (Ne.symm z)]; exact E.bor j w e
  lck := E.lck
/-- a name is forgotten; its objects are nobody's -/
theorem ER.drop (E : ER x β φ G H σ ρ) (i : Nat) : ER x β (fput φ i []) G H σ (ρ.set i none) where
  len := by rw [List.length_set]; exact E.len
  rep := fun j u e => by
    by_cases z : j = i
    · subst z
      by_cases hl : j < ρ.length
      · rw [List.getElem?_set_self hl] at e; cases e
      · rw [List.getElem?_eq_none (by rw [List.length_set]; omega)] at e; cases e
    · rw [List.getElem?_set_ne (Ne.symm z)] at e
      obtain ⟨w, e1, r1, n1⟩ := E.rep j u e
      exact ⟨w, e1, by unfold fput; rw [if_neg z]; exact r1, n1⟩
  nd := fun j => by
    unfold fput
    by_cases z : j = i
    · rw [if_pos z]; exact .nil
    · rw [if_neg z]; exact E.nd j
  dj := fun j k a h1 h2 => by
    unfold fput at h1 h2
    by_cases z : j = i
    · rw [if_pos z] at h1; cases h1
    · by_cases y : k = i
      · rw [if_pos y] at h2; cases h2
      · rw [if_neg z] at h1; rw [if_neg y] at h2; exact E.dj j k a h1 h2
  dis := fun j a h => by
    unfold fput at h
    by_cases z : j = i
    · rw [if_pos z] at h; cases h
    · rw [if_neg z] at h; exact E.dis j a h
  sub := E.sub
  tab := E.tab
  bor := E.bor
  lck := E.lck

theorem Stp.comp {Po Po' : Addr → Prop} (s : Stp Po G H G1 H1) (s' : Stp Po' G1 H1 G' H') (hP : ∀ a, Po' a → Po a ∨ Vac H a) : Stp Po G H G' H' :=
  ((s.mono (P' := fun a => Po a ∨ Vac H a) fun _ z => .inl z).trans (s'.mono hP)).less fun a z => z
/-- what a result that may write must reach -/
def PstM (x : Tx) (W : XK) (β : Bo) (σ : St) (Po : Addr → Prop) (G H : Hp) (r : ResM α) (Q : α → (Nat → List Addr) → Hp → Hp → Env → Prop) : Prop := match r with
  | .ok t ρ' => ∀ φ' G' H', Stp Po G H G' H' → ER x β φ' G' H' σ ρ' → (∀ a, Ow φ' a → Po a ∨ Vac H a) → Q t φ' G' H' ρ'
  | .exc c p ρ' => ∀ d φ' G' H', Stp Po G H G' H' → ER x β φ' G' H' σ ρ' → (∀ a, Ow φ' a → Po a ∨ Vac H a) → XRep x G' H' d c p → W (.ref (x.ca c)) (some d) H'
  | .stuck => False
def MadeM (x : Tx) (Po : Addr → Prop) (H : Hp) (Q : V → Hp → Prop) (t : T) (φ' : Nat → List Addr) (G' H' : Hp) (_ : Env) : Prop :=
  ∀ v fp, Rep x G' H' v t fp → t.np = true → fp.Nodup → (∀ a ∈ fp, (Vac H a ∨ Po a) ∧ G' a = none ∧ ¬ Ow φ' a) → Q v H'
def tM (x : Tx) (W : XK) (f : Env → ResM T) : TE := fun σ H Q => ∃ β φ G ρ, ER x β φ G H σ ρ ∧ β.p = false ∧ PstM x W β σ (Ow φ) G H (f ρ) (MadeM x (Ow φ) H Q)
structure M (x : Tx) (X : Cx) (e : Expr) (f : Env → ResM T) : Prop where
  run : XOk x X → ∀ W : XK, Takes X (fun c d _ H => W c d H) → PE X e (tM x W f)
theorem PstM.later {r : ResM α} {Q : α → (Nat → List Addr) → Hp → Hp → Env → Prop} (h : PstM x W β σ Po G H r Q) {Po' : Addr → Prop} (s : Stp Po G H G1 H1) (hP : ∀ a, Po' a → Po a ∨ Vac H a) : PstM x W β σ Po' G1 H1 r Q := by
  have back : ∀ a, Vac H1 a → Vac H a := fun a z => s.ext.back z
  have own : ∀ φ', (∀ a, Ow φ' a → Po' a ∨ Vac H1 a) → ∀ a, Ow φ' a → Po a ∨ Vac H a := fun φ' o a z => (o a z).elim (hP a) fun z => .inr (back a z)
  have st : ∀ {G' H'}, Stp Po' G1 H1 G' H' → Stp Po G H G' H' := fun {G' H'} s' => by
    exact s.comp s' hP
  cases r with
  | ok t ρ' => exact fun φ' G' H' s' E' o => h φ' G' H' (st s') E' (own φ' o)
  | exc c p ρ' => exact fun d φ' G' H' s' E' o xr => h d φ' G' H' (st s') E' (own φ' o) xr
  | stuck => exact h
theorem PstM.bind {r : ResM α} {g : α → Env → ResM α'} {Q : α' → (Nat → List Addr) → Hp → Hp → Env → Prop} {R : α → (Nat → List Addr) → Hp → Hp → Env → Prop} (h : PstM x W β σ Po G H (r.bind g) Q)
    (k : ∀ t ρ1 φ1 G1 H1, Stp Po G H G1 H1 → ER x β φ1 G1 H1 σ ρ1 → (∀ a, Ow φ1 a → Po a ∨ Vac H a) → PstM x W β σ (Ow φ1) G1 H1 (g t ρ1) Q → R t φ1 G1 H1 ρ1) : PstM x W β σ Po G H r R := by
  cases r with
  | ok t ρ1 => exact fun φ1 G1 H1 s1 E1 o1 => k t ρ1 φ1 G1 H1 s1 E1 o1 (PstM.later h s1 o1)
  | exc c p ρ1 => exact h
  | stuck => exact h
/-- from pure to writing: what is but peeked at cannot be kept -/
def dUp (f : Env → Res T) : Env → ResM T := fun ρ => (f ρ).bind (fun t => if t.np = true then .ok t else .stuck) |>.up ρ
theorem m_up {e : Expr} {f : Env → Res T} (h : P x X e f) : M x X e (dUp f) := ⟨fun ok W tk => pe_imp (h.run ok W tk) fun σ H Q ⟨β, φ, G, ρ, E, _, q⟩ => ⟨β, φ, G, ρ, E, by
  unfold dUp at q
  cases hf : f ρ with
  | ok t =>
    rw [hf] at q
    have q : PstM x W β σ (Ow φ) G H ((if t.np = true then Res.ok t else .stuck).up ρ) (MadeM x (Ow φ) H Q) := q
    by_cases hn : t.np = true
    · rw [if_pos hn] at q
      refine fun G' H' s v fp r nd fr => q φ G' H' s.pure (E.step s) (fun a z => .inl z) v fp r hn nd fun a ha => ⟨.inl (fr a ha).1, (fr a ha).2, fun ⟨i, z⟩ => (E.dis i a z).2.ne (fr a ha).1⟩
    · rw [if_neg hn] at q; exact q.elim
  | exc c p =>
    rw [hf] at q
    exact fun d G' H' s xr => q d φ G' H' s.pure (E.step s) (fun a z => .inl z) xr
  | stuck => rw [hf] at q; exact q⟩⟩

/-! ### statements -/
def PstS (x : Tx) (W : XK) (β : Bo) (Po : Addr → Prop) (G H : Hp) (r : ResS) (D : Ends) : Prop := match r with
  | .ok fl ρ' => ∀ σ' φ' G' H', Stp Po G H G' H' → ER x β φ' G' H' σ' ρ' → (∀ a, Ow φ' a → Po a ∨ Vac H a) → match fl with
    | .next => D.nx σ' H'
    | .brk => D.bk σ' H'
    | .cont => D.ct σ' H'
    | .ret t => ∀ v fp, Rep x G' H' v t fp → t.np = true → fp.Nodup → (∀ a ∈ fp, (Vac H a ∨ Po a) ∧ G' a = none ∧ ¬ Ow φ' a) → D.rt v H'
  | .exc c p ρ' => ∀ d σ' φ' G' H', Stp Po G H G' H' → ER x β φ' G' H' σ' ρ' → (∀ a, Ow φ' a → Po a ∨ Vac H a) → XRep x G' H' d c p → W (.ref (x.ca c)) (some d) H'
  | .stuck => False
/-- bs tells which slots may be borrowed: they are never bound anew -/
structure Bs (bs : Nat → Bool) (β : Bo) : Prop where
  b : ∀ i, bs i = false → β.b i = none
  p : β.p = false
def tS (x : Tx) (bs : Nat → Bool) (W : XK) (f : Env → ResS) : TS := fun D σ H => ∃ β φ G ρ, ER x β φ G H σ ρ ∧ Bs bs β ∧ PstS x W β (Ow φ) G H (f ρ) D
structure S (x : Tx) (bs : Nat → Bool) (X : Cx) (st : Stmt) (f : Env → ResS) : Prop where
  run : XOk x X → ∀ W : XK, Takes X (fun c d _ H => W c d H) → PassesOwn (model X.prog X.w) X.A X.env X.xe → PS X st (tS x bs W f)
structure Ss (x : Tx) (bs : Nat → Bool) (X : Cx) (st : List Stmt) (f : Env → ResS) : Prop where
  run : XOk x X → ∀ W : XK, Takes X (fun c d _ H => W c d H) → PassesOwn (model X.prog X.w) X.A X.env X.xe → PSs X st (tS x bs W f)
theorem PstS.later {r : ResS} {D : Ends} (h : PstS x W β Po G H r D) {Po' : Addr → Prop} (s : Stp Po G H G1 H1) (hP : ∀ a, Po' a → Po a ∨ Vac H a) : PstS x W β Po' G1 H1 r D := by
  have back : ∀ a, Vac H1 a → Vac H a := fun a z => s.ext.back z
  have own : ∀ φ', (∀ a, Ow φ' a → Po' a ∨ Vac H1 a) → ∀ a, Ow φ' a → Po a ∨ Vac H a := fun φ' o a z => (o a z).elim (hP a) fun z => .inr (back a z)
  have st : ∀ {G' H'}, Stp Po' G1 H1 G' H' → Stp Po G H G' H' := fun {G' H'} s' => by
    exact s.comp s' hP
  cases r with
  | ok fl ρ' =>
    intro σ' φ' G' H' s' E' o
    have q := h σ' φ' G' H' (st s') E' (own φ' o)
    cases fl with
    | ret t => exact fun v fp r hn nd fr => q v fp r hn nd fun a ha => ⟨(fr a ha).1.elim (fun z => .inl (back a z)) fun z => (hP a z).elim .inr .inl, (fr a ha).2⟩
    | next => exact q
    | brk => exact q
    | cont => exact q
  | exc c p ρ' => exact fun d σ' φ' G' H' s' E' o xr => h d σ' φ' G' H' (st s') E' (own φ' o) xr
  | stuck => exact h
def dSeq (f g : Env → ResS) : Env → ResS := fun ρ => match f ρ with
  | .ok .next ρ' => g ρ'
  | r => r
def dNop : Env → ResS := fun ρ => .ok .next ρ
/-- from the middle -/
theorem PstS.mid {r : ResS} {D : Ends} {N : St → Hp → Prop} {g : Env → ResS} (h : PstS x W β Po G H (match r with | .ok .next ρ' => g ρ' | r => r) D)
    (k : ∀ σ' ρ1 φ1 G1 H1, ER x β φ1 G1 H1 σ' ρ1 → PstS x W β (Ow φ1) G1 H1 (g ρ1) D → N σ' H1) : PstS x W β Po G H r { D with nx := N } := by
  cases r with
  | ok fl ρ' =>
    cases fl with
    | next => exact fun σ' φ' G' H' s' E' o => k σ' ρ' φ' G' H' E' (PstS.later h s' o)
    | brk => exact h
    | cont => exact h
    | ret t => exact h
  | exc c p ρ' => exact h
  | stuck => exact h
theorem ss_nil {bs : Nat → Bool} : Ss x bs X [] dNop := ⟨fun ok W tk pO => pss_imp pss_nil fun D σ H ⟨β, φ, G, ρ, E, hb, h⟩ => h σ φ G H (.refl _ E.sub) E fun a z => .inl z⟩
theorem ss_cons {bs : Nat → Bool} {st : Stmt} {r : List Stmt} {f g : Env → ResS} (h : S x bs X st f) (q : Ss x bs X r g) : Ss x bs X (st :: r) (dSeq f g) := ⟨fun ok W tk pO => pss_imp (pss_cons (h.run ok W tk pO) (q.run ok W tk pO)) fun D σ H ⟨β, φ, G, ρ, E, hb, h⟩ =>
  ⟨β, φ, G, ρ, E, hb, PstS.mid h fun σ' ρ1 φ1 G1 H1 E1 h1 => ⟨β, φ1, G1, ρ1, E1, hb, h1⟩⟩⟩
theorem ss_one {bs : Nat → Bool} {st : Stmt} {f : Env → ResS} (h : S x bs X st f) : Ss x bs X [st] f := ⟨fun ok W tk pO => pss_one (h.run ok W tk pO)⟩
/-- a pure expression, then a statement's rest -/
theorem PstS.bindP {α : Type} {r : Res α} {g : α → ResS} {D : Ends} {Q : α → Hp → Hp → Prop} (E : ER x β φ G H σ ρ) (h : PstS x W β (Ow φ) G H (match r with | .ok t => g t | .exc c p => .exc c p ρ | .stuck => .stuck) D)
    (k : ∀ t G1 H1, Stp No G H G1 H1 → PstS x W β (Ow φ) G H (g t) D → Q t G1 H1) : Pst x W G H r Q := by
  cases r with
  | ok t => exact fun G1 H1 s => k t G1 H1 s h
  | exc c p => exact fun d G1 H1 s xr => h d σ φ G1 H1 s.pure (E.step s) (fun a z => .inl z) xr
  | stuck => exact h
@[simp] def Res.st {α : Type} (r : Res α) (ρ : Env) (g : α → ResS) : ResS := match r with | .ok t => g t | .exc c p => .exc c p ρ | .stuck => .stuck
@[simp] theorem Res.st_ok {α : Type} (a : α) (ρ : Env) (g : α → ResS) : (Res.ok a).st ρ g = g a := rfl
@[simp] theorem Res.st_exc {α : Type} (c : Nat) (p : List T) (ρ : Env) (g : α → ResS) : (Res.exc c p : Res α).st ρ g = .exc c p ρ := rfl
@[simp] theorem Res.st_stuck {α : Type} (ρ : Env) (g : α → ResS) : (Res.stuck : Res α).st ρ g = .stuck := rfl
/-- the slot's new content: owned, or shared -/
def dAsg (i : Nat) (f : Env → Res T) : Env → ResS := fun ρ => (f ρ).st ρ fun t => if t.np = true then .ok .next (ρ.set i (some t)) else .stuck
theorem s_asg {bs : Nat → Bool} {i : Nat} {n : Str} {e : Expr} {f : Env → Res T} {p pos : Pos} (h : P x X e f) (hbs : bs i = false) (hi : X.N[i]? = some n) (hx : Loc X.env.scope n) (hf : X.fn n = true ∨ X.env.scope.names.lookup n = some .local)
    (hs : swapsWith e (some (.Name n p)) pos.line X.env = pure false := by rfl) : S x bs X (.Assign [.Name n p] e pos) (dAsg i f) := ⟨fun ok W tk pO => ps_imp (ps_asg (h.run ok W tk) (pg_name ok.nd hi hx hf) hs) fun D σ H ⟨β, φ, G, ρ, E, hb, h⟩ =>
  ⟨β, φ, G, ρ, E, PstS.bindP E h fun t G1 H1 s h1 v fp r nd fr => by
    by_cases hn : t.np = true
    · rw [if_pos hn] at h1
      have fr' : ∀ a ∈ fp, ∀ j, a ∉ φ j := fun a ha j z => (E.dis j a z).2.ne (fr a ha).1
      exact h1 _ (fput φ i fp) G1 H1 s.pure ((E.step s).set r hn nd (fun a ha => ⟨(fr a ha).2, fun j _ => fr' a ha j⟩) (hb.b i hbs)) fun a z => (ow_put z).elim (fun z => .inr (fr a z).1) fun ⟨j, _, z⟩ => .inl ⟨j, z⟩
    · rw [if_neg hn] at h1; exact h1.elim⟩⟩
end
end Fn

/-! Fn5: defs and their calls. -/
namespace Fn
open PySem PySem.Spec L2
variable [Tbs]
section
variable {x : Tx} {β : Bo} {φ φ' φ1 : Nat → List Addr} {G G' G1 H H' H1 : Hp} {σ σ' : St} {ρ ρ' : Env} {W : XK} {Po : Addr → Prop} {X : Cx}
def frzs : List T → Option (List T)
  | [] => some []
  | t :: r => match t.frz, frzs r with
    | some t', some r' => some (t' :: r')
    | _, _ => none
theorem Reps.frzs : ∀ {vs : List V} {ts ts' : List T} {fp : List Addr}, Reps x G H vs ts fp → (∀ a ∈ fp, G a = none) → Fn.frzs ts = some ts' → RepsS x (add G H fp) vs ts'
  | _, _, _, _, .nil, _, e => by cases e; exact .nil
  | _, _, _, _, .cons (f1 := f1) (f2 := f2) h r, hd, e => by
    unfold Fn.frzs at e
    split at e
    · rename_i t' r' e1 e2
      cases e
      exact .cons ((h.frz (fun a ha => hd a (List.mem_append_left _ ha)) e1).le (add_mono hd fun a ha => List.mem_append_left _ ha)) ((Reps.frzs r (fun a ha => hd a (List.mem_append_right _ ha)) e2).le (add_mono hd fun a ha => List.mem_append_right _ ha))
    · cases e
theorem sub_add {fp : List Addr} (s : Sub G H) (h : ∀ a ∈ fp, Ownd H a) : Sub (add G H fp) H := fun a o e => by
  by_cases z : a ∈ fp
  · rw [add_in z] at e
    obtain ⟨u, e', m, _⟩ := h a z
    rw [e] at e'; cases e'
    exact ⟨m, .inl e⟩
  · rw [add_out z] at e; exact s a o e
/-- what was made behind H is shared -/
theorem Stp.share {P : Addr → Prop} {fp : List Addr} (s : Stp P G H G1 H1) (h : ∀ a ∈ fp, Ownd H1 a) (fr : ∀ a ∈ fp, (Vac H a ∨ P a) ∧ G1 a = none) : Stp P G H (add G1 H1 fp) H1 :=
  ⟨s.ext, sub_add s.sub h, fun b o e => add_le (fun a ha => (fr a ha).2) b o (s.le b o e), fun a e => by
    by_cases z : a ∈ fp
    · rcases (fr a z).1 with q | q
      · exact .inr (.inl q)
      · exact .inr (.inr (.inl q))
    · rw [add_out z] at e; exact s.new a e⟩

/-! ### pure defs -/
/-- what a pure def promises -/
def spP (x : Tx) (n : Nat) (F : List T → Res T) : Sp := fun vs H Q E => vs.length = n ∧ ∃ G ts, Sub G H ∧ TbOk H ∧ RepsS x G vs ts ∧ Pst x E G H (F ts) (Made x H Q)
def dRun (n : Nat) (b : Env → ResS) (ts : List T) : Res T := match b (ts.map some ++ List.replicate (n - ts.length) none) with
  | .ok (.ret t) _ => .ok t
  | .ok .next _ => .ok .non
  | .exc c p _ => .exc c p
  | _ => .stuck
theorem er_start {N : List Str} {vs : List V} {ts : List T} (s : Sub G H) (tb : TbOk H) (r : RepsS x G vs ts) : ER x ⟨fun _ => none, fun _ => none, false⟩ (fun _ => []) G H (L2.start N vs) (ts.map some ++ List.replicate (N.length - ts.length) none) where
  len := by unfold L2.start; simp [r.length]
  rep := fun i t e => by
    have hi : i < ts.length := by
      by_cases z : i < ts.length
      · exact z
      · rw [List.getElem?_append_right (by simpa using z), List.getElem?_replicate] at e
        split at e <;> cases e
    rw [List.getElem?_append_left (by simpa using hi), List.getElem?_map] at e
    cases q : ts[i]? with
    | none => rw [q] at e; cases e
    | some u =>
      rw [q] at e; cases e
      obtain ⟨v, e2, r2⟩ := r.get' q
      refine ⟨v, ?_, .s r2, fun _ => r2.np⟩
      unfold L2.start
      rw [List.getElem?_append_left (by rw [List.length_map, r.length]; exact hi), List.getElem?_map, e2]; rfl
  nd := fun _ => .nil
  dj := fun _ _ _ h => by cases h
  dis := fun _ _ h => by cases h
  sub := s
  tab := tb
  bor := fun _ _ h => by cases h
  lck := fun _ _ h => by cases h
theorem def_pure {P : Program} {w : World} {mg : Str → Option Value} {base : Heap} {nm qual : Str} {st : Stmt} {f : Addr} {fd : FuncData} {N ps : List Str} {k : Nat} {b : Env → ResS} (Fu : L2.Fun x.K nm qual st f fd) (Sc : FnScope N ps (defScope st))
    (hb : ∀ (cdv : Value) (A : Around) (outer : List PySem.Env) (s : Shared) (H : Hp) (E : XK), Room k (A.deeper (PyProof.Rows.envOfC qual (defScope st) s.heap.objs.size f cdv)) → Ss x (fun _ => false) (cxOf (L2.CX P w) P w x.K mg base N qual (defScope st) f cdv A outer s H E) (defBody st) b) :
    FnOk P w x.K mg base (L2.CX P w) (k + 1) f fd ps (spP x ps.length (dRun N.length b)) := by
  refine Fu.okX Sc (fun vs H Q E h => h.1) (fun cdv A outer s H vs Q E hr h => ?_)
  obtain ⟨hl, G, ts, sub, tb, r, h⟩ := h
  refine ⟨_, (hb cdv A outer s H E hr).run ⟨rfl, rfl, hr.mono (Nat.zero_le _), Sc.nd⟩ E (takes_of rfl rfl rfl rfl) (passes_of rfl), ?_⟩
  refine ⟨⟨fun _ => none, fun _ => none, false⟩, fun _ => [], G, _, er_start sub tb r, ⟨fun _ _ => rfl, rfl⟩, ?_⟩
  unfold dRun at h
  generalize hB : b (ts.map some ++ List.replicate (N.length - ts.length) none) = B at h
  have noO : ∀ {φ : Nat → List Addr} {a : Addr}, (∀ a, Ow φ a → Ow (fun _ => ([] : List Addr)) a ∨ Vac H a) → Ow φ a → Vac H a := fun o z => (o _ z).elim (fun ⟨_, z⟩ => by cases z) id
  have pure : ∀ {G' H'}, Stp (Ow fun _ => ([] : List Addr)) G H G' H' → Stp No G H G' H' := fun s => s.mono fun a ⟨_, z⟩ => by cases z
  cases B with
  | ok fl ρ' => cases fl with
    | next => exact fun σ' φ' G' H' s' E' o => h G' H' (pure s') .non [] (.s .non) .nil fun a z => by cases z
    | brk => exact h.elim
    | cont => exact h.elim
    | ret t => exact fun σ' φ' G' H' s' E' o v fp rr hn nd fr => h G' H' (pure s') v fp rr nd fun a ha => ⟨(fr a ha).1.elim id fun ⟨_, z⟩ => (by cases z), (fr a ha).2.1⟩
  | exc c p ρ' => exact fun d σ' φ' G' H' s' E' o xr => h d G' H' (pure s') xr
  | stuck => exact h.elim

/-! ### arguments, calls -/
def dNil : Env → Res (List T) := fun _ => .ok []
def dCons (f : Env → Res T) (g : Env → Res (List T)) : Env → Res (List T) := fun ρ => (f ρ).bind fun t => (g ρ).bind fun ts => .ok (t :: ts)
theorem pa0 : PAr x X [] dNil := ⟨fun ok W tk => pa_imp pa_nil fun σ H Q ⟨β, φ, G, ρ, E, h⟩ => h G H (.refl _ E.sub) [] [] .nil .nil fun a z => (by cases z), fun ρ ts e => by cases e; rfl⟩
theorem pa1 {e : Expr} {es : List Expr} {f : Env → Res T} {g : Env → Res (List T)} (h : P x X e f) (q : PAr x X es g) (hs : starEach (e :: es) X.env = (false, eval e X.env) :: starEach es X.env := by rfl) : PAr x X (e :: es) (dCons f g) :=
  ⟨fun ok W tk => pa_imp (pa_cons (h.run ok W tk) (q.run ok W tk) hs) fun σ H Q ⟨β, φ, G, ρ, E, h⟩ => ⟨β, φ, G, ρ, E, Pst.bind h fun t G1 H1 s1 h1 v1 f1 r1 n1 d1 => ⟨β, φ, G1, ρ, E.step s1, Pst.bind (h1.later s1) fun ts G2 H2 s2 h2 vs f2 r2 n2 d2 =>
    h2 G2 H2 s2 (v1 :: vs) (f1 ++ f2) (.cons (r1.step s2) r2) (List.nodup_append.mpr ⟨n1, n2, fun a ha b hb z => r1.live a ha (by rw [z]; exact (d2 b hb).1)⟩) fun a ha => by
      rcases List.mem_append.mp ha with z | z
      · refine ⟨(d1 a z).1, ?_⟩
        exact s2.notIn (d1 a z).2 (r1.there a z) id
      · exact ⟨s1.ext.back (d2 a z).1, (d2 a z).2⟩⟩⟩, fun ρ ts h2 => by
    unfold dCons at h2
    cases h3 : f ρ <;> rw [h3] at h2 <;> try cases h2
    rename_i t
    have h2 : ((g ρ).bind fun ts => Res.ok (t :: ts)) = .ok ts := h2
    cases h4 : g ρ <;> rw [h4] at h2 <;> cases h2
    rw [List.length_cons, List.length_cons, q.len ρ _ h4]⟩
/-- a call of a pure def: what is handed over is shared -/
def dCall (F : List T → Res T) (fa : Env → Res (List T)) : Env → Res T := fun ρ => (fa ρ).bind fun ts => match frzs ts with
  | some ts' => F ts'
  | none => .stuck
theorem call_sp {F : List T → Res T} {vs : List V} {ts : List T} {fp : List Addr} {n : Nat} {Q : V → Hp → Prop} (s : Stp No G H G1 H1) (tb : TbOk H1) (r : Reps x G1 H1 vs ts fp) (fr : ∀ a ∈ fp, Vac H a ∧ G1 a = none) (hn : vs.length = n)
    (h : Pst x W G H (match frzs ts with | some ts' => F ts' | none => .stuck) (Made x H Q)) : spP x n F vs H1 Q W := by
  cases e : frzs ts with
  | none => rw [e] at h; exact h.elim
  | some ts' =>
    rw [e] at h
    have h : Pst x W G H (F ts') (Made x H Q) := h
    exact ⟨hn, add G1 H1 fp, ts', sub_add s.sub (r.there), tb, r.frzs (fun a ha => (fr a ha).2) e, (h.later (s.share r.there fun a ha => ⟨.inl (fr a ha).1, (fr a ha).2⟩)).imp fun t G' H' s' m => fun v fp rr nd fr' => m v fp rr nd fun a ha => ⟨s.ext.back (fr' a ha).1, (fr' a ha).2⟩⟩
theorem p_call {k n : Nat} {f : Addr} {fd : FuncData} {ps : List Str} {F : List T → Res T} {fa : Env → Res (List T)} {nm : Str} {p pos : Pos} {e : Expr} {es : List Expr}
    (Fo : FnOk X.prog X.w X.K X.mg X.base (L2.CX X.prog X.w) k f fd ps (spP x n F)) (hl : (e :: es).length = n) (hr : Room k X.A) (hg : Gl X nm) (hm : X.mg nm = some (.ref f)) (hk : PySem.W.keepIn X.K (.ref f) = true) (hb : Binds X.K fd ps []) (ha : PAr x X (e :: es) fa)
    (hdb : (nm == ("__debug__" : Str)) = false := by decide) (he : starEach (e :: es) X.env = (false, eval e X.env) :: starEach es X.env := by rfl) (hpl : (backTo pos (starEach es X.env)).any (·.1) = false := by rfl) :
    P x X (.Call (.Name nm p) (e :: es) [] pos) (dCall F fa) := ⟨fun ok W tk => pe_imp (pe_call Fo hr hg hm hk hb .nil (passes_call tk fun _ _ _ _ h => h) (ha.run ok W tk) hdb he hpl) fun σ H Q ⟨β, φ, G, ρ, E, h⟩ =>
  ⟨β, φ, G, ρ, E, by
    have h : Pst x W G H ((fa ρ).bind fun ts => match frzs ts with | some ts' => F ts' | none => .stuck) (Made x H Q) := h
    have ln := ha.len ρ
    revert h ln
    cases fa ρ with
    | ok ts =>
        intro h ln G1 H1 s vs fp r nd fr
        have hv : vs.length = n := by rw [r.length, ln ts rfl, hl]
        rw [List.append_nil]
        exact call_sp s (s.ext.tabs E.tab) r fr hv h
    | exc c p => exact fun h _ => h
    | stuck => exact fun h _ => h⟩⟩
theorem p_call0 {k n : Nat} {f : Addr} {fd : FuncData} {ps : List Str} {F : List T → Res T} {nm : Str} {p pos : Pos}
    (Fo : FnOk X.prog X.w X.K X.mg X.base (L2.CX X.prog X.w) k f fd ps (spP x 0 F)) (hr : Room k X.A) (hg : Gl X nm) (hm : X.mg nm = some (.ref f)) (hk : PySem.W.keepIn X.K (.ref f) = true) (hb : Binds X.K fd ps [])
    (hdb : (nm == ("__debug__" : Str)) = false := by decide) :
    P x X (.Call (.Name nm p) [] [] pos) (dCall F dNil) := ⟨fun ok W tk => pe_imp (pe_call0 Fo hr hg hm hk hb .nil (passes_call tk fun _ _ _ _ h => h) hdb) fun σ H Q ⟨β, φ, G, ρ, E, h⟩ =>
  call_sp (vs := []) (ts := []) (fp := []) (.refl _ E.sub) E.tab .nil (fun _ z => by cases z) rfl h⟩
end
end Fn

/-! Fn6: operators, comparisons, truth. -/
namespace Fn
open PySem PySem.Spec L2
variable [Tbs]
section
variable {x : Tx} {G G' G1 H H' H0 H1 : Hp} {W : XK} {X : Cx} {f : Fl} {fp : List Addr} {v : V}
/-! ### what a representation tells -/
theorem Rep.int {i : Int} (h : Rep x G H v (.int i) fp) : v = .int i := by cases h with | s h => cases h; rfl
theorem Rep.bl {b : Bool} (h : Rep x G H v (.bl b) fp) : v = .bl b := by cases h with | s h => cases h; rfl
theorem Rep.str {z : Str} (h : Rep x G H v (.str z) fp) : v = .str z := by cases h with | s h => cases h; rfl
theorem Rep.non (h : Rep x G H v .non fp) : v = .non := by cases h with | s h => cases h; rfl
theorem Rep.fn {n : Nat} (h : Rep x G H v (.fn n) fp) : v = .ref (x.fa n) := by cases h with | s h => cases h; rfl
theorem Rep.lst_inv {ts : List T} (s : Sub G H) (h : Rep x G H v (.lst f ts) fp) : ∃ a vs, v = .ref a ∧ H a = some (.lst vs) ∧ RepsS x G vs ts := by
  cases h with
  | s h => cases h with | lst h r => exact ⟨_, _, rfl, s.at h id, r⟩
  | lst f hf h r => exact ⟨_, _, rfl, h, r⟩
theorem Rep.tup_inv {ts : List T} (s : Sub G H) (h : Rep x G H v (.tup ts) fp) : ∃ a vs, v = .ref a ∧ H a = some (.tup vs) ∧ RepsS x G vs ts := by
  cases h with
  | s h => cases h with | tup h r => exact ⟨_, _, rfl, s.at h id, r⟩
theorem sqL_out {K : PySem.W.Frag} {a : Addr} {vs : List V} (h : SqL K (fun _ => none) a vs) : SqL K H a vs := h.elim (fun z => z.elim (fun z => by cases z) fun ⟨_, z⟩ => by cases z) .inr
theorem sqT_out {K : PySem.W.Frag} {a : Addr} {vs : List V} (h : SqT K (fun _ => none) a vs) : SqT K H a vs := h.elim (fun z => z.elim (fun z => by cases z) fun ⟨_, z⟩ => by cases z) .inr
theorem Rep.scr_inv {ns : List Int} (s : Sub G H) (h : Rep x G H v (.scr ns) fp) : ∃ a, v = .ref a ∧ SqL x.K H a (ns.map V.int) := by
  cases h with
  | s h => cases h with
    | scr h => exact ⟨_, rfl, .inl (.inr ⟨_, s.at h id⟩)⟩
    | scrK h => exact ⟨_, rfl, sqL_out h⟩
theorem Rep.ktup_inv {ts : List T} (h : Rep x G H v (.ktup ts) fp) : ∃ a vs, v = .ref a ∧ SqT x.K H a vs ∧ RepsS x G vs ts := by
  cases h with
  | s h => cases h with | ktup h r => exact ⟨_, _, rfl, sqT_out h, r⟩
/-! ### what a result must reach -/
theorem Pst.scal {t : T} {Q : V → Hp → Prop} (h : Pst x W G H (.ok t) (Made x H0 Q)) (s : Sub G H) (r : RepS x G v t) : Q v H := h G H (.refl _ s) v [] (.s r) .nil fun _ z => by cases z
theorem Pst.newLst {ts : List T} {vs : List V} {Q : V → Hp → Prop} (h : Pst x W G H (.ok (.lst .ow ts)) (Made x H0 Q)) (s : Sub G H) (r : RepsS x G vs ts) (l : ∀ a, Vac H a → Vac H0 a) : ∀ p, H p = none → Q (.ref p) (upd H p (.lst vs)) := fun p hp => by
  have gp : G p = none := by
    cases q : G p with
    | none => rfl
    | some u => rcases (s p u q).2 with z | ⟨od, z, _⟩ <;> (rw [hp] at z; cases z)
  refine h G _ (.laid s hp) (.ref p) [p] (.lst .ow (by simp) upd_same r) (by simp) fun a ha => ?_
  cases List.mem_singleton.mp ha
  exact ⟨l p (.of hp), gp⟩
theorem Pst.newTup {ts : List T} {vs : List V} {Q : V → Hp → Prop} (h : Pst x W G H (.ok (.tup ts)) (Made x H0 Q)) (s : Sub G H) (r : RepsS x G vs ts) : ∀ p, H p = none → Q (.ref p) (upd H p (.tup vs)) := fun p hp => by
  have st := Stp.laidS (P := No) s hp (o := .tup vs) (fun _ z => by cases z)
  exact h _ _ st (.ref p) [] (.s (.tup upd_same (r.le st.le))) .nil fun _ z => by cases z
theorem live_none (l : ∀ a, Vac H a → Vac H0 a) {p : Addr} (hp : H p = none) : Vac H0 p := l p (.of hp)
/-! ### + - * // % ** ^ -/
def opAdd : T → T → Res T
  | .int i, .int j => .ok (.int (i + j))
  | .str a, .str b => if a.length + b.length ≤ 10000000 then .ok (.str (a ++ b)) else .stuck
  | .lst _ xs, .lst _ ys => if xs.length + ys.length ≤ 10000000 then .ok (.lst .ow (xs ++ ys)) else .stuck
  | .tup xs, .tup ys => if xs.length + ys.length ≤ 10000000 then .ok (.tup (xs ++ ys)) else .stuck
  | _, _ => .stuck
theorem sz_of {n : Nat} (h : n ≤ 10000000) : n ≤ sizeLine := Nat.le_trans h (by decide)
theorem sem_add : OpSem x X (binaryOp .Add) opAdd := fun ok W tk G H H0 a b s t f1 f2 Q sub ra rb l h pins sh σ v u I rv ru => by
  unfold opAdd at h
  split at h
  · cases ra.int; cases rb.int
    exact op_add pins sh σ H _ _ v u Q I rv ru ⟨_, _, rfl, rfl, h.scal sub (.int _)⟩
  · cases ra.str; cases rb.str
    split at h
    · rename_i hl
      exact op_add_str pins sh σ H _ _ v u Q I rv ru ⟨_, _, rfl, rfl, sz_of hl, h.scal sub (.str _)⟩
    · exact h.elim
  · obtain ⟨p, vs, rfl, hp, r1⟩ := ra.lst_inv sub
    obtain ⟨q, ws, rfl, hq, r2⟩ := rb.lst_inv sub
    split at h
    · rename_i hl
      exact op_cat pins sh σ H _ _ v u Q I rv ru ⟨p, q, vs, ws, rfl, rfl, hp, hq, by rw [r1.length, r2.length]; exact sz_of hl, h.newLst sub (r1.append r2) l⟩
    · exact h.elim
  · obtain ⟨p, vs, rfl, hp, r1⟩ := ra.tup_inv sub
    obtain ⟨q, ws, rfl, hq, r2⟩ := rb.tup_inv sub
    split at h
    · rename_i xs ys hl
      refine op_catA pins sh σ H _ _ v u Q I rv ru ⟨p, q, vs, ws, rfl, rfl, .inl (.inl hp), .inl (.inl hq), by rw [r1.length, r2.length]; exact sz_of hl, fun e => ?_, fun _ e => ?_, fun _ _ => h.newTup sub (r1.append r2)⟩
      · subst e; cases r1
        cases rb with | s rb => exact h.scal sub rb
      · subst e; cases r2
        rw [List.append_nil] at h
        cases ra with | s ra => exact h.scal sub ra
    · exact h.elim
  · exact h.elim
def opSub : T → T → Res T
  | .int i, .int j => .ok (.int (i - j))
  | _, _ => .stuck
theorem sem_sub : OpSem x X (binaryOp .Sub) opSub := fun ok W tk G H H0 a b s t f1 f2 Q sub ra rb l h pins sh σ v u I rv ru => by
  unfold opSub at h
  split at h
  · cases ra.int; cases rb.int
    exact op_sub pins sh σ H _ _ v u Q I rv ru ⟨_, _, rfl, rfl, h.scal sub (.int _)⟩
  · exact h.elim
def opMul : T → T → Res T
  | .int i, .int j => if (-(2 ^ 64) < i ∧ i < 2 ^ 64) ∨ (-(2 ^ 64) < j ∧ j < 2 ^ 64) then .ok (.int (i * j)) else .stuck
  | .lst _ xs, .int k => if -(2 ^ 63) ≤ k ∧ k < 2 ^ 63 ∧ xs.length * k.toNat ≤ 10000000 then .ok (.lst .ow (List.replicate k.toNat xs).flatten) else .stuck
  | _, _ => .stuck
theorem RepsS.flat {vs : List V} {ts : List T} (r : RepsS x G vs ts) : ∀ n, RepsS x G (List.replicate n vs).flatten (List.replicate n ts).flatten
  | 0 => .nil
  | n + 1 => by rw [List.replicate_succ, List.replicate_succ, List.flatten_cons, List.flatten_cons]; exact r.append (r.flat n)
theorem sem_mul : OpSem x X (binaryOp .Mult) opMul := fun ok W tk G H H0 a b s t f1 f2 Q sub ra rb l h pins sh σ v u I rv ru => by
  unfold opMul at h
  split at h
  · cases ra.int; cases rb.int
    split at h
    · rename_i hc
      exact op_mul pins sh σ H _ _ v u Q I rv ru ⟨_, _, rfl, rfl, hc, h.scal sub (.int _)⟩
    · exact h.elim
  · obtain ⟨p, vs, rfl, hp, r1⟩ := ra.lst_inv sub
    cases rb.int
    split at h
    · rename_i hl
      exact op_rep pins sh σ H _ _ v u Q I rv ru ⟨p, _, vs, rfl, rfl, hp, hl.1, hl.2.1, by rw [r1.length]; exact sz_of hl.2.2, h.newLst sub (r1.flat _) l⟩
    · exact h.elim
  · exact h.elim
def opDiv : T → T → Res T
  | .int i, .int j => if 0 < j ∧ j < 1073741824 then .ok (.int (i / j)) else .stuck
  | _, _ => .stuck
theorem sem_div : OpSem x X (binaryOp .FloorDiv) opDiv := fun ok W tk G H H0 a b s t f1 f2 Q sub ra rb l h pins sh σ v u I rv ru => by
  unfold opDiv at h
  split at h
  · cases ra.int; cases rb.int
    split at h
    · rename_i hc
      exact op_fdiv pins sh σ H _ _ v u Q I rv ru ⟨_, _, rfl, rfl, hc, h.scal sub (.int _)⟩
    · exact h.elim
  · exact h.elim
def opMod : T → T → Res T
  | .int i, .int j => if 0 < j then .ok (.int (i % j)) else .stuck
  | _, _ => .stuck
theorem sem_mod : OpSem x X (binaryOp .Mod) opMod := fun ok W tk G H H0 a b s t f1 f2 Q sub ra rb l h pins sh σ v u I rv ru => by
  unfold opMod at h
  split at h
  · cases ra.int; cases rb.int
    split at h
    · rename_i hc
      exact op_mod pins sh σ H _ _ v u Q I rv ru ⟨_, _, rfl, rfl, hc, h.scal sub (.int _)⟩
    · exact h.elim
  · exact h.elim
def opPow : T → T → Res T
  | .int i, .int j => if 0 ≤ j ∧ j ≤ 1000000 ∧ i.natAbs < 2 ^ 64 then .ok (.int (i ^ j.toNat)) else .stuck
  | _, _ => .stuck
theorem sem_pow : OpSem x X (binaryOp .Pow) opPow := fun ok W tk G H H0 a b s t f1 f2 Q sub ra rb l h pins sh σ v u I rv ru => by
  unfold opPow at h
  split at h
  · cases ra.int; cases rb.int
    split at h
    · rename_i hc
      exact op_pow pins sh σ H _ _ v u Q I rv ru ⟨_, _, rfl, rfl, hc, h.scal sub (.int _)⟩
    · exact h.elim
  · exact h.elim
def opXor : T → T → Res T
  | .int i, .int j => .ok (.int (Builtin.bitXor i j))
  | _, _ => .stuck
theorem sem_xor : OpSem x X (binaryOp .BitXor) opXor := fun ok W tk G H H0 a b s t f1 f2 Q sub ra rb l h pins sh σ v u I rv ru => by
  unfold opXor at h
  split at h
  · cases ra.int; cases rb.int
    exact op_xor pins sh σ H _ _ v u Q I rv ru ⟨_, _, rfl, rfl, h.scal sub (.int _)⟩
  · exact h.elim
/-! ### < <= > >= is -/
def opLt : T → T → Res T
  | .int i, .int j => .ok (.bl (decide (i < j)))
  | .str a, .str b => .ok (.bl (decide (a.cps.toList < b.cps.toList)))
  | _, _ => .stuck
theorem sem_lt : OpSem x X (compareOp .Lt) opLt := fun ok W tk G H H0 a b s t f1 f2 Q sub ra rb l h pins sh σ v u I rv ru => by
  unfold opLt at h
  split at h
  · cases ra.int; cases rb.int
    exact op_lt pins sh σ H _ _ v u Q I rv ru ⟨_, _, rfl, rfl, h.scal sub (.bl _)⟩
  · cases ra.str; cases rb.str
    exact op_lt_str pins sh σ H _ _ v u Q I rv ru ⟨_, _, rfl, rfl, h.scal sub (.bl _)⟩
  · exact h.elim
def opLe : T → T → Res T
  | .int i, .int j => .ok (.bl (decide (i ≤ j)))
  | _, _ => .stuck
theorem sem_le : OpSem x X (compareOp .LtE) opLe := fun ok W tk G H H0 a b s t f1 f2 Q sub ra rb l h pins sh σ v u I rv ru => by
  unfold opLe at h
  split at h
  · cases ra.int; cases rb.int
    exact op_le pins sh σ H _ _ v u Q I rv ru ⟨_, _, rfl, rfl, h.scal sub (.bl _)⟩
  · exact h.elim
def opGt : T → T → Res T
  | .int i, .int j => .ok (.bl (decide (j < i)))
  | _, _ => .stuck
theorem sem_gt : OpSem x X (compareOp .Gt) opGt := fun ok W tk G H H0 a b s t f1 f2 Q sub ra rb l h pins sh σ v u I rv ru => by
  unfold opGt at h
  split at h
  · cases ra.int; cases rb.int
    exact op_gt pins sh σ H _ _ v u Q I rv ru ⟨_, _, rfl, rfl, h.scal sub (.bl _)⟩
  · exact h.elim
def opGe : T → T → Res T
  | .int i, .int j => .ok (.bl (decide (j ≤ i)))
  | _, _ => .stuck
theorem sem_ge : OpSem x X (compareOp .GtE) opGe := fun ok W tk G H H0 a b s t f1 f2 Q sub ra rb l h pins sh σ v u I rv ru => by
  unfold opGe at h
  split at h
  · cases ra.int; cases rb.int
    exact op_ge pins sh σ H _ _ v u Q I rv ru ⟨_, _, rfl, rfl, h.scal sub (.bl _)⟩
  · exact h.elim
def T.isNon : T → Bool
  | .non => true
  | _ => false
theorem Rep.isNon {t : T} (h : Rep x G H v t fp) : decide (v = .non) = t.isNon := by
  cases h with
  | s h => cases h <;> rfl
  | lst f hf h r => rfl
  | dctK f h r => rfl
  | dctT f h r => rfl
  | obj f hf hp hn ok h e r nd => rfl
def opIs : T → T → Res T
  | s, .non => .ok (.bl s.isNon)
  | _, _ => .stuck
theorem sem_is : OpSem x X (compareOp .Is) opIs := fun ok W tk G H H0 a b s t f1 f2 Q sub ra rb l h pins sh σ v u I rv ru => by
  unfold opIs at h
  split at h
  · cases rb.non
    exact op_isN pins sh σ H _ _ v u Q I rv ru ⟨rfl, by rw [ra.isNon]; exact h.scal sub (.bl _)⟩
  · exact h.elim
def opIsNot : T → T → Res T
  | s, .non => .ok (.bl (!s.isNon))
  | _, _ => .stuck
theorem sem_isNot : OpSem x X (compareOp .IsNot) opIsNot := fun ok W tk G H H0 a b s t f1 f2 Q sub ra rb l h pins sh σ v u I rv ru => by
  unfold opIsNot at h
  split at h
  · cases rb.non
    exact op_notN pins sh σ H _ _ v u Q I rv ru ⟨rfl, by rw [ra.isNon]; exact h.scal sub (.bl _)⟩
  · exact h.elim
end
end Fn

/-! Fn7: == and in over data, truth, tests. -/
namespace Fn
open PySem PySem.Spec L2
variable [Tbs]
/-! ### data -/
mutual
def T.dat : T → Option PyData
  | .non => some .none
  | .bl b => some (.bool b)
  | .int i => some (.int i)
  | .str x => some (.str x)
  | .tup xs => (datAll xs).map .tuple
  | .ktup xs => (datAll xs).map .tuple
  | .lst _ xs => (datAll xs).map .list
  | _ => none
def datAll : List T → Option (List PyData)
  | [] => some []
  | t :: r => match t.dat, datAll r with
    | some d, some ds => some (d :: ds)
    | _, _ => none
end
mutual
/-- == of data -/
def T.eqv : T → T → Bool
  | .non, .non => true
  | .bl a, .bl b => a == b
  | .bl a, .int j => (if a then 1 else 0) == j
  | .int i, .bl b => i == (if b then 1 else 0)
  | .int i, .int j => i == j
  | .str a, .str b => a == b
  | .tup xs, .tup ys => eqvs xs ys
  | .tup xs, .ktup ys => eqvs xs ys
  | .ktup xs, .tup ys => eqvs xs ys
  | .ktup xs, .ktup ys => eqvs xs ys
  | .lst _ xs, .lst _ ys => eqvs xs ys
  | _, _ => false
def eqvs : List T → List T → Bool
  | [], [] => true
  | s :: xs, t :: ys => s.eqv t && eqvs xs ys
  | _, _ => false
end
mutual
/-- data of good signs, at most n deep -/
def T.dok : Nat → T → Bool
  | _, .non => true
  | _, .bl _ => true
  | _, .int _ => true
  | _, .str x => PyData.strOk x
  | n + 1, .tup xs => doks n xs
  | n + 1, .ktup xs => doks n xs
  | n + 1, .lst _ xs => doks n xs
  | _, _ => false
def doks : Nat → List T → Bool
  | _, [] => true
  | n, t :: r => t.dok n && doks n r
end

theorem dok_dat_aux : (∀ (n : Nat) (t : T), t.dok n = true → ∃ d, t.dat = some d ∧ d.canLay0 = true ∧ d.depth ≤ n) ∧ (∀ (n : Nat) (ts : List T), doks n ts = true → ∃ ds, datAll ts = some ds ∧ PyData.canLayAll0 ds = true ∧ PyData.depthAll ds ≤ n) := by
  refine T.dok.mutual_induct (motive_1 := fun n t => t.dok n = true → ∃ d, t.dat = some d ∧ d.canLay0 = true ∧ d.depth ≤ n) (motive_2 := fun n ts => doks n ts = true → ∃ ds, datAll ts = some ds ∧ PyData.canLayAll0 ds = true ∧ PyData.depthAll ds ≤ n) ?_ ?_ ?_ ?_ ?_ ?_ ?_ ?_ ?_ ?_
  · intro n _; exact ⟨_, rfl, rfl, Nat.zero_le _⟩
  · intro n b _; exact ⟨_, rfl, rfl, Nat.zero_le _⟩
  · intro n b _; exact ⟨_, rfl, rfl, Nat.zero_le _⟩
  · intro n z h
    refine ⟨_, rfl, ?_, Nat.zero_le _⟩
    simpa [PyData.canLay0, T.dok] using h
  · intro n xs ih h
    obtain ⟨ds, e, c, d⟩ := ih (by simpa [T.dok] using h)
    exact ⟨.tuple ds, by simp [T.dat, e], by simpa [PyData.canLay0] using c, by simp [PyData.depth]; exact d⟩
  · intro n xs ih h
    obtain ⟨ds, e, c, d⟩ := ih (by simpa [T.dok] using h)
    exact ⟨.tuple ds, by simp [T.dat, e], by simpa [PyData.canLay0] using c, by simp [PyData.depth]; exact d⟩
  · intro n f xs ih h
    obtain ⟨ds, e, c, d⟩ := ih (by simpa [T.dok] using h)
    exact ⟨.list ds, by simp [T.dat, e], by simpa [PyData.canLay0] using c, by simp [PyData.depth]; exact d⟩
  · intro n t h1 h2 h3 h4 h5 h6 h7 h
    exfalso
    unfold T.dok at h
    split at h <;> simp_all
  · intro n _; exact ⟨[], rfl, rfl, by simp [PyData.depthAll]⟩
  · intro n t r ih1 ih2 h
    have h : (t.dok n && doks n r) = true := by simpa [doks] using h
    rw [Bool.and_eq_true] at h
    obtain ⟨d, e, c, l⟩ := ih1 h.1
    obtain ⟨ds, e2, c2, l2⟩ := ih2 h.2
    exact ⟨d :: ds, by simp [datAll, e, e2], by simp [PyData.canLayAll0, c, c2], by simp [PyData.depthAll]; omega⟩
theorem dok_dat {n : Nat} {t : T} (h : t.dok n = true) : ∃ d, t.dat = some d ∧ d.canLay0 = true ∧ d.depth ≤ n := dok_dat_aux.1 n t h
theorem doks_dat {n : Nat} {t : List T} (h : doks n t = true) : ∃ d, datAll t = some d ∧ PyData.canLayAll0 d = true ∧ PyData.depthAll d ≤ n := dok_dat_aux.2 n t h
theorem dat_tup {xs : List T} {d : PyData} (h : (datAll xs).map PyData.tuple = some d) : ∃ ds, datAll xs = some ds ∧ d = .tuple ds := by
  cases e : datAll xs with
  | none => rw [e] at h; cases h
  | some ds => rw [e] at h; cases h; exact ⟨ds, rfl, rfl⟩
theorem dat_lst {xs : List T} {d : PyData} (h : (datAll xs).map PyData.list = some d) : ∃ ds, datAll xs = some ds ∧ d = .list ds := by
  cases e : datAll xs with
  | none => rw [e] at h; cases h
  | some ds => rw [e] at h; cases h; exact ⟨ds, rfl, rfl⟩
mutual
theorem eqv_dat : ∀ (s t : T) (d e : PyData), s.dat = some d → t.dat = some e → PyData.eqv d e = s.eqv t
  | .tup xs, t, d, e, h1, h2 => by
    obtain ⟨ds, q, rfl⟩ := dat_tup h1
    cases t with
    | tup ys => obtain ⟨es, q2, rfl⟩ := dat_tup h2; simp only [PyData.eqv, T.eqv]; exact eqvs_dat xs ys ds es q q2
    | ktup ys => obtain ⟨es, q2, rfl⟩ := dat_tup h2; simp only [PyData.eqv, T.eqv]; exact eqvs_dat xs ys ds es q q2
    | lst f ys => obtain ⟨es, q2, rfl⟩ := dat_lst h2; rfl
    | fn _ => cases h2
    | scr _ => cases h2
    | dct _ _ _ => cases h2
    | obj _ _ _ => cases h2
    | _ => cases h2; rfl
  | .ktup xs, t, d, e, h1, h2 => by
    obtain ⟨ds, q, rfl⟩ := dat_tup h1
    cases t with
    | tup ys => obtain ⟨es, q2, rfl⟩ := dat_tup h2; simp only [PyData.eqv, T.eqv]; exact eqvs_dat xs ys ds es q q2
    | ktup ys => obtain ⟨es, q2, rfl⟩ := dat_tup h2; simp only [PyData.eqv, T.eqv]; exact eqvs_dat xs ys ds es q q2
    | lst f ys => obtain ⟨es, q2, rfl⟩ := dat_lst h2; rfl
    | fn _ => cases h2
    | scr _ => cases h2
    | dct _ _ _ => cases h2
    | obj _ _ _ => cases h2
    | _ => cases h2; rfl
  | .lst _ xs, t, d, e, h1, h2 => by
    obtain ⟨ds, q, rfl⟩ := dat_lst h1
    cases t with
    | lst f ys => obtain ⟨es, q2, rfl⟩ := dat_lst h2; simp only [PyData.eqv, T.eqv]; exact eqvs_dat xs ys ds es q q2
    | tup ys => obtain ⟨es, q2, rfl⟩ := dat_tup h2; rfl
    | ktup ys => obtain ⟨es, q2, rfl⟩ := dat_tup h2; rfl
    | fn _ => cases h2
    | scr _ => cases h2
    | dct _ _ _ => cases h2
    | obj _ _ _ => cases h2
    | _ => cases h2; rfl
  | .non, t, d, e, h1, h2 => by cases h1; cases t <;> first | (cases h2; done) | (cases h2; rfl) | (obtain ⟨es, q2, rfl⟩ := dat_tup h2; rfl) | (obtain ⟨es, q2, rfl⟩ := dat_lst h2; rfl)
  | .bl b, t, d, e, h1, h2 => by cases h1; cases t <;> first | (cases h2; done) | (cases h2; rfl) | (obtain ⟨es, q2, rfl⟩ := dat_tup h2; rfl) | (obtain ⟨es, q2, rfl⟩ := dat_lst h2; rfl)
  | .int b, t, d, e, h1, h2 => by cases h1; cases t <;> first | (cases h2; done) | (cases h2; rfl) | (obtain ⟨es, q2, rfl⟩ := dat_tup h2; rfl) | (obtain ⟨es, q2, rfl⟩ := dat_lst h2; rfl)
  | .str b, t, d, e, h1, h2 => by cases h1; cases t <;> first | (cases h2; done) | (cases h2; rfl) | (obtain ⟨es, q2, rfl⟩ := dat_tup h2; rfl) | (obtain ⟨es, q2, rfl⟩ := dat_lst h2; rfl)
  | .fn _, _, _, _, h1, _ => by cases h1
  | .scr _, _, _, _, h1, _ => by cases h1
  | .dct _ _ _, _, _, _, h1, _ => by cases h1
  | .obj _ _ _, _, _, _, h1, _ => by cases h1
theorem eqvs_dat : ∀ (xs ys : List T) (ds es : List PyData), datAll xs = some ds → datAll ys = some es → PyData.eqvAll ds es = eqvs xs ys
  | [], ys, ds, es, h1, h2 => by
    cases h1
    cases ys with
    | nil => cases h2; rfl
    | cons y ys =>
      unfold datAll at h2
      split at h2
      · cases h2; rfl
      · cases h2
  | x :: xs, ys, ds, es, h1, h2 => by
    unfold datAll at h1
    split at h1
    · rename_i d ds' e1 e2
      cases h1
      cases ys with
      | nil => cases h2; rfl
      | cons y ys =>
        unfold datAll at h2
        split at h2
        · rename_i e es' e3 e4
          cases h2
          simp only [PyData.eqvAll, eqvs]
          rw [eqv_dat x y d e e1 e3, eqvs_dat xs ys _ _ e2 e4]
        · cases h2
    · cases h1
end
section
variable {x : Tx} {G G' G1 H H' H0 H1 : Hp} {W : XK} {X : Cx} {f : Fl} {fp : List Addr} {v : V}
mutual
theorem RepS.dp (s : Sub G H) : ∀ {v : V} {t : T} {d : PyData}, RepS x G v t → t.dat = some d → Dp x.K H v d
  | _, _, _, .non, e => by cases e; exact .non
  | _, _, _, .bl b, e => by cases e; exact .bl b
  | _, _, _, .int b, e => by cases e; exact .int b
  | _, _, _, .str b, e => by cases e; exact .str b
  | _, _, _, .fn _, e => by cases e
  | _, _, _, .scr _, e => by cases e
  | _, _, _, .scrK _, e => by cases e
  | _, _, _, .ktup h r, e => by obtain ⟨ds, q, rfl⟩ := dat_tup e; exact .tup (sqT_out h) (RepsS.dp s r q)
  | _, _, _, .tup h r, e => by obtain ⟨ds, q, rfl⟩ := dat_tup e; exact .tup (.inl (.inl (s.at h id))) (RepsS.dp s r q)
  | _, _, _, .lst h r, e => by obtain ⟨ds, q, rfl⟩ := dat_lst e; exact .lst (.inl (.inl (s.at h id))) (RepsS.dp s r q)
  | _, _, _, .dctK _ _, e => by cases e
  | _, _, _, .dctT _ _, e => by cases e
  | _, _, _, .obj _ _ _ _, e => by cases e
theorem RepsS.dp (s : Sub G H) : ∀ {v : List V} {t : List T} {d : List PyData}, RepsS x G v t → datAll t = some d → DpAll x.K H v d
  | _, _, _, .nil, e => by cases e; exact .nil
  | _, _, _, .cons h r, e => by
    unfold datAll at e
    split at e
    · rename_i d ds e1 e2
      cases e
      exact .cons (RepS.dp s h e1) (RepsS.dp s r e2)
    · cases e
end
theorem Rep.dp (s : Sub G H) {t : T} {d : PyData} (h : Rep x G H v t fp) (e : t.dat = some d) : Dp x.K H v d := by
  cases h with
  | s h => exact h.dp s e
  | lst f hf h r => obtain ⟨ds, q, rfl⟩ := dat_lst e; exact .lst (.inl (.inl h)) (r.dp s q)
  | dctK f h r => cases e
  | dctT f h r => cases e
  | obj f hf hp hn ok h e' r nd => cases e
/-! ### ==, != -/
/-- told apart at once -/
def T.rk : T → Nat
  | .non => 1
  | .int _ => 2
  | .bl _ => 3
  | .str _ => 4
  | _ => 0
def scalT (s t : T) : Bool := s.rk != 0 && t.rk != 0 && !(s.rk == 2 && t.rk == 3) && !(s.rk == 3 && t.rk == 2)
theorem dec_sym {α : Type} [DecidableEq α] [BEq α] [LawfulBEq α] {p q : α} : decide (p = q) = (p == q) := by
  by_cases e : p = q
  · subst e; simp
  · rw [decide_eq_false e]; exact (beq_eq_false_iff_ne.mpr e).symm
theorem Rep.scalT {a b : V} {s t : T} {f1 f2 : List Addr} (ra : Rep x G H a s f1) (rb : Rep x G H b t f2) (h : scalT s t = true) : scal a b = true ∧ decide (a = b) = s.eqv t := by
  cases s with
  | non => cases ra.non; cases t with
    | non => cases rb.non; exact ⟨rfl, rfl⟩
    | bl j => cases rb.bl; exact ⟨rfl, rfl⟩
    | int j => cases rb.int; exact ⟨rfl, rfl⟩
    | str j => cases rb.str; exact ⟨rfl, rfl⟩
    | _ => cases h
  | bl i => cases ra.bl; cases t with
    | non => cases rb.non; exact ⟨rfl, rfl⟩
    | bl j => cases rb.bl; exact ⟨rfl, by cases i <;> cases j <;> rfl⟩
    | str j => cases rb.str; exact ⟨rfl, rfl⟩
    | _ => cases h
  | int i => cases ra.int; cases t with
    | non => cases rb.non; exact ⟨rfl, rfl⟩
    | int j => cases rb.int; exact ⟨rfl, dec_int⟩
    | str j => cases rb.str; exact ⟨rfl, rfl⟩
    | _ => cases h
  | str i => cases ra.str; cases t with
    | non => cases rb.non; exact ⟨rfl, rfl⟩
    | bl j => cases rb.bl; exact ⟨rfl, rfl⟩
    | int j => cases rb.int; exact ⟨rfl, rfl⟩
    | str j =>
      cases rb.str
      refine ⟨rfl, ?_⟩
      show decide (V.str i = V.str j) = (i == j)
      by_cases e : i = j
      · subst e; simp
      · rw [decide_eq_false (fun z => e (V.str.inj z))]; exact (beq_eq_false_iff_ne.mpr e).symm
    | _ => cases h
  | _ => cases t <;> cases h
/-- they may be compared -/
def eqOk (s t : T) : Bool := scalT s t || (s.dok 64 && t.dok 64)
def opEq (s t : T) : Res T := if eqOk s t = true then .ok (.bl (s.eqv t)) else .stuck
def opNe (s t : T) : Res T := if eqOk s t = true then .ok (.bl (!s.eqv t)) else .stuck
theorem sem_eq : OpSem x X (compareOp .Eq) opEq := fun ok W tk G H H0 a b s t f1 f2 Q sub ra rb l h pins sh σ v u I rv ru => by
  unfold opEq at h
  split at h
  · rename_i c
    unfold eqOk at c
    rw [Bool.or_eq_true] at c
    rcases c with c | c
    · obtain ⟨c1, c2⟩ := ra.scalT rb c
      rw [← c2] at h
      exact op_eq pins sh σ H _ _ v u Q I rv ru ⟨c1, h.scal sub (.bl _)⟩
    · rw [Bool.and_eq_true] at c
      obtain ⟨d, e1, c1, l1⟩ := dok_dat c.1
      obtain ⟨e, e2, c2, l2⟩ := dok_dat c.2
      rw [← eqv_dat s t d e e1 e2] at h
      exact op_eqD ok.room.units pins sh σ H _ _ v u Q I rv ru ⟨d, e, by rw [ok.K]; exact ra.dp sub e1, by rw [ok.K]; exact rb.dp sub e2, by simp [SeqAt.shaped, c1, l1], by simp [SeqAt.shaped, c2, l2], h.scal sub (.bl _)⟩
  · exact h.elim
theorem sem_ne : OpSem x X (compareOp .NotEq) opNe := fun ok W tk G H H0 a b s t f1 f2 Q sub ra rb l h pins sh σ v u I rv ru => by
  unfold opNe at h
  split at h
  · rename_i c
    unfold eqOk at c
    rw [Bool.or_eq_true] at c
    rcases c with c | c
    · obtain ⟨c1, c2⟩ := ra.scalT rb c
      rw [← c2] at h
      exact op_ne pins sh σ H _ _ v u Q I rv ru ⟨c1, h.scal sub (.bl _)⟩
    · rw [Bool.and_eq_true] at c
      obtain ⟨d, e1, c1, l1⟩ := dok_dat c.1
      obtain ⟨e, e2, c2, l2⟩ := dok_dat c.2
      rw [← eqv_dat s t d e e1 e2] at h
      exact op_neD ok.room.units pins sh σ H _ _ v u Q I rv ru ⟨d, e, by rw [ok.K]; exact ra.dp sub e1, by rw [ok.K]; exact rb.dp sub e2, by simp [SeqAt.shaped, c1, l1], by simp [SeqAt.shaped, c2, l2], h.scal sub (.bl _)⟩
  · exact h.elim
end
end Fn

/-! Fn8: in, truth, tests, subscripts, dicts read. -/
namespace Fn
open PySem PySem.Spec L2
variable [Tbs]
/-! ### in -/
def T.flat : T → Bool
  | .non => true
  | .bl _ => true
  | .int _ => true
  | .str _ => true
  | _ => false
section
variable {x : Tx} {G G' G1 H H' H0 H1 : Hp} {W : XK} {X : Cx} {f : Fl} {fp : List Addr} {v : V}
theorem Rep.flat {t : T} (h : Rep x G H v t fp) (hf : t.flat = true) : flatV v = true ∧ ∀ {u : V} {s : T} {fp' : List Addr}, Rep x G H u s fp' → s.flat = true → eqV u v = s.eqv t := by
  cases t with
  | non => cases h.non; exact ⟨rfl, fun {u s fp'} q hs => by
      cases s with
      | non => cases q.non; rfl
      | bl j => cases q.bl; rfl
      | int j => cases q.int; rfl
      | str j => cases q.str; rfl
      | _ => cases hs⟩
  | bl i => cases h.bl; exact ⟨rfl, fun {u s fp'} q hs => by
      cases s with
      | non => cases q.non; rfl
      | bl j => cases q.bl; rfl
      | int j => cases q.int; rfl
      | str j => cases q.str; rfl
      | _ => cases hs⟩
  | int i => cases h.int; exact ⟨rfl, fun {u s fp'} q hs => by
      cases s with
      | non => cases q.non; rfl
      | bl j => cases q.bl; rfl
      | int j => cases q.int; rfl
      | str j => cases q.str; rfl
      | _ => cases hs⟩
  | str i => cases h.str; exact ⟨rfl, fun {u s fp'} q hs => by
      cases s with
      | non => cases q.non; rfl
      | bl j => cases q.bl; rfl
      | int j => cases q.int; rfl
      | str j => cases q.str; rfl
      | _ => cases hs⟩
  | _ => cases hf
theorem RepsS.inV {a : V} {s : T} (ra : Rep x G H a s fp) (hs : s.flat = true) : ∀ {vs : List V} {ts : List T}, RepsS x G vs ts → ts.all T.flat = true → vs.all flatV = true ∧ L2.inV a vs = ts.any fun z => z.eqv s
  | _, _, .nil, _ => ⟨rfl, rfl⟩
  | _, _, .cons h r, e => by
    rw [List.all_cons, Bool.and_eq_true] at e
    obtain ⟨h1, h2⟩ := RepsS.inV ra hs r e.2
    have q := (ra.flat hs).2 (.s h) e.1
    have q2 := (Rep.flat (H := H) (.s h) e.1).1
    refine ⟨by rw [List.all_cons, q2, h1]; rfl, ?_⟩
    unfold L2.inV at h2 ⊢
    rw [List.any_cons, List.any_cons, q, h2]
/-- the place of a key -/
def dget (kvs : List (T × T)) (s : T) : Option T := (kvs.find? fun p => p.1.eqv s).map (·.2)
def T.isKey : T → Bool
  | .int _ => true
  | .str _ => true
  | _ => false
theorem isKey_kT {s : T} (h : s.isKey = true) : ∃ k : Key, s = kT k := by
  cases s with
  | int i => exact ⟨.inl i, rfl⟩
  | str z => exact ⟨.inr z, rfl⟩
  | _ => cases h
theorem kT_eqv (k l : Key) : (kT k).eqv (kT l) = decide (k = l) := by
  cases k with
  | inl i => cases l with
    | inl j => rw [key_ll]; rfl
    | inr z => rw [key_lr]; rfl
  | inr y => cases l with
    | inl j => rw [key_rl]; rfl
    | inr z =>
      rw [key_rr]
      show (y == z) = decide (y = z)
      by_cases e : y = z
      · subst e; simp
      · rw [decide_eq_false e]; exact beq_eq_false_iff_ne.mpr e
theorem kTs_eqv : ∀ (k l : List Key), eqvs (k.map kT) (l.map kT) = decide (k = l)
  | [], [] => rfl
  | [], _ :: _ => rfl
  | _ :: _, [] => rfl
  | a :: k, b :: l => by
    show ((kT a).eqv (kT b) && eqvs (k.map kT) (l.map kT)) = _
    rw [kT_eqv, kTs_eqv k l]
    by_cases e : a = b
    · by_cases e2 : k = l
      · subst e; subst e2; simp
      · simp [e2]
    · simp [e]
theorem isKeys_kT : ∀ {ts : List T}, ts.all T.isKey = true → ∃ k : List Key, ts = k.map kT
  | [], _ => ⟨[], rfl⟩
  | t :: ts, h => by
    rw [List.all_cons, Bool.and_eq_true] at h
    obtain ⟨k, e⟩ := isKey_kT h.1
    obtain ⟨ks, e2⟩ := isKeys_kT h.2
    exact ⟨k :: ks, by rw [e, e2]; rfl⟩
theorem Rep.kT {k : Key} (h : Rep x G H v (kT k) fp) : v = kV k := by
  cases k with
  | inl i => exact h.int
  | inr z => exact h.str
theorem RepsS.kT : ∀ {k : List Key} {vs : List V}, RepsS x G vs (k.map Fn.kT) → vs = k.map kV
  | [], _, h => by cases h; rfl
  | k :: ks, _, .cons h r => by rw [Rep.kT (H := G) (.s h), RepsS.kT r]; rfl
theorem dget_of {κ : Type} [DecidableEq κ] (g : κ → T) (k : κ) (hk : ∀ l, (g l).eqv (g k) = decide (l = k)) : ∀ {kvs : List (κ × V)} {ts : List T}, RepsS x G (kvs.map (·.2)) ts →
    (∀ t, dget ((kvs.map fun kv => g kv.1).zip ts) (g k) = some t → ∃ v, valV kvs k = some v ∧ RepS x G v t) ∧ (dget ((kvs.map fun kv => g kv.1).zip ts) (g k) = none → valV kvs k = none)
  | [], _, h => ⟨fun t e => (by cases e), fun _ => rfl⟩
  | (l, w) :: kvs, _, .cons (t := t0) h r => by
    obtain ⟨i1, i2⟩ := dget_of g k hk r
    unfold dget valV at i1 i2 ⊢
    simp only [List.map_cons, List.zip_cons_cons, List.find?_cons]
    rw [hk l]
    by_cases e : l = k
    · subst e
      simp only [decide_true, Option.map_some]
      exact ⟨fun t e => by cases e; exact ⟨w, rfl, h⟩, fun e => by cases e⟩
    · simp only [decide_eq_false e]
      exact ⟨i1, i2⟩
/-- the dict as it stands -/
theorem Rep.dctK_inv {kvs : List (T × T)} (s : Sub G H) (h : Rep x G H v (.dct f .k kvs) fp) : ∃ (a : Addr) (ws : List (Key × V)) (ts : List T), v = .ref a ∧ Rd H a (.dK ws) ∧ RepsS x G (ws.map (·.2)) ts ∧ kvs = (ws.map fun kv => Fn.kT kv.1).zip ts := by
  cases h with
  | s h => cases h with | dctK h r => exact ⟨_, _, _, rfl, s.rd h, r, rfl⟩
  | dctK f h r => exact ⟨_, _, _, rfl, h.rd, r, rfl⟩
theorem Rep.dctT_inv {kvs : List (T × T)} (s : Sub G H) (h : Rep x G H v (.dct f .t kvs) fp) : ∃ (a : Addr) (ws : List (List Key × V)) (ts : List T), v = .ref a ∧ Rd H a (.dT ws) ∧ RepsS x G (ws.map (·.2)) ts ∧ kvs = (ws.map fun kv => T.tup (kv.1.map Fn.kT)).zip ts := by
  cases h with
  | s h => cases h with | dctT h r => exact ⟨_, _, _, rfl, s.rd h, r, rfl⟩
  | dctT f h r => exact ⟨_, _, _, rfl, h.rd, r, rfl⟩
/-- the key is one of the dict's kind -/
def keyOk : DK → T → Bool
  | .k, s => s.isKey
  | .t, .tup ss => ss.all T.isKey
  | _, _ => false
/-- what a look finds -/
theorem Rep.dget {a : V} {k : DK} {kvs : List (T × T)} {s : T} {f2 : List Addr} (sub : Sub G H) (h : Rep x G H v (.dct f k kvs) fp) (ra : Rep x G H a s f2) (hk : keyOk k s = true) :
    ∃ p o, v = .ref p ∧ DGet H p a o ∧ (∀ t, dget kvs s = some t → ∃ w, o = some w ∧ RepS x G w t) ∧ (dget kvs s = none → o = none) := by
  cases k with
  | k =>
    obtain ⟨key, rfl⟩ := isKey_kT hk
    obtain ⟨p, ws, ts, rfl, hp, r, rfl⟩ := h.dctK_inv sub
    have e := ra.kT
    subst e
    obtain ⟨i1, i2⟩ := dget_of (x := x) (G := G) Fn.kT key (fun l => kT_eqv l key) r
    exact ⟨p, valV ws key, rfl, .inl ⟨ws, key, hp, rfl, rfl⟩, i1, i2⟩
  | t =>
    cases s with
    | tup ss =>
      obtain ⟨key, rfl⟩ := isKeys_kT hk
      obtain ⟨p, ws, ts, rfl, hp, r, rfl⟩ := h.dctT_inv sub
      obtain ⟨b, vs, rfl, hb, r2⟩ := ra.tup_inv sub
      have e := r2.kT
      subst e
      obtain ⟨i1, i2⟩ := dget_of (x := x) (G := G) (fun k : List Key => T.tup (k.map Fn.kT)) key (fun l => kTs_eqv l key) r
      exact ⟨p, valV ws key, rfl, .inr ⟨ws, key, b, hp, rfl, hb, rfl⟩, i1, i2⟩
    | _ => cases hk
def anyEq (s : T) (xs : List T) : Bool := xs.any fun z => z.eqv s
def opIn : T → T → Res T
  | s, .lst _ xs => if s.flat = true ∧ xs.all T.flat = true then .ok (.bl (anyEq s xs)) else if s.dok 64 = true ∧ doks 63 xs = true then .ok (.bl (anyEq s xs)) else .stuck
  | s, .tup xs => if s.flat = true ∧ xs.all T.flat = true then .ok (.bl (anyEq s xs)) else if s.dok 64 = true ∧ doks 63 xs = true then .ok (.bl (anyEq s xs)) else .stuck
  | s, .ktup xs => if s.flat = true ∧ xs.all T.flat = true then .ok (.bl (anyEq s xs)) else .stuck
  | s, .dct _ k kvs => if keyOk k s = true then .ok (.bl (dget kvs s).isSome) else .stuck
  | .str a, .str b => .ok (.bl (!(Builtin.Str.occurrences b a 0 b.length 1).isEmpty))
  | _, _ => .stuck
def T.neg : T → T
  | .bl b => .bl (!b)
  | t => t
def opNotIn (s t : T) : Res T := (opIn s t).bind fun u => .ok u.neg
theorem any_dat {s : T} {d : PyData} (hs : s.dat = some d) : ∀ {xs : List T} {ds : List PyData}, datAll xs = some ds → (ds.any fun z => PyData.eqv z d) = anyEq s xs
  | [], _, e => by cases e; rfl
  | t :: r, _, e => by
    unfold datAll at e
    split at e
    · rename_i d' ds e1 e2
      cases e
      show (PyData.eqv d' d || ds.any fun z => PyData.eqv z d) = (t.eqv s || anyEq s r)
      rw [eqv_dat t s d' d e1 hs, any_dat hs e2]
    · cases e
open PyProof.Rows in
theorem in_tup_reads {prog : Program} {w : World} {A : Around} {E : Value → Shared → Prop} {s : Shared} {l : Addr} {items : Array Value} {y : Value} {xs : List PyData} {d : PyData} {as bs : List Addr} {Q : Value → Shared → Prop} {neg : Bool} (hl : s.heap.IsTuple l items)
    (rc : ReadsAll s.heap items.toList xs as) (rx : Reads s.heap y d bs) (hxs : PyData.canLayAll0 xs = true) (hd : d.canLay0 = true) (hu : A.units + 1 + min (PyData.depthAll xs) d.depth < cLine)
    (h : Q (.bool (if neg then !xs.any fun z => PyData.eqv z d else xs.any fun z => PyData.eqv z d)) s) : wpAny (model prog w) A (compareOp (if neg then .NotIn else .In) y (.ref l)) Q E s := by
  have q := SeqAt.any_by_data rc hxs (d := d)
  cases neg with
  | false => exact SeqAt.in_tupleAt _ hl (SeqAt.items_eqAt rc rx hxs hd hu) (by rw [q]; exact h)
  | true => exact SeqAt.notIn_tupleAt _ hl (SeqAt.items_eqAt rc rx hxs hd hu) (by rw [q]; exact h)
end
end Fn

/-! Fn9: in, truth, tests, and or not, if else, subscripts. -/
namespace Fn
open PySem PySem.Spec L2
variable [Tbs]
section
variable {x : Tx} {G G' G1 H H' H0 H1 : Hp} {W : XK} {X : Cx} {f : Fl} {fp : List Addr} {v : V} {σ : L2.St}
/-- in (neg: not in), by values -/
theorem sem_in_core (neg : Bool) (ok : XOk x X) {a b : V} {s t : T} {f1 f2 : List Addr} {Q : V → Hp → Prop} (sub : Sub G H) (ra : Rep x G H a s f1) (rb : Rep x G H b t f2) (r : Bool)
    (hr : opIn s t = .ok (.bl r)) (h : Q (.bl (if neg then !r else r)) H) (pins : List (Addr × Obj)) (sh : Shared) (σ : L2.St) (v u : Value) (I : Inv X pins σ H sh) (rv : RelV a v) (ru : RelV b u) :
    wpAny (model X.prog X.w) X.A (compareOp (if neg then .NotIn else .In) v u) (EP X pins σ Q) X.xe sh := by
  have hu := ok.room.units
  have seq : ∀ {p : Addr} {vs : List V} {ts : List T}, b = .ref p → (SqL X.K H p vs ∨ SqT X.K H p vs) → RepsS x G vs ts → s.flat = true → ts.all T.flat = true → r = anyEq s ts → wpAny (model X.prog X.w) X.A (compareOp (if neg then .NotIn else .In) v u) (EP X pins σ Q) X.xe sh := fun {p vs ts} eb hp r2 hs hx er => by
    obtain ⟨e1, e2⟩ := r2.inV ra hs hx
    have h : Q (.bl (if neg then !L2.inV a vs else L2.inV a vs)) H := by rw [e2]; rw [er] at h; exact h
    cases neg with
    | false => exact op_in_seq pins sh σ H _ _ v u Q I rv ru ⟨p, vs, eb, hp, (ra.flat hs).1, e1, h⟩
    | true => exact op_notIn_seq pins sh σ H _ _ v u Q I rv ru ⟨p, vs, eb, hp, (ra.flat hs).1, e1, h⟩
  unfold opIn at hr
  split at hr
  · rename_i f' xs
    obtain ⟨p, vs, rfl, hp, r2⟩ := rb.lst_inv sub
    split at hr
    · rename_i c
      cases hr
      exact seq rfl (.inl (.inl (.inl hp))) r2 c.1 c.2 rfl
    · split at hr
      · rename_i c
        cases hr
        obtain ⟨d, e1, c1, l1⟩ := dok_dat c.1
        obtain ⟨ds, e2, c2, l2⟩ := doks_dat c.2
        rw [← any_dat e1 e2] at h
        have hd : Dp X.K H a d := by rw [ok.K]; exact ra.dp sub e1
        have he : Dp X.K H (.ref p) (.list ds) := by rw [ok.K]; exact .lst (.inl (.inl hp)) (r2.dp sub e2)
        obtain ⟨as, q1⟩ := Dp.reads I d a v hd rv
        obtain ⟨bs, q2⟩ := Dp.reads I (.list ds) (.ref p) u he ru
        have hm : X.A.units + 1 + min (PyData.depthAll ds) d.depth < cLine := by omega
        cases neg with
        | false => exact SeqAt.in_list_reads q2 q1 c2 c1 hm ⟨.bl _, H, I, rfl, h⟩
        | true => exact SeqAt.notIn_list_reads q2 q1 c2 c1 hm ⟨.bl _, H, I, rfl, h⟩
      · cases hr
  · rename_i xs
    obtain ⟨p, vs, rfl, hp, r2⟩ := rb.tup_inv sub
    split at hr
    · rename_i c
      cases hr
      exact seq rfl (.inr (.inl (.inl hp))) r2 c.1 c.2 rfl
    · split at hr
      · rename_i c
        cases hr
        obtain ⟨d, e1, c1, l1⟩ := dok_dat c.1
        obtain ⟨ds, e2, c2, l2⟩ := doks_dat c.2
        rw [← any_dat e1 e2] at h
        have hd : Dp X.K H a d := by rw [ok.K]; exact ra.dp sub e1
        obtain ⟨as, q1⟩ := Dp.reads I d a v hd rv
        obtain ⟨its, rr, ht, hz⟩ := I.tuple (.inl (.inl hp))
        obtain ⟨bs, q2⟩ := Dp.readsAll I ds vs its (by rw [ok.K]; exact r2.dp sub e2) rr
        have hm : X.A.units + 1 + min (PyData.depthAll ds) d.depth < cLine := by omega
        obtain rfl : u = .ref p := ru
        exact in_tup_reads (neg := neg) ht (by simpa using q2) q1 c2 c1 hm ⟨.bl _, H, I, rfl, h⟩
      · cases hr
  · rename_i xs
    obtain ⟨p, vs, rfl, hp, r2⟩ := rb.ktup_inv
    split at hr
    · rename_i c
      cases hr
      exact seq rfl (.inr (by rw [ok.K]; exact hp)) r2 c.1 c.2 rfl
    · cases hr
  · rename_i f' k kvs
    split at hr
    · rename_i c
      cases hr
      obtain ⟨p, o, rfl, g, i1, i2⟩ := rb.dget sub ra c
      have e : o.isSome = (dget kvs s).isSome := by
        cases q : dget kvs s with
        | none => rw [i2 q]; rfl
        | some t => obtain ⟨w, e, _⟩ := i1 t q; rw [e]; rfl
      rw [← e] at h
      obtain rfl : u = .ref p := ru
      have hu1 : X.A.units + 1 < cLine := by omega
      cases neg with
      | false => exact d_in hu1 I g rv fun s3 I3 => ⟨.bl o.isSome, H, I3, rfl, h⟩
      | true => exact d_notIn hu1 I g rv fun s3 I3 => ⟨.bl (!o.isSome), H, I3, rfl, h⟩
    · cases hr
  · cases ra.str; cases rb.str
    cases hr
    cases neg with
    | false => exact op_in_str pins sh σ H _ _ v u Q I rv ru ⟨_, _, rfl, rfl, h⟩
    | true => exact L2.op_notin_str pins sh σ H _ _ v u Q I rv ru ⟨_, _, rfl, rfl, h⟩
  · cases hr
theorem opIn_bl (s t : T) : (∃ r, opIn s t = .ok (.bl r)) ∨ opIn s t = .stuck := by
  unfold opIn
  split
  · split
    · exact .inl ⟨_, rfl⟩
    · split
      · exact .inl ⟨_, rfl⟩
      · exact .inr rfl
  · split
    · exact .inl ⟨_, rfl⟩
    · split
      · exact .inl ⟨_, rfl⟩
      · exact .inr rfl
  · split
    · exact .inl ⟨_, rfl⟩
    · exact .inr rfl
  · split
    · exact .inl ⟨_, rfl⟩
    · exact .inr rfl
  · exact .inl ⟨_, rfl⟩
  · exact .inr rfl
theorem sem_in : OpSem x X (compareOp .In) opIn := fun ok W tk G H H0 a b s t f1 f2 Q sub ra rb l h pins sh σ v u I rv ru => by
  rcases opIn_bl s t with ⟨r, e⟩ | e
  · rw [e] at h
    exact sem_in_core false ok sub ra rb r e (h.scal sub (.bl _)) pins sh σ v u I rv ru
  · rw [e] at h; exact h.elim
theorem sem_notIn : OpSem x X (compareOp .NotIn) opNotIn := fun ok W tk G H H0 a b s t f1 f2 Q sub ra rb l h pins sh σ v u I rv ru => by
  unfold opNotIn at h
  rcases opIn_bl s t with ⟨r, e⟩ | e
  · rw [e] at h
    exact sem_in_core true ok sub ra rb r e (Pst.scal h sub (.bl _)) pins sh σ v u I rv ru
  · rw [e] at h; exact h.elim

/-! ### truth -/
def T.tru : T → Res Bool
  | .non => .ok false
  | .bl b => .ok b
  | .int i => .ok (i != 0)
  | .str z => if z.length ≤ 10000000 then .ok (z.length != 0) else .stuck
  | .tup xs => .ok (!xs.isEmpty)
  | .lst _ xs => .ok (!xs.isEmpty)
  | _ => .stuck
theorem isEmpty_reps {vs : List V} {ts : List T} (r : RepsS x G vs ts) : (!vs.isEmpty) = !ts.isEmpty := by cases r <;> rfl
theorem Rep.tru {t : T} {b : Bool} (sub : Sub G H) (h : Rep x G H v t fp) (e : t.tru = .ok b) : TruV x.K v H b := by
  cases t with
  | non => cases h.non; cases e; rfl
  | bl i => cases h.bl; cases e; rfl
  | int i => cases h.int; cases e; rfl
  | str z =>
    cases h.str
    have e : (if z.length ≤ 10000000 then Res.ok (z.length != 0) else .stuck) = .ok b := e
    split at e
    · rename_i hl
      cases e
      refine ⟨sz_of hl, ?_⟩
      by_cases q : z.length = 0
      · rw [q]; rfl
      · have q1 : (z.length != 0) = true := bne_iff_ne.mpr q
        have q2 : ((z.length : Int) != 0) = true := bne_iff_ne.mpr (by omega)
        rw [q1, q2]
    · cases e
  | tup xs =>
    obtain ⟨p, vs, rfl, hp, r⟩ := h.tup_inv sub
    cases e
    exact .inr (.inl ⟨vs, .inl (.inl hp), (isEmpty_reps r).symm⟩)
  | lst f xs =>
    obtain ⟨p, vs, rfl, hp, r⟩ := h.lst_inv sub
    cases e
    exact .inl ⟨vs, .inl (.inl hp), (isEmpty_reps r).symm⟩
  | _ => cases e
def dTest (f : Env → Res T) : Env → Res Bool := fun ρ => (f ρ).bind T.tru
theorem tru_res (t : T) : (∃ b, t.tru = .ok b) ∨ t.tru = .stuck := by
  unfold T.tru
  split <;> first | exact .inl ⟨_, rfl⟩ | exact .inr rfl | (split <;> first | exact .inl ⟨_, rfl⟩ | exact .inr rfl)
theorem pt_of {e : Expr} {f : Env → Res T} (h : P x X e f) (he : ∀ whole, isTrue e X.env whole = (do let v ← whole; standAt e.pos; holding [v] (truthy v)) := by intro _; rfl) : PTe x X e (dTest f) :=
  ⟨fun ok W tk => pt_imp (pt_truth (h.run ok W tk) he) fun σ H Q ⟨β, φ, G, ρ, E, h⟩ => ⟨β, φ, G, ρ, E, Pst.bind h fun t G1 H1 s1 h1 v1 f1 r1 n1 d1 => by
    rcases tru_res t with ⟨b, e⟩ | e
    · rw [e] at h1
      exact ⟨b, by rw [ok.K]; exact r1.tru s1.sub e, h1 G1 H1 s1⟩
    · rw [e] at h1; exact h1.elim⟩⟩
def dAndT (f g : Env → Res Bool) : Env → Res Bool := fun ρ => (f ρ).bind fun b => if b = true then g ρ else .ok false
def dOrT (f g : Env → Res Bool) : Env → Res Bool := fun ρ => (f ρ).bind fun b => if b = true then .ok true else g ρ
def dNotT (f : Env → Res Bool) : Env → Res Bool := fun ρ => (f ρ).bind fun b => .ok (!b)
/-- tests whatever their whole is -/
structure PWe (x : Tx) (X : Cx) (e : Expr) (f : Env → Res Bool) : Prop where
  run : XOk x X → ∀ W : XK, Takes X (fun c d _ H => W c d H) → PW X e (tPT x W f)
theorem pw_imp {e : Expr} {t t' : TT} (h : PW X e t) (i : ∀ σ H Q, t' σ H Q → t σ H Q) : PW X e t' := ⟨fun whole pins s σ H Q I q => h.run whole pins s σ H Q I (i _ _ _ q)⟩
theorem PWe.pt {e : Expr} {f : Env → Res Bool} (h : PWe x X e f) : PTe x X e f := ⟨fun ok W tk => (h.run ok W tk).pt⟩
theorem pt_and {a b : Expr} {rest : List Expr} {f g : Env → Res Bool} {pos : Pos} (h : PTe x X a f) (q : PWe x X (.BoolOp .And (b :: rest) pos) g) : PWe x X (.BoolOp .And (a :: b :: rest) pos) (dAndT f g) :=
  ⟨fun ok W tk => pw_imp (pw_and (h.run ok W tk) (q.run ok W tk)) fun σ H Q ⟨β, φ, G, ρ, E, h⟩ => ⟨β, φ, G, ρ, E, Pst.bind h fun t G1 H1 s1 h1 => by
    cases t with
    | true => exact ⟨β, φ, G1, ρ, E.step s1, h1.later s1⟩
    | false => exact h1 G1 H1 s1⟩⟩
theorem pt_and1 {a : Expr} {f : Env → Res Bool} {pos : Pos} (h : PTe x X a f) : PWe x X (.BoolOp .And [a] pos) f := ⟨fun ok W tk => pw_and1 (h.run ok W tk)⟩
theorem pt_or {a b : Expr} {rest : List Expr} {f g : Env → Res Bool} {pos : Pos} (h : PTe x X a f) (q : PWe x X (.BoolOp .Or (b :: rest) pos) g) : PWe x X (.BoolOp .Or (a :: b :: rest) pos) (dOrT f g) :=
  ⟨fun ok W tk => pw_imp (pw_or (h.run ok W tk) (q.run ok W tk)) fun σ H Q ⟨β, φ, G, ρ, E, h⟩ => ⟨β, φ, G, ρ, E, Pst.bind h fun t G1 H1 s1 h1 => by
    cases t with
    | true => exact h1 G1 H1 s1
    | false => exact ⟨β, φ, G1, ρ, E.step s1, h1.later s1⟩⟩⟩
theorem pt_or1 {a : Expr} {f : Env → Res Bool} {pos : Pos} (h : PTe x X a f) : PWe x X (.BoolOp .Or [a] pos) f := ⟨fun ok W tk => pw_or1 (h.run ok W tk)⟩
theorem pt_no {a : Expr} {f : Env → Res Bool} {pos : Pos} (h : PTe x X a f) : PTe x X (.UnaryOp .Not a pos) (dNotT f) :=
  ⟨fun ok W tk => pt_imp (pt_not (h.run ok W tk)) fun σ H Q ⟨β, φ, G, ρ, E, h⟩ => ⟨β, φ, G, ρ, E, Pst.bind h fun t G1 H1 s1 h1 => h1 G1 H1 s1⟩⟩
/-! ### and, or, not as values; if else -/
def dAnd (f g : Env → Res T) : Env → Res T := fun ρ => (f ρ).bind fun t => t.tru.bind fun b => if b = true then g ρ else .ok t
def dOr (f g : Env → Res T) : Env → Res T := fun ρ => (f ρ).bind fun t => t.tru.bind fun b => if b = true then .ok t else g ρ
def dNot (f : Env → Res T) : Env → Res T := fun ρ => (f ρ).bind fun t => t.tru.bind fun b => .ok (.bl (!b))
theorem p_and {a b : Expr} {rest : List Expr} {f g : Env → Res T} {pos : Pos} (h : P x X a f) (q : P x X (.BoolOp .And (b :: rest) pos) g) : P x X (.BoolOp .And (a :: b :: rest) pos) (dAnd f g) :=
  ⟨fun ok W tk => pe_imp (pe_andT (h.run ok W tk) (q.run ok W tk)) fun σ H Q ⟨β, φ, G, ρ, E, h⟩ => ⟨β, φ, G, ρ, E, Pst.bind h fun t G1 H1 s1 h1 v1 f1 r1 n1 d1 => by
    rcases tru_res t with ⟨b, e⟩ | e
    · rw [e] at h1
      refine ⟨b, by rw [ok.K]; exact r1.tru s1.sub e, ?_⟩
      cases b with
      | true => exact ⟨β, φ, G1, ρ, E.step s1, (Pst.later h1 s1).imp fun t G' H' s m => m.mono fun a z => s1.ext.back z⟩
      | false => exact h1 G1 H1 s1 v1 f1 r1 n1 d1
    · rw [e] at h1; exact h1.elim⟩⟩
theorem p_or {a b : Expr} {rest : List Expr} {f g : Env → Res T} {pos : Pos} (h : P x X a f) (q : P x X (.BoolOp .Or (b :: rest) pos) g) : P x X (.BoolOp .Or (a :: b :: rest) pos) (dOr f g) :=
  ⟨fun ok W tk => pe_imp (pe_orT (h.run ok W tk) (q.run ok W tk)) fun σ H Q ⟨β, φ, G, ρ, E, h⟩ => ⟨β, φ, G, ρ, E, Pst.bind h fun t G1 H1 s1 h1 v1 f1 r1 n1 d1 => by
    rcases tru_res t with ⟨b, e⟩ | e
    · rw [e] at h1
      refine ⟨b, by rw [ok.K]; exact r1.tru s1.sub e, ?_⟩
      cases b with
      | false => exact ⟨β, φ, G1, ρ, E.step s1, (Pst.later h1 s1).imp fun t G' H' s m => m.mono fun a z => s1.ext.back z⟩
      | true => exact h1 G1 H1 s1 v1 f1 r1 n1 d1
    · rw [e] at h1; exact h1.elim⟩⟩
theorem p_bool1 {op : BoolOp} {a : Expr} {f : Env → Res T} {pos : Pos} (h : P x X a f) : P x X (.BoolOp op [a] pos) f := ⟨fun ok W tk => pe_one (h.run ok W tk)⟩
theorem p_not {a : Expr} {f : Env → Res T} {pos : Pos} (h : P x X a f) : P x X (.UnaryOp .Not a pos) (dNot f) :=
  ⟨fun ok W tk => pe_imp (pe_notT (h.run ok W tk)) fun σ H Q ⟨β, φ, G, ρ, E, h⟩ => ⟨β, φ, G, ρ, E, Pst.bind h fun t G1 H1 s1 h1 v1 f1 r1 n1 d1 => by
    rcases tru_res t with ⟨b, e⟩ | e
    · rw [e] at h1
      exact ⟨b, by rw [ok.K]; exact r1.tru s1.sub e, (Pst.later h1 s1).scal s1.sub (.bl _)⟩
    · rw [e] at h1; exact h1.elim⟩⟩
def dNeg (f : Env → Res T) : Env → Res T := fun ρ => (f ρ).bind fun t => match t with | .int i => .ok (.int (-i)) | _ => .stuck
theorem p_neg {a : Expr} {f : Env → Res T} {pos : Pos} (h : P x X a f) : P x X (.UnaryOp .USub a pos) (dNeg f) :=
  ⟨fun ok W tk => pe_imp (pe_un un_neg (h.run ok W tk)) fun σ H Q ⟨β, φ, G, ρ, E, h⟩ => ⟨β, φ, G, ρ, E, Pst.bind h fun t G1 H1 s1 h1 v1 f1 r1 n1 d1 => by
    cases t with
    | int i => cases r1.int; exact ⟨i, rfl, (Pst.later h1 s1).scal s1.sub (.int _)⟩
    | _ => exact h1.elim⟩⟩
def dIf (c : Env → Res Bool) (f g : Env → Res T) : Env → Res T := fun ρ => (c ρ).bind fun b => if b = true then f ρ else g ρ
theorem p_if {c a b : Expr} {fc : Env → Res Bool} {f g : Env → Res T} {pos : Pos} (hc : PTe x X c fc) (ha : P x X a f) (hb : P x X b g) : P x X (.IfExp c a b pos) (dIf fc f g) :=
  ⟨fun ok W tk => pe_imp (pe_ifExp (hc.run ok W tk) (ha.run ok W tk) (hb.run ok W tk)) fun σ H Q ⟨β, φ, G, ρ, E, h⟩ => ⟨β, φ, G, ρ, E, Pst.bind h fun t G1 H1 s1 h1 => by
    cases t with
    | true => exact ⟨β, φ, G1, ρ, E.step s1, (Pst.later h1 s1).imp fun t G' H' s m => m.mono fun a z => s1.ext.back z⟩
    | false => exact ⟨β, φ, G1, ρ, E.step s1, (Pst.later h1 s1).imp fun t G' H' s m => m.mono fun a z => s1.ext.back z⟩⟩⟩
end
end Fn

/-! Fn10: subscripts, slices, attributes, displays. -/
namespace Fn
open PySem PySem.Spec L2
variable [Tbs]
section
variable {x : Tx} {G G' G1 H H' H0 H1 : Hp} {W : XK} {X : Cx} {f : Fl} {fp : List Addr} {v : V} {σ : L2.St}
/-! ### a[b] -/
theorem atI_reps {vs : List V} {ts : List T} (r : RepsS x G vs ts) {i : Int} {t : T} (h : atI ts i = some t) : ∃ w, atI vs i = some w ∧ RepS x G w t := by
  unfold atI at h ⊢
  rw [← r.length] at h
  cases e : ixN vs.length i with
  | none => rw [e] at h; cases h
  | some j => rw [e] at h; exact r.get' h
theorem atI_map {α β : Type} (g : α → β) (xs : List α) (i : Int) : atI (xs.map g) i = (atI xs i).map g := by
  unfold atI
  rw [List.length_map]
  cases ixN xs.length i with
  | none => rfl
  | some j => show (xs.map g)[j]? = _; rw [List.getElem?_map]; rfl
def opIx : T → T → Res T
  | .tup xs, .int i => match atI xs i with | some t => .ok t | none => .stuck
  | .ktup xs, .int i => match atI xs i with | some t => .ok t | none => .stuck
  | .lst _ xs, .int i => match atI xs i with | some t => .ok t | none => .stuck
  | .scr ns, .int i => match atI ns i with | some n => .ok (.int n) | none => .stuck
  | .str z, .int i => if z.length ≤ 10000000 then match atI z.cps.toList i with | some c => .ok (.str ⟨#[c]⟩) | none => .stuck else .stuck
  | .dct _ k kvs, s => if keyOk k s = true then match dget kvs s with | some t => .ok t | none => .stuck else .stuck
  | _, _ => .stuck
def rIxTop (X : Cx) : R2 := fun a b H Q => ∀ (value slice : Expr) (pins : List (Addr × Obj)) (s : Shared) (σ : L2.St) (v u : Value), Inv X pins σ H s → RelV a v → RelV b u →
  subscripted slice false v u = operate [v, u] (getItem v u) → wpAny (model X.prog X.w) X.A (PyProof.Rows.subscriptTail value slice v u) (EP X pins σ Q) X.xe s
theorem ix_top : IxR X (rIxTop X) := fun value slice pins s σ H a b v u Q I ra rb h hs => h value slice pins s σ v u I ra rb hs
theorem ix_sem (ok : XOk x X) {a b : V} {s t : T} {f1 f2 : List Addr} {Q : V → Hp → Prop} (sub : Sub G H) (ra : Rep x G H a s f1) (rb : Rep x G H b t f2) (h : Pst x W G H (opIx s t) (Made x H0 Q)) : rIxTop X a b H Q := fun value slice pins sh σ v u I rv ru hs => by
  unfold opIx at h
  split at h
  · obtain ⟨p, vs, rfl, hp, r⟩ := ra.tup_inv sub
    cases rb.int
    split at h
    · rename_i t e
      obtain ⟨w, e2, r2⟩ := atI_reps r e
      exact ix_tup value slice pins sh σ H _ _ v u Q I rv ru ⟨p, vs, _, w, rfl, rfl, .inl (.inl hp), e2, h.scal sub r2⟩ hs
    · exact h.elim
  · obtain ⟨p, vs, rfl, hp, r⟩ := ra.ktup_inv
    cases rb.int
    split at h
    · rename_i t e
      obtain ⟨w, e2, r2⟩ := atI_reps r e
      exact ix_tup value slice pins sh σ H _ _ v u Q I rv ru ⟨p, vs, _, w, rfl, rfl, by rw [ok.K]; exact hp, e2, h.scal sub r2⟩ hs
    · exact h.elim
  · obtain ⟨p, vs, rfl, hp, r⟩ := ra.lst_inv sub
    cases rb.int
    split at h
    · rename_i t e
      obtain ⟨w, e2, r2⟩ := atI_reps r e
      exact ix_list value slice pins sh σ H _ _ v u Q I rv ru ⟨p, vs, _, w, rfl, rfl, .inl (.inl hp), e2, h.scal sub r2⟩ hs
    · exact h.elim
  · obtain ⟨p, rfl, hp⟩ := ra.scr_inv sub
    cases rb.int
    split at h
    · rename_i t e
      exact ix_list value slice pins sh σ H _ _ v u Q I rv ru ⟨p, _, _, .int t, rfl, rfl, by rw [ok.K]; exact hp, by rw [atI_map, e]; rfl, h.scal sub (.int _)⟩ hs
    · exact h.elim
  · cases ra.str
    cases rb.int
    split at h
    · rename_i hl
      split at h
      · rename_i c e
        exact ix_str value slice pins sh σ H _ _ v u Q I rv ru ⟨_, _, c, rfl, rfl, sz_of hl, e, h.scal sub (.str _)⟩ hs
      · exact h.elim
    · exact h.elim
  · split at h
    · rename_i c
      split at h
      · rename_i t e
        obtain ⟨p, o, rfl, g, i1, i2⟩ := ra.dget sub rb c
        obtain ⟨w, e2, r2⟩ := i1 t e
        subst e2
        obtain rfl : v = .ref p := rv
        have hu1 : X.A.units + 1 < cLine := by have := ok.room.units; omega
        exact PyProof.Rows.tail_any (dict_typeIs I g) PySem.F.slot_dict_getitem.lookup (d_getItem hu1 I g ru fun w' s3 I3 rw' => ⟨w, H, I3, rw', h.scal sub r2⟩) hs
      · exact h.elim
    · exact h.elim
  · exact h.elim
def dIx : (Env → Res T) → (Env → Res T) → Env → Res T := dOp opIx
theorem p_ix {a b : Expr} {fa fb : Env → Res T} {pos : Pos} (ha : P x X a fa) (hb : P x X b fb) (hs : PlainIx b) : P x X (.Subscript a b pos) (dIx fa fb) :=
  ⟨fun ok W tk => pe_imp (pe_ix ix_top (ha.run ok W tk) (hb.run ok W tk) hs) fun σ H Q ⟨β, φ, G, ρ, E, h⟩ => ⟨β, φ, G, ρ, E, Pst.bind h fun s G1 H1 s1 h1 v1 f1 r1 n1 d1 => ⟨β, φ, G1, ρ, E.step s1, Pst.bind (h1.later s1) fun t G2 H2 s2 h2 v2 f2 r2 n2 d2 =>
    ix_sem ok s2.sub (r1.step s2) r2 (h2.later s2)⟩⟩⟩
/-! ### a[lo:hi] -/
structure POt (x : Tx) (X : Cx) (o : Option Expr) (f : Env → Res (Option Int)) : Prop where
  run : XOk x X → ∀ W : XK, Takes X (fun c d _ H => W c d H) → PO X o (fun σ H Q => ∃ β φ G ρ, ER x β φ G H σ ρ ∧ Pst x W G H (f ρ) (fun i _ H' => Q i H'))
theorem po_imp {e : Option Expr} {t t' : TO} (h : PO X e t) (i : ∀ σ H Q, t' σ H Q → t σ H Q) : PO X e t' := ⟨fun pins s σ H Q I q => h.run pins s σ H Q I (i _ _ _ q)⟩
def dNoPart : Env → Res (Option Int) := fun _ => .ok none
def dPart (f : Env → Res T) : Env → Res (Option Int) := fun ρ => (f ρ).bind fun t => match t with | .int i => .ok (some i) | _ => .stuck
theorem pot_none : POt x X none dNoPart := ⟨fun ok W tk => po_imp po_none fun σ H Q ⟨β, φ, G, ρ, E, h⟩ => h.now E.sub⟩
theorem pot_some {e : Expr} {f : Env → Res T} (h : P x X e f) : POt x X (some e) (dPart f) := ⟨fun ok W tk => po_imp (po_some (h.run ok W tk)) fun σ H Q ⟨β, φ, G, ρ, E, h⟩ => ⟨β, φ, G, ρ, E, Pst.bind h fun t G1 H1 s1 h1 v1 f1 r1 n1 d1 => by
  cases t with
  | int i => cases r1.int; exact ⟨i, rfl, h1 G1 H1 s1⟩
  | _ => exact h1.elim⟩⟩
def cutT {α : Type} (xs : List α) (lo hi : Option Int) : List α := (xs.drop (HT.sIx xs.length 0 lo)).take (HT.sIx xs.length xs.length hi - HT.sIx xs.length 0 lo)
theorem RepsS.cut {vs : List V} {ts : List T} (r : RepsS x G vs ts) (lo hi : Option Int) : RepsS x G (cutV vs lo hi) (cutT ts lo hi) := by
  unfold cutV cutT
  rw [r.length]
  exact (r.drop _).take _
def opSl (t : T) (lo hi : Option Int) : Res T := match t with
  | .lst _ xs => .ok (.lst .ow (cutT xs lo hi))
  | .tup xs => .ok (.tup (cutT xs lo hi))
  | .str z => if z.length ≤ 10000000 then .ok (.str (cutS z lo hi)) else .stuck
  | _ => .stuck
def rSlTop (X : Cx) : V → Option Int → Option Int → Hp → VK → Prop := fun a lo hi H Q => ∀ (pins : List (Addr × Obj)) (s : Shared) (σ : L2.St) (v vl vu : Value) (sl : Addr), Inv X pins σ H s → RelV a v → s.heap.IsSliceOf sl vl vu .none → IsPart vl lo → IsPart vu hi → ∃ T id, typeLookup (.type T) "__getitem__" = pure (some (.builtin id)) ∧ s.TypeIs v T ∧ wpAny (model X.prog X.w) X.A (getItem v (.ref sl)) (EP X pins σ Q) X.xe s
theorem sl_top : SlR X (rSlTop X) := fun pins s σ H a v vl vu lo hi sl Q I r h1 h2 h3 h => h pins s σ v vl vu sl I r h1 h2 h3
theorem sl_sem (ok : XOk x X) {a : V} {s : T} {f1 : List Addr} {Q : V → Hp → Prop} {lo hi : Option Int} (sub : Sub G H) (ra : Rep x G H a s f1) (l : ∀ a, Vac H a → Vac H0 a) (h : Pst x W G H (opSl s lo hi) (Made x H0 Q)) : rSlTop X a lo hi H Q := fun pins sh σ v vl vu sl I rv h1 h2 h3 => by
  cases s with
  | lst f xs =>
    obtain ⟨p, vs, rfl, hp, r⟩ := ra.lst_inv sub
    exact sl_list pins sh σ H _ v vl vu lo hi sl Q I rv h1 h2 h3 ⟨p, vs, rfl, .inl (.inl hp), Pst.newLst h sub (r.cut lo hi) l⟩
  | tup xs =>
    obtain ⟨p, vs, rfl, hp, r⟩ := ra.tup_inv sub
    refine sl_tupA pins sh σ H _ v vl vu lo hi sl Q I rv h1 h2 h3 ⟨p, vs, rfl, .inl (.inl hp), fun e => ?_, fun _ => Pst.newTup h sub (r.cut lo hi)⟩
    have e2 : cutT xs lo hi = xs := by
      unfold cutT
      rw [← r.length, e.1, e.2, r.length]
      simp
    have h : Pst x W G H (.ok (.tup (cutT xs lo hi))) (Made x H0 Q) := h
    rw [e2] at h
    cases ra with | s ra => exact h.scal sub ra
  | str z =>
    cases ra.str
    have h : Pst x W G H (if z.length ≤ 10000000 then .ok (.str (cutS z lo hi)) else .stuck) (Made x H0 Q) := h
    split at h
    · rename_i hl
      exact sl_str pins sh σ H _ v vl vu lo hi sl Q I rv h1 h2 h3 ⟨z, rfl, sz_of hl, h.scal sub (.str _)⟩
    · exact h.elim
  | _ => exact h.elim
def dSl (f : Env → Res T) (lo hi : Env → Res (Option Int)) : Env → Res T := fun ρ => (f ρ).bind fun t => (lo ρ).bind fun l => (hi ρ).bind fun u => opSl t l u
theorem p_sl {a : Expr} {lo hi : Option Expr} {f : Env → Res T} {fl fh : Env → Res (Option Int)} {pos p2 : Pos} (ha : P x X a f) (hl : POt x X lo fl) (hh : POt x X hi fh) : P x X (.Subscript a (.Slice lo hi none p2) pos) (dSl f fl fh) :=
  ⟨fun ok W tk => pe_imp (pe_slice sl_top (ha.run ok W tk) (hl.run ok W tk) (hh.run ok W tk)) fun σ H Q ⟨β, φ, G, ρ, E, h⟩ => ⟨β, φ, G, ρ, E, Pst.bind h fun s G1 H1 s1 h1 v1 f1 r1 n1 d1 => ⟨β, φ, G1, ρ, E.step s1, Pst.bind (h1.later s1) fun t G2 H2 s2 h2 =>
    ⟨β, φ, G2, ρ, (E.step s1).step s2, Pst.bind (h2.later s2) fun u G3 H3 s3 h3 => sl_sem ok s3.sub ((r1.step s2).step s3) (fun a z => s1.ext.back (s2.ext.back (s3.ext.back z))) (h3.later s3)⟩⟩⟩⟩

/-! ### attributes -/
theorem lookup_at : ∀ {ns : List Str} {fs : List (Str × V)} {i : Nat} {n : Str} {v : V}, fs.map (·.1) = ns → ns.Nodup → ns[i]? = some n → (fs.map (·.2))[i]? = some v → fs.lookup n = some v
  | ns, [], i, n, v, e, _, _, h => by simp at h
  | ns, (m, w) :: fs, 0, n, v, e, nd, h1, h2 => by
    subst e
    simp at h1 h2
    subst h1; subst h2
    simp
  | ns, (m, w) :: fs, i + 1, n, v, e, nd, h1, h2 => by
    subst e
    rw [List.map_cons] at h1 h2 nd
    have h1 : (fs.map (·.1))[i]? = some n := by simpa using h1
    have h2 : (fs.map (·.2))[i]? = some v := by simpa using h2
    have ne : n ≠ m := fun z => (List.nodup_cons.mp nd).1 (by rw [← z]; exact List.mem_of_getElem? h1)
    rw [List.lookup_cons]
    have : (n == m) = false := by simpa using ne
    rw [this]
    exact lookup_at rfl (List.nodup_cons.mp nd).2 h1 h2
theorem Reps.get : ∀ {vs : List V} {ts : List T} {fp : List Addr}, Reps x G H vs ts fp → ∀ {i : Nat} {t : T}, ts[i]? = some t → ∃ v f, vs[i]? = some v ∧ Rep x G H v t f ∧ ∀ a ∈ f, a ∈ fp
  | _, _, _, .nil, i, t, e => by simp at e
  | _, _, _, .cons (f1 := f1) (f2 := f2) h r, 0, t, e => by simp at e; subst e; exact ⟨_, f1, rfl, h, fun a ha => List.mem_append_left _ ha⟩
  | _, _, _, .cons (f1 := f1) (f2 := f2) h r, i + 1, t, e => by
    obtain ⟨v, f, e1, r1, k⟩ := Reps.get r (i := i) (t := t) (by simpa using e)
    exact ⟨v, f, by simpa using e1, r1, fun a ha => List.mem_append_right _ (k a ha)⟩
/-- the place of an attribute by the class -/
def opFld (ix : Nat → Option Nat) : T → Res T
  | .obj f c ts => match ix c with
    | some i => match ts[i]? with
      | some t => if f = .ow then .stuck else .ok t
      | none => .stuck
    | none => .stuck
  | _ => .stuck
def dFld (ix : Nat → Option Nat) (f : Env → Res T) : Env → Res T := fun ρ => (f ρ).bind (opFld ix)
theorem p_fld {o : Expr} {fo : Env → Res T} {n : Str} {pos : Pos} (ix : Nat → Option Nat) (h : P x X o fo) (hi : ∀ c i, ix c = some i → (x.fl c)[i]? = some n) (hb : attributeBase o n X.env (eval o X.env) = eval o X.env := by rfl) : P x X (.Attribute o n pos) (dFld ix fo) :=
  ⟨fun ok W tk => pe_imp (pe_fld (h.run ok W tk) hb) fun σ H Q ⟨β, φ, G, ρ, E, h⟩ => ⟨β, φ, G, ρ, E, Pst.bind h fun s G1 H1 s1 h1 v1 f1 r1 n1 d1 => by
    unfold opFld at h1
    cases s with
    | obj fl c ts =>
      simp only at h1
      split at h1
      · rename_i i e1
        split at h1
        · rename_i t e2
          have fin : ∀ {a dx : Addr} {fs : List (Str × V)} {w : V}, ObjC x c → H1 a = some (.ins (x.ca c) dx fs) → fs.map (·.1) = (x.fl c).take ts.length → (fs.map (·.2))[i]? = some w → Q w H1 →
              ∃ a' C dx fs v, V.ref a = .ref a' ∧ H1 a' = some (.ins C dx fs) ∧ Cls X.K C ∧ NoAttr X.K C n ∧ fs.lookup n = some v ∧ Q v H1 := fun {a dx fs w} k ha e hw hq => by
            have hi' := hi c i e1
            have hlt : i < ts.length := (List.getElem?_eq_some_iff.mp e2).1
            exact ⟨a, _, dx, fs, w, rfl, ha, by rw [ok.K]; exact k.cls, by rw [ok.K]; exact k.no n (List.mem_of_getElem? hi'), lookup_at e (k.nd.sublist (List.take_sublist _ _)) (by rw [List.getElem?_take_of_lt hlt]; exact hi') hw, hq⟩
          split at h1
          · exact h1.elim
          · rename_i nf
            cases r1 with
            | s r =>
              cases r with
              | obj k ha e r =>
                obtain ⟨w, e3, r3⟩ := r.get' e2
                exact fin k (s1.sub.at ha id) e e3 ((h1.later s1).scal s1.sub r3)
            | obj fl hf hp hn k ha e r nd =>
              obtain ⟨w, f, e3, r3, m⟩ := r.get e2
              have hpk : fl = .pk := by cases fl <;> first | rfl | exact absurd rfl hf.1 | exact absurd rfl hf.2 | exact absurd rfl nf
              have : f = [] := by
                have z := hp hpk
                cases f with
                | nil => rfl
                | cons b f => rw [z] at m; exact absurd (m b List.mem_cons_self) (by simp)
              subst this
              exact fin k ha e e3 ((h1.later s1).now s1.sub w [] r3 .nil fun _ z => by cases z)
        · exact h1.elim
      · exact h1.elim
    | _ => exact h1.elim⟩⟩

/-! ### displays -/
/-- what is put into a new object is shared -/
theorem shareA {vs : List V} {ts ts' : List T} {fp : List Addr} (s : Stp No G H G1 H1) (r : Reps x G1 H1 vs ts fp) (fr : ∀ a ∈ fp, Vac H a ∧ G1 a = none) (e : frzs ts = some ts') : ∃ G2, Stp No G H G2 H1 ∧ RepsS x G2 vs ts' :=
  ⟨add G1 H1 fp, s.share r.there fun a ha => ⟨.inl (fr a ha).1, (fr a ha).2⟩, r.frzs (fun a ha => (fr a ha).2) e⟩
theorem frzs_length : ∀ {ts ts' : List T}, frzs ts = some ts' → ts'.length = ts.length
  | [], _, e => by cases e; rfl
  | t :: r, _, e => by
    unfold frzs at e
    split at e
    · rename_i t' r' e1 e2
      cases e
      rw [List.length_cons, List.length_cons, frzs_length e2]
    · cases e
def dTup (fa : Env → Res (List T)) : Env → Res T := fun ρ => (fa ρ).bind fun ts => match frzs ts with
  | some ts' => if ts'.length ≤ 10000000 then .ok (.tup ts') else .stuck
  | none => .stuck
def dLst (fa : Env → Res (List T)) : Env → Res T := fun ρ => (fa ρ).bind fun ts => match frzs ts with
  | some ts' => if ts'.length ≤ 10000000 then .ok (.lst .ow ts') else .stuck
  | none => .stuck
theorem p_tup {es : List Expr} {fa : Env → Res (List T)} {k : Nat} {pos : Pos} (ha : PAr x X es fa) : P x X (.Tuple es k pos) (dTup fa) :=
  ⟨fun ok W tk => pe_imp (pe_tup (ha.run ok W tk)) fun σ H Q ⟨β, φ, G, ρ, E, h⟩ => ⟨β, φ, G, ρ, E, Pst.bind h fun ts G1 H1 s1 h1 vs fp r nd fr => by
    cases e : frzs ts with
    | none => rw [e] at h1; exact h1.elim
    | some ts' =>
      rw [e] at h1
      simp only at h1
      split at h1
      · rename_i hl
        obtain ⟨G2, s2, r2⟩ := shareA s1 r fr e
        exact ⟨by rw [r2.length]; exact sz_of hl, Pst.newTup (h1.later s2) s2.sub r2⟩
      · exact h1.elim⟩⟩
theorem p_lst {es : List Expr} {fa : Env → Res (List T)} {pos : Pos} (ha : PAr x X es fa) : P x X (.List es pos) (dLst fa) :=
  ⟨fun ok W tk => pe_imp (pe_lst (ha.run ok W tk)) fun σ H Q ⟨β, φ, G, ρ, E, h⟩ => ⟨β, φ, G, ρ, E, Pst.bind h fun ts G1 H1 s1 h1 vs fp r nd fr => by
    cases e : frzs ts with
    | none => rw [e] at h1; exact h1.elim
    | some ts' =>
      rw [e] at h1
      simp only at h1
      split at h1
      · rename_i hl
        obtain ⟨G2, s2, r2⟩ := shareA s1 r fr e
        exact ⟨by rw [r2.length]; exact sz_of hl, Pst.newLst (h1.later s2) s2.sub r2 fun a z => s1.ext.back z⟩
      · exact h1.elim⟩⟩
end
end Fn

/-! Fn11: calls of built-ins and of their methods, by values. -/
namespace Fn
open PySem PySem.Spec L2
variable [Tbs]
section
variable {x : Tx} {G G' G1 H H' H0 H1 : Hp} {W : XK} {X : Cx} {f : Fl} {fp : List Addr} {v : V} {σ : L2.St}
/-- a built-in, by values, does what g does with trees -/
def CaSem (x : Tx) (X : Cx) (c : Value) (g : List T → Res T) : Prop := XOk x X → ∀ (W : XK), Takes X (fun c d _ H => W c d H) → ∀ (G H H0 : Hp) (vs : List V) (ts : List T) (fp : List Addr) (Q : V → Hp → Prop), Sub G H → Reps x G H vs ts fp → (∀ a ∈ fp, Vac H0 a ∧ G a = none) → fp.Nodup → (∀ a, Vac H a → Vac H0 a) →
  Pst x W G H (g ts) (Made x H0 Q) → ∀ (pins : List (Addr × Obj)) (sh : Shared) (σ : L2.St) (us : List Value), Inv X pins σ H sh → Vals vs us → wpAny (model X.prog X.w) X.A (call c us) (EP X pins σ Q) X.xe sh
def rCaTop (X : Cx) (c : Value) : List V → Hp → VK → Prop := fun vs H Q => ∀ (pins : List (Addr × Obj)) (sh : Shared) (σ : L2.St) (us : List Value), Inv X pins σ H sh → Vals vs us → wpAny (model X.prog X.w) X.A (call c us) (EP X pins σ Q) X.xe sh
theorem ca_top (c : Value) : CallR X c (rCaTop X c) := fun pins s σ H xs us Q I r h => h pins s σ us I r
def dCa (g : List T → Res T) (fa : Env → Res (List T)) : Env → Res T := fun ρ => (fa ρ).bind g
theorem tCa_of {c : Value} {g : List T → Res T} {fa : Env → Res (List T)} {H : Hp} {Q : VK} (hs : CaSem x X c g) (ok : XOk x X) (tk : Takes X (fun c d _ H => W c d H)) (h : tP x W (dCa g fa) σ H Q) : tCB (rCaTop X c) (tPA x W fa) σ H Q := by
  obtain ⟨β, φ, G, ρ, E, h⟩ := h
  exact ⟨β, φ, G, ρ, E, Pst.bind h fun ts G1 H1 s1 h1 vs fp r nd fr => hs ok W tk G1 H1 H vs ts fp Q s1.sub r fr nd (fun a z => s1.ext.back z) (h1.later s1)⟩
theorem p_callB {id : String} {g : List T → Res T} {fa : Env → Res (List T)} {nm : Str} {p pos : Pos} {e : Expr} {es : List Expr} (hs : CaSem x X (.builtin id) g) (hg : Gl X nm) (hm : X.mg nm = none) (hv : bootBuiltins nm = some (.builtin id)) (ha : PAr x X (e :: es) fa)
    (hn : nm ≠ "__name__" := by decide) (hdb : (nm == ("__debug__" : Str)) = false := by decide) (he : starEach (e :: es) X.env = (false, eval e X.env) :: starEach es X.env := by rfl) (hpl : (backTo pos (starEach es X.env)).any (·.1) = false := by rfl) :
    P x X (.Call (.Name nm p) (e :: es) [] pos) (dCa g fa) := ⟨fun ok W tk => pe_imp (pe_callB (ca_top _) hg hm hv (ha.run ok W tk) hn hdb he hpl) fun σ H Q h => tCa_of hs ok tk h⟩
theorem p_callTy {ty : String} {g : List T → Res T} {fa : Env → Res (List T)} {nm : Str} {p pos : Pos} {e : Expr} {es : List Expr} (hs : CaSem x X (.type ty) g) (hg : Gl X nm) (hm : X.mg nm = none) (hv : bootBuiltins nm = some (.type ty)) (ha : PAr x X (e :: es) fa)
    (hn : nm ≠ "__name__" := by decide) (hdb : (nm == ("__debug__" : Str)) = false := by decide) (he : starEach (e :: es) X.env = (false, eval e X.env) :: starEach es X.env := by rfl) (hpl : (backTo pos (starEach es X.env)).any (·.1) = false := by rfl) :
    P x X (.Call (.Name nm p) (e :: es) [] pos) (dCa g fa) := ⟨fun ok W tk => pe_imp (pe_callTy (ca_top _) hg hm hv (ha.run ok W tk) hn hdb he hpl) fun σ H Q h => tCa_of hs ok tk h⟩
theorem Reps.one {vs : List V} {t : T} (h : Reps x G H vs [t] fp) : ∃ v, vs = [v] ∧ Rep x G H v t fp := by
  cases h with | cons h r => cases r; rw [List.append_nil]; exact ⟨_, rfl, h⟩
theorem Reps.two {vs : List V} {s t : T} (h : Reps x G H vs [s, t] fp) : ∃ v w f1 f2, vs = [v, w] ∧ Rep x G H v s f1 ∧ Rep x G H w t f2 := by
  cases h with | cons h r => cases r with | cons h2 r => cases r; exact ⟨_, _, _, _, rfl, h, h2⟩
/-! ### len, int, list, tuple -/
def caLen : List T → Res T
  | [.lst _ xs] => .ok (.int xs.length)
  | [.tup xs] => .ok (.int xs.length)
  | [.scr ns] => .ok (.int ns.length)
  | [.str z] => if z.length ≤ 10000000 then .ok (.int z.length) else .stuck
  | [.dct _ .k kvs] => .ok (.int kvs.length)
  | _ => .stuck
open PyProof.Rows in
theorem len_dK {pins : List (Addr × Obj)} {sh : Shared} {p : Addr} {kvs : List (Key × V)} {Q : V → Hp → Prop} (I : Inv X pins σ H sh) (hp : Rd H p (.dK kvs)) (h : Q (.int kvs.length) H) : wpAny (model X.prog X.w) X.A (call (.builtin "len") [.ref p]) (EP X pins σ Q) X.xe sh := by
  exact d_len I hp fun t s' I' => ⟨.int kvs.length, H, I', ⟨t, rfl⟩, h⟩
theorem sem_len : CaSem x X (.builtin "len") caLen := fun ok W tk G H H0 vs ts fp Q sub r fr nd l h pins sh σ us I ru => by
  unfold caLen at h
  split at h
  · obtain ⟨v, rfl, rr⟩ := r.one
    obtain ⟨p, ws, rfl, hp, q⟩ := rr.lst_inv sub
    exact call_len pins sh σ H _ us Q I ru ⟨_, ws.length, rfl, .inl ⟨ws, .inl (.inl hp), rfl⟩, by rw [q.length]; exact h.scal sub (.int _)⟩
  · obtain ⟨v, rfl, rr⟩ := r.one
    obtain ⟨p, ws, rfl, hp, q⟩ := rr.tup_inv sub
    exact call_len pins sh σ H _ us Q I ru ⟨_, ws.length, rfl, .inr ⟨ws, .inl (.inl hp), rfl⟩, by rw [q.length]; exact h.scal sub (.int _)⟩
  · obtain ⟨v, rfl, rr⟩ := r.one
    obtain ⟨p, rfl, hp⟩ := rr.scr_inv sub
    exact call_len pins sh σ H _ us Q I ru ⟨_, _, rfl, .inl ⟨_, by rw [ok.K]; exact hp, rfl⟩, by rw [List.length_map]; exact h.scal sub (.int _)⟩
  · obtain ⟨v, rfl, rr⟩ := r.one
    cases rr.str
    split at h
    · rename_i hl
      exact call_len pins sh σ H _ us Q I ru ⟨_, _, rfl, ⟨sz_of hl, rfl⟩, h.scal sub (.int _)⟩
    · exact h.elim
  · obtain ⟨v, rfl, rr⟩ := r.one
    obtain ⟨p, ws, ts, rfl, hp, q, rfl⟩ := rr.dctK_inv sub
    obtain ⟨u, rfl, ru1⟩ := vals1 ru
    obtain rfl : u = .ref p := ru1
    refine len_dK I hp ?_
    have e : ((ws.map fun kv => Fn.kT kv.1).zip ts).length = ws.length := by
      rw [List.length_zip, List.length_map, ← q.length, List.length_map]; exact Nat.min_self _
    rw [e] at h
    exact h.scal sub (.int _)
  · exact h.elim
def caInt : List T → Res T
  | [.int i] => .ok (.int i)
  | _ => .stuck
theorem sem_int : CaSem x X (.type "int") caInt := fun ok W tk G H H0 vs ts fp Q sub r fr nd l h pins sh σ us I ru => by
  unfold caInt at h
  split at h
  · obtain ⟨v, rfl, rr⟩ := r.one
    cases rr.int
    exact call_int1 pins sh σ H _ us Q I ru (.inl ⟨_, rfl, h.scal sub (.int _)⟩)
  · exact h.elim
def caList : List T → Res T
  | [.lst _ xs] => .ok (.lst .ow xs)
  | [.tup xs] => .ok (.lst .ow xs)
  | [.dct _ .k kvs] => .ok (.lst .ow (kvs.map (·.1)))
  | _ => .stuck
theorem reps_keys : ∀ (ks : List Key), RepsS x G (ks.map kV) (ks.map kT)
  | [] => .nil
  | .inl i :: ks => .cons (.int i) (reps_keys ks)
  | .inr z :: ks => .cons (.str z) (reps_keys ks)
theorem zip_fst {α β : Type} : ∀ (as : List α) (bs : List β), as.length = bs.length → (as.zip bs).map (·.1) = as
  | [], [], _ => rfl
  | a :: as, b :: bs, h => by rw [List.zip_cons_cons, List.map_cons, zip_fst as bs (by simpa using h)]
theorem zip_snd {α β : Type} : ∀ (as : List α) (bs : List β), as.length = bs.length → (as.zip bs).map (·.2) = bs
  | [], [], _ => rfl
  | a :: as, b :: bs, h => by rw [List.zip_cons_cons, List.map_cons, zip_snd as bs (by simpa using h)]
theorem kvs_len {κ : Type} {ws : List (κ × V)} {ts : List T} {g : κ → T} (r : RepsS x G (ws.map (·.2)) ts) : (ws.map fun kv => g kv.1).length = ts.length := by rw [List.length_map, ← r.length, List.length_map]
theorem sem_list : CaSem x X (.type "list") caList := fun ok W tk G H H0 vs ts fp Q sub r fr nd l h pins sh σ us I ru => by
  unfold caList at h
  split at h
  · obtain ⟨v, rfl, rr⟩ := r.one
    obtain ⟨p, ws, rfl, hp, q⟩ := rr.lst_inv sub
    exact call_list_of pins sh σ H _ us Q I ru ⟨p, ws, rfl, .inl (.inl (.inl hp)), h.newLst sub q l⟩
  · obtain ⟨v, rfl, rr⟩ := r.one
    obtain ⟨p, ws, rfl, hp, q⟩ := rr.tup_inv sub
    exact call_list_of pins sh σ H _ us Q I ru ⟨p, ws, rfl, .inr (.inl (.inl hp)), h.newLst sub q l⟩
  · obtain ⟨v, rfl, rr⟩ := r.one
    obtain ⟨p, ws, ts, rfl, hp, q, rfl⟩ := rr.dctK_inv sub
    rw [zip_fst _ _ (kvs_len q)] at h
    have e : (ws.map fun kv => Fn.kT kv.1) = (ws.map (·.1)).map Fn.kT := by rw [List.map_map]; rfl
    rw [e] at h
    refine call_listD ok.calm pins sh σ H _ us Q I ru ⟨p, ws, rfl, hp, ?_⟩
    have e2 : (ws.map fun kv => kV kv.1) = (ws.map (·.1)).map kV := by rw [List.map_map]; rfl
    rw [e2]
    exact h.newLst sub (reps_keys _) l
  · exact h.elim
def caTuple : List T → Res T
  | [.lst _ xs] => .ok (.tup xs)
  | [.tup xs] => .ok (.tup xs)
  | _ => .stuck
theorem sem_tuple : CaSem x X (.type "tuple") caTuple := fun ok W tk G H H0 vs ts fp Q sub r fr nd l h pins sh σ us I ru => by
  unfold caTuple at h
  split at h
  · obtain ⟨v, rfl, rr⟩ := r.one
    obtain ⟨p, ws, rfl, hp, q⟩ := rr.lst_inv sub
    exact call_tuple_of pins sh σ H _ us Q I ru ⟨p, ws, rfl, .inl ⟨.inl (.inl hp), h.newTup sub q⟩⟩
  · obtain ⟨v, rfl, rr⟩ := r.one
    obtain ⟨p, ws, rfl, hp, q⟩ := rr.tup_inv sub
    exact call_tuple_of pins sh σ H _ us Q I ru ⟨p, ws, rfl, .inr ⟨.inl (.inl hp), by cases rr with | s r0 => exact h.scal sub r0⟩⟩
  · exact h.elim
def caDict : List T → Res T
  | [.dct _ .k kvs] => .ok (.dct .ow .k kvs)
  | _ => .stuck
theorem Pst.newDK {kvs : List (Key × V)} {ts : List T} {Q : V → Hp → Prop} (h : Pst x W G H (.ok (.dct .ow .k ((kvs.map fun kv => kT kv.1).zip ts))) (Made x H0 Q)) (s : Sub G H) (r : RepsS x G (kvs.map (·.2)) ts) (l : ∀ a, Vac H a → Vac H0 a) : ∀ p, H p = none → Q (.ref p) (upd H p (.dK kvs)) := fun p hp => by
  have gp : G p = none := by
    cases q : G p with
    | none => rfl
    | some u => rcases (s p u q).2 with z | ⟨od, z, _⟩ <;> (rw [hp] at z; cases z)
  refine h G _ (.laid s hp) (.ref p) [p] (.dctK .ow upd_same r) (by simp) fun a ha => ?_
  cases List.mem_singleton.mp ha
  exact ⟨live_none l hp, gp⟩
theorem sem_dict : CaSem x X (.type "dict") caDict := fun ok W tk G H H0 vs ts fp Q sub r fr nd l h pins sh σ us I ru => by
  unfold caDict at h
  split at h
  · obtain ⟨v, rfl, rr⟩ := r.one
    obtain ⟨p, ws, ts, rfl, hp, q, rfl⟩ := rr.dctK_inv sub
    exact call_dictD pins sh σ H _ us Q I ru ⟨p, ws, rfl, hp, h.newDK sub q l⟩
  · exact h.elim
/-! ### sum, min, max, all, any -/
def T.ints : List T → Option (List Int)
  | [] => some []
  | .int i :: r => (T.ints r).map (i :: ·)
  | _ :: _ => none
theorem ints_reps : ∀ {vs : List V} {ts : List T} {ns : List Int}, RepsS x G vs ts → T.ints ts = some ns → vs = ns.map V.int
  | _, _, _, .nil, e => by cases e; rfl
  | _, _, _, .cons (t := t) (ts := ts) h r, e => by
    cases t with
    | int i =>
      have e : (T.ints ts).map (i :: ·) = some _ := e
      cases q : T.ints ts with
      | none => rw [q] at e; cases e
      | some ms => rw [q] at e; cases e; rw [Rep.int (H := G) (.s h), ints_reps r q]; rfl
    | _ => cases e
@[simp] theorem ints_map (ns : List Int) : T.ints (ns.map T.int) = some ns := by
  induction ns with
  | nil => rfl
  | cons n ns ih => rw [List.map_cons, T.ints, ih]; rfl
def T.bls : List T → Option (List Bool)
  | [] => some []
  | .bl i :: r => (T.bls r).map (i :: ·)
  | _ :: _ => none
theorem bls_reps : ∀ {vs : List V} {ts : List T} {ns : List Bool}, RepsS x G vs ts → T.bls ts = some ns → vs = ns.map V.bl
  | _, _, _, .nil, e => by cases e; rfl
  | _, _, _, .cons (t := t) (ts := ts) h r, e => by
    cases t with
    | bl i =>
      have e : (T.bls ts).map (i :: ·) = some _ := e
      cases q : T.bls ts with
      | none => rw [q] at e; cases e
      | some ms => rw [q] at e; cases e; rw [Rep.bl (H := G) (.s h), bls_reps r q]; rfl
    | _ => cases e
@[simp] theorem bls_map (ns : List Bool) : T.bls (ns.map T.bl) = some ns := by
  induction ns with
  | nil => rfl
  | cons n ns ih => rw [List.map_cons, T.bls, ih]; rfl
def caSum : List T → Res T
  | [.lst _ xs] => match T.ints xs with | some ns => .ok (.int ns.sum) | none => .stuck
  | _ => .stuck
theorem sem_sum : CaSem x X (.builtin "sum") caSum := fun ok W tk G H H0 vs ts fp Q sub r fr nd l h pins sh σ us I ru => by
  unfold caSum at h
  split at h
  · obtain ⟨v, rfl, rr⟩ := r.one
    obtain ⟨p, ws, rfl, hp, q⟩ := rr.lst_inv sub
    split at h
    · rename_i ns e
      exact cr_sum ok.calm pins sh σ H _ us Q I ru ⟨p, ns, rfl, .inl (.inl (by rw [hp, ints_reps q e])), h.scal sub (.int _)⟩
    · exact h.elim
  · exact h.elim
def maxI : List Int → Int
  | [] => 0
  | n :: ns => ns.foldl max n
def minI : List Int → Int
  | [] => 0
  | n :: ns => ns.foldl min n
theorem maxI_max : ∀ (ns : List Int) (n : Int), (ns.foldl max n) ∈ n :: ns ∧ ∀ y ∈ n :: ns, y ≤ ns.foldl max n
  | [], n => ⟨List.mem_cons_self, fun y hy => by simp at hy; exact Int.le_of_eq hy⟩
  | m :: ns, n => by
    obtain ⟨h1, h2⟩ := maxI_max ns (max n m)
    refine ⟨?_, fun y hy => ?_⟩
    · rw [List.foldl_cons]
      rcases List.mem_cons.mp h1 with z | z
      · rw [z]
        by_cases q : n ≤ m
        · rw [Int.max_eq_right q]; simp
        · rw [Int.max_eq_left (by omega)]; simp
      · exact List.mem_cons_of_mem _ (List.mem_cons_of_mem _ z)
    · rw [List.foldl_cons]
      have := h2 (max n m) List.mem_cons_self
      rcases List.mem_cons.mp hy with z | z
      · omega
      · rcases List.mem_cons.mp z with z | z
        · omega
        · exact h2 y (List.mem_cons_of_mem _ z)
theorem minI_min : ∀ (ns : List Int) (n : Int), (ns.foldl min n) ∈ n :: ns ∧ ∀ y ∈ n :: ns, ns.foldl min n ≤ y
  | [], n => ⟨List.mem_cons_self, fun y hy => by simp at hy; exact Int.le_of_eq hy.symm⟩
  | m :: ns, n => by
    obtain ⟨h1, h2⟩ := minI_min ns (min n m)
    refine ⟨?_, fun y hy => ?_⟩
    · rw [List.foldl_cons]
      rcases List.mem_cons.mp h1 with z | z
      · rw [z]
        by_cases q : n ≤ m
        · rw [Int.min_eq_left q]; simp
        · rw [Int.min_eq_right (by omega)]; simp
      · exact List.mem_cons_of_mem _ (List.mem_cons_of_mem _ z)
    · rw [List.foldl_cons]
      have := h2 (min n m) List.mem_cons_self
      rcases List.mem_cons.mp hy with z | z
      · omega
      · rcases List.mem_cons.mp z with z | z
        · omega
        · exact h2 y (List.mem_cons_of_mem _ z)
def caMax : List T → Res T
  | [.lst _ xs] => match T.ints xs with | some (n :: ns) => .ok (.int (maxI (n :: ns))) | _ => .stuck
  | [.int i, .int j] => .ok (.int (if j > i then j else i))
  | _ => .stuck
theorem sem_max : CaSem x X (.builtin "max") caMax := fun ok W tk G H H0 vs ts fp Q sub r fr nd l h pins sh σ us I ru => by
  unfold caMax at h
  split at h
  · obtain ⟨v, rfl, rr⟩ := r.one
    obtain ⟨p, ws, rfl, hp, q⟩ := rr.lst_inv sub
    split at h
    · rename_i n ns e
      refine cr_max ok.calm pins sh σ H _ us Q I ru ⟨p, n :: ns, rfl, .inl (.inl (by rw [hp, ints_reps q e])), by simp, fun m hm hy => ?_⟩
      obtain ⟨h1, h2⟩ := maxI_max ns n
      have e2 : m = maxI (n :: ns) := Int.le_antisymm (h2 m hm) (hy _ h1)
      rw [e2]; exact h.scal sub (.int _)
    · exact h.elim
  · obtain ⟨v, w, f1, f2, rfl, r1, r2⟩ := r.two
    cases r1.int; cases r2.int
    exact call_max2 ok.calm pins sh σ H _ us Q I ru ⟨_, _, rfl, h.scal sub (.int _)⟩
  · exact h.elim
def caMin : List T → Res T
  | [.lst _ xs] => match T.ints xs with | some (n :: ns) => .ok (.int (minI (n :: ns))) | _ => .stuck
  | [.int i, .int j] => .ok (.int (if j < i then j else i))
  | _ => .stuck
theorem sem_min : CaSem x X (.builtin "min") caMin := fun ok W tk G H H0 vs ts fp Q sub r fr nd l h pins sh σ us I ru => by
  unfold caMin at h
  split at h
  · obtain ⟨v, rfl, rr⟩ := r.one
    obtain ⟨p, ws, rfl, hp, q⟩ := rr.lst_inv sub
    split at h
    · rename_i n ns e
      refine cr_min ok.calm pins sh σ H _ us Q I ru ⟨p, n :: ns, rfl, .inl (.inl (by rw [hp, ints_reps q e])), by simp, fun m hm hy => ?_⟩
      obtain ⟨h1, h2⟩ := minI_min ns n
      have e2 : m = minI (n :: ns) := Int.le_antisymm (hy _ h1) (h2 m hm)
      rw [e2]; exact h.scal sub (.int _)
    · exact h.elim
  · obtain ⟨v, w, f1, f2, rfl, r1, r2⟩ := r.two
    cases r1.int; cases r2.int
    exact call_min2 ok.calm pins sh σ H _ us Q I ru ⟨_, _, rfl, h.scal sub (.int _)⟩
  · exact h.elim
def caAll : List T → Res T
  | [.lst _ xs] => match T.bls xs with | some bs => .ok (.bl (bs.all id)) | none => .stuck
  | _ => .stuck
theorem sem_all : CaSem x X (.builtin "all") caAll := fun ok W tk G H H0 vs ts fp Q sub r fr nd l h pins sh σ us I ru => by
  unfold caAll at h
  split at h
  · obtain ⟨v, rfl, rr⟩ := r.one
    obtain ⟨p, ws, rfl, hp, q⟩ := rr.lst_inv sub
    split at h
    · rename_i ns e
      exact cr_all ok.calm pins sh σ H _ us Q I ru ⟨p, ns, rfl, .inl (.inl (by rw [hp, bls_reps q e])), h.scal sub (.bl _)⟩
    · exact h.elim
  · exact h.elim
def caAny : List T → Res T
  | [.lst _ xs] => match T.bls xs with | some bs => .ok (.bl (bs.any id)) | none => .stuck
  | _ => .stuck
theorem sem_any : CaSem x X (.builtin "any") caAny := fun ok W tk G H H0 vs ts fp Q sub r fr nd l h pins sh σ us I ru => by
  unfold caAny at h
  split at h
  · obtain ⟨v, rfl, rr⟩ := r.one
    obtain ⟨p, ws, rfl, hp, q⟩ := rr.lst_inv sub
    split at h
    · rename_i ns e
      exact cr_any ok.calm pins sh σ H _ us Q I ru ⟨p, ns, rfl, .inl (.inl (by rw [hp, bls_reps q e])), h.scal sub (.bl _)⟩
    · exact h.elim
  · exact h.elim
end
end Fn

/-! Fn12: what is walked; comprehensions. -/
namespace Fn
open PySem PySem.Spec L2
variable [Tbs]
section
variable {x : Tx} {β : Bo} {φ : Nat → List Addr} {G G' G1 G0 H H' H0 H1 L : Hp} {W : XK} {X : Cx} {f : Fl} {fp : List Addr} {v : V} {σ : L2.St} {ρ : Env} {tg : Expr}
/-- J yields the trees ts while G0 stands -/
def ItR (x : Tx) (J : It) (ts : List T) (G0 L : Hp) : Prop := ∀ (G H : Hp) (i : Nat), (∀ b o, G0 b = some o → G b = some o) → (∀ b o, L b = some o → H b = some o) → Sub G H →
  (i < ts.length → J.go i H) ∧ (∀ t v H', ts[i]? = some t → J.yld i H v H' → ∃ G', Stp No G H G' H' ∧ RepS x G' v t) ∧ (ts.length ≤ i → J.stop i H)
theorem itr_list {a : Addr} {vs : List V} {ts : List T} (h : ∀ G H : Hp, (∀ b o, G0 b = some o → G b = some o) → (∀ b o, L b = some o → H b = some o) → Sub G H → H a = some (.lst vs)) (r : RepsS x G0 vs ts) : ItR x (Itl x.K a) ts G0 L := fun G H i hG hH sub => by
  have ha := h G H hG hH sub
  have hs : SqL x.K H a vs := .inl (.inl ha)
  refine ⟨fun hi => ?_, fun t v H' e hy => ?_, fun hi => ⟨vs, hs, by rw [r.length]; exact hi⟩⟩
  · obtain ⟨w, e, _⟩ := r.get' (List.getElem?_eq_getElem hi)
    exact ⟨vs, w, hs, e⟩
  · obtain ⟨rfl, k⟩ := hy
    obtain ⟨w, e2, r2⟩ := r.get' e
    have := k vs hs
    rw [e2] at this; cases this
    exact ⟨G, .refl _ sub, r2.le hG⟩
theorem itr_tup {a : Addr} {vs : List V} {ts : List T} (h : G0 a = some (.tup vs)) (r : RepsS x G0 vs ts) : ItR x (Itt x.K a) ts G0 L := fun G H i hG hH sub => by
  have ha := sub.at (hG _ _ h) id
  have hs : SqT x.K H a vs := .inl (.inl ha)
  refine ⟨fun hi => ?_, fun t v H' e hy => ?_, fun hi => ⟨vs, hs, by rw [r.length]; exact hi⟩⟩
  · obtain ⟨w, e, _⟩ := r.get' (List.getElem?_eq_getElem hi)
    exact ⟨vs, w, hs, e⟩
  · obtain ⟨rfl, k⟩ := hy
    obtain ⟨w, e2, r2⟩ := r.get' e
    have := k vs hs
    rw [e2] at this; cases this
    exact ⟨G, .refl _ sub, r2.le hG⟩
def strTs (z : Str) : List T := z.cps.toList.map fun c => T.str ⟨#[c]⟩
theorem itr_str {z : Str} : ItR x (Its z) (strTs z) G0 L := fun G H i hG hH sub => by
  have hl : (strTs z).length = z.cps.size := by unfold strTs; simp
  refine ⟨fun hi => by rw [hl] at hi; exact hi, fun t v H' e hy => ?_, fun hi => by rw [hl] at hi; exact hi⟩
  obtain ⟨rfl, c, e2, rfl⟩ := hy
  unfold strTs at e
  rw [List.getElem?_map] at e
  have : z.cps.toList[i]? = some c := by simpa using e2
  rw [this] at e; cases e
  exact ⟨G, .refl _ sub, .str _⟩
def rngTs (lo : Int) (n : Nat) : List T := (List.range n).map fun i : Nat => T.int (lo + (i : Int))
theorem itr_rng {lo : Int} {n : Nat} : ItR x (Itr lo n) (rngTs lo n) G0 L := fun G H i hG hH sub => by
  have hl : (rngTs lo n).length = n := by unfold rngTs; simp
  refine ⟨fun hi => by rw [hl] at hi; exact hi, fun t v H' e hy => ?_, fun hi => by rw [hl] at hi; exact hi⟩
  obtain ⟨rfl, rfl⟩ := hy
  have hi : i < n := by
    have := (List.getElem?_eq_some_iff.mp e).1
    rwa [hl] at this
  unfold rngTs at e
  rw [List.getElem?_map, List.getElem?_range hi] at e
  cases e
  exact ⟨G, .refl _ sub, .int _⟩
theorem itr_keys {d : Addr} {od : Obj} {kvs : List (Key × V)} (h : ∀ G H : Hp, (∀ b o, G0 b = some o → G b = some o) → (∀ b o, L b = some o → H b = some o) → Sub G H → H d = some (.frz od (.dK kvs))) :
    ItR x (Itk d od kvs) ((kvs.map (·.1)).map Fn.kT) G0 L := fun G H i hG hH sub => by
  have ha := h G H hG hH sub
  have hl : ((kvs.map (·.1)).map Fn.kT).length = kvs.length := by simp
  refine ⟨fun hi => ⟨ha, by rw [hl] at hi; exact hi⟩, fun t v H' e hy => ?_, fun hi => ⟨ha, by rw [hl] at hi; exact hi⟩⟩
  obtain ⟨rfl, k, w, e2, rfl⟩ := hy
  rw [List.getElem?_map, List.getElem?_map, e2] at e
  cases e
  refine ⟨G, .refl _ sub, ?_⟩
  cases k with
  | inl i => exact .int i
  | inr z => exact .str z
theorem itr_keysT {d : Addr} {od : Obj} {kvs : List (List Key × V)} (h : ∀ G H : Hp, (∀ b o, G0 b = some o → G b = some o) → (∀ b o, L b = some o → H b = some o) → Sub G H → H d = some (.frz od (.dT kvs))) :
    ItR x (Itkt d od kvs) ((kvs.map (·.1)).map fun k => T.tup (k.map Fn.kT)) G0 L := fun G H i hG hH sub => by
  have ha := h G H hG hH sub
  have hl : ((kvs.map (·.1)).map fun k => T.tup (k.map Fn.kT)).length = kvs.length := by simp
  refine ⟨fun hi => ⟨ha, by rw [hl] at hi; exact hi⟩, fun t v H' e hy => ?_, fun hi => ⟨ha, by rw [hl] at hi; exact hi⟩⟩
  obtain ⟨rfl, k, w, q, e2, rfl, hq⟩ := hy
  rw [List.getElem?_map, List.getElem?_map, e2] at e
  cases e
  -- the key's tuple is shared from now on
  by_cases hg : G q = none
  · refine ⟨upd G q (.tup (k.map kV)), ⟨.refl _ _, fun a o e => ?_, fun b o e => (by rw [upd_ne (fun z => (by rw [z, hg] at e; cases e))]; exact e), fun a e => ?_⟩, .tup upd_same (reps_keys k)⟩
    · by_cases z : a = q
      · rw [z, upd_same] at e; cases e; rw [z]; exact ⟨fun _ z => (by cases z), .inl hq⟩
      · rw [upd_ne z] at e; exact sub a o e
    · by_cases z : a = q
      · rw [z]; exact .inr (.inr (.inr ⟨_, hq⟩))
      · rw [upd_ne z] at e; exact .inl e
  · cases e : G q with
    | none => exact absurd e hg
    | some o =>
      have : o = .tup (k.map kV) := by
        rcases (sub q o e).2 with z | ⟨od, z, m⟩
        · rw [hq] at z; cases z; rfl
        · rw [hq] at z; cases z
      subst this
      exact ⟨G, .refl _ sub, .tup e (reps_keys k)⟩

/-! ### locking -/
theorem pe_lockv {e : Expr} {te : TE} (h : PE X e te) : PE X e (fun σ H Q => te σ H fun v H1 => Q v H1 ∨ ∃ d u, v = .ref d ∧ H1 d = some u ∧ Mut (some u) ∧ ((∀ o' u', X.H_0 d ≠ some (.frz o' u')) → ∀ od, Q v (upd H1 d (.frz od u)))) := ⟨fun pins s σ H Q I h' =>
  thn (h.run pins s σ H _ I h') fun u s1 ⟨v, H1, I1, r1, q⟩ => by
    rcases q with q | ⟨d, u', rfl, hd, mu, q⟩
    · exact ⟨v, H1, I1, r1, q⟩
    · obtain ⟨od, I2⟩ := I1.lock hd mu
      exact ⟨_, _, I2, r1, q (I1.nofrz hd mu) od⟩⟩
/-- Q, perhaps with a lock taken off -/
def Unl (X : Cx) (Q : Hp → Prop) (H : Hp) : Prop := Q H ∨ ∃ d od u, H d = some (.frz od u) ∧ (∀ o' u', X.H_0 d ≠ some (.frz o' u')) ∧ Q (upd H d u)
theorem pe_unl {e : Expr} {t : TE} (h : PE X e t) : PE X e (fun σ H Q => t σ H fun v H1 => Unl X (Q v) H1) := ⟨fun pins s σ H Q I h' =>
  thn (h.run pins s σ H _ I h') fun u s1 ⟨v, H1, I1, r1, q⟩ => by
    rcases q with q | ⟨d, od, u', hd, hn, q⟩
    · exact ⟨v, H1, I1, r1, q⟩
    · exact ⟨v, _, I1.unlock hd hn, r1, q⟩⟩

/-! ### targets -/
def gN (i : Nat) : T → Env → Option Env := fun t ρ => if i < ρ.length then some (ρ.set i (some t)) else none
def gTs : List (T → Env → Option Env) → List T → Env → Option Env
  | [], [], ρ => some ρ
  | g :: gs, t :: ts, ρ => (g t ρ).bind fun ρ1 => gTs gs ts ρ1
  | _, _, _ => none
def gT (gs : List (T → Env → Option Env)) : T → Env → Option Env := fun t ρ => match t with
  | .tup ts => gTs gs ts ρ
  | _ => none
/-- a target by shared trees: the slots that are written are in ws -/
def TgSem (x : Tx) (ws : List Nat) (g : T → Env → Option Env) (t : TG) : Prop := ∀ (β : Bo) (φ : Nat → List Addr) (G H : Hp) (σ : L2.St) (ρ ρ' : Env) (v : V) (u : T) (Q : L2.St → Hp → Prop), ER x β φ G H σ ρ → (∀ i ∈ ws, β.b i = none) → RepS x G v u → g u ρ = some ρ' →
    (∀ σ' φ', ER x β φ' G H σ' ρ' → (∀ a, Ow φ' a → Ow φ a) → (∀ i, i ∉ ws → σ'[i]? = σ[i]?) → σ'.length = σ.length → Q σ' H) → t v σ H Q
def TgsSem (x : Tx) (ws : List Nat) (g : List T → Env → Option Env) (t : TGs) : Prop := ∀ (β : Bo) (φ : Nat → List Addr) (G H : Hp) (σ : L2.St) (ρ ρ' : Env) (vs : List V) (us : List T) (Q : L2.St → Hp → Prop), ER x β φ G H σ ρ → (∀ i ∈ ws, β.b i = none) → RepsS x G vs us → g us ρ = some ρ' →
    (∀ σ' φ', ER x β φ' G H σ' ρ' → (∀ a, Ow φ' a → Ow φ a) → (∀ i, i ∉ ws → σ'[i]? = σ[i]?) → σ'.length = σ.length → Q σ' H) → t vs σ H Q
/-- t as a PG where the context is in order -/
structure PGo (x : Tx) (X : Cx) (tg : Expr) (t : TG) : Prop where
  run : XOk x X → PG X tg t
structure PGso (x : Tx) (X : Cx) (tgs : List Expr) (t : TGs) : Prop where
  run : XOk x X → PGs X tgs t
theorem tg_name {i : Nat} {n : Str} {pos : Pos} (hi : X.N[i]? = some n) (hx : Loc X.env.scope n) (hf : X.fn n = true ∨ X.env.scope.names.lookup n = some .local) : PGo x X (.Name n pos) (gName i) := ⟨fun ok => pg_name ok.nd hi hx hf⟩
theorem sem_name (i : Nat) : TgSem x [i] (gN i) (gName i) := fun β φ G H σ ρ ρ' v u Q E hb r e k => by
  unfold gN at e
  split at e
  · cases e
    refine k _ (fput φ i []) (E.set (.s r) r.np .nil (fun a z => by cases z) (hb i (by simp))) (fun a z => (ow_put z).elim (fun z => by cases z) fun ⟨j, _, z⟩ => ⟨j, z⟩) (fun j hj => ?_) (by simp)
    exact List.getElem?_set_ne (fun z => hj (by simp [z]))
  · cases e
theorem tgs_nil : PGso x X [] gNil := ⟨fun ok => pgs_nil⟩
theorem sems_nil : TgsSem x [] (gTs []) gNil := fun β φ G H σ ρ ρ' vs us Q E hb r e k => by
  cases us with
  | nil => cases r; cases e; exact ⟨rfl, k σ φ E (fun a z => z) (fun _ _ => rfl) rfl⟩
  | cons t ts => cases e
theorem tgs_cons {tg : Expr} {tgs : List Expr} {t : TG} {u : TGs} (h : PGo x X tg t) (q : PGso x X tgs u) (hs : (assignEach (tg :: tgs) X.env).map (·.2) = assign tg X.env :: (assignEach tgs X.env).map (·.2) := by rfl) : PGso x X (tg :: tgs) (gCons t u) := ⟨fun ok => pgs_cons (h.run ok) (q.run ok) hs⟩
theorem sems_cons {ws ws' : List Nat} {g : T → Env → Option Env} {gs : List (T → Env → Option Env)} {t : TG} {u : TGs} (k1 : TgSem x ws g t) (k2 : TgsSem x ws' (gTs gs) u) : TgsSem x (ws ++ ws') (gTs (g :: gs)) (gCons t u) := fun β φ G H σ ρ ρ' vs us Q E hb r e k => by
  cases us with
  | nil => cases e
  | cons t ts =>
    cases r with
    | cons r1 r2 =>
      have e : (g t ρ).bind (fun ρ1 => gTs gs ts ρ1) = some ρ' := e
      cases e1 : g t ρ with
      | none => rw [e1] at e; cases e
      | some ρ1 =>
        rw [e1] at e
        refine ⟨_, _, rfl, k1 β φ G H σ ρ ρ1 _ t _ E (fun i hi => hb i (List.mem_append_left _ hi)) r1 e1 fun σ1 φ1 E1 o1 n1 l1 => ?_⟩
        exact k2 β φ1 G H σ1 ρ1 ρ' _ ts _ E1 (fun i hi => hb i (List.mem_append_right _ hi)) r2 e fun σ2 φ2 E2 o2 n2 l2 => k σ2 φ2 E2 (fun a z => o1 a (o2 a z)) (fun i hi => by
          rw [n2 i (fun z => hi (List.mem_append_right _ z)), n1 i (fun z => hi (List.mem_append_left _ z))]) (by rw [l2, l1])
theorem tg_tup {es : List Expr} {k n : Nat} {pos : Pos} {t : TGs} (h : PGso x X es t) (hn : (assignEach es X.env).length = n := by rfl) (hst : (assignEach es X.env).findIdx? (·.1) = none := by rfl) : PGo x X (.Tuple es k pos) (gTup x.K n t) := ⟨fun ok => by
  rw [← ok.K]; exact pg_tup ok.calm (h.run ok) hn hst⟩
theorem gTs_len : ∀ (gs : List (T → Env → Option Env)) (ts : List T) (ρ ρ' : Env), gTs gs ts ρ = some ρ' → ts.length = gs.length := by
  intro gs
  induction gs with
  | nil => intro ts ρ ρ' e; cases ts with
    | nil => rfl
    | cons t ts => cases e
  | cons g gs ih => intro ts ρ ρ' e; cases ts with
    | nil => cases e
    | cons t ts =>
      have e : (g t ρ).bind (fun ρ1 => gTs gs ts ρ1) = some ρ' := e
      cases e1 : g t ρ with
      | none => rw [e1] at e; cases e
      | some ρ1 => rw [e1] at e; rw [List.length_cons, List.length_cons, ih ts ρ1 ρ' e]
theorem sem_tupT {ws : List Nat} {gs : List (T → Env → Option Env)} {t : TGs} {n : Nat} (k1 : TgsSem x ws (gTs gs) t) (hl : gs.length = n) : TgSem x ws (gT gs) (gTup x.K n t) := fun β φ G H σ ρ ρ' v u Q E hb r e k => by
  unfold gT at e
  cases u with
  | tup ts =>
    cases r with
    | tup hg r => exact ⟨_, _, rfl, .inl (.inl (E.sub.at hg id)), by rw [r.length, gTs_len gs ts ρ ρ' e, hl], k1 β φ G H σ ρ ρ' _ ts Q E hb r e k⟩
  | _ => cases e
end
end Fn

/-! Fn13: sources; list comprehensions. -/
namespace Fn
open PySem PySem.Spec L2
variable [Tbs]
section
variable {x : Tx} {β : Bo} {φ : Nat → List Addr} {G G' G1 G0 H H' H0 H1 L : Hp} {W : XK} {X : Cx} {f : Fl} {fp : List Addr} {v : V} {σ : L2.St} {ρ : Env} {tg : Expr}
def T.iter : T → Res (List T)
  | .lst _ ts => .ok ts
  | .tup ts => .ok ts
  | .str z => .ok (strTs z)
  | _ => .stuck
/-- st: for a statement: what is walked must not be but peeked at -/
def dIt (st : Bool) (f : Env → Res T) : Env → Res (List T) := fun ρ => (f ρ).bind fun t => if (st && !t.np) = true then .stuck else t.iter
def tI (x : Tx) (W : XK) (st : Bool) (f : Env → Res (List T)) : TI := fun σ H R => ∃ β φ G ρ, ER x β φ G H σ ρ ∧ Pst x W G H (f ρ) (fun ts _ H1 => ∀ J G2 L, Stp No G H G2 H1 → (st = true → ∀ a, L a = none) → (∀ a o, L a = some o → H1 a = some o ∧ NT o) → ItR x J ts G2 L → R J H1)
structure Src (x : Tx) (X : Cx) (tg iter : Expr) (st : Bool) (f : Env → Res (List T)) : Prop where
  run : XOk x X → ∀ W : XK, Takes X (fun c d _ H => W c d H) → PI X tg iter (tI x W st f)
  fold : ∀ v, foldedSetIterable iter X.env v = pure v
theorem pi_imp {tg iter : Expr} {t t' : TI} (h : PI X tg iter t) (i : ∀ σ H Q, t' σ H Q → t σ H Q) : PI X tg iter t' := ⟨fun pins s σ H Q I q => h.run pins s σ H Q I (i _ _ _ q)⟩
theorem pi_or {tg iter : Expr} {t t' : TI} (h : PI X tg iter t) (h' : PI X tg iter t') : PI X tg iter (fun σ H Q => t σ H Q ∨ t' σ H Q) := ⟨fun pins s σ H Q I q => q.elim (h.run pins s σ H Q I) (h'.run pins s σ H Q I)⟩
theorem src_it {tg e : Expr} {f : Env → Res T} {st : Bool} (h : P x X e f) (hf : ∀ v, foldedSetIterable e X.env v = pure v := by intro _; rfl) : Src x X tg e st (dIt st f) := ⟨fun ok W tk => pi_imp (pi_or (pi_list (h.run ok W tk)) (pi_or (pi_tup (h.run ok W tk)) (pi_str (h.run ok W tk)))) fun σ H R ⟨β, φ, G, ρ, E, h⟩ => by
  unfold dIt at h
  cases hq : f ρ with
  | exc c p =>
    rw [hq] at h
    exact .inl ⟨β, φ, G, ρ, E, by rw [hq]; exact h⟩
  | stuck => rw [hq] at h; exact h.elim
  | ok t =>
    rw [hq] at h
    have h : Pst x W G H (if (st && !t.np) = true then Res.stuck else t.iter) (fun ts _ H1 => ∀ J G2 L, Stp No G H G2 H1 → (st = true → ∀ a, L a = none) → (∀ a o, L a = some o → H1 a = some o ∧ NT o) → ItR x J ts G2 L → R J H1) := h
    split at h
    · exact h.elim
    rename_i hc
    cases t with
    | lst f ts =>
      refine .inl ⟨β, φ, G, ρ, E, ?_⟩
      rw [hq]
      intro G1 H1 s1 v fp r nd fr
      obtain ⟨a, vs, rfl, ha, r0⟩ := r.lst_inv s1.sub
      refine ⟨a, rfl, ⟨vs, .inl (.inl ha)⟩, ?_⟩
      rw [ok.K]
      cases r with
      | s r =>
        cases r with
        | lst hg rr => exact h G1 H1 s1 _ G1 (fun _ => none) s1 (fun _ _ => rfl) (fun _ _ z => by cases z) (itr_list (fun G' H' hG hH sub => sub.at (hG _ _ hg) id) rr)
      | lst f hf h1 rr =>
        cases f with
        | sh => exact absurd rfl hf.1
        | lk => exact absurd rfl hf.2
        | ow =>
          have s2 : Stp No G H (add G1 H1 [a]) H1 := s1.share (Rep.there (.lst .ow hf h1 rr)) fun b hb => ⟨.inl (fr b hb).1, (fr b hb).2⟩
          refine h G1 H1 s1 _ _ (fun _ => none) s2 (fun _ _ => rfl) (fun _ _ z => by cases z) (itr_list (fun G' H' hG hH sub => sub.at (hG _ _ (by rw [add_in (by simp)]; exact h1)) id) (rr.le (add_le fun b hb => (fr b hb).2)))
        | pk =>
          cases st with
          | true => exact absurd rfl hc
          | false =>
            refine h G1 H1 s1 _ G1 (fun b => if b = a then some (.lst vs) else none) s1 (fun z => by cases z) (fun b o z => ?_) (itr_list (fun G' H' hG hH sub => hH a _ (if_pos rfl)) r0)
            split at z
            · rename_i e; subst e
              cases z
              rw [ha] at h1; cases h1
              exact ⟨ha, fun _ z => by cases z⟩
            · cases z
    | tup ts =>
      refine .inr (.inl ⟨β, φ, G, ρ, E, ?_⟩)
      rw [hq]
      intro G1 H1 s1 v fp r nd fr
      cases r with
      | s r =>
        cases r with
        | tup hg rr =>
          refine ⟨_, rfl, ⟨_, .inl (.inl (s1.sub.at hg id))⟩, ?_⟩
          rw [ok.K]
          exact h G1 H1 s1 _ G1 (fun _ => none) s1 (fun _ _ => rfl) (fun _ _ z => by cases z) (itr_tup hg rr)
    | str z =>
      refine .inr (.inr ⟨β, φ, G, ρ, E, ?_⟩)
      rw [hq]
      intro G1 H1 s1 v fp r nd fr
      cases r.str
      exact ⟨z, rfl, h G1 H1 s1 _ G1 (fun _ => none) s1 (fun _ _ => rfl) (fun _ _ z => by cases z) itr_str⟩
    | _ => exact h.elim, hf⟩
/-! ### range -/
def dRng1 (f : Env → Res T) : Env → Res (List T) := fun ρ => (f ρ).bind fun t => match t with
  | .int n => if -(2 ^ 62) ≤ n ∧ n < 2 ^ 62 then .ok (rngTs 0 n.toNat) else .stuck
  | _ => .stuck
def dRng2 (f g : Env → Res T) : Env → Res (List T) := fun ρ => (f ρ).bind fun t => (g ρ).bind fun u => match t, u with
  | .int m, .int n => if -(2 ^ 62) ≤ m ∧ m < 2 ^ 62 ∧ -(2 ^ 62) ≤ n ∧ n < 2 ^ 62 then .ok (rngTs m (n - m).toNat) else .stuck
  | _, _ => .stuck
theorem src_rng1 {tg a : Expr} {f : Env → Res T} {st : Bool} {p pos : Pos} (hg : Gl X "range") (hm : X.mg "range" = none) (h : P x X a f) (hs : starEach [a] X.env = [(false, eval a X.env)] := by rfl) (hf : ∀ v, foldedSetIterable (.Call (.Name "range" p) [a] [] pos) X.env v = pure v := by intro _; rfl) :
    Src x X tg (.Call (.Name "range" p) [a] [] pos) st (dRng1 f) := ⟨fun ok W tk => pi_imp (pi_range1 hg hm ((pa1 h pa0 hs).run ok W tk) hs) fun σ H R ⟨β, φ, G, ρ, E, h⟩ => ⟨β, φ, G, ρ, E, by
  have h : Pst x W G H ((f ρ).bind fun t => match t with | .int n => if -(2 ^ 62) ≤ n ∧ n < 2 ^ 62 then .ok (rngTs 0 n.toNat) else .stuck | _ => .stuck) _ := h
  unfold dCons
  cases hq : f ρ with
  | exc c p => rw [hq] at h; exact h
  | stuck => rw [hq] at h; exact h
  | ok t =>
    rw [hq] at h
    intro G1 H1 s1 vs fp r nd fr
    obtain ⟨v, rfl, rr⟩ := r.one
    cases t with
    | int n =>
      cases rr.int
      have h : Pst x W G H (if -(2 ^ 62) ≤ n ∧ n < 2 ^ 62 then .ok (rngTs 0 n.toNat) else .stuck) _ := h
      split at h
      · rename_i hc
        exact ⟨n, rfl, hc.1, hc.2, h G1 H1 s1 _ G1 (fun _ => none) s1 (fun _ _ => rfl) (fun _ _ z => by cases z) itr_rng⟩
      · exact h.elim
    | _ => exact h.elim⟩, hf⟩
theorem src_rng2 {tg a b : Expr} {f g : Env → Res T} {st : Bool} {p pos : Pos} (hg : Gl X "range") (hm : X.mg "range" = none) (h : P x X a f) (h' : P x X b g) (hs : starEach [a, b] X.env = [(false, eval a X.env), (false, eval b X.env)] := by rfl) (hs2 : starEach [b] X.env = [(false, eval b X.env)] := by rfl)
    (hf : ∀ v, foldedSetIterable (.Call (.Name "range" p) [a, b] [] pos) X.env v = pure v := by intro _; rfl) :
    Src x X tg (.Call (.Name "range" p) [a, b] [] pos) st (dRng2 f g) := ⟨fun ok W tk => pi_imp (pi_range2 hg hm ((pa1 h (pa1 h' pa0 hs2) (by rw [hs, hs2])).run ok W tk) hs hs2) fun σ H R ⟨β, φ, G, ρ, E, h⟩ => ⟨β, φ, G, ρ, E, by
  have h : Pst x W G H ((f ρ).bind fun t => (g ρ).bind fun u => match t, u with | .int m, .int n => if -(2 ^ 62) ≤ m ∧ m < 2 ^ 62 ∧ -(2 ^ 62) ≤ n ∧ n < 2 ^ 62 then .ok (rngTs m (n - m).toNat) else .stuck | _, _ => .stuck) _ := h
  unfold dCons
  cases hq : f ρ with
  | exc c p => rw [hq] at h; exact h
  | stuck => rw [hq] at h; exact h
  | ok t =>
    rw [hq] at h
    cases hq2 : g ρ with
    | exc c p => rw [hq2] at h; exact h
    | stuck => rw [hq2] at h; exact h
    | ok u =>
      rw [hq2] at h
      intro G1 H1 s1 vs fp r nd fr
      obtain ⟨v, w, f1, f2, rfl, r1, r2⟩ := r.two
      cases t with
      | int m =>
        cases r1.int
        cases u with
        | int n =>
          cases r2.int
          have h : Pst x W G H (if -(2 ^ 62) ≤ m ∧ m < 2 ^ 62 ∧ -(2 ^ 62) ≤ n ∧ n < 2 ^ 62 then .ok (rngTs m (n - m).toNat) else .stuck) _ := h
          split at h
          · rename_i hc
            exact ⟨m, n, rfl, hc, h G1 H1 s1 _ G1 (fun _ => none) s1 (fun _ _ => rfl) (fun _ _ z => by cases z) itr_rng⟩
          · exact h.elim
        | _ => exact h.elim
      | _ => exact h.elim⟩, hf⟩
end
end Fn

/-! Fn14: list comprehensions. -/
namespace Fn
open PySem PySem.Spec L2
variable [Tbs]
section
variable {x : Tx} {β : Bo} {φ : Nat → List Addr} {G G' G1 G0 H H' H0 H1 L : Hp} {W : XK} {X : Cx} {f : Fl} {fp : List Addr} {v : V} {σ : L2.St} {ρ : Env} {tg : Expr}
def wipeE (ρ : Env) : List Nat → Env
  | [] => ρ
  | v :: vs => (wipeE ρ vs).set v none
theorem ER.forget (E : ER x β φ G H σ ρ) : ER x ⟨fun _ => none, β.l, β.p⟩ φ G H σ ρ := ⟨E.len, E.rep, E.nd, E.dj, E.dis, E.sub, fun _ _ z => (by cases z), E.lck, E.tab⟩
/-- a slot's value is forgotten -/
theorem ER.lose (E : ER x ⟨fun _ => none, β.l, β.p⟩ φ G H σ ρ) (i : Nat) : ER x ⟨fun _ => none, β.l, β.p⟩ (fput φ i []) G H (σ.set i none) (ρ.set i none) := by
  have D := E.drop i
  refine ⟨by simp; exact E.len, fun j t e => ?_, D.nd, D.dj, D.dis, D.sub, fun _ _ z => (by cases z), D.lck, D.tab⟩
  have z : j ≠ i := fun z => by
    rw [z] at e
    by_cases hl : i < ρ.length
    · rw [List.getElem?_set_self hl] at e; cases e
    · rw [List.getElem?_eq_none (by rw [List.length_set]; omega)] at e; cases e
  obtain ⟨v, e1, r⟩ := D.rep j t e
  exact ⟨v, by rw [List.getElem?_set_ne (Ne.symm z)]; exact e1, r⟩
theorem ER.wipe : ∀ (vs : List Nat), ER x ⟨fun _ => none, β.l, β.p⟩ φ G H σ ρ → ∃ φ', ER x ⟨fun _ => none, β.l, β.p⟩ φ' G H (L2.wipe σ vs) (wipeE ρ vs)
  | [], E => ⟨φ, E⟩
  | v :: vs, E => by
    obtain ⟨φ', E'⟩ := ER.wipe vs E
    exact ⟨_, E'.lose v⟩
theorem wipe_at (σ : L2.St) : ∀ (vs : List Nat) (i : Nat), (L2.wipe σ vs)[i]? = if i ∈ vs ∧ i < σ.length then some none else σ[i]?
  | [], i => by simp [L2.wipe]
  | v :: vs, i => by
    unfold L2.wipe
    by_cases hv : v = i
    · subst hv
      by_cases hl : v < σ.length
      · rw [List.getElem?_set_self (by rw [wipe_length]; exact hl), if_pos ⟨by simp, hl⟩]
      · rw [List.getElem?_eq_none (by rw [List.length_set, wipe_length]; omega), if_neg (fun z => hl z.2), List.getElem?_eq_none (by omega)]
    · rw [List.getElem?_set_ne hv, wipe_at σ vs i]
      have : (i ∈ vs ∧ i < σ.length) ↔ (i ∈ v :: vs ∧ i < σ.length) := by
        constructor
        · exact fun h => ⟨List.mem_cons_of_mem _ h.1, h.2⟩
        · intro h
          rcases List.mem_cons.mp h.1 with z | z
          · exact absurd z.symm hv
          · exact ⟨z, h.2⟩
      by_cases hc : i ∈ vs ∧ i < σ.length
      · rw [if_pos hc, if_pos (this.mp hc)]
      · rw [if_neg hc, if_neg fun z => hc (this.mpr z)]
theorem wipe_eq {σ2 : L2.St} {vs : List Nat} (hl : σ2.length = (L2.wipe σ vs).length) (h : ∀ i, i ∉ vs → σ2[i]? = (L2.wipe σ vs)[i]?) : L2.wipe σ2 vs = L2.wipe σ vs := by
  apply List.ext_getElem?
  intro i
  rw [wipe_length] at hl
  rw [wipe_at, wipe_at, hl]
  by_cases hc : i ∈ vs ∧ i < σ.length
  · rw [if_pos hc, if_pos hc]
  · rw [if_neg hc, if_neg hc]
    by_cases hi : i ∈ vs
    · have : ¬ i < σ.length := fun z => hc ⟨hi, z⟩
      rw [List.getElem?_eq_none (by omega), List.getElem?_eq_none (by omega)]
    · rw [h i hi, wipe_at, if_neg hc]
/-- an object made behind the first heap is written -/
theorem Stp.mut {p : Addr} {o : HO} (s : Stp No G H G' H') (h : H p = none) (hg : G' p = none) (ht : H' p ≠ none) (hb : ∀ ps, H' p ≠ some (.tbl ps)) (hx : ∀ φ, H' p ≠ some (.ext φ)) (no : NT o := by intro _ z; cases z) : Stp No G H G' (upd H' p o) where
  ext := {
    keep := fun b u e n q => by
      rw [upd_ne (fun z => by rw [z, h] at e; cases e)]; exact s.ext.keep b u e n q
    live := fun b u e m => by
      rw [upd_ne (fun z => by rw [z, h] at e; cases e)]; exact s.ext.live b u e m
    tabs := fun t => (s.ext.tabs t).upd no fun u e => ⟨fun ps z => hb ps (by rw [e, z]), fun φ z => hx φ (by rw [e, z])⟩ }
  sub := fun a u e => ⟨(s.sub a u e).1, by
    have n : a ≠ p := fun z => by rw [z, hg] at e; cases e
    rw [upd_ne n]; exact (s.sub a u e).2⟩
  le := s.le
  new := s.new
def compL (tg : T → Env → Option Env) (tt : Env → Res Bool) (el : Env → Res T) (ρ : Env) : List T → Res (List T)
  | [] => .ok []
  | t :: r => match tg t ρ with
    | none => .stuck
    | some ρ1 => match tt ρ1 with
      | .ok true => match el ρ1 with
        | .ok u => match u.frz with
          | some u' => (compL tg tt el ρ r).bind fun us => .ok (u' :: us)
          | none => .stuck
        | _ => .stuck
      | .ok false => compL tg tt el ρ r
      | _ => .stuck
theorem compL_noexc {tg : T → Env → Option Env} {tt : Env → Res Bool} {el : Env → Res T} {ρ : Env} : ∀ {ts : List T} {c : Nat} {p : List T}, compL tg tt el ρ ts ≠ .exc c p
  | [], c, p, e => by cases e
  | t :: r, c, p, e => by
    unfold compL at e
    split at e
    · cases e
    · split at e
      · split at e
        · split at e
          · cases q : compL tg tt el ρ r with
            | ok us => rw [q] at e; cases e
            | exc c p => exact compL_noexc q
            | stuck => rw [q] at e; cases e
          · cases e
        · cases e
      · exact compL_noexc e
      · cases e
def dYes : Env → Res Bool := fun _ => .ok true
structure PIfs (x : Tx) (X : Cx) (ifs : List Expr) (f : Env → Res Bool) : Prop where
  run : XOk x X → ∀ W : XK, Takes X (fun c d _ H => W c d H) → PTs X ifs (tPT x W f)
theorem pifs_nil : PIfs x X [] dYes := ⟨fun ok W tk => ⟨fun pins s σ H Q I h => by
  obtain ⟨β, φ, G, ρ, E, h⟩ := h
  exact pts_nil.run pins s σ H Q I (h.now E.sub)⟩⟩
theorem pifs_one {c : Expr} {f : Env → Res Bool} (h : PTe x X c f) : PIfs x X [c] f := ⟨fun ok W tk => pts_one (h.run ok W tk)⟩
def dComp (src : Env → Res (List T)) (tg : T → Env → Option Env) (tt : Env → Res Bool) (el : Env → Res T) (own : List Nat) : Env → Res T := fun ρ => (src ρ).bind fun ts =>
  if ts.length ≤ 10000000 then (compL tg tt el (wipeE ρ own) ts).bind fun us => .ok (.lst .ow us) else .stuck
abbrev W0 : XK := fun _ _ _ => False
/-- the comprehension's turns, from where its source stands -/
theorem comp_core {J : It} {ts : List T} {G2 : Hp} {us : List T} {tgf : T → Env → Option Env} {ttf : Env → Res Bool} {elf : Env → Res T} {own : List Nat} {g : TG} {Qe : Addr → Hp → Prop} (E : ER x β φ G2 H1 σ ρ) (it : ItR x J ts G2 L) (hL : ∀ a o, L a = some o → H1 a = some o ∧ NT o)
    (hlen : ts.length ≤ 10000000) (hc : compL tgf ttf elf (wipeE ρ own) ts = .ok us)
    (hg : ∀ (β : Bo) (φ : Nat → List Addr) (G H : Hp) (σ : L2.St) (ρ ρ' : Env) (v : V) (u : T) (Q : L2.St → Hp → Prop), ER x β φ G H σ ρ → (∀ i ∈ own, β.b i = none) → RepS x G v u → tgf u ρ = some ρ' →
      (∀ σ' φ', ER x β φ' G H σ' ρ' → (∀ i, i ∉ own → σ'[i]? = σ[i]?) → σ'.length = σ.length → Q σ' H) → g v σ H Q)
    {D : Addr} (hD : H1 D = none) (fin : ∀ G H acc, Stp No G2 H1 G H → H D = some (.lst acc) → G D = none → RepsS x G acc us → Qe D H) :
    ∃ Wi : Nat → Nat → Hp → Prop, (∃ m, Wi 0 m (upd H1 D (.lst []))) ∧ ∀ i m H, Wi i m H →
      (J.stop i H ∧ Qe D H) ∨ (J.go i H ∧ ∃ Nx : Hp → Prop, (∀ H', Nx H' → ∃ m', m' < m ∧ Wi (i + 1) m' H') ∧ ∀ y H', J.yld i H y H' → g y (L2.wipe σ own) H' fun σ2 H2 => L2.wipe σ2 own = L2.wipe σ own ∧ tPT x W0 ttf σ2 H2 fun b H3 =>
        if b = true then tP x W0 elf σ2 H3 fun y H4 => ∃ acc, H4 D = some (.lst acc) ∧ acc.length < sizeLine ∧ Nx (upd H4 D (.lst (acc ++ [y]))) else Nx H3) := by
  obtain ⟨φw, Ew⟩ := ER.wipe own E.forget
  have g2D : G2 D = none := by
    cases q : G2 D with
    | none => rfl
    | some u => rcases (E.sub D u q).2 with z | ⟨od, z, _⟩ <;> (rw [hD] at z; cases z)
  refine ⟨fun i m H => i + m = ts.length ∧ ∃ G acc done rest, Stp No G2 H1 G H ∧ H D = some (.lst acc) ∧ G D = none ∧ RepsS x G acc done ∧ done.length ≤ i ∧ compL tgf ttf elf (wipeE ρ own) (ts.drop i) = .ok rest ∧ us = done ++ rest, ⟨ts.length, by omega, G2, [], [], us, .laid E.sub hD, upd_same, g2D, .nil, Nat.le_refl _, by simpa using hc, rfl⟩, ?_⟩
  rintro i m H ⟨him, G, acc, done, rest, st, hHD, hGD, rep, hdl, hcr, hus⟩
  obtain ⟨go, yl, sp⟩ := it G H i st.le (fun a o e => st.ext.keep a o (hL a o e).1 (hL a o e).2 id) st.sub
  by_cases hi : i < ts.length
  case neg =>
    have hi : ts.length ≤ i := by omega
    rw [List.drop_eq_nil_of_le hi] at hcr
    cases hcr
    refine .inl ⟨sp hi, fin G H acc st hHD hGD ?_⟩
    rw [hus, List.append_nil]; exact rep
  case pos =>
  obtain ⟨t, ht⟩ : ∃ t, ts[i]? = some t := ⟨_, List.getElem?_eq_getElem hi⟩
  have hdrop : ts.drop i = t :: ts.drop (i + 1) := by
    rw [List.drop_eq_getElem_cons hi]
    rw [List.getElem?_eq_getElem hi] at ht
    cases ht; rfl
  rw [hdrop] at hcr
  have ownD : ∀ {H : Hp} {acc : List V}, H D = some (.lst acc) → Ownd H D := fun e => ⟨_, e, fun _ z => (by cases z), fun _ z => (by cases z)⟩
  refine .inr ⟨go hi, fun H' => (i + 1) + (m - 1) = ts.length ∧ ∃ G acc done rest, Stp No G2 H1 G H' ∧ H' D = some (.lst acc) ∧ G D = none ∧ RepsS x G acc done ∧ done.length ≤ i + 1 ∧ compL tgf ttf elf (wipeE ρ own) (ts.drop (i + 1)) = .ok rest ∧ us = done ++ rest, fun H' h' => ⟨m - 1, by omega, h'⟩, ?_⟩
  intro y H' hy
  obtain ⟨G', s', ry⟩ := yl t y H' ht hy
  have sT := st.trans s'
  have hD' : H' D = some (.lst acc) := s'.ext.keep D _ hHD (fun _ z => by cases z) id
  have gD' : G' D = none := s'.notIn hGD (ownD hHD) id
  unfold compL at hcr
  cases e1 : tgf t (wipeE ρ own) with
  | none => rw [e1] at hcr; cases hcr
  | some ρ1 =>
    rw [e1] at hcr
    simp only at hcr
    refine hg _ φw G' H' _ _ ρ1 y t _ (Ew.step sT) (fun _ _ => rfl) ry e1 fun σ2 φ2 E2 hn hl2 => ⟨wipe_eq hl2 hn, ?_⟩
    have next : ∀ {G3 H3 : Hp} {rest'}, Stp No G' H' G3 H3 → compL tgf ttf elf (wipeE ρ own) (ts.drop (i + 1)) = .ok rest' → us = done ++ rest' → (i + 1) + (m - 1) = ts.length ∧ ∃ G acc done rest, Stp No G2 H1 G H3 ∧ H3 D = some (.lst acc) ∧ G D = none ∧ RepsS x G acc done ∧ done.length ≤ i + 1 ∧ compL tgf ttf elf (wipeE ρ own) (ts.drop (i + 1)) = .ok rest ∧ us = done ++ rest := fun {G3 H3 rest'} s3 e e' =>
      ⟨by omega, G3, acc, done, rest', sT.trans s3, s3.ext.keep D _ hD' (fun _ z => by cases z) id, s3.notIn gD' (ownD hD') id, (rep.le s'.le).le s3.le, by omega, e, e'⟩
    refine ⟨_, φ2, G', ρ1, E2, ?_⟩
    cases e2 : ttf ρ1 with
    | exc c p => rw [e2] at hcr; cases hcr
    | stuck => rw [e2] at hcr; cases hcr
    | ok b =>
      rw [e2] at hcr
      intro G3 H3 s3
      cases b with
      | false => exact iteF (next s3 hcr hus)
      | true =>
        refine iteT ⟨_, φ2, G3, ρ1, E2.step s3, ?_⟩
        simp only at hcr
        cases e3 : elf ρ1 with
        | exc c p => rw [e3] at hcr; cases hcr
        | stuck => rw [e3] at hcr; cases hcr
        | ok u =>
          rw [e3] at hcr
          simp only at hcr
          cases e4 : u.frz with
          | none => rw [e4] at hcr; cases hcr
          | some u' =>
            rw [e4] at hcr
            simp only at hcr
            intro G4 H4 s4 w fp rw' nd fr
            have hD3 : H3 D = some (.lst acc) := s3.ext.keep D _ hD' (fun _ z => by cases z) id
            have hD4 : H4 D = some (.lst acc) := s4.ext.keep D _ hD3 (fun _ z => by cases z) id
            have gD3 : G3 D = none := s3.notIn gD' (ownD hD') id
            have s5 : Stp No G3 H3 (add G4 H4 fp) H4 := s4.share rw'.there fun a ha => ⟨.inl (fr a ha).1, (fr a ha).2⟩
            have gD5 : add G4 H4 fp D = none := s5.notIn gD3 (ownD hD3) id
            have sAll := (sT.trans s3).trans s5
            refine ⟨acc, hD4, ?_, ?_⟩
            · rw [rep.length]
              have : sizeLine = 16777216 := sizeLine_eq
              omega
            · cases e5 : compL tgf ttf elf (wipeE ρ own) (ts.drop (i + 1)) with
              | exc c p => exact absurd e5 compL_noexc
              | stuck => rw [e5] at hcr; cases hcr
              | ok rest' =>
                rw [e5] at hcr
                cases hcr
                exact ⟨by omega, _, acc ++ [w], done ++ [u'], rest', sAll.mut hD gD5 (by rw [hD4]; simp) (fun ps z => by rw [hD4] at z; cases z) (fun ps z => by rw [hD4] at z; cases z), upd_same, gD5,
                  (((rep.le s'.le).le s3.le).le s5.le).append (.cons (rw'.frz (fun a ha => (fr a ha).2) e4) .nil), by simp; omega, rfl, by rw [hus]; simp⟩
theorem XOk.blk (ok : XOk x X) (s : Shared) (H : Hp) (scope : Scope) (cenv : PySem.Env) (fp : List Addr) : XOk x (X.blk s H scope cenv fp) := ⟨ok.K, ok.calm, ok.room, ok.nd⟩
theorem p_comp {tg iter elt : Expr} {ifs : List Expr} {scope : Scope} {pos : Pos} {src : Env → Res (List T)} {tgf : T → Env → Option Env} {ttf : Env → Res Bool} {elf : Env → Res T} {own : List (Str × Nat)} {g : TG} {ws : List Nat}
    (hs : Src x X tg iter false src) (okb : BlkOk X.N X.env.scope scope own)
    (hg : ∀ (s : Shared) (H : Hp) (C : Addr) (cl : List (Str × Addr)) (fp : List Addr), PGo x (X.blk s H scope (compEnvC scope cl C X.env) fp) tg g) (sg : TgSem x ws tgf g) (hw : ∀ i ∈ ws, i ∈ own.map (·.2))
    (ht : ∀ (s : Shared) (H : Hp) (C : Addr) (cl : List (Str × Addr)) (fp : List Addr), PIfs x (X.blk s H scope (compEnvC scope cl C X.env) fp) ifs ttf)
    (he : ∀ (s : Shared) (H : Hp) (C : Addr) (cl : List (Str × Addr)) (fp : List Addr), P x (X.blk s H scope (compEnvC scope cl C X.env) fp) elt elf) :
    P x X (.ListComp elt [⟨tg, iter, ifs, 0⟩] scope pos) (dComp src tgf ttf elf (own.map (·.2))) := ⟨fun ok W tk => pe_imp (pe_lc ok.calm ok.nd (hs.run ok W tk) okb (fun s H C cl fp => (hg s H C cl fp).run (ok.blk s H scope _ fp)) (fun s H C cl fp => (ht s H C cl fp).run (ok.blk s H scope _ fp) W0 takes0) (fun s H C cl fp => (he s H C cl fp).run (ok.blk s H scope _ fp) W0 takes0) hs.fold) fun σ H Q ⟨β, φ, G, ρ, E, h⟩ => ⟨β, φ, G, ρ, E, by
  unfold dComp at h
  refine Pst.bind h fun ts G1 H1 s1 h1 J G2 L s2 _ hL it D hD => ?_
  split at h1
  · rename_i hlen
    cases hc : compL tgf ttf elf (wipeE ρ (own.map (·.2))) ts with
    | exc c p => exact absurd hc compL_noexc
    | stuck => rw [hc] at h1; exact h1.elim
    | ok us =>
      rw [hc] at h1
      refine comp_core (Qe := fun D H => Q (.ref D) H) (E.step s2) it hL hlen hc (fun β φ G H σ ρ ρ' v u Q E hb r e k => sg β φ G H σ ρ ρ' v u Q E (fun i hi => hb i (hw i hi)) r e fun σ' φ' E' o n l => k σ' φ' E' (fun i hi => n i fun z => hi (hw i z)) l) hD fun G' H' acc st hH hG r => ?_
      have sA := s2.trans st
      refine h1 G' H' sA (.ref D) [D] (.lst .ow ⟨by simp, by simp⟩ hH r) (by simp) fun a ha => ?_
      cases List.mem_singleton.mp ha
      exact ⟨s2.ext.back (.of hD), hG⟩
  · exact h1.elim⟩⟩
end
end Fn

/-! Fn15: statements. -/
namespace Fn
open PySem PySem.Spec L2
variable [Tbs]
section
variable {x : Tx} {β : Bo} {φ φ' : Nat → List Addr} {G G' G1 G0 H H' H0 H1 L : Hp} {W : XK} {X : Cx} {f : Fl} {fp : List Addr} {v : V} {σ : L2.St} {ρ : Env} {tg : Expr} {bs : Nat → Bool} {pos : Pos} {Po : Addr → Prop}
theorem s_pass : S x bs X (.Pass pos) dNop := ⟨fun ok W tk pO => ps_imp ps_pass fun D σ H ⟨β, φ, G, ρ, E, hb, h⟩ => h σ φ G H (.refl _ E.sub) E fun a z => .inl z⟩
def dBreak : Env → ResS := fun ρ => .ok .brk ρ
def dCont : Env → ResS := fun ρ => .ok .cont ρ
theorem s_break : S x bs X (.Break pos) dBreak := ⟨fun ok W tk pO => ps_imp ps_break fun D σ H ⟨β, φ, G, ρ, E, hb, h⟩ => h σ φ G H (.refl _ E.sub) E fun a z => .inl z⟩
theorem s_cont : S x bs X (.Continue pos) dCont := ⟨fun ok W tk pO => ps_imp ps_continue fun D σ H ⟨β, φ, G, ρ, E, hb, h⟩ => h σ φ G H (.refl _ E.sub) E fun a z => .inl z⟩
def dDrop (f : Env → Res T) : Env → ResS := fun ρ => (f ρ).st ρ fun _ => .ok .next ρ
theorem s_drop {e : Expr} {f : Env → Res T} (h : P x X e f) (hs : swapsWith e none pos.line X.env = pure false := by rfl) : S x bs X (.Expr e pos) (dDrop f) := ⟨fun ok W tk pO => ps_imp (ps_expr (h.run ok W tk) hs) fun D σ H ⟨β, φ, G, ρ, E, hb, h⟩ =>
  ⟨β, φ, G, ρ, E, PstS.bindP E h fun t G1 H1 s h1 v fp r nd fr => h1 _ φ G1 H1 s.pure (E.step s) fun a z => .inl z⟩⟩
def dRet (f : Env → Res T) : Env → ResS := fun ρ => (f ρ).st ρ fun t => if t.np = true then .ok (.ret t) ρ else .stuck
theorem ER.apart (E : ER x β φ G H σ ρ) {a : Addr} (h : Vac H a) : ¬ Ow φ a := fun ⟨i, z⟩ => (E.dis i a z).2.ne h
theorem s_ret {e : Expr} {f : Env → Res T} (h : P x X e f) : S x bs X (.Return (some e) pos) (dRet f) := ⟨fun ok W tk pO => ps_imp (ps_ret (h.run ok W tk)) fun D σ H ⟨β, φ, G, ρ, E, hb, h⟩ =>
  ⟨β, φ, G, ρ, E, PstS.bindP E h fun t G1 H1 s h1 v fp r nd fr => by
    by_cases hn : t.np = true
    · rw [if_pos hn] at h1
      exact h1 σ φ G1 H1 s.pure (E.step s) (fun a z => .inl z) v fp r hn nd fun a ha => ⟨.inl (fr a ha).1, (fr a ha).2, E.apart (fr a ha).1⟩
    · rw [if_neg hn] at h1; exact h1.elim⟩⟩
def dRetN : Env → ResS := fun ρ => .ok (.ret .non) ρ
theorem s_retN : S x bs X (.Return none pos) dRetN := ⟨fun ok W tk pO => ps_imp ps_retN fun D σ H ⟨β, φ, G, ρ, E, hb, h⟩ => h σ φ G H (.refl _ E.sub) E (fun a z => .inl z) .non [] (.s .non) rfl .nil fun a z => by cases z⟩
/-- return x: what x owns goes along -/
def dRetV (i : Nat) : Env → ResS := fun ρ => match ρ[i]? with
  | some (some t) => .ok (.ret t) (ρ.set i none)
  | _ => .stuck
theorem s_retV (i : Nat) {n : Str} {p : Pos} (hbs : bs i = false) (hN : X.N[i]? = some n := by rfl) (hv : Vis X.env.scope n := by first | exact Or.inl rfl | exact Or.inr (Or.inl rfl) | exact Or.inr (Or.inr rfl)) (hd : (n == ("__debug__" : Str)) = false := by decide)
    (hcd : (n == ("__classdict__" : Str)) = false := by decide) : S x bs X (.Return (some (.Name n p)) pos) (dRetV i) := ⟨fun ok W tk pO => ps_imp (ps_ret (pe_var hN hv hd hcd)) fun D σ H ⟨β, φ, G, ρ, E, hb, h⟩ => by
  unfold dRetV at h
  split at h
  · rename_i t e
    obtain ⟨v, e2, r, hn⟩ := E.rep i t e
    refine ⟨v, e2, h σ (fput φ i []) G H (.refl _ E.sub) (E.drop i) (fun a z => (ow_put z).elim (fun z => by cases z) fun ⟨j, _, z⟩ => .inl ⟨j, z⟩) v (φ i) r (hn hb.p) (E.nd i) fun a ha => ⟨.inr ⟨i, ha⟩, (E.dis i a ha).1, fun z => ?_⟩⟩
    rcases ow_put z with z | ⟨j, hj, z⟩
    · cases z
    · exact hj (E.dj j i a z ha)
  · exact h.elim⟩
/-! ### if -/
def dIfS (c : Env → Res Bool) (f g : Env → ResS) : Env → ResS := fun ρ => (c ρ).st ρ fun b => if b = true then f ρ else g ρ
theorem s_if {c : Expr} {body orelse : List Stmt} {fc : Env → Res Bool} {f g : Env → ResS} (hc : PTe x X c fc) (h : Ss x bs X body f) (q : Ss x bs X orelse g) : S x bs X (.If c body orelse pos) (dIfS fc f g) := ⟨fun ok W tk pO => ps_imp (ps_if (hc.run ok W tk) (h.run ok W tk pO) (q.run ok W tk pO)) fun D σ H ⟨β, φ, G, ρ, E, hb, h⟩ =>
  ⟨β, φ, G, ρ, E, PstS.bindP E h fun b G1 H1 s h1 => by
    cases b with
    | true => exact ⟨β, φ, G1, ρ, E.step s, hb, h1.later s.pure fun a z => .inl z⟩
    | false => exact ⟨β, φ, G1, ρ, E.step s, hb, h1.later s.pure fun a z => .inl z⟩⟩⟩
/-! ### while -/
def whileN (c : Env → Res Bool) (b : Env → ResS) : Nat → Env → ResS
  | 0, _ => .stuck
  | n + 1, ρ => (c ρ).st ρ fun t => if t = true then (match b ρ with
    | .ok .next ρ' => whileN c b n ρ'
    | .ok .cont ρ' => whileN c b n ρ'
    | .ok .brk ρ' => .ok .next ρ'
    | r => r) else .ok .next ρ
/-- what a body's end must reach, by the loop's rest -/
theorem PstS.body {r : ResS} {D : Ends} {N : St → Hp → Prop} {k : Env → ResS} (h : PstS x W β Po G H (match r with | .ok .next ρ' => k ρ' | .ok .cont ρ' => k ρ' | .ok .brk ρ' => .ok .next ρ' | r => r) D)
    (hk : ∀ σ' ρ1 φ1 G1 H1, Stp Po G H G1 H1 → ER x β φ1 G1 H1 σ' ρ1 → (∀ a, Ow φ1 a → Po a ∨ Vac H a) → PstS x W β Po G H (k ρ1) D → N σ' H1) : PstS x W β Po G H r { D with nx := N, ct := N, bk := D.nx } := by
  cases r with
  | ok fl ρ' =>
    cases fl with
    | next => exact fun σ' φ' G' H' s' E' o => hk σ' ρ' φ' G' H' s' E' o h
    | cont => exact fun σ' φ' G' H' s' E' o => hk σ' ρ' φ' G' H' s' E' o h
    | brk => exact h
    | ret t => exact h
  | exc c p ρ' => exact h
  | stuck => exact h
theorem s_while (n : Nat) {c : Expr} {body : List Stmt} {fc : Env → Res Bool} {f : Env → ResS} (hc : PTe x X c fc) (h : Ss x bs X body f) : S x bs X (.While c body [] pos) (whileN fc f n) := ⟨fun ok W tk pO => ps_imp (ps_while pO (hc.run ok W tk) (h.run ok W tk pO)) fun D σ H ⟨β, φ, G, ρ, E, hb, h⟩ => by
  refine ⟨fun m σ' H' => ∃ φ' G' ρ', ER x β φ' G' H' σ' ρ' ∧ PstS x W β (Ow φ') G' H' (whileN fc f m ρ') D, ⟨n, φ, G, ρ, E, h⟩, ?_⟩
  rintro m σ' H' ⟨φ', G', ρ', E', h'⟩
  cases m with
  | zero => exact h'.elim
  | succ m =>
    unfold whileN at h'
    refine ⟨β, φ', G', ρ', E', PstS.bindP E' h' fun b G1 H1 s h1 => ?_⟩
    cases b with
    | true =>
      refine iteT ⟨fun σ' H' => ∃ φ' G' ρ', ER x β φ' G' H' σ' ρ' ∧ PstS x W β (Ow φ') G' H' (whileN fc f m ρ') D, fun σ' H' q => ⟨m, Nat.lt_succ_self m, q⟩, ?_⟩
      refine ⟨β, φ', G1, ρ', E'.step s, hb, PstS.body (PstS.later h1 s.pure fun a z => .inl z) fun σ2 ρ2 φ2 G2 H2 s2 E2 o2 h2 => ⟨φ2, G2, ρ2, E2, h2.later s2 o2⟩⟩
    | false => exact iteF (h1 σ' φ' G1 H1 s.pure (E'.step s) fun a z => .inl z)⟩
/-! ### for -/
def forL (tg : T → Env → Option Env) (b : Env → ResS) : List T → Env → ResS
  | [], ρ => .ok .next ρ
  | t :: r, ρ => match tg t ρ with
    | none => .stuck
    | some ρ1 => match b ρ1 with
      | .ok .next ρ' => forL tg b r ρ'
      | .ok .cont ρ' => forL tg b r ρ'
      | .ok .brk ρ' => .ok .next ρ'
      | r => r
def dFor (src : Env → Res (List T)) (tg : T → Env → Option Env) (b : Env → ResS) : Env → ResS := fun ρ => (src ρ).st ρ fun ts => forL tg b ts ρ
theorem s_for {iter : Expr} {body : List Stmt} {src : Env → Res (List T)} {tgf : T → Env → Option Env} {f : Env → ResS} {g : TG} {ws : List Nat} (hs : Src x X tg iter true src) (hg : PGo x X tg g) (sg : TgSem x ws tgf g) (hw : ∀ i ∈ ws, bs i = false) (h : Ss x bs X body f) :
    S x bs X (.For tg iter body [] pos) (dFor src tgf f) := ⟨fun ok W tk pO => ps_imp (ps_for pO ok.calm (hs.run ok W tk) (hg.run ok) (h.run ok W tk pO) hs.fold) fun D σ H ⟨β, φ, G, ρ, E, hb, h⟩ => ⟨β, φ, G, ρ, E, PstS.bindP E h fun ts _ H1 _ h1 J G2 L s2 hst hL it => by
  refine ⟨fun i m σ' H' => i + m = ts.length ∧ ∃ φ' G' ρ', ER x β φ' G' H' σ' ρ' ∧ (∀ b o, G2 b = some o → G' b = some o) ∧ PstS x W β (Ow φ') G' H' (forL tgf f (ts.drop i) ρ') D, ⟨ts.length, by omega, φ, G2, ρ, E.step s2, fun _ _ z => z, PstS.later h1 s2.pure fun a z => .inl z⟩, ?_⟩
  rintro i m σ' H' ⟨him, φ', G', ρ', E', le', h'⟩
  obtain ⟨go, yl, sp⟩ := it G' H' i le' (fun a o e => by rw [hst rfl a] at e; cases e) E'.sub
  by_cases hi : i < ts.length
  case neg =>
    have hi : ts.length ≤ i := by omega
    rw [List.drop_eq_nil_of_le hi] at h'
    exact .inl ⟨sp hi, h' σ' φ' G' H' (.refl _ E'.sub) E' fun a z => .inl z⟩
  case pos =>
  obtain ⟨t, ht⟩ : ∃ t, ts[i]? = some t := ⟨_, List.getElem?_eq_getElem hi⟩
  have hdrop : ts.drop i = t :: ts.drop (i + 1) := by
    rw [List.drop_eq_getElem_cons hi]
    rw [List.getElem?_eq_getElem hi] at ht
    cases ht; rfl
  rw [hdrop] at h'
  refine .inr ⟨go hi, fun σ' H' => (i + 1) + (m - 1) = ts.length ∧ ∃ φ' G' ρ', ER x β φ' G' H' σ' ρ' ∧ (∀ b o, G2 b = some o → G' b = some o) ∧ PstS x W β (Ow φ') G' H' (forL tgf f (ts.drop (i + 1)) ρ') D, fun σ' H' q => ⟨m - 1, by omega, q⟩, ?_⟩
  intro y H3 hy
  obtain ⟨G3, s3, ry⟩ := yl t y H3 ht hy
  unfold forL at h'
  cases e1 : tgf t ρ' with
  | none => rw [e1] at h'; exact h'.elim
  | some ρ1 =>
    rw [e1] at h'
    simp only at h'
    refine sg β φ' G3 H3 σ' ρ' ρ1 y t _ (E'.step s3) (fun i hi => hb.b i (hw i hi)) ry e1 fun σ2 φ2 E2 o2 n2 l2 => ?_
    refine ⟨β, φ2, G3, ρ1, E2, hb, PstS.body (PstS.later h' s3.pure fun a z => .inl (o2 a z)) fun σ4 ρ4 φ4 G4 H4 s4 E4 o4 h4 => ⟨by omega, φ4, G4, ρ4, E4, fun b o z => s4.le b o (s3.le b o (le' b o z)), h4.later s4 o4⟩⟩⟩⟩
end
end Fn

/-! Fn16: owned objects are written: paths. -/
namespace Fn
open PySem PySem.Spec L2
variable [Tbs]
section
variable {x : Tx} {β : Bo} {φ φ' : Nat → List Addr} {G G' G1 G0 H H' H0 H1 L : Hp} {W : XK} {X : Cx} {f : Fl} {fp : List Addr} {v : V} {σ : L2.St} {ρ : Env} {tg : Expr} {bs : Nat → Bool} {pos : Pos} {Po : Addr → Prop}
/-- what may be written -/
def Wr (o : HO) : Prop := Mut (some o) ∧ ∀ φ, o ≠ .ext φ
theorem Wr.nt {o : HO} (h : Wr o) : NT o := fun ps z => by rw [z] at h; exact h.1
theorem Wr.tup {o : HO} (h : Wr o) : ∀ xs, o ≠ .tup xs := fun ps z => by rw [z] at h; exact h.1
theorem Wr.frz {o : HO} (h : Wr o) : ∀ od u, o ≠ .frz od u := fun od u z => by rw [z] at h; exact h.1
theorem wr_lst (xs : List V) : Wr (.lst xs) := ⟨trivial, fun _ z => by cases z⟩
theorem wr_dK (xs : List (Key × V)) : Wr (.dK xs) := ⟨trivial, fun _ z => by cases z⟩
theorem wr_dT (xs : List (List Key × V)) : Wr (.dT xs) := ⟨trivial, fun _ z => by cases z⟩
theorem wr_ins (C dx : Addr) (fs : List (Str × V)) : Wr (.ins C dx fs) := ⟨trivial, fun _ z => by cases z⟩
theorem Ext.putW {P : Addr → Prop} {p : Addr} {o u : HO} (h : H p = some o) (w : Wr o) (hp : P p) (wu : Wr u) : Ext P H (upd H p u) := .put h w.1 w.2 hp wu.nt
theorem Stp.putW {P : Addr → Prop} {p : Addr} {o u : HO} (s : Sub G H) (hg : G p = none) (h : H p = some o) (w : Wr o) (hp : P p) (wu : Wr u) : Stp P G H G (upd H p u) :=
  ⟨.putW h w hp wu, fun a z e => ⟨(s a z e).1, by rw [upd_ne (fun q => by rw [q, hg] at e; cases e)]; exact (s a z e).2⟩, fun _ _ z => z, fun _ z => .inl z⟩
/-- an owned object of slot i is written -/
theorem ER.upd (E : ER x β φ G H σ ρ) (hp : β.p = false) {i : Nat} {a : Addr} {o u : HO} {v : V} {t' : T} (ha : a ∈ φ i) (h : H a = some o) (w : Wr o) (wu : Wr u) (hv : σ[i]? = some (some v)) (r : Rep x G (L2.upd H a u) v t' (φ i)) (hn : t'.np = true) : ER x β φ G (L2.upd H a u) σ (ρ.set i (some t')) where
  len := by rw [List.length_set]; exact E.len
  rep := fun j t e => by
    by_cases z : j = i
    · subst z
      have hl : j < ρ.length := by
        have := (List.getElem?_eq_some_iff.mp e).1
        rwa [List.length_set] at this
      rw [List.getElem?_set_self hl] at e
      cases e
      exact ⟨v, hv, r, fun _ => hn⟩
    · rw [List.getElem?_set_ne (Ne.symm z)] at e
      obtain ⟨w', e1, r1, n1⟩ := E.rep j t e
      refine ⟨w', e1, Rep.move (fun _ _ z => z) r1 fun b o' hb n q => ?_, n1⟩
      rw [upd_ne (fun z' => z (E.dj j i a (by rw [← z']; exact q (n1 hp)) ha))]; exact hb
  nd := E.nd
  dj := E.dj
  dis := fun j b hb => by
    refine ⟨(E.dis j b hb).1, ?_⟩
    by_cases z : b = a
    · rw [z]; exact ⟨u, upd_same, wu.nt, wu.tup⟩
    · obtain ⟨o', e, n⟩ := (E.dis j b hb).2
      exact ⟨o', by rw [upd_ne z]; exact e, n⟩
  sub := fun b z e => ⟨(E.sub b z e).1, by
    rw [upd_ne (fun q => by rw [q, (E.dis i a ha).1] at e; cases e)]; exact (E.sub b z e).2⟩
  tab := E.tab.upd wu.nt (tb_some h w.nt w.2)
  bor := E.bor
  lck := fun b z e => by
    obtain ⟨h1, od, u', rfl⟩ := E.lck b z e
    exact ⟨by rw [upd_ne (fun q => by rw [q, h] at h1; cases h1; exact w.frz _ _ rfl)]; exact h1, od, u', rfl⟩
/-- an item of several is written -/
theorem Reps.upd : ∀ {vs : List V} {ts : List T} {fp : List Addr}, Reps x G H vs ts fp → fp.Nodup → (∀ t ∈ ts, t.np = true) → ∀ {j : Nat} {t : T}, ts[j]? = some t → ∃ w f, vs[j]? = some w ∧ Rep x G H w t f ∧ f.Nodup ∧ (∀ a ∈ f, a ∈ fp) ∧
    ∀ G2 H2, (∀ b o, G b = some o → G2 b = some o) → (∀ b o, b ∈ fp → H b = some o → NT o → H2 b = some o) → ∀ a u t', a ∈ f → Rep x G2 (L2.upd H2 a u) w t' f → Reps x G2 (L2.upd H2 a u) vs (ts.set j t') fp
  | _, _, _, .nil, _, _, j, t, e => by simp at e
  | _, _, _, .cons (f1 := f1) (f2 := f2) h r, nd, hn, 0, t, e => by
    simp at e; subst e
    refine ⟨_, f1, rfl, h, (List.nodup_append.mp nd).1, fun a ha => List.mem_append_left _ ha, fun G2 H2 hG hH a u t' ha h' => ?_⟩
    refine .cons h' (Reps.move hG r fun b o hb n q => ?_)
    have hb2 := q fun u hu => hn u (List.mem_cons_of_mem _ hu)
    rw [upd_ne (fun z => (List.nodup_append.mp nd).2.2 a ha b hb2 z.symm)]; exact hH b o (List.mem_append_right _ hb2) hb n
  | _, _, _, .cons (f1 := f1) (f2 := f2) h r, nd, hn, j + 1, t, e => by
    obtain ⟨w, f, e1, r1, n1, m, k⟩ := Reps.upd r (List.nodup_append.mp nd).2.1 (fun t ht => hn t (List.mem_cons_of_mem _ ht)) (j := j) (t := t) (by simpa using e)
    refine ⟨w, f, by simpa using e1, r1, n1, fun a ha => List.mem_append_right _ (m a ha), fun G2 H2 hG hH a u t' ha h' => ?_⟩
    refine .cons (Rep.move hG h fun b o hb n q => ?_) (k G2 H2 hG (fun b o hb => hH b o (List.mem_append_right _ hb)) a u t' ha h')
    have hb1 := q (hn _ List.mem_cons_self)
    rw [upd_ne (fun z => (List.nodup_append.mp nd).2.2 b hb1 a (m a ha) z)]; exact hH b o (List.mem_append_left _ hb1) hb n
/-! ### paths -/
inductive Pth where
  | v (i : Nat)
  | f (i : Nat) (ix : Nat → Option Nat)
def getP : Pth → Env → Option T
  | .v i, ρ => match ρ[i]? with
    | some (some t) => some t
    | _ => none
  | .f i ix, ρ => match ρ[i]? with
    | some (some (.obj .ow c ts)) => match ix c with
      | some j => ts[j]?
      | none => none
    | _ => none
def setP : Pth → Env → T → Env
  | .v i, ρ, t => ρ.set i (some t)
  | .f i ix, ρ, t => match ρ[i]? with
    | some (some (.obj .ow c ts)) => match ix c with
      | some j => ρ.set i (some (.obj .ow c (ts.set j t)))
      | none => ρ
    | _ => ρ
/-- the path leads to v, the tree t, owning f; it may be written there -/
structure AtP (x : Tx) (β : Bo) (φ : Nat → List Addr) (G H : Hp) (σ : L2.St) (ρ : Env) (p : Pth) (v : V) (t : T) (f : List Addr) : Prop where
  rep : Rep x G H v t f
  np : t.np = true
  nd : f.Nodup
  own : ∀ a ∈ f, Ow φ a ∧ G a = none
  put : ∀ G2 H2, Stp No G H G2 H2 → ∀ a ∈ f, ∀ o u t', H2 a = some o → Wr o → Wr u → t'.np1 = true → Rep x G2 (L2.upd H2 a u) v t' f → ER x β φ G2 (L2.upd H2 a u) σ (setP p ρ t')
/-- an expression that is a path -/
structure PathE (x : Tx) (X : Cx) (e : Expr) (p : Pth) : Prop where
  run : XOk x X → ∃ te : TE, PE X e te ∧ ∀ (β : Bo) (φ : Nat → List Addr) (G H : Hp) (σ : L2.St) (ρ : Env) (t : T) (Q : VK), ER x β φ G H σ ρ → β.p = false → getP p ρ = some t → (∀ v f, AtP x β φ G H σ ρ p v t f → Q v H) → te σ H Q
theorem path_v (i : Nat) {n : Str} {pos : Pos} (hN : X.N[i]? = some n := by rfl) (hv : Vis X.env.scope n := by first | exact Or.inl rfl | exact Or.inr (Or.inl rfl) | exact Or.inr (Or.inr rfl)) (hd : (n == ("__debug__" : Str)) = false := by decide)
    (hcd : (n == ("__classdict__" : Str)) = false := by decide) : PathE x X (.Name n pos) (.v i) := ⟨fun ok => ⟨_, pe_var hN hv hd hcd, fun β φ G H σ ρ t Q E hp0 e k => by
  have e : (match ρ[i]? with | some (some t) => some t | _ => none) = some t := e
  split at e
  · rename_i t' e'
    cases e
    obtain ⟨v, e2, r, hn⟩ := E.rep i t e'
    exact ⟨v, e2, k v (φ i) ⟨r, hn hp0, E.nd i, fun a ha => ⟨⟨i, ha⟩, (E.dis i a ha).1⟩, fun G2 H2 s a ha o u t' h w wu hn' r' => (E.step s).upd hp0 ha h w wu e2 r' (T.np_of hn')⟩⟩
  · cases e⟩⟩
theorem path_f (i : Nat) {n m : Str} {pos p2 : Pos} (ix : Nat → Option Nat) (hi : ∀ c j, ix c = some j → (x.fl c)[j]? = some m) (hN : X.N[i]? = some n := by rfl) (hv : Vis X.env.scope n := by first | exact Or.inl rfl | exact Or.inr (Or.inl rfl) | exact Or.inr (Or.inr rfl)) (hd : (n == ("__debug__" : Str)) = false := by decide)
    (hcd : (n == ("__classdict__" : Str)) = false := by decide) (hb : attributeBase (.Name n pos) m X.env (eval (.Name n pos) X.env) = eval (.Name n pos) X.env := by rfl) : PathE x X (.Attribute (.Name n pos) m p2) (.f i ix) := ⟨fun ok => ⟨_, pe_fld (pe_var hN hv hd hcd) hb, fun β φ G H σ ρ t Q E hp0 e k => by
  have e : (match ρ[i]? with | some (some (.obj .ow c ts)) => (match ix c with | some j => ts[j]? | none => none) | _ => none) = some t := e
  split at e
  · rename_i c ts e'
    split at e
    · rename_i j e2
      obtain ⟨v, e3, r, hn⟩ := E.rep i _ e'
      have nd := E.nd i
      generalize hφ : φ i = fi at r nd
      cases r with
      | s r => cases r
      | @obj a dx c' fs ts' fp' fl hf hp hn' ok' ha ee rr nd' =>
        obtain ⟨w, f, e4, r4, fnd, m4, k4⟩ := rr.upd (List.nodup_append.mp nd').2.1 (fun t ht => T.np_of (hn' rfl t ht)) e
        have hlt : j < ts.length := (List.getElem?_eq_some_iff.mp e).1
        have hi' := hi c j e2
        refine ⟨_, e3, a, _, dx, fs, w, rfl, ha, by rw [ok.K]; exact ok'.cls, by rw [ok.K]; exact ok'.no m (List.mem_of_getElem? hi'), lookup_at ee (ok'.nd.sublist (List.take_sublist _ _)) (by rw [List.getElem?_take_of_lt hlt]; exact hi') e4, ?_⟩
        have inφ : ∀ b ∈ f, b ∈ φ i := fun b hb => by rw [hφ]; exact List.mem_append_right _ (m4 b hb)
        refine k w f ⟨r4, T.np_of (hn' rfl t (List.mem_of_getElem? e)), fnd, fun b hb => ⟨⟨i, inφ b hb⟩, (E.dis i b (inφ b hb)).1⟩, fun G2 H2 s b hb o u t' h w' wu hn2 r' => ?_⟩
        have nba : b ≠ a := fun z => (List.nodup_append.mp nd').2.2 a (by simp [fpo]) b (m4 b hb) z.symm
        have es : setP (.f i ix) ρ t' = ρ.set i (some (.obj .ow c (ts.set j t'))) := by
          show (match ρ[i]? with | some (some (.obj .ow c ts)) => (match ix c with | some j => ρ.set i (some (.obj .ow c (ts.set j t'))) | none => ρ) | _ => ρ) = _
          rw [e']
          simp only
          rw [e2]
        rw [es]
        refine (E.step s).upd hp0 (inφ b hb) h w' wu e3 ?_ rfl
        rw [hφ]
        refine .obj (dx := dx) .ow hf (fun z => by cases z) (fun _ t ht => ?_) ok' (by rw [upd_ne nba.symm]; exact s.ext.keep a _ ha (fun _ z => by cases z) id) (by rw [List.length_set]; exact ee) (k4 G2 H2 s.le (fun b o _ e n => s.ext.keep b o e n id) b u t' hb r') nd'
        rcases List.mem_or_eq_of_mem_set ht with z | z
        · exact hn' rfl t z
        · rw [z]; exact hn2
    · cases e
  · cases e⟩⟩
end
end Fn

/-! Fn17: methods that write, stores, M in statements. -/
namespace Fn
open PySem PySem.Spec L2
variable [Tbs]
section
variable {x : Tx} {β : Bo} {φ φ' : Nat → List Addr} {G G' G1 G0 H H' H0 H1 L : Hp} {W : XK} {X : Cx} {f : Fl} {fp : List Addr} {v : V} {σ : L2.St} {ρ : Env} {tg : Expr} {bs : Nat → Bool} {pos : Pos} {Po : Addr → Prop}
/-- the method id of the type ty writes its receiver as g does -/
def WrSem (x : Tx) (X : Cx) (ty id : String) (g : T → List T → Option (T × T)) : Prop := XOk x X → ∀ (G H : Hp) (v : V) (t : T) (f : List Addr) (vs : List V) (ts : List T) (t' r : T) (Q : V → Hp → Prop), Sub G H → Rep x G H v t f → (∀ a ∈ f, G a = none) → RepsS x G vs ts → g t ts = some (t', r) →
  (∀ a ∈ f, ∀ o u w, H a = some o → Wr o → Wr u → t'.np1 = true → Rep x G (upd H a u) v t' f → RepS x G w r → Q w (upd H a u)) →
  ∀ (pins : List (Addr × Obj)) (sh : Shared) (σ : L2.St) (vv : Value) (us : List Value), Inv X pins σ H sh → RelV v vv → Vals vs us → wpAny (model X.prog X.w) X.A (call (.builtin id) (vv :: us)) (EP X pins σ Q) X.xe sh
/-- what a written method call with arguments is asked: its receiver is plain, its arguments few and without stars, all on one line -/
structure Mc (X : Cx) (o : Expr) (name : Str) (apos cp : Pos) (a : Expr) (as : List Expr) : Prop where
  base : attributeBase o name X.env (eval o X.env) = eval o X.env
  few : ((backTo cp (starEach (a :: as) X.env)).all (fun q => !q.1) && (backToKw cp (keywordEach [] X.env)).all (fun q => q.1.isSome) && decide ((a :: as).length + ([] : List Keyword).length + (if ([] : List Keyword).isEmpty then 0 else 1) < 30)) = true
  line : (apos.endLine == cp.line) = true
  star : starEach (a :: as) X.env = (false, eval a X.env) :: starEach as X.env
  plain : (backTo cp (starEach as X.env)).any (·.1) = false
/-- .. without arguments -/
structure Mc0 (X : Cx) (o : Expr) (name : Str) (apos cp : Pos) : Prop where
  base : attributeBase o name X.env (eval o X.env) = eval o X.env
  line : (apos.endLine == cp.line) = true
/-- which trees are of the type -/
def isTy : String → T → Bool
  | "list", .lst _ _ => true
  | "dict", .dct .ow _ _ => true
  | "dict", .dct .pk _ _ => false
  | "str", .str _ => true
  | _, _ => false
theorem Rep.ty {ty : String} {t : T} (s : Sub G H) (h : Rep x G H v t fp) (e : isTy ty t = true) : tyV x.K ty v H := by
  unfold isTy at e
  split at e
  · obtain ⟨a, vs, rfl, ha, _⟩ := h.lst_inv s
    exact .inl ⟨rfl, vs, .inl (.inl ha)⟩
  · rename_i k kvs
    cases k with
    | k =>
      cases h with
      | s h => cases h
      | dctK f h r => exact .inr (.inr (.inl ⟨rfl, .inl ⟨_, h⟩⟩))
    | t =>
      cases h with
      | s h => cases h
      | dctT f h r => exact .inr (.inr (.inl ⟨rfl, .inr ⟨_, h⟩⟩))
  · cases e
  · cases h.str; rfl
  · cases e
def rMtTop (X : Cx) (id : String) : V → List V → Hp → VK → Prop := fun v vs H Q => ∀ (pins : List (Addr × Obj)) (s : Shared) (σ : L2.St) (vv : Value) (us : List Value), Inv X pins σ H s → RelV v vv → Vals vs us → wpAny (model X.prog X.w) X.A (call (.builtin id) (vv :: us)) (EP X pins σ Q) X.xe s
theorem mt_top (id : String) : MtR X id (rMtTop X id) := fun pins s σ H v vs vv us Q I rv rs h => h pins s σ vv us I rv rs
@[simp] def Res.stM {α α' : Type} (r : Res α) (ρ : Env) (g : α → ResM α') : ResM α' := match r with | .ok t => g t | .exc c p => .exc c p ρ | .stuck => .stuck
@[simp] theorem Res.stM_ok {α α' : Type} (a : α) (ρ : Env) (g : α → ResM α') : (Res.ok a).stM ρ g = g a := rfl
@[simp] theorem Res.stM_exc {α α' : Type} (c : Nat) (p : List T) (ρ : Env) (g : α → ResM α') : (Res.exc c p : Res α).stM ρ g = .exc c p ρ := rfl
@[simp] theorem Res.stM_stuck {α α' : Type} (ρ : Env) (g : α → ResM α') : (Res.stuck : Res α).stM ρ g = .stuck := rfl
def wrEnd (g : T → List T → Option (T × T)) (p : Pth) (t : T) (ρ : Env) (ts : List T) : ResM T := match frzs ts with
  | some ts' => match g t ts' with
    | some (t', r) => .ok r (setP p ρ t')
    | none => .stuck
  | none => .stuck
def dWr (ty : String) (g : T → List T → Option (T × T)) (p : Pth) (fa : Env → Res (List T)) : Env → ResM T := fun ρ => match getP p ρ with
  | some t => if isTy ty t = true then (fa ρ).stM ρ (wrEnd g p t ρ) else .stuck
  | none => .stuck
/-- a pure result ahead of a write -/
theorem PstM.bindP {α α' : Type} {r : Res α} {g : α → ResM α'} {R : α' → (Nat → List Addr) → Hp → Hp → Env → Prop} {Q : α → Hp → Hp → Prop} (E : ER x β φ G H σ ρ) (h : PstM x W β σ (Ow φ) G H (r.stM ρ g) R)
    (k : ∀ t G1 H1, Stp No G H G1 H1 → PstM x W β σ (Ow φ) G H (g t) R → Q t G1 H1) : Pst x W G H r Q := by
  cases r with
  | ok t => exact fun G1 H1 s => k t G1 H1 s h
  | exc c p => exact fun d G1 H1 s xr => h d φ G1 H1 s.pure (E.step s) (fun a z => .inl z) xr
  | stuck => exact h
theorem Stp.upd {a : Addr} {o u : HO} (s : Stp No G H G1 H1) (h : Ow φ a) (hg : G1 a = none) (ha : H1 a = some o) (w : Wr o) (wu : Wr u) : Stp (Ow φ) G H G1 (upd H1 a u) := s.pure.trans (Stp.putW s.sub hg ha w h wu)
theorem m_wr {o : Expr} {name : Str} {apos : Pos} {ty id : String} {es : List Expr} {e : Expr} {p : Pth} {g : T → List T → Option (T × T)} {fa : Env → Res (List T)} (pa : PlainAttrs ty) (slot : Slot ty name id) (hty : typeOf (.builtin id) = pure (.type "method_descriptor")) (hs : WrSem x X ty id g) (hp : PathE x X o p) (ha : PAr x X (e :: es) fa)
    (mc : Mc X o name apos pos e es := by exact ⟨rfl, rfl, rfl, rfl, rfl⟩) : M x X (.Call (.Attribute o name apos) (e :: es) [] pos) (dWr ty g p fa) := ⟨fun ok W tk => by
  obtain ⟨te, pe, k⟩ := hp.run ok
  refine pe_imp (pe_bm pa slot hty (mt_top id) pe (ha.run ok W tk) mc.base mc.few mc.line mc.star mc.plain) fun σ H Q ⟨β, φ, G, ρ, E, hp0, h⟩ => ?_
  unfold dWr at h
  split at h
  · rename_i t e1
    split at h
    · rename_i e0
      refine k β φ G H σ ρ t _ E hp0 e1 fun v f A => ⟨by rw [ok.K]; exact A.rep.ty E.sub e0, β, φ, G, ρ, E, ?_⟩
      refine PstM.bindP E h fun ts G1 H1 s1 h1 vs fp r nd fr => ?_
      unfold wrEnd at h1
      cases e2 : frzs ts with
      | none => rw [e2] at h1; exact h1.elim
      | some ts' =>
        rw [e2] at h1
        simp only at h1
        cases e3 : g t ts' with
        | none => rw [e3] at h1; exact h1.elim
        | some tr =>
          obtain ⟨t', r'⟩ := tr
          rw [e3] at h1
          obtain ⟨G2, s2, r2⟩ := shareA s1 r fr e2
          have gn : ∀ a ∈ f, G2 a = none := fun a ha => s2.notIn (A.own a ha).2 (A.rep.there a ha) (fun z => z)
          have hk := s2.ext.keep
          refine hs ok G2 H1 v t f vs ts' t' r' Q s2.sub (A.rep.step s2) gn r2 e3 fun a ha o u w hao wo wu hn1 rv rw' => ?_
          have own := (A.own a ha).1
          refine h1 φ G2 (upd H1 a u) (s2.upd own (gn a ha) hao wo wu) (A.put G2 H1 s2 a ha o u t' hao wo wu hn1 rv) (fun b z => .inl z) w [] (.s rw') rw'.np .nil fun _ z => by cases z
    · exact h.elim
  · exact h.elim⟩
theorem m_wr0 {o : Expr} {name : Str} {apos : Pos} {ty id : String} {p : Pth} {g : T → List T → Option (T × T)} (pa : PlainAttrs ty) (slot : Slot ty name id) (hty : typeOf (.builtin id) = pure (.type "method_descriptor")) (hs : WrSem x X ty id g) (hp : PathE x X o p) (mc : Mc0 X o name apos pos := by exact ⟨rfl, rfl⟩) : M x X (.Call (.Attribute o name apos) [] [] pos) (dWr ty g p dNil) := ⟨fun ok W tk => by
  obtain ⟨te, pe, k⟩ := hp.run ok
  refine pe_imp (pe_bm0 pa slot hty (mt_top id) pe mc.base mc.line) fun σ H Q ⟨β, φ, G, ρ, E, hp0, h⟩ => ?_
  unfold dWr at h
  split at h
  · rename_i t e1
    split at h
    · rename_i e0
      refine k β φ G H σ ρ t _ E hp0 e1 fun v f A => ⟨by rw [ok.K]; exact A.rep.ty E.sub e0, ?_⟩
      have h : PstM x W β σ (Ow φ) G H (wrEnd g p t ρ []) (MadeM x (Ow φ) H Q) := h
      unfold wrEnd frzs at h
      simp only at h
      cases e3 : g t [] with
      | none => rw [e3] at h; exact h.elim
      | some tr =>
        obtain ⟨t', r'⟩ := tr
        rw [e3] at h
        have gn : ∀ a ∈ f, G a = none := fun a ha => (A.own a ha).2
        have s2 : Stp No G H G H := .refl _ E.sub
        refine hs ok G H v t f [] [] t' r' Q E.sub A.rep gn .nil e3 fun a ha o u w hao wo wu hn1 rv rw' => ?_
        refine h φ G (upd H a u) (s2.upd (A.own a ha).1 (gn a ha) hao wo wu) (A.put G H s2 a ha o u t' hao wo wu hn1 rv) (fun b z => .inl z) w [] (.s rw') rw'.np .nil fun _ z => by cases z
    · exact h.elim
  · exact h.elim⟩
/-! ### lists -/
def wrAppend : T → List T → Option (T × T)
  | .lst .ow ts, [u] => if ts.length < 10000000 then some (.lst .ow (ts ++ [u]), .non) else none
  | _, _ => none
theorem Rep.lstO {ts : List T} (h : Rep x G H v (.lst .ow ts) fp) : ∃ a vs, v = .ref a ∧ H a = some (.lst vs) ∧ RepsS x G vs ts ∧ fp = [a] := by
  cases h with
  | s h => cases h
  | lst f hf h r => exact ⟨_, _, rfl, h, r, rfl⟩
theorem RepsS.oneS {vs : List V} {t : T} (h : RepsS x G vs [t]) : ∃ v, vs = [v] ∧ RepS x G v t := by
  cases h with | cons h r => cases r; exact ⟨_, rfl, h⟩
theorem sem_append : WrSem x X "list" "list.append" wrAppend := fun ok G H v t f vs ts t' r Q sub rp gn rs e k pins sh σ vv us I rv ru => by
  unfold wrAppend at e
  split at e
  · split at e
    · rename_i hl
      cases e
      obtain ⟨a, ws, rfl, ha, q, rfl⟩ := rp.lstO
      obtain ⟨w, rfl, rw'⟩ := rs.oneS
      have : ws.length < sizeLine := by rw [q.length]; have : sizeLine = 16777216 := sizeLine_eq; omega
      exact mt_append pins sh σ H _ _ vv us Q I rv ru ⟨a, ws, w, rfl, rfl, ha, this, k a (by simp) _ _ .non ha (wr_lst _) (wr_lst _) rfl (.lst .ow ⟨by simp, by simp⟩ upd_same (q.append (.cons rw' .nil))) .non⟩
    · cases e
  · cases e
def wrExtend : T → List T → Option (T × T)
  | .lst .ow ts, [.lst _ us] => if ts.length + us.length ≤ 10000000 then some (.lst .ow (ts ++ us), .non) else none
  | _, _ => none
theorem sem_extend : WrSem x X "list" "list.extend" wrExtend := fun ok G H v t f vs ts t' r Q sub rp gn rs e k pins sh σ vv us I rv ru => by
  unfold wrExtend at e
  split at e
  · split at e
    · rename_i hl
      cases e
      obtain ⟨a, ws, rfl, ha, q, rfl⟩ := rp.lstO
      obtain ⟨w, rfl, rw'⟩ := rs.oneS
      obtain ⟨b, zs, rfl, hb, q2⟩ := Rep.lst_inv (H := H) sub (.s rw')
      exact mt_extend pins sh σ H _ _ vv us Q I rv ru ⟨a, b, ws, zs, rfl, rfl, ha, hb, by rw [q.length, q2.length]; exact sz_of hl, k a (by simp) _ _ .non ha (wr_lst _) (wr_lst _) rfl (.lst .ow ⟨by simp, by simp⟩ upd_same (q.append q2)) .non⟩
    · cases e
  · cases e
theorem RepsS.dropLast {vs : List V} {ts : List T} (h : RepsS x G vs ts) : RepsS x G vs.dropLast ts.dropLast := by
  rw [List.dropLast_eq_take, List.dropLast_eq_take, h.length]; exact h.take _
theorem RepsS.erase {vs : List V} {ts : List T} (h : RepsS x G vs ts) : ∀ n, RepsS x G (vs.eraseIdx n) (ts.eraseIdx n) := by
  induction vs generalizing ts with
  | nil => cases h; intro n; exact .nil
  | cons w vs ih => cases h with | cons a r => intro n; cases n with | zero => exact r | succ n => exact .cons a (ih r n)
def wrPop : T → List T → Option (T × T)
  | .lst .ow ts, [] => match ts[ts.length - 1]? with
    | some u => some (.lst .ow ts.dropLast, u)
    | none => none
  | .lst .ow ts, [.int i] => if -(2 ^ 63) ≤ i ∧ i < 2 ^ 63 then (match ixN ts.length i with
    | some k => match ts[k]? with
      | some u => some (.lst .ow (ts.eraseIdx k), u)
      | none => none
    | none => none) else none
  | _, _ => none
theorem sem_pop : WrSem x X "list" "list.pop" wrPop := fun ok G H v t f vs ts t' r Q sub rp gn rs e k pins sh σ vv us I rv ru => by
  unfold wrPop at e
  split at e
  · split at e
    · rename_i u e1
      cases e
      obtain ⟨a, ws, rfl, ha, q, rfl⟩ := rp.lstO
      cases rs
      obtain ⟨w, e2, rw'⟩ := q.get' e1
      rw [← q.length] at e2
      exact mt_pop pins sh σ H _ _ vv us Q I rv ru ⟨a, ws, w, rfl, rfl, ha, e2, k a (by simp) _ _ w ha (wr_lst _) (wr_lst _) rfl (.lst .ow ⟨by simp, by simp⟩ upd_same q.dropLast) rw'⟩
    · cases e
  · split at e
    · rename_i hc
      split at e
      · rename_i j e0
        split at e
        · rename_i u e1
          cases e
          obtain ⟨a, ws, rfl, ha, q, rfl⟩ := rp.lstO
          obtain ⟨w, rfl, rw'⟩ := rs.oneS
          cases Rep.int (H := H) (.s rw')
          obtain ⟨w, e2, rw'⟩ := q.get' e1
          rw [← q.length] at e0
          exact mt_popAt pins sh σ H _ _ vv us Q I rv ru ⟨a, ws, _, j, w, rfl, rfl, ha, hc.1, hc.2, (ixN_seq e0).1, e2, k a (by simp) _ _ w ha (wr_lst _) (wr_lst _) rfl (.lst .ow ⟨by simp, by simp⟩ upd_same (q.erase j)) rw'⟩
        · cases e
      · cases e
    · cases e
  · cases e
/-! ### M in statements -/
def dDropM (f : Env → ResM T) : Env → ResS := fun ρ => (f ρ).bind fun _ ρ' => .ok .next ρ'
@[reducible] def PstS.ofM {r : ResM T} {g : T → Env → ResS} {D : Ends} {Q : T → (Nat → List Addr) → Hp → Hp → Env → Prop} (h : PstS x W β Po G H (r.bind g) D)
    (k : ∀ t ρ1 φ1 G1 H1, Stp Po G H G1 H1 → ER x β φ1 G1 H1 σ ρ1 → (∀ a, Ow φ1 a → Po a ∨ Vac H a) → PstS x W β Po G H (g t ρ1) D → Q t φ1 G1 H1 ρ1) : PstM x W β σ Po G H r Q := by
  cases r with
  | ok t ρ1 => exact fun φ1 G1 H1 s1 E1 o1 => k t ρ1 φ1 G1 H1 s1 E1 o1 h
  | exc c p ρ1 => exact fun d φ1 G1 H1 s1 E1 o1 xr => h d σ φ1 G1 H1 s1 E1 o1 xr
  | stuck => exact h
theorem s_dropM {e : Expr} {f : Env → ResM T} (h : M x X e f) (hs : swapsWith e none pos.line X.env = pure false := by rfl) : S x bs X (.Expr e pos) (dDropM f) := ⟨fun ok W tk pO => ps_imp (ps_expr (h.run ok W tk) hs) fun D σ H ⟨β, φ, G, ρ, E, hb, h⟩ =>
  ⟨β, φ, G, ρ, E, hb.p, PstS.ofM h fun t ρ1 φ1 G1 H1 s1 E1 o1 h1 v fp r hn nd fr => h1 σ φ1 G1 H1 s1 E1 o1⟩⟩
def dAsgM (i : Nat) (f : Env → ResM T) : Env → ResS := fun ρ => (f ρ).bind fun t ρ' => .ok .next (ρ'.set i (some t))
theorem s_asgM {i : Nat} {n : Str} {e : Expr} {f : Env → ResM T} {p : Pos} (h : M x X e f) (hbs : bs i = false) (hi : X.N[i]? = some n) (hx : Loc X.env.scope n) (hf : X.fn n = true ∨ X.env.scope.names.lookup n = some .local)
    (hs : swapsWith e (some (.Name n p)) pos.line X.env = pure false := by rfl) : S x bs X (.Assign [.Name n p] e pos) (dAsgM i f) := ⟨fun ok W tk pO => ps_imp (ps_asg (h.run ok W tk) (pg_name ok.nd hi hx hf) hs) fun D σ H ⟨β, φ, G, ρ, E, hb, h⟩ =>
  ⟨β, φ, G, ρ, E, hb.p, PstS.ofM h fun t ρ1 φ1 G1 H1 s1 E1 o1 h1 v fp r hn nd fr =>
    h1 _ (fput φ1 i fp) G1 H1 s1 (E1.set r hn nd (fun a ha => ⟨(fr a ha).2.1, fun j _ z => (fr a ha).2.2 ⟨j, z⟩⟩) (hb.b i hbs)) fun a z => (ow_put z).elim (fun z => (fr a z).1.elim .inr .inl) fun ⟨j, _, z⟩ => o1 a ⟨j, z⟩⟩⟩
def dRetM (f : Env → ResM T) : Env → ResS := fun ρ => (f ρ).bind fun t ρ' => .ok (.ret t) ρ'
theorem s_retM {e : Expr} {f : Env → ResM T} (h : M x X e f) : S x bs X (.Return (some e) pos) (dRetM f) := ⟨fun ok W tk pO => ps_imp (ps_ret (h.run ok W tk)) fun D σ H ⟨β, φ, G, ρ, E, hb, h⟩ =>
  ⟨β, φ, G, ρ, E, hb.p, PstS.ofM h fun t ρ1 φ1 G1 H1 s1 E1 o1 h1 v fp r hn nd fr => h1 σ φ1 G1 H1 s1 E1 o1 v fp r hn nd fun a ha => ⟨(fr a ha).1, (fr a ha).2⟩⟩⟩
end
end Fn

/-! Fn18: stores into items, attributes, names. -/
namespace Fn
open PySem PySem.Spec L2
variable [Tbs]
section
variable {x : Tx} {β : Bo} {φ φ' : Nat → List Addr} {G G' G1 G0 H H' H0 H1 L : Hp} {W : XK} {X : Cx} {f : Fl} {fp : List Addr} {v : V} {σ : L2.St} {ρ : Env} {tg : Expr} {bs : Nat → Bool} {pos : Pos} {Po : Addr → Prop}
/-! ### what a store does -/
def dput (kvs : List (T × T)) (k v : T) : List (T × T) := if (kvs.any fun p => p.1.eqv k) = true then kvs.map (fun p => if p.1.eqv k = true then (p.1, v) else p) else kvs ++ [(k, v)]
theorem dput_of {κ : Type} [DecidableEq κ] (g : κ → T) (k : κ) (hk : ∀ l, (g l).eqv (g k) = decide (l = k)) {w : V} {u : T} (hw : RepS x G w u) {kvs : List (κ × V)} {ts : List T} (r : RepsS x G (kvs.map (·.2)) ts) :
    ∃ ts', dput ((kvs.map fun kv => g kv.1).zip ts) (g k) u = ((putK kvs k w).map fun kv => g kv.1).zip ts' ∧ RepsS x G ((putK kvs k w).map (·.2)) ts' := by
  have any : ∀ {kvs : List (κ × V)} {ts : List T}, RepsS x G (kvs.map (·.2)) ts → (((kvs.map fun kv => g kv.1).zip ts).any fun p => p.1.eqv (g k)) = kvs.any fun kv => decide (kv.1 = k) := by
    intro kvs
    induction kvs with
    | nil => intro ts r; rfl
    | cons kv kvs ih =>
      intro ts r
      cases r with
      | cons h r => rw [List.map_cons, List.zip_cons_cons, List.any_cons, List.any_cons, ih r, hk]
  have mp : ∀ {kvs : List (κ × V)} {ts : List T}, RepsS x G (kvs.map (·.2)) ts → ∃ ts', ((kvs.map fun kv => g kv.1).zip ts).map (fun p => if p.1.eqv (g k) = true then (p.1, u) else p) = ((kvs.map (fun kv => if kv.1 = k then (kv.1, w) else kv)).map fun kv => g kv.1).zip ts' ∧ RepsS x G ((kvs.map (fun kv => if kv.1 = k then (kv.1, w) else kv)).map (·.2)) ts' := by
    intro kvs
    induction kvs with
    | nil => intro ts r; cases r; exact ⟨[], rfl, .nil⟩
    | cons kv kvs ih =>
      intro ts r
      cases r with
      | @cons _ t0 _ ts0 h r =>
        obtain ⟨ts', e, q⟩ := ih r
        rw [List.map_cons, List.zip_cons_cons, List.map_cons, e]
        by_cases c : kv.1 = k
        · have c2 : (g kv.1).eqv (g k) = true := by rw [hk]; exact decide_eq_true c
          refine ⟨u :: ts', ?_, ?_⟩
          · rw [if_pos c2, List.map_cons, if_pos c, List.map_cons, List.zip_cons_cons]
          · rw [List.map_cons, if_pos c, List.map_cons]; exact .cons hw q
        · have c2 : ¬ (g kv.1).eqv (g k) = true := by rw [hk]; simpa using c
          refine ⟨t0 :: ts', ?_, ?_⟩
          · rw [if_neg c2, List.map_cons, if_neg c, List.map_cons, List.zip_cons_cons]
          · rw [List.map_cons, if_neg c, List.map_cons]; exact .cons h q
  unfold dput putK
  rw [any r]
  split
  · exact mp r
  · refine ⟨ts ++ [u], ?_, ?_⟩
    · rw [List.map_append, List.zip_append (by rw [kvs_len r])]; rfl
    · rw [List.map_append]; exact r.append (.cons hw .nil)
def wrSet : T → T → T → Option T
  | .lst .ow ts, .int i, u => match ixN ts.length i with
    | some k => some (.lst .ow (ts.set k u))
    | none => none
  | .dct .ow k kvs, s, u => if keyOk k s = true ∧ kvs.length < 10000000 then some (.dct .ow k (dput kvs s u)) else none
  | _, _, _ => none
def rSetTop (X : Cx) : TSet := fun o i v H Q => ∀ (pins : List (Addr × Obj)) (s : Shared) (σ : L2.St) (ov iv u : Value), Inv X pins σ H s → RelV o ov → RelV i iv → RelV v u → wpAny (model X.prog X.w) X.A (setItem ov iv u) (fun _ s' => ∃ H', Inv X pins σ H' s' ∧ Q H') X.xe s
theorem set_top : PSet X (rSetTop X) := fun pins s σ H o i v ov iv u Q I ro ri rv h => h pins s σ ov iv u I ro ri rv
theorem kvs_zlen {κ : Type} {ws : List (κ × V)} {ts : List T} {g : κ → T} (r : RepsS x G (ws.map (·.2)) ts) : ((ws.map fun kv => g kv.1).zip ts).length = ws.length := by
  rw [List.length_zip, List.length_map, ← r.length, List.length_map]; exact Nat.min_self _
theorem set_sem (ok : XOk x X) {o i w : V} {t s u t' : T} {f f2 : List Addr} {Q : Hp → Prop} (sub : Sub G H) (ro : Rep x G H o t f) (ri : Rep x G H i s f2) (rw' : RepS x G w u) (e : wrSet t s u = some t')
    (k : ∀ a ∈ f, ∀ ob ub, H a = some ob → Wr ob → Wr ub → t'.np1 = true → Rep x G (upd H a ub) o t' f → Q (upd H a ub)) : rSetTop X o i w H Q := fun pins sh σ ov iv uv I rov riv ruv => by
  have hu : X.A.units + 1 < cLine := by have := ok.room.units; omega
  unfold wrSet at e
  split at e
  · split at e
    · rename_i j e1
      cases e
      obtain ⟨a, ws, rfl, ha, q, rfl⟩ := ro.lstO
      cases ri.int
      rw [← q.length] at e1
      exact set_list pins sh σ H _ _ _ ov iv uv Q I rov riv ruv ⟨a, ws, _, j, rfl, rfl, ha, e1, k a (by simp) _ _ ha (wr_lst _) (wr_lst _) rfl (.lst .ow ⟨by simp, by simp⟩ upd_same (q.set rw' j))⟩
    · cases e
  · rename_i dk kvs
    split at e
    · rename_i hc
      cases e
      have hz : sizeLine = 16777216 := sizeLine_eq
      cases dk with
      | k =>
        obtain ⟨key, rfl⟩ := isKey_kT hc.1
        cases ri.kT
        cases ro with
        | s h => cases h
        | @dctK a ws ts f h r =>
          obtain ⟨ts', e2, r2⟩ := dput_of (x := x) (G := G) Fn.kT key (fun l => kT_eqv l key) rw' r
          rw [kvs_zlen r] at hc
          exact set_dict hu pins sh σ H _ _ _ ov iv uv Q I rov riv ruv ⟨a, _, rfl, .inl ⟨ws, key, h, rfl, by omega, rfl⟩, k a (by simp [fpo]) _ _ h (wr_dK _) (wr_dK _) rfl (by rw [e2]; exact .dctK .ow upd_same r2)⟩
      | t =>
        cases s with
        | tup ss =>
          obtain ⟨key, rfl⟩ := isKeys_kT hc.1
          obtain ⟨b, vs, rfl, hb, r3⟩ := ri.tup_inv sub
          cases r3.kT
          cases ro with
          | s h => cases h
          | @dctT a ws ts f h r =>
            obtain ⟨ts', e2, r2⟩ := dput_of (x := x) (G := G) (fun k : List Key => T.tup (k.map Fn.kT)) key (fun l => kTs_eqv l key) rw' r
            have hc := hc
            rw [kvs_zlen (g := fun k : List Key => T.tup (k.map Fn.kT)) r] at hc
            exact set_dict hu pins sh σ H _ _ _ ov iv uv Q I rov riv ruv ⟨a, _, rfl, .inr ⟨ws, key, b, h, rfl, hb, by omega, rfl⟩, k a (by simp [fpo]) _ _ h (wr_dT _) (wr_dT _) rfl (by rw [e2]; exact .dctT .ow upd_same r2)⟩
        | _ => cases hc.1
    · cases e
  · cases e
def setEnd (p : Pth) (ρ : Env) (u s : T) : ResS := match getP p ρ with
  | some t => match wrSet t s u with
    | some t' => .ok .next (setP p ρ t')
    | none => .stuck
  | none => .stuck
def dSetI (p : Pth) (fi fv : Env → Res T) : Env → ResS := fun ρ => (fv ρ).st ρ fun u => match u.frz with
  | none => .stuck
  | some u' => match getP p ρ with
    | some _ => (fi ρ).st ρ fun s => setEnd p ρ u' s
    | none => .stuck
theorem Stp.share1 {v : V} {u u' : T} {P : Addr → Prop} (s : Stp P G H G1 H1) (r : Rep x G1 H1 v u fp) (fr : ∀ a ∈ fp, (Vac H a ∨ P a) ∧ G1 a = none) (e : u.frz = some u') : ∃ G2, Stp P G H G2 H1 ∧ RepS x G2 v u' :=
  ⟨add G1 H1 fp, s.share r.there fr, r.frz (fun a ha => (fr a ha).2) e⟩
theorem s_setI {o i e : Expr} {p : Pth} {fi fv : Env → Res T} {tp : Pos} (hp : PathE x X o p) (hi : P x X i fi) (hv : P x X e fv) (hs : swapsWith e (some (.Subscript o i tp)) pos.line X.env = pure false := by rfl)
    (ha : ∀ v, assign (.Subscript o i tp) X.env v = (do { let c ← holding [v] (eval o X.env); let k ← holding [v, c] (eval i X.env); standAt tp; holding [v, c, k] (setItem c k v); release [v, c, k] [] }) := by intro _; rfl) : S x bs X (.Assign [.Subscript o i tp] e pos) (dSetI p fi fv) := ⟨fun ok W tk pO => by
  obtain ⟨te, pe, k⟩ := hp.run ok
  refine ps_imp (ps_asg (hv.run ok W tk) (pg_sub pe (hi.run ok W tk) set_top ha) hs) fun D σ H ⟨β, φ, G, ρ, E, hb, h⟩ => ⟨β, φ, G, ρ, E, PstS.bindP E h fun u G1 H1 s1 h1 v fp r nd fr => ?_⟩
  split at h1
  · exact h1.elim
  · rename_i u' e0
    split at h1
    · rename_i t e1
      obtain ⟨G2, s2, rv⟩ := Stp.share1 s1 r (fun a ha => ⟨.inl (fr a ha).1, (fr a ha).2⟩) e0
      have E2 := E.step s2
      refine k β φ G2 H1 σ ρ t _ E2 hb.p e1 fun w f A => ⟨β, φ, G2, ρ, E2, PstS.bindP E2 (PstS.later h1 s2.pure fun a z => .inl z) fun s G3 H3 s3 h3 z fz rz _ _ => ?_⟩
      unfold setEnd at h3
      rw [e1] at h3
      simp only at h3
      cases e3 : wrSet t s u' with
      | none => rw [e3] at h3; exact h3.elim
      | some t' =>
        rw [e3] at h3
        have gn : ∀ a ∈ f, G3 a = none := fun a ha => s3.notIn (A.own a ha).2 (A.rep.there a ha) (fun z => z)
        refine set_sem ok s3.sub (A.rep.step s3) rz (rv.step s3) e3 fun a ha ob ub hob wo wu hn1 rv' => ?_
        exact h3 σ φ G3 (upd H3 a ub) (s3.upd (A.own a ha).1 (gn a ha) hob wo wu) (A.put G3 H3 s3 a ha ob ub t' hob wo wu hn1 rv') fun b z => .inl z
    · exact h1.elim⟩
end
end Fn

/-! Fn19: augmented stores, several targets. -/
namespace Fn
open PySem PySem.Spec L2
variable [Tbs]
section
variable {x : Tx} {β : Bo} {φ φ' : Nat → List Addr} {G G' G1 G0 H H' H0 H1 L : Hp} {W : XK} {X : Cx} {f : Fl} {fp : List Addr} {v : V} {σ : L2.St} {ρ : Env} {tg : Expr} {bs : Nat → Bool} {pos : Pos} {Po : Addr → Prop}
def rGetTop (X : Cx) : V → V → Hp → VK → Prop := fun o i H Q => ∀ (pins : List (Addr × Obj)) (s : Shared) (σ : L2.St) (ov iv : Value), Inv X pins σ H s → RelV o ov → RelV i iv → wpAny (model X.prog X.w) X.A (getItem ov iv) (EP X pins σ Q) X.xe s
theorem get_top : PGet X (rGetTop X) := fun pins s σ H o i ov iv Q I ro ri h => h pins s σ ov iv I ro ri
def rdIx : T → T → Option T
  | .lst _ ts, .int i => if 0 ≤ i then atI ts i else none
  | .dct _ k kvs, s => if keyOk k s = true then dget kvs s else none
  | _, _ => none
theorem get_sem (ok : XOk x X) {o i : V} {t s u : T} {f f2 : List Addr} {Q : VK} (sub : Sub G H) (ro : Rep x G H o t f) (ri : Rep x G H i s f2) (e : rdIx t s = some u) (k : ∀ w, RepS x G w u → Q w H) : rGetTop X o i H Q := fun pins sh σ ov iv I rov riv => by
  unfold rdIx at e
  split at e
  · rename_i fl ts i
    split at e
    · rename_i hi0
      obtain ⟨p, vs, rfl, hp, r⟩ := ro.lst_inv sub
      cases ri.int
      obtain ⟨w, e2, r2⟩ := atI_reps r e
      cases rov
      obtain ⟨tk, rfl⟩ := riv
      obtain ⟨its, rr, pl, hz⟩ := I.list (.inl (.inl hp))
      obtain ⟨j, h1, h2, h3, h4, h5⟩ := atI_get e2
      obtain ⟨w', ew, rw'⟩ := rr.get h2
      have hl := rr.length
      have hn := line63
      have hj : i.toNat = j := by
        rw [seqIndex_of hi0 h5] at h1
        exact Option.some.inj h1
      exact wpAny_getItem_list pl.isList hi0 (by omega) (by rw [hj]; simpa using ew) ⟨w, H, I, rw', k w r2⟩
    · cases e
  · split at e
    · rename_i c
      obtain ⟨p, o, rfl, g, i1, i2⟩ := ro.dget sub ri c
      obtain ⟨w, e2, r2⟩ := i1 _ e
      subst e2
      obtain rfl : ov = .ref p := rov
      have hu1 : X.A.units + 1 < cLine := by have := ok.room.units; omega
      exact d_getItem hu1 I g riv fun w' s3 I3 rw' => ⟨w, H, I3, rw', k w r2⟩
    · cases e
  · cases e
def augEnd (op : Int → Int → Int) (p : Pth) (ρ : Env) (s old u : T) : ResS := match old, u with
  | .int a, .int b => setEnd p ρ (.int (op a b)) s
  | _, _ => .stuck
def augGet (op : Int → Int → Int) (p : Pth) (ρ : Env) (fe : Env → Res T) (t s : T) : ResS := match rdIx t s with
  | some old => (fe ρ).st ρ fun u => augEnd op p ρ s old u
  | none => .stuck
def dAugI (op : Int → Int → Int) (p : Pth) (fi fe : Env → Res T) : Env → ResS := fun ρ => match getP p ρ with
  | some t => (fi ρ).st ρ fun s => augGet op p ρ fe t s
  | none => .stuck
theorem s_augI {o i e : Expr} {p : Pth} {fi fe : Env → Res T} {tp : Pos} {op : Operator} {g : Int → Int → Int} (hop : PIp X op (ipI g)) (hp : PathE x X o p) (hi : P x X i fi) (he : P x X e fe)
    (ha : ∀ ov iv new, augStore i ov iv new = (do holding [new, ov, iv] (setItem ov iv new); release [new, ov, iv] []; pure .next) := by intros; rfl) : S x bs X (.AugAssign (.Subscript o i tp) op e pos) (dAugI g p fi fe) := ⟨fun ok W tk pO => by
  obtain ⟨te, pe, k⟩ := hp.run ok
  refine ps_imp (ps_augS pe (hi.run ok W tk) get_top (he.run ok W tk) hop set_top ha) fun D σ H ⟨β, φ, G, ρ, E, hb, h⟩ => ?_
  unfold dAugI at h
  split at h
  · rename_i t e1
    refine k β φ G H σ ρ t _ E hb.p e1 fun w f A => ⟨β, φ, G, ρ, E, PstS.bindP E h fun s G1 H1 s1 h1 z fz rz _ _ => ?_⟩
    unfold augGet at h1
    cases e2 : rdIx t s with
    | none => rw [e2] at h1; exact h1.elim
    | some old =>
      rw [e2] at h1
      have E1 := E.step s1
      refine get_sem ok s1.sub (A.rep.step s1) rz e2 fun wo ro => ⟨β, φ, G1, ρ, E1, PstS.bindP E1 (PstS.later h1 s1.pure fun a z => .inl z) fun u G2 H2 s2 h2 zu fu ru _ _ => ?_⟩
      unfold augEnd at h2
      split at h2
      · rename_i a b
        cases Rep.int (H := H1) (.s ro)
        cases ru.int
        refine ⟨a, b, rfl, rfl, ?_⟩
        unfold setEnd at h2
        rw [e1] at h2
        simp only at h2
        cases e3 : wrSet t s (.int (g a b)) with
        | none => rw [e3] at h2; exact h2.elim
        | some t' =>
          rw [e3] at h2
          have s12 := s1.trans s2
          have gn : ∀ a ∈ f, G2 a = none := fun a ha => s12.notIn (A.own a ha).2 (A.rep.there a ha) (fun z => z)
          refine set_sem ok s12.sub (A.rep.step s12) (rz.step s2) (.int _) e3 fun c hc ob ub hob wo' wu hn1 rv' => ?_
          exact h2 σ φ G2 (upd H2 c ub) (s2.upd (A.own c hc).1 (gn c hc) hob wo' wu) (A.put G2 H2 s12 c hc ob ub t' hob wo' wu hn1 rv') fun b z => .inl z
      · exact h2.elim
  · exact h.elim⟩
def augN (op : Int → Int → Int) (i : Nat) (ρ : Env) (old u : T) : ResS := match old, u with
  | .int a, .int b => .ok .next (ρ.set i (some (.int (op a b))))
  | _, _ => .stuck
def dAug (op : Int → Int → Int) (i : Nat) (fe : Env → Res T) : Env → ResS := fun ρ => match ρ[i]? with
  | some (some t) => (fe ρ).st ρ fun u => augN op i ρ t u
  | _ => .stuck
theorem s_aug {i : Nat} {n : Str} {e : Expr} {fe : Env → Res T} {tp : Pos} {op : Operator} {g : Int → Int → Int} (hop : PIp X op (ipI g)) (he : P x X e fe) (hbs : bs i = false) (hi : X.N[i]? = some n) (hx : Loc X.env.scope n) (hf : X.fn n = true ∨ X.env.scope.names.lookup n = some .local) :
    S x bs X (.AugAssign (.Name n tp) op e pos) (dAug g i fe) := ⟨fun ok W tk pO => ps_imp (ps_aug ok.nd hi hx (he.run ok W tk) hop hf) fun D σ H ⟨β, φ, G, ρ, E, hb, h⟩ => by
  unfold dAug at h
  split at h
  · rename_i t e1
    obtain ⟨v, e2, r, hn⟩ := E.rep i t e1
    refine ⟨v, e2, β, φ, G, ρ, E, PstS.bindP E h fun u G1 H1 s1 h1 z fz rz _ _ => ?_⟩
    unfold augN at h1
    split at h1
    · cases r.int
      cases rz.int
      exact ⟨_, _, rfl, rfl, h1 _ (fput φ i []) G1 H1 s1.pure ((E.step s1).set (.s (.int _)) rfl .nil (fun _ z => by cases z) (hb.b i hbs)) fun a z => (ow_put z).elim (fun z => by cases z) fun ⟨j, _, z⟩ => .inl ⟨j, z⟩⟩
    · exact h1.elim
  · exact h.elim⟩
/-! ### several targets -/
def asgTEnd (g : T → Env → Option Env) (ρ : Env) (t : T) : ResS := match t.frz with
  | some t' => match g t' ρ with
    | some ρ' => .ok .next ρ'
    | none => .stuck
  | none => .stuck
def dAsgT (g : T → Env → Option Env) (f : Env → Res T) : Env → ResS := fun ρ => (f ρ).st ρ fun t => asgTEnd g ρ t
theorem s_asgT {e tg : Expr} {f : Env → Res T} {g : T → Env → Option Env} {t : TG} {ws : List Nat} (ht : PGo x X tg t) (hg : TgSem x ws g t) (hw : ∀ i ∈ ws, bs i = false) (h : P x X e f)
    (hs : swapsWithSole [tg] e pos.line X.env = pure false := by rfl) (hw2 : swappedStores [tg] e X.env = pure none := by rfl) (h1 : (assignEach [tg] X.env).map (·.2) = [assign tg X.env] := by rfl) : S x bs X (.Assign [tg] e pos) (dAsgT g f) := ⟨fun ok W tk pO => ps_imp (ps_asg (h.run ok W tk) (ht.run ok) hs hw2 h1) fun D σ H ⟨β, φ, G, ρ, E, hb, h⟩ =>
  ⟨β, φ, G, ρ, E, PstS.bindP E h fun u G1 H1 s1 h1 z fz rz nd fr => by
    unfold asgTEnd at h1
    cases e0 : u.frz with
    | none => rw [e0] at h1; exact h1.elim
    | some u' =>
      rw [e0] at h1
      obtain ⟨G2, s2, rv⟩ := Stp.share1 s1 rz (fun a ha => ⟨.inl (fr a ha).1, (fr a ha).2⟩) e0
      simp only at h1
      cases e1 : g u' ρ with
      | none => rw [e1] at h1; exact h1.elim
      | some ρ' =>
        rw [e1] at h1
        exact hg β φ G2 H1 σ ρ ρ' z u' _ (E.step s2) (fun i hi => hb.b i (hw i hi)) rv e1 fun σ' φ' E' o _ _ => h1 σ' φ' G2 H1 s2.pure E' fun a z => .inl (o a z)⟩⟩
theorem Reps.twoF {vs : List V} {s t : T} (h : Reps x G H vs [s, t] fp) : ∃ v w f1 f2, vs = [v, w] ∧ Rep x G H v s f1 ∧ Rep x G H w t f2 ∧ fp = f1 ++ f2 := by
  cases h with | cons h r => cases r with | cons h2 r => cases r; exact ⟨_, _, _, _, rfl, h, h2, by rw [List.append_nil]⟩
def parEnd (i j : Nat) (ρ : Env) : List T → ResS
  | [t, u] => if (t.np && u.np) = true then .ok .next ((ρ.set i (some t)).set j (some u)) else .stuck
  | _ => .stuck
def dPar (i j : Nat) (fa : Env → Res (List T)) : Env → ResS := fun ρ => (fa ρ).st ρ (parEnd i j ρ)
theorem s_par {i j : Nat} {n m : Str} {a b : Expr} {fa : Env → Res (List T)} {px py pt : Pos} {kt k2 pt2} (ha : PAr x X [a, b] fa) (hbi : bs i = false) (hbj : bs j = false) (hi : X.N[i]? = some n) (hj : X.N[j]? = some m) (hij : i ≠ j)
    (hx : X.env.scope.names.lookup n = some .local) (hy : X.env.scope.names.lookup m = some .local)
    (hw : swappedStores [.Tuple [.Name n px, .Name m py] kt pt] (.Tuple [a, b] k2 pt2) X.env = pure (some [n, m]))
    (hs : swapsWithSole [.Tuple [.Name n px, .Name m py] kt pt] (.Tuple [a, b] k2 pt2) pos.line X.env = pure false := by rfl) :
    S x bs X (.Assign [.Tuple [.Name n px, .Name m py] kt pt] (.Tuple [a, b] k2 pt2) pos) (dPar i j fa) := ⟨fun ok W tk pO => ps_imp (ps_par ok.calm ok.nd hi hj hij hx hy (ha.run ok W tk) hw hs) fun D σ H ⟨β, φ, G, ρ, E, hb, h⟩ =>
  ⟨β, φ, G, ρ, E, PstS.bindP E h fun ts G1 H1 s1 h1 vs fp r nd fr => by
    unfold parEnd at h1
    split at h1
    · rename_i t u
      split at h1
      · rename_i hc
        obtain ⟨v, w, f1, f2, rfl, r1, r2, rfl⟩ := r.twoF
        rw [Bool.and_eq_true] at hc
        have nd' := List.nodup_append.mp nd
        have fr' : ∀ a ∈ f1 ++ f2, ∀ k, a ∉ φ k := fun a ha k z => (E.dis k a z).2.ne (fr a ha).1
        have E1 := (E.step s1).set r1 hc.1 nd'.1 (fun a ha => ⟨(fr a (List.mem_append_left _ ha)).2, fun k _ => fr' a (List.mem_append_left _ ha) k⟩) (hb.b i hbi)
        have E2 := E1.set (i := j) r2 hc.2 nd'.2.1 (fun a ha => ⟨(fr a (List.mem_append_right _ ha)).2, fun k _ z => by
          unfold fput at z
          split at z
          · exact nd'.2.2 a z a ha rfl
          · exact fr' a (List.mem_append_right _ ha) k z⟩) (hb.b j hbj)
        refine ⟨v, w, rfl, h1 _ _ G1 H1 s1.pure E2 fun a z => ?_⟩
        rcases ow_put z with z | ⟨k, _, z⟩
        · exact .inr (fr a (List.mem_append_right _ z)).1
        · rcases ow_put ⟨k, z⟩ with z | ⟨k, _, z⟩
          · exact .inr (fr a (List.mem_append_left _ z)).1
          · exact .inl ⟨k, z⟩
      · exact h1.elim
    · exact h1.elim⟩⟩
end
end Fn

/-! Fn20: methods that read. -/
namespace Fn
open PySem PySem.Spec L2
variable [Tbs]
section
variable {x : Tx} {β : Bo} {φ φ' : Nat → List Addr} {G G' G1 G0 H H' H0 H1 L : Hp} {W : XK} {X : Cx} {f : Fl} {fp : List Addr} {v : V} {σ : L2.St} {ρ : Env} {tg : Expr} {bs : Nat → Bool} {pos : Pos} {Po : Addr → Prop}
/-- it is of the type ty -/
def TyTop (X : Cx) (ty : String) (v : V) (H : Hp) : Prop := ∀ (pins : List (Addr × Obj)) (s : Shared) (σ : L2.St) (vv : Value), Inv X pins σ H s → RelV v vv → s.TypeIs vv ty ∧ ∀ a, vv = .ref a → ∃ ob, s.heap.get? a = some ob ∧ ob.dict = none
def isTyR : String → T → Bool
  | "list", .lst _ _ => true
  | "list", .scr _ => true
  | "dict", .dct _ _ _ => true
  | "str", .str _ => true
  | _, _ => false
theorem Rep.tyR {ty : String} {t : T} (K : X.K = x.K) (s : Sub G H) (h : Rep x G H v t fp) (e : isTyR ty t = true) : TyTop X ty v H := fun pins sh σ vv I rv => by
  unfold isTyR at e
  split at e
  · obtain ⟨a, vs, rfl, ha, _⟩ := h.lst_inv s
    exact tyV_is I rv (.inl ⟨rfl, vs, .inl (.inl ha)⟩)
  · obtain ⟨a, rfl, hp⟩ := h.scr_inv s
    exact tyV_is I rv (.inl ⟨rfl, _, by rw [K]; exact hp⟩)
  · rename_i f k kvs
    cases k with
    | k =>
      obtain ⟨a, ws, ts, rfl, rd, _, _⟩ := h.dctK_inv s
      cases rv
      obtain ⟨_, _, vs, _, dd⟩ := dk_rd I.hok rd
      refine ⟨dd.typeIs, fun b q => ?_⟩
      cases q
      obtain ⟨ob, _, _, h1, h2, _⟩ := dd
      exact ⟨ob, h1, h2.2.1⟩
    | t =>
      obtain ⟨a, ws, ts, rfl, rd, _, _⟩ := h.dctT_inv s
      cases rv
      obtain ⟨_, _, vs, _, dd⟩ := dt_rd I.hok rd
      refine ⟨dd.typeIs, fun b q => ?_⟩
      cases q
      obtain ⟨ob, _, _, h1, h2, _⟩ := dd
      exact ⟨ob, h1, h2.2.1⟩
  · cases h.str
    exact tyV_is I rv rfl
  · cases e
/-- a method's reading: the receiver's, the arguments', then the method's own by values; the receiver's type is told of the state -/
def tRd0 (X : Cx) (ty : String) (r : V → List V → Hp → VK → Prop) (tr : TE) : TE := fun σ H Q => tr σ H fun o H1 => TyTop X ty o H1 ∧ r o [] H1 Q
def tRd (X : Cx) (ty : String) (r : V → List V → Hp → VK → Prop) (tr : TE) (tv : TA) : TE := fun σ H Q => tr σ H fun o H1 => TyTop X ty o H1 ∧ tv σ H1 fun xs H2 => r o xs H2 Q
theorem pe_rd0 {o : Expr} {name : Str} {apos : Pos} {ty id : String} {tr : TE} {r : V → List V → Hp → VK → Prop} (pa : PlainAttrs ty) (slot : Slot ty name id) (hty : typeOf (.builtin id) = pure (.type "method_descriptor")) (rule : MtR X id r) (ho : PE X o tr) (mc : Mc0 X o name apos pos) :
    PE X (.Call (.Attribute o name apos) [] [] pos) (tRd0 X ty r tr) where
  run pins s σ H Q I h := wpAny_Call_method0_late mc.base mc.line <| thn (ho.run pins s σ H _ I h) fun recv s1 ⟨w, H1, I1, rw', T, q⟩ =>
    ⟨ty, id, pa, slot, hty, (T pins s1 σ recv I1 rw').1, (T pins s1 σ recv I1 rw').2, Calls.callWith_builtin rfl (PySem.evalArgs_none (rule pins s1 σ H1 w [] recv [] Q I1 rw' .nil q))⟩
theorem pe_rd {o a : Expr} {as : List Expr} {name : Str} {apos : Pos} {ty id : String} {tr : TE} {tv : TA} {r : V → List V → Hp → VK → Prop} (pa : PlainAttrs ty) (slot : Slot ty name id) (hty : typeOf (.builtin id) = pure (.type "method_descriptor")) (rule : MtR X id r) (ho : PE X o tr) (hv : PA X (a :: as) tv) (mc : Mc X o name apos pos a as) :
    PE X (.Call (.Attribute o name apos) (a :: as) [] pos) (tRd X ty r tr tv) where
  run pins s σ H Q I h := wpAny_Call_method_late mc.base mc.few mc.line rfl <| thn (ho.run pins s σ H _ I h) fun recv s1 ⟨w, H1, I1, rw', T, q⟩ => by
    have noStar : ((backTo pos (starEach (a :: as) X.env)).any fun t => t.1) = false := by
      rw [mc.star]
      exact (Bool.false_or _).trans mc.plain
    have args := hv.run pos pins s1 σ H1 _ I1 q
    refine ⟨ty, id, pa, slot, hty, (T pins s1 σ recv I1 rw').1, (T pins s1 σ recv I1 rw').2, Calls.callWith_builtin noStar ?_⟩
    rw [mc.star] at args ⊢
    exact Calls.evalArgs_plain (thn args fun us s2 ⟨ws, H2, I2, rs, q2⟩ => rule pins s2 σ H2 w ws recv us Q I2 rw' rs q2)
/-- the method id reads its receiver as g does -/
def RdSem (x : Tx) (X : Cx) (id : String) (g : T → List T → Res T) : Prop := XOk x X → ∀ (W : XK) (G H H0 : Hp) (v : V) (t : T) (f f2 : List Addr) (vs : List V) (ts : List T) (Q : V → Hp → Prop), Sub G H → Rep x G H v t f → Reps x G H vs ts f2 → (∀ a, Vac H a → Vac H0 a) →
  Pst x W G H (g t ts) (Made x H0 Q) → ∀ (pins : List (Addr × Obj)) (sh : Shared) (σ : L2.St) (vv : Value) (us : List Value), Inv X pins σ H sh → RelV v vv → Vals vs us → wpAny (model X.prog X.w) X.A (call (.builtin id) (vv :: us)) (EP X pins σ Q) X.xe sh
def dRdm (ty : String) (g : T → List T → Res T) (fo : Env → Res T) (fa : Env → Res (List T)) : Env → Res T := fun ρ => (fo ρ).bind fun t => if isTyR ty t = true then (fa ρ).bind fun ts => g t ts else .stuck
theorem p_rdm {o : Expr} {name : Str} {apos : Pos} {ty id : String} {es : List Expr} {e : Expr} {g : T → List T → Res T} {fo : Env → Res T} {fa : Env → Res (List T)} (pa : PlainAttrs ty) (slot : Slot ty name id) (hty : typeOf (.builtin id) = pure (.type "method_descriptor")) (hs : RdSem x X id g) (ho : P x X o fo) (ha : PAr x X (e :: es) fa)
    (mc : Mc X o name apos pos e es := by exact ⟨rfl, rfl, rfl, rfl, rfl⟩) : P x X (.Call (.Attribute o name apos) (e :: es) [] pos) (dRdm ty g fo fa) := ⟨fun ok W tk => pe_imp (pe_rd pa slot hty (mt_top id) (ho.run ok W tk) (ha.run ok W tk) mc) fun σ H Q ⟨β, φ, G, ρ, E, h⟩ =>
  ⟨β, φ, G, ρ, E, Pst.bind h fun t G1 H1 s1 h1 v f r nd fr => by
    split at h1
    · rename_i e0
      refine ⟨r.tyR ok.K s1.sub e0, β, φ, G1, ρ, E.step s1, Pst.bind (h1.later s1) fun ts G2 H2 s2 h2 vs f2 r2 _ _ => ?_⟩
      exact hs ok W G2 H2 H v t f f2 vs ts Q s2.sub (r.step s2) r2 (fun a z => s1.ext.back (s2.ext.back z)) (h2.later s2)
    · exact h1.elim⟩⟩
theorem p_rdm0 {o : Expr} {name : Str} {apos : Pos} {ty id : String} {g : T → List T → Res T} {fo : Env → Res T} (pa : PlainAttrs ty) (slot : Slot ty name id) (hty : typeOf (.builtin id) = pure (.type "method_descriptor")) (hs : RdSem x X id g) (ho : P x X o fo) (mc : Mc0 X o name apos pos := by exact ⟨rfl, rfl⟩) :
    P x X (.Call (.Attribute o name apos) [] [] pos) (dRdm ty g fo dNil) := ⟨fun ok W tk => pe_imp (pe_rd0 pa slot hty (mt_top id) (ho.run ok W tk) mc) fun σ H Q ⟨β, φ, G, ρ, E, h⟩ =>
  ⟨β, φ, G, ρ, E, Pst.bind h fun t G1 H1 s1 h1 v f r nd fr => by
    split at h1
    · rename_i e0
      refine ⟨r.tyR ok.K s1.sub e0, ?_⟩
      exact hs ok W G1 H1 H v t f [] [] [] Q s1.sub r .nil (fun a z => s1.ext.back z) (h1.later s1)
    · exact h1.elim⟩⟩
/-! ### list.count, list.index -/
def caCount : T → List T → Res T
  | .lst _ ts, [u] => if (u.dok 63 && doks 63 ts) = true then .ok (.int (ts.countP fun t => t.eqv u : Nat)) else .stuck
  | _, _ => .stuck
theorem count_dat {s : T} {d : PyData} (hs : s.dat = some d) : ∀ {xs : List T} {ds : List PyData}, datAll xs = some ds → (ds.countP fun z => PyData.eqv z d) = xs.countP fun t => t.eqv s
  | [], _, e => by cases e; rfl
  | t :: r, _, e => by
    unfold datAll at e
    split at e
    · rename_i d' ds e1 e2
      cases e
      rw [List.countP_cons, List.countP_cons, eqv_dat t s d' d e1 hs, count_dat hs e2]
    · cases e
theorem sem_count : RdSem x X "list.count" caCount := fun ok W G H H0 v t f f2 vs ts Q sub r rs l h pins sh σ vv us I rv ru => by
  have hu := ok.room.units
  unfold caCount at h
  split at h
  · split at h
    · rename_i fl ts u hc
      rw [Bool.and_eq_true] at hc
      obtain ⟨a, ws, rfl, ha, q⟩ := r.lst_inv sub
      obtain ⟨w, rfl, rw'⟩ := rs.one
      obtain ⟨d, e1, c1, l1⟩ := dok_dat hc.1
      obtain ⟨ds, e2, c2, l2⟩ := doks_dat hc.2
      have hd : Dp X.K H w d := by rw [ok.K]; exact rw'.dp sub e1
      have he : DpAll X.K H ws ds := by rw [ok.K]; exact q.dp sub e2
      cases rv
      cases ru with
      | cons r1 rt =>
        rename_i uy ut
        cases rt
        obtain ⟨as, q1⟩ := Dp.reads I d w uy hd r1
        obtain ⟨its, rv, ⟨⟨cls, dd, data, sls⟩, n, ho, hcl, hdn, hdt⟩, hlen⟩ := I.list (.inl (.inl ha))
        simp only at hcl hdt
        subst hcl hdt
        obtain ⟨bs', h4⟩ := Dp.readsAll I ds _ its he rv
        have hmap : its.map (SeqAt.readOf sh.heap) = ds := SeqAt.readsAll_map ds its bs' c2 h4
        have hm : X.A.units + 1 + min (PyData.depthAll ds) d.depth < cLine := by omega
        refine call_meets PySem.F.slot_list_count ⟨_, ho, rfl⟩ PySem.F.entry_list_count (PySem.F.args_list_count_2 _ _) (SeqAt.list_countAt a its.toArray n dd sls uy (fun u => PyData.eqv (SeqAt.readOf sh.heap u) d)) ⟨ho, SeqAt.items_eqAt (vs := its.toArray) (show ReadsAll sh.heap its.toArray.toList ds bs' from h4) q1 c2 c1 hm, ?_⟩
        have ec : (its.toArray.toList.countP fun u => PyData.eqv (SeqAt.readOf sh.heap u) d) = ts.countP fun t => t.eqv u := by
          rw [← count_dat e1 e2, ← hmap, List.countP_map]; rfl
        rw [ec]
        exact ⟨.int _, H, I.tok _, ⟨_, rfl⟩, h.scal sub (.int _)⟩
    · exact h.elim
  · exact h.elim
def caIndex : T → List T → Res T
  | .lst _ ts, [u] => if (u.dok 63 && doks 63 ts) = true then (match ts.findIdx? fun t => t.eqv u with
    | some j => .ok (.int (j : Nat))
    | none => .stuck) else .stuck
  | _, _ => .stuck
theorem idx_dat {s : T} {d : PyData} (hs : s.dat = some d) {xs : List T} {ds : List PyData} (e : datAll xs = some ds) : (ds.findIdx? fun z => PyData.eqv z d) = xs.findIdx? fun t => t.eqv s := by
  induction xs generalizing ds with
  | nil => cases e; rfl
  | cons t r ih =>
    unfold datAll at e
    split at e
    · rename_i d' ds e1 e2
      cases e
      rw [List.findIdx?_cons, List.findIdx?_cons, eqv_dat t s d' d e1 hs, ih e2]
    · cases e
theorem mapD_all {s : T} {xs : List T} {ds : List PyData} (e : datAll xs = some ds) : True := trivial
theorem sem_index : RdSem x X "list.index" caIndex := fun ok W G H H0 v t f f2 vs ts Q sub r rs l h pins sh σ vv us I rv ru => by
  have hu := ok.room.units
  unfold caIndex at h
  split at h
  · split at h
    · rename_i fl ts u hc
      rw [Bool.and_eq_true] at hc
      split at h
      · rename_i j ej
        obtain ⟨a, ws, rfl, ha, q⟩ := r.lst_inv sub
        obtain ⟨w, rfl, rw'⟩ := rs.one
        obtain ⟨d, e1, c1, l1⟩ := dok_dat hc.1
        obtain ⟨ds, e2, c2, l2⟩ := doks_dat hc.2
        have hd : Dp X.K H w d := by rw [ok.K]; exact rw'.dp sub e1
        have he : DpAll X.K H ws ds := by rw [ok.K]; exact q.dp sub e2
        rw [← idx_dat e1 e2, List.findIdx?_eq_some_iff_getElem] at ej
        obtain ⟨hj, ej1, ej2⟩ := ej
        cases rv
        cases ru with
        | cons r1 rt =>
          rename_i uy ut
          cases rt
          obtain ⟨as, q1⟩ := Dp.reads I d w uy hd r1
          obtain ⟨its, rv, ⟨⟨cls, dd, data, sls⟩, n, ho, hcl, hdn, hdt⟩, hlen⟩ := I.list (.inl (.inl ha))
          simp only at hcl hdt
          subst hcl hdt
          obtain ⟨bs', h4⟩ := Dp.readsAll I ds _ its he rv
          have hmap : its.map (SeqAt.readOf sh.heap) = ds := SeqAt.readsAll_map ds its bs' c2 h4
          have hm : X.A.units + 1 + min (PyData.depthAll ds) d.depth < cLine := by omega
          have hsl := sizeLine_eq
          have hvl := rv.length
          have hln : its.length = ds.length := by rw [← hmap, List.length_map]
          have at_ : ∀ (m : Nat) (hm : m < its.toArray.size) (hm2 : m < ds.length), SeqAt.readOf sh.heap its.toArray[m] = ds[m] := by
            intro m hm hm2
            have hml : m < its.length := by simpa using hm
            have e3 : ds[m]? = (its.map (SeqAt.readOf sh.heap))[m]? := by rw [hmap]
            rw [List.getElem?_map, List.getElem?_eq_getElem hml, List.getElem?_eq_getElem hm2] at e3
            simpa using (Option.some.inj e3).symm
          have hjl : j < its.toArray.size := by rw [List.size_toArray]; omega
          refine call_meets PySem.F.slot_list_index ⟨_, ho, rfl⟩ PySem.F.entry_list_index (PySem.F.args_list_index_2 _ _) (SeqAt.list_indexAt a its.toArray n dd sls uy (fun u => PyData.eqv (SeqAt.readOf sh.heap u) d) j hjl (by omega) ?_ ?_) ⟨ho, SeqAt.items_eqAt (vs := its.toArray) (show ReadsAll sh.heap its.toArray.toList ds bs' from h4) q1 c2 c1 hm, ?_⟩
          · show PyData.eqv (SeqAt.readOf sh.heap its.toArray[j]) d = true
            rw [at_ j hjl hj]; exact ej1
          · intro m hm hmj
            have hml : m < ds.length := by omega
            show PyData.eqv (SeqAt.readOf sh.heap its.toArray[m]) d = false
            rw [at_ m hm hml]
            exact Bool.eq_false_iff.mpr (ej2 m hmj)
          · exact ⟨.int _, H, I.tok _, ⟨_, rfl⟩, h.scal sub (.int _)⟩
      · exact h.elim
    · exact h.elim
  · exact h.elim
/-! ### dict.get -/
def caGet : T → List T → Res T
  | .dct _ k kvs, [s] => if keyOk k s = true then .ok ((dget kvs s).getD .non) else .stuck
  | .dct _ k kvs, [s, d] => if keyOk k s = true then (match dget kvs s with
    | some t => .ok t
    | none => match d with
      | .non => .ok .non
      | .int i => .ok (.int i)
      | .str z => .ok (.str z)
      | .tup ts => .ok (.tup ts)
      | .ktup ts => .ok (.ktup ts)
      | _ => .stuck) else .stuck
  | _, _ => .stuck
theorem sem_get : RdSem x X "dict.get" caGet := fun ok W G H H0 v t f f2 vs ts Q sub r rs l h pins sh σ vv us I rv ru => by
  have hu1 : X.A.units + 1 < cLine := by have := ok.room.units; omega
  unfold caGet at h
  split at h
  · split at h
    · rename_i c
      obtain ⟨w, rfl, rw'⟩ := rs.one
      obtain ⟨p, o, rfl, g, i1, i2⟩ := r.dget sub rw' c
      cases rv
      cases ru with
      | cons r1 rt =>
        cases rt
        refine d_get1 hu1 I g r1 fun w' s' I' rw2 => ⟨_, H, I', rw2, ?_⟩
        cases e : dget _ _ with
        | none => rw [e] at h; rw [i2 e]; exact h.scal sub .non
        | some u =>
          rw [e] at h
          obtain ⟨z, e2, r2⟩ := i1 _ e
          subst e2
          exact h.scal sub r2
    · exact h.elim
  · split at h
    · rename_i d c
      obtain ⟨w, w2, f3, f4, rfl, rw', rd⟩ := rs.two
      obtain ⟨p, o, rfl, g, i1, i2⟩ := r.dget sub rw' c
      cases rv
      cases ru with
      | cons r1 rt =>
        cases rt with
        | cons r2 rt =>
          cases rt
          refine d_get2 hu1 I g r1 r2 fun w' s' I' rw2 => ⟨_, H, I', rw2, ?_⟩
          split at h
          · rename_i u e
            obtain ⟨z, e2, r2⟩ := i1 _ e
            subst e2
            exact h.scal sub r2
          · rename_i e
            rw [i2 e]
            split at h
            · cases rd.non; exact h.scal sub .non
            · cases rd.int; exact h.scal sub (.int _)
            · cases rd.str; exact h.scal sub (.str _)
            · cases rd with | s rd => exact h.scal sub rd
            · cases rd with | s rd => exact h.scal sub rd
            · exact h.elim
    · exact h.elim
  · exact h.elim
end
end Fn

/-! Fn21: locks; dicts walked in comprehensions. -/
namespace Fn
open PySem PySem.Spec L2
variable [Tbs]
section
variable {x : Tx} {β : Bo} {φ φ' : Nat → List Addr} {G G' G2 G1 G0 H H' H0 H1 H2 L : Hp} {W : XK} {X : Cx} {f : Fl} {fp : List Addr} {v : V} {σ : L2.St} {ρ : Env} {tg : Expr} {bs : Nat → Bool} {pos : Pos} {Po : Addr → Prop} {d : Addr} {u : HO} {od : Obj}
theorem At.lock {a : Addr} {o : HO} (hd : H d = some u) (hu : IsDct u) (h : At f H a o) (n : IsDct o → a = d → f = .pk) : At f (upd H d (.frz od u)) a o := by
  cases f with
  | sh => exact h.elim
  | pk =>
    by_cases z : a = d
    · subst z
      rcases h with h | ⟨o', h⟩
      · rw [hd] at h; cases h
        exact .inr ⟨od, upd_same⟩
      · rw [hd] at h; cases h; exact hu.elim
    · exact h.elim (fun h => .inl (by rw [upd_ne z]; exact h)) fun ⟨o', h⟩ => .inr ⟨o', by rw [upd_ne z]; exact h⟩
  | ow =>
    have z : a ≠ d := fun z => by
      have h : H a = some o := h
      rw [z, hd] at h; cases h
      have := n hu z
      cases this
    exact (upd_ne z).trans h
  | lk =>
    obtain ⟨o', h⟩ := h
    have z : a ≠ d := fun z => by rw [z, hd] at h; cases h; exact hu
    exact ⟨o', (upd_ne z).trans h⟩
theorem At.unlock {a : Addr} {o : HO} (ho : ∀ od u, o ≠ .frz od u) (hd : H d = some (.frz od u)) (hu : IsDct u) (h : At f H a o) (n : a = d → f = .pk) : At f (upd H d u) a o := by
  cases f with
  | sh => exact h.elim
  | pk =>
    by_cases z : a = d
    · subst z
      rcases h with h | ⟨o', h⟩
      · rw [hd] at h; cases h
        exact absurd rfl (ho _ _)
      · rw [hd] at h; cases h; exact .inl upd_same
    · exact h.elim (fun h => .inl (by rw [upd_ne z]; exact h)) fun ⟨o', h⟩ => .inr ⟨o', by rw [upd_ne z]; exact h⟩
  | ow =>
    have z : a ≠ d := fun z => by cases n z
    exact (upd_ne z).trans h
  | lk =>
    obtain ⟨o', h⟩ := h
    have z : a ≠ d := fun z => by cases n z
    exact ⟨o', (upd_ne z).trans h⟩
mutual
theorem Rep.lock (hd : H d = some u) (hu : IsDct u) : ∀ {v t fp}, Rep x G H v t fp → d ∉ fp → Rep x G (upd H d (.frz od u)) v t fp
  | _, _, _, .s h, _ => .s h
  | _, _, _, .lst f hf h r, k => .lst f hf (by rw [upd_ne (fun z => by rw [z, hd] at h; cases h; exact hu)]; exact h) r
  | _, _, _, .dctK f h r, k => .dctK f (h.lock hd hu fun _ z => by
      cases f with
      | pk => rfl
      | sh => exact h.elim
      | ow => exact absurd (by rw [z]; exact List.mem_singleton.mpr rfl) k
      | lk => exact absurd (by rw [z]; exact List.mem_singleton.mpr rfl) k) r
  | _, _, _, .dctT f h r, k => .dctT f (h.lock hd hu fun _ z => by
      cases f with
      | pk => rfl
      | sh => exact h.elim
      | ow => exact absurd (by rw [z]; exact List.mem_singleton.mpr rfl) k
      | lk => exact absurd (by rw [z]; exact List.mem_singleton.mpr rfl) k) r
  | _, _, _, .obj f hf hp hn ok h e r nd, k => .obj f hf hp hn ok (by rw [upd_ne (fun z => by rw [z, hd] at h; cases h; exact hu)]; exact h) e (Reps.lock hd hu r fun z => k (List.mem_append_right _ z)) nd
theorem Reps.lock (hd : H d = some u) (hu : IsDct u) : ∀ {v t fp}, Reps x G H v t fp → d ∉ fp → Reps x G (upd H d (.frz od u)) v t fp
  | _, _, _, .nil, _ => .nil
  | _, _, _, .cons h r, k => .cons (Rep.lock hd hu h fun z => k (List.mem_append_left _ z)) (Reps.lock hd hu r fun z => k (List.mem_append_right _ z))
end
mutual
theorem Rep.unlock (hd : H d = some (.frz od u)) (hu : IsDct u) : ∀ {v t fp}, Rep x G H v t fp → d ∉ fp → Rep x G (upd H d u) v t fp
  | _, _, _, .s h, _ => .s h
  | _, _, _, .lst f hf h r, k => .lst f hf (by rw [upd_ne (fun z => by rw [z, hd] at h; cases h)]; exact h) r
  | _, _, _, .dctK f h r, k => .dctK f (h.unlock (fun _ _ z => by cases z) hd hu fun z => by
      cases f with
      | pk => rfl
      | sh => exact h.elim
      | ow => exact absurd (by rw [z]; exact List.mem_singleton.mpr rfl) k
      | lk => exact absurd (by rw [z]; exact List.mem_singleton.mpr rfl) k) r
  | _, _, _, .dctT f h r, k => .dctT f (h.unlock (fun _ _ z => by cases z) hd hu fun z => by
      cases f with
      | pk => rfl
      | sh => exact h.elim
      | ow => exact absurd (by rw [z]; exact List.mem_singleton.mpr rfl) k
      | lk => exact absurd (by rw [z]; exact List.mem_singleton.mpr rfl) k) r
  | _, _, _, .obj f hf hp hn ok h e r nd, k => .obj f hf hp hn ok (by rw [upd_ne (fun z => by rw [z, hd] at h; cases h)]; exact h) e (Reps.unlock hd hu r fun z => k (List.mem_append_right _ z)) nd
theorem Reps.unlock (hd : H d = some (.frz od u)) (hu : IsDct u) : ∀ {v t fp}, Reps x G H v t fp → d ∉ fp → Reps x G (upd H d u) v t fp
  | _, _, _, .nil, _ => .nil
  | _, _, _, .cons h r, k => .cons (Rep.unlock hd hu h fun z => k (List.mem_append_left _ z)) (Reps.unlock hd hu r fun z => k (List.mem_append_right _ z))
end
theorem IsDct.nt (h : IsDct u) : NT u := fun ps z => by rw [z] at h; exact h
theorem IsDct.nfrz (h : IsDct u) : ∀ o' u', u ≠ .frz o' u' := fun ps q z => by rw [z] at h; exact h
theorem IsDct.ntup (h : IsDct u) : ∀ o', u ≠ .tup o' := fun ps z => by rw [z] at h; exact h
theorem IsDct.mut (h : IsDct u) : Mut (some u) := by cases u <;> first | exact h.elim | trivial
theorem IsDct.next (h : IsDct u) : ∀ o', u ≠ .ext o' := fun ps z => by rw [z] at h; exact h
theorem Sub.lock (s : Sub G H) (hd : H d = some u) (hu : IsDct u) : Sub G (upd H d (.frz od u)) := fun a o e => ⟨(s a o e).1, by
  by_cases z : a = d
  · subst z
    rcases (s a o e).2 with h | ⟨o', h, _⟩
    · rw [hd] at h; cases h
      exact .inr ⟨od, upd_same, hu⟩
    · rw [hd] at h; cases h; exact hu.elim
  · rw [upd_ne z]; exact (s a o e).2⟩
/-- a lock put on and taken off -/
theorem Stp.unlk (s1 : Stp Po G H G2 H1) (hd : H1 d = some u) (hu : IsDct u) (hp : ∀ a, Po a → a ≠ d) (s : Stp Po G2 (L2.upd H1 d (.frz od u)) G' H') : H' d = some (.frz od u) ∧ Stp Po G H G' (L2.upd H' d u) := by
  have hf : H' d = some (.frz od u) := s.ext.keep d _ upd_same (fun _ z => by cases z) fun z => hp d z rfl
  refine ⟨hf, ⟨fun b o e n q => ?_, fun b o e n => ?_, fun t => ?_⟩, fun a o e => ?_, fun b o e => s.le b o (s1.le b o e), fun a e => ?_⟩
  · have e1 := s1.ext.keep b o e n q
    by_cases z : b = d
    · rw [z] at e1; rw [hd] at e1; cases e1
      rw [z, upd_same]
    · rw [upd_ne z]
      exact s.ext.keep b o (by rw [upd_ne z]; exact e1) n q
  · by_cases z : b = d
    · rw [z, upd_same]; exact ⟨u, rfl, hu.nt⟩
    · rw [upd_ne z]
      obtain ⟨o1, e1, n1⟩ := s1.ext.live b o e n
      exact s.ext.live b o1 (by rw [upd_ne z]; exact e1) n1
  · have t2 := s.ext.tabs ((s1.ext.tabs t).upd (fun _ z => by cases z) (tb_some hd hu.nt hu.next))
    exact t2.upd hu.nt (tb_some hf (fun _ z => by cases z) fun _ z => by cases z)
  · refine ⟨(s.sub a o e).1, ?_⟩
    by_cases z : a = d
    · subst z
      rw [upd_same]
      rcases (s.sub a o e).2 with h | ⟨o', h, _⟩
      · rw [hf] at h; cases h
        rcases s.new a (by rw [e]; simp) with z | z | z | ⟨xs, z⟩
        · cases q : G2 a with
          | none => exact absurd q z
          | some o2 =>
            have e3 := s.le a o2 q
            rw [e] at e3; cases e3
            rcases (s1.sub a _ q).2 with h | ⟨o', h, _⟩
            · rw [hd] at h; cases h; try exact hu.elim
            · rw [hd] at h; cases h; try exact hu.elim
        · exact absurd rfl (z.upd (fun _ z => by cases z)).1
        · exact absurd rfl (hp a z)
        · rw [upd_same] at z; cases z
      · rw [hf] at h; cases h; exact .inl rfl
    · rw [upd_ne z]; exact (s.sub a o e).2
  · rcases s.new a e with z | z | z | ⟨xs, z⟩
    · exact s1.new a z
    · exact .inr (.inl (s1.ext.back (z.upd (fun _ z => by cases z)).2))
    · exact .inr (.inr (.inl z))
    · by_cases y : a = d
      · rw [y, upd_same] at z; cases z
      · rw [upd_ne y] at z
        exact .inr (s1.ext.tupBack z)
/-! ### the environment, peeked at -/
def pkE (ρ : Env) : Env := ρ.map fun o => o.map T.pkd
theorem ER.pk (E : ER x β φ G H σ ρ) : ER x ⟨fun _ => none, fun _ => none, true⟩ (fun _ => []) G H σ (pkE ρ) where
  len := by unfold pkE; rw [List.length_map]; exact E.len
  rep := fun i t e => by
    unfold pkE at e
    rw [List.getElem?_map] at e
    cases q : ρ[i]? with
    | none => rw [q] at e; cases e
    | some o =>
      rw [q] at e
      cases o with
      | none => cases e
      | some t' =>
        cases e
        obtain ⟨v, e1, r, _⟩ := E.rep i t' q
        exact ⟨v, e1, r.pkd0, fun z => by cases z⟩
  nd := fun _ => .nil
  dj := fun _ _ _ h => by cases h
  dis := fun _ _ h => by cases h
  sub := E.sub
  tab := E.tab
  bor := fun _ _ z => by cases z
  lck := fun _ _ z => by cases z
theorem ER.lockP (E : ER x ⟨fun _ => none, fun _ => none, true⟩ (fun _ => []) G H σ ρ) (hd : H d = some u) (hu : IsDct u) : ER x ⟨fun _ => none, fun _ => none, true⟩ (fun _ => []) G (L2.upd H d (.frz od u)) σ ρ where
  len := E.len
  rep := fun i t e => let ⟨v, e1, r, n⟩ := E.rep i t e; ⟨v, e1, r.lock hd hu (by simp), n⟩
  nd := E.nd
  dj := E.dj
  dis := fun _ _ h => by cases h
  sub := E.sub.lock hd hu
  tab := E.tab.upd (fun _ z => by cases z) (tb_some hd hu.nt hu.next)
  bor := fun _ _ z => by cases z
  lck := fun _ _ z => by cases z
/-- d, locked anew or already -/
inductive Lk (X : Cx) (d : Addr) (H : Hp) : Hp → Prop where
  | was {od : Obj} {u : HO} (h : H d = some (.frz od u)) (hu : IsDct u) : Lk X d H H
  | now {od : Obj} {u : HO} (h : H d = some u) (hu : IsDct u) (n : ∀ o' u', X.H_0 d ≠ some (.frz o' u')) : Lk X d H (upd H d (.frz od u))
theorem Lk.there (h : Lk X d H H') : ∃ od u, H' d = some (.frz od u) ∧ IsDct u ∧ Rd H d u := by
  cases h with
  | was h hu => exact ⟨_, _, h, hu, .inr ⟨_, h⟩⟩
  | now h hu n => exact ⟨_, _, upd_same, hu, .inl h⟩
theorem Lk.sub (h : Lk X d H H') (s : Sub G H) : Sub G H' := by
  cases h with
  | was h hu => exact s
  | now h hu n => exact s.lock h hu
theorem Lk.er (h : Lk X d H H') (E : ER x ⟨fun _ => none, fun _ => none, true⟩ (fun _ => []) G H σ ρ) : ER x ⟨fun _ => none, fun _ => none, true⟩ (fun _ => []) G H' σ ρ := by
  cases h with
  | was h hu => exact E
  | now h hu n => exact E.lockP h hu
theorem Lk.keep {b : Addr} (h : Lk X d H H') (n : b ≠ d) : H' b = H b := by
  cases h with
  | was h hu => rfl
  | now h hu _ => exact upd_ne n
theorem vac_iff {o o' : HO} {b : Addr} (h : H d = some o) (n : NT o) (n' : NT o') : Vac (L2.upd H d o') b ↔ Vac H b := ⟨fun z => (z.upd n').2, fun z => z.put h n⟩
theorem Lk.live {b : Addr} (h : Lk X d H H') : Vac H' b ↔ Vac H b := by
  cases h with
  | was h hu => exact Iff.rfl
  | now h hu _ => exact vac_iff h hu.nt fun _ z => by cases z
/-- back from the locked heap -/
theorem Lk.back {H3 : Hp} {G3 : Hp} (h : Lk X d H1 H2) (s1 : Stp No G H G2 H1) (s : Stp No G2 H2 G3 H3) : ∃ H4, Stp No G H G3 H4 ∧ (∀ Q : Hp → Prop, Q H4 → Unl X Q H3) ∧ (∀ b, Vac H4 b ↔ Vac H3 b) ∧ ∀ v t fp, Rep x G3 H3 v t fp → d ∉ fp → Rep x G3 H4 v t fp := by
  cases h with
  | was h hu => exact ⟨H3, s1.trans s, fun Q q => .inl q, fun _ => Iff.rfl, fun _ _ _ r _ => r⟩
  | @now od u h hu n =>
    obtain ⟨hf, s2⟩ := Stp.unlk s1 h hu (fun a z => z.elim) s
    exact ⟨upd H3 d u, s2, fun Q q => .inr ⟨d, od, u, hf, n, q⟩, fun b => vac_iff hf (fun _ z => by cases z) hu.nt, fun v t fp r nd => r.unlock hf hu nd⟩
end
end Fn

/-! Fn22: sources of comprehensions, with dicts; list and dict comprehensions over them. -/
namespace Fn
open PySem PySem.Spec L2
variable [Tbs]
section
variable {x : Tx} {β : Bo} {φ φ' : Nat → List Addr} {G G' G2 G1 G0 H H' H0 H1 H2 L : Hp} {W : XK} {X : Cx} {f : Fl} {fp : List Addr} {v : V} {σ : L2.St} {ρ : Env} {tg : Expr} {bs : Nat → Bool} {pos : Pos} {Po : Addr → Prop} {d : Addr} {u : HO} {od : Obj}
/-- whence one gets back from (G2, H2) to what follows (G, H) -/
def Back (x : Tx) (X : Cx) (G H G2 H2 : Hp) : Prop := ∀ G3 H3, Stp No G2 H2 G3 H3 → ∃ H4, Stp No G H G3 H4 ∧ (∀ Q : Hp → Prop, Q H4 → Unl X Q H3) ∧ (∀ b, Vac H4 b ↔ Vac H3 b) ∧ ∀ v t fp, Rep x G3 H3 v t fp → (∀ a ∈ fp, Vac H2 a) → Rep x G3 H4 v t fp
theorem Back.of (s : Stp No G H G2 H2) : Back x X G H G2 H2 := fun G3 H3 s3 => ⟨H3, s.trans s3, fun Q q => .inl q, fun _ => Iff.rfl, fun _ _ _ r _ => r⟩
theorem Lk.Back (h : Lk X d H1 H2) (s : Stp No G H G2 H1) : Back x X G H G2 H2 := fun G3 H3 s3 => by
  obtain ⟨H4, k1, k2, k3, k4⟩ := h.back (x := x) s s3
  refine ⟨H4, k1, k2, k3, fun v t fp r n => k4 v t fp r fun z => ?_⟩
  obtain ⟨od, u, e, _⟩ := h.there
  exact n d z _ e (fun _ z => by cases z)
def pkIf (pk : Bool) (ρ : Env) : Env := if pk = true then pkE ρ else ρ
def tIG (x : Tx) (X : Cx) (W : XK) (pk : Bool) (f : Env → Res (List T)) : TI := fun σ H R => ∃ β φ G ρ, ER x β φ G H σ ρ ∧ Pst x W G H (f ρ) (fun ts G1 H1 => ∀ J G2 H2 L β2 φ2, ER x β2 φ2 G2 H2 σ (pkIf pk ρ) → Back x X G H G2 H2 → (∀ b, Vac H2 b → Vac H b) → (∀ a o, L a = some o → H2 a = some o ∧ NT o) → ItR x J ts G2 L → R J H2)
structure SrcG (x : Tx) (X : Cx) (tg iter : Expr) (pk : Bool) (f : Env → Res (List T)) : Prop where
  run : XOk x X → ∀ W : XK, Takes X (fun c d _ H => W c d H) → PI X tg iter (tIG x X W pk f)
  fold : ∀ v, foldedSetIterable iter X.env v = pure v
theorem srcG_of {iter : Expr} {f : Env → Res (List T)} (h : Src x X tg iter false f) : SrcG x X tg iter false f := ⟨fun ok W tk => pi_imp (h.run ok W tk) fun σ H R ⟨β, φ, G, ρ, E, q⟩ => ⟨β, φ, G, ρ, E, q.imp fun ts G1 H1 s k J G2 L s2 _ hL it => k J G2 H1 L β φ (E.step s2) (Back.of s2) (fun b => s2.ext.back) hL it⟩, h.fold⟩
/-! ### dicts -/
def T.dkeys : T → Res (List T)
  | .dct _ _ kvs => .ok (kvs.map (·.1))
  | _ => .stuck
def T.dvals : T → Res (List T)
  | .dct _ .k kvs => .ok (kvs.map (·.2))
  | _ => .stuck
def T.ditems : T → Res (List T)
  | .dct _ .k kvs => .ok (kvs.map fun p => .tup [p.1, p.2])
  | _ => .stuck
theorem zipF : ∀ {ks ts : List T}, ks.length = ts.length → (ks.zip ts).map (·.1) = ks
  | [], [], _ => rfl
  | a :: as, b :: bs, h => by rw [List.zip_cons_cons, List.map_cons, zipF (by simpa using h)]
theorem zipS : ∀ {ks ts : List T}, ks.length = ts.length → (ks.zip ts).map (·.2) = ts
  | [], [], _ => rfl
  | a :: as, b :: bs, h => by rw [List.zip_cons_cons, List.map_cons, zipS (by simpa using h)]
theorem reps_kT (k : Key) : RepS x G (kV k) (kT k) := by cases k <;> constructor
theorem itr_vals {kvs : List (Key × V)} {ts : List T} (r : RepsS x G0 (kvs.map (·.2)) ts) (h : L d = some (.frz od (.dK kvs))) : ItR x (Itd d od kvs) ts G0 L := fun G H i hG hH sub => by
  have ha := hH _ _ h
  have hl := r.length
  rw [List.length_map] at hl
  refine ⟨fun hi => ⟨ha, by omega⟩, fun t v H' e hy => ?_, fun hi => ⟨ha, by omega⟩⟩
  obtain ⟨rfl, k, e2⟩ := hy
  obtain ⟨w, e3, r2⟩ := r.get' e
  rw [List.getElem?_map, e2] at e3
  cases e3
  exact ⟨G, .refl _ sub, r2.le hG⟩
theorem itr_items {kvs : List (Key × V)} {ts : List T} (r : RepsS x G0 (kvs.map (·.2)) ts) (h : L d = some (.frz od (.dK kvs))) : ItR x (Iti d od kvs) (((kvs.map fun kv => kT kv.1).zip ts).map fun p => .tup [p.1, p.2]) G0 L := fun G H i hG hH sub => by
  have ha := hH _ _ h
  have hl := r.length
  rw [List.length_map] at hl
  have hl2 : (((kvs.map fun kv => kT kv.1).zip ts).map fun p => T.tup [p.1, p.2]).length = kvs.length := by
    rw [List.length_map, List.length_zip, List.length_map, ← hl]; exact Nat.min_self _
  refine ⟨fun hi => ⟨ha, by omega⟩, fun t v H' e hy => ?_, fun hi => ⟨ha, by omega⟩⟩
  obtain ⟨p, k, w, e2, rfl, hp, rfl⟩ := hy
  have hi : i < kvs.length := (List.getElem?_eq_some_iff.mp e2).1
  obtain ⟨w', e3, r2⟩ := r.get' (i := i) (t := ts[i]'(by omega)) (List.getElem?_eq_getElem _)
  rw [List.getElem?_map, e2] at e3
  cases e3
  have e5 : t = .tup [kT k, ts[i]'(by omega)] := by
    rw [List.getElem?_map, List.getElem?_zip_eq_some (z := (kT k, ts[i]'(by omega))).mpr ⟨by rw [List.getElem?_map, e2]; rfl, List.getElem?_eq_getElem (by omega)⟩] at e
    cases e; rfl
  subst e5
  exact ⟨_, .laidS sub hp (fun _ z => by cases z), .tup upd_same (.cons (reps_kT k) (.cons ((r2.le hG).le (Stp.laidS (P := No) sub hp (o := .tup [kV k, w]) (fun _ z => by cases z)).le) .nil))⟩
theorem itr_keys' {kvs : List (Key × V)} {ts : List T} (r : RepsS x G0 (kvs.map (·.2)) ts) (h : L d = some (.frz od (.dK kvs))) : ItR x (Itk d od kvs) (((kvs.map fun kv => kT kv.1).zip ts).map (·.1)) G0 L := by
  rw [zipF (by have := r.length; simpa using this)]
  have := itr_keys (x := x) (G0 := G0) (L := L) (d := d) (od := od) (kvs := kvs) fun G H hG hH sub => hH _ _ h
  rw [List.map_map] at this; exact this
theorem itr_keysT' {kvs : List (List Key × V)} {ts : List T} (r : RepsS x G0 (kvs.map (·.2)) ts) (h : L d = some (.frz od (.dT kvs))) : ItR x (Itkt d od kvs) (((kvs.map fun kv => T.tup (kv.1.map kT)).zip ts).map (·.1)) G0 L := by
  rw [zipF (by have := r.length; simpa using this)]
  have := itr_keysT (x := x) (G0 := G0) (L := L) (d := d) (od := od) (kvs := kvs) fun G H hG hH sub => hH _ _ h
  rw [List.map_map] at this; exact this
def lone (d : Addr) (o : HO) : Hp := fun b => if b = d then some o else none
theorem lone_at {o : HO} : lone d o d = some o := if_pos rfl
theorem lone_of {o o2 : HO} {a : Addr} (h : lone d o a = some o2) : a = d ∧ o2 = o := by
  unfold lone at h
  split at h
  · rename_i e; cases h; exact ⟨e, rfl⟩
  · cases h
def DkIs (x : Tx) (G1 : Hp) (u : HO) (kk : DK) (kvs : List (T × T)) : Prop := match kk with | .k => ∃ (ws : List (Key × V)) (ts : List T), u = .dK ws ∧ RepsS x G1 (ws.map (·.2)) ts ∧ kvs = (ws.map fun kv => kT kv.1).zip ts | .t => ∃ (ws : List (List Key × V)) (ts : List T), u = .dT ws ∧ RepsS x G1 (ws.map (·.2)) ts ∧ kvs = (ws.map fun kv => T.tup (kv.1.map kT)).zip ts
/-- a dict is locked, the rest goes on -/
theorem lock_core {kk : DK} {kvs : List (T × T)} {R : V → Hp → Prop} (E : ER x β φ G H σ ρ) (s1 : Stp No G H G1 H1) (r : Rep x G1 H1 v (.dct f kk kvs) fp)
    (k : ∀ dd od u H2, v = .ref dd → Lk X dd H1 H2 → H2 dd = some (.frz od u) → ER x ⟨fun _ => none, fun _ => none, true⟩ (fun _ => []) G1 H2 σ (pkE ρ) → Back x X G H G1 H2 → (∀ b, Vac H2 b → Vac H b) →
      DkIs x G1 u kk kvs → R v H2) :
    R v H1 ∨ ∃ dd u, v = .ref dd ∧ H1 dd = some u ∧ Mut (some u) ∧ ((∀ o' u', X.H_0 dd ≠ some (.frz o' u')) → ∀ od, R v (upd H1 dd (.frz od u))) := by
  have E1 := (E.step s1).pk
  have go : ∀ (dd : Addr) (u : HO), v = .ref dd → Rd H1 dd u → IsDct u → DkIs x G1 u kk kvs →
      R v H1 ∨ ∃ dd u, v = .ref dd ∧ H1 dd = some u ∧ Mut (some u) ∧ ((∀ o' u', X.H_0 dd ≠ some (.frz o' u')) → ∀ od, R v (upd H1 dd (.frz od u))) := by
    intro dd u ev rd hu m
    have out : ∀ H2, Lk X dd H1 H2 → ∀ b, Vac H2 b → Vac H b := fun H2 lk b z => s1.ext.back (lk.live.mp z)
    rcases rd with h | ⟨od, h⟩
    · exact .inr ⟨dd, u, ev, h, hu.mut, fun n od => k dd od u _ ev (.now h hu n) upd_same ((Lk.now (X := X) h hu n).er E1) ((Lk.now (X := X) h hu n).Back s1) (out _ (.now h hu n)) m⟩
    · exact .inl (k dd od u _ ev (.was h hu) h ((Lk.was (X := X) h hu).er E1) ((Lk.was (X := X) h hu).Back s1) (out _ (.was h hu)) m)
  cases kk with
  | k =>
    obtain ⟨a, ws, ts, rfl, rd, rr, e⟩ := r.dctK_inv s1.sub
    exact go a (.dK ws) rfl rd trivial ⟨ws, ts, rfl, rr, e⟩
  | t =>
    obtain ⟨a, ws, ts, rfl, rd, rr, e⟩ := r.dctT_inv s1.sub
    exact go a (.dT ws) rfl rd trivial ⟨ws, ts, rfl, rr, e⟩
theorem srcG_keys {e : Expr} {fd : Env → Res T} (h : P x X e fd) (hf : ∀ v, foldedSetIterable e X.env v = pure v := by intro _; rfl) : SrcG x X tg e true (fun ρ => (fd ρ).bind T.dkeys) := ⟨fun ok W tk => pi_imp (pi_keys (pe_lockv (h.run ok W tk))) fun σ H R ⟨β, φ, G, ρ, E, q⟩ => ⟨β, φ, G, ρ, E, Pst.bind q fun t G1 H1 s1 h1 v fp r nd fr => by
  cases t with
  | dct f kk kvs =>
    have h1 := h1.later s1
    refine lock_core (X := X) (R := fun x H1 => ∃ d o, x = .ref d ∧ ((∃ kvs, H1 d = some (.frz o (.dK kvs)) ∧ R (Itk d o kvs) H1) ∨ ∃ kvs, H1 d = some (.frz o (.dT kvs)) ∧ R (Itkt d o kvs) H1)) E s1 r fun dd od u H2 ev lk hd E2 bk lv m => ?_
    have hn := h1.now s1.sub
    refine ⟨dd, od, ev, ?_⟩
    cases kk with
    | k =>
      obtain ⟨ws, ts, rfl, rr, e⟩ := m
      refine .inl ⟨ws, hd, hn _ G1 H2 (lone dd (.frz od (.dK ws))) _ _ E2 bk lv (fun a o z => ?_) (by rw [e]; exact itr_keys' rr lone_at)⟩
      obtain ⟨rfl, rfl⟩ := lone_of z
      exact ⟨hd, fun _ z => by cases z⟩
    | t =>
      obtain ⟨ws, ts, rfl, rr, e⟩ := m
      refine .inr ⟨ws, hd, hn _ G1 H2 (lone dd (.frz od (.dT ws))) _ _ E2 bk lv (fun a o z => ?_) (by rw [e]; exact itr_keysT' rr lone_at)⟩
      obtain ⟨rfl, rfl⟩ := lone_of z
      exact ⟨hd, fun _ z => by cases z⟩
  | _ => exact h1.elim⟩, hf⟩
theorem srcG_vals {e : Expr} {apos cpos : Pos} {fd : Env → Res T} (h : P x X e fd) (hbase : attributeBase e "values" X.env (eval e X.env) = eval e X.env := by rfl) (hline : (apos.endLine == cpos.line) = true := by rfl)
    (hf : ∀ v, foldedSetIterable (.Call (.Attribute e "values" apos) [] [] cpos) X.env v = pure v := by intro _; rfl) : SrcG x X tg (.Call (.Attribute e "values" apos) [] [] cpos) true (fun ρ => (fd ρ).bind T.dvals) := ⟨fun ok W tk => pi_imp (pi_values (pe_lockv (h.run ok W tk)) hbase hline) fun σ H R ⟨β, φ, G, ρ, E, q⟩ => ⟨β, φ, G, ρ, E, Pst.bind q fun t G1 H1 s1 h1 v fp r nd fr => by
  cases t with
  | dct f kk kvs =>
    cases kk with
    | t => exact h1.elim
    | k =>
      have h1 := h1.later s1
      refine lock_core (X := X) (R := fun x H1 => ∃ d o kvs, x = .ref d ∧ H1 d = some (.frz o (.dK kvs)) ∧ R (Itd d o kvs) H1) E s1 r fun dd od u H2 ev lk hd E2 bk lv m => ?_
      have hn := h1.now s1.sub
      obtain ⟨ws, ts, rfl, rr, e⟩ := m
      refine ⟨dd, od, ws, ev, hd, hn _ G1 H2 (lone dd (.frz od (.dK ws))) _ _ E2 bk lv (fun a o z => ?_) (by rw [e, zipS (by have := rr.length; simpa using this)]; exact itr_vals rr lone_at)⟩
      obtain ⟨rfl, rfl⟩ := lone_of z
      exact ⟨hd, fun _ z => by cases z⟩
  | _ => exact h1.elim⟩, hf⟩
theorem srcG_items {e : Expr} {apos cpos tpos : Pos} {elts : List Expr} {kk : Nat} {fd : Env → Res T} (h : P x X e fd) (hbase : attributeBase e "items" X.env (eval e X.env) = eval e X.env := by rfl) (hline : (apos.endLine == cpos.line) = true := by rfl)
    (hf : ∀ v, foldedSetIterable (.Call (.Attribute e "items" apos) [] [] cpos) X.env v = pure v := by intro _; rfl) : SrcG x X (.Tuple elts kk tpos) (.Call (.Attribute e "items" apos) [] [] cpos) true (fun ρ => (fd ρ).bind T.ditems) := ⟨fun ok W tk => pi_imp (pi_items (pe_lockv (h.run ok W tk)) hbase hline) fun σ H R ⟨β, φ, G, ρ, E, q⟩ => ⟨β, φ, G, ρ, E, Pst.bind q fun t G1 H1 s1 h1 v fp r nd fr => by
  cases t with
  | dct f kk kvs =>
    cases kk with
    | t => exact h1.elim
    | k =>
      have h1 := h1.later s1
      refine lock_core (X := X) (R := fun x H1 => ∃ d o kvs, x = .ref d ∧ H1 d = some (.frz o (.dK kvs)) ∧ R (Iti d o kvs) H1) E s1 r fun dd od u H2 ev lk hd E2 bk lv m => ?_
      have hn := h1.now s1.sub
      obtain ⟨ws, ts, rfl, rr, e⟩ := m
      refine ⟨dd, od, ws, ev, hd, hn _ G1 H2 (lone dd (.frz od (.dK ws))) _ _ E2 bk lv (fun a o z => ?_) (by rw [e]; exact itr_items rr lone_at)⟩
      obtain ⟨rfl, rfl⟩ := lone_of z
      exact ⟨hd, fun _ z => by cases z⟩
  | _ => exact h1.elim⟩, hf⟩
/-! ### list comprehensions -/
def dCompG (pk : Bool) (src : Env → Res (List T)) (tg : T → Env → Option Env) (tt : Env → Res Bool) (el : Env → Res T) (own : List Nat) : Env → Res T := fun ρ => (src ρ).bind fun ts =>
  if ts.length ≤ 10000000 then (compL tg tt el (wipeE (pkIf pk ρ) own) ts).bind fun us => .ok (.lst .ow us) else .stuck
theorem p_compG {iter elt : Expr} {ifs : List Expr} {scope : Scope} {pk : Bool} {src : Env → Res (List T)} {tgf : T → Env → Option Env} {ttf : Env → Res Bool} {elf : Env → Res T} {own : List (Str × Nat)} {g : TG} {ws : List Nat}
    (hs : SrcG x X tg iter pk src) (okb : BlkOk X.N X.env.scope scope own)
    (hg : ∀ (s : Shared) (H : Hp) (C : Addr) (cl : List (Str × Addr)) (fp : List Addr), PGo x (X.blk s H scope (compEnvC scope cl C X.env) fp) tg g) (sg : TgSem x ws tgf g) (hw : ∀ i ∈ ws, i ∈ own.map (·.2))
    (ht : ∀ (s : Shared) (H : Hp) (C : Addr) (cl : List (Str × Addr)) (fp : List Addr), PIfs x (X.blk s H scope (compEnvC scope cl C X.env) fp) ifs ttf)
    (he : ∀ (s : Shared) (H : Hp) (C : Addr) (cl : List (Str × Addr)) (fp : List Addr), P x (X.blk s H scope (compEnvC scope cl C X.env) fp) elt elf) :
    P x X (.ListComp elt [⟨tg, iter, ifs, 0⟩] scope pos) (dCompG pk src tgf ttf elf (own.map (·.2))) := ⟨fun ok W tk => pe_imp (pe_unl (pe_lc ok.calm ok.nd (hs.run ok W tk) okb (fun s H C cl fp => (hg s H C cl fp).run (ok.blk s H scope _ fp)) (fun s H C cl fp => (ht s H C cl fp).run (ok.blk s H scope _ fp) W0 takes0) (fun s H C cl fp => (he s H C cl fp).run (ok.blk s H scope _ fp) W0 takes0) hs.fold)) fun σ H Q ⟨β, φ, G, ρ, E, h⟩ => ⟨β, φ, G, ρ, E, by
  unfold dCompG at h
  refine Pst.bind h fun ts G1 H1 s1 h1 J G2 H2 L β2 φ2 E2 bk lv hL it D hD => ?_
  split at h1
  · rename_i hlen
    cases hc : compL tgf ttf elf (wipeE (pkIf pk ρ) (own.map (·.2))) ts with
    | exc c p => exact absurd hc compL_noexc
    | stuck => rw [hc] at h1; exact h1.elim
    | ok us =>
      rw [hc] at h1
      refine comp_core (Qe := fun D H => Unl X (Q (.ref D)) H) E2 it hL hlen hc (fun β φ G H σ ρ ρ' v u Q E hb r e k => sg β φ G H σ ρ ρ' v u Q E (fun i hi => hb i (hw i hi)) r e fun σ' φ' E' o n l => k σ' φ' E' (fun i hi => n i fun z => hi (hw i z)) l) hD fun G' H' acc st hH hG r => ?_
      obtain ⟨H4, k1, k2, k3, k4⟩ := bk G' H' st
      refine k2 _ (h1 G' H4 k1 (.ref D) [D] (k4 _ _ _ (.lst .ow ⟨by simp, by simp⟩ hH r) fun a ha => ?_) (by simp) fun a ha => ?_)
      · cases List.mem_singleton.mp ha; exact .of hD
      · cases List.mem_singleton.mp ha; exact ⟨lv _ (.of hD), hG⟩
  · exact h1.elim⟩⟩
end
end Fn

/-! Fn23: enumerate, sum(d.values()). -/
namespace Fn
open PySem PySem.Spec L2
variable [Tbs]
/-- enumerate(v): v's iterator, then the enumerate over it, two new cells -/
theorem meets_enum1 {v : Value} {o : Obj} {K : Heap → Prop} (B : Begins v o K) : Meets (Builtin.«enumerate.__new__» ⟨[.type "enumerate", v], []⟩) (fun _ R st => K st.heap ∧
    R (.ok (.ret (.ref (st.heap.push o).objs.size))) { st with heap := (st.heap.push o).push { cls := .type "enumerate", data := .fields #[.none, .bool false, .ref st.heap.objs.size, rawInt 0, .none, .none] } }) := Meets.of_wp fun prog w A R st hst => by
  rcases st with ⟨hp, gn, dr, tk, os⟩
  rcases hst with ⟨kh, fin⟩
  have nosub := sub_enumerate
  have begin' : ∀ {A0 : Around} {E0 : Value → Shared → Prop} {Q0 : Value → Shared → Prop}, Q0 (.ref hp.objs.size) ⟨hp.push o, gn, dr, tk, os⟩ → wpAny (model prog w) A0 (pyIter v) Q0 E0 ⟨hp, gn, dr, tk, os⟩ := fun {A0 E0 Q0} z => B.iter prog w A0 E0 ⟨hp, gn, dr, tk, os⟩ Q0 kh z
  wp_walk using begin'
  refine wpAny_stack_any fun _ => wpAny_pure ?_
  split
  · rename_i k _ _ _ _ _
    cases (k == Value.type "enumerate") <;> (wp_walk using begin'; exact ⟨_, rfl, fin⟩)
  · wp_walk using begin'
    exact ⟨_, rfl, fin⟩
theorem enum_begins1 {prog : Program} {w : World} {A : Around} {E : Value → Shared → Prop} {s : Shared} {v : Value} {o : Obj} {K : Heap → Prop} {Q : Value → Shared → Prop} (B : Begins v o K) (kh : K s.heap)
    (fin : ∀ g, IsEnum g (s.heap.objs.size + 1) s.heap.objs.size 0 .none → g.get? s.heap.objs.size = some o → g.objs.size = s.heap.objs.size + 2 → (∀ b ob, s.heap.get? b = some ob → g.get? b = some ob) → Q (.ref (s.heap.objs.size + 1)) { s with heap := g }) : wpAny (model prog w) A (call (.type "enumerate") [v]) Q E s := by
  have sz : (s.heap.push o).objs.size = s.heap.objs.size + 1 := by rw [Heap.size_push]
  let en : Obj := { cls := .type "enumerate", data := .fields #[.none, .bool false, .ref s.heap.objs.size, rawInt 0, .none, .none] }
  have isE : IsEnum ((s.heap.push o).push en) (s.heap.objs.size + 1) s.heap.objs.size 0 .none := by
    have z := Heap.get?_push_size (s.heap.push o) (o := en) rfl
    rwa [sz] at z
  refine callType_new F.called_enumerate (by decide) (F.typeCall_enumerate_1 _) (F.newCall_enumerate_1 _) (fun _ => F.args_object_init_2 _ _) F.entry_enumerate_new (meets_enum1 B) ⟨kh, ?_⟩
  show _ ∧ _
  rw [sz]
  exact ⟨⟨en, isE, rfl⟩, fin _ isE (Heap.get?_push_of_some _ (Heap.get?_push_size _ B.free)) (by rw [Heap.size_push, sz]) fun b ob z => Heap.get?_push_of_some _ (Heap.get?_push_of_some _ z)⟩
/-- only a walk's own cells are written -/
theorem inv_walked {X : Cx} {pins : List (Addr × Obj)} {σ : L2.St} {H : Hp} {s : Shared} {ch : List Addr} {g : Heap} {n : Nat} (I : Inv X pins σ H s) (own : ∀ b ∈ ch, FpOk X pins H b) (same : ∀ b o, b ∉ ch → s.heap.get? b = some o → g.get? b = some o) :
    Inv X pins σ H { s with heap := g, toks := n } := by
  have tracked : ∀ b u, H b = some u → b ∉ ch := fun b u e z => by have := (own b z).1; rw [e] at this; cases this
  have parts : ∀ b ∈ ch, (b ∈ X.ex ∨ X.s_0.heap.objs.size ≤ b) ∧ b ≠ X.env.locals ∧ (∀ y c, X.env.cells.lookup y = some c → c ≠ b) ∧ ∀ p ∈ X.pn ++ pins, p.1 ≠ b := fun b hb => by
    obtain ⟨_, q1, _, q2, q3, q4⟩ := own b hb
    exact ⟨q2, q1, q3, q4⟩
  have names : ∀ m, s.heap.Ns X.env.locals m → g.Ns X.env.locals m := fun m ⟨o, es, ep, e, q⟩ => ⟨o, es, ep, same _ o (fun z => (own _ z).2.1 rfl) e, q⟩
  have objs : HOk X.prog X.w H g := fun b u e => (I.hok b u e).stay (fun c w hc q => same c w (hc.elim (fun z => by rw [z]; exact tracked b u e) fun z => tracked c _ z) q) (fun _ q => q) fun _ _ q => q
  exact I.step parts (fun b o _ _ nb e _ => same b o nb e) (fun b o _ _ nb e _ => ⟨o.slots, same b o nb e⟩) (fun b o nb e q => q) (fun b o nb e => ⟨o, same b o nb e⟩) (fun b xs q => q) (fun b o w q => q) (fun b ps q => ⟨#[], by simpa using q⟩) names objs I.bare
/-- a walk whose every item is a new pair, from what KE tells of it at each turn (GoesN) -/
theorem turn_pairs {P : Program} {w : World} {K : PySem.W.Frag} {tg : Expr} {J : It} {fp : List Addr} {it : Addr} {tn : Nat → Heap → Prop} (mem : it ∈ fp)
    (obj : ∀ i h, tn i h → ∀ b ∈ fp, ∃ o, h.get? b = some o ∧ ∀ v, o.data ≠ .cell v) (keep : ∀ i h h', tn i h → (∀ b ∈ fp, ∀ o, h.get? b = some o → h'.get? b = some o) → tn i h')
    (self : ∀ (A : Around) (i : Nat) (s : Shared) (Q : Value → Shared → Prop) (E : Value → Shared → Prop), tn i s.heap → Q (.ref it) s → wpAny (model P w) A (pyIter (.ref it)) Q E s)
    (src : ∀ (X : Cx), X.prog = P → X.w = w → X.K = K → X.calm = true → ∀ (i : Nat) (pins : List (Addr × Obj)) (s : Shared) (σ : L2.St) (H : Hp), Inv X pins σ H s → tn i s.heap → (J.go i H ∨ J.stop i H) →
      ∃ (n : Nat) (Sg : Nat → Heap → Prop) (fg wr : List Addr) (Y : Nat → Heap → Value → Heap → Prop), GoesN P w X.A tg it fg wr n Y Sg ∧ Sg i s.heap ∧ (∀ b ∈ wr, b ∈ fp) ∧ (J.go i H → i < n) ∧ (J.stop i H → i = n) ∧ (J.go i H → ∀ h', Sg (i + 1) h' → tn (i + 1) h') ∧
        ∀ v h', i < n → Y i s.heap v h' → ∃ (p : Addr) (u1 u2 : Value) (a1 a2 : V), v = .ref p ∧ s.heap.objs.size ≤ p ∧ RelV a1 u1 ∧ RelV a2 u2 ∧ h'.IsTuple p #[u1, u2] ∧ (H p = none → J.yld i H (.ref p) (upd H p (.tup [a1, a2])))) : Turn P w K tg J fp it tn where
  mem := mem
  obj := obj
  keep := keep
  self := self
  item := fun X e1 e2 e3 hc i pins s σ H E I fresh st go => by
    obtain ⟨n, Sg, fg, wr, Y, W, sg, hwr, hi, -, next, tells⟩ := src X e1 e2 e3 hc i pins s σ H I st (.inl go)
    have lt := hi go
    refine W.goes i s (fun v s2 => ∃ (x : V) (H' : Hp), Inv X pins σ H' s2 ∧ RelV x v ∧ J.yld i H x H' ∧ tn (i + 1) s2.heap ∧ ∀ b ∈ fp, H' b = none) E lt sg fun v h' tk y sg' kp _ => ?_
    obtain ⟨p, u1, u2, a1, a2, rfl, hp, r1, r2, ⟨ob, g1, g2, m, g3⟩, yd⟩ := tells v h' lt y
    have hn : H p = none := I.hok.fresh hp
    have pair : ObjOk X.prog X.w (upd H p (.tup [a1, a2])) h' p (.tup [a1, a2]) := ⟨by show 2 ≤ sizeLine; decide, [u1, u2], .cons r1 (.cons r2 .nil), ⟨ob, g1, g2, m, g3⟩⟩
    refine ⟨.ref p, _, I.turnedNew (t' := tk) (ch := fp) (fun b o nb q => kp b o (fun z => nb (hwr b z)) q) fresh hp pair, rfl, yd hn, next go h' sg', fun b hb => ?_⟩
    obtain ⟨o, q, _⟩ := obj i s.heap st b hb
    rw [upd_ne (Nat.ne_of_lt (Nat.lt_of_lt_of_le (Heap.lt_size q) hp))]
    exact (fresh b hb).1
  done := fun X e1 e2 e3 hc i pins s σ H E I fresh st sp => by
    obtain ⟨n, Sg, fg, wr, Y, W, sg, hwr, -, hi, _, _⟩ := src X e1 e2 e3 hc i pins s σ H I st (.inr sp)
    obtain rfl := hi sp
    exact W.stops s (fun s1 => Inv X pins σ H s1) E sg fun h' tk kp _ => inv_walked I fresh fun b o nb q => kp b o (fun z => nb (hwr b z)) q
/-- the tuple at a, each item in a new pair -/
def IteT (K : PySem.W.Frag) (a : Addr) (n : Nat) : It where
  go := fun i H => i < n ∧ ∃ xs : List V, SqT K H a xs ∧ xs.length = n
  yld := fun i H v H' => ∃ (p : Addr) (w : V), v = .ref p ∧ H p = none ∧ H' = upd H p (.tup [.int (i : Nat), w]) ∧ ∀ xs, SqT K H a xs → xs[i]? = some w
  stop := fun i H => n ≤ i ∧ ∃ xs : List V, SqT K H a xs ∧ xs.length = n
theorem turn_enumT {P : Program} {w : World} {K : PySem.W.Frag} {elts : List Expr} {kk : Nat} {tpos : Pos} (a e it : Addr) (n : Nat) (hat : a ≠ it) (hae : a ≠ e) (hei : e ≠ it) :
    Turn P w K (.Tuple elts kk tpos) (IteT K a n) [e, it] e (fun i h => i ≤ n ∧ (∃ old, IsEnum h e it (0 + (i : Int)) old) ∧ h.IsTupleIter it a i) := by
  refine turn_pairs (by simp) (fun i h st b hb => ?_) (fun i h h' st k => ?_) (fun A i s Q E st h => ?_) fun X e1 e2 e3 hc i pins s σ H I st gs => ?_
  · obtain ⟨_, ⟨old, q⟩, o, q1, _, q2⟩ := st
    rcases List.mem_cons.mp hb with rfl | hb
    · exact ⟨_, q, fun v z => by cases z⟩
    · rw [List.mem_singleton.mp hb]
      exact ⟨o, q1, fun v z => by rw [q2] at z; cases z⟩
  · obtain ⟨q0, ⟨old, q⟩, q1⟩ := st
    exact ⟨q0, ⟨old, k e List.mem_cons_self _ q⟩, q1.at fun o z => k it (by simp) o z⟩
  · exact wpAny_pyIter_enum st.2.1.choose_spec h
  · subst e1 e2 e3
    obtain ⟨xs, hq, hxn⟩ : ∃ xs, SqT X.K H a xs ∧ xs.length = n := gs.elim (·.2) (·.2)
    obtain ⟨its, rv, tup, _⟩ := I.tuple hq
    have tup : s.heap.IsTuple a its.toArray := tup
    have D := Draws.tuple (prog := X.prog) (w := X.w) (A := X.A.in1) (I.ok.hd hc) it a hat its.toArray
    have len : its.toArray.size = xs.length := by rw [List.size_toArray]; exact rv.length.symm
    refine ⟨_, _, _, _, _, GoesN.enumFrom (elts := elts) (x1 := kk) (pos := tpos) 0 D e hei (by simp; exact ⟨hei, fun z => hae z.symm⟩) (by simp), ⟨st.2.1, st.2.2, tup⟩, fun b hb => hb, fun ⟨lt, _⟩ => by omega, fun ⟨ge, _⟩ => by have := st.1; omega, fun ⟨lt, _⟩ h' q => ⟨lt, q.1, q.2.1⟩, fun v h' lt ⟨p, t, u, ev, hp, hu, ht⟩ => ?_⟩
    · have lx : i < xs.length := by omega
      obtain ⟨u', hu', ru⟩ := rv.get (List.getElem?_eq_getElem lx)
      have eu : u' = u := by
        have hu : its.toArray[i]? = some u := hu
        rw [List.getElem?_toArray, hu'] at hu
        exact Option.some.inj hu
      subst eu
      exact ⟨p, _, _, .int (i : Nat), xs[i], ev, hp, ⟨t, by rw [Int.zero_add]⟩, ru, ht, fun hn => ⟨p, xs[i], rfl, hn, rfl, fun ys hy => by rw [I.tuple_inj hy hq]; exact List.getElem?_eq_getElem lx⟩⟩
section
variable {x : Tx} {β : Bo} {φ φ' : Nat → List Addr} {G G' G2 G1 G0 H H' H0 H1 H2 L : Hp} {W : XK} {X : Cx} {f : Fl} {fp : List Addr} {v : V} {σ : L2.St} {ρ : Env} {tg : Expr} {bs : Nat → Bool} {pos : Pos} {Po : Addr → Prop} {d : Addr} {u : HO} {od : Obj}
/-- enumerate(t), a tuple -/
def iEnumT (K : PySem.W.Frag) (ta : TA) : TI := fun σ H R => ta σ H fun vs H1 => ∃ a xs, vs = [.ref a] ∧ SqT K H1 a xs ∧ R (IteT K a xs.length) H1
theorem pi_enumT {e : Expr} {ta : TA} {p tpos : Pos} {elts : List Expr} {kk : Nat} (hg : Gl X "enumerate") (hm : X.mg "enumerate" = none) (ha : PA X [e] ta) (hs : starEach [e] X.env = [(false, eval e X.env)] := by rfl) :
    PI X (.Tuple elts kk tpos) (.Call (.Name "enumerate" p) [e] [] pos) (iEnumT X.K ta) where
  run pins s σ H R I h := PyProof.Rows.Call_ (ld_blt I hg hm PyProof.Rows.boot_enumerate (PyProof.Rows.callWith_type1 (thn (ha.run pos pins s σ H _ I h) fun us s1 ⟨vs, H1, I1, r1, a, xs, ev, hq, q⟩ => by
    subst ev
    rw [Vals.ref1 r1]
    obtain ⟨its, _, tup, _⟩ := I1.tuple hq
    have tup : s1.heap.IsTuple a its.toArray := tup
    have lt : a < s1.heap.objs.size := by obtain ⟨_, z, _⟩ := tup; exact Heap.lt_size z
    refine enum_begins1 (begins_tuple a its.toArray) tup fun h' he hit hsz hk => wpAny_pyIter_enum he ⟨_, [s1.heap.objs.size + 1, s1.heap.objs.size], _, _, H1, rfl, I1.kept hk, turn_enumT a _ _ _ (Nat.ne_of_lt lt) (Nat.ne_of_lt (Nat.lt_succ_of_lt lt)) (Nat.succ_ne_self _), ⟨Nat.zero_le _, ⟨.none, he⟩, ⟨_, hit, rfl, rfl⟩⟩, fun b hb => ?_, q⟩
    have up : s1.heap.objs.size ≤ b := by
      rcases List.mem_cons.mp hb with z | z
      · rw [z]; exact Nat.le_succ _
      · rw [List.mem_singleton.mp z]; exact Nat.le_refl _
    exact I1.fpOk up (I1.hok.fresh up)) hs rfl))
/-- (0, a), (1, b), .. -/
def enumTs (i : Nat) : List T → List T
  | [] => []
  | t :: r => .tup [.int (i : Nat), t] :: enumTs (i + 1) r
theorem enumTs_length : ∀ (i : Nat) (ts : List T), (enumTs i ts).length = ts.length
  | _, [] => rfl
  | i, t :: r => by unfold enumTs; rw [List.length_cons, List.length_cons, enumTs_length]
theorem enumTs_get : ∀ (k : Nat) (ts : List T) (i : Nat), (enumTs k ts)[i]? = ts[i]?.map fun t => .tup [.int ((k + i : Nat) : Int), t]
  | _, [], i => by simp [enumTs]
  | k, t :: r, 0 => by simp [enumTs]
  | k, t :: r, i + 1 => by
    unfold enumTs
    rw [List.getElem?_cons_succ, List.getElem?_cons_succ, enumTs_get (k + 1) r i]
    have : k + 1 + i = k + (i + 1) := by omega
    rw [this]
theorem itr_enum {a : Addr} {vs : List V} {ts : List T} {J : It} (hJ : (J = Ite x.K a ∧ ∀ G H : Hp, (∀ b o, G0 b = some o → G b = some o) → (∀ b o, L b = some o → H b = some o) → Sub G H → SqL x.K H a vs) ∨
    (J = IteT x.K a vs.length ∧ ∀ G H : Hp, (∀ b o, G0 b = some o → G b = some o) → (∀ b o, L b = some o → H b = some o) → Sub G H → SqT x.K H a vs)) (r : RepsS x G0 vs ts) : ItR x J (enumTs 0 ts) G0 L := fun G H i hG hH sub => by
  have yl : ∀ (t : T) (v : V) (H' : Hp), (enumTs 0 ts)[i]? = some t → (∃ q w, v = .ref q ∧ H q = none ∧ H' = upd H q (.tup [.int (i : Nat), w]) ∧ vs[i]? = some w) → ∃ G', Stp No G H G' H' ∧ RepS x G' v t := by
    intro t v H' e hy
    obtain ⟨q, w, rfl, hq, rfl, e2⟩ := hy
    rw [enumTs_get] at e
    cases e3 : ts[i]? with
    | none => rw [e3] at e; cases e
    | some t0 =>
      rw [e3] at e; cases e
      obtain ⟨w', e4, r2⟩ := r.get' e3
      rw [e2] at e4; cases e4
      have st := Stp.laidS (P := No) sub hq (o := .tup [.int (i : Nat), w]) (fun _ z => by cases z)
      rw [Nat.zero_add]
      exact ⟨_, st, .tup upd_same (.cons (.int _) (.cons ((r2.le hG).le st.le) .nil))⟩
  rcases hJ with ⟨rfl, h⟩ | ⟨rfl, h⟩
  · have hs := h G H hG hH sub
    refine ⟨fun hi => ?_, fun t v H' e hy => ?_, fun hi => ⟨vs, hs, by rw [r.length]; rw [enumTs_length] at hi; exact hi⟩⟩
    · rw [enumTs_length] at hi
      obtain ⟨w, e, _⟩ := r.get' (List.getElem?_eq_getElem hi)
      exact ⟨vs, w, hs, e⟩
    · obtain ⟨q, w, rfl, hq, rfl, k⟩ := hy
      exact yl t _ _ e ⟨q, w, rfl, hq, rfl, k vs hs⟩
  · have hs := h G H hG hH sub
    have hl : (enumTs 0 ts).length = vs.length := by rw [enumTs_length, r.length]
    refine ⟨fun hi => ⟨hl ▸ hi, vs, hs, rfl⟩, fun t v H' e ⟨q, w, ev, hq, eH, k⟩ => yl t v H' e ⟨q, w, ev, hq, eH, k vs hs⟩, fun hi => ⟨hl ▸ hi, vs, hs, rfl⟩⟩
def lone' (a : Addr) (o : HO) : Hp := fun b => if b = a then some o else none
def T.eiter : T → Res (List T)
  | .lst _ ts => .ok (enumTs 0 ts)
  | .tup ts => .ok (enumTs 0 ts)
  | .scr ns => .ok (enumTs 0 (ns.map T.int))
  | _ => .stuck
def dEnum (st : Bool) (f : Env → Res T) : Env → Res (List T) := fun ρ => (f ρ).bind fun t => if (st && !t.np) = true then .stuck else t.eiter
theorem reps_ints : ∀ ns : List Int, RepsS x G (ns.map V.int) (ns.map T.int)
  | [] => .nil
  | n :: ns => .cons (.int n) (reps_ints ns)
theorem Reps.one' {vs : List V} {s : T} (h : Reps x G H vs [s] fp) : ∃ v, vs = [v] ∧ Rep x G H v s fp := by
  cases h with | cons h r => cases r; exact ⟨_, rfl, by rw [List.append_nil]; exact h⟩
theorem src_enum {e : Expr} {f : Env → Res T} {st : Bool} {p tpos : Pos} {elts : List Expr} {kk : Nat} (hg : Gl X "enumerate") (hm : X.mg "enumerate" = none) (h : P x X e f) (hs : starEach [e] X.env = [(false, eval e X.env)] := by rfl)
    (hf : ∀ v, foldedSetIterable (.Call (.Name "enumerate" p) [e] [] pos) X.env v = pure v := by intro _; rfl) : Src x X (.Tuple elts kk tpos) (.Call (.Name "enumerate" p) [e] [] pos) st (dEnum st f) := ⟨fun ok W tk => pi_imp (pi_or (pi_enum hg hm ((pa1 h pa0 hs).run ok W tk) hs) (pi_enumT hg hm ((pa1 h pa0 hs).run ok W tk) hs)) fun σ H R ⟨β, φ, G, ρ, E, h⟩ => by
  unfold dEnum at h
  have one : ∀ t, f ρ = .ok t → dCons f dNil ρ = .ok [t] := fun t q => by unfold dCons; rw [q]; rfl
  cases hq : f ρ with
  | exc c p =>
    rw [hq] at h
    exact .inl ⟨β, φ, G, ρ, E, by unfold dCons; rw [hq]; exact h⟩
  | stuck => rw [hq] at h; exact h.elim
  | ok t =>
    rw [hq] at h
    have h : Pst x W G H (if (st && !t.np) = true then Res.stuck else t.eiter) (fun ts _ H1 => ∀ J G2 L, Stp No G H G2 H1 → (st = true → ∀ a, L a = none) → (∀ a o, L a = some o → H1 a = some o ∧ NT o) → ItR x J ts G2 L → R J H1) := h
    by_cases hc : (st && !t.np) = true
    · rw [if_pos hc] at h; exact h.elim
    rw [if_neg hc] at h
    have none0 : ∀ (H1 : Hp), ∀ a o, (fun _ => none : Hp) a = some o → H1 a = some o ∧ NT o := fun _ _ _ z => by cases z
    cases t with
    | lst f ts =>
      refine .inl ⟨β, φ, G, ρ, E, ?_⟩
      rw [one _ hq]
      intro G1 H1 s1 vs fp r nd fr
      obtain ⟨v, rfl, r1⟩ := r.one'
      clear r
      obtain ⟨a, vs, rfl, ha, r0⟩ := r1.lst_inv s1.sub
      refine ⟨a, vs, rfl, .inl (.inl ha), ?_⟩
      rw [ok.K]
      cases r1 with
      | s r =>
        cases r with
        | lst hg rr => exact h G1 H1 s1 _ G1 _ s1 (fun _ _ => rfl) (none0 H1) (itr_enum (.inl ⟨rfl, fun G' H' hG hH sub => .inl (.inl (sub.at (hG _ _ hg) id))⟩) rr)
      | lst f hf h1 rr =>
        cases f with
        | sh => exact absurd rfl hf.1
        | lk => exact absurd rfl hf.2
        | ow =>
          have s2 : Stp No G H (add G1 H1 [a]) H1 := s1.share (Rep.there (.lst .ow hf h1 rr)) fun b hb => ⟨.inl (fr b hb).1, (fr b hb).2⟩
          exact h G1 H1 s1 _ _ _ s2 (fun _ _ => rfl) (none0 H1) (itr_enum (.inl ⟨rfl, fun G' H' hG hH sub => .inl (.inl (sub.at (hG _ _ (by rw [add_in (by simp)]; exact h1)) id))⟩) (rr.le (add_le fun b hb => (fr b hb).2)))
        | pk =>
          cases st with
          | true => exact absurd rfl hc
          | false =>
            refine h G1 H1 s1 _ G1 (lone' a (.lst vs)) s1 (fun z => by cases z) (fun b o z => ?_) (itr_enum (.inl ⟨rfl, fun G' H' hG hH sub => .inl (.inl (hH a _ (if_pos rfl)))⟩) r0)
            unfold lone' at z
            split at z
            · rename_i e; subst e
              cases z
              exact ⟨ha, fun _ z => by cases z⟩
            · cases z
    | tup ts =>
      refine .inr ⟨β, φ, G, ρ, E, ?_⟩
      rw [one _ hq]
      intro G1 H1 s1 vs fp r nd fr
      obtain ⟨v, rfl, r1⟩ := r.one'
      clear r
      cases r1 with
      | s r =>
        cases r with
        | @tup a vs _ hg rr =>
          refine ⟨a, vs, rfl, .inl (.inl (s1.sub.at hg id)), ?_⟩
          rw [ok.K]
          exact h G1 H1 s1 _ G1 _ s1 (fun _ _ => rfl) (none0 H1) (itr_enum (.inr ⟨rfl, fun G' H' hG hH sub => .inl (.inl (sub.at (hG _ _ hg) id))⟩) rr)
    | scr ns =>
      refine .inl ⟨β, φ, G, ρ, E, ?_⟩
      rw [one _ hq]
      intro G1 H1 s1 vs fp r nd fr
      obtain ⟨v, rfl, r1⟩ := r.one'
      clear r
      have rr : RepsS x G1 (ns.map V.int) (ns.map T.int) := reps_ints ns
      cases r1 with
      | s r =>
        cases r with
        | @scr a _ o hg =>
          refine ⟨a, _, rfl, .inl (.inr ⟨o, s1.sub.at hg id⟩), ?_⟩
          rw [ok.K]
          exact h G1 H1 s1 _ G1 _ s1 (fun _ _ => rfl) (none0 H1) (itr_enum (.inl ⟨rfl, fun G' H' hG hH sub => .inl (.inr ⟨o, sub.at (hG _ _ hg) id⟩)⟩) rr)
        | @scrK a _ hg =>
          have hs : ∀ H, SqL x.K H a (ns.map V.int) := fun H => sqL_le (fun _ _ z => by cases z) hg
          refine ⟨a, _, rfl, by rw [ok.K]; exact hs _, ?_⟩
          rw [ok.K]
          exact h G1 H1 s1 _ G1 _ s1 (fun _ _ => rfl) (none0 H1) (itr_enum (.inl ⟨rfl, fun G' H' hG hH sub => hs _⟩) rr)
    | _ => exact h.elim, hf⟩
/-! ### sum(d.values()) -/
theorem pairedBack {α β : Type} {F : α → β → Prop} : ∀ {l₁ : List α} {l₂ : List β}, Paired F l₁ l₂ → ∀ {i : Nat} {b : β}, l₂[i]? = some b → ∃ a, l₁[i]? = some a ∧ F a b
  | _, _, .nil, i, b, e => by simp at e
  | _, _, .cons h r, 0, b, e => by simp at e; subst e; exact ⟨_, rfl, h⟩
  | _, _, .cons h r, i + 1, b, e => by
    obtain ⟨a, e1, e2⟩ := pairedBack r (i := i) (b := b) (by simpa using e)
    exact ⟨a, by simpa using e1, e2⟩
theorem pe_sumVals {e : Expr} {td : TE} {p0 pos apos pos2 : Pos} (hc : X.calm = true) (hgs : Gl X "sum") (hms : X.mg "sum" = none) (he : PE X e td) (hs1 : starEach [.Call (.Attribute e "values" apos) [] [] pos2] X.env = (false, eval (.Call (.Attribute e "values" apos) [] [] pos2) X.env) :: starEach [] X.env := by rfl)
    (hp1 : (backTo pos (starEach [] X.env)).any (·.1) = false := by rfl) (hbase : attributeBase e "values" X.env (eval e X.env) = eval e X.env := by rfl) (hline : (apos.endLine == pos2.line) = true := by rfl) :
    PE X (.Call (.Name "sum" p0) [.Call (.Attribute e "values" apos) [] [] pos2] [] pos) (fun σ H Q => td σ H fun v H1 => ∃ (d : Addr) (kvs : List (Key × V)) (ns : List Int), v = .ref d ∧ Rd H1 d (.dK kvs) ∧ kvs.map (·.2) = ns.map V.int ∧ Q (.int ns.sum) H1) := by
  refine ⟨fun pins s σ H Q I h => ?_⟩
  refine wpAny_Call_Name_kw (ld_blt I hgs hms PyProof.Rows.boot_sum ?_)
  refine PyProof.Rows.callWith_builtin1 ?_ hs1 hp1
  rw [hs1]
  show wpAny _ _ (spliced ((false, eval (.Call (.Attribute e "values" apos) [] [] pos2) X.env) :: backTo pos (starEach [] X.env))) _ _ s
  refine Calls.spliced_cons ?_
  refine wpAny_Call_method (T := "dict") (id := "dict.values") hbase rfl hline F.plainAttrs_dict F.slot_dict_values F.type_dict_values (thn (he.run pins s σ H _ I h) fun u s1 ⟨v, H1, I1, rx, d, kvs, ns, ex, hd, hv, q⟩ => ?_)
  subst ex
  obtain rfl : u = Value.ref d := rx
  obtain ⟨hz, hs, vs, kv, hm⟩ := dk_rd I1.hok hd
  refine ⟨hm.typeIs, hm.mapOf.noDict, ?_⟩
  show wpAny _ _ (callWith pos2 (.builtin "dict.values") [.ref d] [] []) _ X.xe s1
  refine method_meetsIn F.slot_dict_values F.entry_dict_values rfl (PySem.evalArgs_none ⟨rfl, hm.typeIs, F.args_dict_values_1 _, _, meets_dict_values (mixKind X.prog X.w) d hs, ⟨vs, hm⟩, ?_⟩)
  refine Calls.spliced_nil ?_
  obtain ⟨ep, dat⟩ := hm.dictAt
  have hA : X.A.in1.handled = none := I1.ok.hd hc
  have hd0 : d < s1.heap.objs.size := by obtain ⟨_, _, q, _⟩ := dat; exact Heap.lt_size q
  have hlen : vs.length = ns.length := by
    have e1 := Paired.length kv
    have e2 := congrArg List.length hv
    rw [List.length_map, List.length_map] at e2
    omega
  have at_ : ∀ (i : Nat) (k : Key) (u : Value), vs[i]? = some (k, u) → ∃ t, u = .int ((ns[i]?).getD 0) t := by
    intro i k u hu
    obtain ⟨kw, hk, hr⟩ := pairedBack kv hu
    have e1 : (kvs.map (·.2))[i]? = some kw.2 := by rw [List.getElem?_map, hk]; rfl
    rw [hv, List.getElem?_map] at e1
    cases e2 : ns[i]? with
    | none => rw [e2] at e1; cases e1
    | some n =>
      rw [e2] at e1
      have e1 : some (V.int n) = some kw.2 := e1
      have r2 := hr.2
      rw [← Option.some.inj e1] at r2
      obtain ⟨t, rfl⟩ := r2
      exact ⟨t, rfl⟩
  have hsum : preSum (fun j => (ns[j]?).getD 0) vs.length = ns.sum := by
    have := preSum_list (h := fun v => match v with | .int i => i | _ => 0) (ns.map V.int) (fun j => (ns[j]?).getD 0) (fun i x hx => by
      rw [List.getElem?_map] at hx
      cases e2 : ns[i]? with
      | none => rw [e2] at hx; cases hx
      | some n => rw [e2] at hx; cases hx; rfl) ns.length (by simp)
    rw [hlen, this]
    have e3 : (ns.map V.int).take ns.length = ns.map V.int := List.take_of_length_le (by simp)
    rw [e3, List.map_map]
    have e4 : ((fun v : V => match v with | .int i => i | _ => 0) ∘ V.int) = id := rfl
    rw [e4, List.map_id]
  refine call_sum_walkG (wpAny_pyIter_values (d := d) (knd := mixKind X.prog X.w) ⟨_, Heap.get?_push_size _ rfl, rfl, rfl⟩ (dat.keep fun b o z => Heap.get?_push_of_some _ z) ?_)
  have hz2 : (s1.heap.push { cls := .type "dict_values", data := .fields #[.ref d] }).objs.size = s1.heap.objs.size + 1 := Heap.size_push ..
  refine ⟨_, _, _, _, _, _, fun j => (ns[j]?).getD 0, rfl, Walks.dictValues (knd := mixKind X.prog X.w) hA _ d (by rw [hz2]; exact Nat.ne_of_lt (Nat.lt_succ_of_lt hd0)) vs ep, ⟨⟨_, Heap.get?_push_size _ rfl, rfl, rfl⟩, dat.keep fun b o z => Heap.get?_push_of_some _ (Heap.get?_push_of_some _ z)⟩, fun b hb => ?_, fun i v ⟨k, hk⟩ => at_ i k v hk, fun h' tk t' hk => ?_⟩
  · have : (((s1.heap.push { cls := .type "dict_values", data := .fields #[.ref d] }).push { cls := .type "dict_valueiterator", data := .fields #[.ref d, .int 0 0, .int vs.length 0, .int ep 0] })).objs.size = s1.heap.objs.size + 1 + 1 := by rw [Heap.size_push, hz2]
    rw [this]
    rcases List.mem_cons.mp hb with z | z
    · rw [z, hz2]; exact Nat.lt_succ_self _
    · rw [List.mem_singleton.mp z]; exact Nat.lt_succ_of_lt (Nat.lt_succ_of_lt hd0)
  · rw [hsum]
    refine ⟨.int _, H1, I1.kept (t' := tk) fun b o z => hk b o (fun m => ?_) (Heap.get?_push_of_some _ (Heap.get?_push_of_some _ z)), ⟨_, rfl⟩, q⟩
    have z1 := Heap.lt_size z
    rw [List.mem_singleton.mp m, hz2] at z1
    exact Nat.lt_irrefl _ (Nat.lt_of_succ_lt z1)
def intsOf : List T → Option (List Int)
  | [] => some []
  | .int i :: r => (intsOf r).map (i :: ·)
  | _ :: _ => none
theorem intsOf_reps : ∀ {vs : List V} {ts : List T} {ns : List Int}, RepsS x G vs ts → intsOf ts = some ns → vs = ns.map V.int
  | _, _, _, .nil, e => by cases e; rfl
  | _, t :: ts, _, .cons h r, e => by
    cases t with
    | int i =>
      have e : (intsOf ts).map (i :: ·) = some _ := e
      cases e2 : intsOf ts with
      | none => rw [e2] at e; cases e
      | some ms =>
        rw [e2] at e; cases e
        cases h
        rw [intsOf_reps r e2]; rfl
    | _ => cases e
def dSumV (f : Env → Res T) : Env → Res T := fun ρ => (f ρ).bind fun t => match t with
  | .dct _ .k kvs => match intsOf (kvs.map (·.2)) with
    | some ns => .ok (.int ns.sum)
    | none => .stuck
  | _ => .stuck
theorem p_sumV {e : Expr} {p0 apos pos2 : Pos} {f : Env → Res T} (hgs : Gl X "sum") (hms : X.mg "sum" = none) (h : P x X e f) (hs1 : starEach [.Call (.Attribute e "values" apos) [] [] pos2] X.env = (false, eval (.Call (.Attribute e "values" apos) [] [] pos2) X.env) :: starEach [] X.env := by rfl)
    (hp1 : (backTo pos (starEach [] X.env)).any (·.1) = false := by rfl) (hbase : attributeBase e "values" X.env (eval e X.env) = eval e X.env := by rfl) (hline : (apos.endLine == pos2.line) = true := by rfl) :
    P x X (.Call (.Name "sum" p0) [.Call (.Attribute e "values" apos) [] [] pos2] [] pos) (dSumV f) := ⟨fun ok W tk => pe_imp (pe_sumVals ok.calm hgs hms (h.run ok W tk) hs1 hp1 hbase hline) fun σ H Q ⟨β, φ, G, ρ, E, q⟩ => ⟨β, φ, G, ρ, E, Pst.bind q fun t G1 H1 s1 h1 v fp r nd fr => by
  split at h1
  · rename_i fl kvs
    split at h1
    · rename_i ns e
      obtain ⟨a, ws, ts, rfl, rd, rr, e2⟩ := r.dctK_inv s1.sub
      subst e2
      rw [zipS (by have := rr.length; simpa using this)] at e
      exact ⟨a, ws, ns, rfl, rd, intsOf_reps rr e, (h1.later s1).scal s1.sub (.int _)⟩
    · exact h1.elim
  · exact h1.elim⟩⟩
end
end Fn

/-! Fn24: dict comprehensions. -/
namespace Fn
open PySem PySem.Spec L2
variable [Tbs]
section
variable {x : Tx} {β : Bo} {φ φ' : Nat → List Addr} {G G' G2 G1 G0 H H' H0 H1 H2 L : Hp} {W : XK} {X : Cx} {f : Fl} {fp : List Addr} {v : V} {σ : L2.St} {ρ : Env} {tg : Expr} {bs : Nat → Bool} {pos : Pos} {Po : Addr → Prop} {d : Addr} {u : HO} {od : Obj}
def compD (tg : T → Env → Option Env) (tt : Env → Res Bool) (ek ev : Env → Res T) (ρ : Env) : List (T × T) → List T → Res (List (T × T))
  | acc, [] => .ok acc
  | acc, t :: r => match tg t ρ with
    | none => .stuck
    | some ρ1 => match tt ρ1 with
      | .ok true => match ek ρ1 with
        | .ok k => if k.isKey = true then (match ev ρ1 with
          | .ok u => match u.frz with
            | some u' => if acc.length < 10000000 then compD tg tt ek ev ρ (dput acc k u') r else .stuck
            | none => .stuck
          | _ => .stuck) else .stuck
        | _ => .stuck
      | .ok false => compD tg tt ek ev ρ acc r
      | _ => .stuck
theorem compD_noexc {tg : T → Env → Option Env} {tt : Env → Res Bool} {ek ev : Env → Res T} {ρ : Env} : ∀ {ts : List T} {acc : List (T × T)} {c : Nat} {p : List T}, compD tg tt ek ev ρ acc ts ≠ .exc c p
  | [], acc, c, p, e => by cases e
  | t :: r, acc, c, p, e => by
    unfold compD at e
    split at e
    · cases e
    · split at e
      · split at e
        · split at e
          · split at e
            · split at e
              · split at e
                · exact compD_noexc e
                · cases e
              · cases e
            · cases e
          · cases e
        · cases e
      · exact compD_noexc e
      · cases e
def RepD (x : Tx) (G : Hp) (ws : List (Key × V)) (kvs : List (T × T)) : Prop := ∃ ts, RepsS x G (ws.map (·.2)) ts ∧ kvs = (ws.map fun kv => kT kv.1).zip ts
theorem RepD.le {ws : List (Key × V)} {kvs : List (T × T)} (h : RepD x G ws kvs) (l : ∀ b o, G b = some o → G' b = some o) : RepD x G' ws kvs := let ⟨ts, r, e⟩ := h; ⟨ts, r.le l, e⟩
theorem RepD.length {ws : List (Key × V)} {kvs : List (T × T)} (h : RepD x G ws kvs) : kvs.length = ws.length := by
  obtain ⟨ts, r, rfl⟩ := h
  exact kvs_zlen r
theorem RepD.put {ws : List (Key × V)} {kvs : List (T × T)} {w : V} {t : T} {key : Key} (h : RepD x G ws kvs) (hw : RepS x G w t) : RepD x G (putK ws key w) (dput kvs (kT key) t) := by
  obtain ⟨ts, r, rfl⟩ := h
  obtain ⟨ts', e, r'⟩ := dput_of (x := x) (G := G) Fn.kT key (fun l => kT_eqv l key) hw r
  exact ⟨ts', r', e⟩
/-- the comprehension's turns -/
theorem compD_core {J : It} {ts : List T} {G2 : Hp} {us : List (T × T)} {tgf : T → Env → Option Env} {ttf : Env → Res Bool} {kef vef : Env → Res T} {own : List Nat} {g : TG} {Qe : Addr → Hp → Prop} (E : ER x β φ G2 H1 σ ρ) (it : ItR x J ts G2 L) (hL : ∀ a o, L a = some o → H1 a = some o ∧ NT o)
    (hc : compD tgf ttf kef vef (wipeE ρ own) [] ts = .ok us)
    (hg : ∀ (β : Bo) (φ : Nat → List Addr) (G H : Hp) (σ : L2.St) (ρ ρ' : Env) (v : V) (u : T) (Q : L2.St → Hp → Prop), ER x β φ G H σ ρ → (∀ i ∈ own, β.b i = none) → RepS x G v u → tgf u ρ = some ρ' →
      (∀ σ' φ', ER x β φ' G H σ' ρ' → (∀ i, i ∉ own → σ'[i]? = σ[i]?) → σ'.length = σ.length → Q σ' H) → g v σ H Q)
    {D : Addr} (hD : H1 D = none) (fin : ∀ G H acc, Stp No G2 H1 G H → H D = some (.dK acc) → G D = none → RepD x G acc us → Qe D H) :
    ∃ Wi : Nat → Nat → Hp → Prop, (∃ m, Wi 0 m (upd H1 D (.dK []))) ∧ ∀ i m H, Wi i m H →
      (J.stop i H ∧ Qe D H) ∨ (J.go i H ∧ ∃ Nx : Hp → Prop, (∀ H', Nx H' → ∃ m', m' < m ∧ Wi (i + 1) m' H') ∧ ∀ y H', J.yld i H y H' → g y (L2.wipe σ own) H' fun σ2 H2 => L2.wipe σ2 own = L2.wipe σ own ∧ tPT x W0 ttf σ2 H2 fun b H3 =>
        if b = true then tP x W0 kef σ2 H3 fun y H4 => tP x W0 vef σ2 H4 fun z H5 => ∃ kvs k, y = kV k ∧ H5 D = some (.dK kvs) ∧ kvs.length < sizeLine ∧ Nx (upd H5 D (.dK (putK kvs k z))) else Nx H3) := by
  obtain ⟨φw, Ew⟩ := ER.wipe own E.forget
  have g2D : G2 D = none := by
    cases q : G2 D with
    | none => rfl
    | some u => rcases (E.sub D u q).2 with z | ⟨od, z, _⟩ <;> (rw [hD] at z; cases z)
  refine ⟨fun i m H => i + m = ts.length ∧ ∃ G acc done, Stp No G2 H1 G H ∧ H D = some (.dK acc) ∧ G D = none ∧ RepD x G acc done ∧ compD tgf ttf kef vef (wipeE ρ own) done (ts.drop i) = .ok us, ⟨ts.length, by omega, G2, [], [], .laid E.sub hD, upd_same, g2D, ⟨[], .nil, rfl⟩, by simpa using hc⟩, ?_⟩
  rintro i m H ⟨him, G, acc, done, st, hHD, hGD, rep, hcr⟩
  obtain ⟨go, yl, sp⟩ := it G H i st.le (fun a o e => st.ext.keep a o (hL a o e).1 (hL a o e).2 id) st.sub
  by_cases hi : i < ts.length
  case neg =>
    have hi : ts.length ≤ i := by omega
    rw [List.drop_eq_nil_of_le hi] at hcr
    cases hcr
    exact .inl ⟨sp hi, fin G H acc st hHD hGD rep⟩
  case pos =>
  obtain ⟨t, ht⟩ : ∃ t, ts[i]? = some t := ⟨_, List.getElem?_eq_getElem hi⟩
  have hdrop : ts.drop i = t :: ts.drop (i + 1) := by
    rw [List.drop_eq_getElem_cons hi]
    rw [List.getElem?_eq_getElem hi] at ht
    cases ht; rfl
  rw [hdrop] at hcr
  have ownD : ∀ {H : Hp} {acc : List (Key × V)}, H D = some (.dK acc) → Ownd H D := fun e => ⟨_, e, fun _ z => (by cases z), fun _ z => (by cases z)⟩
  refine .inr ⟨go hi, fun H' => (i + 1) + (m - 1) = ts.length ∧ ∃ G acc done, Stp No G2 H1 G H' ∧ H' D = some (.dK acc) ∧ G D = none ∧ RepD x G acc done ∧ compD tgf ttf kef vef (wipeE ρ own) done (ts.drop (i + 1)) = .ok us, fun H' h' => ⟨m - 1, by omega, h'⟩, ?_⟩
  intro y H' hy
  obtain ⟨G', s', ry⟩ := yl t y H' ht hy
  have sT := st.trans s'
  have hD' : H' D = some (.dK acc) := s'.ext.keep D _ hHD (fun _ z => by cases z) id
  have gD' : G' D = none := s'.notIn hGD (ownD hHD) id
  unfold compD at hcr
  cases e1 : tgf t (wipeE ρ own) with
  | none => rw [e1] at hcr; cases hcr
  | some ρ1 =>
    rw [e1] at hcr
    simp only at hcr
    refine hg _ φw G' H' _ _ ρ1 y t _ (Ew.step sT) (fun _ _ => rfl) ry e1 fun σ2 φ2 E2 hn hl2 => ⟨wipe_eq hl2 hn, ?_⟩
    refine ⟨_, φ2, G', ρ1, E2, ?_⟩
    cases e2 : ttf ρ1 with
    | exc c p => rw [e2] at hcr; cases hcr
    | stuck => rw [e2] at hcr; cases hcr
    | ok b =>
      rw [e2] at hcr
      intro G3 H3 s3
      have hD3 : H3 D = some (.dK acc) := s3.ext.keep D _ hD' (fun _ z => by cases z) id
      have gD3 : G3 D = none := s3.notIn gD' (ownD hD') id
      cases b with
      | false => exact iteF ⟨by omega, G3, acc, done, sT.trans s3, hD3, gD3, (rep.le s'.le).le s3.le, hcr⟩
      | true =>
        refine iteT ⟨_, φ2, G3, ρ1, E2.step s3, ?_⟩
        simp only at hcr
        cases e3 : kef ρ1 with
        | exc c p => rw [e3] at hcr; cases hcr
        | stuck => rw [e3] at hcr; cases hcr
        | ok k =>
          rw [e3] at hcr
          simp only at hcr
          by_cases hk : k.isKey = true
          case neg => rw [if_neg hk] at hcr; cases hcr
          case pos =>
          rw [if_pos hk] at hcr
          intro G4 H4 s4 yk fk rk _ _
          obtain ⟨key, rfl⟩ := isKey_kT hk
          have ek := rk.kT
          refine ⟨_, φ2, G4, ρ1, (E2.step s3).step s4, ?_⟩
          cases e3' : vef ρ1 with
          | exc c p => rw [e3'] at hcr; cases hcr
          | stuck => rw [e3'] at hcr; cases hcr
          | ok u =>
            rw [e3'] at hcr
            simp only at hcr
            cases e4 : u.frz with
            | none => rw [e4] at hcr; cases hcr
            | some u' =>
              rw [e4] at hcr
              simp only at hcr
              by_cases hlen : done.length < 10000000
              case neg => rw [if_neg hlen] at hcr; cases hcr
              case pos =>
              rw [if_pos hlen] at hcr
              intro G5 H5 s5 w fp rw' nd fr
              have hD4 : H4 D = some (.dK acc) := s4.ext.keep D _ hD3 (fun _ z => by cases z) id
              have hD5 : H5 D = some (.dK acc) := s5.ext.keep D _ hD4 (fun _ z => by cases z) id
              have gD4 : G4 D = none := s4.notIn gD3 (ownD hD3) id
              have s6 : Stp No G4 H4 (add G5 H5 fp) H5 := s5.share rw'.there fun a ha => ⟨.inl (fr a ha).1, (fr a ha).2⟩
              have gD6 : add G5 H5 fp D = none := s6.notIn gD4 (ownD hD4) id
              have sAll := ((sT.trans s3).trans s4).trans s6
              refine ⟨acc, key, ek, hD5, ?_, by omega, _, putK acc key w, dput done (kT key) u', sAll.mut hD gD6 (by rw [hD5]; simp) (fun ps z => by rw [hD5] at z; cases z) (fun ps z => by rw [hD5] at z; cases z), upd_same, gD6, ?_, hcr⟩
              · have := rep.length
                have : sizeLine = 16777216 := sizeLine_eq
                omega
              · exact (rep.le ((s'.le · · ·) |> fun h => fun b o e => s6.le b o (s4.le b o (s3.le b o (s'.le b o e))))).put (rw'.frz (fun a ha => (fr a ha).2) e4)
def dCompD (pk : Bool) (src : Env → Res (List T)) (tg : T → Env → Option Env) (tt : Env → Res Bool) (ek ev : Env → Res T) (own : List Nat) : Env → Res T := fun ρ => (src ρ).bind fun ts =>
  (compD tg tt ek ev (wipeE (pkIf pk ρ) own) [] ts).bind fun us => .ok (.dct .ow .k us)
theorem p_compD {iter kx vx : Expr} {ifs : List Expr} {scope : Scope} {pk : Bool} {src : Env → Res (List T)} {tgf : T → Env → Option Env} {ttf : Env → Res Bool} {kef vef : Env → Res T} {own : List (Str × Nat)} {g : TG} {ws : List Nat}
    (hs : SrcG x X tg iter pk src) (okb : BlkOk X.N X.env.scope scope own)
    (hg : ∀ (s : Shared) (H : Hp) (C : Addr) (cl : List (Str × Addr)) (fp : List Addr), PGo x (X.blk s H scope (compEnvC scope cl C X.env) fp) tg g) (sg : TgSem x ws tgf g) (hw : ∀ i ∈ ws, i ∈ own.map (·.2))
    (ht : ∀ (s : Shared) (H : Hp) (C : Addr) (cl : List (Str × Addr)) (fp : List Addr), PIfs x (X.blk s H scope (compEnvC scope cl C X.env) fp) ifs ttf)
    (hk : ∀ (s : Shared) (H : Hp) (C : Addr) (cl : List (Str × Addr)) (fp : List Addr), P x (X.blk s H scope (compEnvC scope cl C X.env) fp) kx kef)
    (he : ∀ (s : Shared) (H : Hp) (C : Addr) (cl : List (Str × Addr)) (fp : List Addr), P x (X.blk s H scope (compEnvC scope cl C X.env) fp) vx vef) :
    P x X (.DictComp kx vx [⟨tg, iter, ifs, 0⟩] scope pos) (dCompD pk src tgf ttf kef vef (own.map (·.2))) := ⟨fun ok W tk => pe_imp (pe_unl (pe_dc ok.calm ok.nd (hs.run ok W tk) okb (fun s H C cl fp => (hg s H C cl fp).run (ok.blk s H scope _ fp)) (fun s H C cl fp => (ht s H C cl fp).run (ok.blk s H scope _ fp) W0 takes0) (fun s H C cl fp => (hk s H C cl fp).run (ok.blk s H scope _ fp) W0 takes0) (fun s H C cl fp => (he s H C cl fp).run (ok.blk s H scope _ fp) W0 takes0) hs.fold)) fun σ H Q ⟨β, φ, G, ρ, E, h⟩ => ⟨β, φ, G, ρ, E, by
  unfold dCompD at h
  refine Pst.bind h fun ts G1 H1 s1 h1 J G2 H2 L β2 φ2 E2 bk lv hL it D hD => ?_
  cases hc : compD tgf ttf kef vef (wipeE (pkIf pk ρ) (own.map (·.2))) [] ts with
  | exc c p => exact absurd hc compD_noexc
  | stuck => rw [hc] at h1; exact h1.elim
  | ok us =>
    rw [hc] at h1
    refine compD_core (Qe := fun D H => Unl X (Q (.ref D)) H) E2 it hL hc (fun β φ G H σ ρ ρ' v u Q E hb r e k => sg β φ G H σ ρ ρ' v u Q E (fun i hi => hb i (hw i hi)) r e fun σ' φ' E' o n l => k σ' φ' E' (fun i hi => n i fun z => hi (hw i z)) l) hD fun G' H' acc st hH hG r => ?_
    obtain ⟨H4, k1, k2, k3, k4⟩ := bk G' H' st
    obtain ⟨ts', r', rfl⟩ := r
    refine k2 _ (h1 G' H4 k1 (.ref D) [D] (k4 _ _ _ (.dctK .ow hH r') fun a ha => ?_) (by simp) fun a ha => ?_)
    · cases List.mem_singleton.mp ha; exact .of hD
    · cases List.mem_singleton.mp ha; exact ⟨lv _ (.of hD), hG⟩⟩⟩
end
end Fn

/-! Fn25: sorted. -/
namespace Fn
open PySem PySem.Spec L2
variable [Tbs]
mutual
theorem reads_live {h : Heap} : ∀ (d : PyData) (v : Value) (as : List Addr), Reads h v d as → ∀ b ∈ as, ∃ o, h.get? b = some o
  | .none, _, _, r, b, hb => by cases r; cases hb
  | .bool _, _, _, r, b, hb => by cases r; cases hb
  | .int _, _, _, r, b, hb => by cases r; cases hb
  | .str _, _, _, r, b, hb => by cases r; cases hb
  | .list xs, _, _, r, b, hb => by
    cases r with
    | list h1 h2 h3 h4 =>
      rcases List.mem_cons.mp hb with z | z
      · rw [z]; exact ⟨_, h1⟩
      · exact readsAll_live xs _ _ h4 b z
  | .tuple xs, _, _, r, b, hb => by
    cases r with
    | tuple h1 h2 h3 h4 => exact readsAll_live xs _ _ h4 b hb
  | .dict kvs, _, _, r, b, hb => by
    cases r with
    | dict h1 h2 h3 h4 h5 =>
      rcases List.mem_append.mp hb with z | z
      · rcases List.mem_cons.mp z with z | z
        · rw [z]; exact ⟨_, h1⟩
        · exact readsAll_liveK kvs _ _ h4 b z
      · exact readsAll_liveV kvs _ _ h5 b z
theorem readsAll_live {h : Heap} : ∀ (ds : List PyData) (vs : List Value) (as : List Addr), ReadsAll h vs ds as → ∀ b ∈ as, ∃ o, h.get? b = some o
  | [], _, _, r, b, hb => by cases r; cases hb
  | d :: ds, _, _, r, b, hb => by
    cases r with
    | cons h1 h2 =>
      rcases List.mem_append.mp hb with z | z
      · exact reads_live d _ _ h1 b z
      · exact readsAll_live ds _ _ h2 b z
theorem readsAll_liveK {h : Heap} : ∀ (ds : List (PyData × PyData)) (vs : List Value) (as : List Addr), ReadsAll h vs (ds.map (·.1)) as → ∀ b ∈ as, ∃ o, h.get? b = some o
  | [], _, _, r, b, hb => by
    have r : ReadsAll h _ [] _ := r
    cases r; cases hb
  | (d, e) :: ds, _, _, r, b, hb => by
    have r : ReadsAll h _ (d :: ds.map (·.1)) _ := r
    cases r with
    | cons h1 h2 =>
      rcases List.mem_append.mp hb with z | z
      · exact reads_live d _ _ h1 b z
      · exact readsAll_liveK ds _ _ h2 b z
theorem readsAll_liveV {h : Heap} : ∀ (ds : List (PyData × PyData)) (vs : List Value) (as : List Addr), ReadsAll h vs (ds.map (·.2)) as → ∀ b ∈ as, ∃ o, h.get? b = some o
  | [], _, _, r, b, hb => by
    have r : ReadsAll h _ [] _ := r
    cases r; cases hb
  | (d, e) :: ds, _, _, r, b, hb => by
    have r : ReadsAll h _ (e :: ds.map (·.2)) _ := r
    cases r with
    | cons h1 h2 =>
      rcases List.mem_append.mp hb with z | z
      · exact reads_live e _ _ h1 b z
      · exact readsAll_liveV ds _ _ h2 b z
end
section
open PyProof.Rows PySem.W
variable {prog : Program} {w : World} {A : Around} {s : Shared} {E : Value → Shared → Prop}
/-- sorted(v), v told by what is collected of it -/
theorem sorted_col {v : Value} {C : List Value → Prop} {Q : Value → Shared → Prop} (hcol : ∀ (R : List Value → Shared → Prop), (∀ h' tk vs, (∀ b o, s.heap.get? b = some o → h'.get? b = some o) → C vs → R vs { s with heap := h', toks := tk }) → wpAny (model prog w) A.in1 (collect v) R E s)
    {β : Type} {bs : List β} {enc : β → PyData} {R : Value → β → Prop} (hR : ∀ vs, C vs → EachIs R vs bs) (hRd : ∀ (h' : Heap) (tk : Nat), (∀ b o, s.heap.get? b = some o → h'.get? b = some o) → ∀ u b, R u b → ∃ as, Reads h' u (enc b) as)
    (hal : AllAlike (bs.map enc)) (hk : Sortable (bs.map enc)) (hL : bs.length ≤ sizeLine) (hu : ∀ b, b ∈ bs → A.units + 2 + (enc b).depth < cLine)
    (h : ∀ (h1 h' : Heap) (tk : Nat) (a : Addr) (out : List Value) (ep : Nat), (∀ b o, s.heap.get? b = some o → h1.get? b = some o) → (∀ b o, h1.get? b = some o → h'.get? b = some o) → h1.objs.size ≤ a → h'.get? a = some (seqObj "list" out.toArray ep) → out.length = bs.length → EachIs R out (bs.mergeSort (dataLe false enc)) → Q (.ref a) { s with heap := h', toks := tk }) :
    wpAny (model prog w) A (call (.builtin "sorted") [v]) Q E s := by
  refine call_function_entry_kw kind_sorted plain_sorted entry_sorted (args_sorted1 _) ?_
  unfold Builtin.«sorted»
  refine wpAny_bind (m := checkCount "sorted" 1 1 _) (wpAny_pure ?_)
  refine wpAny_bind (hcol _ fun h1 tk1 vs k1 c => ?_)
  have e := hR vs c
  have hlen : vs.length ≤ sizeLine := by rw [e.length]; exact hL
  refine wpAny_bind (wpAny_newList ?_ hlen)
  have k2 : ∀ b o, s.heap.get? b = some o → (h1.push (seqObj "list" vs.toArray 0)).get? b = some o := fun b o z => Heap.get?_push_of_some _ (k1 b o z)
  have lt : ∀ b o, s.heap.get? b = some o → b < h1.objs.size := fun b o z => Heap.lt_size (k1 b o z)
  have ho : (h1.push (seqObj "list" vs.toArray 0)).get? h1.objs.size = some (seqObj "list" vs.toArray 0) := Heap.get?_push_size _ rfl
  refine wpAny_bind (wpAny_holding (list_sort_data (A := A.in1) (s := { s with heap := h1.push (seqObj "list" vs.toArray 0), toks := tk1 }) ho e (e.mono fun u b r => ?_) hal hk hL (fun b hb => by have := hu b hb; show A.units + 1 + 1 + _ < _; omega) fun out ho' he' => ?_))
  · obtain ⟨as, r1⟩ := hRd h1 tk1 k1 u b r
    refine ⟨as, Reads.keeps (fun b o z => Heap.get?_push_of_some _ z) r1, fun z => ?_⟩
    obtain ⟨o, q⟩ := reads_live _ _ _ r1 _ z
    exact absurd (Heap.lt_size q) (Nat.lt_irrefl _)
  · obtain ⟨ep, q⟩ := sortedHeap_at (out := out.toArray) ho
    refine wpAny_pure ⟨_, rfl, h h1 _ tk1 _ out ep k1 (fun b o z => ?_) (Nat.le_refl _) q ho' he'⟩
    have lt : b < h1.objs.size := Heap.lt_size z
    rw [sortedHeap_old (Nat.ne_of_lt lt) (by rw [size_push']; exact Nat.lt_succ_of_lt lt)]
    exact Heap.get?_push_of_some _ z
end
section
variable {x : Tx} {β : Bo} {φ φ' : Nat → List Addr} {G G' G2 G1 G0 H H' H0 H1 H2 L : Hp} {W : XK} {X : Cx} {f : Fl} {fp : List Addr} {v : V} {σ : L2.St} {ρ : Env} {tg : Expr} {bs : Nat → Bool} {pos : Pos} {Po : Addr → Prop} {d : Addr} {u : HO} {od : Obj}
def T.enc (t : T) : PyData := t.dat.getD .none
def isTup1 : T → Bool
  | .tup (_ :: _) => true
  | .ktup (_ :: _) => true
  | _ => false
def isPln : T → Bool
  | .tup _ => false
  | .ktup _ => false
  | .non => false
  | _ => true
/-- what can be sorted -/
def sortOk (ts : List T) : Bool := (ts.all fun t => t.dok 60) && (ts.all fun a => ts.all fun b => PySem.W.alike a.enc b.enc) && (ts.all isTup1 || ts.all isPln) && decide (ts.length ≤ 10000000)
def srt (ts : List T) : List T := ts.mergeSort (PySem.W.dataLe false T.enc)
theorem sortable_of {ts : List T} (hd : ts.all (fun t => t.dok 60) = true) (h : (ts.all isTup1 || ts.all isPln) = true) : PySem.W.Sortable (ts.map T.enc) := by
  rw [Bool.or_eq_true] at h
  have hd : ∀ t ∈ ts, t.dok 60 = true := fun t ht => List.all_eq_true.mp hd t ht
  rcases h with h | h
  · refine .inl fun e he => ?_
    obtain ⟨t, ht, rfl⟩ := List.mem_map.mp he
    have := List.all_eq_true.mp h t ht
    obtain ⟨dd, e1, _, _⟩ := dok_dat (hd t ht)
    unfold T.enc
    rw [e1]
    cases t with
    | tup xs =>
      cases xs with
      | nil => cases this
      | cons y ys =>
        obtain ⟨ds, e2, rfl⟩ := dat_tup (xs := y :: ys) e1
        unfold datAll at e2
        split at e2
        · cases e2; exact ⟨_, _, rfl⟩
        · cases e2
    | ktup xs =>
      cases xs with
      | nil => cases this
      | cons y ys =>
        obtain ⟨ds, e2, rfl⟩ := dat_tup (xs := y :: ys) e1
        unfold datAll at e2
        split at e2
        · cases e2; exact ⟨_, _, rfl⟩
        · cases e2
    | _ => cases this
  · refine .inr fun e he => ?_
    obtain ⟨t, ht, rfl⟩ := List.mem_map.mp he
    have := List.all_eq_true.mp h t ht
    obtain ⟨dd, e1, _, _⟩ := dok_dat (hd t ht)
    unfold T.enc
    rw [e1]
    cases t with
    | tup xs => cases this
    | ktup xs => cases this
    | non => cases this
    | bl b => cases e1; exact ⟨PyData.noConfusion, fun _ => PyData.noConfusion⟩
    | int b => cases e1; exact ⟨PyData.noConfusion, fun _ => PyData.noConfusion⟩
    | str b => cases e1; exact ⟨PyData.noConfusion, fun _ => PyData.noConfusion⟩
    | lst f xs =>
      obtain ⟨ds, e2, rfl⟩ := dat_lst (xs := xs) e1
      exact ⟨PyData.noConfusion, fun _ => PyData.noConfusion⟩
    | fn n => cases e1
    | scr ns => cases e1
    | dct f k kvs => cases e1
    | obj f c fs => cases e1
/-- a value for a shared tree -/
def RV (x : Tx) (G : Hp) (u : Value) (t : T) : Prop := ∃ w, RelV w u ∧ RepS x G w t
theorem each_rv : ∀ {us : List Value} {ws : List V} {ts : List T}, Vals ws us → RepsS x G ws ts → PySem.W.EachIs (RV x G) us ts
  | _, _, _, .nil, .nil => .nil
  | _, _, _, .cons a r, .cons h q => .cons ⟨_, a, h⟩ (each_rv r q)
theorem rv_each : ∀ {us : List Value} {ts : List T}, PySem.W.EachIs (RV x G) us ts → ∃ ws, Vals ws us ∧ RepsS x G ws ts
  | _, _, .nil => ⟨[], .nil, .nil⟩
  | _, _, .cons ⟨w, a, h⟩ r => let ⟨ws, b, q⟩ := rv_each r; ⟨w :: ws, .cons a b, .cons h q⟩
theorem sort_core (ok : XOk x X) {vv : Value} {ts : List T} {Q : VK} {pins : List (Addr × Obj)} {sh : Shared} {σ : L2.St} (sub : Sub G H) (I : Inv X pins σ H sh) (hok : sortOk ts = true)
    (hcol : ∀ (R : List Value → Shared → Prop), (∀ h' tk us, (∀ b o, sh.heap.get? b = some o → h'.get? b = some o) → PySem.W.EachIs (RV x G) us ts → R us { sh with heap := h', toks := tk }) → wpAny (model X.prog X.w) X.A.in1 (collect vv) R X.xe sh)
    (k : ∀ p ws, H p = none → RepsS x G ws (srt ts) → Q (.ref p) (upd H p (.lst ws))) : wpAny (model X.prog X.w) X.A (call (.builtin "sorted") [vv]) (EP X pins σ Q) X.xe sh := by
  have hu := ok.room.units
  unfold sortOk at hok
  rw [Bool.and_eq_true, Bool.and_eq_true, Bool.and_eq_true] at hok
  obtain ⟨⟨⟨h1, h2⟩, h3⟩, h4⟩ := hok
  have hz : sizeLine = 16777216 := sizeLine_eq
  have h4 : ts.length ≤ 10000000 := of_decide_eq_true h4
  have dok : ∀ t ∈ ts, t.dok 60 = true := fun t ht => List.all_eq_true.mp h1 t ht
  -- a value and its tree, with the tree among ts
  have each2 : ∀ {us : List Value} {rs : List T}, PySem.W.EachIs (RV x G) us rs → (∀ t ∈ rs, t ∈ ts) → PySem.W.EachIs (fun u t => RV x G u t ∧ t ∈ ts) us rs := by
    intro us rs e
    induction e with
    | nil => exact fun _ => .nil
    | cons a r ih => exact fun m => .cons ⟨a, m _ List.mem_cons_self⟩ (ih fun t ht => m t (List.mem_cons_of_mem _ ht))
  refine sorted_col (C := fun us => PySem.W.EachIs (RV x G) us ts) (bs := ts) (enc := T.enc) (R := fun u t => RV x G u t ∧ t ∈ ts) hcol (fun vs e => each2 e fun t ht => ht) (fun h' tk kp u t ⟨⟨w, rw', r⟩, ht⟩ => ?_) (fun a ha b hb => ?_) (sortable_of h1 h3) (by omega) (fun t ht => ?_) fun g1 g' tk a out ep k1 k2 hle ho hl he => ?_
  · obtain ⟨dd, e1, _, _⟩ := dok_dat (dok t ht)
    have I2 : Inv X pins σ H { sh with heap := h', toks := tk } := I.kept kp
    have hd : Dp X.K H w dd := by rw [ok.K]; exact r.dp sub e1
    have := Dp.reads I2 dd w u hd rw'
    unfold T.enc
    rw [e1]; exact this
  · obtain ⟨s, hs, rfl⟩ := List.mem_map.mp ha
    obtain ⟨t, ht, rfl⟩ := List.mem_map.mp hb
    exact List.all_eq_true.mp (List.all_eq_true.mp h2 s hs) t ht
  · obtain ⟨dd, e1, _, l⟩ := dok_dat (dok t ht)
    unfold T.enc
    rw [e1]
    show X.A.units + 2 + dd.depth < cLine
    omega
  · have e3 : PySem.W.EachIs (RV x G) out (srt ts) := he.mono fun _ _ z => z.1
    obtain ⟨ws, rv, rr⟩ := rv_each e3
    have I1 : Inv X pins σ H { sh with heap := g1, toks := tk } := I.kept k1
    have hwl : ws.length ≤ sizeLine := by
      rw [rr.length]
      show (ts.mergeSort _).length ≤ _
      rw [List.length_mergeSort]; omega
    exact ⟨.ref a, upd H a (.lst ws), I1.laid (t' := tk) k2 hle ⟨hwl, out, ep, rv, ho⟩, rfl, k a ws (I1.hok.fresh hle) rr⟩
theorem Pst.newLst' {ts : List T} {Q : V → Hp → Prop} (h : Pst x W G H (.ok (.lst .ow ts)) (Made x H0 Q)) (s : Sub G H) (l : ∀ a, Vac H a → Vac H0 a) : ∀ p ws, H p = none → RepsS x G ws ts → Q (.ref p) (upd H p (.lst ws)) := fun p ws hp r => h.newLst s r l p hp
/-! ### sorted of lists, tuples, dicts -/
def caSorted : List T → Res T
  | [.lst _ ts] => if sortOk ts = true then .ok (.lst .ow (srt ts)) else .stuck
  | [.tup ts] => if sortOk ts = true then .ok (.lst .ow (srt ts)) else .stuck
  | [.dct _ .k kvs] => if sortOk (kvs.map (·.1)) = true then .ok (.lst .ow (srt (kvs.map (·.1)))) else .stuck
  | _ => .stuck
theorem each_of_items {P : Nat → Value → Prop} {ts : List T} {acc : Array Value} (h : ItemsOf P acc ts.length) (k : ∀ j u t, ts[j]? = some t → P j u → RV x G u t) : PySem.W.EachIs (RV x G) acc.toList ts := by
  have go : ∀ (l : List Value) (ts : List T), l.length = ts.length → (∀ (j : Nat) (u : Value) (t : T), l[j]? = some u → ts[j]? = some t → RV x G u t) → PySem.W.EachIs (RV x G) l ts := by
    intro l
    induction l with
    | nil => intro ts hl _; cases ts with
      | nil => exact .nil
      | cons t ts => cases hl
    | cons u l ih => intro ts hl hk; cases ts with
      | nil => cases hl
      | cons t ts => exact .cons (hk 0 u t rfl rfl) (ih ts (by simpa using hl) fun j u t h1 h2 => hk (j + 1) u t (by simpa using h1) (by simpa using h2))
  exact go acc.toList ts (by rw [Array.length_toList]; exact h.1) fun j u t h1 h2 => k j u t h2 (h.2 j u (by rw [← Array.getElem?_toList]; exact h1))
theorem sem_sorted : CaSem x X (.builtin "sorted") caSorted := fun ok W tk G H H0 vs ts fp Q sub r fr nd l h pins sh σ us I ru => by
  have hz : sizeLine = 16777216 := sizeLine_eq
  unfold caSorted at h
  split at h
  · rename_i fl ts
    split at h
    · rename_i hc
      obtain ⟨v, rfl, r1⟩ := r.one'
      obtain ⟨a, ws, rfl, ha, q⟩ := r1.lst_inv sub
      rw [Vals.ref1 ru]
      obtain ⟨its, rv, hl, hzz⟩ := I.list (.inl (.inl ha))
      refine sort_core ok sub I hc (fun R hR => PyProof.Rows.collect_list hl.isList (hR _ sh.toks its (fun b o z => ?_) (each_rv rv q)) (by rw [← rv.length]; exact hzz)) (h.newLst' sub l)
      have hlt := Heap.lt_size z
      rw [Heap.get?_update_ne _ _ _ _ (Nat.ne_of_lt hlt)]
      exact Heap.get?_push_of_some _ z
    · exact h.elim
  · rename_i ts
    split at h
    · rename_i hc
      obtain ⟨v, rfl, r1⟩ := r.one'
      obtain ⟨a, ws, rfl, ha, q⟩ := r1.tup_inv sub
      rw [Vals.ref1 ru]
      obtain ⟨its, rv, hl, hzz⟩ := I.tuple (.inl (.inl ha))
      obtain ⟨ob, h1, h2, n, h3⟩ := hl
      have hsz : its.toArray.size ≤ sizeLine := by rw [List.size_toArray, ← rv.length]; exact hzz
      exact sort_core ok sub I hc (fun R hR => wpAny_collect_seq a (.inr rfl) h1 h2 h3 (fun h' kp => by simpa using hR h' sh.toks its kp (each_rv rv q)) hsz) (h.newLst' sub l)
    · exact h.elim
  · rename_i fl kvs
    split at h
    · rename_i hc
      obtain ⟨v, rfl, r1⟩ := r.one'
      obtain ⟨a, ws, tss, rfl, ha, q, e⟩ := r1.dctK_inv sub
      subst e
      have hlen := q.length
      rw [List.length_map] at hlen
      rw [zipF (by rw [List.length_map]; exact hlen)] at hc h
      rw [Vals.ref1 ru]
      obtain ⟨z1, lo, κvs, kv, dd⟩ := dk_rd I.hok ha
      obtain ⟨ep, hat⟩ := dd.dictAt
      have hkl : κvs.length = (ws.map fun kv => kT kv.1).length := by rw [List.length_map]; exact (Paired.length kv).symm
      refine sort_core ok sub I hc (fun R hR => PySem.W.kdu_collect (PySem.W.kdl_dict (knd := mixKind X.prog X.w) (kvs := κvs) (ep := ep) lo) (I.ok.hd ok.calm) hat (by rw [hkl, List.length_map]; exact z1) fun h' tk acc hk hacc => hR h' tk _ hk ?_) (h.newLst' sub l)
      rw [hkl] at hacc
      refine each_of_items hacc fun j u t e ⟨k, w, e1, e2⟩ => ?_
      obtain ⟨kw, e3, e4⟩ := pairedBack kv e1
      rw [List.getElem?_map, e3] at e
      cases e
      have e5 : kw.1 = k := e4.1
      show RV x G u (kT kw.1)
      rw [e5]
      exact ⟨kV k, relV_key e2, reps_kT k⟩
    · exact h.elim
  · exact h.elim
end
end Fn

/-! Fn26: loops over dicts. -/
namespace Fn
open PySem PySem.Spec L2
variable [Tbs]
section
variable {x : Tx} {β : Bo} {φ φ' : Nat → List Addr} {G G' G2 G1 G0 H H' H0 H1 H2 L : Hp} {W : XK} {X : Cx} {f : Fl} {fp : List Addr} {v : V} {σ : L2.St} {ρ : Env} {tg : Expr} {bs : Nat → Bool} {pos : Pos} {Po : Addr → Prop} {d : Addr} {u : HO} {od : Obj}
/-- the ends, perhaps with a lock taken off -/
def unlD (X : Cx) (D : Ends) : Ends := ⟨fun σ H => Unl X (D.nx σ) H, fun v H => Unl X (D.rt v) H, fun σ H => Unl X (D.bk σ) H, fun σ H => Unl X (D.ct σ) H⟩
def unlW (X : Cx) (W : XK) : XK := fun c d H => Unl X (W c d) H
theorem takes_unl (tk : Takes X (fun c d _ H => W c d H)) : Takes X (fun c d _ H => unlW X W c d H) := fun u s' ⟨a, B, sI, pins, σ, H, cls, d, e, I, nb, up, sky, na, os, ag, w⟩ => by
  rcases w with w | ⟨dd, od, uu, hd, hn, w⟩
  · exact tk u s' ⟨a, B, sI, pins, σ, H, cls, d, e, I, nb, up, sky, na, os, ag, w⟩
  · exact tk u s' ⟨a, B, sI, pins, σ, _, cls, d, e, I.unlock hd hn, nb, up, sky, by rw [upd_ne (fun z => by rw [z, hd] at na; cases na)]; exact na, os, ag, w⟩
theorem ps_unl {st : Stmt} {t : TS} (h : PS X st t) : PS X st (fun D σ H => t (unlD X D) σ H) := ⟨fun pins s σ H D I q => thn (h.run pins s σ H _ I q) fun f s' r => by
  cases f with
  | next =>
    obtain ⟨σ', H', I', q⟩ := r
    rcases q with q | ⟨dd, od, uu, hd, hn, q⟩
    · exact ⟨σ', H', I', q⟩
    · exact ⟨σ', _, I'.unlock hd hn, q⟩
  | brk =>
    obtain ⟨σ', H', I', q⟩ := r
    rcases q with q | ⟨dd, od, uu, hd, hn, q⟩
    · exact ⟨σ', H', I', q⟩
    · exact ⟨σ', _, I'.unlock hd hn, q⟩
  | cont =>
    obtain ⟨σ', H', I', q⟩ := r
    rcases q with q | ⟨dd, od, uu, hd, hn, q⟩
    · exact ⟨σ', H', I', q⟩
    · exact ⟨σ', _, I'.unlock hd hn, q⟩
  | ret u =>
    obtain ⟨v, σ', H', I', r, q⟩ := r
    rcases q with q | ⟨dd, od, uu, hd, hn, q⟩
    · exact ⟨v, σ', H', I', r, q⟩
    · exact ⟨v, σ', _, I'.unlock hd hn, r, q⟩⟩
/-- the loop, from where its source stands -/
theorem for_core {J : It} {ts : List T} {tgf : T → Env → Option Env} {b : Env → ResS} {g : TG} {ws : List Nat} {D : Ends} (E : ER x β φ G2 H2 σ ρ) (it : ItR x J ts G2 L) (hL : ∀ a o, L a = some o → β.l a = some o ∨ (H2 a = some o ∧ NT o ∧ ¬ Ow φ a)) (hb : Bs bs β) (sg : TgSem x ws tgf g) (hw : ∀ i ∈ ws, bs i = false)
    (h : PstS x W β (Ow φ) G2 H2 (forL tgf b ts ρ) D) :
    ∃ Wi : Nat → Nat → L2.St → Hp → Prop, (∃ m, Wi 0 m σ H2) ∧ ∀ i m σ H, Wi i m σ H → (J.stop i H ∧ D.nx σ H) ∨ (J.go i H ∧ ∃ N : L2.St → Hp → Prop, (∀ σ' H', N σ' H' → ∃ m', m' < m ∧ Wi (i + 1) m' σ' H') ∧ ∀ y H', J.yld i H y H' → g y σ H' fun σ2 H2 => tS x bs W b { D with nx := N, ct := N, bk := D.nx } σ2 H2) := by
  have keepL : ∀ {φ1 φ2 : Nat → List Addr} {G3 H3 G4 H4 : Hp}, (∀ a o, L a = some o → β.l a = some o ∨ (H3 a = some o ∧ NT o ∧ ¬ Ow φ1 a)) → Stp (Ow φ1) G3 H3 G4 H4 → (∀ a, Ow φ2 a → Ow φ1 a ∨ Vac H3 a) → ∀ a o, L a = some o → β.l a = some o ∨ (H4 a = some o ∧ NT o ∧ ¬ Ow φ2 a) := by
    intro φ1 φ2 G3 H3 G4 H4 h3 s4 o2 a o e
    rcases h3 a o e with e0 | ⟨e1, n, w⟩
    · exact .inl e0
    refine .inr ⟨s4.ext.keep a o e1 n w, n, fun z => ?_⟩
    rcases o2 a z with q | q
    · exact w q
    · exact q o e1 n
  refine ⟨fun i m σ' H' => i + m = ts.length ∧ ∃ φ' G' ρ', ER x β φ' G' H' σ' ρ' ∧ (∀ b o, G2 b = some o → G' b = some o) ∧ (∀ a o, L a = some o → β.l a = some o ∨ (H' a = some o ∧ NT o ∧ ¬ Ow φ' a)) ∧ PstS x W β (Ow φ') G' H' (forL tgf b (ts.drop i) ρ') D, ⟨ts.length, by omega, φ, G2, ρ, E, fun _ _ z => z, hL, h⟩, ?_⟩
  rintro i m σ' H' ⟨him, φ', G', ρ', E', le', l', h'⟩
  obtain ⟨go, yl, sp⟩ := it G' H' i le' (fun a o e => (l' a o e).elim (fun z => (E'.lck a o z).1) (·.1)) E'.sub
  by_cases hi : i < ts.length
  case neg =>
    have hi : ts.length ≤ i := by omega
    rw [List.drop_eq_nil_of_le hi] at h'
    exact .inl ⟨sp hi, h' σ' φ' G' H' (.refl _ E'.sub) E' fun a z => .inl z⟩
  case pos =>
  obtain ⟨t, ht⟩ : ∃ t, ts[i]? = some t := ⟨_, List.getElem?_eq_getElem hi⟩
  have hdrop : ts.drop i = t :: ts.drop (i + 1) := by
    rw [List.drop_eq_getElem_cons hi]
    rw [List.getElem?_eq_getElem hi] at ht
    cases ht; rfl
  rw [hdrop] at h'
  refine .inr ⟨go hi, fun σ' H' => (i + 1) + (m - 1) = ts.length ∧ ∃ φ' G' ρ', ER x β φ' G' H' σ' ρ' ∧ (∀ b o, G2 b = some o → G' b = some o) ∧ (∀ a o, L a = some o → β.l a = some o ∨ (H' a = some o ∧ NT o ∧ ¬ Ow φ' a)) ∧ PstS x W β (Ow φ') G' H' (forL tgf b (ts.drop (i + 1)) ρ') D, fun σ' H' q => ⟨m - 1, by omega, q⟩, ?_⟩
  intro y H3 hy
  obtain ⟨G3, s3, ry⟩ := yl t y H3 ht hy
  unfold forL at h'
  cases e1 : tgf t ρ' with
  | none => rw [e1] at h'; exact h'.elim
  | some ρ1 =>
    rw [e1] at h'
    simp only at h'
    refine sg β φ' G3 H3 σ' ρ' ρ1 y t _ (E'.step s3) (fun i hi => hb.b i (hw i hi)) ry e1 fun σ2 φ2 E2 o2 n2 l2 => ?_
    have l3 := keepL l' s3.pure (φ2 := φ2) fun a z => .inl (o2 a z)
    refine ⟨β, φ2, G3, ρ1, E2, hb, PstS.body (PstS.later h' s3.pure fun a z => .inl (o2 a z)) fun σ4 ρ4 φ4 G4 H4 s4 E4 o4 h4 => ⟨by omega, φ4, G4, ρ4, E4, fun b o z => s4.le b o (s3.le b o (le' b o z)), keepL l3 s4 o4, h4.later s4 o4⟩⟩
theorem ER.lockO (E : ER x β φ G H σ ρ) (hd : H d = some u) (hu : IsDct u) (no : ¬ Ow φ d) : ER x β φ G (L2.upd H d (.frz od u)) σ ρ where
  len := E.len
  rep := fun i t e => let ⟨v, e1, r, n⟩ := E.rep i t e; ⟨v, e1, r.lock hd hu (fun z => no ⟨i, z⟩), n⟩
  nd := E.nd
  dj := E.dj
  dis := fun i a h => ⟨(E.dis i a h).1, by
    have z : a ≠ d := fun z => no ⟨i, by rw [← z]; exact h⟩
    obtain ⟨o, e, q⟩ := (E.dis i a h).2
    exact ⟨o, by rw [upd_ne z]; exact e, q⟩⟩
  sub := E.sub.lock hd hu
  tab := E.tab.upd (fun _ z => by cases z) (tb_some hd hu.nt hu.next)
  bor := E.bor
  lck := fun a o e => by
    obtain ⟨h1, q⟩ := E.lck a o e
    have z : a ≠ d := fun z => by
      obtain ⟨o', u', rfl⟩ := q
      rw [z, hd] at h1; cases h1; exact hu
    exact ⟨by rw [upd_ne z]; exact h1, q⟩
theorem ER.unlockO (E : ER x β φ G H σ ρ) (hd : H d = some (.frz od u)) (hu : IsDct u) (no : ¬ Ow φ d) (nl : β.l d = none) (sub : Sub G (L2.upd H d u)) : ER x β φ G (L2.upd H d u) σ ρ where
  len := E.len
  rep := fun i t e => let ⟨v, e1, r, n⟩ := E.rep i t e; ⟨v, e1, r.unlock hd hu (fun z => no ⟨i, z⟩), n⟩
  nd := E.nd
  dj := E.dj
  dis := fun i a h => ⟨(E.dis i a h).1, by
    have z : a ≠ d := fun z => no ⟨i, by rw [← z]; exact h⟩
    obtain ⟨o, e, q⟩ := (E.dis i a h).2
    exact ⟨o, by rw [upd_ne z]; exact e, q⟩⟩
  sub := sub
  tab := E.tab.upd hu.nt (tb_some hd (fun _ z => by cases z) fun _ z => by cases z)
  bor := E.bor
  lck := fun a o e => by
    have z : a ≠ d := fun z => by rw [z, nl] at e; cases e
    exact ⟨by rw [upd_ne z]; exact (E.lck a o e).1, (E.lck a o e).2⟩
/-- behind the lock: a dict that nobody here owns -/
theorem PstS.unl {r : ResS} {D : Ends} (s1 : Stp (Ow φ) G H G2 H1) (hd : H1 d = some u) (hu : IsDct u) (hn : ∀ o' u', X.H_0 d ≠ some (.frz o' u')) (no : ¬ Ow φ d) (nl : β.l d = none) (h : PstS x W β (Ow φ) G H r D) :
    PstS x (unlW X W) β (Ow φ) G2 (upd H1 d (.frz od u)) r (unlD X D) := by
  have hp : ∀ a, Ow φ a → a ≠ d := fun a h z => no (by rw [← z]; exact h)
  have live : ∀ a, Vac (upd H1 d (.frz od u)) a → a ≠ d ∧ Vac H a := fun a z => by
    obtain ⟨z1, z2⟩ := z.upd (fun _ z => by cases z)
    exact ⟨z1, s1.ext.back z2⟩
  have own : ∀ φ', (∀ a, Ow φ' a → Ow φ a ∨ Vac (upd H1 d (.frz od u)) a) → (∀ a, Ow φ' a → Ow φ a ∨ Vac H a) ∧ ¬ Ow φ' d := fun φ' o => ⟨fun a z => (o a z).elim .inl fun z => .inr (live a z).2, fun z => (o d z).elim no fun z => (live d z).1 rfl⟩
  cases r with
  | ok fl ρ' =>
    intro σ' φ' G' H' s E' o
    obtain ⟨hf, s2⟩ := Stp.unlk s1 hd hu hp s
    obtain ⟨o2, no2⟩ := own φ' o
    have E2 := E'.unlockO hf hu no2 nl s2.sub
    have q := h σ' φ' G' (upd H' d u) s2 E2 o2
    have un : ∀ {Q : Hp → Prop}, Q (upd H' d u) → Unl X Q H' := fun q => .inr ⟨d, od, u, hf, hn, q⟩
    cases fl with
    | next => exact un q
    | brk => exact un q
    | cont => exact un q
    | ret t => exact fun v fp r hn' nd fr => un (Q := D.rt v) (q v fp (r.unlock hf hu fun z => by
        rcases (fr d z).1 with y | y
        · exact (live d y).1 rfl
        · exact no y) hn' nd fun a ha => ⟨(fr a ha).1.elim (fun z => .inl (live a z).2) .inr, (fr a ha).2⟩)
  | exc c p ρ' =>
    intro dd σ' φ' G' H' s E' o xr
    obtain ⟨hf, s2⟩ := Stp.unlk s1 hd hu hp s
    obtain ⟨o2, no2⟩ := own φ' o
    have E2 := E'.unlockO hf hu no2 nl s2.sub
    obtain ⟨fs, e1, e2, e3⟩ := xr
    refine .inr ⟨d, od, u, hf, hn, h dd σ' φ' G' (upd H' d u) s2 E2 o2 ⟨fs, ?_, e2, Reps.unlock hf hu e3 (by simp)⟩⟩
    rw [upd_ne (fun z => by rw [z, hf] at e1; cases e1)]; exact e1
  | stuck => exact h
/-- the source of a loop: a dict that is shared, or new -/
def dDct (g : T → Res (List T)) (f : Env → Res T) : Env → Res (List T) := fun ρ => (f ρ).bind fun t => if t.np = true then g t else .stuck
theorem lockS {kk : DK} {kvs : List (T × T)} {R : V → Hp → Prop} {r : ResS} {D : Ends} (E : ER x β φ G H σ ρ) (s1 : Stp No G H G1 H1) (rp : Rep x G1 H1 v (.dct f kk kvs) fp) (hn : (T.dct f kk kvs).np = true) (fr : ∀ a ∈ fp, Vac H a ∧ G1 a = none) (h : PstS x W β (Ow φ) G H r D)
    (k : ∀ dd od u H2, v = .ref dd → H2 dd = some (.frz od u) → ¬ Ow φ dd → ER x β φ G1 H2 σ ρ → DkIs x G1 u kk kvs → PstS x (unlW X W) β (Ow φ) G1 H2 r (unlD X D) → R v H2) :
    R v H1 ∨ ∃ dd u, v = .ref dd ∧ H1 dd = some u ∧ Mut (some u) ∧ ((∀ o' u', X.H_0 dd ≠ some (.frz o' u')) → ∀ od, R v (upd H1 dd (.frz od u))) := by
  have E1 := E.step s1
  have go : ∀ (dd : Addr) (u : HO), v = .ref dd → Rd H1 dd u → IsDct u → DkIs x G1 u kk kvs → ¬ Ow φ dd → R v H1 ∨ ∃ dd u, v = .ref dd ∧ H1 dd = some u ∧ Mut (some u) ∧ ((∀ o' u', X.H_0 dd ≠ some (.frz o' u')) → ∀ od, R v (upd H1 dd (.frz od u))) := by
    intro dd u ev rd hu m no
    rcases rd with hd | ⟨od, hd⟩
    · have nl : β.l dd = none := by
        cases q : β.l dd with
        | none => rfl
        | some o =>
          obtain ⟨h1, o', u', rfl⟩ := E1.lck dd o q
          rw [hd] at h1; cases h1; exact hu.elim
      exact .inr ⟨dd, u, ev, hd, hu.mut, fun n od => k dd od u _ ev upd_same no (E1.lockO hd hu no) m (PstS.unl s1.pure hd hu n no nl h)⟩
    · refine .inl (k dd od u H1 ev hd no E1 m ?_)
      have h1 := PstS.later h s1.pure fun a z => .inl z
      cases r with
      | ok fl ρ' => cases fl with
        | next => exact fun σ' φ' G' H' s' E' o => .inl (h1 σ' φ' G' H' s' E' o)
        | brk => exact fun σ' φ' G' H' s' E' o => .inl (h1 σ' φ' G' H' s' E' o)
        | cont => exact fun σ' φ' G' H' s' E' o => .inl (h1 σ' φ' G' H' s' E' o)
        | ret t => exact fun σ' φ' G' H' s' E' o v fp r hn nd fr => .inl (h1 σ' φ' G' H' s' E' o v fp r hn nd fr)
      | exc c p ρ' => exact fun d σ' φ' G' H' s' E' o xr => .inl (h1 d σ' φ' G' H' s' E' o xr)
      | stuck => exact h1
  have no : ∀ dd, v = .ref dd → Rep x G1 H1 v (.dct f kk kvs) fp → ¬ Ow φ dd := by
    intro dd ev rp ⟨j, hj⟩
    subst ev
    have g1 := ((E1.dis j dd hj).1 : G1 dd = none)
    cases rp with
    | s r => cases r with
      | dctK hg _ => rw [hg] at g1; cases g1
      | dctT hg _ => rw [hg] at g1; cases g1
    | dctK f h r => cases f with
      | sh => exact h.elim
      | pk => cases hn
      | ow => exact (E.dis j dd hj).2.ne (fr dd (by simp [fpo])).1
      | lk => exact (E.dis j dd hj).2.ne (fr dd (by simp [fpo])).1
    | dctT f h r => cases f with
      | sh => exact h.elim
      | pk => cases hn
      | ow => exact (E.dis j dd hj).2.ne (fr dd (by simp [fpo])).1
      | lk => exact (E.dis j dd hj).2.ne (fr dd (by simp [fpo])).1
  cases kk with
  | k =>
    obtain ⟨a, ws, ts, rfl, rd, rr, e⟩ := rp.dctK_inv s1.sub
    exact go a (.dK ws) rfl rd trivial ⟨ws, ts, rfl, rr, e⟩ (no a rfl rp)
  | t =>
    obtain ⟨a, ws, ts, rfl, rd, rr, e⟩ := rp.dctT_inv s1.sub
    exact go a (.dT ws) rfl rd trivial ⟨ws, ts, rfl, rr, e⟩ (no a rfl rp)
theorem tP_st {fd : Env → Res T} {g : T → ResS} {D : Ends} {Q : VK} (E : ER x β φ G H σ ρ) (h : PstS x W β (Ow φ) G H ((fd ρ).st ρ g) D)
    (k : ∀ t G1 H1, Stp No G H G1 H1 → PstS x W β (Ow φ) G H (g t) D → ∀ v fp, Rep x G1 H1 v t fp → fp.Nodup → (∀ a ∈ fp, Vac H a ∧ G1 a = none) → Q v H1) : tP x W fd σ H Q :=
  ⟨β, φ, G, ρ, E, PstS.bindP E h fun t G1 H1 s1 h1 v fp r nd fr => k t G1 H1 s1 h1 v fp r nd fr⟩
def tForR (g : TG) (tb : TS) (D : Ends) (σ : L2.St) : It → Hp → Prop := fun J H1 => ∃ W : Nat → Nat → L2.St → Hp → Prop, (∃ m, W 0 m σ H1) ∧ ∀ i m σ H, W i m σ H →
  (J.stop i H ∧ D.nx σ H) ∨ (J.go i H ∧ ∃ N : L2.St → Hp → Prop, (∀ σ' H', N σ' H' → ∃ m', m' < m ∧ W (i + 1) m' σ' H') ∧ ∀ x H', J.yld i H x H' → g x σ H' fun σ2 H2 => tb { D with nx := N, ct := N, bk := D.nx } σ2 H2)
def dForD (g : T → Res (List T)) (fd : Env → Res T) (tg : T → Env → Option Env) (b : Env → ResS) : Env → ResS := fun ρ => (fd ρ).st ρ fun t => if t.np = true then (g t).st ρ fun ts => forL tg b ts ρ else .stuck
theorem s_forK {e : Expr} {body : List Stmt} {fd : Env → Res T} {tgf : T → Env → Option Env} {f : Env → ResS} {g : TG} {ws : List Nat} (h : P x X e fd) (hg : PGo x X tg g) (sg : TgSem x ws tgf g) (hw : ∀ i ∈ ws, bs i = false) (hb : Ss x bs X body f) (hf : ∀ v, foldedSetIterable e X.env v = pure v := by intro _; rfl) :
    S x bs X (.For tg e body [] pos) (dForD T.dkeys fd tgf f) := ⟨fun ok W tk pO => ps_imp (ps_unl (ps_for pO ok.calm (pi_keys (pe_lockv (h.run ok W tk))) (hg.run ok) (hb.run ok (unlW X W) (takes_unl tk) pO) hf)) fun D σ H ⟨β, φ, G, ρ, E, hb, q⟩ => tP_st E q fun t G1 H1 s1 h1 v fp r nd fr => by
  by_cases hn : t.np = true
  case neg => rw [if_neg hn] at h1; exact h1.elim
  rw [if_pos hn] at h1
  cases t with
  | dct fl kk kvs =>
    have h1 : PstS x W β (Ow φ) G H (forL tgf f (kvs.map (·.1)) ρ) D := h1
    refine lockS (X := X) (R := fun v H1 => ∃ d o, v = .ref d ∧ ((∃ kvs, H1 d = some (.frz o (.dK kvs)) ∧ tForR g (tS x bs (unlW X W) f) (unlD X D) σ (Itk d o kvs) H1) ∨ ∃ kvs, H1 d = some (.frz o (.dT kvs)) ∧ tForR g (tS x bs (unlW X W) f) (unlD X D) σ (Itkt d o kvs) H1)) E s1 r hn fr h1 fun dd od u H2 ev hd no E2 m h2 => ⟨dd, od, ev, ?_⟩
    have hL : ∀ o, o = HO.frz od u → ∀ a o', lone dd o a = some o' → β.l a = some o' ∨ (H2 a = some o' ∧ NT o' ∧ ¬ Ow φ a) := fun o eo a o' z => by
      obtain ⟨rfl, rfl⟩ := lone_of z
      subst eo
      exact .inr ⟨hd, fun _ z => (by cases z), no⟩
    cases kk with
    | k =>
      obtain ⟨ws, ts, rfl, rr, e⟩ := m
      exact .inl ⟨ws, hd, for_core E2 (by rw [e]; exact itr_keys' rr lone_at) (hL _ rfl) hb sg hw h2⟩
    | t =>
      obtain ⟨ws, ts, rfl, rr, e⟩ := m
      exact .inr ⟨ws, hd, for_core E2 (by rw [e]; exact itr_keysT' rr lone_at) (hL _ rfl) hb sg hw h2⟩
  | _ => exact h1.elim⟩
theorem s_forV {e : Expr} {apos cpos : Pos} {body : List Stmt} {fd : Env → Res T} {tgf : T → Env → Option Env} {f : Env → ResS} {g : TG} {ws : List Nat} (h : P x X e fd) (hg : PGo x X tg g) (sg : TgSem x ws tgf g) (hw : ∀ i ∈ ws, bs i = false) (hb : Ss x bs X body f) (hbase : attributeBase e "values" X.env (eval e X.env) = eval e X.env := by rfl) (hline : (apos.endLine == cpos.line) = true := by rfl)
    (hf : ∀ v, foldedSetIterable (.Call (.Attribute e "values" apos) [] [] cpos) X.env v = pure v := by intro _; rfl) :
    S x bs X (.For tg (.Call (.Attribute e "values" apos) [] [] cpos) body [] pos) (dForD T.dvals fd tgf f) := ⟨fun ok W tk pO => ps_imp (ps_unl (ps_for pO ok.calm (pi_values (pe_lockv (h.run ok W tk)) hbase hline) (hg.run ok) (hb.run ok (unlW X W) (takes_unl tk) pO) hf)) fun D σ H ⟨β, φ, G, ρ, E, hb, q⟩ => tP_st E q fun t G1 H1 s1 h1 v fp r nd fr => by
  by_cases hn : t.np = true
  case neg => rw [if_neg hn] at h1; exact h1.elim
  rw [if_pos hn] at h1
  cases t with
  | dct fl kk kvs =>
    cases kk with
    | t => exact h1.elim
    | k =>
      have h1 : PstS x W β (Ow φ) G H (forL tgf f (kvs.map (·.2)) ρ) D := h1
      refine lockS (X := X) (R := fun v H1 => ∃ d o kvs, v = .ref d ∧ H1 d = some (.frz o (.dK kvs)) ∧ tForR g (tS x bs (unlW X W) f) (unlD X D) σ (Itd d o kvs) H1) E s1 r hn fr h1 fun dd od u H2 ev hd no E2 m h2 => ?_
      obtain ⟨ws, ts, rfl, rr, e⟩ := m
      refine ⟨dd, od, ws, ev, hd, for_core (L := lone dd (.frz od (.dK ws))) E2 (by rw [e, zipS (by have := rr.length; simpa using this)]; exact itr_vals rr lone_at) (fun a o' z => ?_) hb sg hw h2⟩
      obtain ⟨rfl, rfl⟩ := lone_of z
      exact .inr ⟨hd, fun _ z => (by cases z), no⟩
  | _ => exact h1.elim⟩
theorem s_forI {e : Expr} {apos cpos tpos : Pos} {elts : List Expr} {kk : Nat} {body : List Stmt} {fd : Env → Res T} {tgf : T → Env → Option Env} {f : Env → ResS} {g : TG} {ws : List Nat} (h : P x X e fd) (hg : PGo x X (.Tuple elts kk tpos) g) (sg : TgSem x ws tgf g) (hw : ∀ i ∈ ws, bs i = false) (hb : Ss x bs X body f) (hbase : attributeBase e "items" X.env (eval e X.env) = eval e X.env := by rfl) (hline : (apos.endLine == cpos.line) = true := by rfl)
    (hf : ∀ v, foldedSetIterable (.Call (.Attribute e "items" apos) [] [] cpos) X.env v = pure v := by intro _; rfl) :
    S x bs X (.For (.Tuple elts kk tpos) (.Call (.Attribute e "items" apos) [] [] cpos) body [] pos) (dForD T.ditems fd tgf f) := ⟨fun ok W tk pO => ps_imp (ps_unl (ps_for pO ok.calm (pi_items (pe_lockv (h.run ok W tk)) hbase hline) (hg.run ok) (hb.run ok (unlW X W) (takes_unl tk) pO) hf)) fun D σ H ⟨β, φ, G, ρ, E, hb, q⟩ => tP_st E q fun t G1 H1 s1 h1 v fp r nd fr => by
  by_cases hn : t.np = true
  case neg => rw [if_neg hn] at h1; exact h1.elim
  rw [if_pos hn] at h1
  cases t with
  | dct fl kk kvs =>
    cases kk with
    | t => exact h1.elim
    | k =>
      have h1 : PstS x W β (Ow φ) G H (forL tgf f (kvs.map fun p => .tup [p.1, p.2]) ρ) D := h1
      refine lockS (X := X) (R := fun v H1 => ∃ d o kvs, v = .ref d ∧ H1 d = some (.frz o (.dK kvs)) ∧ tForR g (tS x bs (unlW X W) f) (unlD X D) σ (Iti d o kvs) H1) E s1 r hn fr h1 fun dd od u H2 ev hd no E2 m h2 => ?_
      obtain ⟨ws, ts, rfl, rr, e⟩ := m
      refine ⟨dd, od, ws, ev, hd, for_core (L := lone dd (.frz od (.dK ws))) E2 (by rw [e]; exact itr_items rr lone_at) (fun a o' z => ?_) hb sg hw h2⟩
      obtain ⟨rfl, rfl⟩ := lone_of z
      exact .inr ⟨hd, fun _ z => (by cases z), no⟩
  | _ => exact h1.elim⟩
end
end Fn

/-! Fn27: loops over one's own dict. -/
namespace Fn
open PySem PySem.Spec L2
variable [Tbs]
section
variable {x : Tx} {β : Bo} {φ φ' : Nat → List Addr} {G G' G2 G1 G0 H H' H0 H1 H2 L : Hp} {W : XK} {X : Cx} {f : Fl} {fp : List Addr} {v : V} {σ : L2.St} {ρ : Env} {tg : Expr} {bs : Nat → Bool} {pos : Pos} {Po : Addr → Prop} {d : Addr} {u : HO} {od : Obj}
def relkE (i : Nat) (ρ : Env) : Option Env := match ρ[i]? with
  | some (some (.dct .lk k kvs)) => some (ρ.set i (some (.dct .ow k kvs)))
  | _ => none
def relk (i : Nat) : ResS → ResS
  | .ok fl ρ => match relkE i ρ with
    | some ρ' => .ok fl ρ'
    | none => .stuck
  | .exc c p ρ => match relkE i ρ with
    | some ρ' => .exc c p ρ'
    | none => .stuck
  | .stuck => .stuck
def dForOwn (i : Nat) (g : T → Res (List T)) (tg : T → Env → Option Env) (b : Env → ResS) : Env → ResS := fun ρ => match ρ[i]? with
  | some (some (.dct .ow k kvs)) => match g (.dct .ow k kvs) with
    | .ok ts => relk i (forL tg b ts (ρ.set i (some (.dct .lk k kvs))))
    | _ => .stuck
  | _ => .stuck
def lkBo (β : Bo) (i : Nat) (d : Addr) (o : HO) : Bo := ⟨fun j => if j = i then some (.ref d) else β.b j, fun a => if a = d then some o else β.l a, β.p⟩
theorem Bs.lk {i : Nat} {o : HO} (h : Bs bs β) : Bs (fun j => bs j || j == i) (lkBo β i d o) := ⟨fun j e => by
  rw [Bool.or_eq_false_iff] at e
  have hj : j ≠ i := by simpa using e.2
  show (if j = i then some (V.ref d) else β.b j) = none
  rw [if_neg hj]; exact h.b j e.1, h.p⟩
/-- slot i's dict is locked -/
theorem ER.lkI {i : Nat} {kk : DK} {kvs : List (T × T)} (E : ER x β φ G H σ ρ) (hp : β.p = false) (e : ρ[i]? = some (some (.dct .ow kk kvs))) :
    ∃ dd u, σ[i]? = some (some (.ref dd)) ∧ φ i = [dd] ∧ H dd = some u ∧ IsDct u ∧ DkIs x G u kk kvs ∧ ∀ od, ER x (lkBo β i dd (.frz od u)) φ G (L2.upd H dd (.frz od u)) σ (ρ.set i (some (.dct .lk kk kvs))) := by
  obtain ⟨v, e1, r, hn⟩ := E.rep i _ e
  have hl : i < ρ.length := (List.getElem?_eq_some_iff.mp e).1
  generalize hφ : φ i = fi at r
  -- what follows, whatever the dict's kind
  have go : ∀ (dd : Addr) (u : HO), fi = [dd] → v = .ref dd → H dd = some u → IsDct u → (∀ od, Rep x G (L2.upd H dd (.frz od u)) (.ref dd) (.dct .lk kk kvs) [dd]) → ∀ od, ER x (lkBo β i dd (.frz od u)) φ G (L2.upd H dd (.frz od u)) σ (ρ.set i (some (.dct .lk kk kvs))) := by
    intro dd u ef ev hd hu hr od
    have ini : dd ∈ φ i := by rw [hφ, ef]; exact List.mem_singleton.mpr rfl
    exact {
      len := by rw [List.length_set]; exact E.len
      rep := fun j t ej => by
        by_cases z : j = i
        · subst z
          rw [List.getElem?_set_self hl] at ej
          cases ej
          exact ⟨.ref dd, by rw [← ev]; exact e1, by rw [hφ, ef]; exact hr od, fun _ => rfl⟩
        · rw [List.getElem?_set_ne (Ne.symm z)] at ej
          obtain ⟨w, e2, r2, n2⟩ := E.rep j t ej
          exact ⟨w, e2, r2.lock hd hu (fun q => z (E.dj j i dd q ini)), n2⟩
      nd := E.nd
      dj := E.dj
      dis := fun j a ha => ⟨(E.dis j a ha).1, by
        by_cases z : a = dd
        · subst z; exact ⟨_, upd_same, fun _ z => (by cases z), fun _ z => (by cases z)⟩
        · obtain ⟨o, e2, q⟩ := (E.dis j a ha).2
          exact ⟨o, by rw [upd_ne z]; exact e2, q⟩⟩
      sub := E.sub.lock hd hu
      tab := E.tab.upd (fun _ z => by cases z) (tb_some hd hu.nt hu.next)
      bor := fun j w ej => by
        have ej : (if j = i then some (V.ref dd) else β.b j) = some w := ej
        by_cases z : j = i
        · rw [if_pos z] at ej; cases ej; rw [z, ← ev]; exact e1
        · rw [if_neg z] at ej; exact E.bor j w ej
      lck := fun a o ea => by
        have ea : (if a = dd then some (HO.frz od u) else β.l a) = some o := ea
        by_cases z : a = dd
        · rw [if_pos z] at ea; cases ea; rw [z]; exact ⟨upd_same, _, _, rfl⟩
        · rw [if_neg z] at ea
          exact ⟨by rw [upd_ne z]; exact (E.lck a o ea).1, (E.lck a o ea).2⟩ }
  cases r with
  | s r => cases r
  | @dctK a ws ts f h r =>
    have h : H a = some (.dK ws) := h
    exact ⟨a, .dK ws, e1, rfl, h, trivial, ⟨ws, ts, rfl, r, rfl⟩, go a _ rfl rfl h trivial fun od => .dctK .lk ⟨od, upd_same⟩ r⟩
  | @dctT a ws ts f h r =>
    have h : H a = some (.dT ws) := h
    exact ⟨a, .dT ws, e1, rfl, h, trivial, ⟨ws, ts, rfl, r, rfl⟩, go a _ rfl rfl h trivial fun od => .dctT .lk ⟨od, upd_same⟩ r⟩
theorem Stp.lkO (s : Sub G H) (hd : H d = some u) (hu : IsDct u) (hp : Po d) (hg : G d = none) : Stp Po G H G (L2.upd H d (.frz od u)) where
  ext := {
    keep := fun b o e n q => by rw [upd_ne (fun z => q (by rw [z]; exact hp))]; exact e
    live := fun b o e n => by
      by_cases z : b = d
      · rw [z, upd_same]; exact ⟨_, rfl, fun _ z => by cases z⟩
      · rw [upd_ne z]; exact ⟨o, e, n⟩
    tabs := fun t => t.upd (fun _ z => by cases z) (tb_some hd hu.nt hu.next) }
  sub := s.lock hd hu
  le := fun _ _ z => z
  new := fun _ z => .inl z
theorem Stp.unlkO (s : Sub G H) (hd : H d = some (.frz od u)) (hu : IsDct u) (hp : Po d) (hg : G d = none) : Stp Po G H G (L2.upd H d u) where
  ext := {
    keep := fun b o e n q => by rw [upd_ne (fun z => q (by rw [z]; exact hp))]; exact e
    live := fun b o e n => by
      by_cases z : b = d
      · rw [z, upd_same]; exact ⟨_, rfl, hu.nt⟩
      · rw [upd_ne z]; exact ⟨o, e, n⟩
    tabs := fun t => t.upd hu.nt (tb_some hd (fun _ z => by cases z) fun _ z => by cases z) }
  sub := fun a o e => ⟨(s a o e).1, by
    have z : a ≠ d := fun z => by rw [z, hg] at e; cases e
    rw [upd_ne z]; exact (s a o e).2⟩
  le := fun _ _ z => z
  new := fun _ z => .inl z
/-- the lock of slot i is taken off -/
theorem ER.unlkI {i : Nat} {ρ' ρ2 : Env} {dd : Addr} {G0 H0 : Hp} {σ0 : L2.St} (E0 : ER x β φ G0 H0 σ0 ρ) (h0 : H0 dd = some u) (hu : IsDct u) (e0 : σ0[i]? = some (some (.ref dd))) (E : ER x (lkBo β i dd (.frz od u)) φ' G H σ ρ') (hp : β.p = false) (e : relkE i ρ' = some ρ2) :
    H dd = some (.frz od u) ∧ φ' i = [dd] ∧ ER x β φ' G (L2.upd H dd u) σ ρ2 := by
  have hf : H dd = some (.frz od u) := (E.lck dd (.frz od u) (if_pos rfl)).1
  have hσ : σ[i]? = some (some (.ref dd)) := E.bor i (.ref dd) (if_pos rfl)
  unfold relkE at e
  split at e
  · rename_i k kvs e1
    cases e
    have hl : i < ρ'.length := (List.getElem?_eq_some_iff.mp e1).1
    obtain ⟨v, e2, r, hn⟩ := E.rep i _ e1
    rw [hσ] at e2
    cases e2
    generalize hφ : φ' i = fi at r
    have ow : fi = [dd] ∧ Rep x G (L2.upd H dd u) (.ref dd) (.dct .ow k kvs) [dd] := by
      cases r with
      | s r => cases r
      | dctK f h r =>
        obtain ⟨o', h⟩ := h
        rw [hf] at h; cases h
        exact ⟨rfl, .dctK .ow upd_same r⟩
      | dctT f h r =>
        obtain ⟨o', h⟩ := h
        rw [hf] at h; cases h
        exact ⟨rfl, .dctT .ow upd_same r⟩
    have ini : dd ∈ φ' i := by rw [hφ, ow.1]; exact List.mem_singleton.mpr rfl
    refine ⟨hf, ow.1, ?_⟩
    exact {
      len := by rw [List.length_set]; exact E.len
      rep := fun j t ej => by
        by_cases z : j = i
        · subst z
          rw [List.getElem?_set_self hl] at ej
          cases ej
          exact ⟨.ref dd, hσ, by rw [hφ, ow.1]; exact ow.2, fun _ => rfl⟩
        · rw [List.getElem?_set_ne (Ne.symm z)] at ej
          obtain ⟨w, e2, r2, n2⟩ := E.rep j t ej
          exact ⟨w, e2, r2.unlock hf hu (fun q => z (E.dj j i dd q ini)), n2⟩
      nd := E.nd
      dj := E.dj
      dis := fun j a ha => ⟨(E.dis j a ha).1, by
        by_cases z : a = dd
        · subst z; exact ⟨_, upd_same, hu.nt, fun xs => hu.ntup xs⟩
        · obtain ⟨o, e2, q⟩ := (E.dis j a ha).2
          exact ⟨o, by rw [upd_ne z]; exact e2, q⟩⟩
      sub := (Stp.unlkO (Po := fun _ => True) E.sub hf hu trivial (E.dis i dd ini).1).sub
      tab := E.tab.upd hu.nt (tb_some hf (fun _ z => by cases z) fun _ z => by cases z)
      bor := fun j w ej => by
        by_cases z : j = i
        · subst z
          have := E0.bor j w ej
          rw [e0] at this; cases this; exact hσ
        · exact E.bor j w (by show (if j = i then _ else β.b j) = some w; rw [if_neg z]; exact ej)
      lck := fun a o ea => by
        have z : a ≠ dd := fun z => by
          obtain ⟨h1, o', u', rfl⟩ := E0.lck a o ea
          rw [z, h0] at h1; cases h1; exact hu
        have := E.lck a o (by show (if a = dd then _ else β.l a) = some o; rw [if_neg z]; exact ea)
        exact ⟨by rw [upd_ne z]; exact this.1, this.2⟩ }
  · cases e
theorem PstS.unlI {i : Nat} {r : ResS} {D : Ends} {dd : Addr} {G0 : Hp} (E : ER x β φ G H σ ρ) (hp : β.p = false) (e0 : σ[i]? = some (some (.ref dd))) (hφ : φ i = [dd]) (hd : H dd = some u) (hu : IsDct u) (hn : ∀ o' u', X.H_0 dd ≠ some (.frz o' u')) (h : PstS x W β (Ow φ) G H (relk i r) D) :
    PstS x (unlW X W) (lkBo β i dd (.frz od u)) (Ow φ) G (upd H dd (.frz od u)) r (unlD X D) := by
  have inO : Ow φ dd := ⟨i, by rw [hφ]; exact List.mem_singleton.mpr rfl⟩
  have gd : G dd = none := (E.dis i dd (by rw [hφ]; exact List.mem_singleton.mpr rfl)).1
  have sl : Stp (Ow φ) G H G (upd H dd (.frz od u)) := .lkO E.sub hd hu inO gd
  have back : ∀ a, Vac (upd H dd (.frz od u)) a → Vac H a := fun a z => sl.ext.back z
  cases r with
  | ok fl ρ' =>
    intro σ' φ' G' H' s E' o
    have h : PstS x W β (Ow φ) G H (match relkE i ρ' with | some ρ2 => .ok fl ρ2 | none => .stuck) D := h
    cases e : relkE i ρ' with
    | none => rw [e] at h; exact h.elim
    | some ρ2 =>
      rw [e] at h
      obtain ⟨hf, hφ', E2⟩ := ER.unlkI E hd hu e0 E' hp e
      have gd' : G' dd = none := (E'.dis i dd (by rw [hφ']; exact List.mem_singleton.mpr rfl)).1
      have s2 : Stp (Ow φ) G H G' (upd H' dd u) := (sl.trans s).trans (.unlkO s.sub hf hu inO gd')
      have q := h σ' φ' G' (upd H' dd u) s2 E2 fun a z => (o a z).imp id (back a)
      have un : ∀ {Q : Hp → Prop}, Q (upd H' dd u) → Unl X Q H' := fun q => .inr ⟨dd, od, u, hf, hn, q⟩
      cases fl with
      | next => exact un q
      | brk => exact un q
      | cont => exact un q
      | ret t => exact fun v fp r hn' nd fr => un (Q := D.rt v) (q v fp (r.unlock hf hu fun z => (fr dd z).2.2 ⟨i, by rw [hφ']; exact List.mem_singleton.mpr rfl⟩) hn' nd fun a ha => ⟨(fr a ha).1.imp (back a) id, (fr a ha).2⟩)
  | exc c p ρ' =>
    intro de σ' φ' G' H' s E' o xr
    have h : PstS x W β (Ow φ) G H (match relkE i ρ' with | some ρ2 => .exc c p ρ2 | none => .stuck) D := h
    cases e : relkE i ρ' with
    | none => rw [e] at h; exact h.elim
    | some ρ2 =>
      rw [e] at h
      obtain ⟨hf, hφ', E2⟩ := ER.unlkI E hd hu e0 E' hp e
      have gd' : G' dd = none := (E'.dis i dd (by rw [hφ']; exact List.mem_singleton.mpr rfl)).1
      have s2 : Stp (Ow φ) G H G' (upd H' dd u) := (sl.trans s).trans (.unlkO s.sub hf hu inO gd')
      obtain ⟨fs, e1, e2, e3⟩ := xr
      refine .inr ⟨dd, od, u, hf, hn, h de σ' φ' G' (upd H' dd u) s2 E2 (fun a z => (o a z).imp id (back a)) ⟨fs, ?_, e2, Reps.unlock hf hu e3 (by simp)⟩⟩
      rw [upd_ne (fun z => by rw [z, hf] at e1; cases e1)]; exact e1
  | stuck => exact h
theorem s_forKown (i : Nat) {n : Str} {p : Pos} {body : List Stmt} {tgf : T → Env → Option Env} {f : Env → ResS} {g : TG} {ws : List Nat} (hg : PGo x X tg g) (sg : TgSem x ws tgf g) (hw : ∀ j ∈ ws, (fun j => bs j || j == i) j = false) (hb : Ss x (fun j => bs j || j == i) X body f)
    (hN : X.N[i]? = some n := by rfl) (hv : Vis X.env.scope n := by first | exact Or.inl rfl | exact Or.inr (Or.inl rfl) | exact Or.inr (Or.inr rfl)) (hd : (n == ("__debug__" : Str)) = false := by decide) (hcd : (n == ("__classdict__" : Str)) = false := by decide) (hf : ∀ v, foldedSetIterable (.Name n p) X.env v = pure v := by intro _; rfl) :
    S x bs X (.For tg (.Name n p) body [] pos) (dForOwn i T.dkeys tgf f) := ⟨fun ok W tk pO => ps_imp (ps_unl (ps_for pO ok.calm (pi_keys (pe_lockv (pe_var hN hv hd hcd))) (hg.run ok) (hb.run ok (unlW X W) (takes_unl tk) pO) hf)) fun D σ H ⟨β, φ, G, ρ, E, hb, q⟩ => by
  unfold dForOwn at q
  split at q
  · rename_i kk kvs e
    have q : PstS x W β (Ow φ) G H (relk i (forL tgf f (kvs.map (·.1)) (ρ.set i (some (.dct .lk kk kvs))))) D := q
    obtain ⟨dd, u, e1, hφ, hdd, hu, m, EL⟩ := E.lkI hb.p e
    refine ⟨.ref dd, e1, .inr ⟨dd, u, rfl, hdd, hu.mut, fun hn od => ⟨dd, od, rfl, ?_⟩⟩⟩
    have E2 := EL od
    have h2 := PstS.unlI (G0 := G) (X := X) (od := od) E hb.p e1 hφ hdd hu hn q
    have hL : ∀ o, o = HO.frz od u → ∀ a o', lone dd o a = some o' → (lkBo β i dd (.frz od u)).l a = some o' ∨ (upd H dd (.frz od u) a = some o' ∧ NT o' ∧ ¬ Ow φ a) := fun o eo a o' z => by
      obtain ⟨rfl, rfl⟩ := lone_of z
      subst eo
      exact .inl (if_pos rfl)
    cases kk with
    | k =>
      obtain ⟨ws', ts, rfl, rr, e⟩ := m
      exact .inl ⟨ws', upd_same, for_core E2 (by rw [e]; exact itr_keys' rr lone_at) (hL _ rfl) hb.lk sg hw h2⟩
    | t =>
      obtain ⟨ws', ts, rfl, rr, e⟩ := m
      exact .inr ⟨ws', upd_same, for_core E2 (by rw [e]; exact itr_keysT' rr lone_at) (hL _ rfl) hb.lk sg hw h2⟩
  · exact q.elim⟩
end
end Fn

/-! Fn28: exceptions raised. -/
namespace Fn
open PySem PySem.Spec L2
variable [Tbs]
section
variable {x : Tx} {β : Bo} {φ φ' : Nat → List Addr} {G G' G2 G1 G0 H H' H0 H1 H2 L : Hp} {W : XK} {X : Cx} {f : Fl} {fp : List Addr} {v : V} {σ : L2.St} {ρ : Env} {tg : Expr} {bs : Nat → Bool} {pos : Pos} {Po : Addr → Prop} {d : Addr} {u : HO} {od : Obj}
/-- __init__(self, value): self.value = value, of an exception -/
def spIV (x : Tx) : Sp := fun vs H Q E => vs.length = 2 ∧ ∃ (a C : Addr) (w : V), vs = [.ref a, w] ∧ OexC x.K C ∧ PySem.W.findIn x.K (.ref C) "value" = some none ∧ H a = some (exo a C none) ∧ ∀ d, H d = none → d ≠ a → Q .non (upd (upd H d (exd d [("value", w)])) a (exo a C (some d)))
theorem def_init {P : Program} {w : World} {mg : Str → Option Value} {base : Heap} {nm qual : Str} {st : Stmt} {f : Addr} {fd : FuncData} {k : Nat} {p1 p2 p3 p4 : Pos} (Fu : L2.Fun x.K nm qual st f fd) (Sc : FnScope ["self", "value"] ["self", "value"] (defScope st))
    (hb : defBody st = [.Assign [.Attribute (.Name "self" p1) "value" p2] (.Name "value" p3) p4])
    (hs : ∀ env, swapsWith (.Name "value" p3) (some (.Attribute (.Name "self" p1) "value" p2)) p4.line env = pure false := by intro _; rfl) (v1 : Vis (defScope st) "self" := by first | exact Or.inl rfl | exact Or.inr (Or.inl rfl) | exact Or.inr (Or.inr rfl)) (v2 : Vis (defScope st) "value" := by first | exact Or.inl rfl | exact Or.inr (Or.inl rfl) | exact Or.inr (Or.inr rfl)) :
    FnOk P w x.K mg base (L2.CX P w) (k + 1) f fd ["self", "value"] (spIV x) := by
  refine Fu.okX Sc (fun vs H Q E h => h.1) (fun cdv A outer s H vs Q E hr h => ?_)
  obtain ⟨hl, a, C, w', rfl, T, hf, ha, q⟩ := h
  refine ⟨_, by rw [hb]; exact pss_one (ps_ost (pe_var (i := 0) (x := "self") rfl v1 (by decide) (by decide)) (pe_var (i := 1) (x := "value") rfl v2 (by decide) (by decide)) (hs _)), ?_⟩
  exact ⟨w', rfl, .ref a, rfl, a, C, rfl, T, hf, .inl ⟨ha, fun dx hn ne => q dx hn ne⟩⟩
/-- the heap behind an exception that was made -/
theorem made_eq {a C d : Addr} {fs : List (Str × V)} (ha : H a = none) (hda : d ≠ a) : upd (L2.del (upd (upd (upd H a (exo a C none)) d (exd d fs)) a (exo a C (some d))) a) d (.xd fs) = upd H d (.xd fs) := by
  funext b
  by_cases z : b = d
  · rw [z, upd_same, upd_same]
  · rw [upd_ne z, upd_ne z]
    by_cases y : b = a
    · rw [y, del_same, ha]
    · rw [del_ne y, upd_ne y, upd_ne z, upd_ne y]
def raiseEnd (c : Nat) (ρ : Env) (ts : List T) : ResS := match frzs ts with
  | some ts' => .exc c ts' ρ
  | none => .stuck
def dRaise (c : Nat) (fa : Env → Res (List T)) : Env → ResS := fun ρ => (fa ρ).st ρ (raiseEnd c ρ)
/-- a value for the exception's dict -/
theorem raise_core {c : Nat} {ts ts' : List T} {vs : List V} {D : Ends} (E : ER x β φ G H σ ρ) (s1 : Stp No G H G1 H1) (r : Reps x G1 H1 vs ts fp) (fr : ∀ a ∈ fp, Vac H a ∧ G1 a = none) (e : frzs ts = some ts') (hfl : x.fl c = [("value" : Str)]) (hl : vs.length = 1)
    (h : PstS x W β (Ow φ) G H (.exc c ts' ρ) D) (hd : H1 d = none) {w : V} (hw : vs = [w]) : W (.ref (x.ca c)) (some d) (upd H1 d (.xd [("value", w)])) := by
  obtain ⟨G2, s2, r2⟩ := shareA s1 r fr e
  have s3 : Stp No G H G2 (upd H1 d (.xd [("value", w)])) := s2.trans (.laid s2.sub hd)
  refine h d σ φ G2 (upd H1 d (.xd [("value", w)])) s3.pure (E.step s3) (fun a z => .inl z) ⟨[("value", w)], upd_same, by rw [hfl]; rfl, ?_⟩
  subst hw
  have : RepsS x G2 [w] ts' := r2
  have go : ∀ {vs : List V} {ts : List T} {H : Hp}, RepsS x G2 vs ts → Reps x G2 H vs ts [] := by
    intro vs
    induction vs with
    | nil => intro ts H r; cases r; exact .nil
    | cons v vs ih => intro ts H r; cases r with | cons a r => exact .cons (f1 := []) (f2 := []) (.s a) (ih r)
  exact go this
theorem s_raise {c k : Nat} {nm : Str} {p pos2 : Pos} {fI : Addr} {fd : FuncData} {e : Expr} {fa : Env → Res (List T)} (T : OexC x.K (x.ca c)) (hfl : x.fl c = [("value" : Str)]) (hno : PySem.W.findIn x.K (.ref (x.ca c)) "value" = some none) (iC : PySem.W.findIn x.K (.ref (x.ca c)) "__init__" = some (some (.ref fI))) (tI : PySem.W.typeIn x.K (.ref fI) = some (.type "function"))
    (F1 : FnOk X.prog X.w x.K X.mg X.base (L2.CX X.prog X.w) k fI fd ["self", "value"] (spIV x)) (hr : Room (k + 1) X.A) (hb : Binds x.K fd ["self", "value"] []) (hg : Gl X nm) (hm : X.mg nm = some (.ref (x.ca c))) (ha : PAr x X [e] fa)
    (hdb : (nm == ("__debug__" : Str)) = false := by decide) (he : starEach [e] X.env = (false, eval e X.env) :: starEach [] X.env := by rfl) (hpl : (backTo pos2 (starEach [] X.env)).any (·.1) = false := by rfl) :
    S x bs X (.Raise (some (.Call (.Name nm p) [e] [] pos2)) none pos) (dRaise c fa) := ⟨fun ok W tk pO => by
  have K := ok.K
  have hx : Passes (L2.CX X.prog X.w) X (fun _ _ _ => False) := passes_call (takes0 (X := X)) fun _ _ _ _ h => h
  refine ps_imp (ps_raise ok.calm tk (pmk_oex (CX := L2.CX X.prog X.w) (by rw [K]; exact T) (by rw [K]; exact iC) (by rw [K]; exact tI) (by rw [K]; exact F1) hr (by rw [K]; exact hb) .nil hx hg hm (ha.run ok W tk) hdb he hpl)) fun D σ H ⟨β, φ, G, ρ, E, hb, h⟩ => ?_
  have h : PstS x W β (Ow φ) G H ((fa ρ).st ρ (raiseEnd c ρ)) D := h
  refine ⟨β, φ, G, ρ, E, ?_⟩
  have ln := ha.len ρ
  revert h ln
  cases fa ρ with
  | stuck => exact fun h _ => h
  | exc c' p' => exact fun h _ => fun d G1 H1 s xr => h d σ φ G1 H1 s.pure (E.step s) (fun a z => .inl z) xr
  | ok ts =>
    intro h ln G1 H1 s1 vs fp r nd fr
    have hl : vs.length = 1 := by rw [r.length, ln ts rfl]; rfl
    have h : PstS x W β (Ow φ) G H (raiseEnd c ρ ts) D := h
    unfold raiseEnd at h
    cases e0 : frzs ts with
    | none => rw [e0] at h; exact h.elim
    | some ts' =>
      rw [e0] at h
      obtain ⟨w, rfl⟩ : ∃ w, vs = [w] := by
        match vs, hl with
        | [w], _ => exact ⟨w, rfl⟩
      refine ⟨by simp, fun a hna => ⟨rfl, a, x.ca c, w, rfl, T, hno, upd_same, fun d hd hda => ?_⟩⟩
      have hd1 : H1 d = none := by rw [upd_ne hda] at hd; exact hd
      refine ⟨rfl, d, [(("value" : Str), w)], upd_same, ?_, hd1, ?_⟩
      · rw [upd_ne hda, upd_same]
      · rw [made_eq hna hda]
        exact raise_core (ts := ts) E s1 r fr e0 hfl hl h hd1 rfl⟩
end
end Fn

/-! Fn29: arguments that write; defs that write what they are lent. -/
namespace Fn
open PySem PySem.Spec L2
variable [Tbs]
section
variable {x : Tx} {β β' : Bo} {φ φ' φ1 : Nat → List Addr} {G G' G2 G1 G0 H H' H0 H1 H2 L : Hp} {W : XK} {X : Cx} {f : Fl} {fp : List Addr} {v : V} {σ σ' : L2.St} {ρ ρ' : Env} {tg : Expr} {bs : Nat → Bool} {pos : Pos} {Po : Addr → Prop} {d : Addr} {u : HO} {od : Obj}
/-- arguments: values, or what slot j holds, lent -/
inductive ArgR (x : Tx) (G H : Hp) (σ : L2.St) : List (Option Nat) → List V → List T → List Addr → Prop where
  | nil : ArgR x G H σ [] [] [] []
  | val {ks : List (Option Nat)} {v : V} {t : T} {vs : List V} {ts : List T} {f1 f2 : List Addr} (h : Rep x G H v t f1) (n : t.np = true) (r : ArgR x G H σ ks vs ts f2) : ArgR x G H σ (none :: ks) (v :: vs) (t :: ts) (f1 ++ f2)
  | bor {ks : List (Option Nat)} {j : Nat} {v : V} {vs : List V} {ts : List T} {f2 : List Addr} (e : σ[j]? = some (some v)) (r : ArgR x G H σ ks vs ts f2) : ArgR x G H σ (some j :: ks) (v :: vs) (.non :: ts) f2
def MadeMA (x : Tx) (Po : Addr → Prop) (H : Hp) (σ : L2.St) (ks : List (Option Nat)) (Q : List V → Hp → Prop) (ts : List T) (φ' : Nat → List Addr) (G' H' : Hp) (_ : Env) : Prop :=
  ∀ vs fp, ArgR x G' H' σ ks vs ts fp → fp.Nodup → (∀ a ∈ fp, (Vac H a ∨ Po a) ∧ G' a = none ∧ ¬ Ow φ' a) → Q vs H'
def tMA (x : Tx) (W : XK) (ks : List (Option Nat)) (f : Env → ResM (List T)) : TA := fun σ H Q => ∃ β φ G ρ, ER x β φ G H σ ρ ∧ β.p = false ∧ PstM x W β σ (Ow φ) G H (f ρ) (MadeMA x (Ow φ) H σ ks Q)
structure MAr (x : Tx) (X : Cx) (es : List Expr) (ks : List (Option Nat)) (f : Env → ResM (List T)) : Prop where
  run : XOk x X → ∀ W : XK, Takes X (fun c d _ H => W c d H) → PA X es (tMA x W ks f)
def dNilM : Env → ResM (List T) := fun ρ => .ok [] ρ
def dConsM (f : Env → ResM T) (g : Env → ResM (List T)) : Env → ResM (List T) := fun ρ => (f ρ).bind fun t ρ1 => (g ρ1).bind fun ts ρ2 => .ok (t :: ts) ρ2
def dConsB (g : Env → ResM (List T)) : Env → ResM (List T) := fun ρ => (g ρ).bind fun ts ρ2 => .ok (.non :: ts) ρ2
theorem ma0 : MAr x X [] [] dNilM := ⟨fun ok W tk => pa_imp pa_nil fun σ H Q ⟨β, φ, G, ρ, E, hp, h⟩ => h φ G H (.refl _ E.sub) E (fun a z => .inl z) [] [] .nil .nil fun a z => (by cases z)⟩
theorem ma1 {e : Expr} {es : List Expr} {ks : List (Option Nat)} {f : Env → ResM T} {g : Env → ResM (List T)} (h : M x X e f) (q : MAr x X es ks g) (hs : starEach (e :: es) X.env = (false, eval e X.env) :: starEach es X.env := by rfl) : MAr x X (e :: es) (none :: ks) (dConsM f g) :=
  ⟨fun ok W tk => pa_imp (pa_cons (h.run ok W tk) (q.run ok W tk) hs) fun σ H Q ⟨β, φ, G, ρ, E, hp, h⟩ => ⟨β, φ, G, ρ, E, hp, PstM.bind h fun t ρ1 φ1 G1 H1 s1 E1 o1 h1 v1 f1 r1 n1 nd1 d1 => ⟨β, φ1, G1, ρ1, E1, hp, PstM.bind h1 fun ts ρ2 φ2 G2 H2 s2 E2 o2 h2 vs f2 r2 nd2 d2 => by
    refine h2 φ2 G2 H2 (.refl _ E2.sub) E2 (fun a z => .inl z) (v1 :: vs) (f1 ++ f2) (.val (r1.frame s2 n1 fun a ha => (d1 a ha).2.2) n1 r2) (List.nodup_append.mpr ⟨nd1, nd2, fun a ha b hb z => ?_⟩) fun a ha => ?_
    · subst z
      rcases (d2 a hb).1 with y | y
      · exact r1.live a ha y
      · exact (d1 a ha).2.2 y
    · rcases List.mem_append.mp ha with z | z
      · refine ⟨(d1 a z).1, s2.notIn (d1 a z).2.1 (r1.there a z) (d1 a z).2.2, fun y => ?_⟩
        rcases o2 a y with y | y
        · exact (d1 a z).2.2 y
        · exact r1.live a z y
      · refine ⟨?_, (d2 a z).2⟩
        rcases (d2 a z).1 with y | y
        · exact .inl (s1.ext.back y)
        · exact (o1 a y).elim .inr .inl⟩⟩⟩
def dBor (j : Nat) (g : Env → ResM (List T)) : Env → ResM (List T) := fun ρ => match ρ[j]? with
  | some (some _) => dConsB g ρ
  | _ => .stuck
theorem ma_bor (j : Nat) {n : Str} {p : Pos} {es : List Expr} {ks : List (Option Nat)} {g : Env → ResM (List T)} (q : MAr x X es ks g) (hN : X.N[j]? = some n := by rfl) (hv : Vis X.env.scope n := by first | exact Or.inl rfl | exact Or.inr (Or.inl rfl) | exact Or.inr (Or.inr rfl)) (hd : (n == ("__debug__" : Str)) = false := by decide)
    (hcd : (n == ("__classdict__" : Str)) = false := by decide) (hs : starEach (.Name n p :: es) X.env = (false, eval (.Name n p) X.env) :: starEach es X.env := by rfl) : MAr x X (.Name n p :: es) (some j :: ks) (dBor j g) :=
  ⟨fun ok W tk => pa_imp (pa_cons (pe_var hN hv hd hcd) (q.run ok W tk) hs) fun σ H Q ⟨β, φ, G, ρ, E, hp, h⟩ => by
    unfold dBor at h
    split at h
    · rename_i t e
      obtain ⟨v, e2, r, hn⟩ := E.rep j t e
      exact ⟨v, e2, β, φ, G, ρ, E, hp, PstM.bind h fun ts ρ2 φ2 G2 H2 s2 E2 o2 h2 vs f2 r2 nd2 d2 =>
        h2 φ2 G2 H2 (.refl _ E2.sub) E2 (fun a z => .inl z) (v :: vs) f2 (.bor e2 r2) nd2 fun a ha => ⟨(d2 a ha).1, (d2 a ha).2⟩⟩
    · exact h.elim⟩
/-! ### defs that write -/
def spM (x : Tx) (n : Nat) (bi : Nat → Bool) (F : List T → ResM T) : Sp := fun vs H Q E => vs.length = n ∧ ∃ β φ G ts, ER x β φ G H (vs.map some) (ts.map some) ∧ β.p = false ∧ (∀ i, bi i = true → β.b i = vs[i]?) ∧ (∀ i, bi i = false → β.b i = none) ∧
  PstM x E β (vs.map some) (Ow φ) G H (F ts) (MadeM x (Ow φ) H Q)
def cutE (bi : Nat → Bool) (n : Nat) (ρ : Env) : Env := (ρ.take n).mapIdx fun i o => if bi i = true then o else none
def dRunM (n N : Nat) (bi : Nat → Bool) (b : Env → ResS) (ts : List T) : ResM T := match b (ts.map some ++ List.replicate (N - ts.length) none) with
  | .ok (.ret t) ρ => if n ≤ ρ.length then .ok t (cutE bi n ρ) else .stuck
  | .ok .next ρ => if n ≤ ρ.length then .ok .non (cutE bi n ρ) else .stuck
  | .exc c p ρ => if n ≤ ρ.length then .exc c p (cutE bi n ρ) else .stuck
  | _ => .stuck
theorem cutE_at {bi : Nat → Bool} {n i : Nat} {t : T} (h : (cutE bi n ρ)[i]? = some (some t)) : i < n ∧ bi i = true ∧ ρ[i]? = some (some t) := by
  unfold cutE at h
  rw [List.getElem?_mapIdx] at h
  by_cases hi : i < n
  · rw [List.getElem?_take_of_lt hi] at h
    cases e : ρ[i]? with
    | none => rw [e] at h; cases h
    | some o =>
      rw [e] at h
      have h : some (if bi i = true then o else none) = some (some t) := h
      by_cases hb : bi i = true
      · rw [if_pos hb] at h; cases h; exact ⟨hi, hb, rfl⟩
      · rw [if_neg hb] at h; cases h
  · rw [List.getElem?_eq_none (by rw [List.length_take]; omega)] at h; cases h
theorem ER.pad {N : List Str} {vs : List V} {ts : List T} (E : ER x β φ G H (vs.map some) (ts.map some)) (hb : ∀ i v, β.b i = some v → vs[i]? = some v) : ER x β φ G H (L2.start N vs) (ts.map some ++ List.replicate (N.length - ts.length) none) where
  len := by
    have := E.len
    rw [List.length_map, List.length_map] at this
    unfold L2.start; simp [this]
  rep := fun i t e => by
    have hi : i < ts.length := by
      by_cases z : i < ts.length
      · exact z
      · rw [List.getElem?_append_right (by simpa using z), List.getElem?_replicate] at e
        split at e <;> cases e
    rw [List.getElem?_append_left (by simpa using hi)] at e
    obtain ⟨v, e1, r⟩ := E.rep i t e
    refine ⟨v, ?_, r⟩
    unfold L2.start
    rw [List.getElem?_append_left (by rw [← E.len]; simpa using hi)]; exact e1
  nd := E.nd
  dj := E.dj
  dis := E.dis
  sub := E.sub
  tab := E.tab
  bor := fun i v e => by
    have := hb i v e
    unfold L2.start
    rw [List.getElem?_append_left (by have := (List.getElem?_eq_some_iff.mp this).1; simpa using this), List.getElem?_map, this]; rfl
  lck := E.lck
/-- what was lent, at the end -/
theorem ER.cut {bi : Nat → Bool} {vs : List V} (E : ER x β φ G H σ ρ) (hl : vs.length ≤ ρ.length) (hb : ∀ i, bi i = true → β.b i = vs[i]?) (hb2 : ∀ i, bi i = false → β.b i = none) : ER x β (fun i => if bi i = true ∧ i < vs.length then φ i else []) G H (vs.map some) (cutE bi vs.length ρ) where
  len := by unfold cutE; rw [List.length_mapIdx, List.length_take, List.length_map]; exact Nat.min_eq_left hl
  rep := fun i t e => by
    obtain ⟨hi, h2, h3⟩ := cutE_at e
    obtain ⟨v, e1, r⟩ := E.rep i t h3
    have e2 : β.b i = some vs[i] := by rw [hb i h2, List.getElem?_eq_getElem hi]
    have e3 := E.bor i _ e2
    rw [e1] at e3
    refine ⟨v, ?_, ?_⟩
    · rw [List.getElem?_map, List.getElem?_eq_getElem hi]
      exact e3.symm ▸ rfl
    · show Rep x G H v t (if bi i = true ∧ i < vs.length then φ i else []) ∧ _
      rw [if_pos ⟨h2, hi⟩]; exact r
  nd := fun i => by
    show (if _ then φ i else []).Nodup
    split
    · exact E.nd i
    · exact .nil
  dj := fun i j a h1 h2 => by
    have h1 : a ∈ (if bi i = true ∧ i < vs.length then φ i else []) := h1
    have h2 : a ∈ (if bi j = true ∧ j < vs.length then φ j else []) := h2
    split at h1
    · split at h2
      · exact E.dj i j a h1 h2
      · cases h2
    · cases h1
  dis := fun i a h => by
    have h : a ∈ (if bi i = true ∧ i < vs.length then φ i else []) := h
    split at h
    · exact E.dis i a h
    · cases h
  sub := E.sub
  tab := E.tab
  bor := fun i v e => by
    cases h : bi i with
    | false => rw [hb2 i h] at e; cases e
    | true => rw [hb i h] at e; rw [List.getElem?_map, e]; rfl
  lck := E.lck
theorem cut_ow {bi : Nat → Bool} {n : Nat} {a : Addr} (h : Ow (fun i => if bi i = true ∧ i < n then φ i else []) a) : Ow φ a := by
  obtain ⟨i, h⟩ := h
  have h : a ∈ (if bi i = true ∧ i < n then φ i else []) := h
  split at h
  · exact ⟨i, h⟩
  · cases h
theorem def_mut {P : Program} {w : World} {mg : Str → Option Value} {base : Heap} {nm qual : Str} {st : Stmt} {f : Addr} {fd : FuncData} {N ps : List Str} {k : Nat} {bi : Nat → Bool} {b : Env → ResS} (Fu : L2.Fun x.K nm qual st f fd) (Sc : FnScope N ps (defScope st)) (hN : ps.length ≤ N.length)
    (hb : ∀ (cdv : Value) (A : Around) (outer : List PySem.Env) (s : Shared) (H : Hp) (E : XK), Room k (A.deeper (PyProof.Rows.envOfC qual (defScope st) s.heap.objs.size f cdv)) → Ss x bi (cxOf (L2.CX P w) P w x.K mg base N qual (defScope st) f cdv A outer s H E) (defBody st) b) :
    FnOk P w x.K mg base (L2.CX P w) (k + 1) f fd ps (spM x ps.length bi (dRunM ps.length N.length bi b)) := by
  refine Fu.okX Sc (fun vs H Q E h => h.1) (fun cdv A outer s H vs Q E hr h => ?_)
  obtain ⟨hl, β, φ, G, ts, E0, hp, hb1, hb2, h⟩ := h
  refine ⟨_, (hb cdv A outer s H E hr).run ⟨rfl, rfl, hr.mono (Nat.zero_le _), Sc.nd⟩ E (takes_of rfl rfl rfl rfl) (passes_of rfl), ?_⟩
  have Ep := E0.pad (N := N) fun i v e => by
    cases q : bi i with
    | false => rw [hb2 i q] at e; cases e
    | true => rw [hb1 i q] at e; exact e
  refine ⟨β, φ, G, _, Ep, ⟨hb2, hp⟩, ?_⟩
  unfold dRunM at h
  generalize b (ts.map some ++ List.replicate (N.length - ts.length) none) = B at h ⊢
  have cut : ∀ {σ' : L2.St} {ρ' : Env} {φ' : Nat → List Addr} {G' H' : Hp}, ps.length ≤ ρ'.length → ER x β φ' G' H' σ' ρ' → ER x β (fun i => if bi i = true ∧ i < vs.length then φ' i else []) G' H' (vs.map some) (cutE bi ps.length ρ') := fun hσ E' => by
    have := E'.cut (vs := vs) (by omega) hb1 hb2
    rw [hl] at this ⊢; exact this
  cases B with
  | ok fl ρ' =>
    cases fl with
    | next =>
      intro σ' φ' G' H' s E' o
      have h : PstM x E β (vs.map some) (Ow φ) G H (if ps.length ≤ ρ'.length then .ok .non (cutE bi ps.length ρ') else .stuck) (MadeM x (Ow φ) H Q) := h
      by_cases hσ : ps.length ≤ ρ'.length
      · rw [if_pos hσ] at h
        exact h _ G' H' s (cut hσ E') (fun a z => o a (cut_ow z)) .non [] (.s .non) rfl .nil fun a z => by cases z
      · rw [if_neg hσ] at h; exact h.elim
    | brk => exact h.elim
    | cont => exact h.elim
    | ret t =>
      intro σ' φ' G' H' s E' o v fp r hn nd fr
      have h : PstM x E β (vs.map some) (Ow φ) G H (if ps.length ≤ ρ'.length then .ok t (cutE bi ps.length ρ') else .stuck) (MadeM x (Ow φ) H Q) := h
      by_cases hσ : ps.length ≤ ρ'.length
      · rw [if_pos hσ] at h
        exact h _ G' H' s (cut hσ E') (fun a z => o a (cut_ow z)) v fp r hn nd fun a ha => ⟨(fr a ha).1, (fr a ha).2.1, fun z => (fr a ha).2.2 (cut_ow z)⟩
      · rw [if_neg hσ] at h; exact h.elim
  | exc c p ρ' =>
    intro d σ' φ' G' H' s E' o xr
    have h : PstM x E β (vs.map some) (Ow φ) G H (if ps.length ≤ ρ'.length then .exc c p (cutE bi ps.length ρ') else .stuck) (MadeM x (Ow φ) H Q) := h
    by_cases hσ : ps.length ≤ ρ'.length
    · rw [if_pos hσ] at h
      exact h d _ G' H' s (cut hσ E') (fun a z => o a (cut_ow z)) xr
    · rw [if_neg hσ] at h; exact h.elim
  | stuck => exact h.elim
end
end Fn

/-! Fn30: calls of defs that write. -/
namespace Fn
open PySem PySem.Spec L2
variable [Tbs]
section
variable {x : Tx} {β β' : Bo} {φ φ' φ1 φ2 : Nat → List Addr} {G G' G2 G3 G1 G0 H H' H0 H1 H2 H3 L : Hp} {W : XK} {X : Cx} {f : Fl} {fp : List Addr} {v : V} {σ σ' : L2.St} {ρ ρ' ρ2 : Env} {tg : Expr} {bs : Nat → Bool} {pos : Pos} {Po : Addr → Prop} {d : Addr} {u : HO} {od : Obj} {ks : List (Option Nat)} {vs : List V} {ts ts' tc : List T}
theorem ArgR.length (h : ArgR x G H σ ks vs ts fp) : vs.length = ks.length ∧ ts.length = ks.length := by
  induction h with
  | nil => exact ⟨rfl, rfl⟩
  | val h n r ih => simp [ih.1, ih.2]
  | bor e r ih => simp [ih.1, ih.2]
theorem ArgR.there (h : ArgR x G H σ ks vs ts fp) : ∀ a ∈ fp, Ownd H a := by
  induction h with
  | nil => intro a z; cases z
  | val h n r ih =>
    intro a z
    rcases List.mem_append.mp z with z | z
    · exact h.there a z
    · exact ih a z
  | bor e r ih => exact ih
theorem ArgR.bor_at (h : ArgR x G H σ ks vs ts fp) : ∀ {i j : Nat}, ks[i]? = some (some j) → ∃ v, vs[i]? = some v ∧ σ[j]? = some (some v) := by
  induction h with
  | nil => intro i j e; simp at e
  | val h n r ih =>
    intro i j e
    cases i with
    | zero => simp at e
    | succ i => simpa using ih (i := i) (j := j) (by simpa using e)
  | bor e0 r ih =>
    intro i j e
    cases i with
    | zero => simp at e; subst e; exact ⟨_, rfl, e0⟩
    | succ i => simpa using ih (i := i) (j := j) (by simpa using e)
theorem ArgR.frz (h : ArgR x G H σ ks vs ts fp) : ∀ {ts' : List T}, (∀ a ∈ fp, G a = none) → frzs ts = some ts' → ts'.length = ts.length ∧ ∀ {i : Nat} {v : V}, vs[i]? = some v → ks[i]? = some none → ∃ t', ts'[i]? = some t' ∧ RepS x (add G H fp) v t' := by
  induction h with
  | nil => intro ts' _ e; cases e; exact ⟨rfl, fun e => by simp at e⟩
  | val h n r ih =>
    intro ts' hd e
    unfold frzs at e
    split at e
    · rename_i t' r' e1 e2
      cases e
      obtain ⟨l, q⟩ := ih (fun a ha => hd a (List.mem_append_right _ ha)) e2
      refine ⟨by simp [l], fun {i v} hv hk => ?_⟩
      cases i with
      | zero =>
        simp at hv; subst hv
        exact ⟨t', rfl, (h.frz (fun a ha => hd a (List.mem_append_left _ ha)) e1).le (add_mono hd fun a ha => List.mem_append_left _ ha)⟩
      | succ i =>
        obtain ⟨t2, e3, r3⟩ := q (i := i) (v := v) (by simpa using hv) (by simpa using hk)
        exact ⟨t2, by simpa using e3, r3.le (add_mono hd fun a ha => List.mem_append_right _ ha)⟩
    · cases e
  | bor e0 r ih =>
    intro ts' hd e
    unfold frzs at e
    split at e
    · rename_i t' r' e1 e2
      cases e
      obtain ⟨l, q⟩ := ih hd e2
      refine ⟨by simp [l], fun {i v} hv hk => ?_⟩
      cases i with
      | zero => simp at hk
      | succ i => simpa using q (i := i) (v := v) (by simpa using hv) (by simpa using hk)
    · cases e
def mixA : List (Option Nat) → List T → Env → Option (List T)
  | [], [], _ => some []
  | none :: ks, t :: ts, ρ => (mixA ks ts ρ).map (t :: ·)
  | some j :: ks, _ :: ts, ρ => match ρ[j]? with
    | some (some u) => (mixA ks ts ρ).map (u :: ·)
    | _ => none
  | _, _, _ => none
theorem mixA_at : ∀ {ks : List (Option Nat)} {ts tc : List T}, mixA ks ts ρ = some tc → tc.length = ks.length ∧ ∀ i : Nat, (∀ j : Nat, ks[i]? = some (some j) → ∃ u, ρ[j]? = some (some u) ∧ tc[i]? = some u) ∧ (ks[i]? = some none → tc[i]? = ts[i]?)
  | [], [], tc, e => by cases e; exact ⟨rfl, fun i => ⟨fun j e => by simp at e, fun e => by simp at e⟩⟩
  | none :: ks, t :: ts, tc, e => by
    have e : (mixA ks ts ρ).map (t :: ·) = some tc := e
    cases q : mixA ks ts ρ with
    | none => rw [q] at e; cases e
    | some r =>
      rw [q] at e; cases e
      obtain ⟨l, k⟩ := mixA_at q
      refine ⟨by simp [l], fun i => ?_⟩
      cases i with
      | zero => exact ⟨fun j e => by simp at e, fun _ => rfl⟩
      | succ i => simpa using k i
  | some j0 :: ks, t :: ts, tc, e => by
    have e : (match ρ[j0]? with | some (some u) => (mixA ks ts ρ).map (u :: ·) | _ => none) = some tc := e
    split at e
    · rename_i u e0
      cases q : mixA ks ts ρ with
      | none => rw [q] at e; cases e
      | some r =>
        rw [q] at e; cases e
        obtain ⟨l, k⟩ := mixA_at q
        refine ⟨by simp [l], fun i => ?_⟩
        cases i with
        | zero => exact ⟨fun j e => by simp at e; subst e; exact ⟨u, e0, rfl⟩, fun e => by simp at e⟩
        | succ i => simpa using k i
    · cases e
  | [], _ :: _, _, e => by cases e
  | none :: _, [], _, e => by cases e
  | some _ :: _, [], _, e => by cases e
def posOf (ks : List (Option Nat)) (k : Nat) : Option Nat := ks.findIdx? fun o => o == some k
theorem posOf_some {k i : Nat} (h : posOf ks k = some i) : ks[i]? = some (some k) := by
  unfold posOf at h
  obtain ⟨hi, e, _⟩ := List.findIdx?_eq_some_iff_getElem.mp h
  rw [List.getElem?_eq_getElem hi]
  rw [beq_iff_eq] at e; rw [e]
theorem posOf_none {k i : Nat} (h : posOf ks k = none) : ks[i]? ≠ some (some k) := fun z => by
  unfold posOf at h
  rw [List.findIdx?_eq_none_iff] at h
  have := h (some k) (List.mem_of_getElem? z)
  simp at this
def wb (ks : List (Option Nat)) (ρ2 ρ : Env) : Env := ρ.mapIdx fun k o => match posOf ks k with
  | some i => (ρ2[i]?).join
  | none => o
def ResM.back {α : Type} (ks : List (Option Nat)) (ρ : Env) : ResM α → ResM α
  | .ok t ρ2 => .ok t (wb ks ρ2 ρ)
  | .exc c p ρ2 => .exc c p (wb ks ρ2 ρ)
  | .stuck => .stuck
def callEnd (F : List T → ResM T) (ks : List (Option Nat)) (ts : List T) (ρ : Env) : ResM T := match frzs ts with
  | some ts' => match mixA ks ts' ρ with
    | some tc => (F tc).back ks ρ
    | none => .stuck
  | none => .stuck
def dCallM (F : List T → ResM T) (ks : List (Option Nat)) (fa : Env → ResM (List T)) : Env → ResM T := fun ρ => (fa ρ).bind (callEnd F ks)
/-- no slot is lent twice -/
def Inj (ks : List (Option Nat)) : Prop := ∀ i i' j : Nat, ks[i]? = some (some j) → ks[i']? = some (some j) → i = i'
def φC (ks : List (Option Nat)) (φ : Nat → List Addr) : Nat → List Addr := fun i => match ks[i]? with
  | some (some j) => φ j
  | _ => []
def βC (ks : List (Option Nat)) (vs : List V) (β : Bo) : Bo := ⟨fun i => match ks[i]? with
  | some (some _) => vs[i]?
  | _ => none, β.l, false⟩
theorem φC_in {i : Nat} {a : Addr} (h : a ∈ φC ks φ i) : ∃ j, ks[i]? = some (some j) ∧ a ∈ φ j := by
  unfold φC at h
  split at h
  · rename_i j e; exact ⟨j, e, h⟩
  · cases h
theorem ER.shared (E : ER x β φ G H σ ρ) (h : ∀ a ∈ fp, Ownd H a ∧ G a = none ∧ ¬ Ow φ a) : ER x β φ (add G H fp) H σ ρ where
  len := E.len
  rep := fun i t e => let ⟨v, e1, r, n⟩ := E.rep i t e; ⟨v, e1, Rep.move (add_le fun a ha => (h a ha).2.1) r (fun a o e _ _ => e), n⟩
  nd := E.nd
  dj := E.dj
  dis := fun i a ha => ⟨by rw [add_out (fun z => (h a z).2.2 ⟨i, ha⟩)]; exact (E.dis i a ha).1, (E.dis i a ha).2⟩
  sub := sub_add E.sub fun a ha => (h a ha).1
  tab := E.tab
  bor := E.bor
  lck := E.lck
/-- the callee's start -/
theorem ER.lend (E : ER x β φ G H σ ρ) (hp : β.p = false) (A : ArgR x G H σ ks vs ts fp) (fr : ∀ a ∈ fp, G a = none ∧ ¬ Ow φ a) (inj : Inj ks) (e1 : frzs ts = some ts') (e2 : mixA ks ts' ρ = some tc) :
    ER x (βC ks vs β) (φC ks φ) (add G H fp) H (vs.map some) (tc.map some) := by
  have Es := E.shared fun a ha => ⟨A.there a ha, (fr a ha).1, (fr a ha).2⟩
  obtain ⟨l1, l2⟩ := A.length
  obtain ⟨l3, k3⟩ := A.frz (fun a ha => (fr a ha).1) e1
  obtain ⟨l4, k4⟩ := mixA_at e2
  exact {
    len := by rw [List.length_map, List.length_map, l4, l1]
    rep := fun i t e => by
      rw [List.getElem?_map] at e
      cases e3 : tc[i]? with
      | none => rw [e3] at e; cases e
      | some t' =>
        rw [e3] at e; cases e
        have hi : i < ks.length := by rw [← l4]; exact (List.getElem?_eq_some_iff.mp e3).1
        cases e4 : ks[i]? with
        | none => rw [List.getElem?_eq_none_iff] at e4; omega
        | some o =>
          cases o with
          | none =>
            have hv : vs[i]? = some (vs[i]'(by omega)) := List.getElem?_eq_getElem _
            obtain ⟨t2, e5, r⟩ := k3 hv e4
            have e6 := (k4 i).2 e4
            rw [e3, e5] at e6; cases e6
            refine ⟨_, by rw [List.getElem?_map, hv]; rfl, ?_, fun _ => r.np⟩
            unfold φC; rw [e4]; exact .s r
          | some j =>
            obtain ⟨v, hv, hσ⟩ := A.bor_at e4
            obtain ⟨u, e5, e6⟩ := (k4 i).1 j e4
            rw [e3] at e6; cases e6
            obtain ⟨w, e7, r, n⟩ := Es.rep j _ e5
            rw [hσ] at e7; cases e7
            refine ⟨v, by rw [List.getElem?_map, hv]; rfl, ?_, fun _ => n hp⟩
            unfold φC; rw [e4]; exact r
    nd := fun i => by
      unfold φC
      split
      · exact E.nd _
      · exact .nil
    dj := fun i i' a h1 h2 => by
      obtain ⟨j, e3, h1⟩ := φC_in h1
      obtain ⟨j', e4, h2⟩ := φC_in h2
      have := E.dj j j' a h1 h2
      subst this
      exact inj i i' j e3 e4
    dis := fun i a h => by
      obtain ⟨j, _, h⟩ := φC_in h
      exact Es.dis j a h
    sub := Es.sub
    tab := Es.tab
    bor := fun i v e => by
      have e : (match ks[i]? with | some (some _) => vs[i]? | _ => none) = some v := e
      split at e
      · rw [List.getElem?_map, e]; rfl
      · cases e
    lck := E.lck }
/-- back at the caller -/
theorem ER.ret (E : ER x β φ G H σ ρ) (hp : β.p = false) (A : ArgR x G H σ ks vs ts fp) (fr : ∀ a ∈ fp, G a = none ∧ ¬ Ow φ a) (inj : Inj ks) (s : Stp (Ow (φC ks φ)) (add G H fp) H G3 H3) (E3 : ER x (βC ks vs β) φ2 G3 H3 (vs.map some) ρ2) (o3 : ∀ a, Ow φ2 a → Ow (φC ks φ) a ∨ Vac H a) :
    ER x β (fun k => match posOf ks k with | some i => φ2 i | none => φ k) G3 H3 σ (wb ks ρ2 ρ) := by
  have Es := E.shared fun a ha => ⟨A.there a ha, (fr a ha).1, (fr a ha).2⟩
  have out : ∀ {k : Nat} {a : Addr}, posOf ks k = none → a ∈ φ k → ¬ Ow (φC ks φ) a := fun {k a} hk ha ⟨i, z⟩ => by
    obtain ⟨j, e, h⟩ := φC_in z
    have := E.dj k j a ha h
    subst this
    exact posOf_none hk e
  have out2 : ∀ {k : Nat} {a : Addr}, posOf ks k = none → a ∈ φ k → ¬ Ow φ2 a := fun {k a} hk ha z => by
    rcases o3 a z with z | z
    · exact out hk ha z
    · exact (E.dis k a ha).2.ne z
  exact {
    len := by unfold wb; rw [List.length_mapIdx]; exact E.len
    rep := fun k t e => by
      unfold wb at e
      rw [List.getElem?_mapIdx] at e
      cases e0 : ρ[k]? with
      | none => rw [e0] at e; cases e
      | some o =>
        rw [e0] at e
        have e : some (match posOf ks k with | some i => (ρ2[i]?).join | none => o) = some (some t) := e
        cases hk : posOf ks k with
        | some i =>
          rw [hk] at e
          have e : some ((ρ2[i]?).join) = some (some t) := e
          have e2 : ρ2[i]? = some (some t) := by
            cases q : ρ2[i]? with
            | none => rw [q] at e; cases e
            | some o => rw [q] at e; cases o with
              | none => cases e
              | some t' => cases e; rfl
          obtain ⟨v, e3, r, n⟩ := E3.rep i t e2
          obtain ⟨v', hv, hσ⟩ := A.bor_at (posOf_some hk)
          rw [List.getElem?_map, hv] at e3
          cases e3
          exact ⟨v, hσ, r, fun _ => n rfl⟩
        | none =>
          rw [hk] at e
          have e : some o = some (some t) := e
          cases e
          obtain ⟨v, e3, r, n⟩ := Es.rep k t e0
          exact ⟨v, e3, r.frame s (n hp) fun a ha => out hk ha, n⟩
    nd := fun k => by
      show (match posOf ks k with | some i => φ2 i | none => φ k).Nodup
      split
      · exact E3.nd _
      · exact E.nd _
    dj := fun k k' a h1 h2 => by
      have h1 : a ∈ (match posOf ks k with | some i => φ2 i | none => φ k) := h1
      have h2 : a ∈ (match posOf ks k' with | some i => φ2 i | none => φ k') := h2
      cases hk : posOf ks k with
      | some i =>
        rw [hk] at h1
        cases hk' : posOf ks k' with
        | some i' =>
          rw [hk'] at h2
          have := E3.dj i i' a h1 h2
          subst this
          have e1 := posOf_some hk
          rw [posOf_some hk'] at e1
          cases e1; rfl
        | none =>
          rw [hk'] at h2
          exact absurd ⟨i, h1⟩ (out2 hk' h2)
      | none =>
        rw [hk] at h1
        cases hk' : posOf ks k' with
        | some i' =>
          rw [hk'] at h2
          exact absurd ⟨i', h2⟩ (out2 hk h1)
        | none =>
          rw [hk'] at h2
          exact E.dj k k' a h1 h2
    dis := fun k a h => by
      have h : a ∈ (match posOf ks k with | some i => φ2 i | none => φ k) := h
      cases hk : posOf ks k with
      | some i => rw [hk] at h; exact E3.dis i a h
      | none =>
        rw [hk] at h
        obtain ⟨g, o, e, n, t⟩ := Es.dis k a h
        exact ⟨s.notIn g ⟨o, e, n, t⟩ (out hk h), o, s.ext.keep a o e n (out hk h), n, t⟩
    sub := s.sub
    tab := s.ext.tabs Es.tab
    bor := E.bor
    lck := fun a o e => E3.lck a o e }
theorem callM_sp {F : List T → ResM T} {n : Nat} {bi : Nat → Bool} {Q : V → Hp → Prop} (s : Stp (Ow φ1) G1 H1 G H) (E : ER x β φ G H σ ρ) (hp : β.p = false) (o : ∀ a, Ow φ a → Ow φ1 a ∨ Vac H1 a) (A : ArgR x G H σ ks vs ts fp) (fr : ∀ a ∈ fp, (Vac H1 a ∨ Ow φ1 a) ∧ G a = none ∧ ¬ Ow φ a) (inj : Inj ks) (hn : vs.length = n)
    (hbi : ∀ i, bi i = ((ks[i]?).join).isSome) (h : PstM x W β σ (Ow φ1) G1 H1 (callEnd F ks ts ρ) (MadeM x (Ow φ1) H1 Q)) : spM x n bi F vs H Q W := by
  unfold callEnd at h
  cases e1 : frzs ts with
  | none => rw [e1] at h; exact h.elim
  | some ts' =>
    rw [e1] at h
    simp only at h
    cases e2 : mixA ks ts' ρ with
    | none => rw [e2] at h; exact h.elim
    | some tc =>
      rw [e2] at h
      simp only at h
      have fr2 : ∀ a ∈ fp, G a = none ∧ ¬ Ow φ a := fun a ha => (fr a ha).2
      have El := E.lend hp A fr2 inj e1 e2
      have ss : Stp (Ow φ1) G1 H1 (add G H fp) H := s.share A.there fun a ha => ⟨(fr a ha).1, (fr a ha).2.1⟩
      have cin : ∀ a, Ow (φC ks φ) a → Ow φ a := fun a ⟨i, z⟩ => let ⟨j, _, h⟩ := φC_in z; ⟨j, h⟩
      refine ⟨hn, βC ks vs β, φC ks φ, add G H fp, tc, El, rfl, fun i hi => ?_, fun i hi => ?_, ?_⟩
      · show (match ks[i]? with | some (some _) => vs[i]? | _ => none) = vs[i]?
        rw [hbi] at hi
        cases e3 : ks[i]? with
        | none => rw [e3] at hi; cases hi
        | some o => cases o with
          | none => rw [e3] at hi; cases hi
          | some j => rfl
      · show (match ks[i]? with | some (some _) => vs[i]? | _ => none) = none
        rw [hbi] at hi
        cases e3 : ks[i]? with
        | none => rfl
        | some o => cases o with
          | none => rfl
          | some j => rw [e3] at hi; cases hi
      · have back : ∀ {φ2 : Nat → List Addr} {G3 H3 : Hp} {ρ2 : Env}, Stp (Ow (φC ks φ)) (add G H fp) H G3 H3 → ER x (βC ks vs β) φ2 G3 H3 (vs.map some) ρ2 → (∀ a, Ow φ2 a → Ow (φC ks φ) a ∨ Vac H a) →
            Stp (Ow φ1) G1 H1 G3 H3 ∧ ER x β (fun k => match posOf ks k with | some i => φ2 i | none => φ k) G3 H3 σ (wb ks ρ2 ρ) ∧ (∀ a, Ow (fun k => match posOf ks k with | some i => φ2 i | none => φ k) a → Ow φ2 a ∨ ∃ k, posOf ks k = none ∧ a ∈ φ k) ∧ (∀ a, Ow (fun k => match posOf ks k with | some i => φ2 i | none => φ k) a → Ow φ1 a ∨ Vac H1 a) := by
          intro φ2 G3 H3 ρ2 s3 E3 o3
          have w : ∀ a, Ow (fun k => match posOf ks k with | some i => φ2 i | none => φ k) a → Ow φ2 a ∨ ∃ k, posOf ks k = none ∧ a ∈ φ k := by
            rintro a ⟨k, z⟩
            have z : a ∈ (match posOf ks k with | some i => φ2 i | none => φ k) := z
            cases hk : posOf ks k with
            | some i => rw [hk] at z; exact .inl ⟨i, z⟩
            | none => rw [hk] at z; exact .inr ⟨k, hk, z⟩
          refine ⟨ss.comp s3 fun a z => o a (cin a z), E.ret hp A fr2 inj s3 E3 o3, w, fun a z => ?_⟩
          rcases w a z with z | ⟨k, _, z⟩
          · rcases o3 a z with z | z
            · exact o a (cin a z)
            · exact .inr (s.ext.back z)
          · exact o a ⟨k, z⟩
        cases hF : F tc with
        | stuck => rw [hF] at h; exact h
        | ok t ρ2 =>
          rw [hF] at h
          intro φ2 G3 H3 s3 E3 o3 v fpr rr hnr ndr frr
          obtain ⟨b1, b2, b3, b4⟩ := back s3 E3 o3
          refine h _ G3 H3 b1 b2 b4 v fpr rr hnr ndr fun a ha => ⟨?_, (frr a ha).2.1, fun z => ?_⟩
          · rcases (frr a ha).1 with z | z
            · exact .inl (s.ext.back z)
            · exact (o a (cin a z)).elim .inr .inl
          · rcases b3 a z with z | ⟨k, hk, z⟩
            · exact (frr a ha).2.2 z
            · rcases (frr a ha).1 with y | ⟨i, y⟩
              · exact (E.dis k a z).2.ne y
              · obtain ⟨j, e, y⟩ := φC_in y
                have := E.dj k j a z y
                subst this
                exact posOf_none hk e
        | exc c p ρ2 =>
          rw [hF] at h
          intro dd φ2 G3 H3 s3 E3 o3 xr
          obtain ⟨b1, b2, b3, b4⟩ := back s3 E3 o3
          exact h dd _ G3 H3 b1 b2 b4 xr
theorem m_call {k n : Nat} {f : Addr} {fd : FuncData} {ps : List Str} {bi : Nat → Bool} {F : List T → ResM T} {fa : Env → ResM (List T)} {nm : Str} {p : Pos} {e : Expr} {es : List Expr}
    (Fo : FnOk X.prog X.w X.K X.mg X.base (L2.CX X.prog X.w) k f fd ps (spM x n bi F)) (hl : ks.length = n) (inj : Inj ks) (hbi : ∀ i, bi i = ((ks[i]?).join).isSome) (hr : Room k X.A) (hg : Gl X nm) (hm : X.mg nm = some (.ref f)) (hk : PySem.W.keepIn X.K (.ref f) = true) (hb : Binds X.K fd ps []) (ha : MAr x X (e :: es) ks fa)
    (hdb : (nm == ("__debug__" : Str)) = false := by decide) (he : starEach (e :: es) X.env = (false, eval e X.env) :: starEach es X.env := by rfl) (hpl : (backTo pos (starEach es X.env)).any (·.1) = false := by rfl) :
    M x X (.Call (.Name nm p) (e :: es) [] pos) (dCallM F ks fa) := ⟨fun ok W tk => pe_imp (pe_call Fo hr hg hm hk hb .nil (passes_call tk fun _ _ _ _ h => h) (ha.run ok W tk) hdb he hpl) fun σ H Q ⟨β, φ, G, ρ, E, hp, h⟩ =>
  ⟨β, φ, G, ρ, E, hp, by
    have h : PstM x W β σ (Ow φ) G H ((fa ρ).bind (callEnd F ks)) (MadeM x (Ow φ) H Q) := h
    revert h
    cases fa ρ with
    | ok ts ρ1 =>
        intro h φ1 G1 H1 s1 E1 o1 vs fp r nd fr
        rw [List.append_nil]
        exact callM_sp (φ1 := φ) s1 E1 hp o1 r fr inj (by rw [r.length.1, hl]) hbi h
    | exc c p ρ1 => exact fun h => h
    | stuck => exact fun h => h⟩⟩
end
end Fn

/-! Fn31: expressions whose parts write. -/
namespace Fn
open PySem PySem.Spec L2
variable [Tbs]
section
variable {x : Tx} {β β' : Bo} {φ φ' φ1 φ2 : Nat → List Addr} {G G' G2 G3 G1 G0 H H' H0 H1 H2 H3 L : Hp} {W : XK} {X : Cx} {f : Fl} {fp : List Addr} {v : V} {σ σ' : L2.St} {ρ ρ' ρ2 : Env} {tg : Expr} {bs : Nat → Bool} {pos : Pos} {Po : Addr → Prop} {d : Addr} {u : HO} {od : Obj} {ks : List (Option Nat)} {vs : List V} {ts ts' tc : List T}
/-- a pure result, kept -/
def upM (r : Res T) (ρ : Env) : ResM T := r.stM ρ fun t => if t.np = true then .ok t ρ else .stuck
def less (H : Hp) (fp : List Addr) : Hp := fun a => if a ∈ fp then none else H a
theorem less_none {a : Addr} (h : Vac (less H fp) a) : a ∈ fp ∨ Vac H a := by
  by_cases z : a ∈ fp
  · exact .inl z
  · exact .inr fun o e => h o (by unfold less; rw [if_neg z]; exact e)
theorem less_live {a : Addr} (h : Vac H a) : Vac (less H fp) a := fun o e => by
  unfold less at e
  split at e
  · cases e
  · exact h o e
theorem PstM.toP {r : Res T} {Q : V → Hp → Prop} (h : PstM x W β σ (Ow φ2) G2 H2 (upM r ρ2) (MadeM x (Ow φ) H Q)) (E : ER x β φ2 G2 H2 σ ρ2) (hb : ∀ a, Vac H2 a → Vac H a) (hf : ∀ a ∈ fp, (Vac H a ∨ Ow φ a) ∧ ¬ Ow φ2 a) (hl : ∀ a ∈ fp, Ownd H2 a) : Pst x W G2 H2 r (Made x (less H2 fp) Q) := by
  unfold upM at h
  cases r with
  | ok t =>
    have h : PstM x W β σ (Ow φ2) G2 H2 (if t.np = true then .ok t ρ2 else .stuck) (MadeM x (Ow φ) H Q) := h
    by_cases hn : t.np = true
    · rw [if_pos hn] at h
      refine fun G' H' s v fp' r nd fr => h φ2 G' H' s.pure (E.step s) (fun a z => .inl z) v fp' r hn nd fun a ha => ?_
      rcases less_none (fr a ha).1 with z | z
      · exact ⟨(hf a z).1, (fr a ha).2, (hf a z).2⟩
      · exact ⟨.inl (hb a z), (fr a ha).2, fun ⟨i, y⟩ => (E.dis i a y).2.ne z⟩
    · rw [if_neg hn] at h; exact h.elim
  | exc c p => exact fun d G' H' s xr => h d φ2 G' H' s.pure (E.step s) (fun a z => .inl z) xr
  | stuck => exact h
theorem PstM.toP0 {r : Res T} {Q : V → Hp → Prop} (h : PstM x W β σ (Ow φ2) G2 H2 (upM r ρ2) (MadeM x (Ow φ) H Q)) (E : ER x β φ2 G2 H2 σ ρ2) (hb : ∀ a, Vac H2 a → Vac H a) : Pst x W G2 H2 r (Made x H2 Q) := by
  have := PstM.toP (fp := []) h E hb (fun a z => by cases z) (fun a z => by cases z)
  have e : less H2 [] = H2 := by funext a; unfold less; simp
  rw [e] at this; exact this
/-! ### values, several -/
abbrev MAv (x : Tx) (X : Cx) (es : List Expr) (f : Env → ResM (List T)) : Prop := MAr x X es (es.map fun _ => none) f
theorem ArgR.reps {n : List Expr} (h : ArgR x G H σ (n.map fun _ => none) vs ts fp) : Reps x G H vs ts fp ∧ ∀ t ∈ ts, t.np = true := by
  induction n generalizing vs ts fp with
  | nil => cases h; exact ⟨.nil, fun t z => by cases z⟩
  | cons e n ih =>
    cases h with
    | val h hn r =>
      obtain ⟨q, k⟩ := ih r
      refine ⟨.cons h q, fun t ht => ?_⟩
      rcases List.mem_cons.mp ht with z | z
      · rw [z]; exact hn
      · exact k t z
/-- from values to a result -/
def dM1 (g : List T → Res T) (fa : Env → ResM (List T)) : Env → ResM T := fun ρ => (fa ρ).bind fun ts ρ' => upM (g ts) ρ'
theorem m_vals {es : List Expr} {fa : Env → ResM (List T)} {g : List T → Res T} {Q : V → Hp → Prop} {R : List V → Hp → Prop} (E : ER x β φ G H σ ρ) (hp : β.p = false) (h : PstM x W β σ (Ow φ) G H (dM1 g fa ρ) (MadeM x (Ow φ) H Q))
    (k : ∀ ts G2 H2 vs fp, Sub G2 H2 → Reps x G2 H2 vs ts fp → (∀ t ∈ ts, t.np = true) → fp.Nodup → (∀ a ∈ fp, G2 a = none) → Pst x W G2 H2 (g ts) (Made x (less H2 fp) Q) → R vs H2) :
    PstM x W β σ (Ow φ) G H (fa ρ) (MadeMA x (Ow φ) H σ (es.map fun _ => none) R) :=
  PstM.bind h fun ts ρ2 φ2 G2 H2 s2 E2 o2 h2 vs fp r nd fr => by
    obtain ⟨q, hn⟩ := r.reps
    exact k ts G2 H2 vs fp E2.sub q hn nd (fun a ha => (fr a ha).2.1) (PstM.toP h2 E2 (fun a z => s2.ext.back z) (fun a ha => ⟨(fr a ha).1, (fr a ha).2.2⟩) q.there)
theorem less_fp {a : Addr} (h : a ∈ fp) : Vac (less H fp) a := .of (if_pos h)
theorem m_callB {id : String} {g : List T → Res T} {fa : Env → ResM (List T)} {nm : Str} {p : Pos} {e : Expr} {es : List Expr} (hs : CaSem x X (.builtin id) g) (hg : Gl X nm) (hm : X.mg nm = none) (hv : bootBuiltins nm = some (.builtin id)) (ha : MAv x X (e :: es) fa)
    (hn : nm ≠ "__name__" := by decide) (hdb : (nm == ("__debug__" : Str)) = false := by decide) (he : starEach (e :: es) X.env = (false, eval e X.env) :: starEach es X.env := by rfl) (hpl : (backTo pos (starEach es X.env)).any (·.1) = false := by rfl) :
    M x X (.Call (.Name nm p) (e :: es) [] pos) (dM1 g fa) := ⟨fun ok W tk => pe_imp (pe_callB (ca_top _) hg hm hv (ha.run ok W tk) hn hdb he hpl) fun σ H Q ⟨β, φ, G, ρ, E, hp, h⟩ =>
  ⟨β, φ, G, ρ, E, hp, m_vals E hp h fun ts G2 H2 vs fp sub r hnp nd g2 q => hs ok W tk G2 H2 (less H2 fp) vs ts fp Q sub r (fun a ha => ⟨less_fp ha, g2 a ha⟩) nd (fun a z => less_live z) q⟩⟩
theorem m_callTy {ty : String} {g : List T → Res T} {fa : Env → ResM (List T)} {nm : Str} {p : Pos} {e : Expr} {es : List Expr} (hs : CaSem x X (.type ty) g) (hg : Gl X nm) (hm : X.mg nm = none) (hv : bootBuiltins nm = some (.type ty)) (ha : MAv x X (e :: es) fa)
    (hn : nm ≠ "__name__" := by decide) (hdb : (nm == ("__debug__" : Str)) = false := by decide) (he : starEach (e :: es) X.env = (false, eval e X.env) :: starEach es X.env := by rfl) (hpl : (backTo pos (starEach es X.env)).any (·.1) = false := by rfl) :
    M x X (.Call (.Name nm p) (e :: es) [] pos) (dM1 g fa) := ⟨fun ok W tk => pe_imp (pe_callTy (ca_top _) hg hm hv (ha.run ok W tk) hn hdb he hpl) fun σ H Q ⟨β, φ, G, ρ, E, hp, h⟩ =>
  ⟨β, φ, G, ρ, E, hp, m_vals E hp h fun ts G2 H2 vs fp sub r hnp nd g2 q => hs ok W tk G2 H2 (less H2 fp) vs ts fp Q sub r (fun a ha => ⟨less_fp ha, g2 a ha⟩) nd (fun a z => less_live z) q⟩⟩
/-- the values are shared -/
def gS (g : List T → Res T) (ts : List T) : Res T := match frzs ts with
  | some ts' => g ts'
  | none => .stuck
theorem PstM.bind0 {α α' : Type} {r : ResM α} {g : α → Env → ResM α'} {Q : α' → (Nat → List Addr) → Hp → Hp → Env → Prop} {R : α → (Nat → List Addr) → Hp → Hp → Env → Prop} (h : PstM x W β σ Po G H (r.bind g) Q)
    (k : ∀ t ρ1 φ1 G1 H1, Stp Po G H G1 H1 → ER x β φ1 G1 H1 σ ρ1 → (∀ a, Ow φ1 a → Po a ∨ Vac H a) → PstM x W β σ Po G H (g t ρ1) Q → R t φ1 G1 H1 ρ1) : PstM x W β σ Po G H r R := by
  cases r with
  | ok t ρ1 => exact fun φ1 G1 H1 s1 E1 o1 => k t ρ1 φ1 G1 H1 s1 E1 o1 h
  | exc c p ρ1 => exact h
  | stuck => exact h
theorem m_valsS {es : List Expr} {fa : Env → ResM (List T)} {g : List T → Res T} {Q : V → Hp → Prop} {R : List V → Hp → Prop} (E : ER x β φ G H σ ρ) (hp : β.p = false) (h : PstM x W β σ (Ow φ) G H (dM1 (gS g) fa ρ) (MadeM x (Ow φ) H Q))
    (k : ∀ ts' G2 H2 vs, Sub G2 H2 → RepsS x G2 vs ts' → Pst x W G2 H2 (g ts') (Made x H2 Q) → R vs H2) :
    PstM x W β σ (Ow φ) G H (fa ρ) (MadeMA x (Ow φ) H σ (es.map fun _ => none) R) :=
  PstM.bind0 h fun ts ρ2 φ2 G2 H2 s2 E2 o2 h2 vs fp r nd fr => by
    obtain ⟨q, hn⟩ := r.reps
    unfold gS at h2
    cases e : frzs ts with
    | none => rw [e] at h2; exact h2.elim
    | some ts' =>
      rw [e] at h2
      have E3 := E2.shared fun a ha => ⟨q.there a ha, (fr a ha).2.1, (fr a ha).2.2⟩
      have h3 : PstM x W β σ (Ow φ2) (add G2 H2 fp) H2 (upM (g ts') ρ2) (MadeM x (Ow φ) H Q) := PstM.later h2 (s2.share q.there fun a ha => ⟨(fr a ha).1, (fr a ha).2.1⟩) o2
      exact k ts' _ H2 vs E3.sub (q.frzs (fun a ha => (fr a ha).2.1) e) (PstM.toP0 h3 E3 fun a z => s2.ext.back z)
theorem m_callP {k n : Nat} {f : Addr} {fd : FuncData} {ps : List Str} {F : List T → Res T} {fa : Env → ResM (List T)} {nm : Str} {p : Pos} {e : Expr} {es : List Expr}
    (Fo : FnOk X.prog X.w X.K X.mg X.base (L2.CX X.prog X.w) k f fd ps (spP x n F)) (hl : (e :: es).length = n) (hr : Room k X.A) (hg : Gl X nm) (hm : X.mg nm = some (.ref f)) (hk : PySem.W.keepIn X.K (.ref f) = true) (hb : Binds X.K fd ps []) (ha : MAv x X (e :: es) fa)
    (hdb : (nm == ("__debug__" : Str)) = false := by decide) (he : starEach (e :: es) X.env = (false, eval e X.env) :: starEach es X.env := by rfl) (hpl : (backTo pos (starEach es X.env)).any (·.1) = false := by rfl) :
    M x X (.Call (.Name nm p) (e :: es) [] pos) (dM1 (gS F) fa) := ⟨fun ok W tk => pe_imp (pe_call Fo hr hg hm hk hb .nil (passes_call tk fun _ _ _ _ h => h) (ha.run ok W tk) hdb he hpl) fun σ H Q ⟨β, φ, G, ρ, E, hp, h⟩ =>
  ⟨β, φ, G, ρ, E, hp, by
    refine PstM.bind0 (g := fun ts ρ' => upM (gS F ts) ρ') h fun ts ρ2 φ2 G2 H2 s2 E2 o2 h2 vs fp r nd fr => ?_
    obtain ⟨q, hn⟩ := r.reps
    rw [List.append_nil]
    unfold gS at h2
    cases e : frzs ts with
    | none => rw [e] at h2; exact h2.elim
    | some ts' =>
      rw [e] at h2
      have E3 := E2.shared fun a ha => ⟨q.there a ha, (fr a ha).2.1, (fr a ha).2.2⟩
      have h3 : PstM x W β σ (Ow φ2) (add G2 H2 fp) H2 (upM (F ts') ρ2) (MadeM x (Ow φ) H Q) := PstM.later h2 (s2.share q.there fun a ha => ⟨(fr a ha).1, (fr a ha).2.1⟩) o2
      exact ⟨by rw [r.length.1, List.length_map, hl], _, ts', E3.sub, E3.tab, q.frzs (fun a ha => (fr a ha).2.1) e, PstM.toP0 h3 E3 fun a z => s2.ext.back z⟩⟩⟩
def gTup (ts : List T) : Res T := if ts.length ≤ 10000000 then .ok (.tup ts) else .stuck
def gLst (ts : List T) : Res T := if ts.length ≤ 10000000 then .ok (.lst .ow ts) else .stuck
theorem m_tup {es : List Expr} {fa : Env → ResM (List T)} {k : Nat} (ha : MAv x X es fa) : M x X (.Tuple es k pos) (dM1 (gS gTup) fa) :=
  ⟨fun ok W tk => pe_imp (pe_tup (ha.run ok W tk)) fun σ H Q ⟨β, φ, G, ρ, E, hp, h⟩ => ⟨β, φ, G, ρ, E, hp, m_valsS E hp h fun ts G2 H2 vs sub r q => by
    unfold gTup at q
    split at q
    · rename_i hl
      exact ⟨by rw [r.length]; exact sz_of hl, Pst.newTup q sub r⟩
    · exact q.elim⟩⟩
theorem m_lst {es : List Expr} {fa : Env → ResM (List T)} (ha : MAv x X es fa) : M x X (.List es pos) (dM1 (gS gLst) fa) :=
  ⟨fun ok W tk => pe_imp (pe_lst (ha.run ok W tk)) fun σ H Q ⟨β, φ, G, ρ, E, hp, h⟩ => ⟨β, φ, G, ρ, E, hp, m_valsS E hp h fun ts G2 H2 vs sub r q => by
    unfold gLst at q
    split at q
    · rename_i hl
      exact ⟨by rw [r.length]; exact sz_of hl, Pst.newLst q sub r fun a z => z⟩
    · exact q.elim⟩⟩
/-! ### operators, subscripts -/
def dOpM (g : T → T → Res T) (fa fb : Env → ResM T) : Env → ResM T := fun ρ => (fa ρ).bind fun s ρ1 => (fb ρ1).bind fun t ρ2 => upM (g s t) ρ2
theorem two_vals {g : T → T → Res T} {fa fb : Env → ResM T} {Q : V → Hp → Prop} {R : V → V → Hp → Prop} (E : ER x β φ G H σ ρ) (hp : β.p = false) (h : PstM x W β σ (Ow φ) G H (dOpM g fa fb ρ) (MadeM x (Ow φ) H Q))
    (k : ∀ s t G2 H2 v w f1 f2, Sub G2 H2 → Rep x G2 H2 v s f1 → Rep x G2 H2 w t f2 → Pst x W G2 H2 (g s t) (Made x H2 Q) → R v w H2) : tM x W fa σ H fun v H1 => tM x W fb σ H1 fun w H2 => R v w H2 :=
  ⟨β, φ, G, ρ, E, hp, PstM.bind h fun s ρ1 φ1 G1 H1 s1 E1 o1 h1 v1 f1 r1 n1 nd1 d1 => ⟨β, φ1, G1, ρ1, E1, hp, PstM.bind h1 fun t ρ2 φ2 G2 H2 s2 E2 o2 h2 v2 f2 r2 n2 nd2 d2 =>
    k s t G2 H2 v1 v2 f1 f2 E2.sub (r1.frame s2 n1 fun a ha => (d1 a ha).2.2) r2 (PstM.toP0 h2 E2 fun a z => s1.ext.back (s2.ext.back z))⟩⟩
theorem m_op {a b : Expr} {fa fb : Env → ResM T} {op : Operator} {g : T → T → Res T} (hs : OpSem x X (binaryOp op) g) (ha : M x X a fa) (hb : M x X b fb) : M x X (.BinOp a op b pos) (dOpM g fa fb) :=
  ⟨fun ok W tk => pe_imp (pe_op (op_top _) (ha.run ok W tk) (hb.run ok W tk)) fun σ H Q ⟨β, φ, G, ρ, E, hp, h⟩ => two_vals E hp h fun s t G2 H2 v w f1 f2 sub r1 r2 q => hs ok W tk G2 H2 H2 v w s t f1 f2 Q sub r1 r2 (fun a z => z) q⟩
theorem m_cmp {a b : Expr} {fa fb : Env → ResM T} {op : CmpOp} {g : T → T → Res T} (hs : OpSem x X (compareOp op) g) (ha : M x X a fa) (hb : M x X b fb) (hm : behindInMarks op b = false) : M x X (.Compare a [op] [b] pos) (dOpM g fa fb) :=
  ⟨fun ok W tk => pe_imp (pe_cmpR (op_top _) (ha.run ok W tk) (hb.run ok W tk) hm) fun σ H Q ⟨β, φ, G, ρ, E, hp, h⟩ => two_vals E hp h fun s t G2 H2 v w f1 f2 sub r1 r2 q => hs ok W tk G2 H2 H2 v w s t f1 f2 Q sub r1 r2 (fun a z => z) q⟩
theorem m_ix {a b : Expr} {fa fb : Env → ResM T} (ha : M x X a fa) (hb : M x X b fb) (hs : PlainIx b) : M x X (.Subscript a b pos) (dOpM opIx fa fb) :=
  ⟨fun ok W tk => pe_imp (pe_ix ix_top (ha.run ok W tk) (hb.run ok W tk) hs) fun σ H Q ⟨β, φ, G, ρ, E, hp, h⟩ => two_vals E hp h fun s t G2 H2 v w f1 f2 sub r1 r2 q => ix_sem ok sub r1 r2 q⟩
/-! ### tests -/
def tMT (x : Tx) (W : XK) (f : Env → ResM Bool) : TT := fun σ H Q => ∃ β φ G ρ, ER x β φ G H σ ρ ∧ β.p = false ∧ PstM x W β σ (Ow φ) G H (f ρ) (fun b _ _ H' _ => Q b H')
structure MTe (x : Tx) (X : Cx) (e : Expr) (f : Env → ResM Bool) : Prop where
  run : XOk x X → ∀ W : XK, Takes X (fun c d _ H => W c d H) → PT X e (tMT x W f)
def dTestM (f : Env → ResM T) : Env → ResM Bool := fun ρ => (f ρ).bind fun t ρ' => t.tru.up ρ'
theorem mt_of {e : Expr} {f : Env → ResM T} (h : M x X e f) (he : ∀ whole, isTrue e X.env whole = (do let v ← whole; standAt e.pos; holding [v] (truthy v)) := by intro _; rfl) : MTe x X e (dTestM f) :=
  ⟨fun ok W tk => pt_imp (pt_truth (h.run ok W tk) he) fun σ H Q ⟨β, φ, G, ρ, E, hp, h⟩ => ⟨β, φ, G, ρ, E, hp, PstM.bind h fun t ρ1 φ1 G1 H1 s1 E1 o1 h1 v1 f1 r1 n1 nd1 d1 => by
    rcases tru_res t with ⟨b, e⟩ | e
    · rw [e] at h1
      exact ⟨b, by rw [ok.K]; exact r1.tru E1.sub e, h1 φ1 G1 H1 (.refl _ E1.sub) E1 fun a z => .inl z⟩
    · rw [e] at h1; exact h1.elim⟩⟩
def dUpT (f : Env → Res Bool) : Env → ResM Bool := fun ρ => (f ρ).up ρ
theorem mt_up {e : Expr} {f : Env → Res Bool} (h : PTe x X e f) : MTe x X e (dUpT f) := ⟨fun ok W tk => pt_imp (h.run ok W tk) fun σ H Q ⟨β, φ, G, ρ, E, hp, q⟩ => ⟨β, φ, G, ρ, E, by
  unfold dUpT at q
  cases hf : f ρ with
  | ok b => rw [hf] at q; exact fun G' H' s => q φ G' H' s.pure (E.step s) fun a z => .inl z
  | exc c p => rw [hf] at q; exact fun d G' H' s xr => q d φ G' H' s.pure (E.step s) (fun a z => .inl z) xr
  | stuck => rw [hf] at q; exact q⟩⟩
def dIfM (c : Env → ResM Bool) (f g : Env → ResM T) : Env → ResM T := fun ρ => (c ρ).bind fun b ρ' => if b = true then f ρ' else g ρ'
theorem MadeM.mono {t : T} {Q : V → Hp → Prop} {φ0 : Nat → List Addr} (h : MadeM x (Ow φ) H Q t φ' G' H' ρ') (o : ∀ a, Ow φ0 a → Ow φ a ∨ Vac H a) (b : ∀ a, Vac H0 a → Vac H a) : MadeM x (Ow φ0) H0 Q t φ' G' H' ρ' := fun v fp r hn nd fr => h v fp r hn nd fun a ha => ⟨(fr a ha).1.elim (fun z => .inl (b a z)) fun z => (o a z).elim .inr .inl, (fr a ha).2⟩
theorem PstM.impQ {α : Type} {r : ResM α} {Q Q' : α → (Nat → List Addr) → Hp → Hp → Env → Prop} (h : PstM x W β σ Po G H r Q) (i : ∀ t φ' G' H' ρ', Q t φ' G' H' ρ' → Q' t φ' G' H' ρ') : PstM x W β σ Po G H r Q' := by
  cases r with
  | ok t ρ' => exact fun φ' G' H' s E o => i _ _ _ _ _ (h φ' G' H' s E o)
  | exc c p ρ' => exact h
  | stuck => exact h
theorem m_if {c a b : Expr} {fc : Env → ResM Bool} {f g : Env → ResM T} (hc : MTe x X c fc) (ha : M x X a f) (hb : M x X b g) : M x X (.IfExp c a b pos) (dIfM fc f g) :=
  ⟨fun ok W tk => pe_imp (pe_ifExp (hc.run ok W tk) (ha.run ok W tk) (hb.run ok W tk)) fun σ H Q ⟨β, φ, G, ρ, E, hp, h⟩ => ⟨β, φ, G, ρ, E, hp, PstM.bind h fun t ρ1 φ1 G1 H1 s1 E1 o1 h1 => by
    cases t with
    | true => exact ⟨β, φ1, G1, ρ1, E1, hp, h1.impQ fun t φ' G' H' ρ' m => m.mono o1 fun a z => s1.ext.back z⟩
    | false => exact ⟨β, φ1, G1, ρ1, E1, hp, h1.impQ fun t φ' G' H' ρ' m => m.mono o1 fun a z => s1.ext.back z⟩⟩⟩
end
end Fn

/-! Fn32: lambdas handed to a def that tells how they end. -/
namespace Fn
open PySem PySem.Spec L2
variable [Tbs]
section
variable {x : Tx} {β β' : Bo} {φ φ' φ1 φ2 : Nat → List Addr} {G G' G2 G3 G1 G0 H H' H0 H1 H2 H3 L : Hp} {W : XK} {X : Cx} {f : Fl} {fp : List Addr} {v : V} {σ σ' : L2.St} {ρ ρ' ρ2 : Env} {bs : Nat → Bool} {pos : Pos} {Po : Addr → Prop}
/-- how a call of the lambda ends: let out (of the class at C), or quietly -/
def TTref (C : Addr) (tag : Str) : (XK → Hp → VK → Prop) → Hp → VK → Prop := fun tl H Q =>
  tl (fun cls d H' => cls = .ref C ∧ ∃ (dd : Addr) (fs : List (Str × V)) (v : V), d = some dd ∧ H' dd = some (.xd fs) ∧ fs.lookup ("value" : Str) = some v ∧ ∀ p, H' p = none → Q (.ref p) (upd H' p (.tup [.str tag, v]))) H
    (fun _ H' => [V.str "", V.non].length ≤ sizeLine ∧ ∀ p, H' p = none → Q (.ref p) (upd H' p (.tup [.str "", .non])))
/-- the def: try: a() / except E as e: return (tag, e.value) / return ('', None) -/
theorem refused_gives {x a en ex q : Str} {tag : Str} {sg : Scope} {g C : Addr} {cdg : Value} {j1 j2 j3 : Nat} {k1 k2 : Nat} {p1 p2 p3 p4 p5 p6 p7 p8 p9 pa pb pc pd pe pf : Pos} (hN : ([a, en] : List Str).Nodup) (hln : sg.names.lookup en = some .local) (hva : Vis sg a)
    (hge : sg.names.lookup ex = some .globalImplicit) (hme : X.mg ex = some (.ref C)) (hde : (ex == ("__debug__" : Str)) = false) (hda : (en == ("__debug__" : Str)) = false) (hdc : (en == ("__classdict__" : Str)) = false) (hx : PySem.W.exmOne X.K (.ref C) (.ref C) = some true) (T : XfC X.K C) (hno : PySem.W.findIn X.K (.ref C) "value" = some none) :
    LamX.GivesTo X [a, en] x sg g cdg [.Try [.Expr (.Call (.Name a p1) [] [] p2) p3] [.ExceptHandler (some (.Name ex p4)) (some en) [.Return (some (.Tuple [.Constant (.str tag) j1 p5, .Attribute (.Name en p6) "value" p7] k1 p8)) p9] pa] [] [] pb, .Return (some (.Tuple [.Constant (.str "") j2 pc, .Constant .none j3 pd] k2 pe)) pf] a q (TTref C tag) := by
  intro f c' s H Q tl act hc h
  have hgl : Gl (cxOf C8.CX0 X.prog X.w X.K X.mg X.base [a, en] x sg g cdg X.A X.stack s H C8.E0).nox ex := hge
  refine ⟨_, pss_cons (ps_try_as (X := (cxOf C8.CX0 X.prog X.w X.K X.mg X.base [a, en] x sg g cdg X.A X.stack s H C8.E0).nox) (c := .ref C) (i := 1) (n := en) (Wout := fun _ _ _ _ => False)
      (tb := fun W D σ H => ∃ Ech : XK, (∀ cls d σ' H', Ech cls d H' → σ'.length = 2 → W cls d σ' H') ∧ σ[0]? = some (some (.ref f)) ∧ H c' = some (LamX.CodeO c' q) ∧ tl Ech H fun _ H' => D.nx σ H')
      rfl rfl hN rfl hln ⟨hgl, hde, .inl hme⟩ LamX.takes0 (fun W pn xe tk _ => ?_) (fun a' oe cls d pn hz hf => pss_one (ps_ret (pe_tup (pa_cons pe_str (pa_cons (pe_xf T hno hz hf (pe_var (i := 1) rfl (.inl hln) hda hdc)) pa_nil)))))) (pss_one (ps_ret (pe_tup (pa_cons pe_str (pa_cons pe_non pa_nil))))), ?_⟩
  · refine ⟨fun pins s' σ H' D I h' => ?_⟩
    obtain ⟨Ech, hW, h1, h2, h3⟩ := h'
    have tk2 : Takes ((cxOf C8.CX0 X.prog X.w X.K X.mg X.base [a, en] x sg g cdg X.A X.stack s H C8.E0).tr pn xe) (fun c d σ H => σ.length = 2 → W c d σ H) := fun u s' ⟨a, B, sI, pins, σ, H, cls, d, e, I, nb, up, sky, na, os, ag, w⟩ =>
      tk u s' ⟨a, B, sI, pins, σ, H, cls, d, e, I, nb, up, sky, na, os, ag, w I.len⟩
    have hp := act _ pn xe Ech p1 p2 tk2 hW
    exact (pss_one (ps_expr (pos := p3) hp)).run pins s' σ H' D I ⟨h1, h2, h3⟩
  · refine ⟨fun cls d H' => cls = .ref C ∧ ∃ (dd : Addr) (fs : List (Str × V)) (v : V), d = some dd ∧ H' dd = some (.xd fs) ∧ fs.lookup ("value" : Str) = some v ∧ ∀ p, H' p = none → Q (.ref p) (upd H' p (.tup [.str tag, v])), fun cls d σ' H' hE hl => ?_, rfl, hc, h⟩
    obtain ⟨rfl, dd, fs, v, rfl, hd, hv, q⟩ := hE
    refine ⟨true, hx, fun _ a' ha' => ?_, fun z => by cases z⟩
    exact ⟨.ref a', List.getElem?_set_self (by omega), rfl, rfl, dd, fs, v, rfl, hd, hv, by show 2 ≤ sizeLine; decide, q⟩
/-- a step that only lays code objects -/
theorem Stp.code (s : Sub G H) (e : LamX.ExtN H H1) (t : LamX.Tabs Tbs.tb H1) : Stp No G H G H1 where
  ext := ⟨fun b o h n _ => e b o h n, fun b o h n => ⟨o, e b o h n, n⟩, fun _ => t⟩
  sub := fun a o h => ⟨(s a o h).1, (s a o h).2.imp (fun z => e a o z (s a o h).1) fun ⟨od, z, d⟩ => ⟨od, e a _ z (fun _ z => by cases z), d⟩⟩
  le := fun _ _ z => z
  new := fun _ z => .inl z
def refEnd (cc : Nat) (tag : Str) : ResM T → ResM T
  | .ok _ ρ => .ok (.tup [.str tag0, .non]) ρ
  | .exc c p ρ => match p with
    | [t] => match t.frz with
      | some t' => if c = cc then .ok (.tup [.str tag, t']) ρ else .stuck
      | none => .stuck
    | _ => .stuck
  | .stuck => .stuck
where tag0 : Str := ""
def dRef (cc : Nat) (tag : Str) (fb : Env → ResM T) : Env → ResM T := fun ρ => refEnd cc tag (fb ρ)
theorem ref_core {cc : Nat} {tag : Str} {fb : Env → ResM T} {Q : VK} (hfl : x.fl cc = [("value" : Str)]) (E : ER x β φ G H σ ρ) (hp : β.p = false) (h : PstM x W β σ (Ow φ) G H (dRef cc tag fb ρ) (MadeM x (Ow φ) H Q)) :
    LamX.tLam Tbs.tb (TTref (x.ca cc) tag) (fun E => tM x E fb) σ H Q := ⟨E.tab, fun H1 e t => by
  have st : Stp No G H G H1 := .code E.sub e t
  refine ⟨β, φ, G, ρ, E.step st, hp, ?_⟩
  unfold dRef at h
  have pair : ∀ {G' H' : Hp} {v : V} {t : T} {tg : Str} {ρ' : Env} {φ' : Nat → List Addr}, Stp (Ow φ) G H1 G' H' → ER x β φ' G' H' σ ρ' → (∀ a, Ow φ' a → Ow φ a ∨ Vac H1 a) → RepS x G' v t → PstM x W β σ (Ow φ) G H (.ok (.tup [.str tg, t]) ρ') (MadeM x (Ow φ) H Q) → ∀ p, H' p = none → Q (.ref p) (upd H' p (.tup [.str tg, v])) := by
    intro G' H' v t tg ρ' φ' s' E' o' rv hq p hpn
    have lay : Stp No G' H' (upd G' p (.tup [.str tg, v])) (upd H' p (.tup [.str tg, v])) := .laidS s'.sub hpn (fun _ z => by cases z)
    refine hq φ' _ _ ((st.pure.trans s').trans lay.pure) (E'.step lay) (fun a z => (o' a z).imp id st.ext.back) (.ref p) [] (.s (.tup upd_same (.cons (.str _) (.cons (rv.le lay.le) .nil)))) rfl .nil fun _ z => by cases z
  cases hf : fb ρ with
  | stuck => rw [hf] at h; exact h
  | ok r ρ' =>
    rw [hf] at h
    intro φ' G' H' s' E' o' v fp rr hn nd fr
    exact ⟨by show 2 ≤ sizeLine; decide, pair s' E' o' .non h⟩
  | exc c ps ρ' =>
    rw [hf] at h
    intro d φ' G' H' s' E' o' ⟨fs, hd, hk, hr⟩
    match ps, h, hr with
    | [], h, _ => exact h.elim
    | [t], h, hr =>
      have h2 : PstM x W β σ (Ow φ) G H (match t.frz with | some t' => if c = cc then .ok (.tup [.str tag, t']) ρ' else .stuck | none => .stuck) (MadeM x (Ow φ) H Q) := h
      cases ef : t.frz with
      | none => rw [ef] at h2; exact h2.elim
      | some t' =>
        rw [ef] at h2
        simp only at h2
        by_cases hc : c = cc
        · rw [if_pos hc] at h2
          subst hc
          rw [hfl] at hk
          match fs, hk, hr with
          | [(n, v)], hk, hr =>
            have en : n = ("value" : Str) := by simpa using hk
            subst en
            obtain ⟨w, ew, rw'⟩ := hr.one'
            have ew : [v] = [w] := ew
            cases ew
            have rv : RepS x G' v t' := by
              have := rw'.frz (fun _ z => by cases z) ef
              have e0 : add G' H' [] = G' := by funext a; exact add_out (by simp)
              rw [e0] at this; exact this
            exact ⟨rfl, d, _, v, rfl, hd, by simp, pair s' E' o' rv h2⟩
        · rw [if_neg hc] at h2; exact h2.elim
    | _ :: _ :: _, h, _ => exact h.elim⟩
/-- x(lambda: body), x the def of refused_gives -/
theorem m_ref {cc k : Nat} {rf a : Str} {tag : Str} {g c P : Addr} {pg : Arguments} {bg : List Stmt} {sg : Scope} {dV kV doc pm cdv ct oc : Value} {an od : Option Addr} {osl : Array (Option Value)} {Ng : List Str} {params : Arguments} {body : Expr} {scope : Scope} {fb : Env → ResM T} {p lpos : Pos}
    (hfl : x.fl cc = [("value" : Str)]) (hg : Gl X rf) (hm : X.mg rf = some (.ref g)) (hk : PySem.W.keepIn x.K (.ref g) = true) (lk : x.K.lookup g = some ⟨oc, od, .func (PySem.W.fnOf rf rf pg bg sg dV kV doc pm an cdv ct), osl⟩) (hcg : PySem.W.codeIn x.K cdv rf = true)
    (hb : L2.Binds x.K (PySem.W.fnOf rf rf pg bg sg dV kV doc pm an cdv ct) [a] []) (Sg : FnScope Ng [a] sg) (hNg : Ng[0]? = some a) (hva : Vis sg a) (hG : X.K = x.K → LamX.GivesTo X Ng rf sg g cdv bg a (X.env.qual ++ "<lambda>") (TTref (x.ca cc) tag))
    (TB : LamX.TabB X.base X.mg c P) (hcode : X.env.code = .ref c) (hmT : (P, X.env.qual ++ "<lambda>") ∈ Tbs.tb) (hu : ∀ p ∈ Tbs.tb, p.1 = P → p.2 = X.env.qual ++ "<lambda>") (hr : Room (k + 2) X.A) (L : LamX.LamS X.env.scope scope) (hdef : defaultsOf params X.env = ([], []))
    (hbind : ∀ (q : Str) (cl : List (Str × Addr)) (pm cv ctv : Value), bindArgs (PySem.W.kla_fn "<lambda>" q params body scope cl pm cv ctv) ⟨[], []⟩ = pure [])
    (hbody : ∀ (A : Around) (outer : List PySem.Env) (s : Shared) (H : Hp) (E : XK) (f c' : Addr), Room k (A.deeper (LamX.lamEnv X scope s.heap.objs.size f c')) → M x (LamX.lamCx X A outer s H E scope f c') body fb)
    (hdb : (rf == ("__debug__" : Str)) = false := by decide) (hd : (a == ("__debug__" : Str)) = false := by decide) (hcd : (a == ("__classdict__" : Str)) = false := by decide) : M x X (.Call (.Name rf p) [.Lambda params body scope lpos] [] pos) (dRef cc tag fb) := ⟨fun ok W tk => by
  have K := ok.K
  refine pe_imp (LamX.pe_lamcall (T := Tbs.tb) (t := fun E => tM x E fb) hg hm (by rw [K]; exact hk) (by rw [K]; exact lk) (by rw [K]; exact hcg) (by rw [K]; exact hb) Sg hNg hva (hG K) TB hcode hmT hu hr L hdef hbind (fun A outer s H E f c' hr' => ?_) hdb hd hcd) fun σ H Q ⟨β, φ, G, ρ, E, hp, h⟩ => ref_core hfl E hp h
  exact (hbody A outer s H E f c' hr').run ⟨K, rfl, hr'.mono (Nat.zero_le _), ok.nd⟩ E (takes_of rfl rfl rfl rfl)⟩
end
end Fn

/-! Fn33: slices, comprehensions whose parts write. -/
namespace Fn
open PySem PySem.Spec L2
variable [Tbs]
section
variable {x : Tx} {β β' : Bo} {φ φ' φ1 φ2 : Nat → List Addr} {G G' G2 G3 G1 G0 H H' H0 H1 H2 H3 L : Hp} {W : XK} {X : Cx} {f : Fl} {fp : List Addr} {v : V} {σ σ' : L2.St} {ρ ρ' ρ2 : Env} {tg : Expr} {bs : Nat → Bool} {pos : Pos} {Po : Addr → Prop}
/-! ### slices -/
structure POtM (x : Tx) (X : Cx) (o : Option Expr) (f : Env → ResM (Option Int)) : Prop where
  run : XOk x X → ∀ W : XK, Takes X (fun c d _ H => W c d H) → PO X o (fun σ H Q => ∃ β φ G ρ, ER x β φ G H σ ρ ∧ β.p = false ∧ PstM x W β σ (Ow φ) G H (f ρ) (fun i _ _ H' _ => Q i H'))
def dNoPartM : Env → ResM (Option Int) := fun ρ => .ok none ρ
def partEnd (t : T) (ρ : Env) : ResM (Option Int) := match t with | .int i => .ok (some i) ρ | _ => .stuck
def dPartM (f : Env → ResM T) : Env → ResM (Option Int) := fun ρ => (f ρ).bind partEnd
theorem potM_none : POtM x X none dNoPartM := ⟨fun ok W tk => po_imp po_none fun σ H Q ⟨β, φ, G, ρ, E, hp, h⟩ => h φ G H (.refl _ E.sub) E fun a z => .inl z⟩
theorem potM_some {e : Expr} {f : Env → ResM T} (h : M x X e f) : POtM x X (some e) (dPartM f) := ⟨fun ok W tk => po_imp (po_some (h.run ok W tk)) fun σ H Q ⟨β, φ, G, ρ, E, hp, h⟩ => ⟨β, φ, G, ρ, E, hp, PstM.bind h fun t ρ1 φ1 G1 H1 s1 E1 o1 h1 v1 f1 r1 n1 _ _ => by
  cases t with
  | int i => cases r1.int; exact ⟨i, rfl, h1 φ1 G1 H1 (.refl _ E1.sub) E1 fun a z => .inl z⟩
  | _ => exact h1.elim⟩⟩
def dSlM (f : Env → ResM T) (lo hi : Env → ResM (Option Int)) : Env → ResM T := fun ρ => (f ρ).bind fun t ρ1 => (lo ρ1).bind fun l ρ2 => (hi ρ2).bind fun u ρ3 => upM (opSl t l u) ρ3
theorem m_sl {a : Expr} {lo hi : Option Expr} {f : Env → ResM T} {fl fh : Env → ResM (Option Int)} {p2 : Pos} (ha : M x X a f) (hl : POtM x X lo fl) (hh : POtM x X hi fh) : M x X (.Subscript a (.Slice lo hi none p2) pos) (dSlM f fl fh) :=
  ⟨fun ok W tk => pe_imp (pe_slice sl_top (ha.run ok W tk) (hl.run ok W tk) (hh.run ok W tk)) fun σ H Q ⟨β, φ, G, ρ, E, hp, h⟩ => ⟨β, φ, G, ρ, E, hp, PstM.bind h fun s ρ1 φ1 G1 H1 s1 E1 o1 h1 v1 f1 r1 n1 nd1 d1 => ⟨β, φ1, G1, ρ1, E1, hp, PstM.bind h1 fun l ρ2 φ2 G2 H2 s2 E2 o2 h2 =>
    ⟨β, φ2, G2, ρ2, E2, hp, PstM.bind h2 fun u ρ3 φ3 G3 H3 s3 E3 o3 h3 => by
      have d2 : ∀ a ∈ f1, ¬ Ow φ2 a := fun a ha z => by
        rcases o2 a z with y | y
        · exact (d1 a ha).2.2 y
        · exact r1.live a ha y
      exact sl_sem ok E3.sub ((r1.frame s2 n1 fun a ha => (d1 a ha).2.2).frame s3 n1 d2) (fun a z => z) (PstM.toP0 h3 E3 fun a z => s1.ext.back (s2.ext.back (s3.ext.back z)))⟩⟩⟩⟩
/-! ### comprehensions -/
def compLM (tg : T → Env → Option Env) (tt : Env → ResM Bool) (el : Env → ResM T) (own : List Nat) : List T → Env → ResM (List T)
  | [], ρ => .ok [] ρ
  | t :: r, ρ => match tg t ρ with
    | none => .stuck
    | some ρ1 => match tt ρ1 with
      | .ok true ρ2 => match el ρ2 with
        | .ok u ρ3 => match u.frz with
          | some u' => (compLM tg tt el own r (wipeE ρ3 own)).bind fun us ρ4 => .ok (u' :: us) ρ4
          | none => .stuck
        | _ => .stuck
      | .ok false ρ2 => compLM tg tt el own r (wipeE ρ2 own)
      | _ => .stuck
theorem compLM_noexc {tgf : T → Env → Option Env} {tt : Env → ResM Bool} {el : Env → ResM T} {own : List Nat} : ∀ {ts : List T} {ρ : Env} {c : Nat} {p : List T} {ρ' : Env}, compLM tgf tt el own ts ρ ≠ .exc c p ρ'
  | [], ρ, c, p, ρ', e => by cases e
  | t :: r, ρ, c, p, ρ', e => by
    unfold compLM at e
    split at e
    · cases e
    · split at e
      · split at e
        · split at e
          · cases q : compLM tgf tt el own r (wipeE _ own) with
            | ok us ρ4 => rw [q] at e; cases e
            | exc c p ρ4 => exact compLM_noexc q
            | stuck => rw [q] at e; cases e
          · cases e
        · cases e
      · exact compLM_noexc e
      · cases e
/-- what the slots of the comprehension's own names held before -/
def unwipe (own : List Nat) (ρ ρn : Env) : Env := ρn.mapIdx fun i o => if own.contains i = true then (ρ[i]?).join else o
def wφ (own : List Nat) (φ : Nat → List Addr) : Nat → List Addr := fun i => if own.contains i = true then [] else φ i
theorem ER.wipe' : ∀ (vs : List Nat), ER x ⟨fun _ => none, β.l, β.p⟩ φ G H σ ρ → ER x ⟨fun _ => none, β.l, β.p⟩ (wφ vs φ) G H (L2.wipe σ vs) (wipeE ρ vs)
  | [], E => by
    have : wφ [] φ = φ := by funext i; unfold wφ; simp
    rw [this]; exact E
  | v :: vs, E => by
    have E' := (ER.wipe' vs E).lose v
    have : fput (wφ vs φ) v [] = wφ (v :: vs) φ := by
      funext i
      unfold fput wφ
      by_cases z : i = v
      · rw [if_pos z, z]; simp
      · rw [if_neg z]
        have : (v :: vs).contains i = vs.contains i := by
          rw [List.contains_cons]
          have : (i == v) = false := by simpa using z
          rw [this, Bool.false_or]
        rw [this]
    rw [this] at E'
    exact E'
theorem wφ_in {own : List Nat} {a : Addr} (h : Ow (wφ own φ) a) : Ow φ a := by
  obtain ⟨i, h⟩ := h
  unfold wφ at h
  split at h
  · cases h
  · exact ⟨i, h⟩
/-- an object made behind the first heap is written -/
theorem Stp.mutP {p : Addr} {o u : HO} (s : Stp Po G H G' H') (h : H p = none) (hg : G' p = none) (hu : H' p = some u) (nu : NT u) (xu : ∀ φ, u ≠ .ext φ) (no : NT o) : Stp Po G H G' (L2.upd H' p o) where
  ext := ⟨fun b w e n q => by rw [upd_ne (fun z => by rw [z, h] at e; cases e)]; exact s.ext.keep b w e n q, fun b w e m => by rw [upd_ne (fun z => by rw [z, h] at e; cases e)]; exact s.ext.live b w e m,
    fun t => (s.ext.tabs t).upd no (tb_some hu nu xu)⟩
  sub := fun a w e => ⟨(s.sub a w e).1, by rw [upd_ne (fun z => by rw [z, hg] at e; cases e)]; exact (s.sub a w e).2⟩
  le := s.le
  new := s.new
/-- .. which no slot owns -/
theorem ER.aside {p : Addr} {o u : HO} (E : ER x β φ G H σ ρ) (hp : β.p = false) (no : ¬ Ow φ p) (hg : G p = none) (hu : H p = some u) (nu : NT u) (xu : ∀ φ, u ≠ .ext φ) (fu : ∀ od w, u ≠ .frz od w) (n : NT o) : ER x β φ G (L2.upd H p o) σ ρ where
  len := E.len
  rep := fun i t e => let ⟨v, e1, r, hn⟩ := E.rep i t e; ⟨v, e1, Rep.move (fun _ _ z => z) r (fun a w e2 m q => by rw [upd_ne (fun z => no ⟨i, by rw [← z]; exact q (hn hp)⟩)]; exact e2), hn⟩
  nd := E.nd
  dj := E.dj
  dis := fun i a h => ⟨(E.dis i a h).1, by
    obtain ⟨w, e, q⟩ := (E.dis i a h).2
    exact ⟨w, by rw [upd_ne (fun z => no ⟨i, by rw [← z]; exact h⟩)]; exact e, q⟩⟩
  sub := fun a w e => ⟨(E.sub a w e).1, by rw [upd_ne (fun z => by rw [z, hg] at e; cases e)]; exact (E.sub a w e).2⟩
  bor := E.bor
  lck := fun a w e => by
    obtain ⟨h1, od, y, rfl⟩ := E.lck a w e
    exact ⟨by rw [upd_ne (fun z => by rw [z, hu] at h1; cases h1; exact fu _ _ rfl)]; exact h1, od, y, rfl⟩
  tab := E.tab.upd n (tb_some hu nu xu)
/-- the comprehension's turns -/
theorem compM_core {J : It} {ts us : List T} {ρn : Env} {tgf : T → Env → Option Env} {ttf : Env → ResM Bool} {elf : Env → ResM T} {own ws : List Nat} {g : TG} {Qe : Addr → Hp → Prop} (E : ER x β φ G2 H1 σ ρ) (hp : β.p = false) (it : ItR x J ts G2 (fun _ => none)) (hlen : ts.length ≤ 10000000)
    (hc : compLM tgf ttf elf own ts (wipeE ρ own) = .ok us ρn) (sg : TgSem x ws tgf g) (hw : ∀ i ∈ ws, i ∈ own) {D : Addr} (hD : H1 D = none)
    (fin : ∀ φ' G H acc, Stp (Ow (wφ own φ)) G2 H1 G H → ER x ⟨fun _ => none, β.l, β.p⟩ φ' G H (L2.wipe σ own) ρn → (∀ a, Ow φ' a → Ow (wφ own φ) a ∨ Vac H1 a) → H D = some (.lst acc) → G D = none → ¬ Ow φ' D → RepsS x G acc us → Qe D H) :
    ∃ Wi : Nat → Nat → Hp → Prop, (∃ m, Wi 0 m (upd H1 D (.lst []))) ∧ ∀ i m H, Wi i m H →
      (J.stop i H ∧ Qe D H) ∨ (J.go i H ∧ ∃ Nx : Hp → Prop, (∀ H', Nx H' → ∃ m', m' < m ∧ Wi (i + 1) m' H') ∧ ∀ y H', J.yld i H y H' → g y (L2.wipe σ own) H' fun σ2 H2 => L2.wipe σ2 own = L2.wipe σ own ∧ tMT x W0 ttf σ2 H2 fun b H3 =>
        if b = true then tM x W0 elf σ2 H3 fun y H4 => ∃ acc, H4 D = some (.lst acc) ∧ acc.length < sizeLine ∧ Nx (upd H4 D (.lst (acc ++ [y]))) else Nx H3) := by
  have Ew := ER.wipe' own E.forget
  have lst : ∀ (acc : List V), NT (.lst acc) ∧ (∀ φ, HO.lst acc ≠ .ext φ) ∧ ∀ od w, HO.lst acc ≠ .frz od w := fun acc => ⟨fun _ z => (by cases z), fun _ z => (by cases z), fun _ _ z => (by cases z)⟩
  have g2D : G2 D = none := by
    cases q : G2 D with
    | none => rfl
    | some u => rcases (E.sub D u q).2 with z | ⟨od, z, _⟩ <;> (rw [hD] at z; cases z)
  have nw : ¬ Ow (wφ own φ) D := fun ⟨i, z⟩ => (Ew.dis i D z).2.ne (.of hD)
  let In (i : Nat) (H : Hp) : Prop := ∃ φi G ρi acc done rest, Stp (Ow (wφ own φ)) G2 H1 G H ∧ ER x ⟨fun _ => none, β.l, β.p⟩ φi G H (L2.wipe σ own) ρi ∧ (∀ a, Ow φi a → Ow (wφ own φ) a ∨ Vac H1 a) ∧ H D = some (.lst acc) ∧ G D = none ∧ ¬ Ow φi D ∧ RepsS x G acc done ∧ done.length ≤ i ∧
    compLM tgf ttf elf own (ts.drop i) ρi = .ok rest ρn ∧ us = done ++ rest
  have lay : Stp No G2 H1 G2 (upd H1 D (.lst [])) := .laid E.sub hD
  refine ⟨fun i m H => i + m = ts.length ∧ In i H, ⟨ts.length, by omega, wφ own φ, G2, wipeE ρ own, [], [], us, lay.pure, Ew.step lay, fun a z => .inl z, upd_same, g2D, nw, .nil, Nat.le_refl _, by simpa using hc, rfl⟩, ?_⟩
  rintro i m H ⟨him, φi, G, ρi, acc, done, rest, st, Ei, oi, hHD, hGD, nD, rep, hdl, hcr, hus⟩
  obtain ⟨go, yl, sp⟩ := it G H i st.le (fun a o e => by cases e) st.sub
  by_cases hi : i < ts.length
  case neg =>
    have hi : ts.length ≤ i := by omega
    rw [List.drop_eq_nil_of_le hi] at hcr
    cases hcr
    refine .inl ⟨sp hi, fin φi G H acc st Ei oi hHD hGD nD ?_⟩
    rw [hus, List.append_nil]; exact rep
  case pos =>
  obtain ⟨t, ht⟩ : ∃ t, ts[i]? = some t := ⟨_, List.getElem?_eq_getElem hi⟩
  have hdrop : ts.drop i = t :: ts.drop (i + 1) := by
    rw [List.drop_eq_getElem_cons hi]
    rw [List.getElem?_eq_getElem hi] at ht
    cases ht; rfl
  rw [hdrop] at hcr
  refine .inr ⟨go hi, fun H' => (i + 1) + (m - 1) = ts.length ∧ In (i + 1) H', fun H' h' => ⟨m - 1, by omega, h'⟩, ?_⟩
  intro y H' hy
  obtain ⟨G', s', ry⟩ := yl t y H' ht hy
  have ownD : Ownd H D := ⟨_, hHD, (lst acc).1, fun _ z => (by cases z)⟩
  have hD' : H' D = some (.lst acc) := s'.ext.keep D _ hHD (lst acc).1 id
  have gD' : G' D = none := s'.notIn hGD ownD id
  unfold compLM at hcr
  cases e1 : tgf t ρi with
  | none => rw [e1] at hcr; cases hcr
  | some ρ1 =>
    rw [e1] at hcr
    simp only at hcr
    refine sg _ φi G' H' _ _ ρ1 y t _ (Ei.step s') (fun _ _ => rfl) ry e1 fun σ2 φ2 E2 o2 hn hl2 => ⟨wipe_eq hl2 (fun j hj => hn j fun z => hj (hw j z)), ?_⟩
    have ew : L2.wipe σ2 own = L2.wipe σ own := wipe_eq hl2 (fun j hj => hn j fun z => hj (hw j z))
    refine ⟨_, φ2, G', ρ1, E2, hp, ?_⟩
    have nD2 : ¬ Ow φ2 D := fun z => nD (o2 D z)
    cases e2 : ttf ρ1 with
    | exc c p ρ2 => rw [e2] at hcr; cases hcr
    | stuck => rw [e2] at hcr; cases hcr
    | ok b ρ2 =>
      rw [e2] at hcr
      intro φ3 G3 H3 s3 E3 o3
      have hD3 : H3 D = some (.lst acc) := s3.ext.keep D _ hD' (lst acc).1 nD2
      have own' : Ownd H' D := ⟨_, hD', (lst acc).1, fun _ z => (by cases z)⟩
      have gD3 : G3 D = none := s3.notIn gD' own' nD2
      have nD3 : ¬ Ow φ3 D := fun z => (o3 D z).elim nD2 own'.ne
      have st2 : Stp (Ow (wφ own φ)) G2 H1 G' H' := st.trans s'.pure
      have o2' : ∀ a, Ow φ2 a → Ow (wφ own φ) a ∨ Vac H1 a := fun a z => oi a (o2 a z)
      have st3 : Stp (Ow (wφ own φ)) G2 H1 G3 H3 := st2.comp s3 o2'
      have o3' : ∀ a, Ow φ3 a → Ow (wφ own φ) a ∨ Vac H1 a := fun a z => (o3 a z).elim (o2' a) fun z => .inr (st2.ext.back z)
      cases b with
      | false =>
        have E5 := E3.forget.wipe' own
        rw [ew] at E5
        exact iteF ⟨by omega, wφ own φ3, G3, wipeE ρ2 own, acc, done, rest, st3, E5, fun a z => o3' a (wφ_in z), hD3, gD3, fun z => nD3 (wφ_in z), (rep.le s'.le).le s3.le, by omega, hcr, hus⟩
      | true =>
        refine iteT ⟨_, φ3, G3, ρ2, E3, hp, ?_⟩
        simp only at hcr
        cases e3 : elf ρ2 with
        | exc c p ρ3 => rw [e3] at hcr; cases hcr
        | stuck => rw [e3] at hcr; cases hcr
        | ok u ρ3 =>
          rw [e3] at hcr
          simp only at hcr
          cases e4 : u.frz with
          | none => rw [e4] at hcr; cases hcr
          | some u' =>
            rw [e4] at hcr
            simp only at hcr
            intro φ4 G4 H4 s4 E4 o4 w fp rw' hnw nd fr
            have own3 : Ownd H3 D := ⟨_, hD3, (lst acc).1, fun _ z => (by cases z)⟩
            have hD4 : H4 D = some (.lst acc) := s4.ext.keep D _ hD3 (lst acc).1 nD3
            have gD4 : G4 D = none := s4.notIn gD3 own3 nD3
            have nD4 : ¬ Ow φ4 D := fun z => (o4 D z).elim nD3 own3.ne
            have nDf : D ∉ fp := fun z => by
              rcases (fr D z).1 with y | y
              · exact own3.ne y
              · exact nD3 y
            have gD5 : add G4 H4 fp D = none := by rw [add_out nDf]; exact gD4
            have E5 := (E4.shared fun a ha => ⟨rw'.there a ha, (fr a ha).2.1, (fr a ha).2.2⟩).forget.wipe' own
            rw [ew] at E5
            have o4' : ∀ a, Ow φ4 a → Ow (wφ own φ) a ∨ Vac H1 a := fun a z => (o4 a z).elim (o3' a) fun z => .inr (st3.ext.back z)
            have st4 : Stp (Ow (wφ own φ)) G2 H1 (add G4 H4 fp) H4 := st3.comp (s4.share rw'.there fun a ha => ⟨(fr a ha).1, (fr a ha).2.1⟩) o3'
            have nD5 : ¬ Ow (wφ own φ4) D := fun z => nD4 (wφ_in z)
            refine ⟨acc, hD4, ?_, ?_⟩
            · rw [rep.length]
              have : sizeLine = 16777216 := sizeLine_eq
              omega
            · cases e5 : compLM tgf ttf elf own (ts.drop (i + 1)) (wipeE ρ3 own) with
              | exc c p ρ4 => exact absurd e5 compLM_noexc
              | stuck => rw [e5] at hcr; cases hcr
              | ok rest' ρ4 =>
                rw [e5] at hcr
                cases hcr
                refine ⟨by omega, wφ own φ4, _, wipeE ρ3 own, acc ++ [w], done ++ [u'], rest', st4.mutP hD gD5 hD4 (lst acc).1 (lst acc).2.1 (lst _).1, E5.aside hp nD5 gD5 hD4 (lst acc).1 (lst acc).2.1 (lst acc).2.2 (lst _).1, fun a z => o4' a (wφ_in z), upd_same, gD5, nD5, ?_, by simp; omega, e5, by rw [hus]; simp⟩
                exact ((rep.le s'.le).le fun b o z => add_le (fun a ha => (fr a ha).2.1) b o (s4.le b o (s3.le b o z))).append (.cons (rw'.frz (fun a ha => (fr a ha).2.1) e4) .nil)
end
end Fn

/-! Fn34: comprehensions that write; statements over expressions that write. -/
namespace Fn
open PySem PySem.Spec L2
variable [Tbs]
section
variable {x : Tx} {β β' : Bo} {φ φ' φ1 φ2 : Nat → List Addr} {G G' G2 G3 G1 G0 H H' H0 H1 H2 H3 L : Hp} {W : XK} {X : Cx} {f : Fl} {fp : List Addr} {v : V} {σ σ' : L2.St} {ρ ρ' ρ1 ρ2 ρn : Env} {tg : Expr} {bs : Nat → Bool} {pos : Pos} {Po : Addr → Prop}
def tIM (x : Tx) (W : XK) (f : Env → ResM (List T)) : TI := fun σ H R => ∃ β φ G ρ, ER x β φ G H σ ρ ∧ β.p = false ∧ PstM x W β σ (Ow φ) G H (f ρ) (fun ts _ G1 H1 _ => ∀ J G2, Stp No G1 H1 G2 H1 → ItR x J ts G2 (fun _ => none) → R J H1)
structure SrcM (x : Tx) (X : Cx) (tg iter : Expr) (f : Env → ResM (List T)) : Prop where
  run : XOk x X → ∀ W : XK, Takes X (fun c d _ H => W c d H) → PI X tg iter (tIM x W f)
  fold : ∀ v, foldedSetIterable iter X.env v = pure v
def dUpL (f : Env → Res (List T)) : Env → ResM (List T) := fun ρ => (f ρ).up ρ
theorem srcM_up {iter : Expr} {f : Env → Res (List T)} (h : Src x X tg iter true f) : SrcM x X tg iter (dUpL f) := ⟨fun ok W tk => pi_imp (h.run ok W tk) fun σ H R ⟨β, φ, G, ρ, E, hp, q⟩ => ⟨β, φ, G, ρ, E, by
  unfold dUpL at q
  cases hf : f ρ with
  | ok ts =>
    rw [hf] at q
    intro G1 H1 s J G2 L s2 hL _ it
    have eL : L = fun _ => none := funext fun a => hL rfl a
    subst eL
    exact q φ G2 H1 s2.pure (E.step s2) (fun a z => .inl z) J G2 (.refl _ s2.sub) it
  | exc c p => rw [hf] at q; exact fun d G1 H1 s xr => q d φ G1 H1 s.pure (E.step s) (fun a z => .inl z) xr
  | stuck => rw [hf] at q; exact q⟩, h.fold⟩
def rngEnd (ts : List T) (ρ : Env) : ResM (List T) := match ts with
  | [.int n] => if -(2 ^ 62) ≤ n ∧ n < 2 ^ 62 then .ok (rngTs 0 n.toNat) ρ else .stuck
  | _ => .stuck
def dRngM (f : Env → ResM (List T)) : Env → ResM (List T) := fun ρ => (f ρ).bind rngEnd
theorem srcM_rng1 {a : Expr} {f : Env → ResM (List T)} {p : Pos} (hg : Gl X "range") (hm : X.mg "range" = none) (h : MAv x X [a] f) (hs : starEach [a] X.env = [(false, eval a X.env)] := by rfl) (hf : ∀ v, foldedSetIterable (.Call (.Name "range" p) [a] [] pos) X.env v = pure v := by intro _; rfl) :
    SrcM x X tg (.Call (.Name "range" p) [a] [] pos) (dRngM f) := ⟨fun ok W tk => pi_imp (pi_range1 hg hm (h.run ok W tk) hs) fun σ H R ⟨β, φ, G, ρ, E, hp, h⟩ => ⟨β, φ, G, ρ, E, hp, PstM.bind h fun ts ρ1 φ1 G1 H1 s1 E1 o1 h1 vs fp r _ _ => by
  obtain ⟨q, _⟩ := ArgR.reps (n := [a]) r
  unfold rngEnd at h1
  split at h1
  · rename_i n
    split at h1
    · rename_i hc
      obtain ⟨v, rfl, rv⟩ := q.one'
      cases rv.int
      exact ⟨_, rfl, hc.1, hc.2, h1 φ1 G1 H1 (.refl _ E1.sub) E1 (fun a z => .inl z) _ G1 (.refl _ E1.sub) itr_rng⟩
    · exact h1.elim
  · exact h1.elim⟩, hf⟩
theorem ER.unwipe {own : List Nat} (E1 : ER x β φ1 G1 H1 σ ρ1) (hp : β.p = false) (s2 : Stp No G1 H1 G2 H1) (st : Stp (Ow (wφ own φ1)) G2 H1 G' H') (E' : ER x ⟨fun _ => none, β.l, β.p⟩ φ' G' H' (L2.wipe σ own) ρn) (o : ∀ a, Ow φ' a → Ow (wφ own φ1) a ∨ Vac H1 a) :
    ER x β (fun i => if own.contains i = true then φ1 i else φ' i) G' H' σ (Fn.unwipe own ρ1 ρn) ∧ ∀ a, Ow (fun i => if own.contains i = true then φ1 i else φ' i) a → Ow φ1 a ∨ Vac H1 a := by
  have out : ∀ {i : Nat} {a : Addr}, own.contains i = true → a ∈ φ1 i → ¬ Ow (wφ own φ1) a := fun {i a} hi ha ⟨j, z⟩ => by
    unfold wφ at z
    split at z
    · cases z
    · rename_i hj
      have := E1.dj i j a ha z
      subst this; exact hj hi
  have out2 : ∀ {i : Nat} {a : Addr}, own.contains i = true → a ∈ φ1 i → ¬ Ow φ' a := fun {i a} hi ha z => (o a z).elim (out hi ha) (E1.dis i a ha).2.ne
  refine ⟨{ len := ?_, rep := fun i t e => ?_, nd := fun i => ?_, dj := fun i j a h1 h2 => ?_, dis := fun i a h => ?_, sub := E'.sub, bor := E1.bor, lck := E'.lck, tab := E'.tab }, fun a ⟨i, z⟩ => ?_⟩
  · unfold Fn.unwipe
    rw [List.length_mapIdx, E'.len, wipe_length]
  · unfold Fn.unwipe at e
    rw [List.getElem?_mapIdx] at e
    cases e0 : ρn[i]? with
    | none => rw [e0] at e; cases e
    | some w =>
      rw [e0] at e
      have e : some (if own.contains i = true then (ρ1[i]?).join else w) = some (some t) := e
      by_cases hi : own.contains i = true
      · rw [if_pos hi] at e
        have e1 : ρ1[i]? = some (some t) := by
          cases q : ρ1[i]? with
          | none => rw [q] at e; cases e
          | some y => rw [q] at e; cases y with
            | none => cases e
            | some y => cases e; rfl
        obtain ⟨v, e2, r, n⟩ := E1.rep i t e1
        refine ⟨v, e2, ?_, n⟩
        show Rep x G' H' v t (if own.contains i = true then φ1 i else φ' i)
        rw [if_pos hi]
        exact (r.step s2).frame st (n hp) fun a ha => out hi ha
      · rw [if_neg hi] at e
        cases e
        obtain ⟨v, e2, r, n⟩ := E'.rep i t e0
        refine ⟨v, ?_, ?_, n⟩
        · rw [wipe_at] at e2
          by_cases hc : i ∈ own ∧ i < σ.length
          · exact absurd (by simpa using hc.1) hi
          · rw [if_neg hc] at e2; exact e2
        · show Rep x G' H' v t (if own.contains i = true then φ1 i else φ' i)
          rw [if_neg hi]; exact r
  · show (if own.contains i = true then φ1 i else φ' i).Nodup
    split
    · exact E1.nd i
    · exact E'.nd i
  · have h1 : a ∈ (if own.contains i = true then φ1 i else φ' i) := h1
    have h2 : a ∈ (if own.contains j = true then φ1 j else φ' j) := h2
    by_cases hi : own.contains i = true
    · rw [if_pos hi] at h1
      by_cases hj : own.contains j = true
      · rw [if_pos hj] at h2; exact E1.dj i j a h1 h2
      · rw [if_neg hj] at h2; exact absurd ⟨j, h2⟩ (out2 hi h1)
    · rw [if_neg hi] at h1
      by_cases hj : own.contains j = true
      · rw [if_pos hj] at h2; exact absurd ⟨i, h1⟩ (out2 hj h2)
      · rw [if_neg hj] at h2; exact E'.dj i j a h1 h2
  · have h : a ∈ (if own.contains i = true then φ1 i else φ' i) := h
    by_cases hi : own.contains i = true
    · rw [if_pos hi] at h
      obtain ⟨g, w, e, n, q⟩ := E1.dis i a h
      have g2 := s2.notIn g ⟨w, e, n, q⟩ id
      exact ⟨st.notIn g2 ⟨w, e, n, q⟩ (out hi h), w, st.ext.keep a w e n (out hi h), n, q⟩
    · rw [if_neg hi] at h; exact E'.dis i a h
  · have z : a ∈ (if own.contains i = true then φ1 i else φ' i) := z
    split at z
    · exact .inl ⟨i, z⟩
    · exact (o a ⟨i, z⟩).imp wφ_in id
def compEnd (own : List Nat) (ρ1 : Env) (us : List T) (ρn : Env) : ResM T := .ok (.lst .ow us) (Fn.unwipe own ρ1 ρn)
def compGo (tg : T → Env → Option Env) (tt : Env → ResM Bool) (el : Env → ResM T) (own : List Nat) (ts : List T) (ρ1 : Env) : ResM T := if ts.length ≤ 10000000 then (compLM tg tt el own ts (wipeE ρ1 own)).bind (compEnd own ρ1) else .stuck
def dCompM (src : Env → ResM (List T)) (tg : T → Env → Option Env) (tt : Env → ResM Bool) (el : Env → ResM T) (own : List Nat) : Env → ResM T := fun ρ => (src ρ).bind (compGo tg tt el own)
structure PIfsM (x : Tx) (X : Cx) (ifs : List Expr) (f : Env → ResM Bool) : Prop where
  run : XOk x X → ∀ W : XK, Takes X (fun c d _ H => W c d H) → PTs X ifs (tMT x W f)
def dYesM : Env → ResM Bool := fun ρ => .ok true ρ
theorem pifsM_nil : PIfsM x X [] dYesM := ⟨fun ok W tk => ⟨fun pins s σ H Q I h => by
  obtain ⟨β, φ, G, ρ, E, hp, h⟩ := h
  exact pts_nil.run pins s σ H Q I (h φ G H (.refl _ E.sub) E fun a z => .inl z)⟩⟩
theorem pifsM_one {c : Expr} {f : Env → ResM Bool} (h : MTe x X c f) : PIfsM x X [c] f := ⟨fun ok W tk => pts_one (h.run ok W tk)⟩
theorem m_comp {iter elt : Expr} {ifs : List Expr} {scope : Scope} {src : Env → ResM (List T)} {tgf : T → Env → Option Env} {ttf : Env → ResM Bool} {elf : Env → ResM T} {own : List (Str × Nat)} {g : TG} {ws : List Nat}
    (hs : SrcM x X tg iter src) (okb : BlkOk X.N X.env.scope scope own)
    (hg : ∀ (s : Shared) (H : Hp) (C : Addr) (cl : List (Str × Addr)) (fp : List Addr), PGo x (X.blk s H scope (compEnvC scope cl C X.env) fp) tg g) (sg : TgSem x ws tgf g) (hw : ∀ i ∈ ws, i ∈ own.map (·.2))
    (ht : ∀ (s : Shared) (H : Hp) (C : Addr) (cl : List (Str × Addr)) (fp : List Addr), PIfsM x (X.blk s H scope (compEnvC scope cl C X.env) fp) ifs ttf)
    (he : ∀ (s : Shared) (H : Hp) (C : Addr) (cl : List (Str × Addr)) (fp : List Addr), M x (X.blk s H scope (compEnvC scope cl C X.env) fp) elt elf) :
    M x X (.ListComp elt [⟨tg, iter, ifs, 0⟩] scope pos) (dCompM src tgf ttf elf (own.map (·.2))) := ⟨fun ok W tk => pe_imp (pe_lc ok.calm ok.nd (hs.run ok W tk) okb (fun s H C cl fp => (hg s H C cl fp).run (ok.blk s H scope _ fp)) (fun s H C cl fp => (ht s H C cl fp).run (ok.blk s H scope _ fp) W0 takes0) (fun s H C cl fp => (he s H C cl fp).run (ok.blk s H scope _ fp) W0 takes0) hs.fold) fun σ H Q ⟨β, φ, G, ρ, E, hp, h⟩ => ⟨β, φ, G, ρ, E, hp,
  PstM.bind h fun ts ρ1 φ1 G1 H1 s1 E1 o1 h1 J G2 s2 it D hD => by
    unfold compGo at h1
    split at h1
    · rename_i hlen
      cases hc : compLM tgf ttf elf (own.map (·.2)) ts (wipeE ρ1 (own.map (·.2))) with
      | exc c p ρ' => exact absurd hc compLM_noexc
      | stuck => rw [hc] at h1; exact h1.elim
      | ok us ρn =>
        rw [hc] at h1
        refine compM_core (Qe := fun D H => Q (.ref D) H) (E1.step s2) hp it hlen hc sg hw hD fun φ' G' H' acc st E' o' hH hG nD r => ?_
        obtain ⟨U, uo⟩ := E1.unwipe hp s2 st E' o'
        refine h1 _ G' H' (s2.pure.trans (st.mono fun a z => wφ_in z)) U uo (.ref D) [D] (.lst .ow ⟨by simp, by simp⟩ hH r) rfl (by simp) fun a ha => ?_
        cases List.mem_singleton.mp ha
        refine ⟨.inl (s1.ext.back (.of hD)), hG, fun ⟨i, z⟩ => ?_⟩
        have z : D ∈ (if (own.map (·.2)).contains i = true then φ1 i else φ' i) := z
        split at z
        · exact (E1.dis i D z).2.ne (.of hD)
        · exact nD ⟨i, z⟩
    · exact h1.elim⟩⟩
/-! ### statements -/
def dIfSM (c : Env → ResM Bool) (f g : Env → ResS) : Env → ResS := fun ρ => (c ρ).bind fun b ρ' => if b = true then f ρ' else g ρ'
theorem PstS.ofT {r : ResM Bool} {g : Bool → Env → ResS} {D : Ends} {Q : Bool → Hp → Prop} (h : PstS x W β Po G H (r.bind g) D) (k : ∀ b ρ1 φ1 G1 H1, Stp Po G H G1 H1 → ER x β φ1 G1 H1 σ ρ1 → (∀ a, Ow φ1 a → Po a ∨ Vac H a) → PstS x W β (Ow φ1) G1 H1 (g b ρ1) D → Q b H1) : PstM x W β σ Po G H r (fun b _ _ H' _ => Q b H') := by
  cases r with
  | ok b ρ1 => exact fun φ1 G1 H1 s1 E1 o1 => k b ρ1 φ1 G1 H1 s1 E1 o1 (PstS.later h s1 o1)
  | exc c p ρ1 => exact fun d φ1 G1 H1 s1 E1 o1 xr => h d σ φ1 G1 H1 s1 E1 o1 xr
  | stuck => exact h
theorem s_ifM {c : Expr} {body orelse : List Stmt} {fc : Env → ResM Bool} {f g : Env → ResS} (hc : MTe x X c fc) (h : Ss x bs X body f) (q : Ss x bs X orelse g) : S x bs X (.If c body orelse pos) (dIfSM fc f g) := ⟨fun ok W tk pO => ps_imp (ps_if (hc.run ok W tk) (h.run ok W tk pO) (q.run ok W tk pO)) fun D σ H ⟨β, φ, G, ρ, E, hb, h⟩ =>
  ⟨β, φ, G, ρ, E, hb.p, PstS.ofT h fun b ρ1 φ1 G1 H1 s1 E1 o1 h1 => by
    cases b with
    | true => exact ⟨β, φ1, G1, ρ1, E1, hb, h1⟩
    | false => exact ⟨β, φ1, G1, ρ1, E1, hb, h1⟩⟩⟩
/-- a name for what is never written: shared at once -/
def asgFEnd (i : Nat) (t : T) (ρ : Env) : ResS := match t.frz with
  | some t' => .ok .next (ρ.set i (some t'))
  | none => .stuck
def dAsgF (i : Nat) (f : Env → Res T) : Env → ResS := fun ρ => (f ρ).st ρ fun t => asgFEnd i t ρ
def dAsgFM (i : Nat) (f : Env → ResM T) : Env → ResS := fun ρ => (f ρ).bind (asgFEnd i)
theorem s_asgF {i : Nat} {n : Str} {e : Expr} {f : Env → Res T} {p : Pos} (h : P x X e f) (hbs : bs i = false) (hi : X.N[i]? = some n) (hx : Loc X.env.scope n) (hf : X.fn n = true ∨ X.env.scope.names.lookup n = some .local)
    (hs : swapsWith e (some (.Name n p)) pos.line X.env = pure false := by rfl) : S x bs X (.Assign [.Name n p] e pos) (dAsgF i f) := ⟨fun ok W tk pO => ps_imp (ps_asg (h.run ok W tk) (pg_name ok.nd hi hx hf) hs) fun D σ H ⟨β, φ, G, ρ, E, hb, h⟩ =>
  ⟨β, φ, G, ρ, E, PstS.bindP E h fun t G1 H1 s h1 v fp r nd fr => by
    unfold asgFEnd at h1
    cases e0 : t.frz with
    | none => rw [e0] at h1; exact h1.elim
    | some t' =>
      rw [e0] at h1
      obtain ⟨G2, s2, rv⟩ := Stp.share1 s r (fun a ha => ⟨.inl (fr a ha).1, (fr a ha).2⟩) e0
      exact h1 _ (fput φ i []) G2 H1 s2.pure ((E.step s2).set (.s rv) rv.np .nil (fun a z => by cases z) (hb.b i hbs)) fun a z => (ow_put z).elim (fun z => by cases z) fun ⟨j, _, z⟩ => .inl ⟨j, z⟩⟩⟩
theorem s_asgFM {i : Nat} {n : Str} {e : Expr} {f : Env → ResM T} {p : Pos} (h : M x X e f) (hbs : bs i = false) (hi : X.N[i]? = some n) (hx : Loc X.env.scope n) (hf : X.fn n = true ∨ X.env.scope.names.lookup n = some .local)
    (hs : swapsWith e (some (.Name n p)) pos.line X.env = pure false := by rfl) : S x bs X (.Assign [.Name n p] e pos) (dAsgFM i f) := ⟨fun ok W tk pO => ps_imp (ps_asg (h.run ok W tk) (pg_name ok.nd hi hx hf) hs) fun D σ H ⟨β, φ, G, ρ, E, hb, h⟩ =>
  ⟨β, φ, G, ρ, E, hb.p, PstS.ofM (g := asgFEnd i) h fun t ρ1 φ1 G1 H1 s1 E1 o1 h1 v fp r hn nd fr => by
    unfold asgFEnd at h1
    cases e0 : t.frz with
    | none => rw [e0] at h1; exact h1.elim
    | some t' =>
      rw [e0] at h1
      have E2 := E1.shared fun a ha => ⟨r.there a ha, (fr a ha).2.1, (fr a ha).2.2⟩
      have rv := r.frz (fun a ha => (fr a ha).2.1) e0
      exact h1 _ (fput φ1 i []) _ H1 (s1.share r.there fun a ha => ⟨(fr a ha).1, (fr a ha).2.1⟩) (E2.set (.s rv) rv.np .nil (fun a z => by cases z) (hb.b i hbs)) fun a z => (ow_put z).elim (fun z => by cases z) fun ⟨j, _, z⟩ => o1 a ⟨j, z⟩⟩⟩
/-- slot i is shared from now on -/
def shE (i : Nat) (ρ : Env) : Env := match ρ[i]? with
  | some (some t) => match t.frz with
    | some t' => ρ.set i (some t')
    | none => ρ
  | _ => ρ
theorem ER.share (E : ER x β φ G H σ ρ) (hp : β.p = false) (i : Nat) : ∃ φ' G', Stp (Ow φ) G H G' H ∧ ER x β φ' G' H σ (shE i ρ) ∧ ∀ a, Ow φ' a → Ow φ a := by
  unfold shE
  cases e : ρ[i]? with
  | none => exact ⟨φ, G, .refl _ E.sub, E, fun a z => z⟩
  | some o =>
    cases o with
    | none => exact ⟨φ, G, .refl _ E.sub, E, fun a z => z⟩
    | some t =>
      cases e0 : t.frz with
      | none => simp only [e0]; exact ⟨φ, G, .refl _ E.sub, E, fun a z => z⟩
      | some t' =>
        simp only [e0]
        obtain ⟨v, e1, r, n⟩ := E.rep i t e
        have hd : ∀ a ∈ φ i, G a = none := fun a ha => (E.dis i a ha).1
        have rv := r.frz hd e0
        have D := E.drop i
        have Ds := D.shared (fp := φ i) fun a ha => ⟨r.there a ha, hd a ha, fun z => by
          rcases ow_put z with y | ⟨j, hj, y⟩
          · cases y
          · exact hj (E.dj j i a y ha)⟩
        have hl : i < ρ.length := (List.getElem?_eq_some_iff.mp e).1
        have sub : ∀ a, Ow (fput φ i []) a → Ow φ a := fun a z => (ow_put z).elim (fun z => by cases z) fun ⟨j, _, z⟩ => ⟨j, z⟩
        refine ⟨fput φ i [], add G H (φ i), .frz E.sub r hd fun a ha => ⟨i, ha⟩, ?_, sub⟩
        exact {
          len := by rw [List.length_set]; exact E.len
          rep := fun j u ej => by
            by_cases z : j = i
            · subst z
              rw [List.getElem?_set_self hl] at ej
              cases ej
              refine ⟨v, e1, ?_, fun _ => rv.np⟩
              unfold fput; rw [if_pos rfl]; exact .s rv
            · rw [List.getElem?_set_ne (Ne.symm z)] at ej
              exact Ds.rep j u (by rw [List.getElem?_set_ne (Ne.symm z)]; exact ej)
          nd := Ds.nd
          dj := Ds.dj
          dis := Ds.dis
          sub := Ds.sub
          bor := E.bor
          lck := E.lck
          tab := E.tab }
def dSh (i : Nat) (f : Env → ResS) : Env → ResS := fun ρ => f (shE i ρ)
theorem s_sh (i : Nat) {st : Stmt} {f : Env → ResS} (h : S x bs X st f) : S x bs X st (dSh i f) := ⟨fun ok W tk pO => ps_imp (h.run ok W tk pO) fun D σ H ⟨β, φ, G, ρ, E, hb, q⟩ => by
  obtain ⟨φ', G', s, E', o⟩ := E.share hb.p i
  exact ⟨β, φ', G', _, E', hb, PstS.later q s fun a z => .inl (o a z)⟩⟩
end
end Fn

/-! Fn35: isinstance, chained comparisons, a module's names. -/
namespace Fn
open PySem PySem.Spec L2
variable [Tbs]
section
variable {x : Tx} {β β' : Bo} {φ φ' φ1 φ2 : Nat → List Addr} {G G' G2 G3 G1 G0 H H' H0 H1 H2 H3 L : Hp} {W : XK} {X : Cx} {f : Fl} {fp : List Addr} {v : V} {σ σ' : L2.St} {ρ ρ' ρ1 ρ2 ρn : Env} {tg : Expr} {bs : Nat → Bool} {pos : Pos} {Po : Addr → Prop}
/-! ### a module's names -/
theorem p_glob {n : Str} {u : Value} {w : V} {t : T} (hm : X.mg n = some u) (r : RelV w u) (hr : ∀ G, RepS x G w t) (hg : Gl X n := by rfl) (hd : (n == ("__debug__" : Str)) = false := by decide) : P x X (.Name n pos) (dC t) := p_const (pe_glob hg hm r hd) hr
theorem p_gint {n : Str} {i : Int} (hm : ∃ k, X.mg n = some (.int i k)) (hg : Gl X n := by rfl) (hd : (n == ("__debug__" : Str)) = false := by decide) : P x X (.Name n pos) (dC (.int i)) := by
  obtain ⟨k, hm⟩ := hm
  exact p_glob (w := .int i) hm ⟨k, rfl⟩ (fun _ => .int i) hg hd
theorem p_gstr {n : Str} {s : Str} (hm : ∃ k, X.mg n = some (.str s k)) (hg : Gl X n := by rfl) (hd : (n == ("__debug__" : Str)) = false := by decide) : P x X (.Name n pos) (dC (.str s)) := by
  obtain ⟨k, hm⟩ := hm
  exact p_glob (w := .str s) hm ⟨k, rfl⟩ (fun _ => .str s) hg hd
theorem p_gfn {n : Str} (k : Nat) (hm : X.mg n = some (.ref (x.fa k))) (hg : Gl X n := by rfl) (hd : (n == ("__debug__" : Str)) = false := by decide) : P x X (.Name n pos) (dC (.fn k)) := p_glob (w := .ref (x.fa k)) hm rfl (fun _ => .fn k) hg hd
/-! ### isinstance -/
theorem pe_bty {n : Str} {ty : String} (hg : Gl X n) (hm : X.mg n = none) (hv : bootBuiltins n = some (.type ty)) (hn : n ≠ "__name__" := by decide) (hd : (n == ("__debug__" : Str)) = false := by decide) : PE X (.Name n pos) (tC (.ty ty)) :=
  ⟨fun pins s σ H Q I h => ld_blt I hg hm hv ⟨.ty ty, H, I, rfl, h⟩ hn hd⟩
def T.tyn : T → Option String
  | .non => some "NoneType"
  | .bl _ => some "bool"
  | .int _ => some "int"
  | .str _ => some "str"
  | .tup _ => some "tuple"
  | .ktup _ => some "tuple"
  | .lst _ _ => some "list"
  | .dct f .k _ => some "dict"
  | .dct .ow .t _ => some "dict"
  | _ => none
def subT (a b : String) : Bool := a == b || (a == "bool" && b == "int")
def tyNames : List String := ["NoneType", "bool", "int", "str", "tuple", "list", "dict"]
theorem kit_all : ∀ a ∈ tyNames, ∀ b ∈ tyNames, kitB a b = some (subT a b) := by decide +kernel
theorem T.tyn_in {t : T} {a : String} (h : t.tyn = some a) : a ∈ tyNames := by
  unfold T.tyn at h
  split at h <;> (cases h; try simp [tyNames])
theorem Rep.tyx {t : T} {a : String} (s : Sub G H) (h : Rep x G H v t fp) (e : t.tyn = some a) : TyX x.K H v (.type a) := by
  cases t with
  | non => cases h.non; cases e; exact .base .non
  | bl b => cases h.bl; cases e; exact .base (.bl b)
  | int b => cases h.int; cases e; exact .base (.int b)
  | str b => cases h.str; cases e; exact .base (.str b)
  | tup ts => obtain ⟨p, vs, rfl, hp, _⟩ := h.tup_inv s; cases e; exact .base (.tup hp)
  | ktup ts =>
    obtain ⟨p, vs, rfl, hp, _⟩ := h.ktup_inv
    cases e
    rcases hp with (hp | ⟨od, hp⟩) | ⟨o, its, n, e1, e2, _⟩
    · exact .base (.tup hp)
    · exact .fTuple hp
    · exact .kTuple e1 e2
  | lst f ts => obtain ⟨p, vs, rfl, hp, _⟩ := h.lst_inv s; cases e; exact .base (.lst hp)
  | dct f k kvs =>
    cases k with
    | k =>
      cases e
      obtain ⟨p, ws, ts, rfl, rd, _, _⟩ := h.dctK_inv s
      rcases rd with hp | ⟨od, hp⟩
      · exact .base (.dK hp)
      · exact .fDict hp
    | t =>
      cases f with
      | ow =>
        cases e
        cases h with
        | s h => cases h
        | dctT f h r => exact .base (.dT h)
      | _ => cases e
  | _ => cases e
def isiEnd (tys : List String) (t : T) : Res T := match t.tyn with
  | some a => .ok (.bl (tys.any fun b => subT a b))
  | none => .stuck
def dIsi (tys : List String) (f : Env → Res T) : Env → Res T := fun ρ => (f ρ).bind (isiEnd tys)
theorem kitAny_all {K : PySem.W.Frag} {a : String} (ha : a ∈ tyNames) : ∀ {bs : List String}, (∀ b ∈ bs, b ∈ tyNames) → PySem.W.kitAny K (.type a) (bs.map Value.type) = some (bs.any fun b => subT a b)
  | [], _ => rfl
  | b :: bs, h => by
    rw [List.any_cons]
    refine kitAny_cons (kit_ty (kit_all a ha b (h b List.mem_cons_self))) (fun e => ?_) fun e => by rw [e]; rfl
    rw [e, Bool.false_or]
    exact kitAny_all ha fun c hc => h c (List.mem_cons_of_mem _ hc)
/-- isinstance(e, T), T a built-in type's name -/
theorem p_isi1 {e : Expr} {f : Env → Res T} {n : Str} {ty : String} {p p2 : Pos} (h : P x X e f) (hin : ty ∈ tyNames) (hv : bootBuiltins n = some (.type ty)) (hm0 : X.mg "isinstance" = none) (hm : X.mg n = none) (hg0 : Gl X "isinstance" := by rfl) (hg : Gl X n := by rfl) (hn : n ≠ "__name__" := by decide) (hd : (n == ("__debug__" : Str)) = false := by decide)
    (h1 : starEach [e, .Name n p2] X.env = (false, eval e X.env) :: starEach [.Name n p2] X.env := by rfl) (h2 : starEach [.Name n p2] X.env = (false, eval (.Name n p2) X.env) :: starEach [] X.env := by rfl) (hpl : (backTo pos (starEach [.Name n p2] X.env)).any (·.1) = false := by rfl) :
    P x X (.Call (.Name "isinstance" p) [e, .Name n p2] [] pos) (dIsi [ty] f) := ⟨fun ok W tk => pe_imp (pe_callB call_isi hg0 hm0 PyProof.Rows.Boot.«isinstance» (pa_cons (h.run ok W tk) (pa_cons (pe_bty hg hm hv hn hd) pa_nil h2) h1) (by decide) (by decide) h1 hpl) fun σ H Q ⟨β, φ, G, ρ, E, q⟩ => ⟨β, φ, G, ρ, E, Pst.bind q fun t G1 H1 s1 h1 v fp r nd fr => by
  unfold isiEnd at h1
  split at h1
  · rename_i a ea
    refine ⟨v, .ty ty, .type a, .type ty, subT a ty, rfl, .ty ty, by rw [ok.K]; exact r.tyx s1.sub ea, kit_ty (kit_all a (T.tyn_in ea) ty hin), ?_⟩
    have h1 : Pst x W G H (.ok (.bl (subT a ty || false))) (Made x H Q) := h1
    rw [Bool.or_false] at h1
    exact (h1.later s1).scal s1.sub (.bl _)
  · exact h1.elim⟩⟩
/-- isinstance(e, (T, U)) -/
theorem p_isi2 {e : Expr} {f : Env → Res T} {n m : Str} {ty tz : String} {k : Nat} {p p1 p2 p3 : Pos} (h : P x X e f) (hin : ty ∈ tyNames) (hin2 : tz ∈ tyNames) (hv : bootBuiltins n = some (.type ty)) (hw : bootBuiltins m = some (.type tz)) (hm0 : X.mg "isinstance" = none) (hm : X.mg n = none) (hm2 : X.mg m = none) (hg0 : Gl X "isinstance" := by rfl) (hg : Gl X n := by rfl) (hg2 : Gl X m := by rfl)
    (hn : n ≠ "__name__" := by decide) (hd : (n == ("__debug__" : Str)) = false := by decide) (hn2 : m ≠ "__name__" := by decide) (hd2 : (m == ("__debug__" : Str)) = false := by decide)
    (h1 : starEach [e, .Tuple [.Name n p2, .Name m p3] k p1] X.env = (false, eval e X.env) :: starEach [.Tuple [.Name n p2, .Name m p3] k p1] X.env := by rfl) (h2 : starEach [.Tuple [.Name n p2, .Name m p3] k p1] X.env = (false, eval (.Tuple [.Name n p2, .Name m p3] k p1) X.env) :: starEach [] X.env := by rfl) (hpl : (backTo pos (starEach [.Tuple [.Name n p2, .Name m p3] k p1] X.env)).any (·.1) = false := by rfl)
    (h3 : starEach [.Name n p2, .Name m p3] X.env = (false, eval (.Name n p2) X.env) :: starEach [.Name m p3] X.env := by rfl) (h4 : starEach [.Name m p3] X.env = (false, eval (.Name m p3) X.env) :: starEach [] X.env := by rfl) :
    P x X (.Call (.Name "isinstance" p) [e, .Tuple [.Name n p2, .Name m p3] k p1] [] pos) (dIsi [ty, tz] f) := ⟨fun ok W tk => pe_imp (pe_callB call_isiT hg0 hm0 PyProof.Rows.Boot.«isinstance» (pa_cons (h.run ok W tk) (pa_cons (pe_tup (pa_cons (pe_bty hg hm hv hn hd) (pa_cons (pe_bty hg2 hm2 hw hn2 hd2) pa_nil h4) h3)) pa_nil h2) h1) (by decide) (by decide) h1 hpl) fun σ H Q ⟨β, φ, G, ρ, E, q⟩ => ⟨β, φ, G, ρ, E, Pst.bind q fun t G1 H1 s1 h1 v fp r nd fr => by
  unfold isiEnd at h1
  split at h1
  · rename_i a ea
    refine ⟨by show 2 ≤ sizeLine; decide, fun tp htp => ?_⟩
    have st : Stp No G1 H1 (upd G1 tp (.tup [.ty ty, .ty tz])) (upd H1 tp (.tup [.ty ty, .ty tz])) := .laidS s1.sub htp (fun _ z => by cases z)
    refine ⟨v, tp, [.ty ty, .ty tz], .type a, [.type ty, .type tz], [ty, tz].any fun b => subT a b, rfl, upd_same, .cons (.ty ty) (.cons (.ty tz) .nil), by rw [ok.K]; exact (r.step st).tyx st.sub ea, ?_, (h1.later (s1.trans st)).scal st.sub (.bl _)⟩
    exact kitAny_all (bs := [ty, tz]) (T.tyn_in ea) fun b hb => by
      rcases List.mem_cons.mp hb with z | z
      · rw [z]; exact hin
      · rw [List.mem_singleton.mp z]; exact hin2
  · exact h1.elim⟩⟩
/-! ### a < b < c -/
def chainGo (g' : T → T → Res T) (fc : Env → Res T) (ρ : Env) (t r : T) : Res T := match r with
  | .bl true => (fc ρ).bind fun u => g' t u
  | .bl false => .ok (.bl false)
  | _ => .stuck
def dChain (g g' : T → T → Res T) (fa fb fc : Env → Res T) : Env → Res T := fun ρ => (fa ρ).bind fun s => (fb ρ).bind fun t => (g s t).bind (chainGo g' fc ρ t)
theorem chain_core {fo fo' : Value → Value → Sem Value} {g g' : T → T → Res T} {fa fb fc : Env → Res T} {Q : VK} (hs : OpSem x X fo g) (hs' : OpSem x X fo' g') (ok : XOk x X) (tk : Takes X (fun c d _ H => W c d H)) (h : tP x W (dChain g g' fa fb fc) σ H Q) :
    tChain (rTop X fo) (rTop X fo') (tP x W fa) (tP x W fb) (tP x W fc) σ H Q := by
  obtain ⟨β, φ, G, ρ, E, h⟩ := h
  refine ⟨β, φ, G, ρ, E, Pst.bind h fun s G1 H1 s1 h1 v1 f1 r1 n1 d1 => ⟨β, φ, G1, ρ, E.step s1, Pst.bind (h1.later s1) fun t G2 H2 s2 h2 v2 f2 r2 n2 d2 => ?_⟩⟩
  refine hs ok W tk G2 H2 H2 v1 v2 s t f1 f2 _ s2.sub (r1.step s2) r2 (fun a z => z) (Pst.bind (h2.later s2) fun r G3 H3 s3 h3 v fp rv nd fr => ?_)
  have E3 := ((E.step s1).step s2).step s3
  unfold chainGo at h3
  split at h3
  · cases rv.bl
    refine ⟨true, rfl, ?_⟩
    rw [if_pos rfl]
    refine ⟨β, φ, G3, ρ, E3, Pst.bind (h3.later s3) fun u G4 H4 s4 h4 v3 f3 r3 n3 d3 => ?_⟩
    exact hs' ok W tk G4 H4 H v2 v3 t u f2 f3 Q s4.sub ((r2.step s3).step s4) r3 (fun a z => s1.ext.back (s2.ext.back (s3.ext.back (s4.ext.back z)))) (h4.later s4)
  · cases rv.bl
    refine ⟨false, rfl, ?_⟩
    rw [if_neg (by decide)]
    exact (h3.later s3).scal s3.sub (.bl _)
  · exact h3.elim
theorem p_chain {a b c : Expr} {fa fb fc : Env → Res T} {op op' : CmpOp} {g g' : T → T → Res T} (hs : OpSem x X (compareOp op) g) (hs' : OpSem x X (compareOp op') g') (ha : P x X a fa) (hb : P x X b fb) (hc : P x X c fc) (hm : lastMarks [op, op'] [b, c] = false := by with_unfolding_all rfl) :
    P x X (.Compare a [op, op'] [b, c] pos) (dChain g g' fa fb fc) := ⟨fun ok W tk => pe_imp (pe_chain (op_top _) (op_top _) (ha.run ok W tk) (hb.run ok W tk) (hc.run ok W tk) hm) fun σ H Q h => chain_core hs hs' ok tk h⟩
def T.isBl (t : T) : Res Bool := match t with
  | .bl b => .ok b
  | _ => .stuck
def dTestB (f : Env → Res T) : Env → Res Bool := fun ρ => (f ρ).bind T.isBl
theorem pt_chn {a b c : Expr} {fa fb fc : Env → Res T} {op op' : CmpOp} {g g' : T → T → Res T} (hs : OpSem x X (compareOp op) g) (hs' : OpSem x X (compareOp op') g') (ha : P x X a fa) (hb : P x X b fb) (hc : P x X c fc) (hm : lastMarks [op, op'] [b, c] = false := by with_unfolding_all rfl) :
    PTe x X (.Compare a [op, op'] [b, c] pos) (dTestB (dChain g g' fa fb fc)) := ⟨fun ok W tk => pt_imp (pt_chain (op_top _) (op_top _) (ha.run ok W tk) (hb.run ok W tk) (hc.run ok W tk) hm) fun σ H Q ⟨β, φ, G, ρ, E, h⟩ =>
  chain_core hs hs' ok tk ⟨β, φ, G, ρ, E, Pst.bind h fun t G1 H1 s1 h1 v fp r nd fr => by
    cases t with
    | bl b => cases r.bl; exact ⟨b, rfl, h1 G1 H1 s1⟩
    | _ => exact h1.elim⟩⟩
end
end Fn

/-! Fn36: calls of defs that a name holds. -/
namespace Fn
open PySem PySem.Spec L2
variable [Tbs]
section
variable {x : Tx} {β β' : Bo} {φ φ' φ1 φ2 : Nat → List Addr} {G G' G2 G3 G1 G0 H H' H0 H1 H2 H3 L : Hp} {W : XK} {X : Cx} {f : Fl} {fp : List Addr} {v : V} {σ σ' : L2.St} {ρ ρ' ρ1 ρ2 ρn : Env} {tg : Expr} {bs : Nat → Bool} {pos : Pos} {Po : Addr → Prop}
/-- one of the defs that may be called so -/
structure Cand (x : Tx) (X : Cx) (k n : Nat) (c : Nat × (List T → Res T)) : Prop where
  ok : FnR X.prog X.w X.K X.mg X.base (L2.CX X.prog X.w) k (x.fa c.1) (spP x n c.2)
  keep : PySem.W.keepIn X.K (.ref (x.fa c.1)) = true
theorem Cand.of {k n j : Nat} {fd : FuncData} {ps : List Str} {F : List T → Res T} (Fo : FnOk X.prog X.w X.K X.mg X.base (L2.CX X.prog X.w) k (x.fa j) fd ps (spP x n F)) (hb : Binds X.K fd ps []) (hk : PySem.W.keepIn X.K (.ref (x.fa j)) = true) : Cand x X k n (j, F) :=
  ⟨(Fo.raw hb .nil).imp fun vs H Q E h => by rw [List.append_nil]; exact h, hk⟩
def pick (cs : List (Nat × (List T → Res T))) (n : Nat) : List T → Res T := match cs.find? fun c => c.1 == n with
  | some c => c.2
  | none => fun _ => .stuck
def dCallV (i : Nat) (cs : List (Nat × (List T → Res T))) (fa : Env → ResM (List T)) : Env → ResM T := fun ρ => match ρ[i]? with
  | some (some (.fn n)) => if (cs.any fun c => c.1 == n) = true then dM1 (gS (pick cs n)) fa ρ else .stuck
  | _ => .stuck
theorem m_callV (i : Nat) {k n : Nat} {cs : List (Nat × (List T → Res T))} {fa : Env → ResM (List T)} {nm : Str} {p : Pos} {e : Expr} {es : List Expr} (hc : ∀ c ∈ cs, Cand x X k n c) (hl : (e :: es).length = n) (hr : Room k X.A) (ha : MAv x X (e :: es) fa)
    (hN : X.N[i]? = some nm := by rfl) (hv : Vis X.env.scope nm := by first | exact Or.inl rfl | exact Or.inr (Or.inl rfl) | exact Or.inr (Or.inr rfl)) (hd : (nm == ("__debug__" : Str)) = false := by decide) (hcd : (nm == ("__classdict__" : Str)) = false := by decide)
    (he : starEach (e :: es) X.env = (false, eval e X.env) :: starEach es X.env := by rfl) (hpl : (backTo pos (starEach es X.env)).any (·.1) = false := by rfl) : M x X (.Call (.Name nm p) (e :: es) [] pos) (dCallV i cs fa) := ⟨fun ok W tk => by
  have all : PE X (.Call (.Name nm p) (e :: es) [] pos) (fun σ H Q => ∃ c ∈ cs, ItX.tCallV i (x.fa c.1) (spP x n c.2) W (tMA x W ((e :: es).map fun _ => none) fa) σ H Q) := ⟨fun pins s σ H Q I ⟨c, hm, q⟩ =>
    (ItX.pe_callV (hc c hm).ok hr (hc c hm).keep (passes_call tk fun _ _ _ _ h => h) hN hv (ha.run ok W tk) hd hcd he hpl).run pins s σ H Q I q⟩
  refine pe_imp all fun σ H Q ⟨β, φ, G, ρ, E, hp, h⟩ => ?_
  unfold dCallV at h
  split at h
  · rename_i j e0
    obtain ⟨v, e1, r, _⟩ := E.rep i _ e0
    by_cases hany : (cs.any fun c => c.1 == j) = true
    case neg => rw [if_neg hany] at h; exact h.elim
    rw [if_pos hany] at h
    unfold pick at h
    cases ef : cs.find? fun c => c.1 == j with
    | none =>
      rw [List.find?_eq_none] at ef
      obtain ⟨c, hc, e⟩ := List.any_eq_true.mp hany
      exact absurd e (ef c hc)
    | some c =>
      rw [ef] at h
      have hm := List.mem_of_find?_eq_some ef
      have ej : c.1 = j := by simpa using List.find?_some ef
      refine ⟨c, hm, ?_, β, φ, G, ρ, E, hp, ?_⟩
      · rw [e1, ej]
        generalize φ i = fi at r
        cases r with | s r => cases r; rfl
      · refine PstM.bind0 (g := fun ts ρ' => upM (gS c.2 ts) ρ') h fun ts ρ2 φ2 G2 H2 s2 E2 o2 h2 vs fp r nd fr => ?_
        obtain ⟨q, hn⟩ := r.reps
        unfold gS at h2
        cases e : frzs ts with
        | none => rw [e] at h2; exact h2.elim
        | some ts' =>
          rw [e] at h2
          have E3 := E2.shared fun a ha => ⟨q.there a ha, (fr a ha).2.1, (fr a ha).2.2⟩
          have h3 : PstM x W β σ (Ow φ2) (add G2 H2 fp) H2 (upM (c.2 ts') ρ2) (MadeM x (Ow φ) H Q) := PstM.later h2 (s2.share q.there fun a ha => ⟨(fr a ha).1, (fr a ha).2.1⟩) o2
          exact ⟨by rw [r.length.1, List.length_map, hl], _, ts', E3.sub, E3.tab, q.frzs (fun a ha => (fr a ha).2.1) e, PstM.toP0 h3 E3 fun a z => s2.ext.back z⟩
  · exact h.elim⟩
end
end Fn

/-! Fn37: a def and all that its callers need. -/
namespace Fn
open PySem PySem.Spec L2
variable [Tbs]
section
variable {x : Tx} {X : Cx} {bs : Nat → Bool} {pos : Pos}
/-- a def without fuel promises nothing -/
theorem def_stuck {Pr : Program} {w : World} {mg : Str → Option Value} {base : Heap} {nm qual : Str} {st : Stmt} {f : Addr} {fd : FuncData} {N ps : List Str} {k : Nat} (Fu : L2.Fun x.K nm qual st f fd) (Sc : FnScope N ps (defScope st)) : FnOk Pr w x.K mg base (L2.CX Pr w) (k + 1) f fd ps (spP x ps.length fun _ => .stuck) := by
  refine Fu.okX Sc (fun vs H Q E h => h.1) (fun cdv A outer s H vs Q E hr h => ?_)
  obtain ⟨_, G, ts, _, _, _, h⟩ := h
  exact h.elim
/-- a test that is one comparison -/
theorem pt_one {a b : Expr} {fa fb : Env → Res T} {op : CmpOp} {g : T → T → Res T} (hs : OpSem x X (compareOp op) g) (ha : P x X a fa) (hb : P x X b fb) (hm : behindInMarks op b = false) : PTe x X (.Compare a [op] [b] pos) (dTestB (dOp g fa fb)) :=
  ⟨fun ok W tk => pt_imp (pt_cmpR (op_top _) (ha.run ok W tk) (hb.run ok W tk) hm) fun σ H Q ⟨β, φ, G, ρ, E, h⟩ =>
  tOp_of (Q := fun v H' => ∃ k, v = .bl k ∧ Q k H') hs ok tk ⟨β, φ, G, ρ, E, Pst.bind h fun t G1 H1 s1 h1 v fp r nd fr => by
    cases t with
    | bl b => cases r.bl; exact ⟨b, rfl, h1 G1 H1 s1⟩
    | _ => exact h1.elim⟩⟩
structure Def (x : Tx) (Pr : Program) (w : World) (mg : Str → Option Value) (base : Heap) (nm : Str) (k n : Nat) (sp : Sp) : Prop where
  go : ∃ f fd ps, FnOk Pr w x.K mg base (L2.CX Pr w) k f fd ps sp ∧ mg nm = some (.ref f) ∧ PySem.W.keepIn x.K (.ref f) = true ∧ Binds x.K fd ps []
theorem p_callD {Pr : Program} {w : World} {mg : Str → Option Value} {base : Heap} {k n : Nat} {F : List T → Res T} {fa : Env → Res (List T)} {nm : Str} {p : Pos} {e : Expr} {es : List Expr} (D : Def x Pr w mg base nm k n (spP x n F)) (hl : (e :: es).length = n) (hr : Room k X.A) (hg : Gl X nm) (ha : PAr x X (e :: es) fa)
    (hP : X.prog = Pr := by rfl) (hw : X.w = w := by rfl) (hmg : X.mg = mg := by rfl) (hK : X.K = x.K := by rfl) (hB : X.base = base := by rfl)
    (hdb : (nm == ("__debug__" : Str)) = false := by decide) (he : starEach (e :: es) X.env = (false, eval e X.env) :: starEach es X.env := by rfl) (hpl : (backTo pos (starEach es X.env)).any (·.1) = false := by rfl) :
    P x X (.Call (.Name nm p) (e :: es) [] pos) (dCall F fa) := by
  subst hP hw hmg hB
  obtain ⟨f, fd, ps, Fo, hm, hk, hb⟩ := D.go
  rw [← hK] at Fo hk hb
  exact p_call Fo hl hr hg hm hk hb ha hdb he hpl
def dTestBM (f : Env → ResM T) : Env → ResM Bool := fun ρ => (f ρ).bind fun t ρ' => t.isBl.up ρ'
theorem mt_one {a b : Expr} {fa fb : Env → ResM T} {op : CmpOp} {g : T → T → Res T} (hs : OpSem x X (compareOp op) g) (ha : M x X a fa) (hb : M x X b fb) (hm : behindInMarks op b = false) : MTe x X (.Compare a [op] [b] pos) (dTestBM (dOpM g fa fb)) :=
  ⟨fun ok W tk => pt_imp (pt_cmpR (op_top _) (ha.run ok W tk) (hb.run ok W tk) hm) fun σ H Q ⟨β, φ, G, ρ, E, hp, h⟩ =>
    two_vals (Q := fun v H' => ∃ k, v = .bl k ∧ Q k H') E hp (PstM.bind h fun t ρ1 φ1 G1 H1 s1 E1 o1 h1 v1 f1 r1 n1 nd1 d1 => by
      cases t with
      | bl b => cases r1.bl; exact ⟨b, rfl, h1 φ1 G1 H1 (.refl _ E1.sub) E1 fun a z => .inl z⟩
      | _ => exact h1.elim) fun s t G2 H2 v w f1 f2 sub r1 r2 q => hs ok W tk G2 H2 H2 v w s t f1 f2 _ sub r1 r2 (fun a z => z) q⟩
/-- which arguments are lent -/
def biOf (l : List Bool) : Nat → Bool := fun i => l.getD i false
theorem biOf_ks {l : List Bool} {ks : List (Option Nat)} (h : ks.map Option.isSome = l) (i : Nat) : biOf l i = ((ks[i]?).join).isSome := by
  subst h
  unfold biOf
  rw [List.getD_eq_getElem?_getD, List.getElem?_map]
  cases ks[i]? with
  | none => rfl
  | some o => rfl
theorem inj_one {j : Nat} {r : List (Option Nat)} (h : r.all Option.isNone = true) : Inj (some j :: r) := by
  have no : ∀ (i q : Nat), r[i]? = some (some q) → False := fun i q e => by
    have := List.all_eq_true.mp h _ (List.mem_of_getElem? e)
    cases this
  intro i i' q h1 h2
  cases i with
  | succ i => rw [List.getElem?_cons_succ] at h1; exact (no i q h1).elim
  | zero => cases i' with
    | zero => rfl
    | succ i => rw [List.getElem?_cons_succ] at h2; exact (no i q h2).elim
theorem m_callD {Pr : Program} {w : World} {mg : Str → Option Value} {base : Heap} {l : List Bool} {ks : List (Option Nat)} {k n : Nat} {F : List T → ResM T} {fa : Env → ResM (List T)} {nm : Str} {p : Pos} {e : Expr} {es : List Expr} (D : Def x Pr w mg base nm k n (spM x n (biOf l) F)) (hl : ks.length = n) (hks : ks.map Option.isSome = l) (inj : Inj ks) (hr : Room k X.A) (hg : Gl X nm) (ha : MAr x X (e :: es) ks fa)
    (hP : X.prog = Pr := by rfl) (hw : X.w = w := by rfl) (hmg : X.mg = mg := by rfl) (hK : X.K = x.K := by rfl) (hB : X.base = base := by rfl)
    (hdb : (nm == ("__debug__" : Str)) = false := by decide) (he : starEach (e :: es) X.env = (false, eval e X.env) :: starEach es X.env := by rfl) (hpl : (backTo pos (starEach es X.env)).any (·.1) = false := by rfl) :
    M x X (.Call (.Name nm p) (e :: es) [] pos) (dCallM F ks fa) := by
  subst hP hw hmg hB
  obtain ⟨f, fd, ps, Fo, hm, hk, hb⟩ := D.go
  rw [← hK] at Fo hk hb
  exact m_call Fo hl inj (biOf_ks hks) hr hg hm hk hb ha hdb he hpl
theorem m_callPD {Pr : Program} {w : World} {mg : Str → Option Value} {base : Heap} {k n : Nat} {F : List T → Res T} {fa : Env → ResM (List T)} {nm : Str} {p : Pos} {e : Expr} {es : List Expr} (D : Def x Pr w mg base nm k n (spP x n F)) (hl : (e :: es).length = n) (hr : Room k X.A) (hg : Gl X nm) (ha : MAv x X (e :: es) fa)
    (hP : X.prog = Pr := by rfl) (hw : X.w = w := by rfl) (hmg : X.mg = mg := by rfl) (hK : X.K = x.K := by rfl) (hB : X.base = base := by rfl)
    (hdb : (nm == ("__debug__" : Str)) = false := by decide) (he : starEach (e :: es) X.env = (false, eval e X.env) :: starEach es X.env := by rfl) (hpl : (backTo pos (starEach es X.env)).any (·.1) = false := by rfl) :
    M x X (.Call (.Name nm p) (e :: es) [] pos) (dM1 (gS F) fa) := by
  subst hP hw hmg hB
  obtain ⟨f, fd, ps, Fo, hm, hk, hb⟩ := D.go
  rw [← hK] at Fo hk hb
  exact m_callP Fo hl hr hg hm hk hb ha hdb he hpl
/-- an exception's class and all that its raisers need -/
structure Exc (x : Tx) (Pr : Program) (w : World) (mg : Str → Option Value) (base : Heap) (nm : Str) (c k : Nat) : Prop where
  cls : OexC x.K (x.ca c)
  fl : x.fl c = [("value" : Str)]
  no : PySem.W.findIn x.K (.ref (x.ca c)) "value" = some none
  gl : mg nm = some (.ref (x.ca c))
  go : ∃ fI fd, PySem.W.findIn x.K (.ref (x.ca c)) "__init__" = some (some (.ref fI)) ∧ PySem.W.typeIn x.K (.ref fI) = some (.type "function") ∧ FnOk Pr w x.K mg base (L2.CX Pr w) k fI fd ["self", "value"] (spIV x) ∧ Binds x.K fd ["self", "value"] []
theorem s_raiseD {Pr : Program} {w : World} {mg : Str → Option Value} {base : Heap} {c k : Nat} {nm : Str} {p pos2 : Pos} {e : Expr} {fa : Env → Res (List T)} (D : Exc x Pr w mg base nm c k) (hr : Room (k + 1) X.A) (hg : Gl X nm) (ha : PAr x X [e] fa)
    (hP : X.prog = Pr := by rfl) (hw : X.w = w := by rfl) (hmg : X.mg = mg := by rfl) (hK : X.K = x.K := by rfl) (hB : X.base = base := by rfl)
    (hdb : (nm == ("__debug__" : Str)) = false := by decide) (he : starEach [e] X.env = (false, eval e X.env) :: starEach [] X.env := by rfl) (hpl : (backTo pos2 (starEach [] X.env)).any (·.1) = false := by rfl) :
    S x bs X (.Raise (some (.Call (.Name nm p) [e] [] pos2)) none pos) (dRaise c fa) := by
  subst hP hw hmg hB
  obtain ⟨fI, fd, iC, tI, F1, hb⟩ := D.go
  rw [← hK] at F1
  exact s_raise D.cls D.fl D.no iC tI (by rw [← hK]; exact F1) hr hb hg D.gl ha hdb he hpl
end
end Fn

/-! Fn38: a def whose code object is known (it makes lambdas). -/
namespace Fn
open PySem PySem.Spec L2
variable [Tbs]
section
variable {x : Tx} {β : Bo} {φ φ' φ1 : Nat → List Addr} {G G' G1 H H' H1 : Hp} {σ σ' : St} {ρ ρ' : Env} {W : XK} {Po : Addr → Prop} {X : Cx}
theorem def_at {P : Program} {w : World} {mg : Str → Option Value} {base : Heap} {nm qual : Str} {st : Stmt} {f : Addr} {oc : Value} {od : Option Addr} {kV doc pm : Value} {an : Option Addr} {cdv ct : Value} {osl : Array (Option Value)} {N ps : List Str} {k : Nat} {b : Env → ResS}
    (lk : x.K.lookup f = some ⟨oc, od, .func (PySem.W.fnOf nm qual (defArgs st) (defBody st) (defScope st) .none kV doc pm an cdv ct), osl⟩) (hcd : PySem.W.codeIn x.K cdv qual = true) (Sc : FnScope N ps (defScope st))
    (hb : ∀ (A : Around) (outer : List PySem.Env) (s : Shared) (H : Hp) (E : XK), Room k (A.deeper (PyProof.Rows.envOfC qual (defScope st) s.heap.objs.size f cdv)) → Ss x (fun _ => false) (cxOf (L2.CX P w) P w x.K mg base N qual (defScope st) f cdv A outer s H E) (defBody st) b) :
    FnOk P w x.K mg base (L2.CX P w) (k + 1) f (PySem.W.fnOf nm qual (defArgs st) (defBody st) (defScope st) .none kV doc pm an cdv ct) ps (spP x ps.length (dRun N.length b)) := by
  refine fn_of lk hcd Sc (fun vs H Q E h => h.1) (fun A outer s H vs Q E hr h => ?_)
  obtain ⟨hl, G, ts, sub, tb, r, h⟩ := h
  refine ⟨_, (hb A outer s H E hr).run ⟨rfl, rfl, hr.mono (Nat.zero_le _), Sc.nd⟩ E (takes_of rfl rfl rfl rfl) (passes_of rfl), ?_⟩
  refine ⟨⟨fun _ => none, fun _ => none, false⟩, fun _ => [], G, _, er_start sub tb r, ⟨fun _ _ => rfl, rfl⟩, ?_⟩
  unfold dRun at h
  generalize hB : b (ts.map some ++ List.replicate (N.length - ts.length) none) = B at h
  have noO : ∀ {φ : Nat → List Addr} {a : Addr}, (∀ a, Ow φ a → Ow (fun _ => ([] : List Addr)) a ∨ Vac H a) → Ow φ a → Vac H a := fun o z => (o _ z).elim (fun ⟨_, z⟩ => by cases z) id
  have pure : ∀ {G' H'}, Stp (Ow fun _ => ([] : List Addr)) G H G' H' → Stp No G H G' H' := fun s => s.mono fun a ⟨_, z⟩ => by cases z
  cases B with
  | ok fl ρ' => cases fl with
    | next => exact fun σ' φ' G' H' s' E' o => h G' H' (pure s') .non [] (.s .non) .nil fun a z => by cases z
    | brk => exact h.elim
    | cont => exact h.elim
    | ret t => exact fun σ' φ' G' H' s' E' o v fp rr hn nd fr => h G' H' (pure s') v fp rr nd fun a ha => ⟨(fr a ha).1.elim id fun ⟨_, z⟩ => (by cases z), (fr a ha).2.1⟩
  | exc c p ρ' => exact fun d σ' φ' G' H' s' E' o xr => h d G' H' (pure s') xr
  | stuck => exact h.elim

/-- a def that tells how a lambda ends, and all that its callers need -/
structure Refd (x : Tx) (Pr : Program) (w : World) (mg : Str → Option Value) (base : Heap) (rf : Str) (cc : Nat) (tag : Str) (c P : Addr) : Prop where
  fl : x.fl cc = [("value" : Str)]
  tb : LamX.TabB base mg c P
  go : ∃ (g : Addr) (oc : Value) (od : Option Addr) (pg : Arguments) (bg : List Stmt) (sg : Scope) (dV kV doc pm : Value) (an : Option Addr) (cdv ct : Value) (osl : Array (Option Value)) (Ng : List Str) (a : Str),
    mg rf = some (.ref g) ∧ PySem.W.keepIn x.K (.ref g) = true ∧ x.K.lookup g = some ⟨oc, od, .func (PySem.W.fnOf rf rf pg bg sg dV kV doc pm an cdv ct), osl⟩ ∧ PySem.W.codeIn x.K cdv rf = true ∧ Binds x.K (PySem.W.fnOf rf rf pg bg sg dV kV doc pm an cdv ct) [a] [] ∧ FnScope Ng [a] sg ∧ Ng[0]? = some a ∧ Vis sg a ∧ (a == ("__debug__" : Str)) = false ∧ (a == ("__classdict__" : Str)) = false ∧
    ∀ (X : Cx) (q : Str), X.prog = Pr → X.w = w → X.K = x.K → X.mg = mg → X.base = base → LamX.GivesTo X Ng rf sg g cdv bg a q (TTref (x.ca cc) tag)
theorem m_refD {Pr : Program} {w : World} {mg : Str → Option Value} {base : Heap} {cc k : Nat} {rf : Str} {tag : Str} {c P : Addr} {params : Arguments} {body : Expr} {scope : Scope} {fb : Env → ResM T} {p lpos pos : Pos}
    (D : Refd x Pr w mg base rf cc tag c P) (hg : Gl X rf) (hcode : X.env.code = .ref c) (hmT : (P, X.env.qual ++ "<lambda>") ∈ Tbs.tb) (hu : ∀ p ∈ Tbs.tb, p.1 = P → p.2 = X.env.qual ++ "<lambda>") (hr : Room (k + 2) X.A) (L : LamX.LamS X.env.scope scope) (hdef : defaultsOf params X.env = ([], []))
    (hbind : ∀ (q : Str) (cl : List (Str × Addr)) (pm cv ctv : Value), bindArgs (PySem.W.kla_fn "<lambda>" q params body scope cl pm cv ctv) ⟨[], []⟩ = pure [])
    (hbody : ∀ (A : Around) (outer : List PySem.Env) (s : Shared) (H : Hp) (E : XK) (f c' : Addr), Room k (A.deeper (LamX.lamEnv X scope s.heap.objs.size f c')) → M x (LamX.lamCx X A outer s H E scope f c') body fb)
    (hP : X.prog = Pr := by rfl) (hw : X.w = w := by rfl) (hmg : X.mg = mg := by rfl) (hK : X.K = x.K := by rfl) (hB : X.base = base := by rfl) (hdb : (rf == ("__debug__" : Str)) = false := by decide) :
    M x X (.Call (.Name rf p) [.Lambda params body scope lpos] [] pos) (dRef cc tag fb) := by
  obtain ⟨g, oc, od, pg, bg, sg, dV, kV, doc, pm, an, cdv, ct, osl, Ng, a, hm, hk, lk, hcg, hb, Sg, hNg, hva, hd, hcd, hG⟩ := D.go
  exact m_ref D.fl hg (by rw [hmg]; exact hm) hk lk hcg hb Sg hNg hva (fun _ => hG X _ hP hw hK hmg hB) (by rw [hB, hmg]; exact D.tb) hcode hmT hu hr L hdef hbind hbody hdb hd hcd
theorem candNil {k n : Nat} : ∀ c ∈ ([] : List (Nat × (List T → Res T))), Cand x X k n c := fun _ h => by cases h
theorem candCons {k n j : Nat} {nm : Str} {F : List T → Res T} {cs : List (Nat × (List T → Res T))} {Pr : Program} {w : World} {mg : Str → Option Value} {base : Heap} (D : Def x Pr w mg base nm k n (spP x n F)) (v : mg nm = some (.ref (x.fa j))) (r : ∀ c ∈ cs, Cand x X k n c)
    (hP : X.prog = Pr := by rfl) (hw : X.w = w := by rfl) (hmg : X.mg = mg := by rfl) (hK : X.K = x.K := by rfl) (hB : X.base = base := by rfl) : ∀ c ∈ (j, F) :: cs, Cand x X k n c := fun c h => by
  rcases List.mem_cons.mp h with z | z
  · subst z hP hw hmg hB
    obtain ⟨f, fd, ps, Fo, hm, hk, hb⟩ := D.go
    rw [v] at hm
    cases hm
    rw [← hK] at Fo hk hb
    exact Cand.of Fo hb hk
  · exact r c z
end
end Fn

/-! Fn39: name = [..] on one line, the name a plain local. -/
namespace Fn
open PySem PySem.Spec L2
variable [Tbs]
section
variable {x : Tx} {X : Cx} {bs : Nat → Bool}
theorem s_setLc {i : Nat} {y : Str} {py spos : Pos} {tg iter elt : Expr} {ifs : List Expr} {scope : Scope} {pos : Pos} {src : Env → Res (List T)} {tgf : T → Env → Option Env} {ttf : Env → Res Bool} {elf : Env → Res T} {own : List (Str × Nat)} {g : TG} {ws : List Nat}
    (hs : Src x X tg iter false src) (okb : BlkOk X.N X.env.scope scope own)
    (hg : ∀ (s : Shared) (H : Hp) (C : Addr) (cl : List (Str × Addr)) (fp : List Addr), PGo x (X.blk s H scope (compEnvC scope cl C X.env) fp) tg g) (sg : TgSem x ws tgf g) (hw : ∀ i ∈ ws, i ∈ own.map (·.2))
    (ht : ∀ (s : Shared) (H : Hp) (C : Addr) (cl : List (Str × Addr)) (fp : List Addr), PIfs x (X.blk s H scope (compEnvC scope cl C X.env) fp) ifs ttf)
    (he : ∀ (s : Shared) (H : Hp) (C : Addr) (cl : List (Str × Addr)) (fp : List Addr), P x (X.blk s H scope (compEnvC scope cl C X.env) fp) elt elf)
    (hbs : bs i = false) (hy : X.N[i]? = some y) (hyl : X.env.scope.names.lookup y = some .local) (hsw : swapsWith (.ListComp elt [⟨tg, iter, ifs, 0⟩] scope pos) (some (.Name y py)) spos.line X.env = pure true) :
    S x bs X (.Assign [.Name y py] (.ListComp elt [⟨tg, iter, ifs, 0⟩] scope pos) spos) (dAsgF i (dComp src tgf ttf elf (own.map (·.2)))) := ⟨fun ok W tk pO => by
  refine ps_imp (ps_setLc ok.calm ok.nd hy hyl hsw (hs.run ok W tk) okb (fun s H C cl fp => (hg s H C cl fp).run (ok.blk s H scope _ fp)) (fun s H C cl fp => (ht s H C cl fp).run (ok.blk s H scope _ fp) W0 takes0) (fun s H C cl fp => (he s H C cl fp).run (ok.blk s H scope _ fp) W0 takes0) hs.fold) fun D0 σ H ⟨β, φ, G, ρ, E, hb0, h⟩ => ?_
  have h : Pst x W G H (dComp src tgf ttf elf (own.map (·.2)) ρ) (Made x H fun v H1 => gName i v σ H1 D0.nx) := PstS.bindP E h fun t G1 H1 s h1 v fp r nd fr => by
    unfold asgFEnd at h1
    cases e0 : t.frz with
    | none => rw [e0] at h1; exact h1.elim
    | some t' =>
      rw [e0] at h1
      obtain ⟨G2, s2, rv⟩ := Stp.share1 s r (fun a ha => ⟨.inl (fr a ha).1, (fr a ha).2⟩) e0
      exact h1 _ (fput φ i []) G2 H1 s2.pure ((E.step s2).set (.s rv) rv.np .nil (fun a z => by cases z) (hb0.b i hbs)) fun a z => (ow_put z).elim (fun z => by cases z) fun ⟨j, _, z⟩ => .inl ⟨j, z⟩
  refine ⟨β, φ, G, ρ, E, ?_⟩
  unfold dComp at h
  refine Pst.bind h fun ts G1 H1 s1 h1 J G2 L s2 _ hL it D hD => ?_
  split at h1
  · rename_i hlen
    cases hc : compL tgf ttf elf (wipeE ρ (own.map (·.2))) ts with
    | exc c p => exact absurd hc compL_noexc
    | stuck => rw [hc] at h1; exact h1.elim
    | ok us =>
      rw [hc] at h1
      refine comp_core (Qe := fun D H => gName i (.ref D) σ H D0.nx) (E.step s2) it hL hlen hc (fun β φ G H σ ρ ρ' v u Q E hb r e k => sg β φ G H σ ρ ρ' v u Q E (fun i hi => hb i (hw i hi)) r e fun σ' φ' E' o n l => k σ' φ' E' (fun i hi => n i fun z => hi (hw i z)) l) hD fun G' H' acc st hH hG r => ?_
      have sA := s2.trans st
      refine h1 G' H' sA (.ref D) [D] (.lst .ow ⟨by simp, by simp⟩ hH r) (by simp) fun a ha => ?_
      cases List.mem_singleton.mp ha
      exact ⟨s2.ext.back (.of hD), hG⟩
  · exact h1.elim⟩
end
end Fn

/-! Fn40: the law's end. -/
namespace Fn
open PySem PySem.Spec L2
variable [Tbs]
section
variable {x : Tx} {H : Hp} {a : Addr} {ns : List Int}
/-- the script as a tree -/
theorem script_rep (h : SqL x.K H a (ns.map V.int)) : ∃ G t, Sub G H ∧ RepS x G (.ref a) t ∧ (t = .lst .sh (ns.map T.int) ∨ t = .scr ns) := by
  rcases h with (h | ⟨od, h⟩) | h
  · refine ⟨fun b => if b = a then some (.lst (ns.map V.int)) else none, _, fun b o e => ?_, .lst (if_pos rfl) (reps_ints ns), .inl rfl⟩
    dsimp only at e
    by_cases z : b = a
    · rw [if_pos z] at e; cases e; rw [z]; exact ⟨fun _ q => (by cases q), .inl h⟩
    · rw [if_neg z] at e; cases e
  · refine ⟨fun b => if b = a then some (.frz od (.lst (ns.map V.int))) else none, _, fun b o e => ?_, .scr (if_pos rfl), .inr rfl⟩
    dsimp only at e
    by_cases z : b = a
    · rw [if_pos z] at e; cases e; rw [z]; exact ⟨fun _ q => (by cases q), .inl h⟩
    · rw [if_neg z] at e; cases e
  · exact ⟨fun _ => none, _, fun b o e => (by cases e), .scrK (.inr h), .inr rfl⟩
theorem sp_law {F : List T → Res T} (hs : SqL x.K H a (ns.map V.int)) (tb : TbOk H) (h : ∀ t, t = .lst .sh (ns.map T.int) ∨ t = .scr ns → F [t] = .ok (.bl true)) : spP x 1 F [.ref a] H (fun v _ => v = .bl true) (fun _ _ _ => False) := by
  obtain ⟨G, t, sub, r, e⟩ := script_rep hs
  refine ⟨rfl, G, [t], sub, tb, .cons r .nil, ?_⟩
  rw [h t e]
  intro G' H' s v fp rv nd fr
  exact rv.bl
end
end Fn

/-! Fn41: reading denotations: rows for simp, loops by invariants. -/
namespace Fn
open PySem PySem.Spec L2
section
variable {ρ : Env} {f g h fa fb fc : Env → Res T} {ff : Env → Res (List T)} {c c' : Env → Res Bool} {s s' : Env → ResS} {m m' : Env → ResM T} {i j : Nat}
@[simp] theorem dVar_e : dVar i ρ = (match ρ[i]? with | some (some t) => .ok t.pkd | _ => .stuck) := rfl
@[simp] theorem dC_e {t : T} : dC t ρ = .ok t := rfl
@[simp] theorem dOp_e {o : T → T → Res T} : dOp o fa fb ρ = (fa ρ).bind fun s => (fb ρ).bind fun t => o s t := rfl
@[simp] theorem dIx_e : dIx fa fb ρ = (fa ρ).bind fun s => (fb ρ).bind fun t => opIx s t := rfl
@[simp] theorem dNil_e : dNil ρ = .ok [] := rfl
@[simp] theorem dCons_e : dCons f ff ρ = (f ρ).bind fun t => (ff ρ).bind fun ts => .ok (t :: ts) := rfl
@[simp] theorem dCall_e {F : List T → Res T} : dCall F ff ρ = (ff ρ).bind fun ts => match frzs ts with | some ts' => F ts' | none => .stuck := rfl
@[simp] theorem dCa_e {F : List T → Res T} : dCa F ff ρ = (ff ρ).bind F := rfl
@[simp] theorem dTest_e : dTest f ρ = (f ρ).bind T.tru := rfl
@[simp] theorem dTestB_e : dTestB f ρ = (f ρ).bind T.isBl := rfl
@[simp] theorem dAndT_e : dAndT c c' ρ = (c ρ).bind fun b => if b = true then c' ρ else .ok false := rfl
@[simp] theorem dOrT_e : dOrT c c' ρ = (c ρ).bind fun b => if b = true then .ok true else c' ρ := rfl
@[simp] theorem dNotT_e : dNotT c ρ = (c ρ).bind fun b => .ok (!b) := rfl
@[simp] theorem dAnd_e : dAnd f g ρ = (f ρ).bind fun t => t.tru.bind fun b => if b = true then g ρ else .ok t := rfl
@[simp] theorem dOr_e : dOr f g ρ = (f ρ).bind fun t => t.tru.bind fun b => if b = true then .ok t else g ρ := rfl
@[simp] theorem dNot_e : dNot f ρ = (f ρ).bind fun t => t.tru.bind fun b => .ok (.bl (!b)) := rfl
@[simp] theorem dNeg_e : dNeg f ρ = (f ρ).bind fun t => match t with | .int i => .ok (.int (-i)) | _ => .stuck := rfl
@[simp] theorem dIf_e : dIf c f g ρ = (c ρ).bind fun b => if b = true then f ρ else g ρ := rfl
@[simp] theorem dNoPart_e : dNoPart ρ = .ok none := rfl
@[simp] theorem dPart_e : dPart f ρ = (f ρ).bind fun t => match t with | .int i => .ok (some i) | _ => .stuck := rfl
@[simp] theorem dSl_e {lo hi : Env → Res (Option Int)} : dSl f lo hi ρ = (f ρ).bind fun t => (lo ρ).bind fun l => (hi ρ).bind fun u => opSl t l u := rfl
@[simp] theorem dTup_e : dTup ff ρ = (ff ρ).bind fun ts => match frzs ts with | some ts' => if ts'.length ≤ 10000000 then .ok (.tup ts') else .stuck | none => .stuck := rfl
@[simp] theorem dLst_e : dLst ff ρ = (ff ρ).bind fun ts => match frzs ts with | some ts' => if ts'.length ≤ 10000000 then .ok (.lst .ow ts') else .stuck | none => .stuck := rfl
@[simp] theorem dIt_e {st : Bool} : dIt st f ρ = (f ρ).bind fun t => if (st && !t.np) = true then .stuck else t.iter := rfl
@[simp] theorem dEnum_e {st : Bool} : dEnum st f ρ = (f ρ).bind fun t => if (st && !t.np) = true then .stuck else t.eiter := rfl
@[simp] theorem dYes_e : dYes ρ = .ok true := rfl
@[simp] theorem dSeq_e : dSeq s s' ρ = (match s ρ with | .ok .next ρ' => s' ρ' | r => r) := rfl
@[simp] theorem dNop_e : dNop ρ = .ok .next ρ := rfl
@[simp] theorem dAsg_e : dAsg i f ρ = (f ρ).st ρ fun t => if t.np = true then .ok .next (ρ.set i (some t)) else .stuck := rfl
@[simp] theorem asgFEnd_e {t : T} : asgFEnd i t ρ = (match t.frz with | some t' => .ok .next (ρ.set i (some t')) | none => .stuck) := rfl
@[simp] theorem dAsgF_e : dAsgF i f ρ = (f ρ).st ρ fun t => asgFEnd i t ρ := rfl
@[simp] theorem dBreak_e : dBreak ρ = .ok .brk ρ := rfl
@[simp] theorem dCont_e : dCont ρ = .ok .cont ρ := rfl
@[simp] theorem dDrop_e : dDrop f ρ = (f ρ).st ρ fun _ => .ok .next ρ := rfl
@[simp] theorem dRet_e : dRet f ρ = (f ρ).st ρ fun t => if t.np = true then .ok (.ret t) ρ else .stuck := rfl
@[simp] theorem dRetN_e : dRetN ρ = .ok (.ret .non) ρ := rfl
@[simp] theorem dRetV_e : dRetV i ρ = (match ρ[i]? with | some (some t) => .ok (.ret t) (ρ.set i none) | _ => .stuck) := rfl
@[simp] theorem dIfS_e : dIfS c s s' ρ = (c ρ).st ρ fun b => if b = true then s ρ else s' ρ := rfl
@[simp] theorem dFor_e {tg : T → Env → Option Env} : dFor ff tg s ρ = (ff ρ).st ρ fun ts => forL tg s ts ρ := rfl
@[simp] theorem wrEnd_e {w : T → List T → Option (T × T)} {p : Pth} {t : T} {ts : List T} : wrEnd w p t ρ ts = (match frzs ts with | some ts' => (match w t ts' with | some (t', r) => .ok r (setP p ρ t') | none => .stuck) | none => .stuck) := rfl
@[simp] theorem dWr_e {ty : String} {w : T → List T → Option (T × T)} {p : Pth} : dWr ty w p ff ρ = (match getP p ρ with | some t => if isTy ty t = true then (ff ρ).stM ρ (wrEnd w p t ρ) else .stuck | none => .stuck) := rfl
@[simp] theorem dDropM_e : dDropM m ρ = (m ρ).bind fun _ ρ' => .ok .next ρ' := rfl
@[simp] theorem dAsgM_e : dAsgM i m ρ = (m ρ).bind fun t ρ' => .ok .next (ρ'.set i (some t)) := rfl
@[simp] theorem dRetM_e : dRetM m ρ = (m ρ).bind fun t ρ' => .ok (.ret t) ρ' := rfl
@[simp] theorem setEnd_e {p : Pth} {u k : T} : setEnd p ρ u k = (match getP p ρ with | some t => (match wrSet t k u with | some t' => .ok .next (setP p ρ t') | none => .stuck) | none => .stuck) := rfl
@[simp] theorem dSetI_e {p : Pth} : dSetI p f g ρ = (g ρ).st ρ fun u => match u.frz with | none => .stuck | some u' => match getP p ρ with | some _ => (f ρ).st ρ fun s => setEnd p ρ u' s | none => .stuck := rfl
@[simp] theorem augEnd_e {op : Int → Int → Int} {p : Pth} {k : T} {a b : Int} : augEnd op p ρ k (.int a) (.int b) = setEnd p ρ (.int (op a b)) k := rfl
@[simp] theorem augGet_e {op : Int → Int → Int} {p : Pth} {t k : T} : augGet op p ρ f t k = (match rdIx t k with | some old => (f ρ).st ρ fun u => augEnd op p ρ k old u | none => .stuck) := rfl
@[simp] theorem dAugI_e {op : Int → Int → Int} {p : Pth} : dAugI op p f g ρ = (match getP p ρ with | some t => (f ρ).st ρ fun s => augGet op p ρ g t s | none => .stuck) := rfl
@[simp] theorem augN_e {op : Int → Int → Int} {a b : Int} : augN op i ρ (.int a) (.int b) = .ok .next (ρ.set i (some (.int (op a b)))) := rfl
@[simp] theorem dAug_e {op : Int → Int → Int} : dAug op i f ρ = (match ρ[i]? with | some (some t) => (f ρ).st ρ fun u => augN op i ρ t u | _ => .stuck) := rfl
@[simp] theorem parEnd_e {t u : T} : parEnd i j ρ [t, u] = if (t.np && u.np) = true then .ok .next ((ρ.set i (some t)).set j (some u)) else .stuck := rfl
@[simp] theorem dPar_e : dPar i j ff ρ = (ff ρ).st ρ (parEnd i j ρ) := rfl
@[simp] theorem dRdm_e {ty : String} {q : T → List T → Res T} : dRdm ty q f ff ρ = (f ρ).bind fun t => if isTyR ty t = true then (ff ρ).bind fun ts => q t ts else .stuck := rfl
@[simp] theorem dForD_e {tg : T → Env → Option Env} {q : T → Res (List T)} : dForD q f tg s ρ = (f ρ).st ρ fun t => if t.np = true then (q t).st ρ fun ts => forL tg s ts ρ else .stuck := rfl
@[simp] theorem raiseEnd_e {k : Nat} {ts : List T} : raiseEnd k ρ ts = (match frzs ts with | some ts' => .exc k ts' ρ | none => .stuck) := rfl
@[simp] theorem dRaise_e {k : Nat} : dRaise k ff ρ = (ff ρ).st ρ (raiseEnd k ρ) := rfl
@[simp] theorem isiEnd_e {tys : List String} {t : T} : isiEnd tys t = (match t.tyn with | some a => .ok (.bl (tys.any fun b => subT a b)) | none => .stuck) := rfl
@[simp] theorem dIsi_e {tys : List String} : dIsi tys f ρ = (f ρ).bind (isiEnd tys) := rfl
@[simp] theorem dChain_e {o o' : T → T → Res T} : dChain o o' fa fb fc ρ = (fa ρ).bind fun s => (fb ρ).bind fun t => (o s t).bind (chainGo o' fc ρ t) := rfl
@[simp] theorem chainGo_e {o' : T → T → Res T} {t : T} {b : Bool} : chainGo o' fc ρ t (.bl b) = if b = true then (fc ρ).bind fun u => o' t u else .ok (.bl false) := by cases b <;> rfl
@[simp] theorem isBl_e {b : Bool} : T.isBl (.bl b) = .ok b := rfl
@[simp] theorem dSh_e : dSh i s ρ = s (shE i ρ) := rfl
@[simp] theorem shE_e : shE i ρ = (match ρ[i]? with | some (some t) => (match t.frz with | some t' => ρ.set i (some t') | none => ρ) | _ => ρ) := rfl
@[simp] theorem forL_nil {tg : T → Env → Option Env} : forL tg s [] ρ = .ok .next ρ := rfl
@[simp] theorem gN_e {t : T} : gN i t ρ = if i < ρ.length then some (ρ.set i (some t)) else none := rfl
@[simp] theorem gTs_nil : gTs [] [] ρ = some ρ := rfl
@[simp] theorem gTs_cons {k : T → Env → Option Env} {ks : List (T → Env → Option Env)} {t : T} {ts : List T} : gTs (k :: ks) (t :: ts) ρ = (k t ρ).bind fun ρ1 => gTs ks ts ρ1 := rfl
@[simp] theorem gT_e {ks : List (T → Env → Option Env)} {ts : List T} : gT ks (.tup ts) ρ = gTs ks ts ρ := rfl
@[simp] theorem frzs_nil : frzs [] = some [] := rfl
@[simp] theorem frzs_cons {t : T} {ts : List T} : frzs (t :: ts) = (match t.frz, frzs ts with | some t', some r' => some (t' :: r') | _, _ => none) := rfl
@[simp] theorem getP_v : getP (.v i) ρ = (match ρ[i]? with | some (some t) => some t | _ => none) := rfl
@[simp] theorem setP_v {t : T} : setP (.v i) ρ t = ρ.set i (some t) := rfl
/-! what writes -/
variable {fM gM : Env → ResM (List T)} {cM : Env → ResM Bool}
@[simp] theorem dUp_e : dUp f ρ = ((f ρ).bind (fun t => if t.np = true then .ok t else .stuck)).up ρ := rfl
@[simp] theorem dUpT_e : dUpT c ρ = (c ρ).up ρ := rfl
@[simp] theorem dNilM_e : dNilM ρ = .ok [] ρ := rfl
@[simp] theorem dConsM_e : dConsM m fM ρ = (m ρ).bind fun t ρ1 => (fM ρ1).bind fun ts ρ2 => .ok (t :: ts) ρ2 := rfl
@[simp] theorem dConsB_e : dConsB fM ρ = (fM ρ).bind fun ts ρ2 => .ok (.non :: ts) ρ2 := rfl
@[simp] theorem dBor_e : dBor j fM ρ = (match ρ[j]? with | some (some _) => dConsB fM ρ | _ => .stuck) := rfl
@[simp] theorem dM1_e {q : List T → Res T} : dM1 q fM ρ = (fM ρ).bind fun ts ρ' => upM (q ts) ρ' := rfl
@[simp] theorem upM_e {r : Res T} : upM r ρ = r.stM ρ fun t => if t.np = true then .ok t ρ else .stuck := rfl
@[simp] theorem gS_e {q : List T → Res T} {ts : List T} : gS q ts = (match frzs ts with | some ts' => q ts' | none => .stuck) := rfl
@[simp] theorem gTup_e {ts : List T} : gTup ts = if ts.length ≤ 10000000 then .ok (.tup ts) else .stuck := rfl
@[simp] theorem gLst_e {ts : List T} : gLst ts = if ts.length ≤ 10000000 then .ok (.lst .ow ts) else .stuck := rfl
@[simp] theorem dOpM_e {o : T → T → Res T} : dOpM o m m' ρ = (m ρ).bind fun s ρ1 => (m' ρ1).bind fun t ρ2 => upM (o s t) ρ2 := rfl
@[simp] theorem dTestM_e : dTestM m ρ = (m ρ).bind fun t ρ' => t.tru.up ρ' := rfl
@[simp] theorem dTestBM_e : dTestBM m ρ = (m ρ).bind fun t ρ' => t.isBl.up ρ' := rfl
@[simp] theorem dIfM_e : dIfM cM m m' ρ = (cM ρ).bind fun b ρ' => if b = true then m ρ' else m' ρ' := rfl
@[simp] theorem dIfSM_e : dIfSM cM s s' ρ = (cM ρ).bind fun b ρ' => if b = true then s ρ' else s' ρ' := rfl
@[simp] theorem dAsgFM_e : dAsgFM i m ρ = (m ρ).bind (asgFEnd i) := rfl
@[simp] theorem dYesM_e : dYesM ρ = .ok true ρ := rfl
@[simp] theorem dNoPartM_e : dNoPartM ρ = .ok none ρ := rfl
@[simp] theorem partEnd_e {n : Int} : partEnd (.int n) ρ = .ok (some n) ρ := rfl
@[simp] theorem dPartM_e : dPartM m ρ = (m ρ).bind partEnd := rfl
@[simp] theorem dSlM_e {lo hi : Env → ResM (Option Int)} : dSlM m lo hi ρ = (m ρ).bind fun t ρ1 => (lo ρ1).bind fun l ρ2 => (hi ρ2).bind fun u ρ3 => upM (opSl t l u) ρ3 := rfl
@[simp] theorem dCallM_e {F : List T → ResM T} {ks : List (Option Nat)} : dCallM F ks fM ρ = (fM ρ).bind (callEnd F ks) := rfl
@[simp] theorem callEnd_e {F : List T → ResM T} {ks : List (Option Nat)} {ts : List T} : callEnd F ks ts ρ = (match frzs ts with | some ts' => (match mixA ks ts' ρ with | some tc => (F tc).back ks ρ | none => .stuck) | none => .stuck) := rfl
@[simp] theorem back_ok {α : Type} {ks : List (Option Nat)} {t : α} {ρ2 : Env} : (ResM.ok t ρ2).back ks ρ = .ok t (wb ks ρ2 ρ) := rfl
@[simp] theorem mixA_nil : mixA [] [] ρ = some [] := rfl
@[simp] theorem mixA_val {ks : List (Option Nat)} {t : T} {ts : List T} : mixA (none :: ks) (t :: ts) ρ = (mixA ks ts ρ).map (t :: ·) := rfl
@[simp] theorem mixA_bor {ks : List (Option Nat)} {t : T} {ts : List T} : mixA (some j :: ks) (t :: ts) ρ = (match ρ[j]? with | some (some u) => (mixA ks ts ρ).map (u :: ·) | _ => none) := rfl
@[simp] theorem dRef_e {cc : Nat} {tag : Str} : dRef cc tag m ρ = refEnd cc tag (m ρ) := rfl
@[simp] theorem refEnd_ok {cc : Nat} {tag : Str} {t : T} : refEnd cc tag (.ok t ρ) = .ok (.tup [.str ("" : Str), .non]) ρ := rfl
@[simp] theorem refEnd_exc {cc c : Nat} {tag : Str} {t : T} : refEnd cc tag (.exc c [t] ρ) = (match t.frz with | some t' => if c = cc then .ok (.tup [.str tag, t']) ρ else .stuck | none => .stuck) := rfl
@[simp] theorem dRngM_e : dRngM fM ρ = (fM ρ).bind rngEnd := rfl
@[simp] theorem dCallV_e {cs : List (Nat × (List T → Res T))} : dCallV i cs fM ρ = (match ρ[i]? with | some (some (.fn n)) => if (cs.any fun c => c.1 == n) = true then dM1 (gS (pick cs n)) fM ρ else .stuck | _ => .stuck) := rfl
end
/-! flags -/
section
variable {xs ys : List T} {fl : Fl} {k : DK} {kvs : List (T × T)} {i j : Int} {a b : Str} {p q : Bool} {n : Nat} {ns : List Int} {c : Nat}
@[simp] theorem pkd_non : T.pkd .non = .non := rfl
@[simp] theorem pkd_bl : T.pkd (.bl p) = .bl p := rfl
@[simp] theorem pkd_int : T.pkd (.int i) = .int i := rfl
@[simp] theorem pkd_str : T.pkd (.str a) = .str a := rfl
@[simp] theorem pkd_fn : T.pkd (.fn n) = .fn n := rfl
@[simp] theorem pkd_scr : T.pkd (.scr ns) = .scr ns := rfl
@[simp] theorem pkd_tup : T.pkd (.tup xs) = .tup xs := rfl
@[simp] theorem pkd_ktup : T.pkd (.ktup xs) = .ktup xs := rfl
@[simp] theorem pkd_lsh : T.pkd (.lst .sh xs) = .lst .sh xs := rfl
@[simp] theorem pkd_low : T.pkd (.lst .ow xs) = .lst .pk xs := rfl
@[simp] theorem pkd_lpk : T.pkd (.lst .pk xs) = .lst .pk xs := rfl
@[simp] theorem pkd_dsh : T.pkd (.dct .sh k kvs) = .dct .sh k kvs := rfl
@[simp] theorem pkd_dow : T.pkd (.dct .ow k kvs) = .dct .pk k kvs := rfl
@[simp] theorem pkd_dpk : T.pkd (.dct .pk k kvs) = .dct .pk k kvs := rfl
@[simp] theorem pkd_dlk : T.pkd (.dct .lk k kvs) = .dct .pk k kvs := rfl
@[simp] theorem pkd_osh : T.pkd (.obj .sh c xs) = .obj .sh c xs := rfl
@[simp] theorem pkd_oow : T.pkd (.obj .ow c xs) = .obj .pk c (xs.map T.pkd1) := rfl
@[simp] theorem np_non : T.np .non = true := rfl
@[simp] theorem np_bl : T.np (.bl p) = true := rfl
@[simp] theorem np_int : T.np (.int i) = true := rfl
@[simp] theorem np_str : T.np (.str a) = true := rfl
@[simp] theorem np_fn : T.np (.fn n) = true := rfl
@[simp] theorem np_scr : T.np (.scr ns) = true := rfl
@[simp] theorem np_tup : T.np (.tup xs) = true := rfl
@[simp] theorem np_ktup : T.np (.ktup xs) = true := rfl
@[simp] theorem np_lsh : T.np (.lst .sh xs) = true := rfl
@[simp] theorem np_low : T.np (.lst .ow xs) = true := rfl
@[simp] theorem np_lpk : T.np (.lst .pk xs) = false := rfl
@[simp] theorem np_dsh : T.np (.dct .sh k kvs) = true := rfl
@[simp] theorem np_dow : T.np (.dct .ow k kvs) = true := rfl
@[simp] theorem np_dlk : T.np (.dct .lk k kvs) = true := rfl
@[simp] theorem np_dpk : T.np (.dct .pk k kvs) = false := rfl
@[simp] theorem np_osh : T.np (.obj .sh c xs) = true := rfl
@[simp] theorem np_oow : T.np (.obj .ow c xs) = true := rfl
@[simp] theorem np_opk : T.np (.obj .pk c xs) = false := rfl
@[simp] theorem frz_non : T.frz .non = some .non := rfl
@[simp] theorem frz_bl : T.frz (.bl p) = some (.bl p) := rfl
@[simp] theorem frz_int : T.frz (.int i) = some (.int i) := rfl
@[simp] theorem frz_str : T.frz (.str a) = some (.str a) := rfl
@[simp] theorem frz_fn : T.frz (.fn n) = some (.fn n) := rfl
@[simp] theorem frz_scr : T.frz (.scr ns) = some (.scr ns) := rfl
@[simp] theorem frz_tup : T.frz (.tup xs) = some (.tup xs) := rfl
@[simp] theorem frz_ktup : T.frz (.ktup xs) = some (.ktup xs) := rfl
@[simp] theorem frz_lsh : T.frz (.lst .sh xs) = some (.lst .sh xs) := rfl
@[simp] theorem frz_low : T.frz (.lst .ow xs) = some (.lst .sh xs) := rfl
@[simp] theorem frz_lpk : T.frz (.lst .pk xs) = none := rfl
@[simp] theorem frz_dsh : T.frz (.dct .sh k kvs) = some (.dct .sh k kvs) := rfl
@[simp] theorem frz_dow : T.frz (.dct .ow k kvs) = some (.dct .sh k kvs) := rfl
@[simp] theorem frz_dpk : T.frz (.dct .pk k kvs) = none := rfl
@[simp] theorem frz_osh : T.frz (.obj .sh c xs) = some (.obj .sh c xs) := rfl
@[simp] theorem frz_oow : T.frz (.obj .ow c xs) = (frzs1 xs).map fun fs' => .obj .sh c fs' := rfl
@[simp] theorem tru_non : T.tru .non = .ok false := rfl
@[simp] theorem tru_bl : T.tru (.bl p) = .ok p := rfl
@[simp] theorem tru_int : T.tru (.int i) = .ok (i != 0) := rfl
@[simp] theorem tru_tup : T.tru (.tup xs) = .ok (!xs.isEmpty) := rfl
@[simp] theorem tru_lst : T.tru (.lst fl xs) = .ok (!xs.isEmpty) := rfl
@[simp] theorem iter_lst : T.iter (.lst fl xs) = .ok xs := rfl
@[simp] theorem iter_tup : T.iter (.tup xs) = .ok xs := rfl
@[simp] theorem iter_str : T.iter (.str a) = .ok (strTs a) := rfl
@[simp] theorem tyn_non : T.tyn .non = some "NoneType" := rfl
@[simp] theorem tyn_bl : T.tyn (.bl p) = some "bool" := rfl
@[simp] theorem tyn_int : T.tyn (.int i) = some "int" := rfl
@[simp] theorem tyn_str : T.tyn (.str a) = some "str" := rfl
@[simp] theorem tyn_tup : T.tyn (.tup xs) = some "tuple" := rfl
@[simp] theorem tyn_ktup : T.tyn (.ktup xs) = some "tuple" := rfl
@[simp] theorem tyn_lst : T.tyn (.lst fl xs) = some "list" := rfl
@[simp] theorem tyn_dctk : T.tyn (.dct fl .k kvs) = some "dict" := rfl
/-! operators -/
@[simp] theorem opAdd_i : opAdd (.int i) (.int j) = .ok (.int (i + j)) := rfl
@[simp] theorem opAdd_s : opAdd (.str a) (.str b) = if a.length + b.length ≤ 10000000 then .ok (.str (a ++ b)) else .stuck := rfl
@[simp] theorem opAdd_l {fl' : Fl} : opAdd (.lst fl xs) (.lst fl' ys) = if xs.length + ys.length ≤ 10000000 then .ok (.lst .ow (xs ++ ys)) else .stuck := rfl
@[simp] theorem opAdd_t : opAdd (.tup xs) (.tup ys) = if xs.length + ys.length ≤ 10000000 then .ok (.tup (xs ++ ys)) else .stuck := rfl
@[simp] theorem opSub_i : opSub (.int i) (.int j) = .ok (.int (i - j)) := rfl
@[simp] theorem opMul_i : opMul (.int i) (.int j) = if (-(2 ^ 64) < i ∧ i < 2 ^ 64) ∨ (-(2 ^ 64) < j ∧ j < 2 ^ 64) then .ok (.int (i * j)) else .stuck := rfl
@[simp] theorem opMul_l : opMul (.lst fl xs) (.int j) = if -(2 ^ 63) ≤ j ∧ j < 2 ^ 63 ∧ xs.length * j.toNat ≤ 10000000 then .ok (.lst .ow (List.replicate j.toNat xs).flatten) else .stuck := rfl
@[simp] theorem opDiv_i : opDiv (.int i) (.int j) = if 0 < j ∧ j < 1073741824 then .ok (.int (i / j)) else .stuck := rfl
@[simp] theorem opMod_i : opMod (.int i) (.int j) = if 0 < j then .ok (.int (i % j)) else .stuck := rfl
@[simp] theorem opPow_i : opPow (.int i) (.int j) = if 0 ≤ j ∧ j ≤ 1000000 ∧ i.natAbs < 2 ^ 64 then .ok (.int (i ^ j.toNat)) else .stuck := rfl
@[simp] theorem opLt_i : opLt (.int i) (.int j) = .ok (.bl (decide (i < j))) := rfl
@[simp] theorem opLe_i : opLe (.int i) (.int j) = .ok (.bl (decide (i ≤ j))) := rfl
@[simp] theorem opGt_i : opGt (.int i) (.int j) = .ok (.bl (decide (j < i))) := rfl
@[simp] theorem opGe_i : opGe (.int i) (.int j) = .ok (.bl (decide (j ≤ i))) := rfl
@[simp] theorem opIs_non {t : T} : opIs t .non = .ok (.bl t.isNon) := rfl
@[simp] theorem opIsNot_non {t : T} : opIsNot t .non = .ok (.bl (!t.isNon)) := rfl
@[simp] theorem isNon_non : T.isNon .non = true := rfl
@[simp] theorem isNon_bl : T.isNon (.bl p) = false := rfl
@[simp] theorem isNon_int : T.isNon (.int i) = false := rfl
@[simp] theorem isNon_str : T.isNon (.str a) = false := rfl
@[simp] theorem isNon_tup : T.isNon (.tup xs) = false := rfl
@[simp] theorem isNon_lst : T.isNon (.lst fl xs) = false := rfl
@[simp] theorem opIx_t : opIx (.tup xs) (.int i) = (match atI xs i with | some t => .ok t | none => .stuck) := rfl
@[simp] theorem opIx_l : opIx (.lst fl xs) (.int i) = (match atI xs i with | some t => .ok t | none => .stuck) := rfl
@[simp] theorem opIx_scr : opIx (.scr ns) (.int i) = (match atI ns i with | some n => .ok (.int n) | none => .stuck) := rfl
@[simp] theorem opIx_d {t : T} : opIx (.dct fl k kvs) t = if keyOk k t = true then (match dget kvs t with | some t => .ok t | none => .stuck) else .stuck := by cases t <;> rfl
@[simp] theorem opSl_l {l u : Option Int} : opSl (.lst fl xs) l u = .ok (.lst .ow (cutT xs l u)) := rfl
@[simp] theorem opSl_t {l u : Option Int} : opSl (.tup xs) l u = .ok (.tup (cutT xs l u)) := rfl
@[simp] theorem caLen_l : caLen [.lst fl xs] = .ok (.int xs.length) := rfl
@[simp] theorem caLen_t : caLen [.tup xs] = .ok (.int xs.length) := rfl
@[simp] theorem caLen_scr : caLen [.scr ns] = .ok (.int ns.length) := rfl
@[simp] theorem caLen_d : caLen [.dct fl .k kvs] = .ok (.int kvs.length) := rfl
@[simp] theorem caLen_s : caLen [.str a] = if a.length ≤ 10000000 then .ok (.int a.length) else .stuck := rfl
@[simp] theorem caInt_i : caInt [.int i] = .ok (.int i) := rfl
@[simp] theorem caList_l : caList [.lst fl xs] = .ok (.lst .ow xs) := rfl
@[simp] theorem caList_t : caList [.tup xs] = .ok (.lst .ow xs) := rfl
@[simp] theorem caList_d : caList [.dct fl .k kvs] = .ok (.lst .ow (kvs.map (·.1))) := rfl
@[simp] theorem caTuple_l : caTuple [.lst fl xs] = .ok (.tup xs) := rfl
@[simp] theorem caTuple_t : caTuple [.tup xs] = .ok (.tup xs) := rfl
@[simp] theorem caDict_d : caDict [.dct fl .k kvs] = .ok (.dct .ow .k kvs) := rfl
@[simp] theorem caCount_l {u : T} : caCount (.lst fl xs) [u] = if (u.dok 63 && doks 63 xs) = true then .ok (.int (xs.countP fun t => t.eqv u : Nat)) else .stuck := rfl
@[simp] theorem isTy_l : isTy "list" (.lst fl xs) = true := rfl
@[simp] theorem isTyR_l : isTyR "list" (.lst fl xs) = true := rfl
@[simp] theorem isTyR_d : isTyR "dict" (.dct fl k kvs) = true := rfl
@[simp] theorem wrAppend_e {u : T} : wrAppend (.lst .ow xs) [u] = if xs.length < 10000000 then some (.lst .ow (xs ++ [u]), .non) else none := rfl
@[simp] theorem wrSet_l {u : T} : wrSet (.lst .ow xs) (.int i) u = (match ixN xs.length i with | some k => some (.lst .ow (xs.set k u)) | none => none) := rfl
@[simp] theorem wrSet_d {s u : T} : wrSet (.dct .ow k kvs) s u = if keyOk k s = true ∧ kvs.length < 10000000 then some (.dct .ow k (dput kvs s u)) else none := by cases s <;> rfl
@[simp] theorem rdIx_l : rdIx (.lst fl xs) (.int i) = if 0 ≤ i then atI xs i else none := rfl
@[simp] theorem rdIx_d {s : T} : rdIx (.dct fl k kvs) s = if keyOk k s = true then dget kvs s else none := by cases s <;> rfl
@[simp] theorem ditems_e : T.ditems (.dct fl .k kvs) = .ok (kvs.map fun p => .tup [p.1, p.2]) := rfl
@[simp] theorem dkeys_e : T.dkeys (.dct fl k kvs) = .ok (kvs.map (·.1)) := rfl
@[simp] theorem dvals_e : T.dvals (.dct fl .k kvs) = .ok (kvs.map (·.2)) := rfl
@[simp] theorem eqv_str : T.eqv (.str a) (.str b) = (a == b) := rfl
@[simp] theorem eqv_int : T.eqv (.int i) (.int j) = (i == j) := rfl
@[simp] theorem keyOk_s : keyOk .k (.str a) = true := rfl
@[simp] theorem keyOk_i : keyOk .k (.int i) = true := rfl
end
/-! ### loops -/
section
variable {tg : T → Env → Option Env} {b : Env → ResS}
/-- what a turn must give -/
def Turn (I : Env → Prop) (R : ResS → Prop) : ResS → Prop
  | .ok .next ρ' => I ρ'
  | .ok .cont ρ' => I ρ'
  | .ok .brk ρ' => R (.ok .next ρ')
  | r => R r
theorem forL_ind (I : List T → Env → Prop) (R : ResS → Prop) (hs : ∀ t r ρ, I (t :: r) ρ → ∃ ρ1, tg t ρ = some ρ1 ∧ Turn (I r) R (b ρ1)) (he : ∀ ρ, I [] ρ → R (.ok .next ρ)) : ∀ ts ρ, I ts ρ → R (forL tg b ts ρ)
  | [], ρ, h => he ρ h
  | t :: r, ρ, h => by
    obtain ⟨ρ1, e, q⟩ := hs t r ρ h
    unfold forL
    rw [e]
    dsimp only
    generalize hB : b ρ1 = B at q
    cases B with
    | ok fl ρ' => cases fl with
      | next => exact forL_ind I R hs he r ρ' q
      | brk => exact q
      | cont => exact forL_ind I R hs he r ρ' q
      | ret v => exact q
    | exc c p ρ' => exact q
    | stuck => exact q
theorem whileN_ind {c : Env → Res Bool} (I : Nat → Env → Prop) (R : ResS → Prop) (hs : ∀ n ρ, I n ρ → (c ρ = .ok false ∧ R (.ok .next ρ)) ∨ (c ρ = .ok true ∧ ∃ k, n = k + 1 ∧ Turn (I k) R (b ρ))) : ∀ n k ρ, n < k → I n ρ → R (whileN c b k ρ)
  | n, 0, ρ, hk, h => by omega
  | n, k + 1, ρ, hk, h => by
    unfold whileN
    rcases hs n ρ h with ⟨e, q⟩ | ⟨e, m, rfl, q⟩
    · rw [e]; exact q
    · rw [e]
      simp only [Res.st, if_true]
      generalize hB : b ρ = B at q
      cases B with
      | ok fl ρ' => cases fl with
        | next => exact whileN_ind I R hs m k ρ' (by omega) q
        | brk => exact q
        | cont => exact whileN_ind I R hs m k ρ' (by omega) q
        | ret v => exact q
      | exc c p ρ' => exact q
      | stuck => exact q
/-- a stretch of a loop -/
theorem forL_fold {σ : Type} (I : σ → Env → Prop) (step : σ → T → σ) {rest : List T} : ∀ (ts : List T) (s : σ) (ρ : Env), (∀ t ∈ ts, ∀ s ρ, I s ρ → ∃ ρ1 ρ', tg t ρ = some ρ1 ∧ (b ρ1 = .ok .next ρ' ∨ b ρ1 = .ok .cont ρ') ∧ I (step s t) ρ') → I s ρ → ∃ ρ', I (ts.foldl step s) ρ' ∧ forL tg b (ts ++ rest) ρ = forL tg b rest ρ'
  | [], s, ρ, _, h => ⟨ρ, h, rfl⟩
  | t :: r, s, ρ, hs, h => by
    obtain ⟨ρ1, ρ', e1, e2, h'⟩ := hs t List.mem_cons_self s ρ h
    obtain ⟨ρ2, i2, q⟩ := forL_fold I step r (step s t) ρ' (fun t ht => hs t (List.mem_cons_of_mem _ ht)) h'
    refine ⟨ρ2, i2, ?_⟩
    rw [← q]
    show forL tg b (t :: (r ++ rest)) ρ = _
    conv => lhs; unfold forL
    rw [e1]
    dsimp only
    rcases e2 with e2 | e2 <;> rw [e2]
theorem forL_folds {σ : Type} (I : σ → Env → Prop) (step : σ → T → σ) (ts : List T) (s : σ) (ρ : Env) (hs : ∀ t ∈ ts, ∀ s ρ, I s ρ → ∃ ρ1 ρ', tg t ρ = some ρ1 ∧ (b ρ1 = .ok .next ρ' ∨ b ρ1 = .ok .cont ρ') ∧ I (step s t) ρ') (h : I s ρ) : ∃ ρ', I (ts.foldl step s) ρ' ∧ forL tg b ts ρ = .ok .next ρ' := by
  obtain ⟨ρ', i, e⟩ := forL_fold I step (rest := []) ts s ρ hs h
  rw [List.append_nil] at e
  exact ⟨ρ', i, e⟩
theorem forL_skip (I : Env → Prop) {rest : List T} (ts : List T) (ρ : Env) (hs : ∀ t ∈ ts, ∀ ρ, I ρ → ∃ ρ1 ρ', tg t ρ = some ρ1 ∧ (b ρ1 = .ok .next ρ' ∨ b ρ1 = .ok .cont ρ') ∧ I ρ') (h : I ρ) : ∃ ρ', I ρ' ∧ forL tg b (ts ++ rest) ρ = forL tg b rest ρ' :=
  let ⟨ρ', i, e⟩ := forL_fold (σ := Unit) (fun _ => I) (fun _ _ => ()) (rest := rest) ts () ρ (fun t ht _ ρ h => hs t ht ρ h) h
  ⟨ρ', i, e⟩
theorem forL_skips (I : Env → Prop) (ts : List T) (ρ : Env) (hs : ∀ t ∈ ts, ∀ ρ, I ρ → ∃ ρ1 ρ', tg t ρ = some ρ1 ∧ (b ρ1 = .ok .next ρ' ∨ b ρ1 = .ok .cont ρ') ∧ I ρ') (h : I ρ) : ∃ ρ', I ρ' ∧ forL tg b ts ρ = .ok .next ρ' :=
  let ⟨ρ', i, e⟩ := forL_folds (σ := Unit) (fun _ => I) (fun _ _ => ()) ts () ρ (fun t ht _ ρ h => hs t ht ρ h) h
  ⟨ρ', i, e⟩
/-- a turn that leaves the loop -/
theorem forL_ret {t v : T} {r : List T} {ρ ρ1 ρ' : Env} (h1 : tg t ρ = some ρ1) (h2 : b ρ1 = .ok (.ret v) ρ') : forL tg b (t :: r) ρ = .ok (.ret v) ρ' := by
  unfold forL; rw [h1]; dsimp only; rw [h2]
theorem forL_exc {t : T} {r : List T} {ρ ρ1 ρ' : Env} {c : Nat} {p : List T} (h1 : tg t ρ = some ρ1) (h2 : b ρ1 = .exc c p ρ') : forL tg b (t :: r) ρ = .exc c p ρ' := by
  unfold forL; rw [h1]; dsimp only; rw [h2]
theorem forL_brk {t : T} {r : List T} {ρ ρ1 ρ' : Env} (h1 : tg t ρ = some ρ1) (h2 : b ρ1 = .ok .brk ρ') : forL tg b (t :: r) ρ = .ok .next ρ' := by
  unfold forL; rw [h1]; dsimp only; rw [h2]
theorem forL_next {t : T} {r : List T} {ρ ρ1 ρ' : Env} (h1 : tg t ρ = some ρ1) (h2 : b ρ1 = .ok .next ρ' ∨ b ρ1 = .ok .cont ρ') : forL tg b (t :: r) ρ = forL tg b r ρ' := by
  conv => lhs; unfold forL
  rw [h1]; dsimp only; rcases h2 with h2 | h2 <;> rw [h2]
/-- a comprehension, item by item -/
theorem compL_map {tt : Env → Res Bool} {el : Env → Res T} {ρ : Env} {ρ1 : T → Env} {p : T → Bool} {u : T → T} : ∀ {ts : List T}, (∀ t ∈ ts, tg t ρ = some (ρ1 t)) → (∀ t ∈ ts, tt (ρ1 t) = .ok (p t)) → (∀ t ∈ ts, p t = true → ∃ v, el (ρ1 t) = .ok v ∧ v.frz = some (u t)) → compL tg tt el ρ ts = .ok ((ts.filter p).map u)
  | [], _, _, _ => rfl
  | t :: r, h1, h2, h3 => by
    have ih := compL_map (tt := tt) (el := el) (ts := r) (fun t ht => h1 t (List.mem_cons_of_mem _ ht)) (fun t ht => h2 t (List.mem_cons_of_mem _ ht)) fun t ht => h3 t (List.mem_cons_of_mem _ ht)
    unfold compL
    rw [h1 t List.mem_cons_self]
    dsimp only
    rw [h2 t List.mem_cons_self]
    cases c : p t with
    | true =>
      obtain ⟨v, e1, e2⟩ := h3 t List.mem_cons_self c
      simp [e1, e2, ih, List.filter_cons, c]
    | false => simp [ih, List.filter_cons, c]
theorem dComp_eq {src : Env → Res (List T)} {tt : Env → Res Bool} {el : Env → Res T} {own : List Nat} {ρ : Env} {ρ1 : T → Env} {p : T → Bool} {u : T → T} {ts : List T} (h0 : src ρ = .ok ts) (hl : ts.length ≤ 10000000) (h1 : ∀ t ∈ ts, tg t (wipeE ρ own) = some (ρ1 t)) (h2 : ∀ t ∈ ts, tt (ρ1 t) = .ok (p t)) (h3 : ∀ t ∈ ts, p t = true → ∃ v, el (ρ1 t) = .ok v ∧ v.frz = some (u t)) :
    dComp src tg tt el own ρ = .ok (.lst .ow ((ts.filter p).map u)) := by
  unfold dComp
  rw [h0]; simp only [Res.bind]; rw [if_pos hl, compL_map h1 h2 h3]
end
theorem seq_ok {f g : Env → ResS} {ρ ρ' : Env} (h : f ρ = .ok .next ρ') : dSeq f g ρ = g ρ' := by unfold dSeq; rw [h]
theorem seq_ret {f g : Env → ResS} {ρ ρ' : Env} {t : T} (h : f ρ = .ok (.ret t) ρ') : dSeq f g ρ = .ok (.ret t) ρ' := by unfold dSeq; rw [h]
theorem seq_exc {f g : Env → ResS} {ρ ρ' : Env} {c : Nat} {p : List T} (h : f ρ = .exc c p ρ') : dSeq f g ρ = .exc c p ρ' := by unfold dSeq; rw [h]
end Fn
namespace Fn
open PySem PySem.Spec L2
theorem dRun_ret {n : Nat} {b : Env → ResS} {ts : List T} {v : T} {ρ' : Env} (h : b (ts.map some ++ List.replicate (n - ts.length) none) = .ok (.ret v) ρ') : dRun n b ts = .ok v := by unfold dRun; rw [h]
theorem dRun_next {n : Nat} {b : Env → ResS} {ts : List T} {ρ' : Env} (h : b (ts.map some ++ List.replicate (n - ts.length) none) = .ok .next ρ') : dRun n b ts = .ok .non := by unfold dRun; rw [h]
theorem dRun_exc {n : Nat} {b : Env → ResS} {ts : List T} {c : Nat} {p : List T} {ρ' : Env} (h : b (ts.map some ++ List.replicate (n - ts.length) none) = .exc c p ρ') : dRun n b ts = .exc c p := by unfold dRun; rw [h]
end Fn
namespace Fn
open PySem PySem.Spec L2
theorem dput_len (a : List (T × T)) (k v : T) : (dput a k v).length ≤ a.length + 1 := by
  unfold dput; split <;> simp
theorem compD_fold {tg : T → Env → Option Env} {tt : Env → Res Bool} {ek ev : Env → Res T} {ρ : Env} {ρ1 : T → Env} {k u : T → T} : ∀ {ts : List T} {acc : List (T × T)}, acc.length + ts.length < 10000000 → (∀ t ∈ ts, tg t ρ = some (ρ1 t) ∧ tt (ρ1 t) = .ok true ∧ ek (ρ1 t) = .ok (k t) ∧ (k t).isKey = true ∧ ∃ v, ev (ρ1 t) = .ok v ∧ v.frz = some (u t)) →
    compD tg tt ek ev ρ acc ts = .ok (ts.foldl (fun a t => dput a (k t) (u t)) acc)
  | [], acc, _, _ => rfl
  | t :: r, acc, hl, h => by
    obtain ⟨h1, h2, h3, h4, v, h5, h6⟩ := h t List.mem_cons_self
    rw [List.length_cons] at hl
    have := dput_len acc (k t) (u t)
    rw [List.foldl_cons, ← compD_fold (acc := dput acc (k t) (u t)) (by omega) fun t ht => h t (List.mem_cons_of_mem _ ht)]
    conv => lhs; unfold compD
    have hl' : acc.length < 10000000 := by omega
    simp only [h1, h2, h3, h4, h5, h6, hl', if_true]
theorem dCompD_eq {pk : Bool} {src : Env → Res (List T)} {tg : T → Env → Option Env} {tt : Env → Res Bool} {ek ev : Env → Res T} {own : List Nat} {ρ : Env} {ρ1 : T → Env} {k u : T → T} {ts : List T} (h0 : src ρ = .ok ts) (hl : ts.length < 10000000) (h : ∀ t ∈ ts, tg t (wipeE (pkIf pk ρ) own) = some (ρ1 t) ∧ tt (ρ1 t) = .ok true ∧ ek (ρ1 t) = .ok (k t) ∧ (k t).isKey = true ∧ ∃ v, ev (ρ1 t) = .ok v ∧ v.frz = some (u t)) :
    dCompD pk src tg tt ek ev own ρ = .ok (.dct .ow .k (ts.foldl (fun a t => dput a (k t) (u t)) [])) := by
  unfold dCompD
  rw [h0]; simp only [Res.bind]; rw [compD_fold (by simpa using hl) h]
end Fn
namespace Fn
open PySem PySem.Spec L2
@[simp] theorem eqv_bl {a b : Bool} : T.eqv (.bl a) (.bl b) = (a == b) := rfl
theorem dRng1_ok {f : Env → Res T} {ρ : Env} {n : Int} (hf : f ρ = .ok (.int n)) (h0 : -1000000000 ≤ n) (h1 : n ≤ 1000000000) : dRng1 f ρ = .ok (rngTs 0 n.toNat) := by
  have h : -(2 ^ 62) ≤ n ∧ n < 2 ^ 62 := ⟨Int.le_trans (by decide) h0, Int.lt_of_le_of_lt h1 (by decide)⟩
  unfold dRng1; rw [hf]; exact if_pos h
theorem dRng2_ok {f g : Env → Res T} {ρ : Env} {m n : Int} (hf : f ρ = .ok (.int m)) (hg : g ρ = .ok (.int n)) (h0 : -1000000000 ≤ m) (h1 : m ≤ 1000000000) (h2 : -1000000000 ≤ n) (h3 : n ≤ 1000000000) : dRng2 f g ρ = .ok (rngTs m (n - m).toNat) := by
  have h : -(2 ^ 62) ≤ m ∧ m < 2 ^ 62 ∧ -(2 ^ 62) ≤ n ∧ n < 2 ^ 62 := ⟨Int.le_trans (by decide) h0, Int.lt_of_le_of_lt h1 (by decide), Int.le_trans (by decide) h2, Int.lt_of_le_of_lt h3 (by decide)⟩
  unfold dRng2; rw [hf, hg]; exact if_pos h
theorem rngEnd_ok {ρ : Env} {n : Int} (h0 : -1000000000 ≤ n) (h1 : n ≤ 1000000000) : rngEnd [.int n] ρ = .ok (rngTs 0 n.toNat) ρ := by
  have h : -(2 ^ 62) ≤ n ∧ n < 2 ^ 62 := ⟨Int.le_trans (by decide) h0, Int.lt_of_le_of_lt h1 (by decide)⟩
  exact if_pos h
end Fn

/-! Fn42: what the end wants: exception classes, the def that tells how a lambda ends. -/
namespace Fn
open PySem PySem.Spec L2
variable [Tbs]
section
variable {x : Tx}
theorem def_initD {P : Program} {w : World} {mg : Str → Option Value} {base : Heap} {nm qual : Str} {st : Stmt} {f : Addr} {k : Nat} {p1 p2 p3 p4 : Pos} {oc : Value} {od : Option Addr} {dV kV doc pm : Value} {an : Option Addr} {cdv ct : Value} {osl : Array (Option Value)}
    (lk : x.K.lookup f = some ⟨oc, od, .func (PySem.W.fnOf nm qual (defArgs st) (defBody st) (defScope st) dV kV doc pm an cdv ct), osl⟩) (hcd : PySem.W.codeIn x.K cdv qual = true) (Sc : FnScope ["self", "value"] ["self", "value"] (defScope st))
    (hb : defBody st = [.Assign [.Attribute (.Name "self" p1) "value" p2] (.Name "value" p3) p4])
    (hs : ∀ env, swapsWith (.Name "value" p3) (some (.Attribute (.Name "self" p1) "value" p2)) p4.line env = pure false := by intro _; rfl) (v1 : Vis (defScope st) "self" := by first | exact Or.inl rfl | exact Or.inr (Or.inl rfl) | exact Or.inr (Or.inr rfl)) (v2 : Vis (defScope st) "value" := by first | exact Or.inl rfl | exact Or.inr (Or.inl rfl) | exact Or.inr (Or.inr rfl)) :
    FnOk P w x.K mg base (L2.CX P w) (k + 1) f (PySem.W.fnOf nm qual (defArgs st) (defBody st) (defScope st) dV kV doc pm an cdv ct) ["self", "value"] (spIV x) := by
  refine fn_of lk hcd Sc (fun vs H Q E h => h.1) (fun A outer s H vs Q E hr h => ?_)
  obtain ⟨hl, a, C, w', rfl, T, hf, ha, q⟩ := h
  refine ⟨_, by rw [hb]; exact pss_one (ps_ost (pe_var (i := 0) (x := "self") rfl v1 (by decide) (by decide)) (pe_var (i := 1) (x := "value") rfl v2 (by decide) (by decide)) (hs _)), ?_⟩
  exact ⟨w', rfl, .ref a, rfl, a, C, rfl, T, hf, .inl ⟨ha, fun dx hn ne => q dx hn ne⟩⟩
/-- its two arguments are handed over -/
theorem init_binds {K : PySem.W.Frag} {nm qual : Str} {st : Stmt} {TT : Addr} {kV doc pm : Value} {an : Option Addr} {cdv ct : Value} {oT : Obj} {n : Nat}
    (lT : K.lookup TT = some oT) (hT : oT.data = .seq #[.none] n)
    (h : ∀ (us : List Value), us.length = 2 → ∃ k : Option (Array Value) → Sem (List (Str × Value)), bindArgs (PySem.W.fnOf nm qual (defArgs st) (defBody st) (defScope st) (.ref TT) kV doc pm an cdv ct) ⟨us, []⟩ = seqItems? (.ref TT) >>= k ∧ k (some #[.none]) = pure ((["self", "value"] : List Str).zip us)) :
    Binds K (PySem.W.fnOf nm qual (defArgs st) (defBody st) (defScope st) (.ref TT) kV doc pm an cdv ct) ["self", "value"] [] := by
  intro s us X hlen
  rw [List.append_nil]
  have l2 : us.length = 2 := by simpa using hlen
  obtain ⟨k, e1, e2⟩ := h us l2
  refine BindsTo.of_looks fun M => ?_
  rw [e1]
  exact looks_items X lT hT (.of_pure e2)
theorem sc_init {sc : Scope} (h : FnScope ["self", "value"] ["self", "value"] sc) : FnScope ["self", "value"] ["self", "value"] sc := h
end
end Fn

/-! Fn43: starred displays; loops, several targets, methods over expressions that write. -/
namespace Fn
open PySem PySem.Spec L2
variable [Tbs]
section
variable {x : Tx} {β β' : Bo} {φ φ' φ1 φ2 : Nat → List Addr} {G G' G2 G3 G1 G0 H H' H0 H1 H2 H3 L : Hp} {W : XK} {X : Cx} {f : Fl} {fp : List Addr} {v : V} {σ σ' : L2.St} {ρ ρ' ρ1 ρ2 ρn : Env} {tg : Expr} {bs : Nat → Bool} {pos : Pos} {Po : Addr → Prop}
/-! ### starred displays -/
structure PAs (x : Tx) (X : Cx) (es : List Expr) (f : Env → Res (List T)) : Prop where
  run : XOk x X → ∀ W : XK, Takes X (fun c d _ H => W c d H) → PA X es (tPA x W f)
theorem PAr.st {es : List Expr} {f : Env → Res (List T)} (h : PAr x X es f) : PAs x X es f := ⟨h.run⟩
theorem pas1 {e : Expr} {es : List Expr} {f : Env → Res T} {g : Env → Res (List T)} (h : P x X e f) (q : PAs x X es g) (hs : starEach (e :: es) X.env = (false, eval e X.env) :: starEach es X.env := by rfl) : PAs x X (e :: es) (dCons f g) :=
  ⟨fun ok W tk => pa_imp (pa_cons (h.run ok W tk) (q.run ok W tk) hs) fun σ H Q ⟨β, φ, G, ρ, E, h⟩ => ⟨β, φ, G, ρ, E, Pst.bind h fun t G1 H1 s1 h1 v1 f1 r1 n1 d1 => ⟨β, φ, G1, ρ, E.step s1, Pst.bind (h1.later s1) fun ts G2 H2 s2 h2 vs f2 r2 n2 d2 =>
    h2 G2 H2 s2 (v1 :: vs) (f1 ++ f2) (.cons (r1.step s2) r2) (List.nodup_append.mpr ⟨n1, n2, fun a ha b hb z => r1.live a ha (by rw [z]; exact (d2 b hb).1)⟩) fun a ha => by
      rcases List.mem_append.mp ha with z | z
      · refine ⟨(d1 a z).1, ?_⟩
        exact s2.notIn (d1 a z).2 (r1.there a z) id
      · exact ⟨s1.ext.back (d2 a z).1, (d2 a z).2⟩⟩⟩⟩
/-- the items of a list or a tuple -/
def T.items : T → Res (List T)
  | .lst _ ts => .ok ts
  | .tup ts => .ok ts
  | _ => .stuck
def dStar (f : Env → Res T) (g : Env → Res (List T)) : Env → Res (List T) := fun ρ => (f ρ).bind fun t => t.items.bind fun us => (g ρ).bind fun ts => .ok (us ++ ts)
theorem RepsS.reps {vs : List V} {ts : List T} (h : RepsS x G vs ts) : Reps x G H vs ts [] := by
  induction vs generalizing ts with
  | nil => cases h; exact .nil
  | cons v vs ih => cases h with | cons a r => exact .cons (f1 := []) (f2 := []) (.s a) (ih r)
theorem Reps.append {vs ws : List V} {ts us : List T} {f1 f2 : List Addr} (h : Reps x G H vs ts f1) (q : Reps x G H ws us f2) : Reps x G H (vs ++ ws) (ts ++ us) (f1 ++ f2) := by
  induction vs generalizing ts f1 with
  | nil => cases h; exact q
  | cons v vs ih => cases h with | cons a r => rw [List.append_assoc]; exact .cons a (ih r)
theorem pas_star {e : Expr} {p : Pos} {es : List Expr} {f : Env → Res T} {g : Env → Res (List T)} (h : P x X e f) (q : PAs x X es g) (hs : starEach (.Starred e p :: es) X.env = (true, eval e X.env) :: starEach es X.env := by rfl) : PAs x X (.Starred e p :: es) (dStar f g) :=
  ⟨fun ok W tk => pa_imp (StX.pa_star (h.run ok W tk) (q.run ok W tk) hs) fun σ H Q ⟨β, φ, G, ρ, E, h⟩ => ⟨β, φ, G, ρ, E, Pst.bind h fun t G1 H1 s1 h1 v1 f1 r1 n1 d1 => by
    have key : ∃ a xs us, v1 = .ref a ∧ (SqT X.K H1 a xs ∨ SqL X.K H1 a xs) ∧ t.items = .ok us ∧ RepsS x G1 xs us := by
      cases e1 : t with
      | lst f xs =>
        rw [e1] at r1
        obtain ⟨a, vs, rfl, ha, q⟩ := r1.lst_inv s1.sub
        exact ⟨a, vs, xs, rfl, .inr (.of ha), rfl, q⟩
      | tup xs =>
        rw [e1] at r1
        obtain ⟨a, vs, rfl, ha, q⟩ := r1.tup_inv s1.sub
        exact ⟨a, vs, xs, rfl, .inl (.of ha), rfl, q⟩
      | _ => rw [e1] at h1; exact h1.elim
    obtain ⟨a, xs, us, rfl, hx, eu, ru⟩ := key
    rw [eu] at h1
    refine ⟨a, xs, rfl, hx, β, φ, G1, ρ, E.step s1, Pst.bind (h1.later s1) fun ts G2 H2 s2 h2 vs f2 r2 n2 d2 => ?_⟩
    exact h2 G2 H2 s2 (xs ++ vs) ([] ++ f2) (Reps.append (ru.le s2.le).reps r2) n2 fun a ha => ⟨s1.ext.back (d2 a ha).1, (d2 a ha).2⟩⟩⟩
def dTupS (fa : Env → Res (List T)) : Env → Res T := dTup fa
theorem p_tupS {es : List Expr} {fa : Env → Res (List T)} {k : Nat} (ha : PAs x X es fa) : P x X (.Tuple es k pos) (dTup fa) :=
  ⟨fun ok W tk => pe_imp (pe_tup (ha.run ok W tk)) fun σ H Q ⟨β, φ, G, ρ, E, h⟩ => ⟨β, φ, G, ρ, E, Pst.bind h fun ts G1 H1 s1 h1 vs fp r nd fr => by
    cases e : frzs ts with
    | none => rw [e] at h1; exact h1.elim
    | some ts' =>
      rw [e] at h1
      simp only at h1
      split at h1
      · rename_i hl
        obtain ⟨G2, s2, r2⟩ := shareA s1 r fr e
        exact ⟨by rw [r2.length]; exact sz_of hl, Pst.newTup (h1.later s2) s2.sub r2⟩
      · exact h1.elim⟩⟩
theorem p_lstS {es : List Expr} {fa : Env → Res (List T)} (ha : PAs x X es fa) : P x X (.List es pos) (dLst fa) :=
  ⟨fun ok W tk => pe_imp (pe_lst (ha.run ok W tk)) fun σ H Q ⟨β, φ, G, ρ, E, h⟩ => ⟨β, φ, G, ρ, E, Pst.bind h fun ts G1 H1 s1 h1 vs fp r nd fr => by
    cases e : frzs ts with
    | none => rw [e] at h1; exact h1.elim
    | some ts' =>
      rw [e] at h1
      simp only at h1
      split at h1
      · rename_i hl
        obtain ⟨G2, s2, r2⟩ := shareA s1 r fr e
        exact ⟨by rw [r2.length]; exact sz_of hl, Pst.newLst (h1.later s2) s2.sub r2 fun a z => s1.ext.back z⟩
      · exact h1.elim⟩⟩
/-! ### for over a source that writes -/
def dForM (src : Env → ResM (List T)) (tg : T → Env → Option Env) (b : Env → ResS) : Env → ResS := fun ρ => (src ρ).bind fun ts ρ1 => forL tg b ts ρ1
@[reducible] def PstS.ofMα {α : Type} {r : ResM α} {g : α → Env → ResS} {D : Ends} {Q : α → (Nat → List Addr) → Hp → Hp → Env → Prop} (h : PstS x W β Po G H (r.bind g) D)
    (k : ∀ t ρ1 φ1 G1 H1, Stp Po G H G1 H1 → ER x β φ1 G1 H1 σ ρ1 → (∀ a, Ow φ1 a → Po a ∨ Vac H a) → PstS x W β Po G H (g t ρ1) D → Q t φ1 G1 H1 ρ1) : PstM x W β σ Po G H r Q := by
  cases r with
  | ok t ρ1 => exact fun φ1 G1 H1 s1 E1 o1 => k t ρ1 φ1 G1 H1 s1 E1 o1 h
  | exc c p ρ1 => exact fun d φ1 G1 H1 s1 E1 o1 xr => h d σ φ1 G1 H1 s1 E1 o1 xr
  | stuck => exact h
theorem s_forM {iter : Expr} {body : List Stmt} {src : Env → ResM (List T)} {tgf : T → Env → Option Env} {f : Env → ResS} {g : TG} {ws : List Nat} (hs : SrcM x X tg iter src) (hg : PGo x X tg g) (sg : TgSem x ws tgf g) (hw : ∀ i ∈ ws, bs i = false) (h : Ss x bs X body f) :
    S x bs X (.For tg iter body [] pos) (dForM src tgf f) := ⟨fun ok W tk pO => ps_imp (ps_for pO ok.calm (hs.run ok W tk) (hg.run ok) (h.run ok W tk pO) hs.fold) fun D σ H ⟨β, φ, G, ρ, E, hb, h⟩ => ⟨β, φ, G, ρ, E, hb.p, PstS.ofMα h fun ts ρ0 φ0 G1 H1 s1 E1 o1 h1 J G2 s2 it => by
  have h1 := h1.later s1 o1
  refine ⟨fun i m σ' H' => i + m = ts.length ∧ ∃ φ' G' ρ', ER x β φ' G' H' σ' ρ' ∧ (∀ b o, G2 b = some o → G' b = some o) ∧ PstS x W β (Ow φ') G' H' (forL tgf f (ts.drop i) ρ') D, ⟨ts.length, by omega, φ0, G2, ρ0, E1.step s2, fun _ _ z => z, PstS.later h1 s2.pure fun a z => .inl z⟩, ?_⟩
  rintro i m σ' H' ⟨him, φ', G', ρ', E', le', h'⟩
  obtain ⟨go, yl, sp⟩ := it G' H' i le' (fun a o e => by cases e) E'.sub
  by_cases hi : i < ts.length
  case neg =>
    have hi : ts.length ≤ i := by omega
    rw [List.drop_eq_nil_of_le hi] at h'
    exact .inl ⟨sp hi, h' σ' φ' G' H' (.refl _ E'.sub) E' fun a z => .inl z⟩
  case pos =>
  obtain ⟨t, ht⟩ : ∃ t, ts[i]? = some t := ⟨_, List.getElem?_eq_getElem hi⟩
  have hdrop : ts.drop i = t :: ts.drop (i + 1) := by
    rw [List.drop_eq_getElem_cons hi]
    rw [List.getElem?_eq_getElem hi] at ht
    cases ht; rfl
  rw [hdrop] at h'
  refine .inr ⟨go hi, fun σ' H' => (i + 1) + (m - 1) = ts.length ∧ ∃ φ' G' ρ', ER x β φ' G' H' σ' ρ' ∧ (∀ b o, G2 b = some o → G' b = some o) ∧ PstS x W β (Ow φ') G' H' (forL tgf f (ts.drop (i + 1)) ρ') D, fun σ' H' q => ⟨m - 1, by omega, q⟩, ?_⟩
  intro y H3 hy
  obtain ⟨G3, s3, ry⟩ := yl t y H3 ht hy
  unfold forL at h'
  cases e1 : tgf t ρ' with
  | none => rw [e1] at h'; exact h'.elim
  | some ρ1 =>
    rw [e1] at h'
    simp only at h'
    refine sg β φ' G3 H3 σ' ρ' ρ1 y t _ (E'.step s3) (fun i hi => hb.b i (hw i hi)) ry e1 fun σ2 φ2 E2 o2 n2 l2 => ?_
    refine ⟨β, φ2, G3, ρ1, E2, hb, PstS.body (PstS.later h' s3.pure fun a z => .inl (o2 a z)) fun σ4 ρ4 φ4 G4 H4 s4 E4 o4 h4 => ⟨by omega, φ4, G4, ρ4, E4, fun b o z => s4.le b o (s3.le b o (le' b o z)), h4.later s4 o4⟩⟩⟩⟩
/-! ### several targets -/
def asgTEndM (g : T → Env → Option Env) (t : T) (ρ : Env) : ResS := asgTEnd g ρ t
def dAsgTM (g : T → Env → Option Env) (f : Env → ResM T) : Env → ResS := fun ρ => (f ρ).bind (asgTEndM g)
theorem s_asgTM {e tg : Expr} {f : Env → ResM T} {g : T → Env → Option Env} {t : TG} {ws : List Nat} (ht : PGo x X tg t) (hg : TgSem x ws g t) (hw : ∀ i ∈ ws, bs i = false) (h : M x X e f)
    (hs : swapsWithSole [tg] e pos.line X.env = pure false := by rfl) (hw2 : swappedStores [tg] e X.env = pure none := by rfl) (h1 : (assignEach [tg] X.env).map (·.2) = [assign tg X.env] := by rfl) : S x bs X (.Assign [tg] e pos) (dAsgTM g f) := ⟨fun ok W tk pO => ps_imp (ps_asg (h.run ok W tk) (ht.run ok) hs hw2 h1) fun D σ H ⟨β, φ, G, ρ, E, hb, h⟩ =>
  ⟨β, φ, G, ρ, E, hb.p, PstS.ofM (g := asgTEndM g) h fun u ρ1 φ1 G1 H1 s1 E1 o1 h1 z fz rz hn nd fr => by
    unfold asgTEndM asgTEnd at h1
    cases e0 : u.frz with
    | none => rw [e0] at h1; exact h1.elim
    | some u' =>
      rw [e0] at h1
      have E2 := E1.shared fun a ha => ⟨rz.there a ha, (fr a ha).2.1, (fr a ha).2.2⟩
      have rv := rz.frz (fun a ha => (fr a ha).2.1) e0
      have s2 := s1.share rz.there fun a ha => ⟨(fr a ha).1, (fr a ha).2.1⟩
      simp only at h1
      cases e1 : g u' ρ1 with
      | none => rw [e1] at h1; exact h1.elim
      | some ρ' =>
        rw [e1] at h1
        exact hg β φ1 _ H1 σ ρ1 ρ' z u' _ E2 (fun i hi => hb.b i (hw i hi)) rv e1 fun σ' φ' E' o _ _ => h1 σ' φ' _ H1 s2 E' fun a z => o1 a (o a z)⟩⟩
/-! ### methods that write, over arguments that write -/
def wrEndM (g : T → List T → Option (T × T)) (i : Nat) (ts : List T) (ρ : Env) : ResM T := match ρ[i]? with
  | some (some t) => wrEnd g (.v i) t ρ ts
  | _ => .stuck
def dWrM (ty : String) (g : T → List T → Option (T × T)) (i : Nat) (fa : Env → ResM (List T)) : Env → ResM T := fun ρ => match ρ[i]? with
  | some (some t) => if isTy ty t = true then (fa ρ).bind (wrEndM g i) else .stuck
  | _ => .stuck
theorem m_wrM {i : Nat} {n : Str} {p0 : Pos} {name : Str} {apos : Pos} {ty id : String} {es : List Expr} {e : Expr} {g : T → List T → Option (T × T)} {fa : Env → ResM (List T)} (pa : PlainAttrs ty) (slot : Slot ty name id) (hty : typeOf (.builtin id) = pure (.type "method_descriptor")) (hs : WrSem x X ty id g) (ha : MAv x X (e :: es) fa)
    (hN : X.N[i]? = some n := by rfl) (hv : Vis X.env.scope n := by first | exact Or.inl rfl | exact Or.inr (Or.inl rfl) | exact Or.inr (Or.inr rfl)) (hd : (n == ("__debug__" : Str)) = false := by decide)
    (hcd : (n == ("__classdict__" : Str)) = false := by decide) (mc : Mc X (.Name n p0) name apos pos e es := by exact ⟨rfl, rfl, rfl, rfl, rfl⟩) : M x X (.Call (.Attribute (.Name n p0) name apos) (e :: es) [] pos) (dWrM ty g i fa) := ⟨fun ok W tk => by
  refine pe_imp (pe_bm pa slot hty (mt_top id) (pe_var hN hv hd hcd) (ha.run ok W tk) mc.base mc.few mc.line mc.star mc.plain) fun σ H Q ⟨β, φ, G, ρ, E, hp0, h⟩ => ?_
  unfold dWrM at h
  split at h
  · rename_i t e1
    split at h
    · rename_i e0
      obtain ⟨v, e2, r0, _⟩ := E.rep i t e1
      refine ⟨v, e2, by rw [ok.K]; exact r0.ty E.sub e0, β, φ, G, ρ, E, hp0, PstM.bind0 h fun ts ρ1 φ1 G1 H1 s1 E1 o1 h1 vs fp ra nd fr => ?_⟩
      obtain ⟨rr, hnp⟩ := ArgR.reps ra
      unfold wrEndM at h1
      split at h1
      · rename_i t1 e3
        unfold wrEnd at h1
        cases e4 : frzs ts with
        | none => rw [e4] at h1; exact h1.elim
        | some ts' =>
          rw [e4] at h1
          simp only at h1
          cases e5 : g t1 ts' with
          | none => rw [e5] at h1; exact h1.elim
          | some tr =>
            obtain ⟨t', r'⟩ := tr
            rw [e5] at h1
            have s2 := s1.share rr.there fun a ha => ⟨(fr a ha).1, (fr a ha).2.1⟩
            have E2 := E1.shared fun a ha => ⟨rr.there a ha, (fr a ha).2.1, (fr a ha).2.2⟩
            have rs := rr.frzs (fun a ha => (fr a ha).2.1) e4
            obtain ⟨v', e6, r1, hn1⟩ := E2.rep i t1 e3
            rw [e2] at e6; cases e6
            refine hs ok _ H1 v t1 (φ1 i) vs ts' t' r' Q E2.sub r1 (fun a ha => (E2.dis i a ha).1) rs e5 fun a ha o u w hao wo wu hn2 rv rw' => ?_
            have hg := (E2.dis i a ha).1
            refine h1 φ1 _ (upd H1 a u) (s2.comp (Stp.putW (P := Ow φ1) E2.sub hg hao wo ⟨i, ha⟩ wu) o1) (E2.upd hp0 ha hao wo wu e2 rv (T.np_of hn2)) o1 w [] (.s rw') rw'.np .nil fun _ z => by cases z
      · exact h1.elim
    · exact h.elim
  · exact h.elim⟩
end
end Fn
namespace Fn
open PySem PySem.Spec L2
/-! ### rows for simp -/
section
variable {ρ : Env} {f : Env → Res T} {g : Env → Res (List T)} {fM : Env → ResM T} {gM : Env → ResM (List T)} {xs : List T} {fl : Fl}
@[simp] theorem items_l : T.items (.lst fl xs) = .ok xs := rfl
@[simp] theorem items_t : T.items (.tup xs) = .ok xs := rfl
@[simp] theorem dStar_e : dStar f g ρ = (f ρ).bind fun t => t.items.bind fun us => (g ρ).bind fun ts => .ok (us ++ ts) := rfl
@[simp] theorem dForM_e {tg : T → Env → Option Env} {b : Env → ResS} : dForM gM tg b ρ = (gM ρ).bind fun ts ρ1 => forL tg b ts ρ1 := rfl
@[simp] theorem asgTEnd_e {t : T} {tg : T → Env → Option Env} : asgTEnd tg ρ t = (match t.frz with | some t' => (match tg t' ρ with | some ρ' => .ok .next ρ' | none => .stuck) | none => .stuck) := rfl
@[simp] theorem dAsgT_e {tg : T → Env → Option Env} : dAsgT tg f ρ = (f ρ).st ρ fun t => asgTEnd tg ρ t := rfl
@[simp] theorem dAsgTM_e {tg : T → Env → Option Env} : dAsgTM tg fM ρ = (fM ρ).bind (asgTEndM tg) := rfl
@[simp] theorem asgTEndM_e {t : T} {tg : T → Env → Option Env} : asgTEndM tg t ρ = asgTEnd tg ρ t := rfl
@[simp] theorem wrEndM_e {q : T → List T → Option (T × T)} {i : Nat} {ts : List T} : wrEndM q i ts ρ = (match ρ[i]? with | some (some t) => wrEnd q (.v i) t ρ ts | _ => .stuck) := rfl
@[simp] theorem dWrM_e {ty : String} {q : T → List T → Option (T × T)} {i : Nat} : dWrM ty q i gM ρ = (match ρ[i]? with | some (some t) => if isTy ty t = true then (gM ρ).bind (wrEndM q i) else .stuck | _ => .stuck) := rfl
end
end Fn
namespace Fn
open PySem PySem.Spec L2
/-- a loop that searches -/
theorem forL_search {tg : T → Env → Option Env} {b : Env → ResS} (I : Env → Prop) (F : T → Option T) : ∀ (ts : List T) (ρ : Env), (∀ t ∈ ts, ∀ ρ, I ρ → ∃ ρ1, tg t ρ = some ρ1 ∧ (∀ v, F t = some v → ∃ ρ', b ρ1 = .ok (.ret v) ρ') ∧ (F t = none → ∃ ρ', (b ρ1 = .ok .next ρ' ∨ b ρ1 = .ok .cont ρ') ∧ I ρ')) → I ρ →
    (∀ v, ts.findSome? F = some v → ∃ ρ', forL tg b ts ρ = .ok (.ret v) ρ') ∧ (ts.findSome? F = none → ∃ ρ', forL tg b ts ρ = .ok .next ρ' ∧ I ρ')
  | [], ρ, _, h => ⟨fun v e => (by cases e), fun _ => ⟨ρ, rfl, h⟩⟩
  | t :: r, ρ, hs, h => by
    obtain ⟨ρ1, e1, k1, k2⟩ := hs t List.mem_cons_self ρ h
    rw [List.findSome?_cons]
    cases hF : F t with
    | some v =>
      obtain ⟨ρ', e2⟩ := k1 v hF
      exact ⟨fun u e => (by cases e; exact ⟨ρ', forL_ret e1 e2⟩), fun e => (by cases e)⟩
    | none =>
      obtain ⟨ρ', e2, i2⟩ := k2 hF
      have ih := forL_search I F r ρ' (fun t ht => hs t (List.mem_cons_of_mem _ ht)) i2
      have e3 : forL tg b (t :: r) ρ = forL tg b r ρ' := forL_next e1 e2
      rw [e3]; exact ih
end Fn

/-! Fn44: try with several clauses, each with the same name for what is caught. -/
namespace Fn
open PySem PySem.Spec PyProof.Rows L2
/-- one clause: the class by its name, the suite, what the suite does -/
structure Cl where
  x : Str
  c : Value
  np : Pos
  po : Pos
  b : Stmt
  r : List Stmt
  ts : Addr → Value → Option Addr → TS
def Cl.h (n : Str) (k : Cl) : ExceptHandler := .ExceptHandler (some (.Name k.x k.np)) (some n) (k.b :: k.r) k.po
/-- what the clauses wish, the first one that takes it -/
def wish (K : PySem.W.Frag) (i : Nat) (Wout : WX) (D : Ends) : List Cl → WX
  | [] => Wout
  | k :: r => wAs K k.c i k.ts (wish K i Wout D r) D
section
variable {X : Cx} {n : Str} {i : Nat} {body : List Stmt} {pos : Pos} {tb : WX → TS} {Wout : WX}
/-- the clauses are asked one behind another; the exception is at a, in flight; land: whichever heap it flies over is well -/
theorem ask_clauses (hN : X.N.Nodup) (hi : X.N[i]? = some n) (hln : X.env.kindOf n = some .local) {pins : List (Addr × Obj)} {D : Ends} {a : Addr} {B : Heap} {cls : Value} {d : Option Addr} {σ : L2.St} {H : Hp} {s : Shared}
    (ok : X.Ok) (fl : HandSPX.FlyingZ B (X.env :: X.outer) a (Zc cls d) s.heap) (na : H a = none)
    (land : ∀ h, HandSPX.FlyingZ B (X.env :: X.outer) a (Zc cls d) h → s.heap.UpToSlots h → Inv X pins σ H { s with heap := h } ∧ ∃ oe vs, h.get? a = some oe ∧ Zc cls d oe ∧ oe.data = .fields vs ∧ a ≠ X.env.locals ∧ a ∉ X.fs)
    (out : Wout cls d σ H → wpAny (model X.prog X.w) X.A (handleBy (.ref a) X.env []) (SP X pins D) X.xe s) (refl : s.heap.UpToSlots s.heap) :
    ∀ l : List Cl, (∀ k ∈ l, Names X k.x k.c) → (∀ k ∈ l, ∀ (a : Addr) (oe : Obj) (cls : Value) (d : Option Addr) (pn : List (Addr × Obj)), Zc cls d oe → (∃ vs, oe.data = .fields vs) → PSs (X.suite a ((a, oe) :: pn)) (k.b :: k.r) (k.ts a cls d)) →
      wish X.K i Wout D l cls d σ H → wpAny (model X.prog X.w) X.A (handleBy (.ref a) X.env (l.map (Cl.h n))) (SP X pins D) X.xe s := by
  intro l
  induction l with
  | nil => exact fun _ _ w => out w
  | cons k r ih =>
    intro nm su w
    obtain ⟨yes, h1, h2, h3⟩ := w
    obtain ⟨J, oe, vs, he, hz, hd, nL, nF⟩ := land s.heap fl refl
    have S := J.suite he hd na nL nF
    have nk := nm k List.mem_cons_self
    have ty : PySem.W.Looks (model X.prog X.w) s.heap (typeOf (.ref a)) cls := fun A Q E s0 kp q => wpAny_typeOf_ref (kp _ _ he) (by rw [hz.1]; exact q)
    have mt := PySem.W.exm_one (M := model X.prog X.w) J.kIn ty h1
    refine wpAny_handleBy_cons (codeAny_handlers_test ?_) (by intro q; cases q)
    have named : ∀ {Q E : Value → Shared → Prop}, Q k.c s → wpAny (model X.prog X.w) (X.A.mark (some (.ref a))) (eval (.Name k.x k.np) X.env) Q E s := fun q =>
      nk.2.2.elim (fun m => ld_glob S nk.1 m q nk.2.1) fun m => ld_blt S nk.1 m.1 m.2.1 q m.2.2 nk.2.1
    refine named (mt.here ?_)
    by_cases hy : yes = true
    · subst hy
      refine codeAny_handlers_suite_as (HandSPX.lands_againZ fl fun h4 fl4 up4 => ?_)
      obtain ⟨J4, oe4, vs4, he4, hz4, hd4, nL4, nF4⟩ := land h4 fl4 up4
      refine store_ok (X := X.suite a ((a, oe4) :: (X.pn ++ pins))) (v := .ref a) (J4.suite he4 hd4 na nL4 nF4) hN hi (.inl hln) rfl (fun s5 S5 => ?_) (.inr hln)
      have gone : ∀ {s6 : Shared} {σ6 : L2.St} {H6 : Hp} {Q : Shared → Prop}, Inv (X.suite a ((a, oe4) :: (X.pn ++ pins))) [] σ6 H6 s6 → (∀ s7, Inv X pins (σ6.set i none) H6 s7 → Q s7) → wpAny (model X.prog X.w) X.A (do bindName X.env n .none; unbindBehindTheSuite X.env n k.po) (fun _ s7 => Q s7) X.xe s6 :=
        fun S6 hq => gone_ok (S6.unsuite ok) hN hi hln hq
      refine wpAny_mono ((su k List.mem_cons_self a oe4 cls d _ hz4 ⟨_, hd4⟩).run [] s5 _ H _ S5 (h2 rfl a na)) (fun f s6 e => ?_) fun _ _ z => z.elim
      cases f with
      | ret u => obtain ⟨v6, σ6, H6, S6, r6, q6⟩ := e; exact gone S6 fun s7 J7 => ⟨v6, _, H6, J7, r6, q6⟩
      | next => obtain ⟨σ6, H6, S6, q6⟩ := e; exact gone S6 fun s7 J7 => ⟨_, H6, J7, q6⟩
      | brk => obtain ⟨σ6, H6, S6, q6⟩ := e; exact gone S6 fun s7 J7 => ⟨_, H6, J7, q6⟩
      | cont => obtain ⟨σ6, H6, S6, q6⟩ := e; exact gone S6 fun s7 J7 => ⟨_, H6, J7, q6⟩
    · have hf : yes = false := by simpa using hy
      subst hf
      exact ih (fun k hk => nm k (List.mem_cons_of_mem _ hk)) (fun k hk => su k (List.mem_cons_of_mem _ hk)) (h3 rfl)
theorem ps_clauses {k0 : Cl} {l : List Cl} (hs : X.stack = X.env :: X.outer) (hf : X.env.frame = some X.env.locals) (hN : X.N.Nodup) (hi : X.N[i]? = some n) (hln : X.env.kindOf n = some .local) (nm : ∀ k ∈ k0 :: l, Names X k.x k.c) (tk : Takes X Wout)
    (hb : ∀ (W : WX) (pn : List (Addr × Obj)) (xe : Value → Shared → Prop), Takes (X.tr pn xe) W → PassesOwn (model X.prog X.w) X.A X.env xe → PSs (X.tr pn xe) body (tb W))
    (su : ∀ k ∈ k0 :: l, ∀ (a : Addr) (oe : Obj) (cls : Value) (d : Option Addr) (pn : List (Addr × Obj)), Zc cls d oe → (∃ vs, oe.data = .fields vs) → PSs (X.suite a ((a, oe) :: pn)) (k.b :: k.r) (k.ts a cls d)) :
    PS X (.Try body (k0.h n :: l.map (Cl.h n)) [] [] pos) (fun D σ H => tb (wish X.K i Wout D (k0 :: l)) D σ H) := ⟨fun pins s σ H D I h => by
  have ok := I.ok
  have fr : X.A.frames = some (X.env :: X.outer) := ok.frames.trans (by rw [hs])
  refine wpAny_Try_except (wpAny_mono ((hb (wish X.K i Wout D (k0 :: l)) (X.pn ++ pins) (fun e s₁ => wpAny (model X.prog X.w) X.A (noteFrame e X.env) (fun _ s₂ => wpAny (model X.prog X.w) X.A (setFlight e none) (fun _ s₃ => wpAny (model X.prog X.w) X.A (handleBy e X.env (k0.h n :: l.map (Cl.h n))) (SP X pins D) X.xe s₃) X.xe s₂) X.xe s₁)
    (fun u s' xx => ?_) PassesOwn.looking).run [] s σ H D (I.toTry _) h) (fun f s1 e => ?_) fun _ _ z => z)
  · obtain ⟨a, B, sI, pins', σ', H', cls, d, rfl, J', nb, up, sky, na, os, ag, w⟩ := xx
    have J : Inv X pins σ' H' sI := J'.ofTry ok
    show wpAny _ X.A (noteFrame (.ref a) X.env) _ _ _
    refine Sky.land Zc.steady fr hf (show Sky B (X.env :: X.outer) a (Zc cls d) X.env.locals s'.heap by rw [← hs]; exact sky) fun h3 fl3 up3 => ?_
    refine ask_clauses (s := { s' with heap := h3 }) hN hi hln ok fl3 na (fun h4 fl4 up4 => ?_) (fun wo => ?_) (Heap.UpToSlots.refl _) (k0 :: l) nm su w
    · obtain ⟨oe, vs, e1, e2, e3⟩ := fl4.there
      have nfr : a ∉ frs (X.env :: X.outer) := fun hm => by
        obtain ⟨_, o', e', hnf⟩ := fl4.2.2.1.mem hm
        rw [e1] at e'; cases e'
        exact hnf _ e3
      refine ⟨J.landed nb fl4.1 ((up.trans up3).trans up4) os ag, oe, vs, e1, e2, e3, fun z => nfr ?_, fun hm => ?_⟩
      · exact List.mem_filterMap.mpr ⟨X.env, List.mem_cons_self, by rw [hf, z]⟩
      · obtain ⟨e, he, q⟩ := List.mem_filterMap.mp hm
        exact nfr (List.mem_filterMap.mpr ⟨e, List.mem_cons_of_mem _ he, q⟩)
    · refine wpAny_handleBy_nil ?_
      obtain ⟨_, _, _, oe, vs, T, oT, ts', e1, e2, e3, e4, _⟩ := id fl3
      unfold PySem.passOn
      refine wpAny_bind (wpAny_field e1 e3 e4 ?_)
      rw [if_neg (by simp)]
      have last : wpAny (model X.prog X.w) X.A (setFlight (.ref a) X.env.frame) (fun _ s4 => wpAny (model X.prog X.w) X.A (throw (.ref a) : Sem Flow) (SP X pins D) X.xe s4) X.xe { s' with heap := h3 } := by
        rw [hf]
        exact HandSPX.setFlight_upZ fl3 fun h4 hh4 up4 => wpAny_throw (tk _ _ ⟨a, B, sI, pins, σ', H', cls, d, rfl, J, nb, (up.trans up3).trans up4, .inr (.inr (by rw [hs]; exact hh4)), na, os, ag, wo⟩)
      first
        | exact wpAny_bind (wpAny_pure (wpAny_bind last))
        | exact wpAny_bind last
  · cases f with
    | ret u => obtain ⟨v, σ', H', J', r, q⟩ := e; exact ⟨v, σ', H', J'.ofTry ok, r, q⟩
    | next => obtain ⟨σ', H', J', q⟩ := e; exact wpAny_execs_nil ⟨σ', H', J'.ofTry ok, q⟩
    | brk => obtain ⟨σ', H', J', q⟩ := e; exact ⟨σ', H', J'.ofTry ok, q⟩
    | cont => obtain ⟨σ', H', J', q⟩ := e; exact ⟨σ', H', J'.ofTry ok, q⟩⟩
end
end Fn

/-! Fn45: a def that tells how a lambda ends, with several clauses. -/
namespace Fn
open PySem PySem.Spec PyProof.Rows L2
variable [Tbs]
/-- one clause, as it is written -/
structure RC where
  x : Str
  tag : Str
  np : Pos
  po : Pos
  p5 : Pos
  p6 : Pos
  p7 : Pos
  p8 : Pos
  p9 : Pos
  j1 : Nat
  k1 : Nat
/-- the tail of a clause list, from where the class is taken -/
def Hits (K : PySem.W.Frag) (q : Addr × Str) : List (Addr × Str) → Prop
  | [] => False
  | r :: rs => (PySem.W.exmOne K (.ref q.1) (.ref r.1) = some true ∧ r = q) ∨ (PySem.W.exmOne K (.ref q.1) (.ref r.1) = some false ∧ Hits K q rs)
def hitsB (K : PySem.W.Frag) (q : Addr × Str) : List (Addr × Str) → Bool
  | [] => false
  | r :: rs => (decide (PySem.W.exmOne K (.ref q.1) (.ref r.1) = some true) && decide (r = q)) || (decide (PySem.W.exmOne K (.ref q.1) (.ref r.1) = some false) && hitsB K q rs)
theorem hits_of {K : PySem.W.Frag} {q : Addr × Str} : ∀ {l : List (Addr × Str)}, hitsB K q l = true → Hits K q l
  | [], h => by cases h
  | r :: rs, h => by
    simp only [hitsB, Bool.or_eq_true, Bool.and_eq_true, decide_eq_true_eq] at h
    exact h.imp (fun z => z) fun z => ⟨z.1, hits_of z.2⟩
def TTrefs (cs : List (Addr × Str)) : (XK → Hp → VK → Prop) → Hp → VK → Prop := fun tl H Q =>
  tl (fun cls d H' => ∃ q ∈ cs, cls = .ref q.1 ∧ ∃ (dd : Addr) (fs : List (Str × V)) (v : V), d = some dd ∧ H' dd = some (.xd fs) ∧ fs.lookup ("value" : Str) = some v ∧ ∀ p, H' p = none → Q (.ref p) (upd H' p (.tup [.str q.2, v]))) H
    (fun _ H' => [V.str "", V.non].length ≤ sizeLine ∧ ∀ p, H' p = none → Q (.ref p) (upd H' p (.tup [.str "", .non])))
section
variable {X : Cx}
def RC.body (en : Str) (r : RC) : Stmt := .Return (some (.Tuple [.Constant (.str r.tag) r.j1 r.p5, .Attribute (.Name en r.p6) "value" r.p7] r.k1 r.p8)) r.p9
def RC.hd (en : Str) (r : RC) : ExceptHandler := .ExceptHandler (some (.Name r.x r.np)) (some en) [r.body en] r.po
def RC.ts (C : Addr) (r : RC) : Addr → Value → Option Addr → TS := fun a cls d => tRet (tTup (tCons (tC (.str r.tag)) (tCons (tXf a cls d C "value" (tVar 1)) tNil)))
def RC.cl (en : Str) (p : RC × Addr) : Cl := ⟨p.1.x, .ref p.2, p.1.np, p.1.po, p.1.body en, [], p.1.ts p.2⟩
/-- what is wished of an exception that one of the clauses takes -/
theorem wish_hit {K : PySem.W.Frag} {en : Str} {D : Ends} {Wout : WX} {q : Addr × Str} {d : Option Addr} {σ : L2.St} {H : Hp} (h : ∀ r : RC × Addr, (r.2, r.1.tag) = q → ∀ a, H a = none → r.1.ts r.2 a (.ref q.1) d { nx := fun σ' H' => D.nx (σ'.set 1 none) H', rt := D.rt, bk := fun σ' H' => D.bk (σ'.set 1 none) H', ct := fun σ' H' => D.ct (σ'.set 1 none) H' } (σ.set 1 (some (.ref a))) H) :
    ∀ l : List (RC × Addr), Hits K q (l.map fun r => (r.2, r.1.tag)) → wish K 1 Wout D (l.map (RC.cl en)) (.ref q.1) d σ H
  | [], z => z.elim
  | r :: l, z => by
    rcases z with ⟨z1, z2⟩ | ⟨z1, z2⟩
    · exact ⟨true, z1, (fun _ a ha => h r z2 a ha), (fun y => by cases y)⟩
    · exact ⟨false, z1, (fun y => by cases y), (fun _ => wish_hit h l z2)⟩
theorem refuseds_gives {x a en : Str} {sg : Scope} {g : Addr} {cdg : Value} {j2 j3 : Nat} {k2 : Nat} {p1 p2 p3 pa pb pc pd pe pf : Pos} {q : Str} (r0 : RC × Addr) (rs : List (RC × Addr)) (hN : ([a, en] : List Str).Nodup) (hln : sg.names.lookup en = some .local) (hva : Vis sg a)
    (hda : (en == ("__debug__" : Str)) = false) (hdc : (en == ("__classdict__" : Str)) = false)
    (nm : ∀ r ∈ r0 :: rs, sg.names.lookup r.1.x = some .globalImplicit ∧ (r.1.x == ("__debug__" : Str)) = false ∧ X.mg r.1.x = some (.ref r.2) ∧ XfC X.K r.2 ∧ PySem.W.findIn X.K (.ref r.2) "value" = some none)
    (hit : ∀ q ∈ (r0 :: rs).map (fun r => (r.2, r.1.tag)), Hits X.K q ((r0 :: rs).map fun r => (r.2, r.1.tag))) :
    LamX.GivesTo X [a, en] x sg g cdg [.Try [.Expr (.Call (.Name a p1) [] [] p2) p3] (r0.1.hd en :: rs.map fun r => r.1.hd en) [] [] pb, .Return (some (.Tuple [.Constant (.str "") j2 pc, .Constant .none j3 pd] k2 pe)) pf] a q (TTrefs ((r0 :: rs).map fun r => (r.2, r.1.tag))) := by
  intro f c' s H Q tl act hc h
  have eh : r0.1.hd en :: rs.map (fun r => r.1.hd en) = (RC.cl en r0).h en :: (rs.map (RC.cl en)).map (Cl.h en) := by
    rw [List.map_map]; rfl
  rw [eh]
  refine ⟨_, pss_cons (ps_clauses (X := (cxOf C8.CX0 X.prog X.w X.K X.mg X.base [a, en] x sg g cdg X.A X.stack s H C8.E0).nox) (i := 1) (n := en) (Wout := fun _ _ _ _ => False) (k0 := RC.cl en r0) (l := rs.map (RC.cl en))
      (tb := fun W D σ H => ∃ Ech : XK, (∀ cls d σ' H', Ech cls d H' → σ'.length = 2 → W cls d σ' H') ∧ σ[0]? = some (some (.ref f)) ∧ H c' = some (LamX.CodeO c' q) ∧ tl Ech H fun _ H' => D.nx σ H')
      rfl rfl hN rfl hln ?_ LamX.takes0 (fun W pn xe tk _ => ?_) ?_) (pss_one (ps_ret (pe_tup (pa_cons pe_str (pa_cons pe_non pa_nil))))), ?_⟩
  · intro k hk
    have hk' : k ∈ (r0 :: rs).map (RC.cl en) := hk
    obtain ⟨r, hr, rfl⟩ := List.mem_map.mp hk'
    obtain ⟨n1, n2, n3, _⟩ := nm r hr
    exact ⟨n1, n2, .inl n3⟩
  · refine ⟨fun pins s' σ H' D I h' => ?_⟩
    obtain ⟨Ech, hW, h1, h2, h3⟩ := h'
    have tk2 : Takes ((cxOf C8.CX0 X.prog X.w X.K X.mg X.base [a, en] x sg g cdg X.A X.stack s H C8.E0).tr pn xe) (fun c d σ H => σ.length = 2 → W c d σ H) := fun u s' ⟨a, B, sI, pins, σ, H, cls, d, e, I, nb, up, sky, na, os, ag, w⟩ =>
      tk u s' ⟨a, B, sI, pins, σ, H, cls, d, e, I, nb, up, sky, na, os, ag, w I.len⟩
    have hp := act _ pn xe Ech p1 p2 tk2 hW
    exact (pss_one (ps_expr (pos := p3) hp)).run pins s' σ H' D I ⟨h1, h2, h3⟩
  · intro k hk a' oe cls d pn hz hf
    have hk' : k ∈ (r0 :: rs).map (RC.cl en) := hk
    obtain ⟨r, hr, rfl⟩ := List.mem_map.mp hk'
    obtain ⟨n1, n2, n3, n4, n5⟩ := nm r hr
    show PSs _ [r.1.body en] (r.1.ts r.2 a' cls d)
    exact pss_one (X := (cxOf C8.CX0 X.prog X.w X.K X.mg X.base [a, en] x sg g cdg X.A X.stack s H C8.E0).suite a' ((a', oe) :: pn)) (ps_ret (pe_tup (pa_cons pe_str (pa_cons (pe_xf n4 n5 hz hf (pe_var (i := 1) rfl (.inl hln) hda hdc)) pa_nil))))
  · refine ⟨fun cls d H' => ∃ q ∈ ((r0 :: rs).map (fun (r : RC × Addr) => ((r.2, r.1.tag) : Addr × Str))), cls = .ref q.1 ∧ ∃ (dd : Addr) (fs : List (Str × V)) (v : V), d = some dd ∧ H' dd = some (.xd fs) ∧ fs.lookup ("value" : Str) = some v ∧ ∀ p, H' p = none → Q (.ref p) (upd H' p (.tup [.str q.2, v])), fun cls d σ' H' hE hl => ?_, rfl, hc, h⟩
    obtain ⟨q, hq, rfl, dd, fs, v, rfl, hd, hv, k⟩ := hE
    refine wish_hit (fun r hr a' ha' => ?_) (r0 :: rs) (hit q hq)
    subst hr
    exact ⟨.ref a', List.getElem?_set_self (by omega), rfl, rfl, dd, fs, v, rfl, hd, hv, by show 2 ≤ sizeLine; decide, k⟩
end
section
variable {x : Tx} {β : Bo} {φ : Nat → List Addr} {G H : Hp} {W : XK} {X : Cx} {σ : L2.St} {ρ : Env} {pos : Pos}
def refEnds (cs : List (Nat × Str)) : ResM T → ResM T
  | .ok _ ρ => .ok (.tup [.str ("" : Str), .non]) ρ
  | .exc c p ρ => match p with
    | [t] => match t.frz with
      | some t' => match cs.find? fun q => q.1 == c with
        | some q => .ok (.tup [.str q.2, t']) ρ
        | none => .stuck
      | none => .stuck
    | _ => .stuck
  | .stuck => .stuck
def dRefs (cs : List (Nat × Str)) (fb : Env → ResM T) : Env → ResM T := fun ρ => refEnds cs (fb ρ)
theorem refs_core {cs : List (Nat × Str)} {fb : Env → ResM T} {Q : VK} (hfl : ∀ q ∈ cs, x.fl q.1 = [("value" : Str)]) (E : ER x β φ G H σ ρ) (hp : β.p = false) (h : PstM x W β σ (Ow φ) G H (dRefs cs fb ρ) (MadeM x (Ow φ) H Q)) :
    LamX.tLam Tbs.tb (TTrefs (cs.map fun q => (x.ca q.1, q.2))) (fun E => tM x E fb) σ H Q := ⟨E.tab, fun H1 e t => by
  have st : Stp No G H G H1 := .code E.sub e t
  refine ⟨β, φ, G, ρ, E.step st, hp, ?_⟩
  unfold dRefs at h
  have pair : ∀ {G' H' : Hp} {v : V} {t : T} {tg : Str} {ρ' : Env} {φ' : Nat → List Addr}, Stp (Ow φ) G H1 G' H' → ER x β φ' G' H' σ ρ' → (∀ a, Ow φ' a → Ow φ a ∨ Vac H1 a) → RepS x G' v t → PstM x W β σ (Ow φ) G H (.ok (.tup [.str tg, t]) ρ') (MadeM x (Ow φ) H Q) → ∀ p, H' p = none → Q (.ref p) (upd H' p (.tup [.str tg, v])) := by
    intro G' H' v t tg ρ' φ' s' E' o' rv hq p hpn
    have lay : Stp No G' H' (upd G' p (.tup [.str tg, v])) (upd H' p (.tup [.str tg, v])) := .laidS s'.sub hpn (fun _ z => by cases z)
    refine hq φ' _ _ ((st.pure.trans s').trans lay.pure) (E'.step lay) (fun a z => (o' a z).imp id st.ext.back) (.ref p) [] (.s (.tup upd_same (.cons (.str _) (.cons (rv.le lay.le) .nil)))) rfl .nil fun _ z => by cases z
  cases hf : fb ρ with
  | stuck => rw [hf] at h; exact h
  | ok r ρ' =>
    rw [hf] at h
    intro φ' G' H' s' E' o' v fp rr hn nd fr
    exact ⟨by show 2 ≤ sizeLine; decide, pair s' E' o' .non h⟩
  | exc c ps ρ' =>
    rw [hf] at h
    intro d φ' G' H' s' E' o' ⟨fs, hd, hk, hr⟩
    match ps, h, hr with
    | [], h, _ => exact h.elim
    | [t], h, hr =>
      have h2 : PstM x W β σ (Ow φ) G H (match t.frz with | some t' => (match cs.find? fun q => q.1 == c with | some q => .ok (.tup [.str q.2, t']) ρ' | none => .stuck) | none => .stuck) (MadeM x (Ow φ) H Q) := h
      cases ef : t.frz with
      | none => rw [ef] at h2; exact h2.elim
      | some t' =>
        rw [ef] at h2
        cases hq : cs.find? fun q => q.1 == c with
        | none => simp only [hq] at h2; exact h2.elim
        | some q =>
          simp only [hq] at h2
          have hm := List.mem_of_find?_eq_some hq
          have hc : q.1 = c := by simpa using List.find?_some hq
          subst hc
          rw [hfl q hm] at hk
          match fs, hk, hr with
          | [(n, v)], hk, hr =>
            have en : n = ("value" : Str) := by simpa using hk
            subst en
            obtain ⟨w, ew, rw'⟩ := hr.one'
            have ew : [v] = [w] := ew
            cases ew
            have rv : RepS x G' v t' := by
              have := rw'.frz (fun _ z => by cases z) ef
              have e0 : add G' H' [] = G' := by funext a; exact add_out (by simp)
              rw [e0] at this; exact this
            exact ⟨(x.ca q.1, q.2), List.mem_map.mpr ⟨q, hm, rfl⟩, rfl, d, _, v, rfl, hd, by simp, pair s' E' o' rv h2⟩
    | _ :: _ :: _, h, _ => exact h.elim⟩
structure Refds (x : Tx) (Pr : Program) (w : World) (mg : Str → Option Value) (base : Heap) (rf : Str) (cs : List (Nat × Str)) (c P : Addr) : Prop where
  fl : ∀ q ∈ cs, x.fl q.1 = [("value" : Str)]
  tb : LamX.TabB base mg c P
  go : ∃ (g : Addr) (oc : Value) (od : Option Addr) (pg : Arguments) (bg : List Stmt) (sg : Scope) (dV kV doc pm : Value) (an : Option Addr) (cdv ct : Value) (osl : Array (Option Value)) (Ng : List Str) (a : Str),
    mg rf = some (.ref g) ∧ PySem.W.keepIn x.K (.ref g) = true ∧ x.K.lookup g = some ⟨oc, od, .func (PySem.W.fnOf rf rf pg bg sg dV kV doc pm an cdv ct), osl⟩ ∧ PySem.W.codeIn x.K cdv rf = true ∧ Binds x.K (PySem.W.fnOf rf rf pg bg sg dV kV doc pm an cdv ct) [a] [] ∧ FnScope Ng [a] sg ∧ Ng[0]? = some a ∧ Vis sg a ∧ (a == ("__debug__" : Str)) = false ∧ (a == ("__classdict__" : Str)) = false ∧
    ∀ (X : Cx) (q : Str), X.prog = Pr → X.w = w → X.K = x.K → X.mg = mg → X.base = base → LamX.GivesTo X Ng rf sg g cdv bg a q (TTrefs (cs.map fun q => (x.ca q.1, q.2)))
theorem m_refsD {Pr : Program} {w : World} {mg : Str → Option Value} {base : Heap} {cs : List (Nat × Str)} {k : Nat} {rf : Str} {c P : Addr} {params : Arguments} {body : Expr} {scope : Scope} {fb : Env → ResM T} {p lpos : Pos}
    (D : Refds x Pr w mg base rf cs c P) (hg : Gl X rf) (hcode : X.env.code = .ref c) (hmT : (P, X.env.qual ++ "<lambda>") ∈ Tbs.tb) (hu : ∀ p ∈ Tbs.tb, p.1 = P → p.2 = X.env.qual ++ "<lambda>") (hr : Room (k + 2) X.A) (L : LamX.LamS X.env.scope scope) (hdef : defaultsOf params X.env = ([], []))
    (hbind : ∀ (q : Str) (cl : List (Str × Addr)) (pm cv ctv : Value), bindArgs (PySem.W.kla_fn "<lambda>" q params body scope cl pm cv ctv) ⟨[], []⟩ = pure [])
    (hbody : ∀ (A : Around) (outer : List PySem.Env) (s : Shared) (H : Hp) (E : XK) (f c' : Addr), Room k (A.deeper (LamX.lamEnv X scope s.heap.objs.size f c')) → M x (LamX.lamCx X A outer s H E scope f c') body fb)
    (hP : X.prog = Pr := by rfl) (hw : X.w = w := by rfl) (hmg : X.mg = mg := by rfl) (hK : X.K = x.K := by rfl) (hB : X.base = base := by rfl) (hdb : (rf == ("__debug__" : Str)) = false := by decide) :
    M x X (.Call (.Name rf p) [.Lambda params body scope lpos] [] pos) (dRefs cs fb) := ⟨fun ok W tk => by
  obtain ⟨g, oc, od, pg, bg, sg, dV, kV, doc, pm, an, cdv, ct, osl, Ng, a, hm, hk, lk, hcg, hb, Sg, hNg, hva, hd, hcd, hG⟩ := D.go
  have K := ok.K
  refine pe_imp (LamX.pe_lamcall (T := Tbs.tb) (t := fun E => tM x E fb) hg (by rw [hmg]; exact hm) (by rw [K]; exact hk) (by rw [K]; exact lk) (by rw [K]; exact hcg) (by rw [K]; exact hb) Sg hNg hva (hG X _ hP hw hK hmg hB) (by rw [hB, hmg]; exact D.tb) hcode hmT hu hr L hdef hbind (fun A outer s H E f c' hr' => ?_) hdb hd hcd) fun σ H Q ⟨β, φ, G, ρ, E, hp, h⟩ => refs_core D.fl E hp h
  exact (hbody A outer s H E f c' hr').run ⟨K, rfl, hr'.mono (Nat.zero_le _), ok.nd⟩ E (takes_of rfl rfl rfl rfl)⟩
end
end Fn
namespace Fn
open PySem PySem.Spec L2
@[simp] theorem dRefs_e {cs : List (Nat × Str)} {m : Env → ResM T} {ρ : Env} : dRefs cs m ρ = refEnds cs (m ρ) := rfl
@[simp] theorem refEnds_ok {cs : List (Nat × Str)} {t : T} {ρ : Env} : refEnds cs (.ok t ρ) = .ok (.tup [.str ("" : Str), .non]) ρ := rfl
@[simp] theorem refEnds_exc {cs : List (Nat × Str)} {c : Nat} {t : T} {ρ : Env} : refEnds cs (.exc c [t] ρ) = (match t.frz with | some t' => (match cs.find? fun q => q.1 == c with | some q => .ok (.tup [.str q.2, t']) ρ | none => .stuck) | none => .stuck) := rfl
end Fn

/-! Fn46: a law's def at the outermost call (nothing is being shown there). -/
namespace Fn
open PySem PySem.Spec PyProof.Rows L2
/-- what a def does where it is called from outside -/
structure Top (P : Program) (w : World) (K : PySem.W.Frag) (mg : Str → Option Value) (base : Heap) (CX : CXT) (f : Addr) (fd : FuncData) (ps : List Str) (sp : Sp) : Prop where
  go : ∀ (s : Shared) (H : Hp) (ar : Args) (us : List Value) (vs : List V) (Q : VK) (E : XK), Env0 P w K mg base callerA [] s H → BindsTo s fd ar (ps.zip us) → Vals vs us → sp vs H Q E → codeAny (model P w) callerA (.call (.ref f) ar) (CR CX [] P w H s Q E) s
theorem top_of {CX : CXT} {P : Program} {w : World} {K : PySem.W.Frag} {mg : Str → Option Value} {base : Heap} {f : Addr} {nm ql : Str} {pa : Arguments} {bd : List Stmt} {sc : Scope} {dV kV dc pm cd ct oc : Value} {an od : Option Addr} {sl : Array (Option Value)} {N ps : List Str} {sp : Sp}
    (look : K.lookup f = some ⟨oc, od, .func (PySem.W.fnOf nm ql pa bd sc dV kV dc pm an cd ct), sl⟩) (code : PySem.W.codeIn K cd ql = true) (Z : FnScope N ps sc) (room : Room 1 callerA)
    (ln : ∀ vs H Q E, sp vs H Q E → vs.length = ps.length)
    (body : ∀ (s : Shared) (H : Hp) (vs : List V) (Q : VK) (E : XK), sp vs H Q E → ∃ t, PSs (cxOf CX P w K mg base N ql sc f cd callerA [] s H E) bd t ∧ t { nx := fun _ G => Q .non G, rt := Q } (start N vs) H) :
    Top P w K mg base CX f (PySem.W.fnOf nm ql pa bd sc dV kV dc pm an cd ct) ps sp := by
  constructor
  intro s H ar us vs Q E en bi va wish
  obtain ⟨t, runs, ends⟩ := body s H vs Q E wish
  have old : ∀ b o, base.get? b = some o → s.heap.get? b = some o := fun b o z => (en.bs b o z).1
  have inK : K.In s.heap := en.mod.kin.keeps old
  apply codeAny_call_function room.depth (inK _ _ look) rfl Z.co Z.gen rfl (PySem.W.codeRec_of inK code)
  apply bi
  apply wpAny_newFunctionEnv_cells Z.kind
  · rintro ⟨n, v⟩ hm
    exact (Z.par n (List.of_mem_zip hm).1).elim .inl fun c => .inr ⟨c, PySem.W.cellsFrom_some _ _ _ (Or.inl c)⟩
  · rintro en' rfl s1 x
    constructor
    · exact (en.mod.nolimit.keeps old).keeps x.toInCall.keep
    · apply codeAny_func
      have J := inv_start (CX := CX) (E := E) Z room.hd en (ln _ _ _ _ wish) va x
      apply wpAny_mono (runs.run [] s1 (start N vs) H _ J ends)
      · intro fl s2 z
        cases fl with
        | next => obtain ⟨_, G, I2, q⟩ := z; exact ⟨.non, G, I2.os, I2.bare, I2.base, I2.hok, rfl, q⟩
        | ret u => obtain ⟨v, _, G, I2, rv, q⟩ := z; exact ⟨v, G, I2.os, I2.bare, I2.base, I2.hok, rv, q⟩
        | brk => exact z.elim fun _ y => y.elim fun _ y => y.2.elim
        | cont => exact z.elim fun _ y => y.elim fun _ y => y.2.elim
      · exact fun _ _ z => z
/-! ### the heap there -/
def topH (K : PySem.W.Frag) (tb : List Addr) (a : Addr) (ob : Obj) (ns : List Int) : Hp := fun b =>
  if b ∈ tb then some (.tbl #[]) else if b = a ∧ K.lookup a = none then some (.frz ob (.lst (ns.map V.int))) else none
section
variable {K : PySem.W.Frag} {tb : List Addr} {a b : Addr} {ob : Obj} {ns : List Int}
theorem topH_tb (h : b ∈ tb) : topH K tb a ob ns b = some (.tbl #[]) := if_pos h
theorem topH_no (h : b ∉ tb) (h' : b = a → K.lookup a ≠ none) : topH K tb a ob ns b = none := (if_neg h).trans (if_neg fun z => h' z.1 z.2)
theorem topH_is {u : HO} (e : topH K tb a ob ns b = some u) : (b ∈ tb ∧ u = .tbl #[]) ∨ (b ∉ tb ∧ b = a ∧ K.lookup a = none ∧ u = .frz ob (.lst (ns.map V.int))) := by
  unfold topH at e
  split at e
  · rename_i m; cases e; exact .inl ⟨m, rfl⟩
  · rename_i m
    split at e
    · rename_i q; cases e; exact .inr ⟨m, q.1, q.2, rfl⟩
    · cases e
end
theorem top_call {P : Program} {w : World} {K : PySem.W.Frag} {mg mb : Str → Option Value} {CX : CXT} {fa a : Addr} {cs : List (Addr × Addr)} {fd : FuncData} {x : Str} {sp : Sp} {s : Shared} {vs : List Value} {ns : List Int}
    (inK : K.In s.heap) (gl : s.heap.Ns mainGlobals mg) (bl : s.heap.Ns builtinsNs mb) (boot : ∀ x : Str, x ≠ "__name__" → mb x = bootBuiltins x) (nl : s.heap.NoLimit) (gens : s.gens = #[])
    (tabs : ∀ p ∈ cs, s.heap.get? p.2 = some { cls := .none, data := .fields #[] }) (tabsK : ∀ p ∈ cs, K.lookup p.2 = none) (code : ∀ p ∈ cs, PySem.W.CodeHd s.heap p.1 p.2)
    (mod : ∃ (m : Addr) (o : Obj), mg "__builtins__" = some (.ref m) ∧ m ≠ builtinsNs ∧ s.heap.get? m = some o ∧ o.cls = .type "module" ∧ o.dict = some builtinsNs ∧ o.data = .plain)
    (ha : s.heap.get? a = some { cls := .type "list", data := .seq vs.toArray }) (hi : IntsAre vs ns) (short : ns.length ≤ sizeLine)
    (F : ∀ base : Heap, K.In base → base.Ns mainGlobals mg → (∀ p ∈ cs, LamX.TabB base mg p.1 p.2) → Top P w K mg base CX fa fd [x] sp) (bi : ∀ (s : Shared) (u : Value), BindsTo s fd ⟨[u], []⟩ [(x, u)])
    (fits : ∀ H : Hp, (∀ p ∈ cs, H p.2 = some (.tbl #[])) → SqL K H a (ns.map V.int) → sp [.ref a] H (fun v _ => v = .bl true) fun _ _ _ => False)
    (nox : ∀ H e s', CX [] H s (fun _ _ _ => False) e s' → False) :
    codeAny (model P w) callerA (.call (.ref fa) ⟨[.ref a], []⟩) (fun r z => r = .ok (.ret (.bool true)) ∧ OldK s.heap z.heap ∧ z.os = s.os ∧ AllBare z.gens) s := by
  generalize ob0 : ({ cls := .type "list", data := .seq vs.toArray } : Obj) = ob at ha
  generalize hH : topH K (cs.map (·.2)) a ob ns = H
  have tabAt : ∀ {b}, b ∈ cs.map (·.2) → s.heap.get? b = some { cls := .none, data := .fields #[] } ∧ K.lookup b = none ∧ ∃ c, PySem.W.CodeHd s.heap c b := fun hb => by
    obtain ⟨p, hp, rfl⟩ := List.mem_map.mp hb
    exact ⟨tabs p hp, tabsK p hp, p.1, code p hp⟩
  have none_if : ∀ {b : Addr} {o : Obj}, s.heap.get? b = some o → o.data ≠ .fields #[] → (∀ l n, o.data ≠ .seq l n) → H b = none := fun {b o} e d1 d2 => by
    rw [← hH]
    refine topH_no (fun m => ?_) fun z => ?_
    · rw [(tabAt m).1] at e; cases e; exact absurd rfl d1
    · subst z; rw [ha] at e; cases e; subst ob0; exact absurd rfl (d2 _ _)
  have none_K : ∀ {b : Addr} {o : Obj}, K.lookup b = some o → H b = none := fun {b o} e => by
    rw [← hH]
    refine topH_no (fun m => ?_) fun z n => ?_
    · rw [(tabAt m).2.1] at e; cases e
    · subst z; rw [e] at n; cases n
  have nsB : ∀ {b : Addr} {m : Str → Option Value}, s.heap.Ns b m → (hidT s.heap H).Ns b m := fun ⟨o, l, n, e, d, more⟩ =>
    ⟨o, l, n, hidT_get e (none_if e (by rw [d]; nofun) (by rw [d]; nofun)), d, more⟩
  have inB : K.In (hidT s.heap H) := fun b o e => hidT_get (inK b o e) (none_K e)
  have okH : HOk P w H s.heap := fun b u e => by
    rw [← hH] at e
    rcases topH_is e with ⟨m, rfl⟩ | ⟨m, rfl, kn, rfl⟩
    · exact (tabAt m).1
    · subst ob0
      exact ⟨ha, (by rw [List.length_map]; exact short), vs, _, vals_ints hi, ha⟩
  have env : Env0 P w K mg (hidT s.heap H) callerA [] s H := by
    refine ⟨rfl, ⟨inB, nsB gl, ⟨mb, nsB bl, boot⟩, ?_⟩, fun _ _ e => of_hidT e, Nat.le_of_eq (hidT_size ..), trivial, ?_, okH, .of_eq gens⟩
    · obtain ⟨m, n1, n2⟩ := nl
      exact ⟨m, nsB n1, n2⟩
    · intro b hb
      cases hb
  have tabB : ∀ p ∈ cs, LamX.TabB (hidT s.heap H) mg p.1 p.2 := fun p hp => by
    have at0 := tabs p hp
    refine ⟨?_, ?_, ?_⟩
    · obtain ⟨o, us, f1, f2, f3, f4, f5, f6, f7, e1, r1, r2, r3, rest⟩ := code p hp
      refine ⟨o, us, f1, f2, f3, f4, f5, f6, f7, hidT_get e1 (none_if e1 (fun d => ?_) ?_), r1, r2, r3, rest⟩
      · rw [r2] at d; cases d; simp at r3
      · rw [r2]; nofun
    · obtain ⟨m, o, m1, m2, m3, m4, m5, m6⟩ := mod
      refine ⟨m, o, m1, m2, fun z => ?_, fun z => ?_, hidT_get m3 (none_if m3 (by rw [m6]; nofun) (by rw [m6]; nofun)), m4, m5, m6⟩
      · obtain ⟨o', l, n, e, d, _⟩ := gl
        rw [← z, m3] at e; cases e
        rw [m6] at d; cases d
      · rw [z, at0] at m3; cases m3; cases m6
    · intro z
      obtain ⟨o', l, n, e, d, _⟩ := gl
      rw [z, at0] at e; cases e; cases d
  have scr : SqL K H a (ns.map V.int) := by
    cases lk : K.lookup a with
    | some o =>
      have e := (inK a o lk).symm.trans ha
      cases e
      subst ob0
      refine .inr ⟨_, _, _, lk, rfl, rfl, rfl, ?_, ?_⟩
      · have z : vs.length = ns.length := by have := (vals_ints hi).length; simpa using this.symm
        simpa [z] using short
      · exact vals_ints hi
    | none =>
      refine .inl (.inr ⟨ob, ?_⟩)
      rw [← hH]
      have out : a ∉ cs.map (·.2) := fun m => by
        have z := (tabAt m).1.symm.trans ha
        cases z
        cases ob0
      exact (if_neg out).trans (if_pos ⟨rfl, lk⟩)
  have tbl : ∀ p ∈ cs, H p.2 = some (.tbl #[]) := fun p hp => by rw [← hH]; exact topH_tb (List.mem_map.mpr ⟨p, hp, rfl⟩)
  have run := (F _ inB (nsB gl) tabB).go s H ⟨[.ref a], []⟩ [.ref a] [.ref a] _ _ env (bi s (.ref a)) (.cons rfl .nil) (fits H tbl scr)
  refine codeAny_mono run ?_
  rintro (e | fl) z res
  · exact (nox H e z res).elim
  · match fl, res with
    | .ret u, res =>
      obtain ⟨v, H', os, bare, un, ok', rv, (rfl : v = .bl true)⟩ := res
      cases (show u = Value.bool true from rv)
      have nil : ∀ b : Addr, b ∉ frs ([] : List PySem.Env) := fun b m => by cases m
      have kept : ∀ {b o}, b ∉ cs.map (·.2) → s.heap.get? b = some o → z.heap.get? b = some o := fun {b o} nb e => by
        cases q : H b with
        | none => exact un.keep b o e q (nil b) (fun m => by cases m)
        | some u =>
          have q' := q
          rw [← hH] at q'
          rcases topH_is q' with ⟨m, _⟩ | ⟨_, rfl, _, rfl⟩
          · exact absurd m nb
          · rw [ha] at e; cases e
            exact (ok' _ _ (un.frzs _ _ _ q)).1
      have grew : ∀ {b}, b ∈ cs.map (·.2) → ∃ l : Array Value, z.heap.get? b = some { cls := .none, data := .fields l } := fun {b} m => by
        obtain ⟨l, q⟩ := un.tbls b #[] (by rw [← hH]; exact topH_tb m)
        exact ⟨_, ok' b _ q⟩
      refine ⟨rfl, ⟨fun b o e => ?_, fun b o e => ?_⟩, os, bare⟩
      · by_cases m : b ∈ cs.map (·.2)
        · obtain ⟨l, q⟩ := grew m
          obtain ⟨t1, _, c, t3⟩ := tabAt m
          rw [t1] at e; cases e
          exact .inr (.inl ⟨(t3.tab t1).isCodeTable, rfl, #[], l, rfl, by rw [Array.empty_append]; exact q⟩)
        · exact .inl (kept m e)
      · by_cases m : b ∈ cs.map (·.2)
        · obtain ⟨l, q⟩ := grew m; exact ⟨_, q⟩
        · exact ⟨o, kept m e⟩
/-- what is known of the law's def -/
def TopLaw (l : PySem.W.OpenLaw) (w : World) (K : PySem.W.Frag) (CX : CXT) (n : Nat) (x : Str) (mg : Str → Option Value) (fa : Addr) (h : Heap) : Prop :=
  ∃ (fd : FuncData) (cs : List (Addr × Addr)) (sp : Sp), (∀ p ∈ cs, h.get? p.2 = some { cls := .none, data := .fields #[] } ∧ K.lookup p.2 = none ∧ PySem.W.CodeHd h p.1 p.2) ∧ (∀ (s : Shared) (u : Value), BindsTo s fd ⟨[u], []⟩ [(x, u)]) ∧
    (∀ (H : Hp) (a : Addr) (ns : List Int), ns.length ≤ n → (∀ z ∈ ns, Builtin.Int.intBits z ≤ 1048576) → (∀ p ∈ cs, H p.2 = some (.tbl #[])) → SqL K H a (ns.map V.int) → sp [.ref a] H (fun v _ => v = .bl true) fun _ _ _ => False) ∧
    ∀ base : Heap, K.In base → base.Ns mainGlobals mg → (∀ p ∈ cs, LamX.TabB base mg p.1 p.2) → Top l.prog w K mg base CX fa fd [x] sp
theorem walk_top {l : PySem.W.OpenLaw} {n : Nat} {q : Program} {loose : List Str} {XP : (Str → Option Value) → Heap → Prop} {YP : World → Heap → Prop} {d : DefRec} {K : Params → PySem.W.Frag} {CX : World → CXT} {x : Str}
    (most : l.most = some n) (few : n ≤ sizeLine) (nodef : d.params.defaults = []) (yp : ∀ (w : World) (h : Heap), YP w h → (K w.params).In h)
    (F : ∀ (w : World) (mg : Str → Option Value) (fa : Addr) (h : Heap), YP w h → (K w.params).In h → h.Ns mainGlobals mg → mg d.name = some (.ref fa) → TopLaw l w (K w.params) (CX w) n x mg fa h)
    (nox : ∀ (w : World) (H : Hp) (s : Shared) (e : Value) (s' : Shared), CX w [] H s (fun _ _ _ => False) e s' → False) :
    PySem.W.WalkO q loose XP YP l.row.toRowW d [] (fun f vs => PySem.call f vs) := by
  apply Att.attach_callB most nodef
  intro w s0 s mg mb fa o pm cd dc a vs ns G Y _ _ _ em ho hi hl hb hg
  obtain ⟨fd, cs, sp, tb, bi, fits, top⟩ := F w mg fa _ Y (yp w _ Y) G.T.g em
  exact top_call (yp w _ Y) G.T.g G.T.b G.T.builtins G.T.nolimit hg (fun p hp => (tb p hp).1) (fun p hp => (tb p hp).2.1) (fun p hp => (tb p hp).2.2) G.T.bmain ho hi (Nat.le_trans hl few) top bi (fun H t sq => fits H a ns hl hb t sq) (fun H e z => nox w H s e z)
end Fn

/-! Fn47: repr of data where nothing is being shown. -/
namespace Fn
open PySem PySem.Spec PyProof.Rows L2
variable [Tbs]
mutual
def T.sho : T → Option PyData
  | .non => some .none
  | .bl b => some (.bool b)
  | .int i => some (.int i)
  | .str x => some (.str x)
  | .tup xs => (shoAll xs).map .tuple
  | .ktup xs => (shoAll xs).map .tuple
  | .lst _ xs => (shoAll xs).map .list
  | .dct _ .k kvs => (shoKv kvs).map .dict
  | _ => none
def shoAll : List T → Option (List PyData)
  | [] => some []
  | t :: r => t.sho.bind fun d => (shoAll r).map (d :: ·)
def shoP : T × T → Option (PyData × PyData)
  | (k, v) => k.sho.bind fun a => v.sho.map fun b => (a, b)
def shoKv : List (T × T) → Option (List (PyData × PyData))
  | [] => some []
  | p :: r => (shoP p).bind fun d => (shoKv r).map (d :: ·)
end
mutual
/-- no list in it -/
def T.noL : T → Bool
  | .tup xs => noLs xs
  | .ktup xs => noLs xs
  | .lst _ _ => false
  | .dct _ _ kvs => noLk kvs
  | _ => true
def noLs : List T → Bool
  | [] => true
  | t :: r => t.noL && noLs r
def noLp : T × T → Bool
  | (_, v) => v.noL
def noLk : List (T × T) → Bool
  | [] => true
  | p :: r => noLp p && noLk r
end
def kD : Key → PyData
  | .inl i => .int i
  | .inr x => .str x
theorem shoKv_zip : ∀ {ks : List Key} {ts : List T} {q : List (PyData × PyData)}, ks.length = ts.length → shoKv ((ks.map kT).zip ts) = some q → q.map (·.1) = ks.map kD ∧ shoAll ts = some (q.map (·.2))
  | [], [], q, _, e => by simp [shoKv] at e; subst e; exact ⟨rfl, rfl⟩
  | [], _ :: _, q, h, _ => by cases h
  | _ :: _, [], q, h, _ => by cases h
  | k :: ks, t :: ts, q, h, e => by
    simp only [List.map_cons, List.zip_cons_cons, shoKv, shoP] at e
    have ek : (kT k).sho = some (kD k) := by cases k <;> rfl
    rw [ek] at e
    simp only [Option.bind_some] at e
    cases et : t.sho with
    | none => rw [et] at e; cases e
    | some d =>
      rw [et] at e
      simp only [Option.map_some, Option.bind_some] at e
      cases er : shoKv ((ks.map kT).zip ts) with
      | none => rw [er] at e; cases e
      | some r =>
        rw [er] at e
        cases e
        obtain ⟨h1, h2⟩ := shoKv_zip (by simpa using h) er
        exact ⟨by simp [h1], by simp [shoAll, et, h2]⟩
theorem noLk_zip : ∀ {ks : List Key} {ts : List T}, ks.length = ts.length → noLk ((ks.map kT).zip ts) = true → noLs ts = true
  | [], [], _, _ => rfl
  | [], _ :: _, h, _ => by cases h
  | _ :: _, [], h, _ => by cases h
  | k :: ks, t :: ts, h, e => by
    simp only [List.map_cons, List.zip_cons_cons, noLk, noLp, Bool.and_eq_true] at e
    simp only [noLs, Bool.and_eq_true]
    exact ⟨e.1, noLk_zip (by simpa using h) e.2⟩
theorem map_some' {α β : Type} {f : α → β} {o : Option α} {b : β} (h : o.map f = some b) : ∃ a, o = some a ∧ f a = b := by cases o with
  | none => cases h
  | some a => exact ⟨a, rfl, Option.some.inj h⟩
theorem shoAll_cons {t : T} {r : List T} {l : List PyData} (h : shoAll (t :: r) = some l) : ∃ d ds, t.sho = some d ∧ shoAll r = some ds ∧ l = d :: ds := by
  simp only [shoAll] at h
  cases e : t.sho with
  | none => rw [e] at h; cases h
  | some d =>
    rw [e] at h
    obtain ⟨ds, e2, rfl⟩ := map_some' (show (shoAll r).map (d :: ·) = some l from h)
    exact ⟨d, ds, rfl, e2, rfl⟩
theorem reads_keys {h : Heap} {P : Program} {w : World} : ∀ {es : List DictEntry} {kvs : List (Key × Value)}, Pairs (mixKind P w) es kvs → ReadsAll h (es.map (·.key)) (kvs.map fun kv => kD kv.1) []
  | _, _, .nil => .nil
  | _, _, .cons (e := e) (kv := kv) h1 h2 r => by
    have q : Reads h e.key (kD kv.1) [] := by
      rcases keyIs_shape (show keyIs kv.1 e.key = true from h1) with ⟨i, t, a, b⟩ | ⟨x, t, a, b⟩
      · rw [a, b]; exact .int i t
      · rw [a, b]; exact .str x t
    exact ReadsAll.cons q (reads_keys r)
theorem pairs_vals {P : Program} {w : World} : ∀ {es : List DictEntry} {kvs : List (Key × Value)}, Pairs (mixKind P w) es kvs → es.map (·.val) = kvs.map (·.2)
  | _, _, .nil => rfl
  | _, _, .cons h1 h2 r => by simp [h2, pairs_vals r]
theorem kv_split {κ : Type} : ∀ {kvs : List (κ × V)} {l : List (κ × Value)}, KV kvs l → kvs.map (·.1) = l.map (·.1) ∧ Vals (kvs.map (·.2)) (l.map (·.2))
  | _, _, .nil => ⟨rfl, .nil⟩
  | _, _, .cons h r => by
    obtain ⟨h1, h2⟩ := kv_split r
    exact ⟨by simp [h.1, h1], .cons h.2 h2⟩
section
variable {x : Tx} {G H : Hp} {X : Cx} {pins : List (Addr × Obj)} {σ : L2.St} {s : Shared}
theorem reads_dict (I : Inv X pins σ H s) {a : Addr} {kvs : List (Key × V)} {ts : List T} {q : List (PyData × PyData)} (hr : Rd H a (.dK kvs)) (hl : kvs.length = ts.length) (e : shoKv ((kvs.map fun kv => kT kv.1).zip ts) = some q)
    (ih : ∀ us, Vals (kvs.map (·.2)) us → ∀ ds, shoAll ts = some ds → ∃ as, ReadsAll s.heap us ds as ∧ (noLs ts = true → sysModules ∉ as)) :
    ∃ as, Reads s.heap (.ref a) (.dict q) as ∧ (noLk ((kvs.map fun kv => kT kv.1).zip ts) = true → sysModules ∉ as) := by
  obtain ⟨z, hs, l, kv, o, es, ep, ho, hex, hd, hk, hp, nd⟩ := hr.ok I.hok
  have e' : shoKv (((kvs.map (·.1)).map kT).zip ts) = some q := by rw [List.map_map]; exact e
  obtain ⟨e1, e2⟩ := shoKv_zip (by simpa using hl) e'
  obtain ⟨k1, k2⟩ := kv_split kv
  obtain ⟨as, r, na⟩ := ih (l.map (·.2)) k2 _ e2
  have rk : ReadsAll s.heap (es.toList.map (·.key)) (q.map (·.1)) [] := by
    have := reads_keys (h := s.heap) hp
    rw [e1, k1, List.map_map]; exact this
  refine ⟨_, Reads.dict ho hex.1 hd rk (by rw [pairs_vals hp]; exact r), fun n => ?_⟩
  have n' := noLk_zip (ks := kvs.map (·.1)) (by simpa using hl) (by rw [List.map_map]; exact n)
  have ne : sysModules ≠ a := fun q => by rw [q] at hs; simp at hs
  simp only [List.cons_append, List.nil_append, List.mem_cons, not_or]
  exact ⟨ne, na n'⟩
mutual
theorem RepS.rds (I : Inv X pins σ H s) (hK : X.K = x.K) (sub : Sub G H) : ∀ {v : V} {t : T} {d : PyData}, RepS x G v t → t.sho = some d → ∀ u, RelV v u → ∃ as, Reads s.heap u d as ∧ (t.noL = true → sysModules ∉ as)
  | _, _, _, .non, e, u, r => by cases e; cases r; exact ⟨_, .none, fun _ => by simp⟩
  | _, _, _, .bl b, e, u, r => by cases e; cases r; exact ⟨_, .bool b, fun _ => by simp⟩
  | _, _, _, .int b, e, u, r => by cases e; obtain ⟨t, rfl⟩ := r; exact ⟨_, .int b t, fun _ => by simp⟩
  | _, _, _, .str b, e, u, r => by cases e; obtain ⟨t, rfl⟩ := r; exact ⟨_, .str b t, fun _ => by simp⟩
  | _, _, _, .fn _, e, _, _ => by cases e
  | _, _, _, .scr _, e, _, _ => by cases e
  | _, _, _, .scrK _, e, _, _ => by cases e
  | _, _, _, .ktup h rs, e, u, r => by
    obtain ⟨ds, e2, rfl⟩ := map_some' e
    cases r
    obtain ⟨its, rv, ⟨o, ho, hc, n, hd⟩, _⟩ := I.tuple (by rw [hK]; exact sqT_out h)
    obtain ⟨as, q, na⟩ := RepsS.rds I hK sub rs e2 _ rv
    exact ⟨as, .tuple ho hc hd q, na⟩
  | _, _, _, .tup h rs, e, u, r => by
    obtain ⟨ds, e2, rfl⟩ := map_some' e
    cases r
    obtain ⟨its, rv, ⟨o, ho, hc, n, hd⟩, _⟩ := I.tuple (.inl (.inl (sub.at h id)))
    obtain ⟨as, q, na⟩ := RepsS.rds I hK sub rs e2 _ rv
    exact ⟨as, .tuple ho hc hd q, na⟩
  | _, _, _, .lst h rs, e, u, r => by
    obtain ⟨ds, e2, rfl⟩ := map_some' e
    cases r
    obtain ⟨its, rv, ⟨o, n, ho, hc, _, hd⟩, _⟩ := I.list (.inl (.inl (sub.at h id)))
    obtain ⟨as, q, na⟩ := RepsS.rds I hK sub rs e2 _ rv
    exact ⟨_, .list ho hc hd q, fun z => by cases z⟩
  | _, _, _, .dctK (a := a) h rs, e, u, r => by
    obtain ⟨q, e2, rfl⟩ := map_some' e
    cases r
    have hr : Rd H a _ := ((sub a _ h).2.imp (fun z => z) fun ⟨od, z, _⟩ => ⟨od, z⟩)
    exact reads_dict I hr (by have := rs.length; simpa using this) e2 fun us hv ds hd => RepsS.rds I hK sub rs hd us hv
  | _, _, _, .dctT _ _, e, _, _ => by cases e
  | _, _, _, .obj _ _ _ _, e, _, _ => by cases e
theorem RepsS.rds (I : Inv X pins σ H s) (hK : X.K = x.K) (sub : Sub G H) : ∀ {v : List V} {t : List T} {d : List PyData}, RepsS x G v t → shoAll t = some d → ∀ u, Vals v u → ∃ as, ReadsAll s.heap u d as ∧ (noLs t = true → sysModules ∉ as)
  | _, _, _, .nil, e, u, r => by cases e; cases r; exact ⟨_, .nil, fun _ => by simp⟩
  | _, _, _, .cons h rs, e, u, r => by
    obtain ⟨d, ds, e1, e2, rfl⟩ := shoAll_cons e
    cases r with
    | cons r1 r2 =>
      obtain ⟨as, q1, n1⟩ := RepS.rds I hK sub h e1 _ r1
      obtain ⟨bs, q2, n2⟩ := RepsS.rds I hK sub rs e2 _ r2
      refine ⟨_, .cons q1 q2, fun z => ?_⟩
      simp only [noLs, Bool.and_eq_true] at z
      rw [List.mem_append, not_or]
      exact ⟨n1 z.1, n2 z.2⟩
end
def caRepr : List T → Res T
  | [.tup xs] => match shoAll xs with
    | some ds => if PyData.showableAll ds && decide (PyData.depthAll ds ≤ 60) && decide ((PyData.tuple ds).shown.length ≤ sizeLine) && (noLs xs || !PyData.hasDictAll ds) then .ok (.str (PyData.tuple ds).shown) else .stuck
    | none => .stuck
  | _ => .stuck
theorem sem_repr (hg : X.A.guards = some []) : CaSem x X (.builtin "repr") caRepr := fun ok W tk G H H0 vs ts fp Q sub r fr nd l h pins sh σ us I ru => by
  unfold caRepr at h
  split at h
  · rename_i xs
    split at h
    · rename_i ds ed
      split at h
      · rename_i c
        simp only [Bool.and_eq_true, decide_eq_true_eq, Bool.or_eq_true, Bool.not_eq_true'] at c
        obtain ⟨⟨⟨c1, c2⟩, c3⟩, c4⟩ := c
        obtain ⟨v, rfl, rr⟩ := r.one
        cases rr with
        | s rr =>
          cases ru with
          | cons r1 r2 =>
            cases r2
            obtain ⟨as, rd, na⟩ := RepS.rds I ok.K sub rr (by show (shoAll xs).map PyData.tuple = some (PyData.tuple ds); rw [ed]; rfl) _ r1
            have isR : ∃ a, v = .ref a := by cases rr; exact ⟨_, rfl⟩
            obtain ⟨a, rfl⟩ := isR
            cases r1
            refine repr_of_reads' rd (by show PyData.showableAll ds = true; exact c1) (fun hd => ?_) hg ?_ (fun _ _ e => e) (fun h' u tk kk => ?_) c3
            · rcases c4 with c4 | c4
              · exact na c4
              · rw [show (PyData.tuple ds).hasDict = PyData.hasDictAll ds from rfl, c4] at hd; cases hd
            · have := ok.room.un
              show X.A.units + ((PyData.depthAll ds + 1) + 1) < cLine
              omega
            · exact ⟨.str _, H, I.kept kk, ⟨u, rfl⟩, h.scal sub (.str _)⟩
      · exact h.elim
    · exact h.elim
  · exact h.elim
end
end Fn

/-! Fn48: turned round by a slice. -/
namespace Fn
open PySem PySem.Spec PyProof.Rows L2
theorem rev_pick (xs : Array Value) : (((List.range xs.size).filterMap fun (m : Nat) => xs[(((xs.size : Int) - 1) + (m : Int) * (-1)).toNat]?).toArray) = xs.toList.reverse.toArray := by
  have e := PySem.W.krv_pick xs
  unfold slicePick at e
  rw [PySem.W.krv_bounds] at e
  rw [← e]
  show _ = ((sliceRange ((xs.size : Int) - 1) (-1) (-1)).filterMap (xs[·]?)).toArray
  rw [PySem.W.krv_sliceRange, List.filterMap_map]
  have go : ∀ l : List Nat, (∀ m ∈ l, m < xs.size) → l.filterMap (fun (m : Nat) => xs[(((xs.size : Int) - 1) + (m : Int) * (-1)).toNat]?) = l.filterMap ((fun x => xs[x]?) ∘ fun k => xs.size - 1 - k) := by
    intro l
    induction l with
    | nil => intro _; rfl
    | cons m l ih =>
      intro hl
      have h1 := hl m List.mem_cons_self
      have e1 : (((xs.size : Int) - 1) + (m : Int) * (-1)).toNat = xs.size - 1 - m := by omega
      rw [List.filterMap_cons, List.filterMap_cons, ih fun y hy => hl y (List.mem_cons_of_mem _ hy), e1] <;> rfl
  rw [go _ fun m hm => List.mem_range.mp hm]
section
variable {prog : Program} {w : World} {A : Around} {E : Value → Shared → Prop} {s : Shared}
theorem tup_turned {t c : Addr} {xs : Array Value} {k : Tok} {Q : Value → Shared → Prop} (it : IsTup s.heap t xs) (ic : s.heap.IsSliceOf c .none .none (.int (-1) k)) (few : xs.size ≤ sizeLine)
    (q : Q (.ref s.heap.objs.size) { s with heap := s.heap.push { cls := .type "tuple", data := .seq xs.toList.reverse.toArray } }) : wpAny (model prog w) A (getItem (.ref t) (.ref c)) Q E s := by
  obtain ⟨o, g1, g2, g3⟩ := id ic
  have tyc : s.TypeIs (.ref c) "slice" := ⟨o, g1, g2⟩
  unfold getItem
  apply wpAny_holding
  apply wpAny_bind; apply wpAny_sequenceKey it.typeIs (by decide)
  apply wpAny_bind; apply wpAny_callSpecial?_slot (name := Str.ofString "__getitem__") it.typeIs slot_tuple_getitem
  refine wpAny_call_entry (slot_tuple_getitem) it.typeIs entry_tuple_getitem ?_ (args_tuple_getitem _ _)
  show wpAny _ _ (Builtin.Tuple.tupleItemsOf _ >>= _) _ _ _
  apply wpAny_bind; apply tupleItemsOf_ it
  apply wpAny_bind; apply wpAny_typeOf tyc
  rw [if_pos (show ((Value.type "slice") == Value.type "slice") = true by decide)]
  have app : ∀ {R : Int × Int × Nat → Shared → Prop}, R ((xs.size : Int) - 1, -1, xs.size) s → wpAny (model prog w) A.in1 (Builtin.Slice.sliceApplied (.ref c) (pure (xs.size : Int))) R E s := fun {R} hR => by
    unfold Builtin.Slice.sliceApplied
    unfold Builtin.Slice.sliceFields
    apply wpAny_bind; apply wpAny_bind; apply wpAny_field g1 g3 (x := .none) rfl
    apply wpAny_bind; apply wpAny_field g1 g3 (x := .none) rfl
    apply wpAny_bind; apply wpAny_field g1 g3 (x := .int (-1) k) rfl
    apply wpAny_pure
    apply wpAny_bind; apply slicePart_int
    show wpAny _ _ (if ((-1 : Int) == 0) = true then _ else _) _ _ _
    rw [if_neg (by decide)]
    apply wpAny_bind; apply slicePart_none
    apply wpAny_bind; apply slicePart_none
    apply wpAny_bind; apply wpAny_pure
    have pl : Builtin.Slice.slicePlaces ((xs.size : Int) - 1) (-1) (-1) = xs.size := by
      unfold Builtin.Slice.slicePlaces
      rw [if_neg (by decide)]
      by_cases z : (xs.size : Int) - 1 > -1
      · rw [if_pos z, show (-(-1) : Int) = 1 from rfl, Int.ediv_one]; omega
      · rw [if_neg z]; omega
    have hR2 : R ((xs.size : Int) - 1, -1, Builtin.Slice.slicePlaces ((xs.size : Int) - 1) (-1) (-1)) s := by rw [pl]; exact hR
    exact wpAny_pure hR2
  apply wpAny_bind; apply app
  have no : ((((xs.size : Int) - 1 == 0) && ((-1 : Int) == 1)) && (xs.size == xs.size)) = false := by
    rw [show ((-1 : Int) == 1) = false from rfl, Bool.and_false, Bool.false_and]
  have big : sizeOk (.seq xs.toList.reverse.toArray) := by
    show xs.toList.reverse.toArray.size ≤ sizeLine
    simpa using few
  show wpAny _ _ (if (((((xs.size : Int) - 1 == 0) && ((-1 : Int) == 1)) && (xs.size == xs.size)) = true) then _ else _) _ _ _
  rw [no, if_neg Bool.false_ne_true, rev_pick]
  first
    | exact wpAny_bind (m := Builtin.Tuple.tupleExact _) (wpAny_newObj_type (wpAny_pure ⟨_, rfl, wpAny_pure q⟩) big)
    | exact wpAny_bind (wpAny_bind (m := Builtin.Tuple.tupleExact _) (wpAny_newObj_type (wpAny_pure (wpAny_pure ⟨_, rfl, wpAny_pure q⟩)) big))
    | exact wpAny_bind (wpAny_bind (m := Builtin.Tuple.tupleExact _) (wpAny_newObj_type (wpAny_pure ⟨_, rfl, wpAny_pure q⟩) big))
end
/-! ### e[::-1] -/
def rTurn (K : PySem.W.Frag) : V → Hp → VK → Prop := fun v H Q => (∃ a xs, v = .ref a ∧ SqL K H a xs ∧ ∀ p, H p = none → Q (.ref p) (upd H p (.lst xs.reverse))) ∨ ∃ a xs, v = .ref a ∧ SqT K H a xs ∧ ∀ p, H p = none → Q (.ref p) (upd H p (.tup xs.reverse))
theorem pe_turn {X : Cx} {e : Expr} {te : TE} {k : Nat} {pa pb pc pd : Pos} (he : PE X e te) : PE X (.Subscript e (.Slice none none (some (.UnaryOp .USub (.Constant (.int 1) k pa) pb)) pc) pd) (fun σ H Q => te σ H fun v H1 => rTurn X.K v H1 Q) := by
  constructor
  intro pins s σ H Q I h
  apply Subscript_
  refine thn (he.run pins s σ H _ I h) ?_
  rintro v s1 ⟨x, H1, I1, r1, q⟩
  have down : PO X (some (.UnaryOp .USub (.Constant (.int 1) k pa) pb)) (tPart (tUn (rU fun i => .int (-i)) (tC (.int 1)))) := po_some (pe_un un_neg pe_int)
  have nopart : PO X none _ := po_none
  apply wpAny_Slice
  refine thn (nopart.run pins s1 σ H1 (fun o G => o = none ∧ G = H1) I1 ⟨rfl, rfl⟩) ?_
  rintro vl s2 ⟨l, H2, I2, pl, rfl, rfl⟩
  refine thn (nopart.run pins s2 σ H2 (fun o G => o = none ∧ G = H2) I2 ⟨rfl, rfl⟩) ?_
  rintro vu s3 ⟨u, H3, I3, pu, rfl, rfl⟩
  refine thn (down.run pins s3 σ H3 (fun o G => o = some (-1) ∧ G = H3) I3 ⟨1, rfl, -1, rfl, rfl, rfl⟩) ?_
  rintro vs s4 ⟨o, H4, I4, ps, rfl, rfl⟩
  cases pl
  cases pu
  cases ps with
  | int _ tk =>
  have I5 : Inv X pins σ H4 { s4 with heap := s4.heap.push { cls := .type "slice", data := .fields #[.none, .none, .int (-1) tk] } } := I4.kept (t' := s4.toks) fun _ _ => Heap.get?_push_of_some _
  show wpAny _ _ (subscriptTail e _ v (.ref s4.heap.objs.size)) _ _ _
  rcases q with ⟨a, xs, rfl, sq, q⟩ | ⟨a, xs, rfl, sq, q⟩
  · cases r1
    obtain ⟨its, r, pl, few⟩ := I5.list sq
    have len := r.length
    refine tail_any (ops := [.ref a, .ref s4.heap.objs.size]) pl.isList.typeIs (PySem.slot_list_getitem.lookup) ?_ (by with_unfolding_all rfl)
    apply wpAny_getItem_list_slice pl.isList (Heap.IsSliceOf.new ..) IsPart.none IsPart.none (IsPart.int (-1) tk) (by decide)
    · rw [PySem.W.krv_pick]
      exact ⟨.ref _, _, I5.laid (t' := s4.toks) (o := .lst xs.reverse) (fun _ _ => Heap.get?_push_of_some _) (Nat.le_refl _) ⟨by simpa using few, _, 0, r.reverse, Heap.get?_push_size _ rfl⟩, rfl, q _ (I5.hok.fresh (Nat.le_refl _))⟩
  · cases r1
    obtain ⟨its, r, it, few⟩ := I5.tuple sq
    have len := r.length
    refine tail_any (ops := [.ref a, .ref s4.heap.objs.size]) it.typeIs (slot_tuple_getitem.lookup) ?_ (by with_unfolding_all rfl)
    refine tup_turned it (Heap.IsSliceOf.new ..) (by rw [List.size_toArray, ← len]; exact few) ?_
    exact ⟨.ref _, _, I5.laid (t' := s4.toks) (o := .tup xs.reverse) (fun _ _ => Heap.get?_push_of_some _) (Nat.le_refl _) ⟨by simpa using few, _, r.reverse, ⟨_, Heap.get?_push_size _ rfl, rfl, _, rfl⟩⟩, rfl, q _ (I5.hok.fresh (Nat.le_refl _))⟩
section
variable [Tbs]
variable {x : Tx} {G H H0 : Hp} {W : XK} {X : Cx}
def opRev : T → Res T
  | .lst _ xs => .ok (.lst .ow xs.reverse)
  | .tup xs => .ok (.tup xs.reverse)
  | _ => .stuck
theorem RepsS.rev {G : Hp} : ∀ {vs : List V} {ts : List T}, RepsS x G vs ts → RepsS x G vs.reverse ts.reverse
  | _, _, .nil => .nil
  | _, _, .cons h r => by
    rw [List.reverse_cons, List.reverse_cons]
    exact (RepsS.rev r).append (.cons h .nil)
theorem turn_sem (hK : X.K = x.K) {a : V} {s : T} {f : List Addr} {Q : VK} (sub : Sub G H) (ra : Rep x G H a s f) (l : ∀ a, Vac H a → Vac H0 a) (h : Pst x W G H (opRev s) (Made x H0 Q)) : rTurn X.K a H Q := by
  cases s with
  | lst fl xs =>
    obtain ⟨p, vs, rfl, hp, r⟩ := ra.lst_inv sub
    exact .inl ⟨p, vs, rfl, .inl (.inl hp), Pst.newLst h sub r.rev l⟩
  | tup xs =>
    obtain ⟨p, vs, rfl, hp, r⟩ := ra.tup_inv sub
    exact .inr ⟨p, vs, rfl, .inl (.inl hp), Pst.newTup h sub r.rev⟩
  | _ => exact h.elim
def dRev (f : Env → Res T) : Env → Res T := fun ρ => (f ρ).bind opRev
theorem p_rev {a : Expr} {f : Env → Res T} {k : Nat} {p1 p2 p3 pos : Pos} (ha : P x X a f) : P x X (.Subscript a (.Slice none none (some (.UnaryOp .USub (.Constant (.int 1) k p1) p2)) p3) pos) (dRev f) :=
  ⟨fun ok W tk => pe_imp (pe_turn (ha.run ok W tk)) fun σ H Q ⟨β, φ, G, ρ, E, h⟩ => ⟨β, φ, G, ρ, E, Pst.bind h fun s G1 H1 s1 h1 v1 f1 r1 n1 d1 => turn_sem ok.K s1.sub r1 (fun a z => s1.ext.back z) (h1.later s1)⟩⟩
end
@[simp] theorem dRev_e {f : Env → Res T} {ρ : Env} : dRev f ρ = (f ρ).bind opRev := rfl
@[simp] theorem opRev_l {fl : Fl} {xs : List T} : opRev (.lst fl xs) = .ok (.lst .ow xs.reverse) := rfl
@[simp] theorem opRev_t {xs : List T} : opRev (.tup xs) = .ok (.tup xs.reverse) := rfl
end Fn

/-! Fn49: dict displays. -/
namespace Fn
open PySem PySem.Spec L2
variable [Tbs]
section
variable {x : Tx} {G G' G1 H H' H0 H1 : Hp} {W : XK} {X : Cx} {σ : L2.St} {ρ : Env} {pos : Pos}
inductive PRel (x : Tx) (G : Hp) : List (Key × V) → List (T × T) → Prop where
  | nil : PRel x G [] []
  | cons {k : Key} {v : V} {t : T} {kvs : List (Key × V)} {l : List (T × T)} (h : RepS x G v t) (r : PRel x G kvs l) : PRel x G ((k, v) :: kvs) ((kT k, t) :: l)
theorem PRel.length {kvs : List (Key × V)} {l : List (T × T)} (h : PRel x G kvs l) : kvs.length = l.length := by
  induction h with
  | nil => rfl
  | cons _ _ ih => simp [ih]
theorem PRel.merge {kvs : List (Key × V)} {l : List (T × T)} (h : PRel x G kvs l) : ∀ {acc : List (Key × V)} {us : List (T × T)}, RepD x G acc us → RepD x G (mergeK acc kvs) (l.foldl (fun a p => dput a p.1 p.2) us) := by
  induction h with
  | nil => exact fun r => r
  | cons h _ ih => exact fun r => ih (r.put h)
def dPairs : List ((Env → Res T) × (Env → Res T)) → Env → Res (List (T × T))
  | [], _ => .ok []
  | (f, g) :: r, ρ => (f ρ).bind fun a => (g ρ).bind fun b => if a.isKey = true then match b.frz with
    | some b' => (dPairs r ρ).bind fun l => .ok ((a, b') :: l)
    | none => .stuck
    else .stuck
theorem dPairs_len : ∀ {fs : List ((Env → Res T) × (Env → Res T))} {ρ : Env} {l : List (T × T)}, dPairs fs ρ = .ok l → l.length = fs.length
  | [], ρ, l, h => by cases h; rfl
  | (f, g) :: r, ρ, l, h => by
    unfold dPairs at h
    cases e1 : f ρ with
    | exc c p => rw [e1] at h; cases h
    | stuck => rw [e1] at h; cases h
    | ok a =>
      rw [e1] at h; simp only [Res.bind_ok] at h
      cases e2 : g ρ with
      | exc c p => rw [e2] at h; cases h
      | stuck => rw [e2] at h; cases h
      | ok b =>
        rw [e2] at h; simp only [Res.bind_ok] at h
        split at h
        · split at h
          · cases e3 : dPairs r ρ with
            | exc c p => rw [e3] at h; cases h
            | stuck => rw [e3] at h; cases h
            | ok l' => rw [e3] at h; cases h; rw [List.length_cons, List.length_cons, dPairs_len e3]
          · cases h
        · cases h
structure PPr (x : Tx) (X : Cx) (pos : Pos) (keys : List (Option Expr)) (values : List Expr) (fs : List ((Env → Res T) × (Env → Res T))) : Prop where
  run : XOk x X → ∀ W : XK, Takes X (fun c d _ H => W c d H) → ∃ trs, PPs X pos keys values trs ∧ ∀ β φ G H σ ρ Q, ER x β φ G H σ ρ → Pst x W G H (dPairs fs ρ) (fun l G' H' => ∀ kvs, PRel x G' kvs l → Q (kvs.map fun kv => (kV kv.1, kv.2)) H') → tPairs trs σ H Q
theorem PRel.le {kvs : List (Key × V)} {l : List (T × T)} (h : PRel x G kvs l) (s : ∀ b o, G b = some o → G' b = some o) : PRel x G' kvs l := by
  induction h with
  | nil => exact .nil
  | cons h _ ih => exact .cons (h.le s) ih
theorem ppr_nil : PPr x X pos [] [] [] := ⟨fun ok W tk => ⟨[], pps_nil, fun β φ G H σ ρ Q E h => h G H (.refl _ E.sub) [] .nil⟩⟩
theorem ppr_cons {k v : Expr} {ks : List (Option Expr)} {vs : List Expr} {f g : Env → Res T} {fs : List ((Env → Res T) × (Env → Res T))} (hk : P x X k f) (hv : P x X v g) (r : PPr x X pos ks vs fs) : PPr x X pos (some k :: ks) (v :: vs) ((f, g) :: fs) := ⟨fun ok W tk => by
  obtain ⟨trs, h1, h2⟩ := r.run ok W tk
  refine ⟨_, pps_cons (hk.run ok W tk) (hv.run ok W tk) h1, fun β φ G H σ ρ Q E h => ?_⟩
  unfold dPairs at h
  refine ⟨β, φ, G, ρ, E, Pst.bind h fun a G1 H1 s1 q1 kv fk rk nk dk => ?_⟩
  refine ⟨β, φ, G1, ρ, E.step s1, Pst.bind (q1.later s1) fun b G2 H2 s2 q2 w fp rw' nd fr => ?_⟩
  by_cases ek : a.isKey = true
  case neg => rw [if_neg ek] at q2; exact q2.elim
  case pos =>
  rw [if_pos ek] at q2
  obtain ⟨key, rfl⟩ := isKey_kT ek
  have e0 := rk.kT
  subst e0
  cases ef : b.frz with
  | none => rw [ef] at q2; exact q2.elim
  | some b' =>
    rw [ef] at q2
    simp only at q2
    have s3 : Stp No G1 H1 (add G2 H2 fp) H2 := s2.share rw'.there fun a ha => ⟨.inl (fr a ha).1, (fr a ha).2⟩
    have rS : RepS x (add G2 H2 fp) w b' := rw'.frz (fun a ha => (fr a ha).2) ef
    refine h2 β φ (add G2 H2 fp) H2 σ ρ _ ((E.step s1).step s3) (Pst.bind (q2.later s3) fun l G3 H3 s4 q3 kvs pr => ?_)
    exact q3 G3 H3 s4 ((key, w) :: kvs) (.cons (rS.le s4.le) pr)⟩
def dDisp (fs : List ((Env → Res T) × (Env → Res T))) : Env → Res T := fun ρ => (dPairs fs ρ).bind fun l => .ok (.dct .ow .k (l.foldl (fun a p => dput a p.1 p.2) []))
theorem p_disp {keys : List (Option Expr)} {values : List Expr} {fs : List ((Env → Res T) × (Env → Res T))} (h : PPr x X pos keys values fs) (few : fs.length ≤ 15 := by decide) (hall : keys.all (·.isSome) = true := by rfl) (hl : keys.length = values.length := by rfl) (h0 : keys ≠ [] := by simp) (h15 : keys.length ≤ 15 := by decide) :
    P x X (.Dict keys values pos) (dDisp fs) := ⟨fun ok W tk => by
  obtain ⟨trs, h1, h2⟩ := h.run ok W tk
  refine pe_imp (pe_disp h1 hall hl h0 h15) fun σ H Q ⟨β, φ, G, ρ, E, q⟩ p hp => ?_
  have st : Stp No G H G (upd H p (.dK [])) := .laid E.sub hp
  have gp : G p = none := by
    cases z : G p with
    | none => rfl
    | some u => rcases (E.sub p u z).2 with y | ⟨od, y, _⟩ <;> (rw [hp] at y; cases y)
  refine h2 β φ G _ σ ρ _ (E.step st) ?_
  unfold dDisp at q
  cases e : dPairs fs ρ with
  | stuck => rw [e] at q; exact q.elim
  | exc c ps => rw [e] at q; exact fun d G' H' s xr => q d G' H' (st.trans s) xr
  | ok l =>
    rw [e] at q
    intro G' H' s kvs pr
    have at0 : H' p = some (.dK []) := s.ext.keep p _ upd_same (fun _ z => by cases z) id
    have gp' : G' p = none := s.notIn gp ⟨_, upd_same, (fun _ z => by cases z), (fun _ z => by cases z)⟩ id
    refine ⟨at0, kvs, rfl, by rw [pr.length, dPairs_len e]; exact few, ?_⟩
    obtain ⟨ts', r', e'⟩ := pr.merge (acc := []) (us := []) ⟨[], .nil, rfl⟩
    have sA := (st.trans s).mut (o := .dK (mergeK [] kvs)) hp gp' (by rw [at0]; simp) (fun ps z => by rw [at0] at z; cases z) (fun ps z => by rw [at0] at z; cases z)
    refine q G' _ sA (.ref p) [p] ?_ (by simp) fun a ha => ?_
    · rw [e']; exact .dctK .ow (show upd H' p _ p = _ from upd_same) r'
    · cases List.mem_singleton.mp ha; exact ⟨.of hp, gp'⟩⟩
/-- the empty one -/
theorem gone_of (s : Sub G H) {p : Addr} (h : H p = none) : G p = none := by
  cases z : G p with
  | none => rfl
  | some u => rcases (s p u z).2 with y | ⟨od, y, _⟩ <;> (rw [h] at y; cases y)
theorem p_newK : P x X (.Dict [] [] pos) (dC (.dct .ow .k [])) := ⟨fun ok W tk => pe_imp pe_dnewK fun σ H Q ⟨β, φ, G, ρ, E, q⟩ p hp => by
  refine q G _ (.laid E.sub hp) (.ref p) [p] ?_ (by simp) fun a ha => ?_
  · exact .dctK (kvs := []) (ts := []) .ow upd_same .nil
  · cases List.mem_singleton.mp ha; exact ⟨.of hp, gone_of E.sub hp⟩⟩
theorem p_newT : P x X (.Dict [] [] pos) (dC (.dct .ow .t [])) := ⟨fun ok W tk => pe_imp pe_dnewT fun σ H Q ⟨β, φ, G, ρ, E, q⟩ p hp => by
  refine q G _ (.laid E.sub hp) (.ref p) [p] ?_ (by simp) fun a ha => ?_
  · exact .dctT (kvs := []) (ts := []) .ow upd_same .nil
  · cases List.mem_singleton.mp ha; exact ⟨.of hp, gone_of E.sub hp⟩⟩
@[simp] theorem dDisp_e {fs : List ((Env → Res T) × (Env → Res T))} {ρ : Env} : dDisp fs ρ = (dPairs fs ρ).bind fun l => .ok (.dct .ow .k (l.foldl (fun a p => dput a p.1 p.2) [])) := rfl
@[simp] theorem dPairs_nil {ρ : Env} : dPairs [] ρ = .ok [] := rfl
@[simp] theorem dPairs_cons {f g : Env → Res T} {r : List ((Env → Res T) × (Env → Res T))} {ρ : Env} : dPairs ((f, g) :: r) ρ = (f ρ).bind fun a => (g ρ).bind fun b => if a.isKey = true then match b.frz with | some b' => (dPairs r ρ).bind fun l => .ok ((a, b') :: l) | none => .stuck else .stuck := rfl
end
end Fn

/-! Fn50: the law's def; min of data. -/
namespace Fn
open PySem PySem.Spec L2
variable [Tbs]
section
variable {x : Tx} {β : Bo} {φ φ' φ1 : Nat → List Addr} {G G' G1 G2 H H' H0 H1 H2 : Hp} {σ σ' : St} {ρ ρ' : Env} {W : XK} {Po : Addr → Prop} {X : Cx}
theorem def_top {P : Program} {w : World} {mg : Str → Option Value} {base : Heap} {nm qual : Str} {st : Stmt} {f : Addr} {oc : Value} {od : Option Addr} {kV doc pm : Value} {an : Option Addr} {cdv ct : Value} {osl : Array (Option Value)} {N ps : List Str} {k : Nat} {b : Env → ResS}
    (lk : x.K.lookup f = some ⟨oc, od, .func (PySem.W.fnOf nm qual (defArgs st) (defBody st) (defScope st) .none kV doc pm an cdv ct), osl⟩) (hcd : PySem.W.codeIn x.K cdv qual = true) (Sc : FnScope N ps (defScope st)) (hr : Room (k + 1) callerA)
    (hb : ∀ (outer : List PySem.Env) (s : Shared) (H : Hp) (E : XK), Room k (callerA.deeper (PyProof.Rows.envOfC qual (defScope st) s.heap.objs.size f cdv)) → Ss x (fun _ => false) (cxOf (L2.CX P w) P w x.K mg base N qual (defScope st) f cdv callerA outer s H E) (defBody st) b) :
    Top P w x.K mg base (L2.CX P w) f (PySem.W.fnOf nm qual (defArgs st) (defBody st) (defScope st) .none kV doc pm an cdv ct) ps (spP x ps.length (dRun N.length b)) := by
  refine top_of lk hcd Sc (hr.mono (Nat.succ_le_succ (Nat.zero_le _))) (fun vs H Q E h => h.1) (fun s H vs Q E h => ?_)
  obtain ⟨hl, G, ts, sub, tb, r, h⟩ := h
  have hr' := hr.deeper (PyProof.Rows.envOfC qual (defScope st) s.heap.objs.size f cdv)
  refine ⟨_, (hb [] s H E hr').run ⟨rfl, rfl, hr'.mono (Nat.zero_le _), Sc.nd⟩ E (takes_of rfl rfl rfl rfl) (passes_of rfl), ?_⟩
  refine ⟨⟨fun _ => none, fun _ => none, false⟩, fun _ => [], G, _, er_start sub tb r, ⟨fun _ _ => rfl, rfl⟩, ?_⟩
  unfold dRun at h
  generalize hB : b (ts.map some ++ List.replicate (N.length - ts.length) none) = B at h
  have noO : ∀ {φ : Nat → List Addr} {a : Addr}, (∀ a, Ow φ a → Ow (fun _ => ([] : List Addr)) a ∨ Vac H a) → Ow φ a → Vac H a := fun o z => (o _ z).elim (fun ⟨_, z⟩ => by cases z) id
  have pure : ∀ {G' H'}, Stp (Ow fun _ => ([] : List Addr)) G H G' H' → Stp No G H G' H' := fun s => s.mono fun a ⟨_, z⟩ => by cases z
  cases B with
  | ok fl ρ' => cases fl with
    | next => exact fun σ' φ' G' H' s' E' o => h G' H' (pure s') .non [] (.s .non) .nil fun a z => by cases z
    | brk => exact h.elim
    | cont => exact h.elim
    | ret t => exact fun σ' φ' G' H' s' E' o v fp rr hn nd fr => h G' H' (pure s') v fp rr nd fun a ha => ⟨(fr a ha).1.elim id fun ⟨_, z⟩ => (by cases z), (fr a ha).2.1⟩
  | exc c p ρ' => exact fun d σ' φ' G' H' s' E' o xr => h d G' H' (pure s') xr
  | stuck => exact h.elim
end
theorem Def.up {x : Tx} {P : Program} {w : World} {mg : Str → Option Value} {base : Heap} {nm : Str} {j k n : Nat} {sp : Sp} (D : Def x P w mg base nm j n sp) (h : j ≤ k) : Def x P w mg base nm k n sp := by
  obtain ⟨f, fd, ps, F, r⟩ := D.go
  exact ⟨f, fd, ps, F.mono h, r⟩
/-! ### min of data -/
mutual
/-- data that stands for itself -/
def T.pln : T → Bool
  | .non => true
  | .bl _ => true
  | .int _ => true
  | .str _ => true
  | .tup xs => plns xs
  | _ => false
def plns : List T → Bool
  | [] => true
  | t :: r => t.pln && plns r
end
mutual
theorem pln_inj : ∀ (s t : T) (d : PyData), s.pln = true → t.pln = true → s.dat = some d → t.dat = some d → s = t
  | .non, t, d, _, h2, e1, e2 => by
    cases e1
    cases t with
    | non => rfl
    | tup ys => obtain ⟨_, _, z⟩ := dat_tup (show (datAll ys).map PyData.tuple = _ from e2); cases z
    | bl _ => cases e2
    | int _ => cases e2
    | str _ => cases e2
    | _ => cases h2
  | .bl _, t, d, _, h2, e1, e2 => by
    cases e1
    cases t with
    | bl _ => cases e2; rfl
    | tup ys => obtain ⟨_, _, z⟩ := dat_tup (show (datAll ys).map PyData.tuple = _ from e2); cases z
    | non => cases e2
    | int _ => cases e2
    | str _ => cases e2
    | _ => cases h2
  | .int _, t, d, _, h2, e1, e2 => by
    cases e1
    cases t with
    | int _ => cases e2; rfl
    | tup ys => obtain ⟨_, _, z⟩ := dat_tup (show (datAll ys).map PyData.tuple = _ from e2); cases z
    | non => cases e2
    | bl _ => cases e2
    | str _ => cases e2
    | _ => cases h2
  | .str _, t, d, _, h2, e1, e2 => by
    cases e1
    cases t with
    | str _ => cases e2; rfl
    | tup ys => obtain ⟨_, _, z⟩ := dat_tup (show (datAll ys).map PyData.tuple = _ from e2); cases z
    | non => cases e2
    | bl _ => cases e2
    | int _ => cases e2
    | _ => cases h2
  | .tup xs, t, d, h1, h2, e1, e2 => by
    obtain ⟨ds, q1, rfl⟩ := dat_tup (show (datAll xs).map PyData.tuple = _ from e1)
    cases t with
    | tup ys =>
      obtain ⟨es, q2, z⟩ := dat_tup (show (datAll ys).map PyData.tuple = _ from e2)
      cases z
      rw [plns_inj xs ys ds h1 h2 q1 q2]
    | non => cases e2
    | bl _ => cases e2
    | int _ => cases e2
    | str _ => cases e2
    | _ => cases h2
  | .fn _, _, _, h, _, _, _ => by cases h
  | .scr _, _, _, h, _, _, _ => by cases h
  | .ktup _, _, _, h, _, _, _ => by cases h
  | .lst _ _, _, _, h, _, _, _ => by cases h
  | .dct _ _ _, _, _, h, _, _, _ => by cases h
  | .obj _ _ _, _, _, h, _, _, _ => by cases h
theorem plns_inj : ∀ (xs ys : List T) (ds : List PyData), plns xs = true → plns ys = true → datAll xs = some ds → datAll ys = some ds → xs = ys
  | [], ys, ds, _, _, e1, e2 => by
    cases e1
    cases ys with
    | nil => rfl
    | cons y ys => unfold datAll at e2; split at e2 <;> cases e2
  | s :: xs, ys, ds, h1, h2, e1, e2 => by
    unfold datAll at e1
    split at e1
    · rename_i d ds' q1 q2
      cases e1
      cases ys with
      | nil => cases e2
      | cons t ys =>
        unfold datAll at e2
        split at e2
        · rename_i d2 ds2 q3 q4
          cases e2
          simp only [plns, Bool.and_eq_true] at h1 h2
          rw [pln_inj s t d h1.1 h2.1 q1 q3, plns_inj xs ys ds' h1.2 h2.2 q2 q4]
        · cases e2
    · cases e1
end
def minT (t : T) (ts : List T) : T := ts.foldl (fun a y => if PySem.W.dataLt y.enc a.enc then y else a) t
theorem minT_enc (t : T) (ts : List T) : (minT t ts).enc = PySem.W.minD t.enc (ts.map T.enc) := by
  unfold minT PySem.W.minD
  induction ts generalizing t with
  | nil => rfl
  | cons y ys ih =>
    rw [List.map_cons, List.foldl_cons, List.foldl_cons, ih]
    congr 1
    split <;> rfl
theorem minT_mem (t : T) (ts : List T) : minT t ts ∈ t :: ts := by
  unfold minT
  induction ts generalizing t with
  | nil => simp
  | cons y ys ih =>
    rw [List.foldl_cons]
    have := ih (if PySem.W.dataLt y.enc t.enc then y else t)
    rcases List.mem_cons.mp this with z | z
    · rw [z]; split <;> simp
    · simp [z]
/-- what can be compared -/
def minOk (ts : List T) : Bool := ts.all (fun t => t.dok 60) && ts.all (fun t => t.pln) && (ts.all fun a => ts.all fun b => PySem.W.alike a.enc b.enc) && (ts.all fun t => match t with | .non => false | _ => true)
def caMinT : List T → Res T
  | [.lst _ (t :: ts)] => if minOk (t :: ts) = true then .ok (minT t ts) else .stuck
  | _ => .stuck
section
variable {x : Tx} {G H : Hp} {X : Cx} {pins : List (Addr × Obj)} {σ : L2.St} {s : Shared}
theorem readsAll_of (I : Inv X pins σ H s) (hK : X.K = x.K) (sub : Sub G H) : ∀ {us : List Value} {ws : List V} {ts : List T}, Vals ws us → RepsS x G ws ts → ts.all (fun t => t.dok 60) = true → ∃ as, ReadsAll s.heap us (ts.map T.enc) as
  | _, _, _, .nil, .nil, _ => ⟨_, .nil⟩
  | u :: _, _, _, .cons a r, .cons (t := t) h q, hd => by
    rw [List.all_cons, Bool.and_eq_true] at hd
    obtain ⟨d, e, _, _⟩ := dok_dat hd.1
    obtain ⟨as, r1⟩ := Dp.reads I d _ _ (by rw [hK]; exact h.dp sub e) a
    obtain ⟨bs, r2⟩ := readsAll_of I hK sub r q hd.2
    have r3 : Reads s.heap u t.enc as := by rw [show t.enc = d by unfold T.enc; rw [e]; rfl]; exact r1
    exact ⟨_, .cons r3 r2⟩
theorem encs_depth : ∀ {ts : List T}, ts.all (fun t => t.dok 60) = true → PyData.depthAll (ts.map T.enc) ≤ 60
  | [], _ => by simp [PyData.depthAll]
  | t :: ts, h => by
    rw [List.all_cons, Bool.and_eq_true] at h
    obtain ⟨d, e, _, l⟩ := dok_dat h.1
    have := encs_depth h.2
    rw [List.map_cons, PyData.depthAll, show t.enc = d by unfold T.enc; rw [e]; rfl]
    omega
theorem sem_minT : CaSem x X (.builtin "min") caMinT := fun ok W tk G H H0 vs ts fp Q sub r fr nd l h pins sh σ us I ru => by
  unfold caMinT at h
  split at h
  · rename_i fl t ts
    split at h
    · rename_i c
      unfold minOk at c
      simp only [Bool.and_eq_true] at c
      obtain ⟨⟨⟨c1, c2⟩, c3⟩, c4⟩ := c
      obtain ⟨v, rfl, rr⟩ := r.one
      obtain ⟨a, ws, rfl, ha, q⟩ := rr.lst_inv sub
      rw [Vals.ref1 ru]
      obtain ⟨its, rv, hl, hzz⟩ := I.list (.inl (.inl ha))
      obtain ⟨as, rd⟩ := readsAll_of I ok.K sub rv q c1
      have dp := encs_depth c1
      rw [List.map_cons] at rd dp
      refine PySem.W.min_list_data (x := t.enc) (xs := ts.map T.enc) (I.ok.hd ok.calm) hl.isList rd ⟨?_, ?_⟩ ?_ fun i v h' tk bs hv rv' kp => ?_
      · intro a ha b hb
        rw [← List.map_cons (f := T.enc)] at ha hb
        obtain ⟨s, hs, rfl⟩ := List.mem_map.mp ha
        obtain ⟨t', ht, rfl⟩ := List.mem_map.mp hb
        exact List.all_eq_true.mp (List.all_eq_true.mp c3 s hs) t' ht
      · intro a ha
        rw [← List.map_cons (f := T.enc)] at ha
        obtain ⟨s, hs, rfl⟩ := List.mem_map.mp ha
        have e4 := List.all_eq_true.mp c4 s hs
        obtain ⟨d, e, _, _⟩ := dok_dat (List.all_eq_true.mp c1 s hs)
        intro z
        have z' : d = .none := by unfold T.enc at z; rw [e] at z; exact z
        subst z'
        cases s with
        | non => cases e4
        | tup xs => obtain ⟨_, _, y⟩ := dat_tup (show (datAll xs).map PyData.tuple = _ from e); cases y
        | ktup xs => obtain ⟨_, _, y⟩ := dat_tup (show (datAll xs).map PyData.tuple = _ from e); cases y
        | lst f xs => obtain ⟨_, _, y⟩ := dat_lst (show (datAll xs).map PyData.list = _ from e); cases y
        | _ => cases e
      · have := ok.room.un
        omega
      · have hv' : its[i]? = some v := by simpa using hv
        have I2 : Inv X pins σ H { sh with heap := h', toks := tk } := I.kept kp
        have each := each_rv rv q
        have go : ∀ {us : List Value} {rs : List T} {i : Nat} {v : Value}, PySem.W.EachIs (RV x G) us rs → us[i]? = some v → ∃ t, t ∈ rs ∧ RV x G v t := by
          intro us rs i v e
          induction e generalizing i with
          | nil => intro z; simp at z
          | cons a r ih => cases i with
            | zero => intro z; simp at z; subst z; exact ⟨_, List.mem_cons_self, a⟩
            | succ i => intro z; obtain ⟨t, m, y⟩ := ih (by simpa using z); exact ⟨t, List.mem_cons_of_mem _ m, y⟩
        obtain ⟨t', mt, w, rw', rS⟩ := go each hv'
        obtain ⟨d, e, _, _⟩ := dok_dat (List.all_eq_true.mp c1 t' mt)
        obtain ⟨as2, r2⟩ := Dp.reads I2 d _ _ (by rw [ok.K]; exact rS.dp sub e) rw'
        rw [← minT_enc] at rv'
        have mm := minT_mem t ts
        obtain ⟨d2, e2, _, _⟩ := dok_dat (List.all_eq_true.mp c1 _ mm)
        have ed : (minT t ts).enc = d2 := by unfold T.enc; rw [e2]; rfl
        rw [ed] at rv'
        have eqd := (r2.unique _ _ rv').1
        subst eqd
        have eqt := pln_inj t' (minT t ts) d (List.all_eq_true.mp c2 t' mt) (List.all_eq_true.mp c2 _ mm) e e2
        subst eqt
        exact ⟨w, H, I2, rw', h.scal sub rS⟩
    · exact h.elim
  · exact h.elim
end
end Fn

/-! Lw1: reading denotations: what every law draws. -/
namespace Fn.Lw
open PySem PySem.Spec L2 Fn
def _law_taken_b : Env → ResS := (dSeq (dIfS (dTestB (dOp opGt (dIx (dVar 0) (dC (.int 3))) (dC (.int 0))))
  (dSeq (dAsgF 2 (dOp opMod (dCa caInt (dCons (dIx (dVar 0) (dC (.int 3))) dNil)) (dVar 1)))
  (dSeq (dSetI (.v 0) (dC (.int 3)) (dOp opDiv (dIx (dVar 0) (dC (.int 3))) (dVar 1)))
  (dRet (dVar 2))))
  dNop)
  (dSeq (dSetI (.v 0) (dC (.int 1)) (dOp opAdd (dIx (dVar 0) (dC (.int 1))) (dC (.int 1))))
  (dSeq (dIfS (dTestB (dOp opGt (dIx (dVar 0) (dC (.int 1))) (dCa caLen (dCons (dIx (dVar 0) (dC (.int 0))) dNil))))
  (dSeq (dSetI (.v 0) (dC (.int 2)) (dOp opMod (dCa caInt (dCons (dOp opAdd (dOp opMul (dIx (dVar 0) (dC (.int 2))) (dC (.int 48271))) (dC (.int 11))) dNil)) (dC (.int 2147483647))))
  (dRet (dOp opMod (dCa caInt (dCons (dOp opDiv (dIx (dVar 0) (dC (.int 2))) (dC (.int 7))) dNil)) (dVar 1))))
  dNop)
  (dSeq (dAsgF 3 (dIx (dIx (dVar 0) (dC (.int 0))) (dOp opSub (dIx (dVar 0) (dC (.int 1))) (dC (.int 1)))))
  (dSeq (dSetI (.v 0) (dC (.int 2)) (dOp opMod (dCa caInt (dCons (dOp opAdd (dOp opAdd (dOp opMul (dIx (dVar 0) (dC (.int 2))) (dC (.int 48271))) (dVar 3)) (dC (.int 11))) dNil)) (dC (.int 2147483647))))
  (dSeq (dIfS (dTestB (dOp opGe (dVar 3) (dOp opPow (dC (.int 10)) (dC (.int 18)))))
  (dSetI (.v 0) (dC (.int 3)) (dOp opDiv (dVar 3) (dVar 1)))
  dNop)
  (dRet (dOp opMod (dCa caInt (dCons (dVar 3) dNil)) (dVar 1)))))))))
def _law_taken : List T → ResM T := dRunM 2 4 (biOf [true, false]) _law_taken_b
def _law_pick_b : Env → ResS := (dRetM (dOpM opIx (dUp (dVar 1)) (dCallM _law_taken [some 0, none] (dBor 0 (dConsM (dUp (dCa caLen (dCons (dVar 1) dNil))) dNilM)))))
def _law_pick : List T → ResM T := dRunM 2 2 (biOf [true, false]) _law_pick_b

/-- the script, as it is handed over -/
def Scr (s : T) (ns : List Int) : Prop := s = .lst .sh (ns.map T.int) ∨ s = .scr ns
def rowT (s : T) (k c r : Int) : T := .lst .ow [s, .int k, .int c, .int r]
def IsRow (t : T) : Prop := ∃ s ns k c r, Scr s ns ∧ 0 ≤ k ∧ t = rowT s k c r
theorem taken_eq {t : T} (h : IsRow t) {m : Int} (h0 : 0 < m) (h1 : m < 1073741824) : ∃ t' v, IsRow t' ∧ 0 ≤ v ∧ v < m ∧ _law_taken [t, .int m] = .ok (.int v) [some t', none] := by
  obtain ⟨s, ns, k, c, r, hs, hk, rfl⟩ := h
  have md : ∀ a : Int, 0 ≤ a % m ∧ a % m < m := fun a => ⟨Int.emod_nonneg _ (by omega), Int.emod_lt_of_pos _ h0⟩
  by_cases hr : 0 < r
  · refine ⟨rowT s k c (r / m), r % m, ⟨s, ns, k, c, _, hs, hk, rfl⟩, (md _).1, (md _).2, ?_⟩
    simp [_law_taken, dRunM, _law_taken_b, atI, ixN, hr, rowT, h0, h1, cutE, biOf]
  · by_cases hl : (ns.length : Int) < k + 1
    · rcases hs with rfl | rfl
      · refine ⟨rowT (.lst .sh (ns.map T.int)) (k + 1) ((c * 48271 + 11) % 2147483647) r, _, ⟨_, ns, _, _, _, .inl rfl, by omega, rfl⟩, (md ((c * 48271 + 11) % 2147483647 / 7)).1, (md _).2, ?_⟩
        simp [_law_taken, dRunM, _law_taken_b, atI, ixN, hr, rowT, h0, h1, cutE, biOf, hl]
      · refine ⟨rowT (.scr ns) (k + 1) ((c * 48271 + 11) % 2147483647) r, _, ⟨_, ns, _, _, _, .inr rfl, by omega, rfl⟩, (md ((c * 48271 + 11) % 2147483647 / 7)).1, (md _).2, ?_⟩
        simp [_law_taken, dRunM, _law_taken_b, atI, ixN, hr, rowT, h0, h1, cutE, biOf, hl]
    · have hk2 : k.toNat < ns.length := by omega
      have hk3 : k < (ns.length : Int) := by omega
      generalize hcell : ns[k.toNat] = cell
      by_cases hc : 1000000000000000000 ≤ cell
      · refine ⟨rowT s (k + 1) ((c * 48271 + cell + 11) % 2147483647) (cell / m), _, ⟨_, ns, _, _, _, hs, by omega, rfl⟩, (md cell).1, (md cell).2, ?_⟩
        rcases hs with rfl | rfl <;> simp [_law_taken, dRunM, _law_taken_b, atI, ixN, hr, rowT, h0, h1, cutE, biOf, hl, hk, hk2, hk3, hcell, hc]
      · refine ⟨rowT s (k + 1) ((c * 48271 + cell + 11) % 2147483647) r, _, ⟨_, ns, _, _, _, hs, by omega, rfl⟩, (md cell).1, (md cell).2, ?_⟩
        rcases hs with rfl | rfl <;> simp [_law_taken, dRunM, _law_taken_b, atI, ixN, hr, rowT, h0, h1, cutE, biOf, hl, hk, hk2, hk3, hcell, hc]

theorem wb_one {j : Nat} {t' : T} {ρ : Env} : wb [some j, none] [some t', none] ρ = ρ.set j (some t') := by
  unfold wb
  apply List.ext_getElem?
  intro i
  rw [List.getElem?_mapIdx, List.getElem?_set]
  by_cases e : j = i
  · subst e
    by_cases hl : j < ρ.length
    · simp [posOf, hl, List.findIdx?_cons]
    · simp [hl]
  · have : ¬ (i = j) := fun z => e z.symm
    simp [posOf, e, List.findIdx?_cons]
theorem call_row {F : List T → ResM T} {j : Nat} {ρ : Env} {f : Env → Res T} {t t' u u' v : T} (hj : ρ[j]? = some (some t)) (hf : f ρ = .ok u) (hn : u.np = true) (hz : u.frz = some u') (hF : F [t, u'] = .ok v [some t', none]) :
    dCallM F [some j, none] (dBor j (dConsM (dUp f) dNilM)) ρ = .ok v (ρ.set j (some t')) := by
  have h2 : some j = some j := rfl
  simp [hj, hf, hn, hz, hF, ← wb_one]
theorem taken_at {j : Nat} {ρ : Env} {f : Env → Res T} {t : T} {m : Int} (hj : ρ[j]? = some (some t)) (ht : IsRow t) (hf : f ρ = .ok (.int m)) (h0 : 0 < m) (h1 : m < 1073741824) :
    ∃ t' v, IsRow t' ∧ 0 ≤ v ∧ v < m ∧ dCallM _law_taken [some j, none] (dBor j (dConsM (dUp f) dNilM)) ρ = .ok (.int v) (ρ.set j (some t')) := by
  obtain ⟨t', v, a, b, c, d⟩ := taken_eq ht h0 h1
  exact ⟨t', v, a, b, c, call_row hj hf rfl rfl d⟩
theorem pick_eq {t : T} (h : IsRow t) {fl : Fl} (hfl : fl ≠ .pk) {xs : List T} (h0 : xs ≠ []) (h1 : xs.length < 1073741824) (hn : ∀ x ∈ xs, x.np = true) : ∃ t' x, IsRow t' ∧ x ∈ xs ∧ _law_pick [t, .lst .sh xs] = .ok x [some t', none] := by
  have hp : 0 < xs.length := List.length_pos_iff.mpr h0
  obtain ⟨t', v, a, b, c, d⟩ := taken_at (j := 0) (ρ := [some t, some (.lst .sh xs)]) (f := dCa caLen (dCons (dVar 1) dNil)) (m := xs.length) rfl h (by simp) (by omega) (by omega)
  have hv : v.toNat < xs.length := by omega
  have hx : xs[v.toNat] ∈ xs := List.getElem_mem hv
  refine ⟨t', xs[v.toNat], a, hx, ?_⟩
  have e : atI xs v = some xs[v.toNat] := by
    unfold atI ixN
    rw [if_pos b, if_pos c, Option.bind_some, List.getElem?_eq_getElem hv]
  have hb : _law_pick_b [some t, some (.lst .sh xs)] = .ok (.ret xs[v.toNat]) [some t', some (.lst .sh xs)] := by
    unfold _law_pick_b
    simp only [dRetM_e, dOpM_e, dUp_e, dVar_e, List.getElem?_cons_succ, List.getElem?_cons_zero, Res.bind, pkd_lsh, np_lsh, if_true, Res.up, ResM.bind, d]
    simp [e, hn _ hx]
  simp [_law_pick, dRunM, hb, cutE, biOf]
theorem pick_at {j : Nat} {ρ : Env} {f : Env → Res T} {t : T} {fl : Fl} {xs : List T} (hj : ρ[j]? = some (some t)) (ht : IsRow t) (hf : f ρ = .ok (.lst fl xs)) (hfl : fl = .ow ∨ fl = .sh) (h0 : xs ≠ []) (h1 : xs.length < 1073741824) (hn : ∀ x ∈ xs, x.np = true) :
    ∃ t' x, IsRow t' ∧ x ∈ xs ∧ dCallM _law_pick [some j, none] (dBor j (dConsM (dUp f) dNilM)) ρ = .ok x (ρ.set j (some t')) := by
  obtain ⟨t', v, a, b, c⟩ := pick_eq ht (fl := .sh) (by simp) h0 h1 hn
  refine ⟨t', v, a, b, ?_⟩
  rcases hfl with rfl | rfl
  · exact call_row hj hf rfl rfl c
  · exact call_row hj hf rfl rfl c
end Fn.Lw
namespace Fn
/-- a truth value by computing -/
def Res.blOf : Res T → Option Bool
  | .ok (.bl b) => some b
  | _ => none
theorem Res.of_bl {r : Res T} {b : Bool} (h : r.blOf = some b) : r = .ok (.bl b) := by
  unfold Res.blOf at h
  split at h <;> cases h
  rfl
end Fn
namespace Fn
open PySem PySem.Spec L2
theorem compLM_inv {tg : T → Env → Option Env} {tt : Env → ResM Bool} {el : Env → ResM T} {own : List Nat} (I : Env → Prop) (Pu : T → Prop) : ∀ (ts : List T) (ρ : Env), (∀ t ∈ ts, ∀ ρ, I ρ → ∃ ρ1 ρ2 u u', tg t ρ = some ρ1 ∧ tt ρ1 = .ok true ρ1 ∧ el ρ1 = .ok u ρ2 ∧ u.frz = some u' ∧ Pu u' ∧ I (wipeE ρ2 own)) → I ρ →
    ∃ us ρ', compLM tg tt el own ts ρ = .ok us ρ' ∧ us.length = ts.length ∧ (∀ u ∈ us, Pu u) ∧ I ρ'
  | [], ρ, _, h => ⟨[], ρ, rfl, rfl, fun _ h => (by cases h), h⟩
  | t :: r, ρ, hs, h => by
    obtain ⟨ρ1, ρ2, u, u', e1, e2, e3, e4, e5, e6⟩ := hs t List.mem_cons_self ρ h
    obtain ⟨us, ρ', q1, q2, q3, q4⟩ := compLM_inv I Pu r _ (fun t ht => hs t (List.mem_cons_of_mem _ ht)) e6
    refine ⟨u' :: us, ρ', ?_, by simp [q2], fun v hv => ?_, q4⟩
    · unfold compLM; simp [e1, e2, e3, e4, q1]
    · rcases List.mem_cons.mp hv with z | z
      · rw [z]; exact e5
      · exact q3 v z
end Fn

/-! plain mathematics of rings and rows -/
namespace Fn.R16
variable {K : Type} [DecidableEq K]
def whole (cs : List (K × Nat)) : Nat := (cs.map (·.2)).sum
def isE (o : Option K) (g : K) : Nat := if o = some g then 1 else 0
def ends (b e : Option K) (g : K) : Nat := isE b g + isE e g
def canStand (cs : List (K × Nat)) (b e : Option K) : Bool :=
  if whole cs = 0 then (b.isNone || b != e) else cs.all fun p => decide (2 * p.2 + ends b e p.1 ≤ whole cs + 1)
def dec (cs : List (K × Nat)) (g : K) : List (K × Nat) := cs.map fun p => if p.1 = g then (p.1, p.2 - 1) else p
def Keys (cs : List (K × Nat)) : Prop := (cs.map (·.1)).Nodup

theorem whole_cons (p : K × Nat) (cs : List (K × Nat)) : whole (p :: cs) = p.2 + whole cs := by simp [whole]
theorem whole_mem {cs : List (K × Nat)} {p : K × Nat} (h : p ∈ cs) : p.2 ≤ whole cs := by
  induction cs with
  | nil => cases h
  | cons q cs ih =>
    rw [whole_cons]
    rcases List.mem_cons.mp h with z | z
    · subst z; omega
    · have := ih z; omega
theorem whole_two {cs : List (K × Nat)} (hk : Keys cs) {p q : K × Nat} (h : p ∈ cs) (h' : q ∈ cs) (ne : p.1 ≠ q.1) : p.2 + q.2 ≤ whole cs := by
  induction cs with
  | nil => cases h
  | cons r cs ih =>
    rw [whole_cons]
    have hk' : Keys cs := (List.nodup_cons.mp hk).2
    rcases List.mem_cons.mp h with z | z
    · rcases List.mem_cons.mp h' with z' | z'
      · subst z z'; exact absurd rfl ne
      · subst z; have := whole_mem z'; omega
    · rcases List.mem_cons.mp h' with z' | z'
      · subst z'; have := whole_mem z; omega
      · have := ih hk' z z'; omega
theorem dec_none {cs : List (K × Nat)} {g : K} (h : g ∉ cs.map (·.1)) : dec cs g = cs := by
  unfold dec
  induction cs with
  | nil => rfl
  | cons r cs ih =>
    rw [List.map_cons] at h
    have h1 : r.1 ≠ g := fun z => h (by rw [z]; exact List.mem_cons_self)
    rw [List.map_cons, ih (fun z => h (List.mem_cons_of_mem _ z)), if_neg h1]
theorem whole_dec {cs : List (K × Nat)} (hk : Keys cs) {p : K × Nat} (h : p ∈ cs) (hp : 0 < p.2) : whole (dec cs p.1) + 1 = whole cs := by
  induction cs with
  | nil => cases h
  | cons r cs ih =>
    have hk' : Keys cs := (List.nodup_cons.mp hk).2
    have nr := (List.nodup_cons.mp hk).1
    rcases List.mem_cons.mp h with z | z
    · subst z
      have : dec (p :: cs) p.1 = (p.1, p.2 - 1) :: dec cs p.1 := by simp [dec]
      rw [this, dec_none nr, whole_cons, whole_cons]
      simp only; omega
    · have ne : r.1 ≠ p.1 := fun z' => nr (List.mem_map.mpr ⟨p, z, z'.symm⟩)
      have : dec (r :: cs) p.1 = r :: dec cs p.1 := by simp [dec, ne]
      rw [this, whole_cons, whole_cons]
      have := ih hk' z; omega
theorem keys_dec (cs : List (K × Nat)) (g : K) : (dec cs g).map (·.1) = cs.map (·.1) := by
  unfold dec
  rw [List.map_map]
  apply List.map_congr_left
  intro p _
  simp only [Function.comp]
  split <;> rfl
theorem Keys.dec {cs : List (K × Nat)} (h : Keys cs) (g : K) : Keys (dec cs g) := by unfold Keys; rw [keys_dec]; exact h
theorem keys_inj {cs : List (K × Nat)} (hk : Keys cs) {p q : K × Nat} (h : p ∈ cs) (h' : q ∈ cs) (e : p.1 = q.1) : p = q := by
  induction cs with
  | nil => cases h
  | cons r cs ih =>
    have nr := (List.nodup_cons.mp hk).1
    rcases List.mem_cons.mp h with z | z
    · rcases List.mem_cons.mp h' with z' | z'
      · rw [z, z']
      · subst z; exact absurd (List.mem_map.mpr ⟨q, z', e.symm⟩) nr
    · rcases List.mem_cons.mp h' with z' | z'
      · subst z'; exact absurd (List.mem_map.mpr ⟨p, z, e⟩) nr
      · exact ih (List.nodup_cons.mp hk).2 z z'
/-- one step -/
theorem can_iff {cs : List (K × Nat)} (hk : Keys cs) (hw : 0 < whole cs) {b e : Option K} {p : K × Nat} (h : p ∈ cs) (hp : 0 < p.2) (hb : b ≠ some p.1) :
    canStand (dec cs p.1) (some p.1) e = true ↔ (whole cs = 1 → e ≠ some p.1) ∧ (1 < whole cs → ∀ q ∈ cs, 2 * q.2 + ends b e q.1 + (if q.1 = p.1 then 0 else 1) ≤ whole cs + 1 + isE b q.1) := by
  have wd := whole_dec hk h hp
  unfold canStand
  by_cases w0 : whole (dec cs p.1) = 0
  · have w1 : whole cs = 1 := by omega
    simp only [w0, if_true, w1]
    simp only [Option.isNone_some, Bool.false_or, bne_iff_ne, ne_eq, Nat.lt_irrefl, false_implies, and_true, true_implies]
    exact ⟨fun z y => z y.symm, fun z y => z y.symm⟩
  · have w1 : 1 < whole cs := by omega
    have w2 : whole cs ≠ 1 := by omega
    simp only [w0, if_false, w1, w2, List.all_eq_true, decide_eq_true_eq, false_implies, true_implies, true_and]
    constructor
    · intro k q hq
      have hm : (if q.1 = p.1 then (q.1, q.2 - 1) else q) ∈ dec cs p.1 := List.mem_map.mpr ⟨q, hq, rfl⟩
      have := k _ hm
      by_cases z : q.1 = p.1
      · have zz := keys_inj hk hq h z
        subst zz
        simp only [if_true] at this ⊢
        unfold ends at this ⊢
        have : isE (some q.1) q.1 = 1 := by simp [isE]
        have : isE b q.1 = 0 := by simp [isE, hb]
        omega
      · simp only [z, if_false] at this ⊢
        unfold ends at this ⊢
        have : isE (some p.1) q.1 = 0 := by simp [isE]; exact fun z' => z z'.symm
        omega
    · intro k q hq
      obtain ⟨r, hr, er⟩ := List.mem_map.mp hq
      have := k r hr
      by_cases z : r.1 = p.1
      · have zz := keys_inj hk hr h z
        subst zz
        simp only [if_true] at this er
        subst er
        unfold ends at this ⊢
        have : isE (some r.1) r.1 = 1 := by simp [isE]
        have : isE b r.1 = 0 := by simp [isE, hb]
        simp only
        omega
      · simp only [z, if_false] at this er
        subst er
        unfold ends at this ⊢
        have : isE (some p.1) r.1 = 0 := by simp [isE]; exact fun z' => z z'.symm
        omega
theorem isE_le (o : Option K) (g : K) : isE o g ≤ 1 := by unfold isE; split <;> omega
theorem isE_one {o : Option K} {g g' : K} (h : 0 < isE o g) (h' : 0 < isE o g') : g = g' := by
  unfold isE at h h'
  split at h
  · split at h'
    · rename_i a b; rw [a] at b; cases b; rfl
    · omega
  · omega
theorem whole_pos {cs : List (K × Nat)} (h : 0 < whole cs) : ∃ p ∈ cs, 0 < p.2 := by
  induction cs with
  | nil => simp [whole] at h
  | cons r cs ih =>
    rw [whole_cons] at h
    by_cases z : 0 < r.2
    · exact ⟨r, List.mem_cons_self, z⟩
    · obtain ⟨p, hp, q⟩ := ih (by omega); exact ⟨p, List.mem_cons_of_mem _ hp, q⟩
/-- all but one key empty -/
theorem whole_only {cs : List (K × Nat)} (hk : Keys cs) {p : K × Nat} (h : p ∈ cs) (h0 : ∀ q ∈ cs, q.1 ≠ p.1 → q.2 = 0) : whole cs = p.2 := by
  induction cs with
  | nil => cases h
  | cons r cs ih =>
    rw [whole_cons]
    have nr := (List.nodup_cons.mp hk).1
    have hk' : Keys cs := (List.nodup_cons.mp hk).2
    rcases List.mem_cons.mp h with z | z
    · subst z
      have : whole cs = 0 := by
        cases w : whole cs with
        | zero => rfl
        | succ n =>
          obtain ⟨q, hq, q0⟩ := whole_pos (cs := cs) (by omega)
          have := h0 q (List.mem_cons_of_mem _ hq) fun z => nr (List.mem_map.mpr ⟨q, hq, z⟩)
          omega
      omega
    · have := h0 r List.mem_cons_self fun z' => nr (List.mem_map.mpr ⟨p, z, z'.symm⟩)
      rw [this, ih hk' z fun q hq => h0 q (List.mem_cons_of_mem _ hq)]; omega
theorem can_step {cs : List (K × Nat)} (hk : Keys cs) (hw : 0 < whole cs) {b e : Option K} :
    canStand cs b e = true ↔ ∃ p ∈ cs, 0 < p.2 ∧ b ≠ some p.1 ∧ canStand (dec cs p.1) (some p.1) e = true := by
  have cs_def : canStand cs b e = cs.all fun p => decide (2 * p.2 + ends b e p.1 ≤ whole cs + 1) := by
    unfold canStand; rw [if_neg (by omega)]
  constructor
  · intro c
    rw [cs_def] at c
    simp only [List.all_eq_true, decide_eq_true_eq] at c
    -- a key that is not b with something left
    have ex : ∃ p ∈ cs, 0 < p.2 ∧ b ≠ some p.1 := by
      apply Classical.byContradiction
      intro no
      obtain ⟨p, hp, p0⟩ := whole_pos hw
      have bp : b = some p.1 := Classical.byContradiction fun z => no ⟨p, hp, p0, z⟩
      have only : whole cs = p.2 := whole_only hk hp fun q hq ne => Nat.eq_zero_of_not_pos fun q0 => no ⟨q, hq, q0, fun z => ne (by rw [bp] at z; exact (Option.some.inj z).symm)⟩
      have := c p hp
      have e1 : isE b p.1 = 1 := by simp [isE, bp]
      unfold ends at this
      omega
    by_cases t : ∃ p ∈ cs, b ≠ some p.1 ∧ whole cs + 1 = 2 * p.2 + ends b e p.1
    · obtain ⟨p, hp, bp, tp⟩ := t
      have eb : isE b p.1 = 0 := by simp [isE, bp]
      have ee := isE_le e p.1
      unfold ends at tp
      have p0 : 0 < p.2 := by omega
      refine ⟨p, hp, p0, bp, (can_iff hk hw hp p0 bp).mpr ⟨fun w1 z => ?_, fun w1 q hq => ?_⟩⟩
      · have e1 : isE e p.1 = 1 := by simp [isE, z]
        omega
      · by_cases z : q.1 = p.1
        · rw [if_pos z]; have := c q hq; omega
        · rw [if_neg z]
          by_cases y : b = some q.1
          · have e1 : isE b q.1 = 1 := by simp [isE, y]
            have := c q hq; omega
          · have e1 : isE b q.1 = 0 := by simp [isE, y]
            have h2 := whole_two hk hq hp z
            have := c q hq
            unfold ends at this ⊢
            have e3 := isE_le e q.1
            have : isE e p.1 + isE e q.1 ≤ 1 := by
              have := isE_le e p.1
              by_cases y2 : 0 < isE e p.1
              · by_cases y3 : 0 < isE e q.1
                · exact absurd (isE_one y2 y3).symm z
                · omega
              · omega
            omega
    · obtain ⟨p, hp, p0, bp⟩ := ex
      refine ⟨p, hp, p0, bp, (can_iff hk hw hp p0 bp).mpr ⟨fun w1 z => ?_, fun w1 q hq => ?_⟩⟩
      · have e1 : isE e p.1 = 1 := by simp [isE, z]
        have := c p hp
        unfold ends at this
        omega
      · have := c q hq
        by_cases z : q.1 = p.1
        · rw [if_pos z]; omega
        · rw [if_neg z]
          by_cases y : b = some q.1
          · have e1 : isE b q.1 = 1 := by simp [isE, y]
            omega
          · have : ¬ whole cs + 1 = 2 * q.2 + ends b e q.1 := fun z => t ⟨q, hq, y, z⟩
            omega
  · rintro ⟨p, hp, p0, bp, c⟩
    obtain ⟨c1, c2⟩ := (can_iff hk hw hp p0 bp).mp c
    rw [cs_def]
    simp only [List.all_eq_true, decide_eq_true_eq]
    intro q hq
    by_cases w1 : whole cs = 1
    · have := c1 w1
      have ep : isE e p.1 = 0 := by simp [isE, this]
      have eb : isE b p.1 = 0 := by simp [isE, bp]
      by_cases z : q.1 = p.1
      · have := whole_mem hq
        unfold ends; rw [z]; omega
      · have := whole_two hk hq hp z
        unfold ends
        have := isE_le b q.1
        have := isE_le e q.1
        omega
    · have := c2 (by omega) q hq
      by_cases z : q.1 = p.1
      · rw [if_pos z, z] at this
        have eb : isE b p.1 = 0 := by simp [isE, bp]
        rw [z]; omega
      · rw [if_neg z] at this
        have := isE_le b q.1
        omega

/-! ### greedy and search -/
def okAt (cs : List (K × Nat)) (b e : Option K) (p : K × Nat) : Bool := decide (0 < p.2) && decide (b ≠ some p.1) && canStand (dec cs p.1) (some p.1) e
def pick (cs : List (K × Nat)) (b e : Option K) : Option K := (cs.find? (okAt cs b e)).map (·.1)
def greedy : Nat → List (K × Nat) → Option K → Option K → Option (List K)
  | 0, _, _, _ => some []
  | n + 1, cs, b, e => match pick cs b e with
    | none => none
    | some g => (greedy n (dec cs g) (some g) e).map (g :: ·)
/-- no neighbours alike behind b, the last one not e -/
def goodFrom : Option K → Option K → List K → Bool
  | b, e, [] => b.isNone || b != e
  | b, e, x :: r => decide (b ≠ some x) && goodFrom (some x) e r
theorem pick_some {cs : List (K × Nat)} {b e : Option K} {g : K} (h : pick cs b e = some g) : ∃ p ∈ cs, p.1 = g ∧ 0 < p.2 ∧ b ≠ some g ∧ canStand (dec cs g) (some g) e = true := by
  unfold pick at h
  rw [Option.map_eq_some_iff] at h
  obtain ⟨p, hp, e1⟩ := h
  have h1 := List.mem_of_find?_eq_some hp
  have h2 := List.find?_some hp
  simp only [okAt, Bool.and_eq_true, decide_eq_true_eq] at h2
  subst e1
  exact ⟨p, h1, rfl, h2.1.1, h2.1.2, h2.2⟩
theorem pick_none {cs : List (K × Nat)} (hk : Keys cs) (hw : 0 < whole cs) {b e : Option K} : pick cs b e = none ↔ canStand cs b e = false := by
  unfold pick
  rw [Option.map_eq_none_iff, List.find?_eq_none, Bool.eq_false_iff, ne_eq, can_step hk hw]
  constructor
  · rintro h ⟨p, hp, p0, bp, c⟩
    exact h p hp (by simp [okAt, p0, bp, c])
  · intro h p hp c
    simp only [okAt, Bool.and_eq_true, decide_eq_true_eq] at c
    exact h ⟨p, hp, c.1.1, c.1.2, c.2⟩
theorem greedy_some : ∀ (n : Nat) {cs : List (K × Nat)} {b e : Option K}, Keys cs → whole cs = n → canStand cs b e = true → ∃ w, greedy n cs b e = some w ∧ goodFrom b e w = true ∧ w.length = n ∧ ∀ p ∈ cs, w.count p.1 = p.2 := by
  intro n
  induction n with
  | zero =>
    intro cs b e hk hw c
    refine ⟨[], rfl, ?_, rfl, fun p hp => ?_⟩
    · unfold canStand at c; rw [if_pos hw] at c; exact c
    · have := whole_mem hp; simp; omega
  | succ n ih =>
    intro cs b e hk hw c
    cases hp : pick cs b e with
    | none => rw [(pick_none hk (by omega)).mp hp] at c; cases c
    | some g =>
      obtain ⟨p, hp1, pg, p0, bp, c1⟩ := pick_some hp
      subst pg
      have wd := whole_dec hk hp1 p0
      obtain ⟨w, e1, g1, l1, ct⟩ := ih (hk.dec p.1) (by omega) c1
      refine ⟨p.1 :: w, by simp only [greedy, hp, e1, Option.map_some], by simp [goodFrom, bp, g1], by simp [l1], fun q hq => ?_⟩
      have hm : (if q.1 = p.1 then (q.1, q.2 - 1) else q) ∈ dec cs p.1 := List.mem_map.mpr ⟨q, hq, rfl⟩
      have := ct _ hm
      rw [List.count_cons]
      by_cases z : q.1 = p.1
      · have zz := keys_inj hk hq hp1 z
        subst zz
        simp only [if_true] at this
        simp [this]; omega
      · simp only [z, if_false] at this
        have : (p.1 == q.1) = false := by simp; exact fun z' => z z'.symm
        simp [this, *]

theorem greedy_keys : ∀ (n : Nat) {cs : List (K × Nat)} {b e : Option K} {w : List K}, greedy n cs b e = some w → ∀ g ∈ w, g ∈ cs.map (·.1) := by
  intro n
  induction n with
  | zero => intro cs b e w h g hg; simp only [greedy, Option.some.injEq] at h; subst h; cases hg
  | succ n ih =>
    intro cs b e w h g hg
    unfold greedy at h
    split at h
    · cases h
    · rename_i k hp
      obtain ⟨p, hp1, pg, _⟩ := pick_some hp
      rw [Option.map_eq_some_iff] at h
      obtain ⟨w', h1, h2⟩ := h
      subst h2
      rcases List.mem_cons.mp hg with z | z
      · subst z; exact List.mem_map.mpr ⟨p, hp1, pg⟩
      · have := ih h1 g z; rwa [keys_dec] at this
/-- cs counts gs -/
structure Counts (cs : List (K × Nat)) (gs : List K) : Prop where
  keys : Keys cs
  ct : ∀ p ∈ cs, gs.count p.1 = p.2
  all : ∀ g ∈ gs, g ∈ cs.map (·.1)
theorem Counts.erase {cs : List (K × Nat)} {gs : List K} (h : Counts cs gs) {g : K} : Counts (dec cs g) (gs.erase g) where
  keys := h.keys.dec g
  ct := fun p hp => by
    obtain ⟨q, hq, e⟩ := List.mem_map.mp hp
    have := h.ct q hq
    by_cases z : q.1 = g
    · rw [if_pos z] at e; subst e
      rw [← z]
      simp only [List.count_erase_self, this]
    · rw [if_neg z] at e; subst e
      rw [List.count_erase_of_ne (fun y => z y)]; exact this
  all := fun x hx => by rw [keys_dec]; exact h.all x (List.mem_of_mem_erase hx)
theorem Counts.whole : ∀ {gs : List K} {cs : List (K × Nat)}, Counts cs gs → Fn.R16.whole cs = gs.length := by
  intro gs
  induction gs with
  | nil =>
    intro cs h
    cases w : Fn.R16.whole cs with
    | zero => rfl
    | succ n =>
      obtain ⟨p, hp, q⟩ := whole_pos (cs := cs) (by omega)
      have := h.ct p hp; simp at this; omega
  | cons g r ih =>
    intro cs h
    obtain ⟨p, hp, pg⟩ := List.mem_map.mp (h.all g List.mem_cons_self)
    have c := h.ct p hp
    rw [pg] at c
    simp only [List.count_cons_self] at c
    have e := ih (h.erase (g := g) |> fun z => by simpa using z)
    have := whole_dec h.keys hp (by omega)
    rw [pg] at this
    simp only [List.length_cons]; omega
theorem Counts.perm {cs : List (K × Nat)} {gs w : List K} (h : Counts cs gs) (hw : ∀ p ∈ cs, w.count p.1 = p.2) (hk : ∀ g ∈ w, g ∈ cs.map (·.1)) : w.Perm gs := by
  rw [List.perm_iff_count]
  intro a
  by_cases z : a ∈ cs.map (·.1)
  · obtain ⟨p, hp, pg⟩ := List.mem_map.mp z
    rw [← pg, hw p hp, h.ct p hp]
  · rw [List.count_eq_zero_of_not_mem (fun y => z (hk a y)), List.count_eq_zero_of_not_mem (fun y => z (h.all a y))]

/-! ### all orders -/
def orders (un : List K → List K) : Nat → List K → List (List K)
  | 0, _ => []
  | n + 1, gs => if gs = [] then [[]] else (un gs).flatMap fun g => (orders un n (gs.erase g)).map (g :: ·)
/-- two lists in strict order with the same members -/
theorem strict_eq {lt : K → K → Prop} (irr : ∀ a, ¬ lt a a) (tr : ∀ a b c, lt a b → lt b c → lt a c) : ∀ {xs ys : List K}, xs.Pairwise lt → ys.Pairwise lt → (∀ a, a ∈ xs ↔ a ∈ ys) → xs = ys
  | [], [], _, _, _ => rfl
  | [], y :: ys, _, _, h => absurd ((h y).mpr List.mem_cons_self) (by simp)
  | x :: xs, [], _, _, h => absurd ((h x).mp List.mem_cons_self) (by simp)
  | x :: xs, y :: ys, hx, hy, h => by
    obtain ⟨hx1, hx2⟩ := List.pairwise_cons.mp hx
    obtain ⟨hy1, hy2⟩ := List.pairwise_cons.mp hy
    have e : x = y := by
      rcases List.mem_cons.mp ((h x).mp List.mem_cons_self) with z | z
      · exact z
      · rcases List.mem_cons.mp ((h y).mpr List.mem_cons_self) with z' | z'
        · exact z'.symm
        · exact absurd (tr _ _ _ (hy1 x z) (hx1 y z')) (irr y)
    subst e
    rw [strict_eq irr tr hx2 hy2 fun a => ⟨fun ha => ?_, fun ha => ?_⟩]
    · rcases List.mem_cons.mp ((h a).mp (List.mem_cons_of_mem _ ha)) with z | z
      · subst z; exact absurd (hx1 _ ha) (irr _)
      · exact z
    · rcases List.mem_cons.mp ((h a).mpr (List.mem_cons_of_mem _ ha)) with z | z
      · subst z; exact absurd (hy1 _ ha) (irr _)
      · exact z
theorem find_keys {q : K × Nat → Bool} {F : K → Option (List K)} {val : K → List K} : ∀ (cs : List (K × Nat)), (∀ p ∈ cs, 0 < p.2 → F p.1 = if q p = true then some (val p.1) else none) → (∀ p, q p = true → 0 < p.2) →
    ((cs.filter fun p => decide (0 < p.2)).map (·.1)).findSome? F = (cs.find? q).map fun p => val p.1
  | [], _, _ => rfl
  | p :: cs, h, hq => by
    have ih := find_keys cs (fun p hp => h p (List.mem_cons_of_mem _ hp)) hq
    by_cases z : 0 < p.2
    · have e := h p List.mem_cons_self z
      rw [List.filter_cons_of_pos (by simpa using z), List.map_cons, List.findSome?_cons, e, List.find?_cons]
      cases c : q p with
      | true => simp
      | false => simp [ih]
    · have c : q p = false := by
        cases c : q p with
        | false => rfl
        | true => exact absurd (hq p c) z
      rw [List.filter_cons_of_neg (by simpa using z), List.find?_cons, c, ih]
structure UnOk (lt : K → K → Prop) (un : List K → List K) : Prop where
  irr : ∀ a, ¬ lt a a
  tr : ∀ a b c, lt a b → lt b c → lt a c
  srt : ∀ gs, (un gs).Pairwise lt
  mem : ∀ gs a, a ∈ un gs ↔ a ∈ gs
theorem un_keys {lt : K → K → Prop} {un : List K → List K} (U : UnOk lt un) {cs : List (K × Nat)} {gs : List K} (h : Counts cs gs) (hs : (cs.map (·.1)).Pairwise lt) : un gs = (cs.filter fun p => decide (0 < p.2)).map (·.1) := by
  refine strict_eq U.irr U.tr (U.srt gs) ?_ fun a => ?_
  · exact hs.sublist (List.Sublist.map _ (List.filter_sublist))
  · rw [U.mem]
    constructor
    · intro ha
      obtain ⟨p, hp, e⟩ := List.mem_map.mp (h.all a ha)
      refine List.mem_map.mpr ⟨p, List.mem_filter.mpr ⟨hp, ?_⟩, e⟩
      have := h.ct p hp
      rw [e] at this
      have := List.count_pos_iff.mpr ha
      simp; omega
    · intro ha
      obtain ⟨p, hp, e⟩ := List.mem_map.mp ha
      obtain ⟨hp1, hp2⟩ := List.mem_filter.mp hp
      have := h.ct p hp1
      subst e
      exact List.count_pos_iff.mp (by rw [this]; simpa using hp2)
theorem search {lt : K → K → Prop} {un : List K → List K} (U : UnOk lt un) : ∀ (n m : Nat) {gs : List K} {cs : List (K × Nat)} {b e : Option K}, gs.length = n → n < m → Counts cs gs → (cs.map (·.1)).Pairwise lt →
    (orders un m gs).find? (goodFrom b e) = if canStand cs b e = true then greedy n cs b e else none := by
  intro n
  induction n with
  | zero =>
    intro m gs cs b e hl hm hc hs
    obtain ⟨m, rfl⟩ : ∃ k, m = k + 1 := ⟨m - 1, by omega⟩
    have : gs = [] := List.eq_nil_of_length_eq_zero hl
    subst this
    have w : whole cs = 0 := hc.whole
    unfold canStand
    simp only [orders, if_true, w, greedy, List.find?_cons, List.find?_nil, goodFrom]
    cases (b.isNone || b != e) <;> rfl
  | succ n ih =>
    intro m gs cs b e hl hm hc hs
    obtain ⟨m, rfl⟩ : ∃ k, m = k + 1 := ⟨m - 1, by omega⟩
    have ne : gs ≠ [] := fun z => by rw [z] at hl; cases hl
    have w : whole cs = n + 1 := by rw [hc.whole, hl]
    simp only [orders, ne, if_false]
    rw [un_keys U hc hs, List.find?_flatMap]
    rw [find_keys (q := okAt cs b e) (val := fun g => ((greedy n (dec cs g) (some g) e).map (g :: ·)).getD [])]
    · cases hp : pick cs b e with
      | none =>
        rw [(pick_none hc.keys (by omega)).mp hp]
        unfold pick at hp
        rw [Option.map_eq_none_iff] at hp
        simp [hp]
      | some g =>
        have c : canStand cs b e = true := by
          cases c : canStand cs b e with
          | true => rfl
          | false => rw [(pick_none hc.keys (by omega)).mpr c] at hp; cases hp
        rw [if_pos c]
        simp only [greedy, hp]
        obtain ⟨p, hp1, pg, p0, bp, c1⟩ := pick_some hp
        have wd := whole_dec hc.keys hp1 p0
        rw [pg] at wd
        obtain ⟨w', e1, _⟩ := greedy_some n (hc.keys.dec g) (by omega) c1
        unfold pick at hp
        rw [Option.map_eq_some_iff] at hp
        obtain ⟨r, hr, er⟩ := hp
        rw [hr]
        subst er
        simp [e1]
    · intro p hp p0
      have wd := whole_dec hc.keys hp p0
      have hg : p.1 ∈ gs := List.count_pos_iff.mp (by rw [hc.ct p hp]; exact p0)
      have hl' : (gs.erase p.1).length = n := by rw [List.length_erase_of_mem hg]; omega
      have := ih m (b := some p.1) (e := e) hl' (by omega) (hc.erase (g := p.1)) (by rw [keys_dec]; exact hs)
      rw [List.find?_map]
      by_cases hb : b = some p.1
      · have : ((goodFrom b e) ∘ fun x => p.1 :: x) = fun _ => false := by funext w; simp [goodFrom, hb]
        rw [this]
        simp [okAt, hb]
      · have f : ((goodFrom b e) ∘ fun x => p.1 :: x) = goodFrom (some p.1) e := by funext w; simp [goodFrom, hb]
        rw [f, this]
        by_cases c : canStand (dec cs p.1) (some p.1) e = true
        · obtain ⟨w', e1, _⟩ := greedy_some n (hc.keys.dec p.1) (by omega) c
          simp [okAt, p0, hb, c, e1]
        · simp [okAt, p0, hb, c]
    · intro p hp
      simp only [okAt, Bool.and_eq_true, decide_eq_true_eq] at hp
      exact hp.1.1
theorem sum_le {α : Type} (f : α → Nat) (c : Nat) : ∀ (L : List α), (∀ g ∈ L, f g ≤ c) → (L.map f).sum ≤ L.length * c
  | [], _ => by simp
  | a :: L, h => by
    have := sum_le f c L fun g hg => h g (List.mem_cons_of_mem _ hg)
    have := h a List.mem_cons_self
    rw [List.map_cons, List.sum_cons, List.length_cons, Nat.add_mul, Nat.one_mul]; omega
theorem orders_len {un : List K → List K} (hu : ∀ gs, (un gs).length ≤ gs.length) (hm : ∀ gs a, a ∈ un gs → a ∈ gs) (N : Nat) : ∀ (m : Nat) (gs : List K), gs.length ≤ N → (orders un m gs).length ≤ N ^ gs.length := by
  intro m
  induction m with
  | zero => intro gs _; simp [orders]
  | succ m ih =>
    intro gs h
    unfold orders
    split
    · rename_i e; subst e; simp
    · rename_i e
      obtain ⟨k, hk⟩ : ∃ k, gs.length = k + 1 := by cases gs with | nil => exact absurd rfl e | cons _ r => exact ⟨r.length, rfl⟩
      rw [List.length_flatMap]
      refine Nat.le_trans (sum_le _ (N ^ k) _ fun g hg => ?_) ?_
      · rw [List.length_map]
        have l : (gs.erase g).length = k := by rw [List.length_erase_of_mem (hm gs g hg)]; omega
        have := ih (gs.erase g) (by omega)
        rwa [l] at this
      · rw [hk, Nat.pow_succ, Nat.mul_comm (N ^ k)]
        exact Nat.mul_le_mul_right _ (Nat.le_trans (hu gs) h)
end Fn.R16

/-! Lw2: sorted texts. -/
namespace Fn
open PySem PySem.Spec L2
def strL (xs : List Str) : List T := xs.map T.str
@[simp] theorem strL_len (xs : List Str) : (strL xs).length = xs.length := by simp [strL]
@[simp] theorem strL_nil : strL [] = [] := rfl
@[simp] theorem strL_cons (x : Str) (xs : List Str) : strL (x :: xs) = .str x :: strL xs := rfl
@[simp] theorem strL_app (xs ys : List Str) : strL (xs ++ ys) = strL xs ++ strL ys := by simp [strL]
@[simp] theorem frzs_strL : ∀ xs : List Str, frzs (strL xs) = some (strL xs)
  | [] => rfl
  | x :: xs => by simp [strL_cons, frzs_strL xs]
def leS (a b : Str) : Bool := decide (a.cps.toList ≤ b.cps.toList)
def ltS (a b : Str) : Prop := leS a b = true ∧ a ≠ b
theorem leS_total (a b : Str) : (leS a b || leS b a) = true := by
  simp only [leS, Bool.or_eq_true, decide_eq_true_eq]
  exact List.le_total _ _
theorem leS_trans (a b c : Str) (h : leS a b = true) (h' : leS b c = true) : leS a c = true := by
  simp only [leS, decide_eq_true_eq] at *
  exact List.le_trans h h'
theorem leS_anti {a b : Str} (h : leS a b = true) (h' : leS b a = true) : a = b := by
  simp only [leS, decide_eq_true_eq] at *
  exact PySem.W.str_of_cps (List.le_antisymm h h')
theorem ltS_trans (a b c : Str) (h : ltS a b) (h' : ltS b c) : ltS a c := ⟨leS_trans _ _ _ h.1 h'.1, fun z => h'.2 (leS_anti h'.1 (by rw [← z]; exact h.1))⟩
def sortS (xs : List Str) : List Str := xs.mergeSort leS
theorem sortS_perm (xs : List Str) : (sortS xs).Perm xs := List.mergeSort_perm _ _
theorem sortS_pw (xs : List Str) : (sortS xs).Pairwise fun a b => leS a b = true := List.pairwise_mergeSort leS_trans leS_total xs
theorem pw_unique : ∀ {xs ys : List Str}, xs.Pairwise (fun a b => leS a b = true) → ys.Pairwise (fun a b => leS a b = true) → xs.Perm ys → xs = ys := fun {xs ys} h1 h2 p => List.Perm.eq_of_pairwise (fun a b _ _ h h' => leS_anti h h') h1 h2 p
theorem sortS_eq {xs ys : List Str} (p : xs.Perm ys) : sortS xs = sortS ys := pw_unique (sortS_pw _) (sortS_pw _) (((sortS_perm xs).trans p).trans (sortS_perm ys).symm)
theorem srt_str (xs : List Str) : srt (strL xs) = strL (sortS xs) := by
  unfold srt sortS strL
  rw [List.map_mergeSort (r := leS) (s := PySem.W.dataLe false T.enc)]
  intro a _ b _
  have := congrFun (congrFun (PySem.W.dataLe_str (fun x : Str => x)) a) b
  exact this.symm
theorem sortOk_str {xs : List Str} (h : ∀ x ∈ xs, (T.str x).dok 60 = true) (hl : xs.length ≤ 10000000) : sortOk (strL xs) = true := by
  unfold sortOk strL
  simp only [Bool.and_eq_true, List.all_map, List.all_eq_true, Function.comp, Bool.or_eq_true, decide_eq_true_eq, List.length_map]
  exact ⟨⟨⟨h, fun a _ b _ => rfl⟩, .inr fun a _ => rfl⟩, hl⟩

def uStep (acc : List Str) (x : Str) : List Str := if acc.getLast? = some x then acc else acc ++ [x]
def uStep2 (acc : List Str) (x : Str) : List Str := if x ∈ acc then acc else acc ++ [x]
def unlikeS (xs : List Str) : List Str := (sortS xs).foldl uStep []
theorem last_le {acc : List Str} (h : acc.Pairwise ltS) {a z : Str} (ha : a ∈ acc) (hz : acc.getLast? = some z) : leS a z = true := by
  obtain ⟨ini, rfl⟩ : ∃ ini, acc = ini ++ [z] := by
    rw [List.getLast?_eq_some_iff] at hz
    exact hz
  rcases List.mem_append.mp ha with q | q
  · exact ((List.pairwise_append.mp h).2.2 a q z (by simp)).1
  · rw [List.mem_singleton.mp q]
    have := leS_total z z
    simpa using this
theorem pw_snoc {acc : List Str} {x : Str} (h : acc.Pairwise ltS) (hx : ∀ a ∈ acc, ltS a x) : (acc ++ [x]).Pairwise ltS := by
  rw [List.pairwise_append]
  refine ⟨h, List.pairwise_singleton _ _, fun a ha b hb => ?_⟩
  rw [List.mem_singleton.mp hb]; exact hx a ha
theorem uFold : ∀ (ys acc : List Str), ys.Pairwise (fun a b => leS a b = true) → acc.Pairwise ltS → (∀ a ∈ acc, ∀ y ∈ ys, leS a y = true) →
    (ys.foldl uStep acc).Pairwise ltS ∧ (∀ a, a ∈ ys.foldl uStep acc ↔ a ∈ acc ∨ a ∈ ys) ∧ ys.foldl uStep2 acc = ys.foldl uStep acc
  | [], acc, _, h, _ => ⟨h, fun a => by simp, rfl⟩
  | x :: r, acc, hy, h, hx => by
    obtain ⟨hy1, hy2⟩ := List.pairwise_cons.mp hy
    have same : x ∈ acc ↔ acc.getLast? = some x := by
      constructor
      · intro hm
        cases hz : acc.getLast? with
        | none => rw [List.getLast?_eq_none_iff] at hz; subst hz; cases hm
        | some z =>
          have h1 := last_le h hm hz
          have h2 := hx z (List.mem_of_getLast? hz) x List.mem_cons_self
          rw [leS_anti h1 h2]
      · exact fun hz => List.mem_of_getLast? hz
    have st : uStep2 acc x = uStep acc x := by
      unfold uStep uStep2
      by_cases c : x ∈ acc
      · rw [if_pos c, if_pos (same.mp c)]
      · rw [if_neg c, if_neg fun z => c (same.mpr z)]
    by_cases c : x ∈ acc
    · have e : uStep acc x = acc := if_pos (same.mp c)
      obtain ⟨i1, i2, i3⟩ := uFold r acc hy2 h fun a ha y hy => hx a ha y (List.mem_cons_of_mem _ hy)
      rw [List.foldl_cons, List.foldl_cons, st, e]
      refine ⟨i1, fun a => ?_, i3⟩
      rw [i2, List.mem_cons]
      constructor
      · rintro (z | z)
        · exact .inl z
        · exact .inr (.inr z)
      · rintro (z | z | z)
        · exact .inl z
        · rw [z]; exact .inl c
        · exact .inr z
    · have e : uStep acc x = acc ++ [x] := if_neg fun z => c (same.mpr z)
      obtain ⟨i1, i2, i3⟩ := uFold r (acc ++ [x]) hy2 (pw_snoc h fun a ha => ⟨hx a ha x List.mem_cons_self, fun z => c (by rw [← z]; exact ha)⟩) fun a ha y hy => by
        rcases List.mem_append.mp ha with z | z
        · exact hx a z y (List.mem_cons_of_mem _ hy)
        · rw [List.mem_singleton.mp z]; exact hy1 y hy
      rw [List.foldl_cons, List.foldl_cons, st, e]
      refine ⟨i1, fun a => ?_, i3⟩
      rw [i2, List.mem_cons, List.mem_append, List.mem_singleton, or_assoc]
theorem unlikeS_pw (xs : List Str) : (unlikeS xs).Pairwise ltS := (uFold _ [] (sortS_pw xs) .nil fun _ h => by cases h).1
theorem unlikeS_mem (xs : List Str) (a : Str) : a ∈ unlikeS xs ↔ a ∈ xs := by
  unfold unlikeS
  rw [(uFold _ [] (sortS_pw xs) .nil fun _ h => by cases h).2.1 a]
  simp only [List.not_mem_nil, false_or]
  exact (sortS_perm xs).mem_iff
theorem unlikeS_2 (xs : List Str) : (sortS xs).foldl uStep2 [] = unlikeS xs := (uFold _ [] (sortS_pw xs) .nil fun _ h => by cases h).2.2
theorem unlikeS_nodup (xs : List Str) : (unlikeS xs).Nodup := (unlikeS_pw xs).imp fun h => h.2
theorem unlikeS_len (xs : List Str) : (unlikeS xs).length ≤ xs.length := by
  have : ∀ ys acc : List Str, (ys.foldl uStep acc).length ≤ acc.length + ys.length := by
    intro ys
    induction ys with
    | nil => intro acc; simp
    | cons x r ih =>
      intro acc
      rw [List.foldl_cons]
      refine Nat.le_trans (ih _) ?_
      unfold uStep
      split <;> simp <;> omega
  have h := this (sortS xs) []
  unfold unlikeS
  rw [(sortS_perm xs).length_eq] at h
  simpa using h
theorem atI_last {α : Type} {xs : List α} (h : xs ≠ []) : atI xs (-1) = xs.getLast? := by
  have hp := List.length_pos_iff.mpr h
  unfold atI ixN
  have h1 : ¬ (0 : Int) ≤ -1 := by omega
  have h2 : -(xs.length : Int) ≤ -1 := by omega
  rw [if_neg h1, if_pos h2, Option.bind_some, List.getLast?_eq_getElem?]
  congr 1
  omega
theorem caSorted_l {xs : List Str} {fl : Fl} (h : ∀ x ∈ xs, (T.str x).dok 60 = true) (hl : xs.length ≤ 10000000) : caSorted [.lst fl (strL xs)] = .ok (.lst .ow (strL (sortS xs))) := by
  unfold caSorted; simp only [sortOk_str h hl, if_true, srt_str]
theorem caSorted_t {xs : List Str} (h : ∀ x ∈ xs, (T.str x).dok 60 = true) (hl : xs.length ≤ 10000000) : caSorted [.tup (strL xs)] = .ok (.lst .ow (strL (sortS xs))) := by
  unfold caSorted; simp only [sortOk_str h hl, if_true, srt_str]
theorem sortS_mem {xs : List Str} {a : Str} : a ∈ sortS xs ↔ a ∈ xs := (sortS_perm xs).mem_iff
theorem sortS_len (xs : List Str) : (sortS xs).length = xs.length := (sortS_perm xs).length_eq
namespace Lw
def _law_unlike_b : Env → ResS := (dSeq (dAsg 1 (dLst dNil))
  (dSeq (dFor (dIt true (dCa caSorted (dCons (dCa caList (dCons (dVar 0) dNil)) dNil))) (gN 2)
  (dIfS (dOrT (dTestB (dOp opEq (dVar 1) (dLst dNil))) (dTestB (dOp opNe (dIx (dVar 1) (dNeg (dC (.int 1)))) (dVar 2))))
  (dDropM (dWr "list" wrAppend (.v 1) (dCons (dVar 2) dNil)))
  dNop))
  (dRetV 1)))
def _law_unlike : List T → Res T := dRun 3 _law_unlike_b

theorem doks_str {n : Nat} : ∀ {xs : List Str}, (∀ x ∈ xs, (T.str x).dok 60 = true) → doks n (strL xs) = true
  | [], _ => by simp [doks]
  | x :: r, h => by
    have h1 : (T.str x).dok n = true := by have := h x List.mem_cons_self; simpa [T.dok] using this
    simp [strL_cons, doks, h1, doks_str (xs := r) fun y hy => h y (List.mem_cons_of_mem _ hy)]
theorem eqvs_strL : ∀ (xs ys : List Str), eqvs (strL xs) (strL ys) = decide (xs = ys)
  | [], [] => by simp [eqvs]
  | [], y :: ys => by simp [eqvs]
  | x :: xs, [] => by simp [eqvs]
  | x :: xs, y :: ys => by
    simp only [strL_cons, eqvs, eqvs_strL xs ys, eqv_str, List.cons.injEq, Bool.decide_and]
    rfl
theorem unlike_loop {A : T} : ∀ (ys acc : List Str) (j2 : Option T), acc.length + ys.length < 10000000 → (∀ x ∈ acc, (T.str x).dok 60 = true) → (∀ x ∈ ys, (T.str x).dok 60 = true) → ∃ j2', forL (gN 2) (dIfS (dOrT (dTestB (dOp opEq (dVar 1) (dLst dNil))) (dTestB (dOp opNe (dIx (dVar 1) (dNeg (dC (.int 1)))) (dVar 2))))
  (dDropM (dWr "list" wrAppend (.v 1) (dCons (dVar 2) dNil)))
  dNop) (strL ys) [some A, some (.lst .ow (strL acc)), j2] = .ok .next [some A, some (.lst .ow (strL (ys.foldl uStep acc))), j2']
  | [], acc, j2, _, _, _ => ⟨j2, rfl⟩
  | x :: r, acc, j2, h, ha, hr => by
    rw [List.length_cons] at h
    have h1 : (uStep acc x).length + r.length < 10000000 := by
      unfold uStep; split
      · omega
      · rw [List.length_append]; simp; omega
    have h2 : ∀ y ∈ uStep acc x, (T.str y).dok 60 = true := fun y hy => by
      unfold uStep at hy
      split at hy
      · exact ha y hy
      · rcases List.mem_append.mp hy with z | z
        · exact ha y z
        · rw [List.mem_singleton.mp z]; exact hr x List.mem_cons_self
    obtain ⟨j, e⟩ := unlike_loop (A := A) r (uStep acc x) (some (.str x)) h1 h2 fun y hy => hr y (List.mem_cons_of_mem _ hy)
    refine ⟨j, ?_⟩
    rw [List.foldl_cons, ← e, strL_cons]
    refine forL_next (ρ1 := [some A, some (.lst .ow (strL acc)), some (.str x)]) (by simp) (.inl ?_)
    have hl : acc.length < 10000000 := by omega
    have dk : ∀ fl, (T.lst fl (strL acc)).dok 64 = true := fun fl => by simp [T.dok, doks_str ha]
    have dn : ∀ fl, (T.lst fl []).dok 64 = true := fun fl => by simp [T.dok, doks]
    cases hacc : acc with
    | nil => simp [uStep, opEq, eqOk, dn, T.eqv, eqvs]
    | cons a q =>
      have ne : acc ≠ [] := by rw [hacc]; simp
      obtain ⟨z, hz⟩ : ∃ z, acc.getLast? = some z := ⟨_, List.getLast?_eq_getLast ne⟩
      have e1 : atI (strL acc) (-1) = some (.str z) := by
        rw [atI_last (by rw [hacc]; simp), strL, List.getLast?_map, hz]; rfl
      have t1 : dTestB (dOp opEq (dVar 1) (dLst dNil)) [some A, some (.lst .ow (strL acc)), some (.str x)] = .ok false := by
        have : eqvs (strL acc) [] = false := by rw [hacc]; rfl
        simp [opEq, eqOk, dn, dk, T.eqv, this]
      have t2 : dTestB (dOp opNe (dIx (dVar 1) (dNeg (dC (.int 1)))) (dVar 2)) [some A, some (.lst .ow (strL acc)), some (.str x)] = .ok (!decide (z = x)) := by
        simp [opNe, eqOk, scalT, T.rk, e1]
        by_cases c : z = x <;> simp [c]
      rw [← hacc, dIfS_e, dOrT_e, t1]
      simp only [Res.bind, Bool.false_eq_true, if_false, t2, Res.st]
      by_cases c : z = x
      · subst c; simp [uStep, hz]
      · simp [uStep, hz, c, hl]
theorem unlike_e {xs : List Str} {fl : Fl} (h : ∀ x ∈ xs, (T.str x).dok 60 = true) (hl : xs.length < 10000000) : _law_unlike [.lst fl (strL xs)] = .ok (.lst .ow (strL (unlikeS xs))) := by
  have h' : ∀ x ∈ sortS xs, (T.str x).dok 60 = true := fun x hx => h x (sortS_mem.mp hx)
  obtain ⟨j2, e⟩ := unlike_loop (A := .lst fl (strL xs)) (sortS xs) [] none (by rw [sortS_len]; simpa using hl) (fun _ h => by cases h) h'
  unfold _law_unlike
  refine dRun_ret (ρ' := [some (.lst fl (strL xs)), none, j2]) ?_
  refine (seq_ok (ρ' := [some (.lst fl (strL xs)), some (.lst .ow []), none]) (by simp)).trans ?_
  refine (seq_ok (ρ' := [some (.lst fl (strL xs)), some (.lst .ow (strL (unlikeS xs))), j2]) ?_).trans (by simp)
  have pk : (T.lst fl (strL xs)).pkd = .lst fl (strL xs) ∨ (T.lst fl (strL xs)).pkd = .lst .pk (strL xs) := by cases fl <;> simp [T.pkd]
  rcases pk with pk | pk <;> simp [pk, caSorted_l h (by omega)] <;> exact e
end Lw
end Fn

/-! Lw3: what the law finds alike. -/
namespace Fn
open PySem PySem.Spec L2
namespace Lw
def _law_alike_b (rec : List T → Res T) : Env → ResS := (dSeq (dIfS (dTest (dIsi ["tuple", "list"] (dVar 1)))
  (dSeq (dIfS (dOrT (dNotT (dTest (dIsi ["tuple", "list"] (dVar 0)))) (dTestB (dOp opNe (dIsi ["list"] (dVar 0)) (dIsi ["list"] (dVar 1)))))
  (dRet (dC (.bl false)))
  dNop)
  (dSeq (dIfS (dTestB (dOp opNe (dCa caLen (dCons (dVar 0) dNil)) (dCa caLen (dCons (dVar 1) dNil))))
  (dRet (dC (.bl false)))
  dNop)
  (dRet (dOp opEq (dComp (dRng1 (dCa caLen (dCons (dVar 1) dNil))) (gN 2) (dNotT (dTest (dCall rec (dCons (dIx (dVar 0) (dVar 2)) (dCons (dIx (dVar 1) (dVar 2)) dNil))))) (dVar 2) [2]) (dLst dNil)))))
  dNop)
  (dSeq (dIfS (dTest (dIsi ["dict"] (dVar 1)))
  (dSeq (dIfS (dOrT (dNotT (dTest (dIsi ["dict"] (dVar 0)))) (dTestB (dOp opNe (dCa caList (dCons (dVar 0) dNil)) (dCa caList (dCons (dVar 1) dNil)))))
  (dRet (dC (.bl false)))
  dNop)
  (dRet (dOp opEq (dComp (dIt false (dVar 1)) (gN 3) (dNotT (dTest (dCall rec (dCons (dIx (dVar 0) (dVar 3)) (dCons (dIx (dVar 1) (dVar 3)) dNil))))) (dVar 3) [3]) (dLst dNil))))
  dNop)
  (dSeq (dIfS (dOrT (dTestB (dOp opIs (dVar 1) (dC .non))) (dTest (dIsi ["str"] (dVar 1))))
  (dRet (dAnd (dOp opEq (dVar 0) (dVar 1)) (dOp opEq (dIsi ["str"] (dVar 0)) (dIsi ["str"] (dVar 1)))))
  dNop)
  (dRet (dAnd (dIsi ["int"] (dVar 0)) (dAnd (dOp opEq (dIsi ["bool"] (dVar 0)) (dIsi ["bool"] (dVar 1))) (dOp opEq (dVar 0) (dVar 1))))))))
def _law_alike : Nat → List T → Res T
  | 0 => fun _ => .stuck
  | n + 1 => dRun 4 (_law_alike_b (_law_alike n))

/-- data that can be asked -/
inductive Alk : Nat → T → Prop where
  | non (n : Nat) : Alk n .non
  | bl (n : Nat) (b : Bool) : Alk n (.bl b)
  | int (n : Nat) (i : Int) : Alk n (.int i)
  | str (n : Nat) (x : Str) (h : (T.str x).dok 64 = true) : Alk n (.str x)
  | tup (n : Nat) (xs : List T) (h : ∀ x ∈ xs, Alk n x) (hl : xs.length ≤ 10000000) : Alk (n + 1) (.tup xs)
  | lst (n : Nat) (xs : List T) (h : ∀ x ∈ xs, Alk n x) (hl : xs.length ≤ 10000000) : Alk (n + 1) (.lst .sh xs)
theorem Alk.pkd {n : Nat} {t : T} (h : Alk n t) : t.pkd = t := by cases h <;> rfl
theorem Alk.frz {n : Nat} {t : T} (h : Alk n t) : t.frz = some t := by cases h <;> rfl
theorem rngTs_mem {n : Nat} {t : T} (h : t ∈ rngTs 0 n) : ∃ i : Nat, i < n ∧ t = .int (i : Int) := by
  unfold rngTs at h
  obtain ⟨i, hi, e⟩ := List.mem_map.mp h
  exact ⟨i, List.mem_range.mp hi, by rw [← e]; simp⟩
theorem atI_nat {α : Type} {xs : List α} {i : Nat} (h : i < xs.length) : atI xs (i : Int) = some xs[i] := by
  unfold atI ixN
  have h1 : (i : Int) < xs.length := by omega
  rw [if_pos (by omega), if_pos h1, Option.bind_some, Int.toNat_natCast, List.getElem?_eq_getElem h]
theorem rngTs_len (lo : Int) (n : Nat) : (rngTs lo n).length = n := by simp [rngTs]
/-- all alike: an empty list of unlike places -/
theorem alike_items {F : List T → Res T} {A B : T} {xs : List T} (hA : A.pkd = A) (hlen : ∀ i : Nat, i < xs.length → ∃ t, opIx A (.int i) = .ok t ∧ t.frz = some t ∧ F [t, t] = .ok (.bl true)) (hl : xs.length ≤ 10000000) (hc : caLen [A] = .ok (.int xs.length)) :
    dRet (dOp opEq (dComp (dRng1 (dCa caLen (dCons (dVar 1) dNil))) (gN 2) (dNotT (dTest (dCall F (dCons (dIx (dVar 0) (dVar 2)) (dCons (dIx (dVar 1) (dVar 2)) dNil))))) (dVar 2) [2]) (dLst dNil)) [some A, some A, none, none] = .ok (.ret (.bl true)) [some A, some A, none, none] := by
  have c := dComp_eq (src := dRng1 (dCa caLen (dCons (dVar 1) dNil))) (tg := gN 2) (tt := dNotT (dTest (dCall F (dCons (dIx (dVar 0) (dVar 2)) (dCons (dIx (dVar 1) (dVar 2)) dNil))))) (el := dVar 2) (own := [2]) (ρ := [some A, some A, none, none]) (ρ1 := fun t => [some A, some A, some t, none]) (p := fun _ => false) (u := id) (ts := rngTs 0 xs.length)
    (by rw [dRng1_ok (n := (xs.length : Nat)) (by simp [hA, hc]) (by omega) (by omega), Int.toNat_natCast]) (by rw [rngTs_len]; exact hl) (fun t _ => by simp [wipeE]) (fun t ht => by
      obtain ⟨i, hi, rfl⟩ := rngTs_mem ht
      obtain ⟨u, e1, e2, e3⟩ := hlen i hi
      simp [hA, e1, e2, e3]) (fun t _ h => by cases h)
  have f : (rngTs 0 xs.length).filter (fun _ => false) = [] := by simp
  rw [f, List.map_nil] at c
  rw [dRet_e, dOp_e, c]
  simp [opEq, eqOk, T.dok, doks, T.eqv, eqvs]
theorem alike_refl : ∀ (n : Nat) (t : T), Alk n t → _law_alike (n + 1) [t, t] = .ok (.bl true) := by
  intro n
  induction n with
  | zero =>
    intro t h
    cases h with
    | non => rfl
    | bl _ b => cases b <;> rfl
    | int _ i => simp [_law_alike, _law_alike_b, dRun, subT, opEq, eqOk, scalT, T.rk, T.eqv]
    | str _ x hx => simp [_law_alike, _law_alike_b, dRun, subT, opEq, eqOk, scalT, T.rk, T.eqv]
  | succ n ih =>
    intro t h
    cases h with
    | non => rfl
    | bl _ b => cases b <;> rfl
    | int _ i => simp [_law_alike, _law_alike_b, dRun, subT, opEq, eqOk, scalT, T.rk, T.eqv]
    | str _ x hx => simp [_law_alike, _law_alike_b, dRun, subT, opEq, eqOk, scalT, T.rk, T.eqv]
    | tup _ xs h hl =>
      refine dRun_ret (ρ' := [some (.tup xs), some (.tup xs), none, none]) (seq_ret ?_)
      have e := alike_items (F := _law_alike (n + 1)) (A := .tup xs) (B := .tup xs) (xs := xs) rfl (fun i hi => ⟨xs[i], by simp [atI_nat hi], (h _ (List.getElem_mem hi)).frz, ih _ (h _ (List.getElem_mem hi))⟩) hl (by simp)
      have t1 : dTest (dIsi ["tuple", "list"] (dVar 1)) [some (.tup xs), some (.tup xs), none, none] = .ok true := by simp [subT]
      show dIfS _ _ _ [some (.tup xs), some (.tup xs), none, none] = _
      rw [dIfS_e, t1]
      simp only [Res.st, if_true]
      refine (seq_ok (ρ' := [some (.tup xs), some (.tup xs), none, none]) (by simp [subT, opNe, eqOk, scalT, T.rk, T.eqv])).trans ?_
      refine (seq_ok (ρ' := [some (.tup xs), some (.tup xs), none, none]) (by simp [opNe, eqOk, scalT, T.rk])).trans ?_
      exact e
    | lst _ xs h hl =>
      refine dRun_ret (ρ' := [some (.lst .sh xs), some (.lst .sh xs), none, none]) (seq_ret ?_)
      have e := alike_items (F := _law_alike (n + 1)) (A := .lst .sh xs) (B := .lst .sh xs) (xs := xs) rfl (fun i hi => ⟨xs[i], by simp [atI_nat hi], (h _ (List.getElem_mem hi)).frz, ih _ (h _ (List.getElem_mem hi))⟩) hl (by simp)
      have t1 : dTest (dIsi ["tuple", "list"] (dVar 1)) [some (.lst .sh xs), some (.lst .sh xs), none, none] = .ok true := by simp [subT]
      show dIfS _ _ _ [some (.lst .sh xs), some (.lst .sh xs), none, none] = _
      rw [dIfS_e, t1]
      simp only [Res.st, if_true]
      refine (seq_ok (ρ' := [some (.lst .sh xs), some (.lst .sh xs), none, none]) (by simp [subT, opNe, eqOk, scalT, T.rk, T.eqv])).trans ?_
      refine (seq_ok (ρ' := [some (.lst .sh xs), some (.lst .sh xs), none, none]) (by simp [opNe, eqOk, scalT, T.rk])).trans ?_
      exact e
theorem Alk.mono {n m : Nat} {t : T} (h : Alk n t) (hm : n ≤ m) : Alk m t := by
  induction h generalizing m with
  | non => exact .non _
  | bl _ b => exact .bl _ b
  | int _ i => exact .int _ i
  | str _ x hx => exact .str _ x hx
  | tup n xs _ hl ih => obtain ⟨k, rfl⟩ : ∃ k, m = k + 1 := ⟨m - 1, by omega⟩; exact .tup k xs (fun x hx => ih x hx (by omega)) hl
  | lst n xs _ hl ih => obtain ⟨k, rfl⟩ : ∃ k, m = k + 1 := ⟨m - 1, by omega⟩; exact .lst k xs (fun x hx => ih x hx (by omega)) hl
end Lw
end Fn

/-! Lw4: sorted numbers. -/
namespace Fn
open PySem PySem.Spec L2
def intL (xs : List Int) : List T := xs.map T.int
@[simp] theorem intL_len (xs : List Int) : (intL xs).length = xs.length := by simp [intL]
@[simp] theorem intL_nil : intL [] = [] := rfl
@[simp] theorem intL_cons (x : Int) (xs : List Int) : intL (x :: xs) = .int x :: intL xs := rfl
@[simp] theorem intL_app (xs ys : List Int) : intL (xs ++ ys) = intL xs ++ intL ys := by simp [intL]
@[simp] theorem frzs_intL : ∀ xs : List Int, frzs (intL xs) = some (intL xs)
  | [] => rfl
  | x :: xs => by simp [intL_cons, frzs_intL xs]
def leI (a b : Int) : Bool := decide (a ≤ b)
def ltI (a b : Int) : Prop := leI a b = true ∧ a ≠ b
theorem ltI_iff {a b : Int} : ltI a b ↔ a < b := by simp only [ltI, leI, decide_eq_true_eq]; omega
theorem leI_total (a b : Int) : (leI a b || leI b a) = true := by
  simp only [leI, Bool.or_eq_true, decide_eq_true_eq]; omega
theorem leI_trans (a b c : Int) (h : leI a b = true) (h' : leI b c = true) : leI a c = true := by
  simp only [leI, decide_eq_true_eq] at *; omega
theorem leI_anti {a b : Int} (h : leI a b = true) (h' : leI b a = true) : a = b := by
  simp only [leI, decide_eq_true_eq] at *; omega
def sortI (xs : List Int) : List Int := xs.mergeSort leI
theorem sortI_perm (xs : List Int) : (sortI xs).Perm xs := List.mergeSort_perm _ _
theorem sortI_pw (xs : List Int) : (sortI xs).Pairwise fun a b => leI a b = true := List.pairwise_mergeSort leI_trans leI_total xs
theorem pw_uniqueI : ∀ {xs ys : List Int}, xs.Pairwise (fun a b => leI a b = true) → ys.Pairwise (fun a b => leI a b = true) → xs.Perm ys → xs = ys := fun {xs ys} h1 h2 p => List.Perm.eq_of_pairwise (fun a b _ _ h h' => leI_anti h h') h1 h2 p
theorem sortI_eq {xs ys : List Int} (p : xs.Perm ys) : sortI xs = sortI ys := pw_uniqueI (sortI_pw _) (sortI_pw _) (((sortI_perm xs).trans p).trans (sortI_perm ys).symm)
theorem srt_int (xs : List Int) : srt (intL xs) = intL (sortI xs) := by
  unfold srt sortI intL
  rw [List.map_mergeSort (r := leI) (s := PySem.W.dataLe false T.enc)]
  intro a _ b _
  have := congrFun (congrFun (PySem.W.dataLe_int (fun x : Int => x)) a) b
  exact this.symm
theorem sortOk_int {xs : List Int} (hl : xs.length ≤ 10000000) : sortOk (intL xs) = true := by
  unfold sortOk intL
  simp only [Bool.and_eq_true, List.all_map, List.all_eq_true, Function.comp, Bool.or_eq_true, decide_eq_true_eq, List.length_map]
  exact ⟨⟨⟨fun _ _ => rfl, fun a _ b _ => rfl⟩, .inr fun a _ => rfl⟩, hl⟩
theorem caSorted_li {xs : List Int} {fl : Fl} (hl : xs.length ≤ 10000000) : caSorted [.lst fl (intL xs)] = .ok (.lst .ow (intL (sortI xs))) := by
  unfold caSorted; simp only [sortOk_int hl, if_true, srt_int]
theorem caSorted_ti {xs : List Int} (hl : xs.length ≤ 10000000) : caSorted [.tup (intL xs)] = .ok (.lst .ow (intL (sortI xs))) := by
  unfold caSorted; simp only [sortOk_int hl, if_true, srt_int]
theorem caSorted_di {xs : List Int} {fl : Fl} {kvs : List (T × T)} (h : kvs.map (·.1) = intL xs) (hl : xs.length ≤ 10000000) : caSorted [.dct fl .k kvs] = .ok (.lst .ow (intL (sortI xs))) := by
  unfold caSorted; simp only [h, sortOk_int hl, if_true, srt_int]
theorem sortI_mem {xs : List Int} {a : Int} : a ∈ sortI xs ↔ a ∈ xs := (sortI_perm xs).mem_iff
theorem sortI_len (xs : List Int) : (sortI xs).length = xs.length := (sortI_perm xs).length_eq
def uStepI (acc : List Int) (x : Int) : List Int := if acc.getLast? = some x then acc else acc ++ [x]
def uStepI2 (acc : List Int) (x : Int) : List Int := if x ∈ acc then acc else acc ++ [x]
def ascI (xs : List Int) : List Int := (sortI xs).foldl uStepI []
theorem last_leI {acc : List Int} (h : acc.Pairwise ltI) {a z : Int} (ha : a ∈ acc) (hz : acc.getLast? = some z) : leI a z = true := by
  obtain ⟨ini, rfl⟩ : ∃ ini, acc = ini ++ [z] := by
    rw [List.getLast?_eq_some_iff] at hz
    exact hz
  rcases List.mem_append.mp ha with q | q
  · exact ((List.pairwise_append.mp h).2.2 a q z (by simp)).1
  · rw [List.mem_singleton.mp q]
    have := leI_total z z
    simpa using this
theorem pw_snocI {acc : List Int} {x : Int} (h : acc.Pairwise ltI) (hx : ∀ a ∈ acc, ltI a x) : (acc ++ [x]).Pairwise ltI := by
  rw [List.pairwise_append]
  refine ⟨h, List.pairwise_singleton _ _, fun a ha b hb => ?_⟩
  rw [List.mem_singleton.mp hb]; exact hx a ha
theorem uFoldI : ∀ (ys acc : List Int), ys.Pairwise (fun a b => leI a b = true) → acc.Pairwise ltI → (∀ a ∈ acc, ∀ y ∈ ys, leI a y = true) →
    (ys.foldl uStepI acc).Pairwise ltI ∧ (∀ a, a ∈ ys.foldl uStepI acc ↔ a ∈ acc ∨ a ∈ ys) ∧ ys.foldl uStepI2 acc = ys.foldl uStepI acc
  | [], acc, _, h, _ => ⟨h, fun a => by simp, rfl⟩
  | x :: r, acc, hy, h, hx => by
    obtain ⟨hy1, hy2⟩ := List.pairwise_cons.mp hy
    have same : x ∈ acc ↔ acc.getLast? = some x := by
      constructor
      · intro hm
        cases hz : acc.getLast? with
        | none => rw [List.getLast?_eq_none_iff] at hz; subst hz; cases hm
        | some z =>
          have h1 := last_leI h hm hz
          have h2 := hx z (List.mem_of_getLast? hz) x List.mem_cons_self
          rw [leI_anti h1 h2]
      · exact fun hz => List.mem_of_getLast? hz
    have st : uStepI2 acc x = uStepI acc x := by
      unfold uStepI uStepI2
      by_cases c : x ∈ acc
      · rw [if_pos c, if_pos (same.mp c)]
      · rw [if_neg c, if_neg fun z => c (same.mpr z)]
    by_cases c : x ∈ acc
    · have e : uStepI acc x = acc := if_pos (same.mp c)
      obtain ⟨i1, i2, i3⟩ := uFoldI r acc hy2 h fun a ha y hy => hx a ha y (List.mem_cons_of_mem _ hy)
      rw [List.foldl_cons, List.foldl_cons, st, e]
      refine ⟨i1, fun a => ?_, i3⟩
      rw [i2, List.mem_cons]
      constructor
      · rintro (z | z)
        · exact .inl z
        · exact .inr (.inr z)
      · rintro (z | z | z)
        · exact .inl z
        · rw [z]; exact .inl c
        · exact .inr z
    · have e : uStepI acc x = acc ++ [x] := if_neg fun z => c (same.mpr z)
      obtain ⟨i1, i2, i3⟩ := uFoldI r (acc ++ [x]) hy2 (pw_snocI h fun a ha => ⟨hx a ha x List.mem_cons_self, fun z => c (by rw [← z]; exact ha)⟩) fun a ha y hy => by
        rcases List.mem_append.mp ha with z | z
        · exact hx a z y (List.mem_cons_of_mem _ hy)
        · rw [List.mem_singleton.mp z]; exact hy1 y hy
      rw [List.foldl_cons, List.foldl_cons, st, e]
      refine ⟨i1, fun a => ?_, i3⟩
      rw [i2, List.mem_cons, List.mem_append, List.mem_singleton, or_assoc]
theorem ascI_pw (xs : List Int) : (ascI xs).Pairwise ltI := (uFoldI _ [] (sortI_pw xs) .nil fun _ h => by cases h).1
theorem ascI_mem (xs : List Int) (a : Int) : a ∈ ascI xs ↔ a ∈ xs := by
  unfold ascI
  rw [(uFoldI _ [] (sortI_pw xs) .nil fun _ h => by cases h).2.1 a]
  simp only [List.not_mem_nil, false_or]
  exact (sortI_perm xs).mem_iff
theorem ascI_2 (xs : List Int) : (sortI xs).foldl uStepI2 [] = ascI xs := (uFoldI _ [] (sortI_pw xs) .nil fun _ h => by cases h).2.2
theorem ascI_nodup (xs : List Int) : (ascI xs).Nodup := (ascI_pw xs).imp fun h => h.2
theorem ascI_len (xs : List Int) : (ascI xs).length ≤ xs.length := by
  have : ∀ ys acc : List Int, (ys.foldl uStepI acc).length ≤ acc.length + ys.length := by
    intro ys
    induction ys with
    | nil => intro acc; simp
    | cons x r ih =>
      intro acc
      rw [List.foldl_cons]
      refine Nat.le_trans (ih _) ?_
      unfold uStepI
      split <;> simp <;> omega
  have h := this (sortI xs) []
  unfold ascI
  rw [(sortI_perm xs).length_eq] at h
  simpa using h

namespace Lw
theorem doks_int {n : Nat} : ∀ {xs : List Int}, doks n (intL xs) = true
  | [] => by simp [doks]
  | x :: r => by simp [intL_cons, doks, T.dok, doks_int (xs := r)]
theorem eqvs_intL : ∀ (xs ys : List Int), eqvs (intL xs) (intL ys) = decide (xs = ys)
  | [], [] => by simp [eqvs]
  | [], y :: ys => by simp [eqvs]
  | x :: xs, [] => by simp [eqvs]
  | x :: xs, y :: ys => by
    simp only [intL_cons, eqvs, eqvs_intL xs ys, eqv_int, List.cons.injEq, Bool.decide_and]
    rfl
theorem unlike_loopI {A : T} : ∀ (ys acc : List Int) (j2 : Option T), acc.length + ys.length < 10000000 → (∀ x ∈ acc, True) → (∀ x ∈ ys, True) → ∃ j2', forL (gN 2) (dIfS (dOrT (dTestB (dOp opEq (dVar 1) (dLst dNil))) (dTestB (dOp opNe (dIx (dVar 1) (dNeg (dC (.int 1)))) (dVar 2))))
  (dDropM (dWr "list" wrAppend (.v 1) (dCons (dVar 2) dNil)))
  dNop) (intL ys) [some A, some (.lst .ow (intL acc)), j2] = .ok .next [some A, some (.lst .ow (intL (ys.foldl uStepI acc))), j2']
  | [], acc, j2, _, _, _ => ⟨j2, rfl⟩
  | x :: r, acc, j2, h, ha, hr => by
    rw [List.length_cons] at h
    have h1 : (uStepI acc x).length + r.length < 10000000 := by
      unfold uStepI; split
      · omega
      · rw [List.length_append]; simp; omega
    have h2 : ∀ y ∈ uStepI acc x, True := fun y hy => by
      unfold uStepI at hy
      split at hy
      · exact ha y hy
      · rcases List.mem_append.mp hy with z | z
        · exact ha y z
        · trivial
    obtain ⟨j, e⟩ := unlike_loopI (A := A) r (uStepI acc x) (some (.int x)) h1 h2 fun y hy => hr y (List.mem_cons_of_mem _ hy)
    refine ⟨j, ?_⟩
    rw [List.foldl_cons, ← e, intL_cons]
    refine forL_next (ρ1 := [some A, some (.lst .ow (intL acc)), some (.int x)]) (by simp) (.inl ?_)
    have hl : acc.length < 10000000 := by omega
    have dk : ∀ fl, (T.lst fl (intL acc)).dok 64 = true := fun fl => by simp [T.dok, doks_int]
    have dn : ∀ fl, (T.lst fl []).dok 64 = true := fun fl => by simp [T.dok, doks]
    cases hacc : acc with
    | nil => simp [uStepI, opEq, eqOk, dn, T.eqv, eqvs]
    | cons a q =>
      have ne : acc ≠ [] := by rw [hacc]; simp
      obtain ⟨z, hz⟩ : ∃ z, acc.getLast? = some z := ⟨_, List.getLast?_eq_getLast ne⟩
      have e1 : atI (intL acc) (-1) = some (.int z) := by
        rw [atI_last (by rw [hacc]; simp), intL, List.getLast?_map, hz]; rfl
      have t1 : dTestB (dOp opEq (dVar 1) (dLst dNil)) [some A, some (.lst .ow (intL acc)), some (.int x)] = .ok false := by
        have : eqvs (intL acc) [] = false := by rw [hacc]; rfl
        simp [opEq, eqOk, dn, dk, T.eqv, this]
      have t2 : dTestB (dOp opNe (dIx (dVar 1) (dNeg (dC (.int 1)))) (dVar 2)) [some A, some (.lst .ow (intL acc)), some (.int x)] = .ok (!decide (z = x)) := by
        simp [opNe, eqOk, scalT, T.rk, e1]
        by_cases c : z = x <;> simp [c]
      rw [← hacc, dIfS_e, dOrT_e, t1]
      simp only [Res.bind, Bool.false_eq_true, if_false, t2, Res.st]
      by_cases c : z = x
      · subst c; simp [uStepI, hz]
      · simp [uStepI, hz, c, hl]
theorem unlike_eI {xs : List Int} {fl : Fl} (h : ∀ x ∈ xs, True) (hl : xs.length < 10000000) : _law_unlike [.lst fl (intL xs)] = .ok (.lst .ow (intL (ascI xs))) := by
  have h' : ∀ x ∈ sortI xs, True := fun x hx => h x (sortI_mem.mp hx)
  obtain ⟨j2, e⟩ := unlike_loopI (A := .lst fl (intL xs)) (sortI xs) [] none (by rw [sortI_len]; simpa using hl) (fun _ h => by cases h) h'
  unfold _law_unlike
  refine dRun_ret (ρ' := [some (.lst fl (intL xs)), none, j2]) ?_
  refine (seq_ok (ρ' := [some (.lst fl (intL xs)), some (.lst .ow []), none]) (by simp)).trans ?_
  refine (seq_ok (ρ' := [some (.lst fl (intL xs)), some (.lst .ow (intL (ascI xs))), j2]) ?_).trans (by simp)
  have pk : (T.lst fl (intL xs)).pkd = .lst fl (intL xs) ∨ (T.lst fl (intL xs)).pkd = .lst .pk (intL xs) := by cases fl <;> simp [T.pkd]
  rcases pk with pk | pk <;> simp [pk, caSorted_li (fl := _) (xs := xs) (by omega)] <;> exact e
theorem unlike_eA {A : T} {xs : List Int} (hA : caList [A.pkd] = .ok (.lst .ow (intL xs))) (h : ∀ x ∈ xs, True) (hl : xs.length < 10000000) : _law_unlike [A] = .ok (.lst .ow (intL (ascI xs))) := by
  have h' : ∀ x ∈ sortI xs, True := fun x hx => h x (sortI_mem.mp hx)
  obtain ⟨j2, e⟩ := unlike_loopI (A := A) (sortI xs) [] none (by rw [sortI_len]; simpa using hl) (fun _ h => by cases h) h'
  unfold _law_unlike
  refine dRun_ret (ρ' := [some A, none, j2]) ?_
  refine (seq_ok (ρ' := [some A, some (.lst .ow []), none]) (by simp)).trans ?_
  refine (seq_ok (ρ' := [some A, some (.lst .ow (intL (ascI xs))), j2]) ?_).trans (by simp)
  simp [hA, caSorted_li (fl := _) (xs := xs) (by omega)]
  exact e
end Lw
end Fn
namespace Fn.Lw
open PySem PySem.Spec L2 Fn
theorem cut_take {α : Type} (xs : List α) (i : Nat) : cutT xs none (some (i : Int)) = xs.take i := by
  unfold cutT
  rw [HT.sIx_none, HT.sIx_nat]
  simp
theorem cut_take' {α : Type} {xs : List α} (i : Nat) (v : Int) (h : v = (i : Int)) : cutT xs none (some v) = xs.take i := by rw [h, cut_take]
theorem cut_drop {α : Type} (xs : List α) (i : Nat) : cutT xs (some (i : Int)) none = xs.drop i := by
  unfold cutT
  rw [HT.sIx_none, HT.sIx_nat]
  by_cases h : i ≤ xs.length
  · rw [Nat.min_eq_left h, List.take_of_length_le (by simp)]
  · rw [Nat.min_eq_right (by omega), List.take_of_length_le (by simp), List.drop_of_length_le (Nat.le_refl _), List.drop_of_length_le (by omega)]
theorem cut_drop' {α : Type} {xs : List α} (i : Nat) (v : Int) (h : v = (i : Int)) : cutT xs (some v) none = xs.drop i := by rw [h, cut_drop]
theorem opIn_int {i : Int} {fl : Fl} {xs : List Int} : opIn (.int i) (.lst fl (intL xs)) = .ok (.bl (decide (i ∈ xs))) := by
  have h : (intL xs).all T.flat = true := by unfold intL; rw [List.all_map, List.all_eq_true]; intro _ _; rfl
  have e : anyEq (.int i) (intL xs) = decide (i ∈ xs) := by
    unfold anyEq intL
    rw [List.any_map]
    induction xs with
    | nil => simp
    | cons a r ih =>
      have h' : (intL r).all T.flat = true := by unfold intL; rw [List.all_map, List.all_eq_true]; intro _ _; rfl
      rw [List.any_cons, ih h']
      by_cases c : a = i
      · simp [c]
      · have c' : ¬ i = a := fun z => c z.symm
        simp [c, c']
  exact (show opIn (.int i) (.lst fl (intL xs)) = .ok (.bl (anyEq (.int i) (intL xs))) from if_pos ⟨rfl, h⟩).trans (by rw [e])
theorem opIn_intT {i : Int} {xs : List Int} : opIn (.int i) (.tup (intL xs)) = .ok (.bl (decide (i ∈ xs))) := by
  have h : (intL xs).all T.flat = true := by unfold intL; rw [List.all_map, List.all_eq_true]; intro _ _; rfl
  have e := @opIn_int i .sh xs
  have e1 : opIn (.int i) (.lst .sh (intL xs)) = .ok (.bl (anyEq (.int i) (intL xs))) := if_pos ⟨rfl, h⟩
  have e2 : opIn (.int i) (.tup (intL xs)) = .ok (.bl (anyEq (.int i) (intL xs))) := if_pos ⟨rfl, h⟩
  rw [e2, ← e1, e]
end Fn.Lw

/-! Lw5: rows (lists or tuples), places. -/
namespace Fn
open PySem PySem.Spec L2
namespace Lw
def RowOf (A : T) (xs : List T) : Prop := A = .lst .sh xs ∨ A = .tup xs
theorem RowOf.pkd {A : T} {xs : List T} (h : RowOf A xs) : A.pkd = A := by rcases h with rfl | rfl <;> rfl
theorem RowOf.frz {A : T} {xs : List T} (h : RowOf A xs) : A.frz = some A := by rcases h with rfl | rfl <;> rfl
theorem RowOf.np {A : T} {xs : List T} (h : RowOf A xs) : A.np = true := by rcases h with rfl | rfl <;> rfl
theorem RowOf.iter {A : T} {xs : List T} (h : RowOf A xs) : A.iter = .ok xs := by rcases h with rfl | rfl <;> rfl
theorem RowOf.eiter {A : T} {xs : List T} (h : RowOf A xs) : A.eiter = .ok (enumTs 0 xs) := by rcases h with rfl | rfl <;> rfl
theorem RowOf.len {A : T} {xs : List T} (h : RowOf A xs) : caLen [A] = .ok (.int xs.length) := by rcases h with rfl | rfl <;> rfl
theorem RowOf.tuple {A : T} {xs : List T} (h : RowOf A xs) : caTuple [A] = .ok (.tup xs) := by rcases h with rfl | rfl <;> rfl
theorem RowOf.list {A : T} {xs : List T} (h : RowOf A xs) : caList [A] = .ok (.lst .ow xs) := by rcases h with rfl | rfl <;> rfl
theorem RowOf.sort {A : T} {xs : List Int} (h : RowOf A (intL xs)) (hl : xs.length ≤ 10000000) : caSorted [A] = .ok (.lst .ow (intL (sortI xs))) := by rcases h with rfl | rfl; exact caSorted_li hl; exact caSorted_ti hl
theorem RowOf.rev {A : T} {xs : List T} (h : RowOf A xs) : ∃ B, opRev A = .ok B ∧ B.np = true ∧ B.iter = .ok xs.reverse := by rcases h with rfl | rfl <;> exact ⟨_, rfl, rfl, rfl⟩
theorem RowOf.cut {A : T} {xs : List T} (h : RowOf A xs) (i : Nat) : ∃ B C, opSl A (some (i : Int)) none = .ok B ∧ B.frz = some C ∧ RowOf C (xs.drop i) := by
  rcases h with rfl | rfl
  · exact ⟨_, _, opSl_l, rfl, .inl (by rw [cut_drop])⟩
  · exact ⟨_, _, opSl_t, rfl, .inr (by rw [cut_drop])⟩
theorem enumTs_app (k : Nat) (xs ys : List T) : enumTs k (xs ++ ys) = enumTs k xs ++ enumTs (k + xs.length) ys := by
  induction xs generalizing k with
  | nil => rfl
  | cons x xs ih => simp only [List.cons_append, enumTs, ih, List.length_cons]; rw [Nat.add_right_comm]; rfl
theorem intL_drop (xs : List Int) (i : Nat) : (intL xs).drop i = intL (xs.drop i) := by simp [intL, List.map_drop]
theorem intL_take (xs : List Int) (i : Nat) : (intL xs).take i = intL (xs.take i) := by simp [intL, List.map_take]
theorem ints_intL : ∀ xs : List Int, T.ints (intL xs) = some xs
  | [] => rfl
  | x :: xs => by rw [intL_cons, T.ints, ints_intL xs]; rfl
theorem caSum_l {fl : Fl} {xs : List Int} : caSum [.lst fl (intL xs)] = .ok (.int xs.sum) := by simp [caSum, ints_intL]
theorem caMax_l {fl : Fl} {x : Int} {xs : List Int} : caMax [.lst fl (intL (x :: xs))] = .ok (.int (maxI (x :: xs))) := by unfold caMax; simp only [ints_intL]
theorem maxI_of {xs : List Int} {m : Int} (h : m ∈ xs) (h' : ∀ y ∈ xs, y ≤ m) : ∃ x r, xs = x :: r ∧ maxI xs = m := by
  cases xs with
  | nil => cases h
  | cons x r =>
    letI : Tbs := ⟨[]⟩
    obtain ⟨h1, h2⟩ := maxI_max r x
    exact ⟨x, r, rfl, Int.le_antisymm (h' _ h1) (h2 m h)⟩
theorem caMax_of {fl : Fl} {xs : List Int} {m : Int} (h : m ∈ xs) (h' : ∀ y ∈ xs, y ≤ m) : caMax [.lst fl (intL xs)] = .ok (.int m) := by
  obtain ⟨x, r, rfl, e⟩ := maxI_of h h'
  rw [caMax_l, e]
end Lw
end Fn

/-! plain mathematics of waves -/
namespace Fn.R20
/-- p picks from xs, whose places are k, k+1, ..; what is picked makes s -/
inductive Pt : Int → List Int → List Int → Int → Prop
  | nil (k : Int) : Pt k [] [] 0
  | skip {k x : Int} {r p : List Int} {s : Int} : Pt (k + 1) r p s → Pt k (x :: r) p s
  | take {k x : Int} {r p : List Int} {s : Int} : Pt (k + 1) r p s → Pt k (x :: r) (k :: p) (x + s)
def lexlt : List Int → List Int → Bool
  | _, [] => false
  | [], _ :: _ => true
  | x :: xs, y :: ys => decide (x < y) || (decide (x = y) && lexlt xs ys)
theorem Pt.ge {k : Int} {xs p : List Int} {s : Int} (h : Pt k xs p s) : ∀ i ∈ p, k ≤ i := by
  induction h with
  | nil k => intro i hi; cases hi
  | skip _ ih => intro i hi; have := ih i hi; omega
  | take _ ih =>
    intro i hi
    rcases List.mem_cons.mp hi with z | z
    · omega
    · have := ih i z; omega
theorem Pt.nonneg {k : Int} {xs p : List Int} {s : Int} (h : Pt k xs p s) (hp : ∀ x ∈ xs, 0 < x) : 0 ≤ s ∧ (s = 0 → p = []) ∧ (p = [] → s = 0) := by
  induction h with
  | nil k => exact ⟨Int.le_refl 0, fun _ => rfl, fun _ => rfl⟩
  | skip _ ih => exact ih fun x hx => hp x (List.mem_cons_of_mem _ hx)
  | take _ ih =>
    have := (ih fun x hx => hp x (List.mem_cons_of_mem _ hx)).1
    have h0 := hp _ List.mem_cons_self
    exact ⟨by omega, fun z => by omega, fun z => by cases z⟩
theorem Pt.lt_head {k : Int} {xs p : List Int} {s : Int} (h : Pt (k + 1) xs p s) (q : List Int) (hp : p ≠ []) : lexlt (k :: q) p = true := by
  cases p with
  | nil => exact absurd rfl hp
  | cons i p =>
    have := h.ge i List.mem_cons_self
    have e : k < i := by omega
    simp [lexlt, e]
theorem lexlt_cons {k : Int} {p q : List Int} : lexlt (k :: p) (k :: q) = lexlt p q := by simp [lexlt]
theorem lexlt_irrefl : ∀ p : List Int, lexlt p p = false
  | [] => rfl
  | x :: p => by rw [lexlt_cons, lexlt_irrefl p]
theorem lexlt_asymm : ∀ p q : List Int, lexlt p q = true → lexlt q p = false
  | [], [], h => by cases h
  | _ :: _, [], h => by cases h
  | [], _ :: _, _ => rfl
  | x :: p, y :: q, h => by
    simp only [lexlt, Bool.or_eq_true, Bool.and_eq_true, decide_eq_true_eq] at h
    rcases h with h | ⟨rfl, h⟩
    · have h1 : ¬ y < x := by omega
      have h2 : ¬ y = x := by omega
      simp [lexlt, h1, h2]
    · rw [lexlt_cons, lexlt_asymm p q h]
/-! ### the next wave -/
def nw : List Int → Int → Nat
  | [], _ => 0
  | s :: r, L => if L - s < 0 then 0 else 1 + nw r (L - s)
theorem nw_le : ∀ (ys : List Int) (L : Int), nw ys L ≤ ys.length
  | [], _ => Nat.le_refl 0
  | y :: ys, L => by
    unfold nw
    split
    · simp
    · have := nw_le ys (L - y); simp; omega
/-- what fits in front -/
theorem nw_iff : ∀ (ys : List Int) (L : Int) (m : Nat), (∀ y ∈ ys, 0 < y) → 0 ≤ L → m ≤ ys.length → ((ys.take m).sum ≤ L ↔ m ≤ nw ys L)
  | [], L, m, _, h0, hm => by simp at hm; subst hm; simp [nw, h0]
  | y :: ys, L, 0, _, h0, _ => by simp [h0]
  | y :: ys, L, m + 1, hp, h0, hm => by
    have hy := hp y List.mem_cons_self
    have hp' : ∀ y ∈ ys, 0 < y := fun z hz => hp z (List.mem_cons_of_mem _ hz)
    have nn : 0 ≤ (ys.take m).sum := by
      have go : ∀ l : List Int, (∀ z ∈ l, 0 < z) → 0 ≤ l.sum := by
        intro l
        induction l with
        | nil => intro _; simp
        | cons z l ih => intro h; have := ih fun w hw => h w (List.mem_cons_of_mem _ hw); have := h z List.mem_cons_self; simp; omega
      exact go _ fun z hz => hp' z (List.mem_of_mem_take hz)
    rw [List.take_succ_cons, List.sum_cons]
    unfold nw
    by_cases c : L - y < 0
    · rw [if_pos c]; constructor <;> intro h <;> omega
    · rw [if_neg c]
      have := nw_iff ys (L - y) m hp' (by omega) (by simpa using hm)
      constructor
      · intro h; have := this.mp (by omega); omega
      · intro h; have := this.mpr (by omega); omega
/-- the smallest ones are the smallest -/
theorem take_least {zs ys : List Int} (h : zs.Sublist ys) : ys.Pairwise (· ≤ ·) → (ys.take zs.length).sum ≤ zs.sum := by
  induction h with
  | slnil => intro _; simp
  | @cons zs ys y h ih =>
    intro hs
    obtain ⟨h1, h2⟩ := List.pairwise_cons.mp hs
    have := ih h2
    refine Int.le_trans ?_ this
    have hl := h.length_le
    clear ih this hs h2
    generalize zs.length = m at hl
    have go : ∀ (l : List Int) (m : Nat) (y : Int), (∀ z ∈ l, y ≤ z) → m ≤ l.length → l.Pairwise (· ≤ ·) ∨ True → ((y :: l).take m).sum ≤ (l.take m).sum ∨ False := by
      intro l m y hy hm _
      left
      cases m with
      | zero => simp
      | succ m =>
        rw [List.take_succ_cons, List.sum_cons, List.take_succ_eq_append_getElem (by omega), List.sum_append]
        have := hy l[m] (List.getElem_mem _)
        simp
        omega
    exact (go ys m y h1 hl (.inr trivial)).elim id False.elim
  | @cons_cons zs ys y h ih =>
    intro hs
    have := ih (List.pairwise_cons.mp hs).2
    simp
    omega
/-! ### parts and sublists -/
theorem Pt.sub {k : Int} {xs p : List Int} {s : Int} (h : Pt k xs p s) : ∃ zs : List Int, zs.Sublist xs ∧ zs.sum = s ∧ zs.length = p.length := by
  induction h with
  | nil k => exact ⟨[], .slnil, rfl, rfl⟩
  | skip _ ih => obtain ⟨zs, h1, h2, h3⟩ := ih; exact ⟨zs, h1.cons _, h2, h3⟩
  | take _ ih => obtain ⟨zs, h1, h2, h3⟩ := ih; exact ⟨_ :: zs, h1.cons_cons _, by simp [h2], by simp [h3]⟩
theorem sub_pt {zs xs : List Int} (h : zs.Sublist xs) : ∀ k : Int, ∃ p, Pt k xs p zs.sum ∧ p.length = zs.length := by
  induction h with
  | slnil => intro k; exact ⟨[], .nil k, rfl⟩
  | cons y h ih => intro k; obtain ⟨p, h1, h2⟩ := ih (k + 1); exact ⟨p, .skip h1, h2⟩
  | cons_cons y h ih => intro k; obtain ⟨p, h1, h2⟩ := ih (k + 1); exact ⟨k :: p, by simpa using Pt.take (x := y) h1, by simp [h2]⟩
theorem perm_sum {a b : List Int} (h : a.Perm b) : a.sum = b.sum := by
  induction h with
  | nil => rfl
  | cons x _ ih => simp [ih]
  | swap x y l => simp only [List.sum_cons]; omega
  | trans _ _ h1 h2 => exact h1.trans h2
/-- ys: xs in order -/
structure Srt (xs ys : List Int) : Prop where
  perm : ys.Perm xs
  asc : ys.Pairwise (· ≤ ·)
theorem cm_max {xs ys : List Int} (o : Srt xs ys) (hp : ∀ x ∈ xs, 0 < x) {k L s : Int} {p : List Int} (h : Pt k xs p s) (hs : s ≤ L) : p.length ≤ nw ys L := by
  obtain ⟨zs, h1, h2, h3⟩ := h.sub
  obtain ⟨ws, h4, h5⟩ := List.exists_perm_sublist h1 o.perm.symm
  have h6 := take_least h5 o.asc
  have e1 : ws.length = zs.length := h4.length_eq
  have e2 : ws.sum = zs.sum := perm_sum h4
  have h0 := (h.nonneg hp).1
  rw [← h3, ← e1]
  exact (nw_iff ys L ws.length (fun y hy => hp y (o.perm.mem_iff.mp hy)) (by omega) h5.length_le).mp (by omega)
theorem cm_has {xs ys : List Int} (o : Srt xs ys) (hp : ∀ x ∈ xs, 0 < x) {k L : Int} (h0 : 0 ≤ L) : ∃ p s, Pt k xs p s ∧ s ≤ L ∧ p.length = nw ys L := by
  have h1 := (nw_iff ys L (nw ys L) (fun y hy => hp y (o.perm.mem_iff.mp hy)) h0 (nw_le ys L)).mpr (Nat.le_refl _)
  obtain ⟨ws, h4, h5⟩ := List.exists_perm_sublist (List.take_sublist (nw ys L) ys) o.perm
  obtain ⟨p, h6, h7⟩ := sub_pt h5 k
  refine ⟨p, _, h6, ?_, ?_⟩
  · rw [perm_sum h4]; exact h1
  · rw [h7, h4.length_eq, List.length_take]; have := nw_le ys L; omega

/-! ### most houses -/
section
variable (so : List Int → List Int)
def mh : Int → List Int → Int → List Int
  | _, [], _ => []
  | k, x :: r, L => if x ≤ L ∧ 1 + nw (so r) (L - x) = nw (so (x :: r)) L then k :: mh (k + 1) r (L - x) else mh (k + 1) r L
variable {so}
theorem mh_step (hso : ∀ xs, Srt xs (so xs)) {x : Int} {r : List Int} {L : Int} (h0 : 0 ≤ L) (hp : ∀ y ∈ x :: r, 0 < y) (c : ¬ (x ≤ L ∧ 1 + nw (so r) (L - x) = nw (so (x :: r)) L)) : nw (so r) L = nw (so (x :: r)) L ∧ ∀ {k p s}, Pt (k + 1) r p s → x + s ≤ L → p.length + 1 ≠ nw (so (x :: r)) L := by
  have hr : ∀ y ∈ r, 0 < y := fun y hy => hp y (List.mem_cons_of_mem _ hy)
  have hx := hp x List.mem_cons_self
  have no : ∀ {k p s}, Pt (k + 1) r p s → x + s ≤ L → p.length + 1 ≠ nw (so (x :: r)) L := by
    intro k p s h hs e
    have s0 := (h.nonneg hr).1
    have l1 := cm_max (hso r) hr h (L := L - x) (by omega)
    obtain ⟨q, t, h1, h2, h3⟩ := cm_has (hso r) hr (k := k + 1) (L := L - x) (by omega)
    have l2 := cm_max (hso (x :: r)) hp (Pt.take (x := x) h1) (L := L) (by omega)
    simp only [List.length_cons] at l2
    exact c ⟨by omega, by omega⟩
  refine ⟨?_, no⟩
  obtain ⟨q, t, h1, h2, h3⟩ := cm_has (hso r) hr (k := 1) (L := L) h0
  have l1 := cm_max (hso (x :: r)) hp (Pt.skip (k := 0) (x := x) h1) h2
  obtain ⟨q', t', h4, h5, h6⟩ := cm_has (hso (x :: r)) hp (k := 0) (L := L) h0
  cases h4 with
  | skip h4 => have := cm_max (hso r) hr h4 h5; omega
  | take h4 => exact absurd h6 (by simpa using no h4 h5)
theorem mh_is (hso : ∀ xs, Srt xs (so xs)) : ∀ (xs : List Int) (k L : Int), 0 ≤ L → (∀ x ∈ xs, 0 < x) → ∃ s, Pt k xs (mh so k xs L) s ∧ s ≤ L ∧ (mh so k xs L).length = nw (so xs) L
  | [], k, L, h0, _ => ⟨0, .nil k, h0, by
      have : so [] = [] := by have := (hso []).perm.length_eq; exact List.eq_nil_of_length_eq_zero (by simpa using this)
      simp [mh, this, nw]⟩
  | x :: r, k, L, h0, hp => by
    have hr : ∀ y ∈ r, 0 < y := fun y hy => hp y (List.mem_cons_of_mem _ hy)
    unfold mh
    by_cases c : x ≤ L ∧ 1 + nw (so r) (L - x) = nw (so (x :: r)) L
    · rw [if_pos c]
      obtain ⟨s, h1, h2, h3⟩ := mh_is hso r (k + 1) (L - x) (by omega) hr
      exact ⟨x + s, .take h1, by omega, by simp; omega⟩
    · rw [if_neg c]
      obtain ⟨s, h1, h2, h3⟩ := mh_is hso r (k + 1) L h0 hr
      exact ⟨s, .skip h1, h2, by rw [h3]; exact (mh_step hso h0 hp c).1⟩
theorem mh_least (hso : ∀ xs, Srt xs (so xs)) : ∀ (xs : List Int) (k L : Int), 0 ≤ L → (∀ x ∈ xs, 0 < x) → ∀ {p s}, Pt k xs p s → s ≤ L → p.length = nw (so xs) L → p = mh so k xs L ∨ lexlt (mh so k xs L) p = true
  | [], k, L, h0, _, p, s, h, hs, hl => by cases h; exact .inl rfl
  | x :: r, k, L, h0, hp, p, s, h, hs, hl => by
    have hr : ∀ y ∈ r, 0 < y := fun y hy => hp y (List.mem_cons_of_mem _ hy)
    unfold mh
    by_cases c : x ≤ L ∧ 1 + nw (so r) (L - x) = nw (so (x :: r)) L
    · rw [if_pos c]
      cases h with
      | skip h => exact .inr (h.lt_head _ fun z => by subst z; simp at hl; omega)
      | take h =>
        simp only [List.length_cons] at hl
        rcases mh_least hso r (k + 1) (L - x) (by omega) hr h (by omega) (by omega) with z | z
        · exact .inl (by rw [← z])
        · exact .inr (by rw [lexlt_cons]; exact z)
    · rw [if_neg c]
      obtain ⟨e, no⟩ := mh_step hso h0 hp c
      cases h with
      | skip h => exact mh_least hso r (k + 1) L h0 hr h hs (by omega)
      | take h => exact absurd hl (by simpa using no h hs)
end
/-! ### sums -/
def putS (acc : List Int) (k : Int) : List Int := if k ∈ acc then acc else acc ++ [k]
def addS (ks : List Int) (s : Int) (l : List Int) : List Int := l.foldl (fun acc k => putS acc (k + s)) ks
theorem addS_mem {s : Int} : ∀ {l ks : List Int} {x : Int}, x ∈ addS ks s l ↔ x ∈ ks ∨ x - s ∈ l
  | [], ks, x => by simp [addS]
  | k :: l, ks, x => by
    show x ∈ addS (putS ks (k + s)) s l ↔ _
    rw [addS_mem, putS]
    have e : x = k + s ↔ x - s = k := by omega
    by_cases c : k + s ∈ ks
    · rw [if_pos c]
      constructor
      · rintro (h | h)
        · exact .inl h
        · exact .inr (List.mem_cons_of_mem _ h)
      · rintro (h | h)
        · exact .inl h
        · rcases List.mem_cons.mp h with z | z
          · exact .inl (by rw [e.mpr z]; exact c)
          · exact .inr z
    · rw [if_neg c]
      simp only [List.mem_append, List.mem_cons, List.not_mem_nil, or_false]
      rw [e]
      constructor
      · rintro ((h | h) | h)
        · exact .inl h
        · exact .inr (.inl h)
        · exact .inr (.inr h)
      · rintro (h | h | h)
        · exact .inl (.inl h)
        · exact .inl (.inr h)
        · exact .inr h
theorem addS_nodup {s : Int} : ∀ {l ks : List Int}, ks.Nodup → (addS ks s l).Nodup
  | [], ks, h => h
  | k :: l, ks, h => by
    show (addS (putS ks (k + s)) s l).Nodup
    apply addS_nodup
    rw [putS]
    by_cases c : k + s ∈ ks
    · rw [if_pos c]; exact h
    · rw [if_neg c]
      rw [List.nodup_append]
      exact ⟨h, by simp, fun a ha b hb => by rw [List.mem_singleton.mp hb]; exact fun z => c (by rw [← z]; exact ha)⟩
def sums : List Int → List Int
  | [] => [0]
  | x :: r => addS (sums r) x (sums r)
theorem sums_iff : ∀ {xs : List Int} {t : Int} {k : Int}, t ∈ sums xs ↔ ∃ p, Pt k xs p t
  | [], t, k => by
    simp only [sums, List.mem_singleton]
    exact ⟨fun h => by subst h; exact ⟨[], .nil k⟩, fun ⟨p, h⟩ => by cases h; rfl⟩
  | x :: r, t, k => by
    rw [sums, addS_mem, sums_iff (k := k + 1), sums_iff (k := k + 1)]
    constructor
    · rintro (⟨p, h⟩ | ⟨p, h⟩)
      · exact ⟨p, .skip h⟩
      · have := Pt.take (x := x) h
        rw [show x + (t - x) = t by omega] at this
        exact ⟨_, this⟩
    · rintro ⟨p, h⟩
      cases h with
      | skip h => exact .inl ⟨_, h⟩
      | take h => rename_i p s; exact .inr ⟨p, by rw [show x + s - x = s by omega]; exact h⟩
theorem sums_nodup : ∀ xs : List Int, (sums xs).Nodup
  | [] => by simp [sums]
  | x :: r => addS_nodup (sums_nodup r)
def mg : Int → List Int → Int → List Int
  | _, [], _ => []
  | k, x :: r, L => if x ≤ L ∧ L - x ∈ sums r then k :: mg (k + 1) r (L - x) else mg (k + 1) r L
theorem mg_is : ∀ (xs : List Int) (k L : Int), (∀ x ∈ xs, 0 < x) → L ∈ sums xs → Pt k xs (mg k xs L) L
  | [], k, L, _, h => by simp only [sums, List.mem_singleton] at h; subst h; exact .nil k
  | x :: r, k, L, hp, h => by
    have hr : ∀ y ∈ r, 0 < y := fun y hy => hp y (List.mem_cons_of_mem _ hy)
    unfold mg
    by_cases c : x ≤ L ∧ L - x ∈ sums r
    · rw [if_pos c]
      have := Pt.take (x := x) (mg_is r (k + 1) (L - x) hr c.2)
      rw [show x + (L - x) = L by omega] at this
      exact this
    · rw [if_neg c]
      rw [sums, addS_mem] at h
      have h' : L ∈ sums r := h.elim id fun z => by
        obtain ⟨p, q⟩ := sums_iff.mp z
        exact absurd ⟨by have := (q.nonneg hr (k := 0)).1; omega, z⟩ c
      exact .skip (mg_is r (k + 1) L hr h')
theorem mg_least : ∀ (xs : List Int) (k L : Int), (∀ x ∈ xs, 0 < x) → ∀ {p}, Pt k xs p L → p = mg k xs L ∨ lexlt (mg k xs L) p = true
  | [], k, L, _, p, h => by cases h; exact .inl rfl
  | x :: r, k, L, hp, p, h => by
    have hr : ∀ y ∈ r, 0 < y := fun y hy => hp y (List.mem_cons_of_mem _ hy)
    have hx := hp x List.mem_cons_self
    unfold mg
    by_cases c : x ≤ L ∧ L - x ∈ sums r
    · rw [if_pos c]
      cases h with
      | skip h => exact .inr (h.lt_head _ fun z => by have := (h.nonneg hr).2.2 z; omega)
      | take h =>
        rename_i p s
        have e : x + s - x = s := by omega
        rw [e] at c ⊢
        rcases mg_least r (k + 1) s hr h with z | z
        · exact .inl (by rw [← z])
        · exact .inr (by rw [lexlt_cons]; exact z)
    · rw [if_neg c]
      cases h with
      | skip h => exact mg_least r (k + 1) L hr h
      | take h =>
        rename_i p s
        exact absurd ⟨by have := (h.nonneg hr).1; omega, sums_iff.mpr ⟨p, by rw [show x + s - x = s by omega]; exact h⟩⟩ c

theorem nodup_bound : ∀ (n : Nat) (l : List Int), l.Nodup → (∀ x ∈ l, 0 ≤ x ∧ x < n) → l.length ≤ n
  | 0, [], _, _ => by simp
  | 0, x :: l, _, h => by have := h x List.mem_cons_self; omega
  | n + 1, l, nd, h => by
    have h1 : (l.erase (n : Int)).Nodup := nd.erase _
    have h2 := nodup_bound n (l.erase (n : Int)) h1 fun x hx => by
      have m := List.mem_of_mem_erase hx
      have := h x m
      have ne : x ≠ n := fun z => by subst z; exact absurd hx (by rw [nd.mem_erase_iff]; simp)
      omega
    have := List.length_erase (a := (n : Int)) (l := l)
    split at this <;> omega
theorem Pt.le_sum {k : Int} {xs p : List Int} {s : Int} (h : Pt k xs p s) (hp : ∀ x ∈ xs, 0 < x) : s ≤ xs.sum := by
  induction h with
  | nil k => simp
  | skip _ ih => have := ih fun x hx => hp x (List.mem_cons_of_mem _ hx); have := hp _ List.mem_cons_self; simp; omega
  | take _ ih => have := ih fun x hx => hp x (List.mem_cons_of_mem _ hx); simp; omega
theorem sum_bound : ∀ {xs : List Int} {m : Nat}, (∀ x ∈ xs, x ≤ m) → xs.sum ≤ m * xs.length
  | [], m, _ => by simp
  | x :: xs, m, h => by
    have h1 := h x List.mem_cons_self
    have h2 := sum_bound (m := m) fun y hy => h y (List.mem_cons_of_mem _ hy)
    rw [List.sum_cons, List.length_cons]
    have : (m : Int) * ((xs.length + 1 : Nat) : Int) = m * xs.length + m := by push_cast; rw [Int.mul_add, Int.mul_one]
    omega
theorem sums_len {xs : List Int} (hp : ∀ x ∈ xs, 0 < x) (h20 : ∀ x ∈ xs, x ≤ 20) (h30 : xs.length ≤ 30) : (sums xs).length ≤ 601 := by
  refine nodup_bound 601 _ (sums_nodup xs) fun t ht => ?_
  obtain ⟨p, h⟩ := sums_iff (k := 0).mp ht
  have h1 := h.le_sum hp
  have h2 := sum_bound (m := 20) h20
  have h3 := (h.nonneg hp).1
  have : ((20 : Nat) : Int) * xs.length ≤ 600 := by omega
  omega
/-! ### reached -/
def turnR (room s : Int) (seen : List Int) : List Int := seen.foldl (fun acc k => if k + s ≤ room then putS acc (k + s) else acc) seen
def reach (room : Int) (xs : List Int) (seen : List Int) : List Int := xs.foldl (fun acc s => turnR room s acc) seen
theorem foldR_mem {room s : Int} : ∀ {l ks : List Int} {x : Int}, x ∈ l.foldl (fun acc k => if k + s ≤ room then putS acc (k + s) else acc) ks ↔ x ∈ ks ∨ (x ≤ room ∧ x - s ∈ l)
  | [], ks, x => by simp
  | k :: l, ks, x => by
    rw [List.foldl_cons, foldR_mem]
    have e : x = k + s ↔ x - s = k := by omega
    have hput : ∀ {a : Int}, x ∈ putS ks a ↔ x ∈ ks ∨ x = a := by
      intro a
      unfold putS
      by_cases c : a ∈ ks
      · rw [if_pos c]; exact ⟨.inl, fun h => h.elim id fun z => by rw [z]; exact c⟩
      · rw [if_neg c]; simp
    by_cases c : k + s ≤ room
    · rw [if_pos c, hput, e, List.mem_cons]
      constructor
      · rintro ((h | h) | ⟨h1, h2⟩)
        · exact .inl h
        · exact .inr ⟨by omega, .inl h⟩
        · exact .inr ⟨h1, .inr h2⟩
      · rintro (h | ⟨h1, h | h⟩)
        · exact .inl (.inl h)
        · exact .inl (.inr h)
        · exact .inr ⟨h1, h⟩
    · rw [if_neg c, List.mem_cons]
      constructor
      · rintro (h | ⟨h1, h2⟩)
        · exact .inl h
        · exact .inr ⟨h1, .inr h2⟩
      · rintro (h | ⟨h1, h | h⟩)
        · exact .inl h
        · omega
        · exact .inr ⟨h1, h⟩
theorem foldR_nodup {room s : Int} : ∀ {l ks : List Int}, ks.Nodup → (l.foldl (fun acc k => if k + s ≤ room then putS acc (k + s) else acc) ks).Nodup
  | [], ks, h => h
  | k :: l, ks, h => by
    rw [List.foldl_cons]
    apply foldR_nodup
    split
    · unfold putS
      split
      · exact h
      · rename_i c
        rw [List.nodup_append]
        exact ⟨h, by simp, fun a ha b hb => by rw [List.mem_singleton.mp hb]; exact fun z => c (by rw [← z]; exact ha)⟩
    · exact h
/-- from what is seen one reaches what parts make -/
theorem reach_mem {room : Int} : ∀ {xs seen : List Int} {x : Int}, (∀ y ∈ xs, 0 < y) → (x ∈ reach room xs seen ↔ ∃ t u p, t ∈ seen ∧ Pt 0 xs p u ∧ x = t + u ∧ (p = [] ∨ x ≤ room))
  | [], seen, x, _ => by
    constructor
    · intro h; exact ⟨x, 0, [], h, .nil 0, by omega, .inl rfl⟩
    · rintro ⟨t, u, p, h1, h2, h3, _⟩; cases h2; rw [h3, Int.add_zero]; exact h1
  | s :: xs, seen, x, hp => by
    have hp' : ∀ y ∈ xs, 0 < y := fun y hy => hp y (List.mem_cons_of_mem _ hy)
    have any : ∀ {p u}, Pt 0 xs p u → ∃ q, Pt (0 + 1) xs q u ∧ q.length = p.length := fun h => by
      obtain ⟨zs, h1, h2, h3⟩ := h.sub
      obtain ⟨q, h4, h5⟩ := sub_pt h1 (0 + 1)
      exact ⟨q, by rw [← h2]; exact h4, by omega⟩
    have back : ∀ {p u}, Pt (0 + 1) xs p u → ∃ q, Pt 0 xs q u ∧ q.length = p.length := fun h => by
      obtain ⟨zs, h1, h2, h3⟩ := h.sub
      obtain ⟨q, h4, h5⟩ := sub_pt h1 0
      exact ⟨q, by rw [← h2]; exact h4, by omega⟩
    show x ∈ reach room xs (turnR room s seen) ↔ _
    rw [reach_mem hp']
    constructor
    · rintro ⟨t, u, p, h1, h2, h3, h4⟩
      obtain ⟨q, h5, h6⟩ := any h2
      have u0 := (h2.nonneg hp').1
      rcases foldR_mem.mp h1 with z | ⟨z1, z2⟩
      · refine ⟨t, u, q, z, .skip h5, h3, h4.imp (fun e => ?_) id⟩
        subst e; exact List.eq_nil_of_length_eq_zero h6
      · refine ⟨t - s, s + u, 0 :: q, z2, .take h5, by omega, .inr ?_⟩
        rcases h4 with e | e
        · have := (h2.nonneg hp').2.2 e; omega
        · exact e
    · rintro ⟨t, u, p, h1, h2, h3, h4⟩
      cases h2 with
      | skip h2 =>
        obtain ⟨q, h5, h6⟩ := back h2
        refine ⟨t, u, q, foldR_mem.mpr (.inl h1), h5, h3, h4.imp (fun e => ?_) id⟩
        subst e; exact List.eq_nil_of_length_eq_zero h6
      | take h2 =>
        rename_i p u
        obtain ⟨q, h5, h6⟩ := back h2
        have u0 := (h2.nonneg hp').1
        have xr : x ≤ room := h4.elim (fun e => by cases e) id
        exact ⟨t + s, u, q, foldR_mem.mpr (.inr ⟨by omega, by rw [show t + s - s = t by omega]; exact h1⟩), h5, by omega, .inr xr⟩
theorem reach_nodup {room : Int} : ∀ {xs seen : List Int}, seen.Nodup → (reach room xs seen).Nodup
  | [], seen, h => h
  | s :: xs, seen, h => reach_nodup (xs := xs) (foldR_nodup h)
/-! ### parts by their places -/
def pl : Nat → List (List Int)
  | 0 => [[]]
  | n + 1 => pl n ++ (pl n).map (· ++ [(n : Int)])
def Inc (a b : Int) (p : List Int) : Prop := p.Pairwise (· < ·) ∧ ∀ i ∈ p, a ≤ i ∧ i < b
theorem pl_iff : ∀ {n : Nat} {p : List Int}, p ∈ pl n ↔ Inc 0 n p
  | 0, p => by
    simp only [pl, List.mem_singleton, Inc]
    constructor
    · intro h; subst h; exact ⟨.nil, fun i hi => by cases hi⟩
    · rintro ⟨_, h⟩
      cases p with
      | nil => rfl
      | cons i p => have := h i List.mem_cons_self; omega
  | n + 1, p => by
    rw [pl, List.mem_append, pl_iff, List.mem_map]
    constructor
    · rintro (⟨h1, h2⟩ | ⟨q, h, rfl⟩)
      · exact ⟨h1, fun i hi => by have := h2 i hi; omega⟩
      · obtain ⟨h1, h2⟩ := pl_iff.mp h
        refine ⟨List.pairwise_append.mpr ⟨h1, by simp, fun a ha b hb => by rw [List.mem_singleton.mp hb]; exact (h2 a ha).2⟩, fun i hi => ?_⟩
        rcases List.mem_append.mp hi with z | z
        · have := h2 i z; omega
        · rw [List.mem_singleton.mp z]; omega
    · rintro ⟨h1, h2⟩
      by_cases c : (n : Int) ∈ p
      · right
        obtain ⟨a, b, rfl⟩ := List.append_of_mem c
        obtain ⟨q1, q2, q3⟩ := List.pairwise_append.mp h1
        have eb : b = [] := by
          cases b with
          | nil => rfl
          | cons i b =>
            have l1 := (List.pairwise_cons.mp q2).1 i List.mem_cons_self
            have l2 := h2 i (by simp)
            omega
        subst eb
        exact ⟨a, pl_iff.mpr ⟨q1, fun i hi => ⟨(h2 i (by simp [hi])).1, q3 i hi _ (by simp)⟩⟩, rfl⟩
      · left
        refine ⟨h1, fun i hi => ?_⟩
        have := h2 i hi
        have ne : i ≠ n := fun z => c (by rw [← z]; exact hi)
        omega
def ps (k : Int) (xs : List Int) (p : List Int) : Int := (p.map fun i => xs.getD (i - k).toNat 0).sum
theorem ps_shift {k x : Int} {r p : List Int} (h : ∀ i ∈ p, k + 1 ≤ i) : ps k (x :: r) p = ps (k + 1) r p := by
  unfold ps
  congr 1
  apply List.map_congr_left
  intro i hi
  have := h i hi
  have e : (i - k).toNat = (i - (k + 1)).toNat + 1 := by omega
  rw [e, List.getD_cons_succ]
theorem Pt.inc {k : Int} {xs p : List Int} {s : Int} (h : Pt k xs p s) : Inc k (k + xs.length) p ∧ s = ps k xs p := by
  induction h with
  | nil k => exact ⟨⟨.nil, fun i hi => by cases hi⟩, rfl⟩
  | @skip k x r p s h ih =>
    obtain ⟨⟨h1, h2⟩, h3⟩ := ih
    refine ⟨⟨h1, fun i hi => ?_⟩, ?_⟩
    · have := h2 i hi; simp; omega
    · rw [ps_shift fun i hi => h.ge i hi]; exact h3
  | @take k x r p s h ih =>
    obtain ⟨⟨h1, h2⟩, h3⟩ := ih
    refine ⟨⟨List.pairwise_cons.mpr ⟨fun i hi => by have := h.ge i hi; omega, h1⟩, fun i hi => ?_⟩, ?_⟩
    · rcases List.mem_cons.mp hi with z | z
      · subst z; simp; omega
      · have := h2 i z; simp; omega
    · have e := ps_shift (x := x) (r := r) fun i hi => h.ge i hi
      show x + s = ((k :: p).map fun i => (x :: r).getD (i - k).toNat 0).sum
      rw [List.map_cons, List.sum_cons, show (k - k).toNat = 0 by omega, List.getD_cons_zero]
      have e' : (p.map fun i => (x :: r).getD (i - k).toNat 0).sum = ps (k + 1) r p := e
      rw [e', ← h3]
theorem inc_pt : ∀ {xs p : List Int} {k : Int}, Inc k (k + xs.length) p → Pt k xs p (ps k xs p)
  | [], p, k, ⟨h1, h2⟩ => by
    cases p with
    | nil => exact .nil k
    | cons i p => have := h2 i List.mem_cons_self; simp at this; omega
  | x :: r, p, k, ⟨h1, h2⟩ => by
    have skip : ∀ {q : List Int}, q.Pairwise (· < ·) → (∀ i ∈ q, k + 1 ≤ i ∧ i < k + (x :: r).length) → Pt (k + 1) r q (ps (k + 1) r q) := fun a b => inc_pt ⟨a, fun i hi => by have := b i hi; simp at this; omega⟩
    cases p with
    | nil => rw [ps_shift fun i hi => by cases hi]; exact .skip (skip .nil fun i hi => by cases hi)
    | cons i p =>
      obtain ⟨q1, q2⟩ := List.pairwise_cons.mp h1
      have hi := h2 i List.mem_cons_self
      by_cases c : i = k
      · subst c
        have g : ∀ j ∈ p, i + 1 ≤ j := fun j hj => by have := q1 j hj; omega
        have e : ps i (x :: r) (i :: p) = x + ps (i + 1) r p := by
          rw [← ps_shift (x := x) g]
          show ((i :: p).map fun j => (x :: r).getD (j - i).toNat 0).sum = _
          rw [List.map_cons, List.sum_cons, show (i - i).toNat = 0 by omega, List.getD_cons_zero]; rfl
        rw [e]
        exact .take (skip q2 fun j hj => ⟨g j hj, (h2 j (List.mem_cons_of_mem _ hj)).2⟩)
      · have g : ∀ j ∈ i :: p, k + 1 ≤ j := fun j hj => by
          rcases List.mem_cons.mp hj with z | z
          · omega
          · have := q1 j z; omega
        rw [ps_shift g]
        exact .skip (skip h1 fun j hj => ⟨g j hj, (h2 j hj).2⟩)
end Fn.R20

namespace Fn.K
open PySem PySem.Spec L2 Fn
variable [Tbs]
abbrev sts (i : Nat) : Stmt := PySem.Challenge.pw_tablevow_k20_whole_waves.main.body.getD i default
section
variable {x : Tx} {P : Program} {w : World} {mg : Str → Option Value} {base : Heap} {f : Addr} {fd : FuncData} {qual nm : Str}
abbrev is_integer_S0 : Env → ResS := (dRet (dAnd (dIsi ["int"] (dVar 0)) (dNot (dIsi ["bool"] (dVar 0)))))
def is_integer_b : Env → ResS := is_integer_S0
def is_integer : List T → Res T := dRun 1 is_integer_b
theorem is_integer_ok (b_bool : mg "bool" = none) (b_int : mg "int" = none) (b_isinstance : mg "isinstance" = none) (Fu : L2.Fun x.K nm qual (sts 1) f fd) : FnOk P w x.K mg base (L2.CX P w) 1 f fd ["thing"] (spP x 1 is_integer) :=
  def_pure (N := ["thing"]) (b := is_integer_b) Fu ⟨rfl, rfl, rfl, by decide +kernel, rfl, by decide +kernel, by decide +kernel⟩ fun cdv A outer s H E hr =>
  (ss_one (s_ret (p_and (p_isi1 (p_var 0) (by decide) rfl b_isinstance b_int) (p_bool1 (p_not (p_isi1 (p_var 0) (by decide) rfl b_isinstance b_bool))))))
abbrev is_within_S0 : Env → ResS := (dRet (dAnd (dCall is_integer (dCons (dVar 0) dNil)) (dChain opLe opLe (dVar 1) (dVar 0) (dVar 2))))
def is_within_b : Env → ResS := is_within_S0
def is_within : List T → Res T := dRun 3 is_within_b
theorem is_within_ok (c_is_integer : Def x P w mg base "is_integer" 1 1 (spP x 1 is_integer)) (Fu : L2.Fun x.K nm qual (sts 2) f fd) : FnOk P w x.K mg base (L2.CX P w) 2 f fd ["thing", "least", "most"] (spP x 3 is_within) :=
  def_pure (N := ["thing", "least", "most"]) (b := is_within_b) Fu ⟨rfl, rfl, rfl, by decide +kernel, rfl, by decide +kernel, by decide +kernel⟩ fun cdv A outer s H E hr =>
  (ss_one (s_ret (p_and (p_callD c_is_integer rfl (hr.mono (by decide : 1 ≤ 1)) rfl (pa1 (p_var 0) pa0)) (p_bool1 (p_chain sem_le sem_le (p_var 1) (p_var 0) (p_var 2))))))
abbrev is_row_S0 : Env → ResS := (dRet (dIsi ["list", "tuple"] (dVar 0)))
def is_row_b : Env → ResS := is_row_S0
def is_row : List T → Res T := dRun 1 is_row_b
theorem is_row_ok (b_isinstance : mg "isinstance" = none) (b_list : mg "list" = none) (b_tuple : mg "tuple" = none) (Fu : L2.Fun x.K nm qual (sts 3) f fd) : FnOk P w x.K mg base (L2.CX P w) 1 f fd ["thing"] (spP x 1 is_row) :=
  def_pure (N := ["thing"]) (b := is_row_b) Fu ⟨rfl, rfl, rfl, by decide +kernel, rfl, by decide +kernel, by decide +kernel⟩ fun cdv A outer s H E hr =>
  (ss_one (s_ret (p_isi2 (p_var 0) (by decide) (by decide) rfl rfl b_isinstance b_list b_tuple)))
abbrev check_sizes_S0 : Env → ResS := (dIfS (dOrT (dNotT (dTest (dCall is_row (dCons (dVar 0) dNil)))) (dTestB (dOp opGt (dCa caLen (dCons (dVar 0) dNil)) (dVar 1))))
  (dRaise 1 (dCons (dNeg (dC (.int 1))) dNil))
  dNop)
abbrev check_sizes_L0 : Env → ResS := (dIfS (dNotT (dTest (dCall is_within (dCons (dVar 4) (dCons (dC (.int 1)) (dCons (dVar 2) dNil))))))
  (dRaise 1 (dCons (dVar 3) dNil))
  dNop)
abbrev check_sizes_S1 : Env → ResS := (dFor (dEnum true (dVar 0)) (gT [(gN 3), (gN 4)])
  check_sizes_L0)
def check_sizes_b : Env → ResS := (dSeq check_sizes_S0
  check_sizes_S1)
def check_sizes : List T → Res T := dRun 5 check_sizes_b
theorem check_sizes_ok (b_enumerate : mg "enumerate" = none) (b_len : mg "len" = none) (c_is_row : Def x P w mg base "is_row" 1 1 (spP x 1 is_row)) (c_is_within : Def x P w mg base "is_within" 2 3 (spP x 3 is_within)) (e_BadSizes : Exc x P w mg base "BadSizes" 1 1) (Fu : L2.Fun x.K nm qual (sts 9) f fd) : FnOk P w x.K mg base (L2.CX P w) 3 f fd ["sizes", "many", "most"] (spP x 3 check_sizes) :=
  def_pure (N := ["sizes", "many", "most", "index", "size"]) (b := check_sizes_b) Fu ⟨rfl, rfl, rfl, by decide +kernel, rfl, by decide +kernel, by decide +kernel⟩ fun cdv A outer s H E hr =>
  (ss_cons (s_if (PWe.pt (pt_or (pt_no (pt_of (p_callD c_is_row rfl (hr.mono (by decide : 1 ≤ 2)) rfl (pa1 (p_var 0) pa0)))) (pt_or1 (pt_one sem_gt (p_callB sem_len rfl b_len rfl (pa1 (p_var 0) pa0)) (p_var 1) rfl))))
  (ss_one (s_raiseD e_BadSizes (hr.mono (by decide : 2 ≤ 2)) rfl (pa1 (p_neg p_int) pa0)))
  ss_nil)
  (ss_one (s_for (src_enum rfl b_enumerate (p_var 0)) (tg_tup (tgs_cons (tg_name (i := 3) rfl (Or.inl rfl) (Or.inr rfl)) (tgs_cons (tg_name (i := 4) rfl (Or.inl rfl) (Or.inr rfl)) tgs_nil))) (sem_tupT (sems_cons (sem_name 3) (sems_cons (sem_name 4) sems_nil)) rfl) (fun i _ => rfl)
  (ss_one (s_if (pt_no (pt_of (p_callD c_is_within rfl (hr.mono (by decide : 2 ≤ 2)) rfl (pa1 (p_var 4) (pa1 p_int (pa1 (p_var 2) pa0))))))
  (ss_one (s_raiseD e_BadSizes (hr.mono (by decide : 2 ≤ 2)) rfl (pa1 (p_var 3) pa0)))
  ss_nil)))))
abbrev check_wave_S0 : Env → ResS := (dDrop (dCall check_sizes (dCons (dVar 0) (dCons (dC (.int 30)) (dCons (dC (.int 20)) dNil)))))
abbrev check_wave_S1 : Env → ResS := (dIfS (dNotT (dTest (dCall is_within (dCons (dVar 1) (dCons (dC (.int 0)) (dCons (dC (.int 600)) dNil))))))
  (dRaise 2 (dCons (dVar 1) dNil))
  dNop)
def check_wave_b : Env → ResS := (dSeq check_wave_S0
  check_wave_S1)
def check_wave : List T → Res T := dRun 2 check_wave_b
theorem check_wave_ok (c_check_sizes : Def x P w mg base "check_sizes" 3 3 (spP x 3 check_sizes)) (c_is_within : Def x P w mg base "is_within" 2 3 (spP x 3 is_within)) (e_BadNumber : Exc x P w mg base "BadNumber" 2 1) (g_MOST_HOUSE : ∃ j, mg "MOST_HOUSE" = some (.int 20 j)) (g_MOST_HOUSES : ∃ j, mg "MOST_HOUSES" = some (.int 30 j)) (g_MOST_ROOM : ∃ j, mg "MOST_ROOM" = some (.int 600 j)) (Fu : L2.Fun x.K nm qual (sts 14) f fd) : FnOk P w x.K mg base (L2.CX P w) 4 f fd ["sizes", "room"] (spP x 2 check_wave) :=
  def_pure (N := ["sizes", "room"]) (b := check_wave_b) Fu ⟨rfl, rfl, rfl, by decide +kernel, rfl, by decide +kernel, by decide +kernel⟩ fun cdv A outer s H E hr =>
  (ss_cons (s_drop (p_callD c_check_sizes rfl (hr.mono (by decide : 3 ≤ 3)) rfl (pa1 (p_var 0) (pa1 (p_gint g_MOST_HOUSES) (pa1 (p_gint g_MOST_HOUSE) pa0)))))
  (ss_one (s_if (pt_no (pt_of (p_callD c_is_within rfl (hr.mono (by decide : 2 ≤ 3)) rfl (pa1 (p_var 1) (pa1 p_int (pa1 (p_gint g_MOST_ROOM) pa0))))))
  (ss_one (s_raiseD e_BadNumber (hr.mono (by decide : 2 ≤ 3)) rfl (pa1 (p_var 1) pa0)))
  ss_nil)))
abbrev next_wave_S0 : Env → ResS := (dDrop (dCall check_wave (dCons (dVar 0) (dCons (dVar 1) dNil))))
abbrev next_wave_S1 : Env → ResS := (dAsgF 2 (dC (.int 0)))
abbrev next_wave_S2 : Env → ResS := (dAsgF 3 (dVar 1))
abbrev next_wave_L0 : Env → ResS := (dSeq (dAug (· - ·) 3 (dVar 4))
  (dSeq (dIfS (dTestB (dOp opLt (dVar 3) (dC (.int 0))))
  (dRet (dVar 2))
  dNop)
  (dAug (· + ·) 2 (dC (.int 1)))))
abbrev next_wave_S3 : Env → ResS := (dFor (dIt true (dVar 0)) (gN 4)
  next_wave_L0)
abbrev next_wave_S4 : Env → ResS := (dRet (dVar 2))
def next_wave_b : Env → ResS := (dSeq next_wave_S0
  (dSeq next_wave_S1
  (dSeq next_wave_S2
  (dSeq next_wave_S3
  next_wave_S4))))
def next_wave : List T → Res T := dRun 5 next_wave_b
theorem next_wave_ok (c_check_wave : Def x P w mg base "check_wave" 4 2 (spP x 2 check_wave)) (Fu : L2.Fun x.K nm qual (sts 15) f fd) : FnOk P w x.K mg base (L2.CX P w) 5 f fd ["sizes", "room"] (spP x 2 next_wave) :=
  def_pure (N := ["sizes", "room", "found", "left", "size"]) (b := next_wave_b) Fu ⟨rfl, rfl, rfl, by decide +kernel, rfl, by decide +kernel, by decide +kernel⟩ fun cdv A outer s H E hr =>
  (ss_cons (s_drop (p_callD c_check_wave rfl (hr.mono (by decide : 4 ≤ 4)) rfl (pa1 (p_var 0) (pa1 (p_var 1) pa0))))
  (ss_cons (s_asgF (i := 2) p_int rfl rfl (Or.inl rfl) (Or.inr rfl))
  (ss_cons (s_asgF (i := 3) (p_var 1) rfl rfl (Or.inl rfl) (Or.inr rfl))
  (ss_cons (s_for (src_it (p_var 0)) (tg_name (i := 4) rfl (Or.inl rfl) (Or.inr rfl)) (sem_name 4) (fun i _ => rfl)
  (ss_cons (s_aug (i := 3) ip_sub (p_var 4) rfl rfl (Or.inl rfl) (Or.inr rfl))
  (ss_cons (s_if (pt_one sem_lt (p_var 3) p_int rfl)
  (ss_one (s_ret (p_var 2)))
  ss_nil)
  (ss_one (s_aug (i := 2) ip_add p_int rfl rfl (Or.inl rfl) (Or.inr rfl))))))
  (ss_one (s_ret (p_var 2)))))))
abbrev count_most_S0 : Env → ResS := (dRet (dCall next_wave (dCons (dCa caSorted (dCons (dVar 0) dNil)) (dCons (dVar 1) dNil))))
def count_most_b : Env → ResS := count_most_S0
def count_most : List T → Res T := dRun 2 count_most_b
theorem count_most_ok (b_sorted : mg "sorted" = none) (c_next_wave : Def x P w mg base "next_wave" 5 2 (spP x 2 next_wave)) (Fu : L2.Fun x.K nm qual (sts 16) f fd) : FnOk P w x.K mg base (L2.CX P w) 6 f fd ["sizes", "room"] (spP x 2 count_most) :=
  def_pure (N := ["sizes", "room"]) (b := count_most_b) Fu ⟨rfl, rfl, rfl, by decide +kernel, rfl, by decide +kernel, by decide +kernel⟩ fun cdv A outer s H E hr =>
  (ss_one (s_ret (p_callD c_next_wave rfl (hr.mono (by decide : 5 ≤ 5)) rfl (pa1 (p_callB sem_sorted rfl b_sorted rfl (pa1 (p_var 0) pa0)) (pa1 (p_var 1) pa0)))))
abbrev most_houses_S0 : Env → ResS := (dDrop (dCall check_wave (dCons (dVar 0) (dCons (dVar 1) dNil))))
abbrev most_houses_S1 : Env → ResS := (dAsg 2 (dLst dNil))
abbrev most_houses_S2 : Env → ResS := (dAsgF 3 (dVar 1))
abbrev most_houses_L0 : Env → ResS := (dSeq (dAsgF 6 (dCall count_most (dCons (dSl (dVar 0) (dPart (dVar 4)) dNoPart) (dCons (dVar 3) dNil))))
  (dIfS (dAndT (dTestB (dOp opLe (dVar 5) (dVar 3))) (dAndT (dTestB (dOp opEq (dOp opAdd (dC (.int 1)) (dCall count_most (dCons (dSl (dVar 0) (dPart (dOp opAdd (dVar 4) (dC (.int 1)))) dNoPart) (dCons (dOp opSub (dVar 3) (dVar 5)) dNil)))) (dVar 6))) (dTestB (dOp opGt (dVar 6) (dC (.int 0))))))
  (dSeq (dDropM (dWr "list" wrAppend (.v 2) (dCons (dVar 4) dNil)))
  (dAug (· - ·) 3 (dVar 5)))
  dNop))
abbrev most_houses_S3 : Env → ResS := (dFor (dEnum true (dVar 0)) (gT [(gN 4), (gN 5)])
  most_houses_L0)
abbrev most_houses_S4 : Env → ResS := (dRet (dCa caTuple (dCons (dVar 2) dNil)))
def most_houses_b : Env → ResS := (dSeq most_houses_S0
  (dSeq most_houses_S1
  (dSeq most_houses_S2
  (dSeq most_houses_S3
  most_houses_S4))))
def most_houses : List T → Res T := dRun 7 most_houses_b
theorem most_houses_ok (b_enumerate : mg "enumerate" = none) (b_tuple : mg "tuple" = none) (c_check_wave : Def x P w mg base "check_wave" 4 2 (spP x 2 check_wave)) (c_count_most : Def x P w mg base "count_most" 6 2 (spP x 2 count_most)) (Fu : L2.Fun x.K nm qual (sts 17) f fd) : FnOk P w x.K mg base (L2.CX P w) 7 f fd ["sizes", "room"] (spP x 2 most_houses) :=
  def_pure (N := ["sizes", "room", "found", "left", "index", "size", "wanted"]) (b := most_houses_b) Fu ⟨rfl, rfl, rfl, by decide +kernel, rfl, by decide +kernel, by decide +kernel⟩ fun cdv A outer s H E hr =>
  (ss_cons (s_drop (p_callD c_check_wave rfl (hr.mono (by decide : 4 ≤ 6)) rfl (pa1 (p_var 0) (pa1 (p_var 1) pa0))))
  (ss_cons (s_asg (i := 2) (p_lst pa0) rfl rfl (Or.inl rfl) (Or.inr rfl))
  (ss_cons (s_asgF (i := 3) (p_var 1) rfl rfl (Or.inl rfl) (Or.inr rfl))
  (ss_cons (s_for (src_enum rfl b_enumerate (p_var 0)) (tg_tup (tgs_cons (tg_name (i := 4) rfl (Or.inl rfl) (Or.inr rfl)) (tgs_cons (tg_name (i := 5) rfl (Or.inl rfl) (Or.inr rfl)) tgs_nil))) (sem_tupT (sems_cons (sem_name 4) (sems_cons (sem_name 5) sems_nil)) rfl) (fun i _ => rfl)
  (ss_cons (s_asgF (i := 6) (p_callD c_count_most rfl (hr.mono (by decide : 6 ≤ 6)) rfl (pa1 (p_sl (p_var 0) (pot_some (p_var 4)) pot_none) (pa1 (p_var 3) pa0))) rfl rfl (Or.inl rfl) (Or.inr rfl))
  (ss_one (s_if (PWe.pt (pt_and (pt_one sem_le (p_var 5) (p_var 3) rfl) (pt_and (pt_one sem_eq (p_op sem_add p_int (p_callD c_count_most rfl (hr.mono (by decide : 6 ≤ 6)) rfl (pa1 (p_sl (p_var 0) (pot_some (p_op sem_add (p_var 4) p_int)) pot_none) (pa1 (p_op sem_sub (p_var 3) (p_var 5)) pa0)))) (p_var 6) rfl) (pt_and1 (pt_one sem_gt (p_var 6) p_int rfl)))))
  (ss_cons (s_dropM (m_wr F.plainAttrs_list F.slot_list_append F.type_list_append sem_append (path_v 2) (pa1 (p_var 4) pa0)))
  (ss_one (s_aug (i := 3) ip_sub (p_var 5) rfl rfl (Or.inl rfl) (Or.inr rfl))))
  ss_nil))))
  (ss_one (s_ret (p_callTy sem_tuple rfl b_tuple rfl (pa1 (p_var 2) pa0))))))))
abbrev all_sums_S0 : Env → ResS := (dAsg 1 (dLst (dCons (dDisp [((dC (.int 0)), (dC (.bl true)))]) dNil)))
abbrev all_sums_L0 : Env → ResS := (dSetI (.v 3) (dOp opAdd (dVar 4) (dVar 2)) (dC (.bl true)))
abbrev all_sums_L1 : Env → ResS := (dSeq (dAsg 3 (dCa caDict (dCons (dIx (dVar 1) (dNeg (dC (.int 1)))) dNil)))
  (dSeq (dForD T.dkeys (dIx (dVar 1) (dNeg (dC (.int 1)))) (gN 4)
  all_sums_L0)
  (dSh 3 (dDropM (dWr "list" wrAppend (.v 1) (dCons (dVar 3) dNil))))))
abbrev all_sums_S1 : Env → ResS := (dFor (dIt true (dRev (dVar 0))) (gN 2)
  all_sums_L1)
abbrev all_sums_S2 : Env → ResS := (dRet (dRev (dVar 1)))
def all_sums_b : Env → ResS := (dSeq all_sums_S0
  (dSeq all_sums_S1
  all_sums_S2))
def all_sums : List T → Res T := dRun 5 all_sums_b
theorem all_sums_ok (b_dict : mg "dict" = none) (Fu : L2.Fun x.K nm qual (sts 18) f fd) : FnOk P w x.K mg base (L2.CX P w) 1 f fd ["sizes"] (spP x 1 all_sums) :=
  def_pure (N := ["sizes", "rows", "size", "found", "one"]) (b := all_sums_b) Fu ⟨rfl, rfl, rfl, by decide +kernel, rfl, by decide +kernel, by decide +kernel⟩ fun cdv A outer s H E hr =>
  (ss_cons (s_asg (i := 1) (p_lst (pa1 (p_disp (ppr_cons p_int p_bl ppr_nil)) pa0)) rfl rfl (Or.inl rfl) (Or.inr rfl))
  (ss_cons (s_for (src_it (p_rev (p_var 0))) (tg_name (i := 2) rfl (Or.inl rfl) (Or.inr rfl)) (sem_name 2) (fun i _ => rfl)
  (ss_cons (s_asg (i := 3) (p_callTy sem_dict rfl b_dict rfl (pa1 (p_ix (p_var 1) (p_neg p_int) (fun _ _ => rfl)) pa0)) rfl rfl (Or.inl rfl) (Or.inr rfl))
  (ss_cons (s_forK (p_ix (p_var 1) (p_neg p_int) (fun _ _ => rfl)) (tg_name (i := 4) rfl (Or.inl rfl) (Or.inr rfl)) (sem_name 4) (fun i _ => rfl)
  (ss_one (s_setI (path_v 3) (p_op sem_add (p_var 4) (p_var 2)) p_bl)))
  (ss_one (s_sh 3 (s_dropM (m_wr F.plainAttrs_list F.slot_list_append F.type_list_append sem_append (path_v 1) (pa1 (p_var 3) pa0))))))))
  (ss_one (s_ret (p_rev (p_var 1))))))
abbrev most_guests_S0 : Env → ResS := (dDrop (dCall check_wave (dCons (dVar 0) (dCons (dVar 1) dNil))))
abbrev most_guests_S1 : Env → ResS := (dAsgF 2 (dCall all_sums (dCons (dVar 0) dNil)))
abbrev most_guests_C0 : Env → Res T := (dCompG true (fun ρ => ((dIx (dVar 2) (dC (.int 0))) ρ).bind T.dkeys) (gN 7) (dTestB (dOp opLe (dVar 7) (dVar 1))) (dVar 7) [7])
abbrev most_guests_S2 : Env → ResS := (dAsgF 3 (dCa caMax (dCons most_guests_C0 dNil)))
abbrev most_guests_S3 : Env → ResS := (dAsg 4 (dLst dNil))
abbrev most_guests_L0 : Env → ResS := (dIfS (dAndT (dTestB (dOp opLe (dVar 6) (dVar 3))) (dTestB (dOp opIn (dOp opSub (dVar 3) (dVar 6)) (dIx (dVar 2) (dOp opAdd (dVar 5) (dC (.int 1)))))))
  (dSeq (dDropM (dWr "list" wrAppend (.v 4) (dCons (dVar 5) dNil)))
  (dAug (· - ·) 3 (dVar 6)))
  dNop)
abbrev most_guests_S4 : Env → ResS := (dFor (dEnum true (dVar 0)) (gT [(gN 5), (gN 6)])
  most_guests_L0)
abbrev most_guests_S5 : Env → ResS := (dRet (dCa caTuple (dCons (dVar 4) dNil)))
def most_guests_b : Env → ResS := (dSeq most_guests_S0
  (dSeq most_guests_S1
  (dSeq most_guests_S2
  (dSeq most_guests_S3
  (dSeq most_guests_S4
  most_guests_S5)))))
def most_guests : List T → Res T := dRun 8 most_guests_b
theorem most_guests_ok (b_enumerate : mg "enumerate" = none) (b_max : mg "max" = none) (b_tuple : mg "tuple" = none) (c_all_sums : Def x P w mg base "all_sums" 1 1 (spP x 1 all_sums)) (c_check_wave : Def x P w mg base "check_wave" 4 2 (spP x 2 check_wave)) (Fu : L2.Fun x.K nm qual (sts 19) f fd) : FnOk P w x.K mg base (L2.CX P w) 5 f fd ["sizes", "room"] (spP x 2 most_guests) :=
  def_pure (N := ["sizes", "room", "rows", "left", "found", "index", "size", "one"]) (b := most_guests_b) Fu ⟨rfl, rfl, rfl, by decide +kernel, rfl, by decide +kernel, by decide +kernel⟩ fun cdv A outer s H E hr =>
  (ss_cons (s_drop (p_callD c_check_wave rfl (hr.mono (by decide : 4 ≤ 4)) rfl (pa1 (p_var 0) (pa1 (p_var 1) pa0))))
  (ss_cons (s_asgF (i := 2) (p_callD c_all_sums rfl (hr.mono (by decide : 1 ≤ 4)) rfl (pa1 (p_var 0) pa0)) rfl rfl (Or.inl rfl) (Or.inr rfl))
  (ss_cons (s_asgF (i := 3) (p_callB sem_max rfl b_max rfl (pa1 (p_compG (own := [("one", 7)]) (srcG_keys (p_ix (p_var 2) p_int (fun _ _ => rfl))) (blkOk_by (by rfl)) (fun _ _ _ _ _ => tg_name (i := 7) rfl (Or.inl rfl) (Or.inr rfl)) (sem_name 7) (by decide) (fun _ _ _ _ _ => (pifs_one (pt_one sem_le (p_var 7) (p_var 1) rfl))) (fun _ _ _ _ _ => (p_var 7))) pa0)) rfl rfl (Or.inl rfl) (Or.inr rfl))
  (ss_cons (s_asg (i := 4) (p_lst pa0) rfl rfl (Or.inl rfl) (Or.inr rfl))
  (ss_cons (s_for (src_enum rfl b_enumerate (p_var 0)) (tg_tup (tgs_cons (tg_name (i := 5) rfl (Or.inl rfl) (Or.inr rfl)) (tgs_cons (tg_name (i := 6) rfl (Or.inl rfl) (Or.inr rfl)) tgs_nil))) (sem_tupT (sems_cons (sem_name 5) (sems_cons (sem_name 6) sems_nil)) rfl) (fun i _ => rfl)
  (ss_one (s_if (PWe.pt (pt_and (pt_one sem_le (p_var 6) (p_var 3) rfl) (pt_and1 (pt_one sem_in (p_op sem_sub (p_var 3) (p_var 6)) (p_ix (p_var 2) (p_op sem_add (p_var 5) p_int) (fun _ _ => rfl)) rfl))))
  (ss_cons (s_dropM (m_wr F.plainAttrs_list F.slot_list_append F.type_list_append sem_append (path_v 4) (pa1 (p_var 5) pa0)))
  (ss_one (s_aug (i := 3) ip_sub (p_var 6) rfl rfl (Or.inl rfl) (Or.inr rfl))))
  ss_nil)))
  (ss_one (s_ret (p_callTy sem_tuple rfl b_tuple rfl (pa1 (p_var 4) pa0)))))))))
abbrev _law_taken_S0 : Env → ResS := (dIfS (dTestB (dOp opGt (dIx (dVar 0) (dC (.int 3))) (dC (.int 0))))
  (dSeq (dAsgF 2 (dOp opMod (dCa caInt (dCons (dIx (dVar 0) (dC (.int 3))) dNil)) (dVar 1)))
  (dSeq (dSetI (.v 0) (dC (.int 3)) (dOp opDiv (dIx (dVar 0) (dC (.int 3))) (dVar 1)))
  (dRet (dVar 2))))
  dNop)
abbrev _law_taken_S1 : Env → ResS := (dSetI (.v 0) (dC (.int 1)) (dOp opAdd (dIx (dVar 0) (dC (.int 1))) (dC (.int 1))))
abbrev _law_taken_S2 : Env → ResS := (dIfS (dTestB (dOp opGt (dIx (dVar 0) (dC (.int 1))) (dCa caLen (dCons (dIx (dVar 0) (dC (.int 0))) dNil))))
  (dSeq (dSetI (.v 0) (dC (.int 2)) (dOp opMod (dCa caInt (dCons (dOp opAdd (dOp opMul (dIx (dVar 0) (dC (.int 2))) (dC (.int 48271))) (dC (.int 11))) dNil)) (dC (.int 2147483647))))
  (dRet (dOp opMod (dCa caInt (dCons (dOp opDiv (dIx (dVar 0) (dC (.int 2))) (dC (.int 7))) dNil)) (dVar 1))))
  dNop)
abbrev _law_taken_S3 : Env → ResS := (dAsgF 3 (dIx (dIx (dVar 0) (dC (.int 0))) (dOp opSub (dIx (dVar 0) (dC (.int 1))) (dC (.int 1)))))
abbrev _law_taken_S4 : Env → ResS := (dSetI (.v 0) (dC (.int 2)) (dOp opMod (dCa caInt (dCons (dOp opAdd (dOp opAdd (dOp opMul (dIx (dVar 0) (dC (.int 2))) (dC (.int 48271))) (dVar 3)) (dC (.int 11))) dNil)) (dC (.int 2147483647))))
abbrev _law_taken_S5 : Env → ResS := (dIfS (dTestB (dOp opGe (dVar 3) (dOp opPow (dC (.int 10)) (dC (.int 18)))))
  (dSetI (.v 0) (dC (.int 3)) (dOp opDiv (dVar 3) (dVar 1)))
  dNop)
abbrev _law_taken_S6 : Env → ResS := (dRet (dOp opMod (dCa caInt (dCons (dVar 3) dNil)) (dVar 1)))
def _law_taken_b : Env → ResS := (dSeq _law_taken_S0
  (dSeq _law_taken_S1
  (dSeq _law_taken_S2
  (dSeq _law_taken_S3
  (dSeq _law_taken_S4
  (dSeq _law_taken_S5
  _law_taken_S6))))))
def _law_taken : List T → ResM T := dRunM 2 4 (biOf [true, false]) _law_taken_b
theorem _law_taken_ok (b_int : mg "int" = none) (b_len : mg "len" = none) (Fu : L2.Fun x.K nm qual (sts 21) f fd) : FnOk P w x.K mg base (L2.CX P w) 1 f fd ["row", "many"] (spM x 2 (biOf [true, false]) _law_taken) :=
  def_mut (bi := biOf [true, false]) (N := ["row", "many", "found", "cell"]) (b := _law_taken_b) Fu ⟨rfl, rfl, rfl, by decide +kernel, rfl, by decide +kernel, by decide +kernel⟩ (by decide) fun cdv A outer s H E hr =>
  (ss_cons (s_if (pt_one sem_gt (p_ix (p_var 0) p_int (fun _ _ => rfl)) p_int rfl)
  (ss_cons (s_asgF (i := 2) (p_op sem_mod (p_callTy sem_int rfl b_int rfl (pa1 (p_ix (p_var 0) p_int (fun _ _ => rfl)) pa0)) (p_var 1)) rfl rfl (Or.inl rfl) (Or.inr rfl))
  (ss_cons (s_setI (path_v 0) p_int (p_op sem_div (p_ix (p_var 0) p_int (fun _ _ => rfl)) (p_var 1)))
  (ss_one (s_ret (p_var 2)))))
  ss_nil)
  (ss_cons (s_setI (path_v 0) p_int (p_op sem_add (p_ix (p_var 0) p_int (fun _ _ => rfl)) p_int))
  (ss_cons (s_if (pt_one sem_gt (p_ix (p_var 0) p_int (fun _ _ => rfl)) (p_callB sem_len rfl b_len rfl (pa1 (p_ix (p_var 0) p_int (fun _ _ => rfl)) pa0)) rfl)
  (ss_cons (s_setI (path_v 0) p_int (p_op sem_mod (p_callTy sem_int rfl b_int rfl (pa1 (p_op sem_add (p_op sem_mul (p_ix (p_var 0) p_int (fun _ _ => rfl)) p_int) p_int) pa0)) p_int))
  (ss_one (s_ret (p_op sem_mod (p_callTy sem_int rfl b_int rfl (pa1 (p_op sem_div (p_ix (p_var 0) p_int (fun _ _ => rfl)) p_int) pa0)) (p_var 1)))))
  ss_nil)
  (ss_cons (s_asgF (i := 3) (p_ix (p_ix (p_var 0) p_int (fun _ _ => rfl)) (p_op sem_sub (p_ix (p_var 0) p_int (fun _ _ => rfl)) p_int) (fun _ _ => rfl)) rfl rfl (Or.inl rfl) (Or.inr rfl))
  (ss_cons (s_setI (path_v 0) p_int (p_op sem_mod (p_callTy sem_int rfl b_int rfl (pa1 (p_op sem_add (p_op sem_add (p_op sem_mul (p_ix (p_var 0) p_int (fun _ _ => rfl)) p_int) (p_var 3)) p_int) pa0)) p_int))
  (ss_cons (s_if (pt_one sem_ge (p_var 3) (p_op sem_pow p_int p_int) rfl)
  (ss_one (s_setI (path_v 0) p_int (p_op sem_div (p_var 3) (p_var 1))))
  ss_nil)
  (ss_one (s_ret (p_op sem_mod (p_callTy sem_int rfl b_int rfl (pa1 (p_var 3) pa0)) (p_var 1))))))))))
abbrev _law_pick_S0 : Env → ResS := (dRetM (dOpM opIx (dUp (dVar 1)) (dCallM _law_taken [some 0, none] (dBor 0 (dConsM (dUp (dCa caLen (dCons (dVar 1) dNil))) dNilM)))))
def _law_pick_b : Env → ResS := _law_pick_S0
def _law_pick : List T → ResM T := dRunM 2 2 (biOf [true, false]) _law_pick_b
theorem _law_pick_ok (b_len : mg "len" = none) (c__law_taken : Def x P w mg base "_law_taken" 1 2 (spM x 2 (biOf [true, false]) _law_taken)) (Fu : L2.Fun x.K nm qual (sts 22) f fd) : FnOk P w x.K mg base (L2.CX P w) 2 f fd ["row", "some"] (spM x 2 (biOf [true, false]) _law_pick) :=
  def_mut (bi := biOf [true, false]) (N := ["row", "some"]) (b := _law_pick_b) Fu ⟨rfl, rfl, rfl, by decide +kernel, rfl, by decide +kernel, by decide +kernel⟩ (by decide) fun cdv A outer s H E hr =>
  (ss_one (s_retM (m_ix (m_up (p_var 1)) (m_callD c__law_taken rfl rfl (inj_one rfl) (hr.mono (by decide : 1 ≤ 1)) rfl (ma_bor 0 (ma1 (m_up (p_callB sem_len rfl b_len rfl (pa1 (p_var 1) pa0))) ma0))) (fun _ _ => rfl))))
abbrev _law_alike_C0 (rec : List T → Res T) : Env → Res T := (dComp (dRng1 (dCa caLen (dCons (dVar 1) dNil))) (gN 2) (dNotT (dTest (dCall rec (dCons (dIx (dVar 0) (dVar 2)) (dCons (dIx (dVar 1) (dVar 2)) dNil))))) (dVar 2) [2])
abbrev _law_alike_S0 (rec : List T → Res T) : Env → ResS := (dIfS (dTest (dIsi ["tuple", "list"] (dVar 1)))
  (dSeq (dIfS (dOrT (dNotT (dTest (dIsi ["tuple", "list"] (dVar 0)))) (dTestB (dOp opNe (dIsi ["list"] (dVar 0)) (dIsi ["list"] (dVar 1)))))
  (dRet (dC (.bl false)))
  dNop)
  (dSeq (dIfS (dTestB (dOp opNe (dCa caLen (dCons (dVar 0) dNil)) (dCa caLen (dCons (dVar 1) dNil))))
  (dRet (dC (.bl false)))
  dNop)
  (dRet (dOp opEq (_law_alike_C0 rec) (dLst dNil)))))
  dNop)
abbrev _law_alike_C1 (rec : List T → Res T) : Env → Res T := (dComp (dIt false (dVar 1)) (gN 3) (dNotT (dTest (dCall rec (dCons (dIx (dVar 0) (dVar 3)) (dCons (dIx (dVar 1) (dVar 3)) dNil))))) (dVar 3) [3])
abbrev _law_alike_S1 (rec : List T → Res T) : Env → ResS := (dIfS (dTest (dIsi ["dict"] (dVar 1)))
  (dSeq (dIfS (dOrT (dNotT (dTest (dIsi ["dict"] (dVar 0)))) (dTestB (dOp opNe (dCa caList (dCons (dVar 0) dNil)) (dCa caList (dCons (dVar 1) dNil)))))
  (dRet (dC (.bl false)))
  dNop)
  (dRet (dOp opEq (_law_alike_C1 rec) (dLst dNil))))
  dNop)
abbrev _law_alike_S2 (rec : List T → Res T) : Env → ResS := (dIfS (dOrT (dTestB (dOp opIs (dVar 1) (dC .non))) (dTest (dIsi ["str"] (dVar 1))))
  (dRet (dAnd (dOp opEq (dVar 0) (dVar 1)) (dOp opEq (dIsi ["str"] (dVar 0)) (dIsi ["str"] (dVar 1)))))
  dNop)
abbrev _law_alike_S3 (rec : List T → Res T) : Env → ResS := (dRet (dAnd (dIsi ["int"] (dVar 0)) (dAnd (dOp opEq (dIsi ["bool"] (dVar 0)) (dIsi ["bool"] (dVar 1))) (dOp opEq (dVar 0) (dVar 1)))))
def _law_alike_b (rec : List T → Res T) : Env → ResS := (dSeq (_law_alike_S0 rec)
  (dSeq (_law_alike_S1 rec)
  (dSeq (_law_alike_S2 rec)
  (_law_alike_S3 rec))))
def _law_alike : Nat → List T → Res T
  | 0 => fun _ => .stuck
  | n + 1 => dRun 4 (_law_alike_b (_law_alike n))
theorem _law_alike_ok (b_bool : mg "bool" = none) (b_dict : mg "dict" = none) (b_int : mg "int" = none) (b_isinstance : mg "isinstance" = none) (b_len : mg "len" = none) (b_list : mg "list" = none) (b_range : mg "range" = none) (b_str : mg "str" = none) (b_tuple : mg "tuple" = none) (Fu : L2.Fun x.K nm qual (sts 23) f fd) (hm : mg "_law_alike" = some (.ref f)) (hk : PySem.W.keepIn x.K (.ref f) = true) (hb : Binds x.K fd ["found", "due"] []) : ∀ n, FnOk P w x.K mg base (L2.CX P w) (1 + n) f fd ["found", "due"] (spP x 2 (_law_alike n))
  | 0 => def_stuck (N := ["found", "due", "k", "key"]) Fu ⟨rfl, rfl, rfl, by decide +kernel, rfl, by decide +kernel, by decide +kernel⟩
  | n + 1 => have c_self : Def x P w mg base "_law_alike" (1 + n) 2 (spP x 2 (_law_alike n)) := ⟨f, fd, ["found", "due"], _law_alike_ok b_bool b_dict b_int b_isinstance b_len b_list b_range b_str b_tuple Fu hm hk hb n, hm, hk, hb⟩
    def_pure (N := ["found", "due", "k", "key"]) (b := _law_alike_b (_law_alike n)) Fu ⟨rfl, rfl, rfl, by decide +kernel, rfl, by decide +kernel, by decide +kernel⟩ fun cdv A outer s H E hr =>
  (ss_cons (s_if (pt_of (p_isi2 (p_var 1) (by decide) (by decide) rfl rfl b_isinstance b_tuple b_list))
  (ss_cons (s_if (PWe.pt (pt_or (pt_no (pt_of (p_isi2 (p_var 0) (by decide) (by decide) rfl rfl b_isinstance b_tuple b_list))) (pt_or1 (pt_one sem_ne (p_isi1 (p_var 0) (by decide) rfl b_isinstance b_list) (p_isi1 (p_var 1) (by decide) rfl b_isinstance b_list) rfl))))
  (ss_one (s_ret p_bl))
  ss_nil)
  (ss_cons (s_if (pt_one sem_ne (p_callB sem_len rfl b_len rfl (pa1 (p_var 0) pa0)) (p_callB sem_len rfl b_len rfl (pa1 (p_var 1) pa0)) rfl)
  (ss_one (s_ret p_bl))
  ss_nil)
  (ss_one (s_ret (p_cmp sem_eq (p_comp (own := [("k", 2)]) (src_rng1 rfl b_range (p_callB sem_len rfl b_len rfl (pa1 (p_var 1) pa0))) (blkOk_by (by rfl)) (fun _ _ _ _ _ => tg_name (i := 2) rfl (Or.inl rfl) (Or.inr rfl)) (sem_name 2) (by decide) (fun _ _ _ _ _ => (pifs_one (pt_no (pt_of (p_callD c_self rfl hr rfl (pa1 (p_ix (p_var 0) (p_var 2) (fun _ _ => rfl)) (pa1 (p_ix (p_var 1) (p_var 2) (fun _ _ => rfl)) pa0))))))) (fun _ _ _ _ _ => (p_var 2))) (p_lst pa0) rfl)))))
  ss_nil)
  (ss_cons (s_if (pt_of (p_isi1 (p_var 1) (by decide) rfl b_isinstance b_dict))
  (ss_cons (s_if (PWe.pt (pt_or (pt_no (pt_of (p_isi1 (p_var 0) (by decide) rfl b_isinstance b_dict))) (pt_or1 (pt_one sem_ne (p_callTy sem_list rfl b_list rfl (pa1 (p_var 0) pa0)) (p_callTy sem_list rfl b_list rfl (pa1 (p_var 1) pa0)) rfl))))
  (ss_one (s_ret p_bl))
  ss_nil)
  (ss_one (s_ret (p_cmp sem_eq (p_comp (own := [("key", 3)]) (src_it (p_var 1)) (blkOk_by (by rfl)) (fun _ _ _ _ _ => tg_name (i := 3) rfl (Or.inl rfl) (Or.inr rfl)) (sem_name 3) (by decide) (fun _ _ _ _ _ => (pifs_one (pt_no (pt_of (p_callD c_self rfl hr rfl (pa1 (p_ix (p_var 0) (p_var 3) (fun _ _ => rfl)) (pa1 (p_ix (p_var 1) (p_var 3) (fun _ _ => rfl)) pa0))))))) (fun _ _ _ _ _ => (p_var 3))) (p_lst pa0) rfl))))
  ss_nil)
  (ss_cons (s_if (PWe.pt (pt_or (pt_one sem_is (p_var 1) p_non rfl) (pt_or1 (pt_of (p_isi1 (p_var 1) (by decide) rfl b_isinstance b_str)))))
  (ss_one (s_ret (p_and (p_cmp sem_eq (p_var 0) (p_var 1) rfl) (p_bool1 (p_cmp sem_eq (p_isi1 (p_var 0) (by decide) rfl b_isinstance b_str) (p_isi1 (p_var 1) (by decide) rfl b_isinstance b_str) rfl)))))
  ss_nil)
  (ss_one (s_ret (p_and (p_isi1 (p_var 0) (by decide) rfl b_isinstance b_int) (p_and (p_cmp sem_eq (p_isi1 (p_var 0) (by decide) rfl b_isinstance b_bool) (p_isi1 (p_var 1) (by decide) rfl b_isinstance b_bool) rfl) (p_bool1 (p_cmp sem_eq (p_var 0) (p_var 1) rfl)))))))))
abbrev _law_unlike_S0 : Env → ResS := (dAsg 1 (dLst dNil))
abbrev _law_unlike_L0 : Env → ResS := (dIfS (dOrT (dTestB (dOp opEq (dVar 1) (dLst dNil))) (dTestB (dOp opNe (dIx (dVar 1) (dNeg (dC (.int 1)))) (dVar 2))))
  (dDropM (dWr "list" wrAppend (.v 1) (dCons (dVar 2) dNil)))
  dNop)
abbrev _law_unlike_S1 : Env → ResS := (dFor (dIt true (dCa caSorted (dCons (dCa caList (dCons (dVar 0) dNil)) dNil))) (gN 2)
  _law_unlike_L0)
abbrev _law_unlike_S2 : Env → ResS := (dRetV 1)
def _law_unlike_b : Env → ResS := (dSeq _law_unlike_S0
  (dSeq _law_unlike_S1
  _law_unlike_S2))
def _law_unlike : List T → Res T := dRun 3 _law_unlike_b
theorem _law_unlike_ok (b_list : mg "list" = none) (b_sorted : mg "sorted" = none) (Fu : L2.Fun x.K nm qual (sts 24) f fd) : FnOk P w x.K mg base (L2.CX P w) 1 f fd ["things"] (spP x 1 _law_unlike) :=
  def_pure (N := ["things", "found", "one"]) (b := _law_unlike_b) Fu ⟨rfl, rfl, rfl, by decide +kernel, rfl, by decide +kernel, by decide +kernel⟩ fun cdv A outer s H E hr =>
  (ss_cons (s_asg (i := 1) (p_lst pa0) rfl rfl (Or.inl rfl) (Or.inr rfl))
  (ss_cons (s_for (src_it (p_callB sem_sorted rfl b_sorted rfl (pa1 (p_callTy sem_list rfl b_list rfl (pa1 (p_var 0) pa0)) pa0))) (tg_name (i := 2) rfl (Or.inl rfl) (Or.inr rfl)) (sem_name 2) (fun i _ => rfl)
  (ss_one (s_if (PWe.pt (pt_or (pt_one sem_eq (p_var 1) (p_lst pa0) rfl) (pt_or1 (pt_one sem_ne (p_ix (p_var 1) (p_neg p_int) (fun _ _ => rfl)) (p_var 2) rfl))))
  (ss_one (s_dropM (m_wr F.plainAttrs_list F.slot_list_append F.type_list_append sem_append (path_v 1) (pa1 (p_var 2) pa0))))
  ss_nil)))
  (ss_one (s_retV 1 rfl))))
abbrev _law_parts_S0 : Env → ResS := (dAsgF 1 (dLst (dCons (dTup dNil) dNil)))
abbrev _law_parts_C0 : Env → Res T := (dComp (dIt false (dVar 1)) (gN 3) dYes (dOp opAdd (dVar 3) (dTup (dCons (dVar 2) dNil))) [3])
abbrev _law_parts_L0 : Env → ResS := (dAsgF 1 (dOp opAdd (dVar 1) _law_parts_C0))
abbrev _law_parts_S1 : Env → ResS := (dFor (dRng1 (dVar 0)) (gN 2)
  _law_parts_L0)
abbrev _law_parts_C1 : Env → Res T := (dComp (dIt false (dVar 1)) (gN 3) dYes (dTup (dCons (dCa caLen (dCons (dVar 3) dNil)) (dCons (dVar 3) dNil))) [3])
abbrev _law_parts_C2 : Env → Res T := (dComp (dIt false (dVar 1)) (gN 3) dYes (dTup (dCons (dCa caLen (dCons (dVar 3) dNil)) (dCons (dVar 3) dNil))) [3])
abbrev _law_parts_C3 : Env → Res T := (dComp (dIt false (dCa caSorted (dCons _law_parts_C2 dNil))) (gT [(gN 4), (gN 3)]) dYes (dVar 3) [4, 3])
abbrev _law_parts_S2 : Env → ResS := (dRet _law_parts_C3)
def _law_parts_b : Env → ResS := (dSeq _law_parts_S0
  (dSeq _law_parts_S1
  _law_parts_S2))
def _law_parts : List T → Res T := dRun 5 _law_parts_b
theorem _law_parts_ok (b_len : mg "len" = none) (b_range : mg "range" = none) (b_sorted : mg "sorted" = none) (Fu : L2.Fun x.K nm qual (sts 25) f fd) : FnOk P w x.K mg base (L2.CX P w) 1 f fd ["many"] (spP x 1 _law_parts) :=
  def_pure (N := ["many", "found", "k", "one", "size"]) (b := _law_parts_b) Fu ⟨rfl, rfl, rfl, by decide +kernel, rfl, by decide +kernel, by decide +kernel⟩ fun cdv A outer s H E hr =>
  (ss_cons (s_asgF (i := 1) (p_lst (pa1 (p_tup pa0) pa0)) rfl rfl (Or.inl rfl) (Or.inr rfl))
  (ss_cons (s_for (src_rng1 rfl b_range (p_var 0)) (tg_name (i := 2) rfl (by first | exact Or.inl rfl | exact Or.inr rfl | exact Or.inr (Or.inl rfl)) (by first | exact Or.inr rfl | exact Or.inl rfl | (left; decide +kernel))) (sem_name 2) (fun i _ => rfl)
  (ss_one (s_asgF (i := 1) (p_op sem_add (p_var 1) (p_comp (own := [("one", 3)]) (src_it (p_var 1)) (blkOk_by (by rfl)) (fun _ _ _ _ _ => tg_name (i := 3) rfl (Or.inl rfl) (Or.inr rfl)) (sem_name 3) (by decide) (fun _ _ _ _ _ => pifs_nil) (fun _ _ _ _ _ => (p_op sem_add (p_var 3) (p_tup (pa1 (p_var 2) pa0)))))) rfl rfl (Or.inl rfl) (Or.inr rfl))))
  (ss_one (s_ret (p_comp (own := [("size", 4), ("one", 3)]) (src_it (p_callB sem_sorted rfl b_sorted rfl (pa1 (p_comp (own := [("one", 3)]) (src_it (p_var 1)) (blkOk_by (by rfl)) (fun _ _ _ _ _ => tg_name (i := 3) rfl (Or.inl rfl) (Or.inr rfl)) (sem_name 3) (by decide) (fun _ _ _ _ _ => pifs_nil) (fun _ _ _ _ _ => (p_tup (pa1 (p_callB sem_len rfl b_len rfl (pa1 (p_var 3) pa0)) (pa1 (p_var 3) pa0))))) pa0))) (blkOk_by (by rfl)) (fun _ _ _ _ _ => tg_tup (tgs_cons (tg_name (i := 4) rfl (Or.inl rfl) (Or.inr rfl)) (tgs_cons (tg_name (i := 3) rfl (Or.inl rfl) (Or.inr rfl)) tgs_nil))) (sem_tupT (sems_cons (sem_name 4) (sems_cons (sem_name 3) sems_nil)) rfl) (by decide) (fun _ _ _ _ _ => pifs_nil) (fun _ _ _ _ _ => (p_var 3)))))))
abbrev _law_reach_S0 : Env → ResS := (dAsg 2 (dDisp [((dC (.int 0)), (dC (.bl true)))]))
abbrev _law_reach_L0 : Env → ResS := (dIfS (dTestB (dOp opLe (dOp opAdd (dVar 4) (dVar 3)) (dVar 1)))
  (dSetI (.v 2) (dOp opAdd (dVar 4) (dVar 3)) (dC (.bl true)))
  dNop)
abbrev _law_reach_L1 : Env → ResS := (dFor (dIt true (dCa caList (dCons (dVar 2) dNil))) (gN 4)
  _law_reach_L0)
abbrev _law_reach_S1 : Env → ResS := (dFor (dIt true (dVar 0)) (gN 3)
  _law_reach_L1)
abbrev _law_reach_S2 : Env → ResS := (dRet (dCa caMax (dCons (dCa caList (dCons (dVar 2) dNil)) dNil)))
def _law_reach_b : Env → ResS := (dSeq _law_reach_S0
  (dSeq _law_reach_S1
  _law_reach_S2))
def _law_reach : List T → Res T := dRun 5 _law_reach_b
theorem _law_reach_ok (b_list : mg "list" = none) (b_max : mg "max" = none) (Fu : L2.Fun x.K nm qual (sts 26) f fd) : FnOk P w x.K mg base (L2.CX P w) 1 f fd ["sizes", "room"] (spP x 2 _law_reach) :=
  def_pure (N := ["sizes", "room", "seen", "size", "one"]) (b := _law_reach_b) Fu ⟨rfl, rfl, rfl, by decide +kernel, rfl, by decide +kernel, by decide +kernel⟩ fun cdv A outer s H E hr =>
  (ss_cons (s_asg (i := 2) (p_disp (ppr_cons p_int p_bl ppr_nil)) rfl rfl (Or.inl rfl) (Or.inr rfl))
  (ss_cons (s_for (src_it (p_var 0)) (tg_name (i := 3) rfl (Or.inl rfl) (Or.inr rfl)) (sem_name 3) (fun i _ => rfl)
  (ss_one (s_for (src_it (p_callTy sem_list rfl b_list rfl (pa1 (p_var 2) pa0))) (tg_name (i := 4) rfl (Or.inl rfl) (Or.inr rfl)) (sem_name 4) (fun i _ => rfl)
  (ss_one (s_if (pt_one sem_le (p_op sem_add (p_var 4) (p_var 3)) (p_var 1) rfl)
  (ss_one (s_setI (path_v 2) (p_op sem_add (p_var 4) (p_var 3)) p_bl))
  ss_nil)))))
  (ss_one (s_ret (p_callB sem_max rfl b_max rfl (pa1 (p_callTy sem_list rfl b_list rfl (pa1 (p_var 2) pa0)) pa0))))))
-- NOT DONE _law_refused: try:
abbrev law_S0 : Env → ResS := (dAsg 1 (dLst (dCons (dVar 0) (dCons (dC (.int 0)) (dCons (dC (.int 120)) (dCons (dC (.int 0)) dNil))))))
abbrev law_S1 : Env → ResS := (dAsgFM 2 (dIfM (dTestBM (dOpM opEq (dCallM _law_taken [some 1, none] (dBor 1 (dConsM (dUp (dC (.int 5))) dNilM))) (dUp (dC (.int 0))))) (dUp (dC (.int 30))) (dUp (dC (.int 9)))))
abbrev law_C0 : Env → ResM T := (dCompM (dRngM (dConsM (dCallM _law_taken [some 1, none] (dBor 1 (dConsM (dUp (dOp opAdd (dVar 2) (dC (.int 1)))) dNilM))) dNilM)) (gN 17) dYesM (dOpM opAdd (dUp (dC (.int 1))) (dCallM _law_taken [some 1, none] (dBor 1 (dConsM (dCallM _law_pick [some 1, none] (dBor 1 (dConsM (dUp (dLst (dCons (dC (.int 4)) (dCons (dC (.int 20)) dNil)))) dNilM))) dNilM)))) [17])
abbrev law_S2 : Env → ResS := (dAsgFM 3 law_C0)
abbrev law_S3 : Env → ResS := (dAsgFM 4 (dCallM _law_taken [some 1, none] (dBor 1 (dConsM (dCallM _law_pick [some 1, none] (dBor 1 (dConsM (dUp (dLst (dCons (dC (.int 10)) (dCons (dC (.int 40)) (dCons (dC (.int 200)) dNil))))) dNilM))) dNilM))))
abbrev law_S4 : Env → ResS := (dPar 5 6 (dCons (dVar 4) (dCons (dC (.int 0)) dNil)))
abbrev law_L0 : Env → ResS := (dSeq (dAsgF 5 (dOp opSub (dVar 5) (dIx (dVar 3) (dVar 7))))
  (dAsgF 6 (dIf (dAndT (dTestB (dOp opGe (dVar 5) (dC (.int 0)))) (dTestB (dOp opEq (dVar 6) (dVar 7)))) (dOp opAdd (dVar 7) (dC (.int 1))) (dVar 6))))
abbrev law_S5 : Env → ResS := (dFor (dRng1 (dCa caLen (dCons (dVar 3) dNil))) (gN 7)
  law_L0)
abbrev law_S6 : Env → ResS := (dIfS (dNotT (dTest (dCall (_law_alike 3) (dCons (dCall next_wave (dCons (dCa caTuple (dCons (dVar 3) dNil)) (dCons (dVar 4) dNil))) (dCons (dVar 6) dNil)))))
  (dRet (dC (.bl false)))
  dNop)
abbrev law_S7 : Env → ResS := (dPar 8 9 (dCons (dCall most_houses (dCons (dVar 3) (dCons (dVar 4) dNil))) (dCons (dCall most_guests (dCons (dCa caTuple (dCons (dVar 3) dNil)) (dCons (dVar 4) dNil))) dNil)))
abbrev law_C1 : Env → Res T := (dComp (dIt false (dVar 10)) (gN 7) (dNotT (dTestB (dChain opLe opLt (dC (.int 0)) (dVar 7) (dCa caLen (dCons (dVar 3) dNil))))) (dVar 7) [7])
abbrev law_C2 : Env → Res T := (dComp (dIt false (dVar 10)) (gN 7) dYes (dIx (dVar 3) (dVar 7)) [7])
abbrev law_L1 : Env → ResS := (dSeq (dIfS (dOrT (dNotT (dTest (dIsi ["tuple"] (dVar 10)))) (dOrT (dTestB (dOp opNe (dCa caList (dCons (dVar 10) dNil)) (dCall _law_unlike (dCons (dVar 10) dNil)))) (dTestB (dOp opNe law_C1 (dLst dNil)))))
  (dRet (dC (.bl false)))
  dNop)
  (dIfS (dTestB (dOp opGt (dCa caSum (dCons law_C2 dNil)) (dVar 4)))
  (dRet (dC (.bl false)))
  dNop))
abbrev law_S8 : Env → ResS := (dFor (dIt true (dLst (dCons (dVar 8) (dCons (dVar 9) dNil)))) (gN 10)
  law_L1)
abbrev law_C3 : Env → Res T := (dComp (dRng1 (dCa caLen (dCons (dVar 3) dNil))) (gN 7) (dTestB (dOp opLe (dCa caSum (dCons (dSl (dCa caSorted (dCons (dVar 3) dNil)) dNoPart (dPart (dOp opAdd (dVar 7) (dC (.int 1))))) dNil)) (dVar 4))) (dVar 7) [7])
abbrev law_S9 : Env → ResS := (dAsgF 11 (dCa caLen (dCons law_C3 dNil)))
abbrev law_C4 : Env → Res T := (dComp (dIt false (dVar 9)) (gN 7) dYes (dIx (dVar 3) (dVar 7)) [7])
abbrev law_S10 : Env → ResS := (dIfS (dOrT (dTestB (dOp opNe (dCa caLen (dCons (dVar 8) dNil)) (dVar 11))) (dTestB (dOp opNe (dCa caSum (dCons law_C4 dNil)) (dCall _law_reach (dCons (dVar 3) (dCons (dVar 4) dNil))))))
  (dRet (dC (.bl false)))
  dNop)
abbrev law_C5 : Env → Res T := (dComp (dIt false (dVar 18)) (gN 7) dYes (dIx (dVar 3) (dVar 7)) [7])
abbrev law_C6 : Env → Res T := (dComp (dIt false (dVar 18)) (gN 7) dYes (dIx (dVar 3) (dVar 7)) [7])
abbrev law_C7 : Env → Res T := (dComp (dIt false (dCall _law_parts (dCons (dCa caLen (dCons (dVar 3) dNil)) dNil))) (gN 18) (dTestB (dOp opLe (dCa caSum (dCons law_C6 dNil)) (dVar 4))) (dVar 18) [18])
abbrev law_C8 : Env → Res T := (dComp (dIt false (dVar 18)) (gN 7) dYes (dIx (dVar 3) (dVar 7)) [7])
abbrev law_C9 : Env → Res T := (dComp (dIt false (dVar 18)) (gN 7) dYes (dIx (dVar 3) (dVar 7)) [7])
abbrev law_C10 : Env → Res T := (dComp (dIt false (dVar 12)) (gN 18) dYes (dCa caSum (dCons law_C9 dNil)) [18])
abbrev law_C11 : Env → Res T := (dComp (dIt false (dVar 12)) (gN 18) (dTestB (dOp opEq (dCa caLen (dCons (dVar 18) dNil)) (dVar 11))) (dVar 18) [18])
abbrev law_C12 : Env → Res T := (dComp (dIt false (dVar 18)) (gN 7) dYes (dIx (dVar 3) (dVar 7)) [7])
abbrev law_C13 : Env → Res T := (dComp (dIt false (dVar 18)) (gN 7) dYes (dIx (dVar 3) (dVar 7)) [7])
abbrev law_C14 : Env → Res T := (dComp (dIt false (dVar 12)) (gN 18) (dTestB (dOp opEq (dCa caSum (dCons law_C13 dNil)) (dVar 13))) (dVar 18) [18])
abbrev law_S11 : Env → ResS := (dIfS (dTestB (dOp opLt (dCa caLen (dCons (dVar 3) dNil)) (dC (.int 10))))
  (dSeq (dAsgF 12 law_C7)
  (dSeq (dAsgF 13 (dCa caMax (dCons law_C10 dNil)))
  (dSeq (dIfS (dTestB (dOp opNe (dVar 8) (dCa caMinT (dCons law_C11 dNil))))
  (dRet (dC (.bl false)))
  dNop)
  (dIfS (dTestB (dOp opNe (dVar 9) (dCa caMinT (dCons law_C14 dNil))))
  (dRet (dC (.bl false)))
  dNop))))
  dNop)
abbrev law_S12 : Env → ResS := (dAsgTM (gT [(gN 14), (gN 15)]) (dM1 (gS gTup) (dConsM (dOpM opAdd (dUp (dSl (dVar 3) dNoPart (dPart (dC (.int 29))))) (dM1 (gS gLst) (dConsM (dCallM _law_pick [some 1, none] (dBor 1 (dConsM (dUp (dLst (dCons (dC (.int 0)) (dCons (dC (.int 21)) (dCons (dC .non) (dCons (dC (.bl true)) dNil)))))) dNilM))) dNilM))) (dConsM (dCallM _law_pick [some 1, none] (dBor 1 (dConsM (dUp (dLst (dCons (dNeg (dC (.int 1))) (dCons (dC (.int 601)) (dCons (dC .non) (dCons (dC (.bl true)) dNil)))))) dNilM))) dNilM))))
abbrev law_L2 : Env → ResS := (dSeq (dIfSM (dTestBM (dOpM opNe (dRefs [(2, ("number" : Str)), (1, ("sizes" : Str))] (dCallV 16 [(0, next_wave), (1, most_houses), (2, most_guests)] (dConsM (dUp (dVar 14)) (dConsM (dUp (dVar 15)) dNilM)))) (dUp (dTup (dCons (dC (.str ("sizes" : Str))) (dCons (dOp opSub (dCa caLen (dCons (dVar 14) dNil)) (dC (.int 1))) dNil))))))
  (dRet (dC (.bl false)))
  dNop)
  (dSeq (dIfSM (dTestBM (dOpM opNe (dRefs [(2, ("number" : Str)), (1, ("sizes" : Str))] (dCallV 16 [(0, next_wave), (1, most_houses), (2, most_guests)] (dConsM (dCallM _law_pick [some 1, none] (dBor 1 (dConsM (dUp (dLst (dCons (dC .non) (dCons (dOp opMul (dLst (dCons (dC (.int 1)) dNil)) (dC (.int 31))) (dCons (dC (.int 5)) dNil))))) dNilM))) (dConsM (dUp (dVar 15)) dNilM)))) (dUp (dTup (dCons (dC (.str ("sizes" : Str))) (dCons (dNeg (dC (.int 1))) dNil))))))
  (dRet (dC (.bl false)))
  dNop)
  (dIfSM (dTestBM (dOpM opNe (dM1 caRepr (dConsM (dRefs [(2, ("number" : Str)), (1, ("sizes" : Str))] (dCallV 16 [(0, next_wave), (1, most_houses), (2, most_guests)] (dConsM (dUp (dVar 3)) (dConsM (dUp (dVar 15)) dNilM)))) dNilM)) (dUp (dCa caRepr (dCons (dTup (dCons (dC (.str ("number" : Str))) (dCons (dVar 15) dNil))) dNil)))))
  (dRet (dC (.bl false)))
  dNop)))
abbrev law_S13 : Env → ResS := (dFor (dIt true (dLst (dCons (dC (.fn 0)) (dCons (dC (.fn 1)) (dCons (dC (.fn 2)) dNil))))) (gN 16)
  law_L2)
abbrev law_S14 : Env → ResS := (dRet (dC (.bl true)))
def law_b : Env → ResS := (dSeq law_S0
  (dSeq law_S1
  (dSeq law_S2
  (dSeq law_S3
  (dSeq law_S4
  (dSeq law_S5
  (dSeq law_S6
  (dSeq law_S7
  (dSeq law_S8
  (dSeq law_S9
  (dSeq law_S10
  (dSeq law_S11
  (dSeq law_S12
  (dSeq law_S13
  law_S14))))))))))))))
def law : List T → Res T := dRun 19 law_b
theorem law_ok {cA pA : Addr} (b_isinstance : mg "isinstance" = none) (b_len : mg "len" = none) (b_list : mg "list" = none) (b_max : mg "max" = none) (b_min : mg "min" = none) (b_range : mg "range" = none) (b_repr : mg "repr" = none) (b_sorted : mg "sorted" = none) (b_sum : mg "sum" = none) (b_tuple : mg "tuple" = none) (c__law_alike : Def x P w mg base "_law_alike" 4 2 (spP x 2 (_law_alike 3))) (c__law_parts : Def x P w mg base "_law_parts" 1 1 (spP x 1 _law_parts)) (c__law_pick : Def x P w mg base "_law_pick" 2 2 (spM x 2 (biOf [true, false]) _law_pick)) (c__law_reach : Def x P w mg base "_law_reach" 1 2 (spP x 2 _law_reach)) (c__law_taken : Def x P w mg base "_law_taken" 1 2 (spM x 2 (biOf [true, false]) _law_taken)) (c__law_unlike : Def x P w mg base "_law_unlike" 1 1 (spP x 1 _law_unlike)) (c_most_guests : Def x P w mg base "most_guests" 5 2 (spP x 2 most_guests)) (c_most_houses : Def x P w mg base "most_houses" 7 2 (spP x 2 most_houses)) (c_next_wave : Def x P w mg base "next_wave" 5 2 (spP x 2 next_wave)) (r__law_refused : Refds x P w mg base "_law_refused" [(2, ("number" : Str)), (1, ("sizes" : Str))] cA pA) (v_most_guests : mg "most_guests" = some (.ref (x.fa 2))) (v_most_houses : mg "most_houses" = some (.ref (x.fa 1))) (v_next_wave : mg "next_wave" = some (.ref (x.fa 0))) {oc : Value} {od : Option Addr} {kV doc pm : Value} {an : Option Addr} {ct : Value} {osl : Array (Option Value)} (hT1 : (pA, ("law" ++ ".<locals>." ++ "<lambda>" : Str)) ∈ Tbs.tb) (hT2 : ∀ p ∈ Tbs.tb, p.1 = pA → p.2 = ("law" ++ ".<locals>." ++ "<lambda>" : Str)) (lk : x.K.lookup f = some ⟨oc, od, .func (PySem.W.fnOf nm "law" (defArgs (sts 28)) (defBody (sts 28)) (defScope (sts 28)) .none kV doc pm an (.ref cA) ct), osl⟩) (hcd : PySem.W.codeIn x.K (.ref cA) "law" = true) : Top P w x.K mg base (L2.CX P w) f (PySem.W.fnOf nm "law" (defArgs (sts 28)) (defBody (sts 28)) (defScope (sts 28)) .none kV doc pm an (.ref cA) ct) ["script"] (spP x 1 law) :=
  def_top (N := ["script", "row", "many", "sizes", "room", "left", "due", "at", "houses", "guests", "some", "count", "parts", "best", "bad", "odd", "ask", "k", "part"]) (b := law_b) (k := 9) lk hcd ⟨rfl, rfl, rfl, by decide +kernel, rfl, by decide +kernel, by decide +kernel⟩ ⟨rfl, by decide, by decide⟩ fun outer s H E hr =>
  (ss_cons (s_asg (i := 1) (p_lst (pa1 (p_var 0) (pa1 p_int (pa1 p_int (pa1 p_int pa0))))) rfl rfl (by first | exact Or.inl rfl | exact Or.inr rfl | exact Or.inr (Or.inl rfl)) (by first | exact Or.inr rfl | exact Or.inl rfl | (left; decide +kernel)))
  (ss_cons (s_asgFM (i := 2) (m_if (mt_one sem_eq (m_callD c__law_taken rfl rfl (inj_one rfl) (hr.mono (by decide : 1 ≤ 9)) rfl (ma_bor 1 (ma1 (m_up p_int) ma0))) (m_up p_int) rfl) (m_up p_int) (m_up p_int)) rfl rfl (Or.inl rfl) (Or.inr rfl))
  (ss_cons (s_asgFM (i := 3) (m_comp (own := [("k", 17)]) (srcM_rng1 rfl b_range (ma1 (m_callD c__law_taken rfl rfl (inj_one rfl) (hr.mono (by decide : 1 ≤ 9)) rfl (ma_bor 1 (ma1 (m_up (p_op sem_add (p_var 2) p_int)) ma0))) ma0)) (blkOk_by (by rfl)) (fun _ _ _ _ _ => tg_name (i := 17) rfl (Or.inl rfl) (Or.inr rfl)) (sem_name 17) (by decide) (fun _ _ _ _ _ => pifsM_nil) (fun _ _ _ _ _ => (m_op sem_add (m_up p_int) (m_callD c__law_taken rfl rfl (inj_one rfl) (hr.mono (by decide : 1 ≤ 9)) rfl (ma_bor 1 (ma1 (m_callD c__law_pick rfl rfl (inj_one rfl) (hr.mono (by decide : 2 ≤ 9)) rfl (ma_bor 1 (ma1 (m_up (p_lst (pa1 p_int (pa1 p_int pa0)))) ma0))) ma0)))))) rfl rfl (by first | exact Or.inl rfl | exact Or.inr rfl | exact Or.inr (Or.inl rfl)) (by first | exact Or.inr rfl | exact Or.inl rfl | (left; decide +kernel)))
  (ss_cons (s_asgFM (i := 4) (m_callD c__law_taken rfl rfl (inj_one rfl) (hr.mono (by decide : 1 ≤ 9)) rfl (ma_bor 1 (ma1 (m_callD c__law_pick rfl rfl (inj_one rfl) (hr.mono (by decide : 2 ≤ 9)) rfl (ma_bor 1 (ma1 (m_up (p_lst (pa1 p_int (pa1 p_int (pa1 p_int pa0))))) ma0))) ma0))) rfl rfl (by first | exact Or.inl rfl | exact Or.inr rfl | exact Or.inr (Or.inl rfl)) (by first | exact Or.inr rfl | exact Or.inl rfl | (left; decide +kernel)))
  (ss_cons (s_par (i := 5) (j := 6) (pa1 (p_var 4) (pa1 p_int pa0)) rfl rfl rfl rfl (by decide) rfl rfl rfl)
  (ss_cons (s_for (src_rng1 rfl b_range (p_callB sem_len rfl b_len rfl (pa1 (p_var 3) pa0))) (tg_name (i := 7) rfl (by first | exact Or.inl rfl | exact Or.inr rfl | exact Or.inr (Or.inl rfl)) (by first | exact Or.inr rfl | exact Or.inl rfl | (left; decide +kernel))) (sem_name 7) (fun i _ => rfl)
  (ss_cons (s_asgF (i := 5) (p_op sem_sub (p_var 5) (p_ix (p_var 3) (p_var 7) (fun _ _ => rfl))) rfl rfl (Or.inl rfl) (Or.inr rfl))
  (ss_one (s_asgF (i := 6) (p_if (PWe.pt (pt_and (pt_one sem_ge (p_var 5) p_int rfl) (pt_and1 (pt_one sem_eq (p_var 6) (p_var 7) rfl)))) (p_op sem_add (p_var 7) p_int) (p_var 6)) rfl rfl (Or.inl rfl) (Or.inr rfl)))))
  (ss_cons (s_if (pt_no (pt_of (p_callD c__law_alike rfl (hr.mono (by decide : 4 ≤ 9)) rfl (pa1 (p_callD c_next_wave rfl (hr.mono (by decide : 5 ≤ 9)) rfl (pa1 (p_callTy sem_tuple rfl b_tuple rfl (pa1 (p_var 3) pa0)) (pa1 (p_var 4) pa0))) (pa1 (p_var 6) pa0)))))
  (ss_one (s_ret p_bl))
  ss_nil)
  (ss_cons (s_par (i := 8) (j := 9) (pa1 (p_callD c_most_houses rfl (hr.mono (by decide : 7 ≤ 9)) rfl (pa1 (p_var 3) (pa1 (p_var 4) pa0))) (pa1 (p_callD c_most_guests rfl (hr.mono (by decide : 5 ≤ 9)) rfl (pa1 (p_callTy sem_tuple rfl b_tuple rfl (pa1 (p_var 3) pa0)) (pa1 (p_var 4) pa0))) pa0)) rfl rfl rfl rfl (by decide) rfl rfl rfl)
  (ss_cons (s_for (src_it (p_lst (pa1 (p_var 8) (pa1 (p_var 9) pa0)))) (tg_name (i := 10) rfl (Or.inl rfl) (Or.inr rfl)) (sem_name 10) (fun i _ => rfl)
  (ss_cons (s_if (PWe.pt (pt_or (pt_no (pt_of (p_isi1 (p_var 10) (by decide) rfl b_isinstance b_tuple))) (pt_or (pt_one sem_ne (p_callTy sem_list rfl b_list rfl (pa1 (p_var 10) pa0)) (p_callD c__law_unlike rfl (hr.mono (by decide : 1 ≤ 9)) rfl (pa1 (p_var 10) pa0)) rfl) (pt_or1 (pt_one sem_ne (p_comp (own := [("at", 7)]) (src_it (p_var 10)) (blkOk_by (by rfl)) (fun _ _ _ _ _ => tg_name (i := 7) rfl (Or.inl rfl) (Or.inr rfl)) (sem_name 7) (by decide) (fun _ _ _ _ _ => (pifs_one (pt_no (pt_chn sem_le sem_lt p_int (p_var 7) (p_callB sem_len rfl b_len rfl (pa1 (p_var 3) pa0)))))) (fun _ _ _ _ _ => (p_var 7))) (p_lst pa0) rfl)))))
  (ss_one (s_ret p_bl))
  ss_nil)
  (ss_one (s_if (pt_one sem_gt (p_callB sem_sum rfl b_sum rfl (pa1 (p_comp (own := [("at", 7)]) (src_it (p_var 10)) (blkOk_by (by rfl)) (fun _ _ _ _ _ => tg_name (i := 7) rfl (Or.inl rfl) (Or.inr rfl)) (sem_name 7) (by decide) (fun _ _ _ _ _ => pifs_nil) (fun _ _ _ _ _ => (p_ix (p_var 3) (p_var 7) (fun _ _ => rfl)))) pa0)) (p_var 4) rfl)
  (ss_one (s_ret p_bl))
  ss_nil))))
  (ss_cons (s_asgF (i := 11) (p_callB sem_len rfl b_len rfl (pa1 (p_comp (own := [("at", 7)]) (src_rng1 rfl b_range (p_callB sem_len rfl b_len rfl (pa1 (p_var 3) pa0))) (blkOk_by (by rfl)) (fun _ _ _ _ _ => tg_name (i := 7) rfl (Or.inl rfl) (Or.inr rfl)) (sem_name 7) (by decide) (fun _ _ _ _ _ => (pifs_one (pt_one sem_le (p_callB sem_sum rfl b_sum rfl (pa1 (p_sl (p_callB sem_sorted rfl b_sorted rfl (pa1 (p_var 3) pa0)) pot_none (pot_some (p_op sem_add (p_var 7) p_int))) pa0)) (p_var 4) rfl))) (fun _ _ _ _ _ => (p_var 7))) pa0)) rfl rfl (by first | exact Or.inl rfl | exact Or.inr rfl | exact Or.inr (Or.inl rfl)) (by first | exact Or.inr rfl | exact Or.inl rfl | (left; decide +kernel)))
  (ss_cons (s_if (PWe.pt (pt_or (pt_one sem_ne (p_callB sem_len rfl b_len rfl (pa1 (p_var 8) pa0)) (p_var 11) rfl) (pt_or1 (pt_one sem_ne (p_callB sem_sum rfl b_sum rfl (pa1 (p_comp (own := [("at", 7)]) (src_it (p_var 9)) (blkOk_by (by rfl)) (fun _ _ _ _ _ => tg_name (i := 7) rfl (Or.inl rfl) (Or.inr rfl)) (sem_name 7) (by decide) (fun _ _ _ _ _ => pifs_nil) (fun _ _ _ _ _ => (p_ix (p_var 3) (p_var 7) (fun _ _ => rfl)))) pa0)) (p_callD c__law_reach rfl (hr.mono (by decide : 1 ≤ 9)) rfl (pa1 (p_var 3) (pa1 (p_var 4) pa0))) rfl))))
  (ss_one (s_ret p_bl))
  ss_nil)
  (ss_cons (s_if (pt_one sem_lt (p_callB sem_len rfl b_len rfl (pa1 (p_var 3) pa0)) p_int rfl)
  (ss_cons (s_setLc (i := 12) (own := [("part", 18)]) (src_it (p_callD c__law_parts rfl (hr.mono (by decide : 1 ≤ 9)) rfl (pa1 (p_callB sem_len rfl b_len rfl (pa1 (p_var 3) pa0)) pa0))) (blkOk_by (by rfl)) (fun _ _ _ _ _ => tg_name (i := 18) rfl (Or.inl rfl) (Or.inr rfl)) (sem_name 18) (by decide) (fun _ _ _ _ _ => (pifs_one (pt_one sem_le (p_callB sem_sum rfl b_sum rfl (pa1 (p_comp (own := [("at", 7)]) (src_it (p_var 18)) (blkOk_by (by rfl)) (fun _ _ _ _ _ => tg_name (i := 7) rfl (Or.inl rfl) (Or.inr rfl)) (sem_name 7) (by decide) (fun _ _ _ _ _ => pifs_nil) (fun _ _ _ _ _ => (p_ix (p_var 3) (p_var 7) (fun _ _ => rfl)))) pa0)) (p_var 4) rfl))) (fun _ _ _ _ _ => (p_var 18)) rfl rfl rfl (sw_true rfl rfl rfl rfl))
  (ss_cons (s_asgF (i := 13) (p_callB sem_max rfl b_max rfl (pa1 (p_comp (own := [("part", 18)]) (src_it (p_var 12)) (blkOk_by (by rfl)) (fun _ _ _ _ _ => tg_name (i := 18) rfl (Or.inl rfl) (Or.inr rfl)) (sem_name 18) (by decide) (fun _ _ _ _ _ => pifs_nil) (fun _ _ _ _ _ => (p_callB sem_sum rfl b_sum rfl (pa1 (p_comp (own := [("at", 7)]) (src_it (p_var 18)) (blkOk_by (by rfl)) (fun _ _ _ _ _ => tg_name (i := 7) rfl (Or.inl rfl) (Or.inr rfl)) (sem_name 7) (by decide) (fun _ _ _ _ _ => pifs_nil) (fun _ _ _ _ _ => (p_ix (p_var 3) (p_var 7) (fun _ _ => rfl)))) pa0)))) pa0)) rfl rfl (by first | exact Or.inl rfl | exact Or.inr rfl | exact Or.inr (Or.inl rfl)) (by first | exact Or.inr rfl | exact Or.inl rfl | (left; decide +kernel)))
  (ss_cons (s_if (pt_one sem_ne (p_var 8) (p_callB sem_minT rfl b_min rfl (pa1 (p_comp (own := [("part", 18)]) (src_it (p_var 12)) (blkOk_by (by rfl)) (fun _ _ _ _ _ => tg_name (i := 18) rfl (Or.inl rfl) (Or.inr rfl)) (sem_name 18) (by decide) (fun _ _ _ _ _ => (pifs_one (pt_one sem_eq (p_callB sem_len rfl b_len rfl (pa1 (p_var 18) pa0)) (p_var 11) rfl))) (fun _ _ _ _ _ => (p_var 18))) pa0)) rfl)
  (ss_one (s_ret p_bl))
  ss_nil)
  (ss_one (s_if (pt_one sem_ne (p_var 9) (p_callB sem_minT rfl b_min rfl (pa1 (p_comp (own := [("part", 18)]) (src_it (p_var 12)) (blkOk_by (by rfl)) (fun _ _ _ _ _ => tg_name (i := 18) rfl (Or.inl rfl) (Or.inr rfl)) (sem_name 18) (by decide) (fun _ _ _ _ _ => (pifs_one (pt_one sem_eq (p_callB sem_sum rfl b_sum rfl (pa1 (p_comp (own := [("at", 7)]) (src_it (p_var 18)) (blkOk_by (by rfl)) (fun _ _ _ _ _ => tg_name (i := 7) rfl (Or.inl rfl) (Or.inr rfl)) (sem_name 7) (by decide) (fun _ _ _ _ _ => pifs_nil) (fun _ _ _ _ _ => (p_ix (p_var 3) (p_var 7) (fun _ _ => rfl)))) pa0)) (p_var 13) rfl))) (fun _ _ _ _ _ => (p_var 18))) pa0)) rfl)
  (ss_one (s_ret p_bl))
  ss_nil)))))
  ss_nil)
  (ss_cons (s_asgTM (tg_tup (tgs_cons (tg_name (i := 14) rfl (by first | exact Or.inl rfl | exact Or.inr rfl | exact Or.inr (Or.inl rfl)) (by first | exact Or.inr rfl | exact Or.inl rfl | (left; decide +kernel))) (tgs_cons (tg_name (i := 15) rfl (by first | exact Or.inl rfl | exact Or.inr rfl | exact Or.inr (Or.inl rfl)) (by first | exact Or.inr rfl | exact Or.inl rfl | (left; decide +kernel))) tgs_nil))) (sem_tupT (sems_cons (sem_name 14) (sems_cons (sem_name 15) sems_nil)) rfl) (fun i _ => rfl) (m_tup (ma1 (m_op sem_add (m_up (p_sl (p_var 3) pot_none (pot_some p_int))) (m_lst (ma1 (m_callD c__law_pick rfl rfl (inj_one rfl) (hr.mono (by decide : 2 ≤ 9)) rfl (ma_bor 1 (ma1 (m_up (p_lst (pa1 p_int (pa1 p_int (pa1 p_non (pa1 p_bl pa0)))))) ma0))) ma0))) (ma1 (m_callD c__law_pick rfl rfl (inj_one rfl) (hr.mono (by decide : 2 ≤ 9)) rfl (ma_bor 1 (ma1 (m_up (p_lst (pa1 (p_neg p_int) (pa1 p_int (pa1 p_non (pa1 p_bl pa0)))))) ma0))) ma0))))
  (ss_cons (s_for (src_it (p_lst (pa1 (p_gfn 0 v_next_wave) (pa1 (p_gfn 1 v_most_houses) (pa1 (p_gfn 2 v_most_guests) pa0))))) (tg_name (i := 16) rfl (by first | exact Or.inl rfl | exact Or.inr rfl | exact Or.inr (Or.inl rfl)) (by first | exact Or.inr rfl | exact Or.inl rfl | (left; decide +kernel))) (sem_name 16) (fun i _ => rfl)
  (ss_cons (s_ifM (mt_one sem_ne (m_refsD r__law_refused rfl rfl hT1 hT2 (k := 7) (hr.mono (by decide)) (LamX.lamS_by (by rfl)) rfl (fun _ _ _ _ _ => rfl) (fun A outer s H E f c' hr' => (m_callV 16 (candCons (c_next_wave.up (by decide : 5 ≤ 7)) v_next_wave (candCons c_most_houses v_most_houses (candCons (c_most_guests.up (by decide : 5 ≤ 7)) v_most_guests candNil))) rfl (hr'.mono (by decide : 7 ≤ 7)) (ma1 (m_up (p_var 14)) (ma1 (m_up (p_var 15)) ma0))))) (m_up (p_tup (pa1 p_str (pa1 (p_op sem_sub (p_callB sem_len rfl b_len rfl (pa1 (p_var 14) pa0)) p_int) pa0)))) rfl)
  (ss_one (s_ret p_bl))
  ss_nil)
  (ss_cons (s_ifM (mt_one sem_ne (m_refsD r__law_refused rfl rfl hT1 hT2 (k := 7) (hr.mono (by decide)) (LamX.lamS_by (by rfl)) rfl (fun _ _ _ _ _ => rfl) (fun A outer s H E f c' hr' => (m_callV 16 (candCons (c_next_wave.up (by decide : 5 ≤ 7)) v_next_wave (candCons c_most_houses v_most_houses (candCons (c_most_guests.up (by decide : 5 ≤ 7)) v_most_guests candNil))) rfl (hr'.mono (by decide : 7 ≤ 7)) (ma1 (m_callD c__law_pick rfl rfl (inj_one rfl) (hr'.mono (by decide : 2 ≤ 7)) rfl (ma_bor 1 (ma1 (m_up (p_lst (pa1 p_non (pa1 (p_op sem_mul (p_lst (pa1 p_int pa0)) p_int) (pa1 p_int pa0))))) ma0))) (ma1 (m_up (p_var 15)) ma0))))) (m_up (p_tup (pa1 p_str (pa1 (p_neg p_int) pa0)))) rfl)
  (ss_one (s_ret p_bl))
  ss_nil)
  (ss_one (s_ifM (mt_one sem_ne (m_callB (sem_repr rfl) rfl b_repr rfl (ma1 (m_refsD r__law_refused rfl rfl hT1 hT2 (k := 7) (hr.mono (by decide)) (LamX.lamS_by (by rfl)) rfl (fun _ _ _ _ _ => rfl) (fun A outer s H E f c' hr' => (m_callV 16 (candCons (c_next_wave.up (by decide : 5 ≤ 7)) v_next_wave (candCons c_most_houses v_most_houses (candCons (c_most_guests.up (by decide : 5 ≤ 7)) v_most_guests candNil))) rfl (hr'.mono (by decide : 7 ≤ 7)) (ma1 (m_up (p_var 3)) (ma1 (m_up (p_var 15)) ma0))))) ma0)) (m_up (p_callB (sem_repr rfl) rfl b_repr rfl (pa1 (p_tup (pa1 p_str (pa1 (p_var 15) pa0))) pa0))) rfl)
  (ss_one (s_ret p_bl))
  ss_nil)))))
  (ss_one (s_ret p_bl))))))))))))))))
end
end Fn.K

namespace Fn.R20
open PySem PySem.Spec L2 Fn Fn.K
open _root_.Fn.Lw (RowOf)
theorem within_e (i a b : Int) : is_within [.int i, .int a, .int b] = .ok (.bl (decide (a ≤ i) && decide (i ≤ b))) := by
  by_cases h : a ≤ i <;> simp [is_within, is_within_b, is_integer, is_integer_b, dRun, subT, h]
theorem row_yes {A : T} {xs : List T} (h : RowOf A xs) : is_row [A] = .ok (.bl true) := by rcases h with rfl | rfl <;> simp [is_row, is_row_b, dRun, subT]
structure Ok (x : Int) : Prop where
  l : 1 ≤ x
  r : x ≤ 20
abbrev c5 (A : T) (j3 j4 : Option T) : Env := [some A, some (.int 30), some (.int 20), j3, j4]
theorem cs_one {A : T} {x : Int} (h : Ok x) {j3 : Option T} : check_sizes_L0 (c5 A j3 (some (.int x))) = .ok .next (c5 A j3 (some (.int x))) := by
  have h1 := h.l; have h2 := h.r
  simp [within_e, h1, h2]
theorem cs_skip {A : T} {rest : List T} : ∀ (xs : List Int) (k : Nat) (j3 j4 : Option T), (∀ x ∈ xs, Ok x) → ∃ j3' j4', forL (gT [(gN 3), (gN 4)]) check_sizes_L0 (enumTs k (intL xs) ++ rest) (c5 A j3 j4) = forL (gT [(gN 3), (gN 4)]) check_sizes_L0 rest (c5 A j3' j4')
  | [], k, j3, j4, _ => ⟨j3, j4, rfl⟩
  | x :: xs, k, j3, j4, h => by
    obtain ⟨a, b, e⟩ := cs_skip (A := A) (rest := rest) xs (k + 1) (some (.int k)) (some (.int x)) fun t ht => h t (List.mem_cons_of_mem _ ht)
    refine ⟨a, b, ?_⟩
    rw [← e]
    exact forL_next (ρ1 := c5 A (some (.int k)) (some (.int x))) (by simp) (.inl (cs_one (h x List.mem_cons_self)))
theorem cs_head {A : T} {xs : List T} (hA : RowOf A xs) (h : xs.length ≤ 30) : check_sizes_S0 (c5 A none none) = .ok .next (c5 A none none) := by
  have h' : ¬ (30 : Int) < xs.length := by omega
  simp [hA.pkd, hA.frz, row_yes hA, hA.len, h']
theorem check_ok {A : T} {xs : List Int} (hA : RowOf A (intL xs)) (h : xs.length ≤ 30) (hx : ∀ x ∈ xs, Ok x) : check_sizes [A, .int 30, .int 20] = .ok .non := by
  obtain ⟨j1, j2, e⟩ := cs_skip (A := A) (rest := []) xs 0 none none hx
  rw [List.append_nil] at e
  refine dRun_next (ρ' := c5 A j1 j2) ((seq_ok (cs_head hA (by simpa using h))).trans ?_)
  simp [hA.pkd, hA.np, hA.eiter]
  exact e
theorem check_bad {A z : T} {xs : List Int} (hA : RowOf A (intL xs ++ [z])) (h : xs.length < 30) (hx : ∀ x ∈ xs, Ok x) (hp : z.pkd = z) (hf : z.frz = some z) (hz : is_within [z, .int 1, .int 20] = .ok (.bl false)) : check_sizes [A, .int 30, .int 20] = .exc 1 [.int xs.length] := by
  obtain ⟨j1, j2, e⟩ := cs_skip (A := A) (rest := enumTs (0 + (intL xs).length) [z]) xs 0 none none hx
  rw [← Lw.enumTs_app] at e
  have e3 : forL (gT [(gN 3), (gN 4)]) check_sizes_L0 (enumTs (0 + (intL xs).length) [z]) (c5 A j1 j2) = .exc 1 [.int xs.length] (c5 A (some (.int (xs.length : Nat))) (some z)) :=
    forL_exc (ρ1 := c5 A (some (.int (xs.length : Nat))) (some z)) (by simp) (by simp [hp, hf, hz])
  rw [e3] at e
  refine dRun_exc (ρ' := c5 A (some (.int (xs.length : Nat))) (some z)) ((seq_ok (cs_head hA (by simp; omega))).trans ?_)
  simp [hA.pkd, hA.np, hA.eiter]
  exact e
theorem check_no {A : T} (h : is_row [A] = .ok (.bl false)) (hp : A.pkd = A) (hf : A.frz = some A) : check_sizes [A, .int 30, .int 20] = .exc 1 [.int (-1)] := by
  refine dRun_exc (ρ' := c5 A none none) (seq_exc ?_)
  simp [h, hp, hf]
theorem check_len {A : T} {xs : List T} (hA : RowOf A xs) (h : 30 < xs.length) : check_sizes [A, .int 30, .int 20] = .exc 1 [.int (-1)] := by
  refine dRun_exc (ρ' := c5 A none none) (seq_exc ?_)
  have h' : (30 : Int) < xs.length := by omega
  simp [hA.pkd, hA.frz, row_yes hA, hA.len, h']
/-- the sizes of a wave -/
structure Wv (xs : List Int) : Prop where
  len : xs.length ≤ 30
  ok : ∀ x ∈ xs, Ok x
theorem Wv.pos {xs : List Int} (h : Wv xs) : ∀ x ∈ xs, 0 < x := fun x hx => by have := (h.ok x hx).l; omega
theorem Wv.drop {xs : List Int} (h : Wv xs) (i : Nat) : Wv (xs.drop i) := ⟨by rw [List.length_drop]; have := h.len; omega, fun x hx => h.ok x (List.mem_of_mem_drop hx)⟩
theorem Wv.sort {xs : List Int} (h : Wv xs) : Wv (sortI xs) := ⟨by rw [sortI_len]; exact h.len, fun x hx => h.ok x (sortI_mem.mp hx)⟩
theorem wave_ok {A : T} {xs : List Int} {L : Int} (hA : RowOf A (intL xs)) (h : Wv xs) (h0 : 0 ≤ L) (h1 : L ≤ 600) : check_wave [A, .int L] = .ok .non := by
  refine dRun_next (ρ' := [some A, some (.int L)]) ?_
  unfold check_wave_b
  simp [hA.pkd, hA.frz, check_ok hA h.len h.ok, within_e, h0, h1]
theorem wave_exc {A : T} {B : T} {t : T} (hp : A.pkd = A) (hf : A.frz = some A) (h : check_sizes [A, .int 30, .int 20] = .exc 1 [t]) : check_wave [A, B] = .exc 1 [t] := by
  refine dRun_exc (ρ' := [some A, some B]) ?_
  unfold check_wave_b
  simp [hp, hf, h]
theorem wave_odd {A : T} {xs : List Int} {B : T} (hA : RowOf A (intL xs)) (h : Wv xs) (hp : B.pkd = B) (hf : B.frz = some B) (hb : is_within [B, .int 0, .int 600] = .ok (.bl false)) : check_wave [A, B] = .exc 2 [B] := by
  refine dRun_exc (ρ' := [some A, some B]) ?_
  unfold check_wave_b
  simp [hA.pkd, hA.frz, check_ok hA h.len h.ok, hp, hf, hb]
/-! ### next_wave -/
theorem nw_loop {A R : T} : ∀ (xs : List Int) (L : Int) (k : Int) (j4 : Option T), ∃ ρ', forL (gN 4) next_wave_L0 (intL xs) [some A, some R, some (.int k), some (.int L), j4] = .ok (.ret (.int (k + nw xs L))) ρ' ∨ ∃ L' j4', forL (gN 4) next_wave_L0 (intL xs) [some A, some R, some (.int k), some (.int L), j4] = .ok .next [some A, some R, some (.int (k + nw xs L)), some (.int L'), j4']
  | [], L, k, j4 => ⟨[], .inr ⟨L, j4, by simp [nw]⟩⟩
  | x :: xs, L, k, j4 => by
    by_cases c : L - x < 0
    · refine ⟨[some A, some R, some (.int k), some (.int (L - x)), some (.int x)], .inl ?_⟩
      have e : nw (x :: xs) L = 0 := (show nw (x :: xs) L = if L - x < 0 then 0 else 1 + nw xs (L - x) from rfl).trans (if_pos c)
      rw [e]
      refine forL_ret (ρ1 := [some A, some R, some (.int k), some (.int L), some (.int x)]) (by simp) ?_
      unfold next_wave_L0
      simp [c]
    · have e : nw (x :: xs) L = 1 + nw xs (L - x) := (show nw (x :: xs) L = if L - x < 0 then 0 else 1 + nw xs (L - x) from rfl).trans (if_neg c)
      have e2 : (k + ((1 + nw xs (L - x) : Nat) : Int)) = (k + 1) + nw xs (L - x) := by push_cast; omega
      obtain ⟨ρ', q⟩ := nw_loop (A := A) (R := R) xs (L - x) (k + 1) (some (.int x))
      have s : forL (gN 4) next_wave_L0 (intL (x :: xs)) [some A, some R, some (.int k), some (.int L), j4] = forL (gN 4) next_wave_L0 (intL xs) [some A, some R, some (.int (k + 1)), some (.int (L - x)), some (.int x)] := by
        refine forL_next (ρ1 := [some A, some R, some (.int k), some (.int L), some (.int x)]) (by simp) (.inl ?_)
        unfold next_wave_L0
        simp [c]
      rw [s, e, e2]
      exact ⟨ρ', q⟩
theorem next_e {A : T} {xs : List Int} {L : Int} (hA : RowOf A (intL xs)) (h : Wv xs) (h0 : 0 ≤ L) (h1 : L ≤ 600) : next_wave [A, .int L] = .ok (.int (nw xs L)) := by
  obtain ⟨ρ', q⟩ := nw_loop (A := A) (R := .int L) xs L 0 none
  have pre : next_wave_b [some A, some (.int L), none, none, none] = (dSeq next_wave_S3 next_wave_S4) [some A, some (.int L), some (.int 0), some (.int L), none] := by
    unfold next_wave_b
    refine (seq_ok (ρ' := [some A, some (.int L), none, none, none]) (by simp [hA.pkd, hA.frz, wave_ok hA h h0 h1])).trans ?_
    refine (seq_ok (ρ' := [some A, some (.int L), some (.int 0), none, none]) (by simp)).trans ?_
    exact seq_ok (by simp)
  rw [Int.zero_add] at q
  rcases q with q | ⟨L', j4, q⟩
  · refine dRun_ret (ρ' := ρ') (pre.trans (seq_ret ?_))
    unfold next_wave_S3
    rw [dFor_e, dIt_e]
    simp [hA.pkd, hA.np, hA.iter]
    exact q
  · refine dRun_ret (ρ' := [some A, some (.int L), some (.int (nw xs L)), some (.int L'), j4]) (pre.trans ((seq_ok (ρ' := [some A, some (.int L), some (.int (nw xs L)), some (.int L'), j4]) ?_).trans (by simp)))
    unfold next_wave_S3
    rw [dFor_e, dIt_e]
    simp [hA.pkd, hA.np, hA.iter]
    exact q
theorem count_e {A : T} {xs : List Int} {L : Int} (hA : RowOf A (intL xs)) (h : Wv xs) (h0 : 0 ≤ L) (h1 : L ≤ 600) : count_most [A, .int L] = .ok (.int (nw (sortI xs) L)) := by
  have hl := h.len
  refine dRun_ret (ρ' := [some A, some (.int L)]) ?_
  unfold count_most_b
  simp [hA.pkd, hA.sort (xs := xs) (by omega), next_e (A := .lst .sh (intL (sortI xs))) (.inl rfl) h.sort h0 h1]
end Fn.R20

namespace Fn.R20
open PySem PySem.Spec L2 Fn Fn.K
open _root_.Fn.Lw (RowOf)
theorem so_ok (xs : List Int) : Srt xs (sortI xs) := ⟨sortI_perm xs, (sortI_pw xs).imp fun h => by simpa [leI] using h⟩
/-! ### most_houses -/
abbrev mE (A R : T) (acc : List Int) (L : Int) (j4 j5 j6 : Option T) : Env := [some A, some R, some (.lst .ow (intL acc)), some (.int L), j4, j5, j6]
theorem cut_at {A : T} {xs : List Int} (hA : RowOf A (intL xs)) (i : Nat) (v : Int) (e : v = i) : ∃ B C, opSl A (some v) none = .ok B ∧ B.frz = some C ∧ RowOf C (intL (xs.drop i)) := by
  obtain ⟨B, C, h1, h2, h3⟩ := hA.cut i
  exact ⟨B, C, by rw [e]; exact h1, h2, by rw [← Lw.intL_drop]; exact h3⟩
theorem mh_cons {k x : Int} {r : List Int} {L : Int} : mh sortI k (x :: r) L = if x ≤ L ∧ 1 + nw (sortI r) (L - x) = nw (sortI (x :: r)) L then k :: mh sortI (k + 1) r (L - x) else mh sortI (k + 1) r L := rfl
theorem mh_loop {A R : T} {xs : List Int} (hA : RowOf A (intL xs)) (h : Wv xs) : ∀ (r : List Int) (k : Nat) (acc : List Int) (L : Int) (j4 j5 j6 : Option T), xs.drop k = r → 0 ≤ L → L ≤ 600 → acc.length + r.length ≤ 30 →
    ∃ L' j4' j5' j6', forL (gT [(gN 4), (gN 5)]) most_houses_L0 (enumTs k (intL r)) (mE A R acc L j4 j5 j6) = .ok .next (mE A R (acc ++ mh sortI k r L) L' j4' j5' j6')
  | [], k, acc, L, j4, j5, j6, _, _, _, _ => ⟨L, j4, j5, j6, by simp [enumTs, mh]⟩
  | x :: r, k, acc, L, j4, j5, j6, hd, h0, h1, hl => by
    have hd2 : xs.drop (k + 1) = r := by rw [← List.drop_drop, hd]; rfl
    have w0 : Wv (x :: r) := by rw [← hd]; exact h.drop k
    have w1 : Wv r := by rw [← hd2]; exact h.drop (k + 1)
    have hx := w0.ok x List.mem_cons_self
    have hx1 := hx.l
    obtain ⟨B, C, b1, b2, b3⟩ := cut_at hA k (k : Int) rfl
    rw [hd] at b3
    obtain ⟨D, E, d1, d2, d3⟩ := cut_at hA (k + 1) ((k : Int) + 1) (by push_cast; rfl)
    rw [hd2] at d3
    have q1 := count_e b3 w0 h0 h1
    have s1 : dAsgF 6 (dCall count_most (dCons (dSl (dVar 0) (dPart (dVar 4)) dNoPart) (dCons (dVar 3) dNil))) (mE A R acc L (some (.int k)) (some (.int x)) j6) = .ok .next (mE A R acc L (some (.int k)) (some (.int x)) (some (.int (nw (sortI (x :: r)) L)))) := by
      simp [hA.pkd, b1, b2, q1]
    by_cases c : x ≤ L ∧ 1 + nw (sortI r) (L - x) = nw (sortI (x :: r)) L
    · have q2 := count_e d3 w1 (L := L - x) (by omega) (by omega)
      have c1 := c.1
      have c2 : (1 : Int) + (nw (sortI r) (L - x) : Int) = (nw (sortI (x :: r)) L : Int) := by have := c.2; omega
      have c3 : (0 : Int) < (nw (sortI (x :: r)) L : Int) := by have := c.2; omega
      obtain ⟨L', a, b, d, e⟩ := mh_loop hA h r (k + 1) (acc ++ [(k : Int)]) (L - x) (some (.int k)) (some (.int x)) (some (.int (nw (sortI (x :: r)) L))) hd2 (by omega) (by omega) (by simp at hl ⊢; omega)
      refine ⟨L', a, b, d, ?_⟩
      have la : acc.length < 10000000 := by simp at hl; omega
      have body : most_houses_L0 (mE A R acc L (some (.int k)) (some (.int x)) j6) = .ok .next (mE A R (acc ++ [(k : Int)]) (L - x) (some (.int k)) (some (.int x)) (some (.int (nw (sortI (x :: r)) L)))) := by
        unfold most_houses_L0
        refine (seq_ok s1).trans ?_
        have t : (dAndT (dTestB (dOp opLe (dVar 5) (dVar 3))) (dAndT (dTestB (dOp opEq (dOp opAdd (dC (.int 1)) (dCall count_most (dCons (dSl (dVar 0) (dPart (dOp opAdd (dVar 4) (dC (.int 1)))) dNoPart) (dCons (dOp opSub (dVar 3) (dVar 5)) dNil)))) (dVar 6))) (dTestB (dOp opGt (dVar 6) (dC (.int 0)))))) (mE A R acc L (some (.int k)) (some (.int x)) (some (.int (nw (sortI (x :: r)) L)))) = .ok true := by
          simp [hA.pkd, d1, d2, q2, c1, opEq, eqOk, scalT, T.rk, c2]
          omega
        rw [dIfS_e, t]
        simp [la]
      have m : mh sortI k (x :: r) L = (k : Int) :: mh sortI ((k : Int) + 1) r (L - x) := mh_cons.trans (if_pos c)
      rw [m]
      have e' : acc ++ (k : Int) :: mh sortI ((k : Int) + 1) r (L - x) = acc ++ [(k : Int)] ++ mh sortI ((k + 1 : Nat) : Int) r (L - x) := by simp
      rw [e', ← e]
      exact forL_next (ρ1 := mE A R acc L (some (.int k)) (some (.int x)) j6) (by simp) (.inl body)
    · obtain ⟨L', a, b, d, e⟩ := mh_loop hA h r (k + 1) acc L (some (.int k)) (some (.int x)) (some (.int (nw (sortI (x :: r)) L))) hd2 h0 h1 (by simp at hl ⊢; omega)
      refine ⟨L', a, b, d, ?_⟩
      have body : most_houses_L0 (mE A R acc L (some (.int k)) (some (.int x)) j6) = .ok .next (mE A R acc L (some (.int k)) (some (.int x)) (some (.int (nw (sortI (x :: r)) L)))) := by
        unfold most_houses_L0
        refine (seq_ok s1).trans ?_
        have t : (dAndT (dTestB (dOp opLe (dVar 5) (dVar 3))) (dAndT (dTestB (dOp opEq (dOp opAdd (dC (.int 1)) (dCall count_most (dCons (dSl (dVar 0) (dPart (dOp opAdd (dVar 4) (dC (.int 1)))) dNoPart) (dCons (dOp opSub (dVar 3) (dVar 5)) dNil)))) (dVar 6))) (dTestB (dOp opGt (dVar 6) (dC (.int 0)))))) (mE A R acc L (some (.int k)) (some (.int x)) (some (.int (nw (sortI (x :: r)) L)))) = .ok false := by
          by_cases c1 : x ≤ L
          · have q2 := count_e d3 w1 (L := L - x) (by omega) (by omega)
            have c2 : ¬ (1 : Int) + (nw (sortI r) (L - x) : Int) = (nw (sortI (x :: r)) L : Int) := fun z => c ⟨c1, by omega⟩
            simp [hA.pkd, d1, d2, q2, c1, opEq, eqOk, scalT, T.rk, c2]
          · simp [c1]
        rw [dIfS_e, t]
        simp
      have m : mh sortI k (x :: r) L = mh sortI ((k : Int) + 1) r L := mh_cons.trans (if_neg c)
      rw [m]
      have e' : acc ++ mh sortI ((k : Int) + 1) r L = acc ++ mh sortI ((k + 1 : Nat) : Int) r L := by simp
      rw [e', ← e]
      exact forL_next (ρ1 := mE A R acc L (some (.int k)) (some (.int x)) j6) (by simp) (.inl body)
theorem houses_e {A : T} {xs : List Int} {L : Int} (hA : RowOf A (intL xs)) (h : Wv xs) (h0 : 0 ≤ L) (h1 : L ≤ 600) : most_houses [A, .int L] = .ok (.tup (intL (mh sortI 0 xs L))) := by
  obtain ⟨L', a, b, d, e⟩ := mh_loop (R := .int L) hA h xs 0 [] L none none none (by simp) h0 h1 (by simpa using h.len)
  refine dRun_ret (ρ' := mE A (.int L) (mh sortI 0 xs L) L' a b d) ?_
  unfold most_houses_b
  refine (seq_ok (ρ' := [some A, some (.int L), none, none, none, none, none]) (by simp [hA.pkd, hA.frz, wave_ok hA h h0 h1])).trans ?_
  refine (seq_ok (ρ' := [some A, some (.int L), some (.lst .ow []), none, none, none, none]) (by simp)).trans ?_
  refine (seq_ok (ρ' := mE A (.int L) [] L none none none) (by simp)).trans ?_
  refine (seq_ok (ρ' := mE A (.int L) (mh sortI 0 xs L) L' a b d) ?_).trans (by simp)
  unfold most_houses_S3
  rw [dFor_e, dEnum_e]
  simp only [dVar_e, List.getElem?_cons_zero, hA.pkd, Res.bind, hA.np, Bool.not_true, Bool.and_false, Bool.false_eq_true, if_false, hA.eiter, Res.st]
  simpa using e
end Fn.R20

namespace Fn.R20
open PySem PySem.Spec L2 Fn Fn.K
open _root_.Fn.Lw (RowOf)
/-! ### dicts of sums -/
def kd (ks : List Int) : List (T × T) := ks.map fun i => (.int i, .bl true)
@[simp] theorem kd_len (ks : List Int) : (kd ks).length = ks.length := by simp [kd]
theorem kd_keys (ks : List Int) : (kd ks).map (·.1) = intL ks := by unfold kd intL; rw [List.map_map]; rfl
theorem kd_any (ks : List Int) (a : Int) : ((kd ks).any fun p => p.1.eqv (.int a)) = decide (a ∈ ks) := by
  induction ks with
  | nil => rfl
  | cons k ks ih =>
    show ((k == a) || ((kd ks).any fun p => p.1.eqv (.int a))) = _
    rw [ih]
    by_cases c : k = a
    · subst c; simp
    · have c' : ¬ a = k := fun z => c z.symm
      simp [c, c']
theorem kd_put (ks : List Int) (a : Int) : dput (kd ks) (.int a) (.bl true) = kd (putS ks a) := by
  unfold dput putS
  rw [kd_any]
  by_cases c : a ∈ ks
  · rw [if_pos (by simpa using c), if_pos c]
    unfold kd
    rw [List.map_map]
    apply List.map_congr_left
    intro i _
    show (if (i == a) = true then ((T.int i, T.bl true) : T × T) else (T.int i, T.bl true)) = _
    split <;> rfl
  · rw [if_neg (by simpa using c), if_neg c]
    unfold kd
    rw [List.map_append]; rfl
theorem kd_find : ∀ (ks : List Int) (a : Int), (dget (kd ks) (.int a)).isSome = decide (a ∈ ks)
  | [], a => rfl
  | k :: ks, a => by
    have ih := kd_find ks a
    unfold dget at *
    by_cases c : k = a
    · subst c
      have : ((kd (k :: ks)).find? fun p => p.1.eqv (.int k)) = some (.int k, .bl true) := by
        show (((T.int k, T.bl true) :: kd ks).find? fun p => p.1.eqv (.int k)) = _
        rw [List.find?_cons_of_pos (by simp)]
      rw [this]; simp
    · have c' : ¬ a = k := fun z => c z.symm
      have : ((kd (k :: ks)).find? fun p => p.1.eqv (.int a)) = (kd ks).find? fun p => p.1.eqv (.int a) := by
        show (((T.int k, T.bl true) :: kd ks).find? fun p => p.1.eqv (.int a)) = _
        rw [List.find?_cons_of_neg (by simp [c])]
      rw [this, ih]; simp [c']
theorem opIn_kd (ks : List Int) (a : Int) : opIn (.int a) (.dct .sh .k (kd ks)) = .ok (.bl (decide (a ∈ ks))) := by
  show (if keyOk .k (.int a) = true then Res.ok (T.bl (dget (kd ks) (.int a)).isSome) else .stuck) = _
  rw [kd_find]; rfl
abbrev dk (ks : List Int) : T := .dct .sh .k (kd ks)
theorem putS_len (ks : List Int) (a : Int) : (putS ks a).length ≤ ks.length + 1 := by unfold putS; split <;> simp
/-! ### all_sums -/
abbrev aE (A : T) (rows : List T) (x : Int) (ks : List Int) (j4 : Option T) : Env := [some A, some (.lst .ow rows), some (.int x), some (.dct .ow .k (kd ks)), j4]
theorem add_loop {A : T} {rows : List T} {x : Int} : ∀ (l ks : List Int) (j4 : Option T), ks.length + l.length < 10000000 → ∃ j4', forL (gN 4) all_sums_L0 (intL l) (aE A rows x ks j4) = .ok .next (aE A rows x (addS ks x l) j4')
  | [], ks, j4, _ => ⟨j4, rfl⟩
  | a :: l, ks, j4, hl => by
    rw [List.length_cons] at hl
    have p := putS_len ks (a + x)
    obtain ⟨j4', e⟩ := add_loop (A := A) (rows := rows) (x := x) l (putS ks (a + x)) (some (.int a)) (by omega)
    refine ⟨j4', ?_⟩
    have l1 : ks.length < 10000000 := by omega
    show _ = ResM.ok Fw.next (aE A rows x (addS (putS ks (a + x)) x l) j4')
    rw [← e]
    refine forL_next (ρ1 := aE A rows x ks (some (.int a))) (by simp) (.inl ?_)
    unfold all_sums_L0
    simp [l1, kd_put]
def rowsOf : List Int → List (List Int)
  | [] => [[0]]
  | x :: r => sums (x :: r) :: rowsOf r
theorem rowsOf_len : ∀ xs, (rowsOf xs).length = xs.length + 1
  | [] => rfl
  | x :: r => by simp [rowsOf, rowsOf_len r]
theorem rowsOf_ne (xs : List Int) : rowsOf xs ≠ [] := by cases xs <;> simp [rowsOf]
theorem rowsOf_head (xs : List Int) : (rowsOf xs).head? = some (sums xs) := by cases xs <;> rfl
theorem rowsOf_at : ∀ (xs : List Int) (i : Nat), i ≤ xs.length → (rowsOf xs)[i]? = some (sums (xs.drop i))
  | xs, 0, _ => by have := rowsOf_head xs; rw [List.head?_eq_getElem?] at this; simpa using this
  | [], i + 1, h => by simp at h
  | x :: r, i + 1, h => by
    show (sums (x :: r) :: rowsOf r)[i + 1]? = _
    rw [List.getElem?_cons_succ, rowsOf_at r i (by simpa using h)]; rfl
abbrev aS (A : T) (rows : List T) (j2 j3 j4 : Option T) : Env := [some A, some (.lst .ow rows), j2, j3, j4]
theorem last_at {α : Type} {xs : List α} {a : α} (h : xs.head? = some a) : atI xs.reverse (-1) = some a := by
  rw [atI_last (by intro z; have := congrArg List.length z; cases xs with | nil => cases h | cons _ _ => simp at this), List.getLast?_reverse, h]
theorem all_loop {A : T} : ∀ (xs : List Int) (rest : List T), Wv xs → ∃ j2 j3 j4, forL (gN 2) all_sums_L1 (intL xs.reverse ++ rest) (aS A [dk [0]] none none none) = forL (gN 2) all_sums_L1 rest (aS A ((rowsOf xs).map dk).reverse j2 j3 j4)
  | [], rest, _ => ⟨none, none, none, rfl⟩
  | x :: r, rest, h => by
    have hr : Wv r := ⟨by have := h.len; simp at this; omega, fun y hy => h.ok y (List.mem_cons_of_mem _ hy)⟩
    obtain ⟨j2, j3, j4, e⟩ := all_loop (A := A) r (intL [x] ++ rest) hr
    have e1 : intL (x :: r).reverse ++ rest = intL r.reverse ++ (intL [x] ++ rest) := by rw [List.reverse_cons, intL_app, List.append_assoc]
    have l601 : (sums r).length ≤ 601 := sums_len hr.pos (fun y hy => (hr.ok y hy).r) hr.len
    obtain ⟨j4', e2⟩ := add_loop (A := A) (rows := ((rowsOf r).map dk).reverse) (x := x) (sums r) (sums r) j4 (by omega)
    refine ⟨some (.int x), some (.dct .sh .k (kd (sums (x :: r)))), j4', ?_⟩
    rw [e1, e]
    have hh : atI ((rowsOf r).map dk).reverse (-1) = some (dk (sums r)) := last_at (by rw [List.head?_map, rowsOf_head]; rfl)
    have ll : (rowsOf r).length < 10000000 := by rw [rowsOf_len]; have := hr.len; omega
    refine (forL_next (ρ1 := aS A ((rowsOf r).map dk).reverse (some (.int x)) j3 j4) (by simp) (.inl ?_)).trans rfl
    unfold all_sums_L1
    refine (seq_ok (ρ' := aE A ((rowsOf r).map dk).reverse x (sums r) j4) (by simp [hh])).trans ?_
    refine (seq_ok (ρ' := aE A ((rowsOf r).map dk).reverse x (sums (x :: r)) j4') ?_).trans ?_
    · rw [dForD_e, dIx_e]
      simp only [dVar_e, List.getElem?_cons_succ, List.getElem?_cons_zero, pkd_low, Res.bind, dNeg_e, dC_e, opIx_l, hh, Res.st, np_dsh, if_true, dkeys_e, kd_keys]
      exact e2
    · rw [dSh_e]
      simp [ll, rowsOf]
theorem all_e {A : T} {xs : List Int} (hA : RowOf A (intL xs)) (h : Wv xs) : ∃ fl, all_sums [A] = .ok (.lst .ow ((rowsOf xs).map dk)) ∧ fl = 0 := by
  obtain ⟨j2, j3, j4, e⟩ := all_loop (A := A) xs [] h
  rw [List.append_nil] at e
  obtain ⟨B, b1, b2, b3⟩ := hA.rev
  refine ⟨0, dRun_ret (ρ' := aS A ((rowsOf xs).map dk).reverse j2 j3 j4) ?_, rfl⟩
  unfold all_sums_b
  refine (seq_ok (ρ' := aS A [dk [0]] none none none) (by simp [kd, dput, T.isKey])).trans ?_
  refine (seq_ok (ρ' := aS A ((rowsOf xs).map dk).reverse j2 j3 j4) ?_).trans (by simp)
  unfold all_sums_S1
  rw [dFor_e, dIt_e, dRev_e]
  simp only [dVar_e, List.getElem?_cons_zero, hA.pkd, Res.bind, b1, b2, Bool.not_true, Bool.and_false, Bool.false_eq_true, if_false, b3, Res.st]
  rw [← show intL xs.reverse = (intL xs).reverse by simp [intL]]
  rw [e]; rfl
end Fn.R20

namespace Fn.R20
open PySem PySem.Spec L2 Fn Fn.K
open _root_.Fn.Lw (RowOf)
/-! ### most_guests -/
def bst (xs : List Int) (L : Int) : Int := maxI ((sums xs).filter fun s => decide (s ≤ L))
theorem bst_is {xs : List Int} (hp : ∀ x ∈ xs, 0 < x) {L : Int} (h0 : 0 ≤ L) : bst xs L ∈ sums xs ∧ bst xs L ≤ L ∧ (∀ s ∈ sums xs, s ≤ L → s ≤ bst xs L) ∧ 0 ≤ bst xs L := by
  letI : Tbs := ⟨[]⟩
  have z : (0 : Int) ∈ sums xs := sums_iff (k := 0).mpr (by
    obtain ⟨p, h, _⟩ := sub_pt (List.nil_sublist xs) 0
    exact ⟨p, by simpa using h⟩)
  have zf : (0 : Int) ∈ (sums xs).filter fun s => decide (s ≤ L) := by simp [z, h0]
  unfold bst
  generalize hF : (sums xs).filter (fun s => decide (s ≤ L)) = F at zf
  have mem : ∀ s, s ∈ F ↔ s ∈ sums xs ∧ s ≤ L := fun s => by rw [← hF]; simp
  cases F with
  | nil => cases zf
  | cons y ys =>
    obtain ⟨h1, h2⟩ := maxI_max ys y
    have e : maxI (y :: ys) = ys.foldl max y := rfl
    rw [e]
    exact ⟨((mem _).mp h1).1, ((mem _).mp h1).2, fun s hs hl => h2 s ((mem s).mpr ⟨hs, hl⟩), h2 0 zf⟩
theorem bst_ca {fl : Fl} {xs : List Int} (hp : ∀ x ∈ xs, 0 < x) {L : Int} (h0 : 0 ≤ L) : caMax [.lst fl (intL ((sums xs).filter fun s => decide (s ≤ L)))] = .ok (.int (bst xs L)) := by
  obtain ⟨h1, h2, h3, _⟩ := bst_is hp h0
  exact Lw.caMax_of (by simp [h1, h2]) fun y hy => by
    have := List.mem_filter.mp hy
    exact h3 y this.1 (by simpa using this.2)
abbrev gE (A R W : T) (L : Int) (acc : List Int) (j5 j6 j7 : Option T) : Env := [some A, some R, some W, some (.int L), some (.lst .ow (intL acc)), j5, j6, j7]
theorem mg_cons {k x : Int} {r : List Int} {L : Int} : mg k (x :: r) L = if x ≤ L ∧ L - x ∈ sums r then k :: mg (k + 1) r (L - x) else mg (k + 1) r L := rfl
theorem mg_loop {A R : T} {xs : List Int} {j7 : Option T} (hl0 : xs.length ≤ 30) : ∀ (r : List Int) (k : Nat) (acc : List Int) (L : Int) (j5 j6 : Option T), xs.drop k = r → acc.length + r.length ≤ 30 →
    ∃ L' j5' j6', forL (gT [(gN 5), (gN 6)]) most_guests_L0 (enumTs k (intL r)) (gE A R (.lst .sh ((rowsOf xs).map dk)) L acc j5 j6 j7) = .ok .next (gE A R (.lst .sh ((rowsOf xs).map dk)) L' (acc ++ mg k r L) j5' j6' j7)
  | [], k, acc, L, j5, j6, _, _ => ⟨L, j5, j6, by simp [enumTs, mg]⟩
  | x :: r, k, acc, L, j5, j6, hd, hl => by
    have hd2 : xs.drop (k + 1) = r := by rw [← List.drop_drop, hd]; rfl
    have kl : k < xs.length := by
      apply Classical.byContradiction
      intro z
      rw [List.drop_eq_nil_of_le (by omega)] at hd; cases hd
    have hat : atI ((rowsOf xs).map dk) ((k : Int) + 1) = some (dk (sums r)) := by
      have e : ((k : Int) + 1) = ((k + 1 : Nat) : Int) := by push_cast; rfl
      rw [e, Lw.atI_nat (by rw [List.length_map, rowsOf_len]; omega)]
      have := rowsOf_at xs (k + 1) (by omega)
      rw [hd2] at this
      rw [← List.getElem?_eq_getElem, List.getElem?_map, this]; rfl
    rw [List.length_cons] at hl
    have t : (dAndT (dTestB (dOp opLe (dVar 6) (dVar 3))) (dTestB (dOp opIn (dOp opSub (dVar 3) (dVar 6)) (dIx (dVar 2) (dOp opAdd (dVar 5) (dC (.int 1))))))) (gE A R (.lst .sh ((rowsOf xs).map dk)) L acc (some (.int k)) (some (.int x)) j7) = .ok (decide (x ≤ L ∧ L - x ∈ sums r)) := by
      by_cases c1 : x ≤ L
      · simp [c1, hat, opIn_kd]
      · simp [c1]
    by_cases c : x ≤ L ∧ L - x ∈ sums r
    · obtain ⟨L', a, b, e⟩ := mg_loop (A := A) (R := R) (j7 := j7) hl0 r (k + 1) (acc ++ [(k : Int)]) (L - x) (some (.int k)) (some (.int x)) hd2 (by simp; omega)
      refine ⟨L', a, b, ?_⟩
      have la : acc.length < 10000000 := by omega
      have m : mg k (x :: r) L = (k : Int) :: mg ((k : Int) + 1) r (L - x) := mg_cons.trans (if_pos c)
      rw [m]
      have e' : acc ++ (k : Int) :: mg ((k : Int) + 1) r (L - x) = acc ++ [(k : Int)] ++ mg ((k + 1 : Nat) : Int) r (L - x) := by simp
      rw [e', ← e]
      refine forL_next (ρ1 := gE A R (.lst .sh ((rowsOf xs).map dk)) L acc (some (.int k)) (some (.int x)) j7) (by simp) (.inl ?_)
      unfold most_guests_L0
      rw [dIfS_e, t]
      simp [c, la]
    · obtain ⟨L', a, b, e⟩ := mg_loop (A := A) (R := R) (j7 := j7) hl0 r (k + 1) acc L (some (.int k)) (some (.int x)) hd2 (by omega)
      refine ⟨L', a, b, ?_⟩
      have m : mg k (x :: r) L = mg ((k : Int) + 1) r L := mg_cons.trans (if_neg c)
      rw [m]
      have e' : acc ++ mg ((k : Int) + 1) r L = acc ++ mg ((k + 1 : Nat) : Int) r L := by simp
      rw [e', ← e]
      refine forL_next (ρ1 := gE A R (.lst .sh ((rowsOf xs).map dk)) L acc (some (.int k)) (some (.int x)) j7) (by simp) (.inl ?_)
      unfold most_guests_L0
      rw [dIfS_e, t]
      simp [c]
theorem guests_e {A : T} {xs : List Int} {L : Int} (hA : RowOf A (intL xs)) (h : Wv xs) (h0 : 0 ≤ L) (h1 : L ≤ 600) : most_guests [A, .int L] = .ok (.tup (intL (mg 0 xs (bst xs L)))) := by
  obtain ⟨L', a, b, e⟩ := mg_loop (A := A) (R := .int L) (xs := xs) (j7 := none) h.len xs 0 [] (bst xs L) none none (by simp) (by simpa using h.len)
  obtain ⟨_, sm, _⟩ := all_e hA h
  have l601 : (sums xs).length ≤ 601 := sums_len h.pos (fun y hy => (h.ok y hy).r) h.len
  have hat : atI ((rowsOf xs).map dk) 0 = some (dk (sums xs)) := by
    have := Lw.atI_nat (xs := (rowsOf xs).map dk) (i := 0) (by rw [List.length_map, rowsOf_len]; omega)
    rw [show ((0 : Nat) : Int) = 0 from rfl] at this
    rw [this, ← List.getElem?_eq_getElem, List.getElem?_map, rowsOf_at xs 0 (by omega)]; rfl
  refine dRun_ret (ρ' := gE A (.int L) (.lst .sh ((rowsOf xs).map dk)) L' (mg 0 xs (bst xs L)) a b none) ?_
  unfold most_guests_b
  refine (seq_ok (ρ' := [some A, some (.int L), none, none, none, none, none, none]) (by simp [hA.pkd, hA.frz, wave_ok hA h h0 h1])).trans ?_
  refine (seq_ok (ρ' := [some A, some (.int L), some (.lst .sh ((rowsOf xs).map dk)), none, none, none, none, none]) (by simp [hA.pkd, hA.frz, sm])).trans ?_
  have c : most_guests_C0 [some A, some (.int L), some (.lst .sh ((rowsOf xs).map dk)), none, none, none, none, none] = .ok (.lst .ow (intL ((sums xs).filter fun s => decide (s ≤ L)))) := by
    unfold most_guests_C0 dCompG
    simp only [dIx_e, dVar_e, List.getElem?_cons_succ, List.getElem?_cons_zero, pkd_lsh, Res.bind, dC_e, opIx_l, hat, dkeys_e, kd_keys, intL_len]
    rw [if_pos (by omega)]
    rw [compL_map (ρ1 := fun t => [some A, some (.int L), some (.lst .sh ((rowsOf xs).map dk)), none, none, none, none, some t]) (p := fun t => match t with | .int i => decide (i ≤ L) | _ => false) (u := id) (fun t _ => by simp [pkIf, pkE, wipeE, hA.pkd]) (fun t ht => by
      obtain ⟨i, _, rfl⟩ := List.mem_map.mp ht
      simp) (fun t ht _ => by
      obtain ⟨i, _, rfl⟩ := List.mem_map.mp ht
      exact ⟨.int i, by simp, rfl⟩)]
    simp only [Res.ok.injEq, T.lst.injEq, true_and, List.map_id]
    unfold intL
    rw [List.filter_map]
    rfl
  refine (seq_ok (ρ' := [some A, some (.int L), some (.lst .sh ((rowsOf xs).map dk)), some (.int (bst xs L)), none, none, none, none]) ?_).trans ?_
  · unfold most_guests_S2
    rw [dAsgF_e, dCa_e, dCons_e, c]
    simp [bst_ca h.pos h0]
  refine (seq_ok (ρ' := gE A (.int L) (.lst .sh ((rowsOf xs).map dk)) (bst xs L) [] none none none) (by simp)).trans ?_
  refine (seq_ok (ρ' := gE A (.int L) (.lst .sh ((rowsOf xs).map dk)) L' (mg 0 xs (bst xs L)) a b none) ?_).trans (by simp)
  unfold most_guests_S4
  rw [dFor_e, dEnum_e]
  simp only [dVar_e, List.getElem?_cons_zero, hA.pkd, Res.bind, hA.np, Bool.not_true, Bool.and_false, Bool.false_eq_true, if_false, hA.eiter, Res.st]
  simpa using e
/-! ### reached by the law -/
abbrev rE (A : T) (room : Int) (ks : List Int) (j3 j4 : Option T) : Env := [some A, some (.int room), some (.dct .ow .k (kd ks)), j3, j4]
def stepR (room s : Int) (acc : List Int) (k : Int) : List Int := if k + s ≤ room then putS acc (k + s) else acc
theorem reach_in {A : T} {room s : Int} : ∀ (l ks : List Int) (j4 : Option T), ks.length + l.length < 10000000 → ∃ j4', forL (gN 4) _law_reach_L0 (intL l) (rE A room ks (some (.int s)) j4) = .ok .next (rE A room (l.foldl (stepR room s) ks) (some (.int s)) j4')
  | [], ks, j4, _ => ⟨j4, rfl⟩
  | a :: l, ks, j4, hl => by
    rw [List.length_cons] at hl
    have p : (stepR room s ks a).length ≤ ks.length + 1 := by unfold stepR; split; exact putS_len _ _; omega
    obtain ⟨j4', e⟩ := reach_in (A := A) (room := room) (s := s) l (stepR room s ks a) (some (.int a)) (by omega)
    refine ⟨j4', ?_⟩
    have l1 : ks.length < 10000000 := by omega
    rw [List.foldl_cons, ← e]
    refine forL_next (ρ1 := rE A room ks (some (.int s)) (some (.int a))) (by simp) (.inl ?_)
    unfold _law_reach_L0 stepR
    by_cases c : a + s ≤ room
    · simp [c, l1, kd_put]
    · simp [c]
theorem reach_loop {A : T} {room : Int} (hr : room ≤ 600) : ∀ (xs : List Int) (seen : List Int) (j3 j4 : Option T), (∀ x ∈ xs, 0 < x) → seen.Nodup → (∀ x ∈ seen, 0 ≤ x ∧ x < 601) → ∃ j3' j4', forL (gN 3) _law_reach_L1 (intL xs) (rE A room seen j3 j4) = .ok .next (rE A room (reach room xs seen) j3' j4')
  | [], seen, j3, j4, _, _, _ => ⟨j3, j4, rfl⟩
  | s :: xs, seen, j3, j4, hp, nd, hb => by
    have l1 := nodup_bound 601 seen nd hb
    obtain ⟨j4', e⟩ := reach_in (A := A) (room := room) (s := s) seen seen j4 (by omega)
    have hs := hp s List.mem_cons_self
    obtain ⟨a, b, e2⟩ := reach_loop (A := A) hr xs (turnR room s seen) (some (.int s)) j4' (fun x hx => hp x (List.mem_cons_of_mem _ hx)) (foldR_nodup nd) fun x hx => by
      rcases foldR_mem.mp hx with z | ⟨z1, z2⟩
      · exact hb x z
      · have := hb _ z2; omega
    refine ⟨a, b, ?_⟩
    show _ = ResM.ok Fw.next (rE A room (reach room xs (turnR room s seen)) a b)
    rw [← e2]
    refine forL_next (ρ1 := rE A room seen (some (.int s)) j4) (by simp) (.inl ?_)
    unfold _law_reach_L1
    rw [dFor_e, dIt_e]
    simp only [dCa_e, dCons_e, dVar_e, List.getElem?_cons_succ, List.getElem?_cons_zero, pkd_dow, Res.bind, dNil_e, caList_d, kd_keys, np_low, Bool.not_true, Bool.and_false, Bool.false_eq_true, if_false, iter_lst, Res.st]
    exact e
theorem reach_e {A : T} {xs : List Int} {L : Int} (hA : RowOf A (intL xs)) (hp : ∀ x ∈ xs, 0 < x) (h0 : 0 ≤ L) (h1 : L ≤ 600) : _law_reach [A, .int L] = .ok (.int (bst xs L)) := by
  obtain ⟨a, b, e⟩ := reach_loop (A := A) (room := L) h1 xs [0] none none hp (by simp) (fun x hx => by rw [List.mem_singleton.mp hx]; omega)
  obtain ⟨q1, q2, q3, q4⟩ := bst_is hp h0
  have mem : ∀ x, x ∈ reach L xs [0] ↔ x ∈ sums xs ∧ x ≤ L := fun x => by
    rw [reach_mem hp, sums_iff (k := 0)]
    constructor
    · rintro ⟨t, u, p, h2, h3, h4, h5⟩
      have t0 : t = 0 := by simpa using h2
      have e : x = u := by omega
      subst e
      refine ⟨⟨p, h3⟩, h5.elim (fun z => ?_) id⟩
      have := (h3.nonneg hp).2.2 z; omega
    · rintro ⟨⟨p, h3⟩, h4⟩
      exact ⟨0, x, p, by simp, h3, by omega, .inr h4⟩
  have mx : caMax [.lst .ow (intL (reach L xs [0]))] = .ok (.int (bst xs L)) := Lw.caMax_of ((mem _).mpr ⟨q1, q2⟩) fun y hy => q3 y ((mem y).mp hy).1 ((mem y).mp hy).2
  refine dRun_ret (ρ' := rE A L (reach L xs [0]) a b) ?_
  unfold _law_reach_b
  refine (seq_ok (ρ' := rE A L [0] none none) (by simp [kd, dput, T.isKey])).trans ?_
  refine (seq_ok (ρ' := rE A L (reach L xs [0]) a b) ?_).trans ?_
  · unfold _law_reach_S1
    rw [dFor_e, dIt_e]
    simp only [dVar_e, List.getElem?_cons_zero, hA.pkd, Res.bind, hA.np, Bool.not_true, Bool.and_false, Bool.false_eq_true, if_false, hA.iter, Res.st]
    exact e
  · unfold _law_reach_S2
    simp [kd_keys, mx]
end Fn.R20

namespace Fn.R20
open PySem PySem.Spec L2 Fn Fn.K
open _root_.Fn.Lw (RowOf)
/-! ### tuples of numbers in their order -/
abbrev tI (p : List Int) : T := .tup (intL p)
theorem datAll_int : ∀ p : List Int, datAll (intL p) = some (p.map PyData.int)
  | [] => rfl
  | x :: p => by
    rw [intL_cons]
    show (match (T.int x).dat, datAll (intL p) with | some d, some ds => some (d :: ds) | _, _ => none) = _
    rw [datAll_int p]; rfl
theorem tI_enc (p : List Int) : (tI p).enc = .tuple (p.map PyData.int) := by
  show ((datAll (intL p)).map PyData.tuple).getD .none = _
  rw [datAll_int]; rfl
theorem alike_ints : ∀ p q : List Int, PySem.W.alikeAll (p.map PyData.int) (q.map PyData.int) = true
  | [], _ => by cases ‹List Int› <;> simp [PySem.W.alikeAll]
  | x :: p, [] => by simp [PySem.W.alikeAll]
  | x :: p, y :: q => by
    rw [List.map_cons, List.map_cons, PySem.W.alikeAll, alike_ints p q]; rfl
theorem lt_ints : ∀ p q : List Int, PyProof.Rows.lexLt PyProof.Rows.itemOrd (PySem.W.keyToksAll (p.map PyData.int)) (PySem.W.keyToksAll (q.map PyData.int)) = lexlt p q
  | [], [] => by simp [PySem.W.keyToksAll, PyProof.Rows.lexLt, lexlt, PyProof.Rows.itemOrd, PyProof.Rows.itemLt]
  | [], y :: q => by
    rw [List.map_cons, PySem.W.keyToksAll]
    simp [PySem.W.keyToksAll, PyProof.Rows.lexLt, lexlt, PyProof.Rows.itemOrd, PyProof.Rows.itemLt]
  | x :: p, [] => by
    rw [List.map_cons, PySem.W.keyToksAll]
    simp [PySem.W.keyToksAll, PyProof.Rows.lexLt, lexlt, PyProof.Rows.itemOrd, PyProof.Rows.itemLt]
  | x :: p, y :: q => by
    rw [List.map_cons, List.map_cons, PySem.W.dataLt_cons (by rfl), lt_ints p q, PySem.W.dataLt_int]
    by_cases c : x = y
    · subst c; simp [PyData.eqv, lexlt]
    · simp [PyData.eqv, lexlt, c]
theorem lt_tI (p q : List Int) : PySem.W.dataLt (tI p).enc (tI q).enc = lexlt p q := by
  rw [tI_enc, tI_enc, PySem.W.dataLt_tuple, lt_ints]
def tIs (ps : List (List Int)) : List T := ps.map tI
theorem minOk_tI {ps : List (List Int)} : minOk (tIs ps) = true := by
  have pl : ∀ p : List Int, plns (intL p) = true := fun p => by
    induction p with
    | nil => rfl
    | cons x p ih => rw [intL_cons]; show (true && plns (intL p)) = true; rw [ih]; rfl
  unfold minOk tIs
  simp only [Bool.and_eq_true, List.all_map, List.all_eq_true, Function.comp]
  refine ⟨⟨⟨fun p _ => ?_, fun p _ => pl p⟩, fun p _ q _ => ?_⟩, fun p _ => trivial⟩
  · show doks 59 (intL p) = true
    exact _root_.Fn.Lw.doks_int
  · rw [tI_enc, tI_enc, PySem.W.alike]; exact alike_ints p q
/-- the one that is least -/
theorem minT_of {fl : Fl} {ps : List (List Int)} {m : List Int} (hm : m ∈ ps) (h : ∀ p ∈ ps, p = m ∨ lexlt m p = true) : caMinT [.lst fl (tIs ps)] = .ok (tI m) := by
  have go : ∀ (ps : List (List Int)) (a : List Int), (a = m ∨ m ∈ ps) → (∀ p ∈ a :: ps, p = m ∨ lexlt m p = true) → minT (tI a) (tIs ps) = tI m := by
    intro ps
    induction ps with
    | nil =>
      intro a ha _
      rcases ha with rfl | ha
      · rfl
      · cases ha
    | cons p ps ih =>
      intro a ha hh
      have e : minT (tI a) (tIs (p :: ps)) = minT (tI (if lexlt p a = true then p else a)) (tIs ps) := by
        show (tIs ps).foldl _ (if PySem.W.dataLt (tI p).enc (tI a).enc then tI p else tI a) = _
        rw [lt_tI]
        unfold minT
        congr 1
        split <;> rfl
      rw [e]
      refine ih _ ?_ fun q hq => ?_
      · by_cases c : lexlt p a = true
        · rw [if_pos c]
          rcases ha with rfl | ha
          · rcases hh p (by simp) with z | z
            · exact .inl z
            · rw [lexlt_asymm _ _ z] at c; cases c
          · rcases List.mem_cons.mp ha with z | z
            · exact .inl z.symm
            · exact .inr z
        · rw [if_neg c]
          rcases ha with rfl | ha
          · exact .inl rfl
          · rcases List.mem_cons.mp ha with z | z
            · subst z
              rcases hh a (by simp) with z | z
              · exact .inl z
              · exact absurd z c
            · exact .inr z
      · rcases List.mem_cons.mp hq with z | z
        · subst z
          split <;> exact hh _ (by simp)
        · exact hh q (by simp [z])
  cases ps with
  | nil => cases hm
  | cons a ps =>
    have e := go ps a ((List.mem_cons.mp hm).imp Eq.symm id) h
    have ok : minOk (tIs (a :: ps)) = true := minOk_tI
    have ok' : minOk (tI a :: tIs ps) = true := ok
    show (if minOk (tI a :: tIs ps) = true then Res.ok (minT (tI a) (tIs ps)) else .stuck) = _
    rw [if_pos ok', e]
/-! ### the parts of the law -/
theorem pl_len : ∀ n, (pl n).length = 2 ^ n
  | 0 => rfl
  | n + 1 => by rw [pl, List.length_append, List.length_map, pl_len n, Nat.pow_succ]; omega
theorem pl_plen {n : Nat} {p : List Int} (h : p ∈ pl n) : p.length ≤ n := by
  induction n generalizing p with
  | zero => simp [pl] at h; subst h; simp
  | succ n ih =>
    rw [pl, List.mem_append, List.mem_map] at h
    rcases h with h | ⟨q, h, rfl⟩
    · have := ih h; omega
    · have := ih h; simp; omega
theorem tIs_app (a b : List (List Int)) : tIs (a ++ b) = tIs a ++ tIs b := by simp [tIs]
theorem parts_loop {n : T} : ∀ (m k : Nat) (j2 j3 j4 : Option T), k + m ≤ 9 → ∃ j2', forL (gN 2) _law_parts_L0 (rngTs (k : Int) m) [some n, some (.lst .sh (tIs (pl k))), j2, none, none] = .ok .next [some n, some (.lst .sh (tIs (pl (k + m)))), j2', none, none]
  | 0, k, j2, j3, j4, _ => ⟨j2, rfl⟩
  | m + 1, k, j2, j3, j4, h => by
    obtain ⟨j2', e⟩ := parts_loop (n := n) m (k + 1) (some (.int k)) none none (by omega)
    refine ⟨j2', ?_⟩
    rw [show k + (m + 1) = k + 1 + m by omega, ← e]
    have e1 : rngTs (k : Int) (m + 1) = .int k :: rngTs ((k + 1 : Nat) : Int) m := by
      unfold rngTs
      rw [List.range_succ_eq_map, List.map_cons, List.map_map]
      have h1 : T.int ((k : Int) + ((0 : Nat) : Int)) = T.int k := by simp
      have h2 : (List.range m).map ((fun i : Nat => T.int ((k : Int) + i)) ∘ Nat.succ) = (List.range m).map fun i : Nat => T.int (((k + 1 : Nat) : Int) + i) := by
        apply List.map_congr_left
        intro i _
        show T.int ((k : Int) + ((i + 1 : Nat) : Int)) = T.int (((k + 1 : Nat) : Int) + i)
        congr 1; push_cast; omega
      rw [h1, h2]
    rw [e1]
    have l0 := pl_len k
    have l1 : 2 ^ k ≤ 2 ^ 9 := Nat.pow_le_pow_right (by omega) (by omega)
    refine forL_next (ρ1 := [some n, some (.lst .sh (tIs (pl k))), some (.int k), none, none]) (by simp) (.inl ?_)
    have c : _law_parts_C0 [some n, some (.lst .sh (tIs (pl k))), some (.int k), none, none] = _ := dComp_eq (ρ1 := fun t => [some n, some (.lst .sh (tIs (pl k))), some (.int k), some t, none]) (p := fun _ => true) (u := fun t => match t with | .tup xs => .tup (xs ++ [.int k]) | t => t) (ts := tIs (pl k)) (by simp) (by simp [tIs]; omega) (fun t _ => by simp [wipeE]) (fun t _ => rfl) (fun t ht _ => by
      obtain ⟨p, hp, rfl⟩ := List.mem_map.mp ht
      have := pl_plen hp
      have l2 : p.length + 1 ≤ 10000000 := by omega
      exact ⟨.tup (intL p ++ [.int k]), by simp [l2], rfl⟩)
    have e2 : ((tIs (pl k)).filter fun _ => true).map (fun t => match t with | .tup xs => T.tup (xs ++ [.int k]) | t => t) = tIs ((pl k).map (· ++ [(k : Int)])) := by
      rw [List.filter_eq_self.mpr fun _ _ => rfl]
      unfold tIs
      rw [List.map_map, List.map_map]
      apply List.map_congr_left
      intro p _
      show T.tup (intL p ++ [.int k]) = T.tup (intL (p ++ [(k : Int)]))
      simp
    rw [e2] at c
    unfold _law_parts_L0
    rw [dAsgF_e, dOp_e, c]
    have l3 : (pl k).length + (pl k).length ≤ 10000000 := by omega
    simp only [dVar_e, List.getElem?_cons_succ, List.getElem?_cons_zero, pkd_lsh, Res.bind, opAdd_l]
    rw [if_pos (by simp [tIs]; omega), ← tIs_app]
    rfl
def fS (p : List Int) : T := .tup [.int p.length, tI p]
theorem fS_enc (p : List Int) : (fS p).enc = .tuple [.int p.length, .tuple (p.map PyData.int)] := by
  show ((datAll [.int p.length, tI p]).map PyData.tuple).getD .none = _
  have : datAll [T.int p.length, tI p] = some [.int p.length, .tuple (p.map PyData.int)] := by
    show (match (T.int p.length).dat, datAll [tI p] with | some d, some ds => some (d :: ds) | _, _ => none) = _
    have : datAll [tI p] = some [.tuple (p.map PyData.int)] := by
      show (match (tI p).dat, datAll [] with | some d, some ds => some (d :: ds) | _, _ => none) = _
      have : (tI p).dat = some (.tuple (p.map PyData.int)) := by show (datAll (intL p)).map PyData.tuple = _; rw [datAll_int]; rfl
      rw [this]; rfl
    rw [this]; rfl
  rw [this]; rfl
theorem sortOk_fS {ps : List (List Int)} (h : ps.length ≤ 10000000) : sortOk (ps.map fS) = true := by
  unfold sortOk
  simp only [Bool.and_eq_true, List.all_map, List.all_eq_true, Function.comp, Bool.or_eq_true, decide_eq_true_eq, List.length_map]
  refine ⟨⟨⟨fun p _ => ?_, fun p _ q _ => ?_⟩, .inl fun p _ => rfl⟩, h⟩
  · show (true && (doks 58 (intL p) && true)) = true
    rw [_root_.Fn.Lw.doks_int]; rfl
  · rw [fS_enc, fS_enc]
    have e := alike_ints p q
    simp [PySem.W.alike, PySem.W.alikeAll, e]
theorem parts_e {n : Nat} (hn : n ≤ 9) : ∃ qs : List (List Int), qs.Perm (pl n) ∧ _law_parts [.int n] = .ok (.lst .ow (tIs qs)) := by
  have l0 := pl_len n
  have l1 : 2 ^ n ≤ 2 ^ 9 := Nat.pow_le_pow_right (by omega) (by omega)
  obtain ⟨j2, e⟩ := parts_loop (n := .int n) n 0 none none none (by omega)
  rw [Nat.zero_add] at e
  refine ⟨(pl n).mergeSort fun a b => PySem.W.dataLe false T.enc (fS a) (fS b), List.mergeSort_perm _ _, ?_⟩
  generalize hq : ((pl n).mergeSort fun a b => PySem.W.dataLe false T.enc (fS a) (fS b)) = qs
  have qp : qs.Perm (pl n) := by rw [← hq]; exact List.mergeSort_perm _ _
  have ql := qp.length_eq
  have se : srt ((pl n).map fS) = qs.map fS := by
    unfold srt
    rw [← hq]
    exact (List.map_mergeSort (f := fS) (r := fun a b => PySem.W.dataLe false T.enc (fS a) (fS b)) (s := PySem.W.dataLe false T.enc) (fun a _ b _ => rfl)).symm
  refine dRun_ret (ρ' := [some (.int n), some (.lst .sh (tIs (pl n))), j2, none, none]) ?_
  unfold _law_parts_b
  refine (seq_ok (ρ' := [some (.int n), some (.lst .sh (tIs (pl 0))), none, none, none]) (by simp [tIs, pl])).trans ?_
  refine (seq_ok (ρ' := [some (.int n), some (.lst .sh (tIs (pl n))), j2, none, none]) ?_).trans ?_
  · unfold _law_parts_S1
    rw [dFor_e, dRng1_ok (n := (n : Nat)) (by simp) (by omega) (by omega)]
    simpa using e
  · have c : _law_parts_C2 [some (.int n), some (.lst .sh (tIs (pl n))), j2, none, none] = _ := dComp_eq (ρ1 := fun t => [some (.int n), some (.lst .sh (tIs (pl n))), j2, some t, none]) (p := fun _ => true) (u := fun t => match t with | .tup xs => .tup [.int xs.length, .tup xs] | t => t) (ts := tIs (pl n)) (by simp) (by simp [tIs]; omega) (fun t _ => by simp [wipeE]) (fun t _ => rfl) (fun t ht _ => by
      obtain ⟨p, hp, rfl⟩ := List.mem_map.mp ht
      exact ⟨.tup [.int p.length, tI p], by simp, by show some (T.tup [.int p.length, .tup (intL p)]) = some (T.tup [.int (intL p).length, .tup (intL p)]); rw [intL_len]⟩)
    have e2 : ((tIs (pl n)).filter fun _ => true).map (fun t => match t with | .tup xs => T.tup [.int xs.length, .tup xs] | t => t) = (pl n).map fS := by
      rw [List.filter_eq_self.mpr fun _ _ => rfl]
      unfold tIs
      rw [List.map_map]
      apply List.map_congr_left
      intro p _
      show T.tup [.int (intL p).length, .tup (intL p)] = fS p
      rw [intL_len]; rfl
    rw [e2] at c
    have c2 : _law_parts_C3 [some (.int n), some (.lst .sh (tIs (pl n))), j2, none, none] = _ := dComp_eq (ρ1 := fun t => match t with | .tup [a, b] => [some (.int n), some (.lst .sh (tIs (pl n))), j2, some b, some a] | _ => []) (p := fun _ => true) (u := fun t => match t with | .tup [a, b] => b | t => t) (ts := qs.map fS) (by
        rw [dIt_e, dCa_e, dCons_e, c]
        have so := sortOk_fS (ps := pl n) (by omega)
        simp [caSorted, so, se]) (by rw [List.length_map]; omega) (fun t ht => by
        obtain ⟨p, _, rfl⟩ := List.mem_map.mp ht
        simp [wipeE, fS]) (fun t _ => rfl) (fun t ht _ => by
        obtain ⟨p, _, rfl⟩ := List.mem_map.mp ht
        exact ⟨tI p, by simp [fS], rfl⟩)
    have e3 : ((qs.map fS).filter fun _ => true).map (fun t => match t with | .tup [a, b] => b | t => t) = tIs qs := by
      rw [List.filter_eq_self.mpr fun _ _ => rfl]
      unfold tIs
      rw [List.map_map]; rfl
    rw [e3] at c2
    unfold _law_parts_S2
    rw [dRet_e, c2]; rfl
end Fn.R20

namespace Fn.R20
open PySem PySem.Spec L2 Fn Fn.K
open _root_.Fn.Lw (RowOf)
theorem taken_is : Fn.K._law_taken = Lw._law_taken := rfl
theorem pick_is : Fn.K._law_pick = Lw._law_pick := rfl
theorem alike_is : Fn.K._law_alike = Lw._law_alike := by
  funext n
  induction n with
  | zero => rfl
  | succ n ih => show dRun 4 (Fn.K._law_alike_b (Fn.K._law_alike n)) = dRun 4 (Lw._law_alike_b (Lw._law_alike n)); rw [ih]; rfl
theorem unlike_is : Fn.K._law_unlike = Lw._law_unlike := rfl
abbrev env (s row many sizes room left due at' houses guests some' count parts best bad odd ask k part : Option T) : Env := [s, row, many, sizes, room, left, due, at', houses, guests, some', count, parts, best, bad, odd, ask, k, part]
theorem rngTs_cons (k : Nat) (m : Nat) : rngTs (k : Int) (m + 1) = .int k :: rngTs ((k + 1 : Nat) : Int) m := by
  unfold rngTs
  rw [List.range_succ_eq_map, List.map_cons, List.map_map]
  have h1 : T.int ((k : Int) + ((0 : Nat) : Int)) = T.int k := by simp
  have h2 : (List.range m).map ((fun i : Nat => T.int ((k : Int) + i)) ∘ Nat.succ) = (List.range m).map fun i : Nat => T.int (((k + 1 : Nat) : Int) + i) := by
    apply List.map_congr_left
    intro i _
    show T.int ((k : Int) + ((i + 1 : Nat) : Int)) = T.int (((k + 1 : Nat) : Int) + i)
    congr 1; push_cast; omega
  rw [h1, h2]
theorem at_drop {xs : List Int} {k : Nat} {x : Int} {r : List Int} (hd : xs.drop k = x :: r) : atI (intL xs) (k : Int) = some (.int x) := by
  have kl : k < xs.length := by
    apply Classical.byContradiction
    intro z
    rw [List.drop_eq_nil_of_le (by omega)] at hd; cases hd
  rw [Lw.atI_nat (by simpa using kl)]
  have e : xs[k] = x := by
    have := List.drop_eq_getElem_cons kl
    rw [hd] at this
    exact (List.cons.inj this).1.symm
  simp [intL, e]
section
variable [Tbs] {s row : T}
abbrev e2 (s row : T) (many : Option T) : Env := env (some s) (some row) many none none none none none none none none none none none none none none none none
theorem step1 (hr : Lw.IsRow row) : ∃ row' m, Lw.IsRow row' ∧ 0 < m ∧ m ≤ 30 ∧ law_S1 (e2 s row none) = .ok .next (e2 s row' (some (.int m))) := by
  obtain ⟨r1, v, hr1, v0, v1, e⟩ := Lw.taken_at (j := 1) (ρ := e2 s row none) (f := dC (.int 5)) (m := 5) rfl hr rfl (by omega) (by omega)
  by_cases c : v = 0
  · refine ⟨r1, 30, hr1, by omega, by omega, ?_⟩
    unfold law_S1
    rw [taken_is, dAsgFM_e, dIfM_e, dTestBM_e, dOpM_e, e]
    simp [c, opEq, eqOk, scalT, T.rk]
  · refine ⟨r1, 9, hr1, by omega, by omega, ?_⟩
    unfold law_S1
    rw [taken_is, dAsgFM_e, dIfM_e, dTestBM_e, dOpM_e, e]
    simp [c, opEq, eqOk, scalT, T.rk]
theorem step2 (hr : Lw.IsRow row) {m : Int} (m0 : 0 < m) (m1 : m ≤ 30) : ∃ row' xs, Lw.IsRow row' ∧ Wv xs ∧ law_S2 (e2 s row (some (.int m))) = .ok .next (env (some s) (some row') (some (.int m)) (some (.lst .sh (intL xs))) none none none none none none none none none none none none none none none) := by
  obtain ⟨r1, v, hr1, v0, v1, e⟩ := Lw.taken_at (j := 1) (ρ := e2 s row (some (.int m))) (f := dOp opAdd (dVar 2) (dC (.int 1))) (m := m + 1) rfl hr (by simp) (by omega) (by omega)
  obtain ⟨us, ρ', q1, q2, q3, ⟨r2, hr2, q4⟩⟩ := compLM_inv (tg := gN 17) (tt := dYesM) (el := dOpM opAdd (dUp (dC (.int 1))) (dCallM Lw._law_taken [some 1, none] (dBor 1 (dConsM (dCallM Lw._law_pick [some 1, none] (dBor 1 (dConsM (dUp (dLst (dCons (dC (.int 4)) (dCons (dC (.int 20)) dNil)))) dNilM))) dNilM)))) (own := [17])
    (fun ρ => ∃ row', Lw.IsRow row' ∧ ρ = e2 s row' (some (.int m))) (fun u => ∃ x : Int, u = .int x ∧ Ok x) (rngTs 0 v.toNat) (e2 s r1 (some (.int m))) (fun t _ ρ ⟨row', hrow, er⟩ => by
      subst er
      obtain ⟨ra, y, hra, hy, ea⟩ := Lw.pick_at (j := 1) (ρ := (e2 s row' (some (.int m))).set 17 (some t)) (f := dLst (dCons (dC (.int 4)) (dCons (dC (.int 20)) dNil))) (fl := .ow) (xs := [.int 4, .int 20]) rfl hrow (by simp) (.inl rfl) (by simp) (by simp) (by simp)
      have hy' : ∃ k : Int, y = .int k ∧ 0 < k ∧ k ≤ 20 := by
        simp only [List.mem_cons, List.not_mem_nil, or_false] at hy
        rcases hy with rfl | rfl
        · exact ⟨4, rfl, by omega, by omega⟩
        · exact ⟨20, rfl, by omega, by omega⟩
      obtain ⟨k, rfl, k0, k1⟩ := hy'
      obtain ⟨rb, u, hrb, u0, u1, eb⟩ := Lw.taken_eq hra (m := k) k0 (by omega)
      refine ⟨(e2 s row' (some (.int m))).set 17 (some t), (e2 s rb (some (.int m))).set 17 (some t), .int (1 + u), .int (1 + u), by simp, rfl, ?_, rfl, ⟨1 + u, rfl, ⟨by omega, by omega⟩⟩, rb, hrb, by simp [wipeE]⟩
      rw [dOpM_e, dUp_e]
      simp only [dC_e, Res.bind, np_int, if_true, Res.up, ResM.bind]
      rw [dCallM_e, dBor_e]
      have g : ((e2 s row' (some (.int m))).set 17 (some t))[1]? = some (some row') := rfl
      simp only [g, dConsB_e, dConsM_e, ea]
      simp [eb, ← Lw.wb_one]
      simp [Lw.wb_one]) ⟨r1, hr1, rfl⟩
  have ex : ∀ us : List T, (∀ u ∈ us, ∃ x : Int, u = .int x ∧ Ok x) → ∃ xs, us = intL xs ∧ ∀ x ∈ xs, Ok x := by
    intro us
    induction us with
    | nil => exact fun _ => ⟨[], rfl, fun _ h => by cases h⟩
    | cons u us ih =>
      intro h
      obtain ⟨x, rfl, hx⟩ := h u List.mem_cons_self
      obtain ⟨xs, rfl, hxs⟩ := ih fun w hw => h w (List.mem_cons_of_mem _ hw)
      exact ⟨x :: xs, rfl, fun y hy => by
        rcases List.mem_cons.mp hy with z | z
        · rw [z]; exact hx
        · exact hxs y z⟩
  obtain ⟨xs, rfl, hxs⟩ := ex us q3
  rw [Lw.rngTs_len, intL_len] at q2
  refine ⟨r2, xs, hr2, ⟨by omega, hxs⟩, ?_⟩
  have src : dRngM (dConsM (dCallM Lw._law_taken [some 1, none] (dBor 1 (dConsM (dUp (dOp opAdd (dVar 2) (dC (.int 1)))) dNilM))) dNilM) (e2 s row (some (.int m))) = .ok (rngTs 0 v.toNat) (e2 s r1 (some (.int m))) := by
    rw [dRngM_e, dConsM_e, e]
    simp only [ResM.bind, dNilM_e]
    rw [rngEnd_ok (by omega) (by omega)]
    rfl
  unfold law_S2 law_C0 dCompM
  rw [taken_is, pick_is, dAsgFM_e, src]
  have w : wipeE (e2 s r1 (some (.int m))) [17] = e2 s r1 (some (.int m)) := rfl
  unfold compGo
  simp only [ResM.bind, w]
  rw [if_pos (by rw [Lw.rngTs_len]; omega), q1, q4]
  simp [compEnd, unwipe]
theorem step3 (hr : Lw.IsRow row) {m : T} {xs : List Int} : ∃ row' L, Lw.IsRow row' ∧ 0 ≤ L ∧ L < 200 ∧ law_S3 (env (some s) (some row) (some m) (some (.lst .sh (intL xs))) none none none none none none none none none none none none none none none) = .ok .next (env (some s) (some row') (some m) (some (.lst .sh (intL xs))) (some (.int L)) none none none none none none none none none none none none none none) := by
  obtain ⟨ra, y, hra, hy, ea⟩ := Lw.pick_at (j := 1) (ρ := env (some s) (some row) (some m) (some (.lst .sh (intL xs))) none none none none none none none none none none none none none none none) (f := dLst (dCons (dC (.int 10)) (dCons (dC (.int 40)) (dCons (dC (.int 200)) dNil)))) (fl := .ow) (xs := [.int 10, .int 40, .int 200]) rfl hr (by simp) (.inl rfl) (by simp) (by simp) (by simp)
  have hy' : ∃ k : Int, y = .int k ∧ 0 < k ∧ k ≤ 200 := by
    simp only [List.mem_cons, List.not_mem_nil, or_false] at hy
    rcases hy with rfl | rfl | rfl
    · exact ⟨10, rfl, by omega, by omega⟩
    · exact ⟨40, rfl, by omega, by omega⟩
    · exact ⟨200, rfl, by omega, by omega⟩
  obtain ⟨k, rfl, k0, k1⟩ := hy'
  obtain ⟨rb, u, hrb, u0, u1, eb⟩ := Lw.taken_eq hra (m := k) k0 (by omega)
  refine ⟨rb, u, hrb, u0, by omega, ?_⟩
  unfold law_S3
  rw [taken_is, pick_is, dAsgFM_e, dCallM_e, dBor_e]
  simp only [List.getElem?_cons_succ, List.getElem?_cons_zero, dConsB_e, dConsM_e, ea]
  simp [eb, ← Lw.wb_one]
  simp [Lw.wb_one]
/-- what stands from here on -/
abbrev e5 (s row m : T) (xs : List Int) (L : Int) (left due at' houses guests some' count parts best bad odd ask k part : Option T) : Env := env (some s) (some row) (some m) (some (.lst .sh (intL xs))) (some (.int L)) left due at' houses guests some' count parts best bad odd ask k part
variable {m : T} {xs : List Int} {L : Int}
theorem due_dead : ∀ (r : List Int) (k : Nat) (l d : Int) (j7 : Option T), xs.drop k = r → d < k → ∃ l' j7', forL (gN 7) law_L0 (rngTs (k : Int) r.length) (e5 s row m xs L (some (.int l)) (some (.int d)) j7 none none none none none none none none none none none) = .ok .next (e5 s row m xs L (some (.int l')) (some (.int d)) j7' none none none none none none none none none none none)
  | [], k, l, d, j7, _, _ => ⟨l, j7, rfl⟩
  | x :: r, k, l, d, j7, hd, hk => by
    have hd2 : xs.drop (k + 1) = r := by rw [← List.drop_drop, hd]; rfl
    obtain ⟨l', j7', e⟩ := due_dead r (k + 1) (l - x) d (some (.int k)) hd2 (by push_cast; omega)
    have e1 : rngTs (k : Int) (x :: r).length = .int k :: rngTs ((k + 1 : Nat) : Int) r.length := rngTs_cons _ _
    have at0 : atI (intL xs) (k : Int) = some (.int x) := at_drop hd
    have ne : ¬ d = (k : Int) := by omega
    refine ⟨l', j7', ?_⟩
    rw [e1, ← e]
    refine forL_next (ρ1 := e5 s row m xs L (some (.int l)) (some (.int d)) (some (.int k)) none none none none none none none none none none none) (by simp) (.inl ?_)
    unfold law_L0
    refine (seq_ok (ρ' := e5 s row m xs L (some (.int (l - x))) (some (.int d)) (some (.int k)) none none none none none none none none none none none) (by simp [at0])).trans ?_
    by_cases c : x ≤ l
    · simp [c, ne, opEq, eqOk, scalT, T.rk]
    · simp [c]
theorem due_live : ∀ (r : List Int) (k : Nat) (l : Int) (j7 : Option T), xs.drop k = r → ∃ l' j7', forL (gN 7) law_L0 (rngTs (k : Int) r.length) (e5 s row m xs L (some (.int l)) (some (.int k)) j7 none none none none none none none none none none none) = .ok .next (e5 s row m xs L (some (.int l')) (some (.int ((k : Int) + nw r l))) j7' none none none none none none none none none none none)
  | [], k, l, j7, _ => ⟨l, j7, by simp [nw, rngTs]⟩
  | x :: r, k, l, j7, hd => by
    have hd2 : xs.drop (k + 1) = r := by rw [← List.drop_drop, hd]; rfl
    have e1 : rngTs (k : Int) (x :: r).length = .int k :: rngTs ((k + 1 : Nat) : Int) r.length := rngTs_cons _ _
    have at0 : atI (intL xs) (k : Int) = some (.int x) := at_drop hd
    have nc : nw (x :: r) l = if l - x < 0 then 0 else 1 + nw r (l - x) := rfl
    by_cases c : x ≤ l
    · obtain ⟨l', j7', e⟩ := due_live r (k + 1) (l - x) (some (.int k)) hd2
      refine ⟨l', j7', ?_⟩
      have e3 : ((k : Int) + (nw (x :: r) l : Int)) = (((k + 1 : Nat) : Int) + nw r (l - x)) := by rw [nc, if_neg (by omega)]; push_cast; omega
      rw [e1, e3, ← e]
      refine forL_next (ρ1 := e5 s row m xs L (some (.int l)) (some (.int k)) (some (.int k)) none none none none none none none none none none none) (by simp) (.inl ?_)
      unfold law_L0
      refine (seq_ok (ρ' := e5 s row m xs L (some (.int (l - x))) (some (.int k)) (some (.int k)) none none none none none none none none none none none) (by simp [at0])).trans ?_
      simp [c, opEq, eqOk, scalT, T.rk]
    · obtain ⟨l', j7', e⟩ := due_dead (s := s) (row := row) (m := m) (L := L) r (k + 1) (l - x) (k : Int) (some (.int k)) hd2 (by push_cast; omega)
      refine ⟨l', j7', ?_⟩
      have e3 : ((k : Int) + (nw (x :: r) l : Int)) = (k : Int) := by rw [nc, if_pos (by omega)]; simp
      rw [e1, e3, ← e]
      refine forL_next (ρ1 := e5 s row m xs L (some (.int l)) (some (.int k)) (some (.int k)) none none none none none none none none none none none) (by simp) (.inl ?_)
      unfold law_L0
      refine (seq_ok (ρ' := e5 s row m xs L (some (.int (l - x))) (some (.int k)) (some (.int k)) none none none none none none none none none none none) (by simp [at0])).trans ?_
      simp [c]
theorem step5 (h : Wv xs) : ∃ l' j7, law_S5 (e5 s row m xs L (some (.int L)) (some (.int 0)) none none none none none none none none none none none none) = .ok .next (e5 s row m xs L (some (.int l')) (some (.int (nw xs L))) j7 none none none none none none none none none none none) := by
  obtain ⟨l', j7, e⟩ := due_live (s := s) (row := row) (m := m) (xs := xs) (L := L) xs 0 L none (by simp)
  refine ⟨l', j7, ?_⟩
  have hl := h.len
  unfold law_S5
  rw [dFor_e, dRng1_ok (n := (xs.length : Nat)) (by simp) (by omega) (by omega)]
  simpa using e
variable {left at' : Option T}
theorem step6 (h : Wv xs) (h0 : 0 ≤ L) (h1 : L < 200) : law_S6 (e5 s row m xs L left (some (.int (nw xs L))) at' none none none none none none none none none none none) = .ok .next (e5 s row m xs L left (some (.int (nw xs L))) at' none none none none none none none none none none none) := by
  have al := Lw.alike_refl 2 _ (Lw.Alk.int 2 (nw xs L : Int))
  rw [← alike_is] at al
  have e := next_e (A := .tup (intL xs)) (.inr rfl) h h0 (by omega)
  simp [e, al]
abbrev hs (xs : List Int) (L : Int) : List Int := mh sortI 0 xs L
abbrev gs (xs : List Int) (L : Int) : List Int := mg 0 xs (bst xs L)
theorem step7 (h : Wv xs) (h0 : 0 ≤ L) (h1 : L < 200) {due : Option T} : law_S7 (e5 s row m xs L left due at' none none none none none none none none none none none) = .ok .next (e5 s row m xs L left due at' (some (tI (hs xs L))) (some (tI (gs xs L))) none none none none none none none none none) := by
  have q1 := houses_e (A := .lst .sh (intL xs)) (.inl rfl) h h0 (by omega)
  have q2 := guests_e (A := .tup (intL xs)) (.inr rfl) h h0 (by omega)
  simp [q1, q2]
end
end Fn.R20

namespace Fn.R20
open PySem PySem.Spec L2 Fn Fn.K
open _root_.Fn.Lw (RowOf)
def vals (xs p : List Int) : List Int := p.map fun i => xs.getD (i - 0).toNat 0
theorem vals_sum (xs p : List Int) : (vals xs p).sum = ps 0 xs p := rfl
theorem at_in {xs : List Int} {i : Int} (h : 0 ≤ i ∧ i < xs.length) : atI (intL xs) i = some (.int (xs.getD (i - 0).toNat 0)) := by
  have e : i = ((i.toNat : Nat) : Int) := by omega
  have hl : i.toNat < xs.length := by omega
  rw [e, Lw.atI_nat (by simpa using hl)]
  have e2 : (((i.toNat : Nat) : Int) - 0).toNat = i.toNat := by omega
  rw [e2]
  simp [intL, List.getD_eq_getElem?_getD, List.getElem?_eq_getElem hl]
theorem pick_c {xs p : List Int} {ρ : Env} {v : Nat} (hl : ρ.length = 19) (h3 : ρ[3]? = some (some (.lst .sh (intL xs)))) (hv : ρ[v]? = some (some (tI p))) (hi : ∀ i ∈ p, 0 ≤ i ∧ i < xs.length) (few : p.length ≤ 10000000) :
    dComp (dIt false (dVar v)) (gN 7) dYes (dIx (dVar 3) (dVar 7)) [7] ρ = .ok (.lst .ow (intL (vals xs p))) := by
  have c := dComp_eq (src := dIt false (dVar v)) (tg := gN 7) (tt := dYes) (el := dIx (dVar 3) (dVar 7)) (own := [7]) (ρ := ρ) (ρ1 := fun t => (ρ.set 7 none).set 7 (some t)) (p := fun _ => true) (u := fun t => match t with | .int i => .int (xs.getD (i - 0).toNat 0) | t => t) (ts := intL p) (by
    rw [dIt_e, dVar_e, hv]; rfl) (by simpa using few) (fun t _ => by
    show (if 7 < (ρ.set 7 none).length then some ((ρ.set 7 none).set 7 (some t)) else none) = _
    rw [if_pos (by rw [List.length_set, hl]; omega)]) (fun t _ => rfl) (fun t ht _ => by
    obtain ⟨i, hm, rfl⟩ := List.mem_map.mp ht
    refine ⟨.int (xs.getD (i - 0).toNat 0), ?_, rfl⟩
    have g3 : ((ρ.set 7 none).set 7 (some (T.int i)))[3]? = some (some (.lst .sh (intL xs))) := by
      rw [List.getElem?_set_ne (by omega), List.getElem?_set_ne (by omega)]; exact h3
    have g7 : ((ρ.set 7 none).set 7 (some (T.int i)))[7]? = some (some (.int i)) := List.getElem?_set_self (by rw [List.length_set, hl]; omega)
    rw [dIx_e, dVar_e, dVar_e, g3, g7]
    simp only [pkd_lsh, pkd_int, Res.bind, opIx_l, at_in (hi i hm)])
  rw [c, List.filter_eq_self.mpr fun _ _ => rfl]
  unfold intL vals
  rw [List.map_map, List.map_map]
  rfl
section
variable [Tbs] {s row m : T} {xs : List Int} {L : Int} {left due at' : Option T}
theorem hs_is (h : Wv xs) (h0 : 0 ≤ L) : Inc 0 xs.length (hs xs L) ∧ ps 0 xs (hs xs L) ≤ L ∧ (hs xs L).length = nw (sortI xs) L := by
  obtain ⟨t, h1, h2, h3⟩ := mh_is so_ok xs 0 L h0 h.pos
  obtain ⟨q1, q2⟩ := h1.inc
  rw [Int.zero_add] at q1
  exact ⟨q1, by rw [← q2]; exact h2, h3⟩
theorem gs_is (h : Wv xs) (h0 : 0 ≤ L) : Inc 0 xs.length (gs xs L) ∧ ps 0 xs (gs xs L) = bst xs L := by
  obtain ⟨q1, q2⟩ := (mg_is xs 0 (bst xs L) h.pos (bst_is h.pos h0).1).inc
  rw [Int.zero_add] at q1
  exact ⟨q1, q2.symm⟩
theorem asc_of {p : List Int} (h : p.Pairwise (· < ·)) : ascI p = p := by
  have nd : p.Nodup := h.imp fun z => by omega
  have pm : (ascI p).Perm p := (List.perm_ext_iff_of_nodup (ascI_nodup p) nd).mpr fun a => ascI_mem p a
  exact List.Perm.eq_of_pairwise (le := ltI) (fun a b _ _ h h' => by have := ltI_iff.mp h; have := ltI_iff.mp h'; omega) (ascI_pw p) (h.imp fun z => ltI_iff.mpr z) pm
theorem inc_len {n : Nat} {p : List Int} (h : Inc 0 n p) : p.length ≤ n := by
  exact nodup_bound n p (h.1.imp fun z => by omega) h.2
abbrev e8 (s row m : T) (xs : List Int) (L : Int) (left due at' some' count parts best bad odd ask : Option T) : Env := e5 s row m xs L left due at' (some (tI (hs xs L))) (some (tI (gs xs L))) some' count parts best bad odd ask none none
theorem look_e (h : Wv xs) {p : List Int} (hi : Inc 0 xs.length p) (hp : ps 0 xs p ≤ L) : law_L1 (e8 s row m xs L left due at' (some (tI p)) none none none none none none) = .ok .next (e8 s row m xs L left due at' (some (tI p)) none none none none none none) := by
  have pl := inc_len hi
  have hl := h.len
  have eu : _law_unlike [tI p] = .ok (.lst .ow (intL p)) := by
    have := Lw.unlike_eA (A := tI p) (xs := p) rfl (fun _ _ => trivial) (by omega)
    rw [asc_of hi.1] at this
    exact this
  have c1 : law_C1 (e8 s row m xs L left due at' (some (tI p)) none none none none none none) = _ := dComp_eq (ρ1 := fun t => e8 s row m xs L left due (some t) (some (tI p)) none none none none none none) (p := fun _ => false) (u := id) (ts := intL p) (by simp) (by rw [intL_len]; omega) (fun t _ => by simp [wipeE]) (fun t ht => by
    obtain ⟨i, hm, rfl⟩ := List.mem_map.mp ht
    obtain ⟨i0, i1⟩ := hi.2 i hm
    simp [i0, i1]) (fun t _ h => by cases h)
  have f : (intL p).filter (fun _ => false) = [] := by simp
  rw [f, List.map_nil] at c1
  have c2 : law_C2 (e8 s row m xs L left due at' (some (tI p)) none none none none none none) = _ := pick_c (xs := xs) (p := p) rfl rfl rfl hi.2 (by omega)
  unfold law_L1
  refine (seq_ok (ρ' := e8 s row m xs L left due at' (some (tI p)) none none none none none none) ?_).trans ?_
  · have t3 : dTestB (dOp opNe law_C1 (dLst dNil)) (e8 s row m xs L left due at' (some (tI p)) none none none none none none) = .ok false := by
      rw [dTestB_e, dOp_e, c1]; simp [opNe, eqOk, T.dok, doks, T.eqv, eqvs]
    have t2 : dTestB (dOp opNe (dCa caList (dCons (dVar 10) dNil)) (dCall _law_unlike (dCons (dVar 10) dNil))) (e8 s row m xs L left due at' (some (tI p)) none none none none none none) = .ok false := by
      simp [eu, opNe, eqOk, T.dok, Lw.doks_int, T.eqv, Lw.eqvs_intL]
    have t1 : dNotT (dTest (dIsi ["tuple"] (dVar 10))) (e8 s row m xs L left due at' (some (tI p)) none none none none none none) = .ok false := by simp [subT]
    rw [dIfS_e, dOrT_e, t1]
    simp only [Res.bind, Bool.false_eq_true, if_false]
    rw [dOrT_e, t2]
    simp only [Res.bind, Bool.false_eq_true, if_false]
    rw [t3]
    rfl
  · have g : ¬ L < ps 0 xs p := by omega
    have t : dTestB (dOp opGt (dCa caSum (dCons law_C2 dNil)) (dVar 4)) (e8 s row m xs L left due at' (some (tI p)) none none none none none none) = .ok false := by
      rw [dTestB_e, dOp_e, dCa_e, dCons_e, c2]
      simp [Lw.caSum_l, vals_sum, g]
    rw [dIfS_e, t]
    rfl
theorem step8 (h : Wv xs) (h0 : 0 ≤ L) : law_S8 (e8 s row m xs L left due at' none none none none none none none) = .ok .next (e8 s row m xs L left due at' (some (tI (gs xs L))) none none none none none none) := by
  obtain ⟨a1, a2, _⟩ := hs_is h h0
  obtain ⟨b1, b2⟩ := gs_is h h0
  have b3 := (bst_is h.pos h0).2.1
  unfold law_S8
  rw [dFor_e]
  have src : dIt true (dLst (dCons (dVar 8) (dCons (dVar 9) dNil))) (e8 s row m xs L left due at' none none none none none none none) = .ok [tI (hs xs L), tI (gs xs L)] := by simp
  rw [src]
  simp only [Res.st]
  refine (forL_next (ρ1 := e8 s row m xs L left due at' (some (tI (hs xs L))) none none none none none none) (by simp) (.inl (look_e h a1 a2))).trans ?_
  refine (forL_next (ρ1 := e8 s row m xs L left due at' (some (tI (gs xs L))) none none none none none none) (by simp) (.inl (look_e h b1 (by omega)))).trans ?_
  rfl
theorem filter_lt (n c : Nat) (h : c ≤ n) : ((List.range n).filter fun i => decide (i + 1 ≤ c)).length = c := by
  induction n generalizing c with
  | zero => have : c = 0 := by omega
            subst this; rfl
  | succ n ih =>
    rw [List.range_succ, List.filter_append, List.length_append]
    by_cases q : c = n + 1
    · subst q
      have e : (List.range n).filter (fun i => decide (i + 1 ≤ n + 1)) = List.range n := List.filter_eq_self.mpr fun i hi => by have := List.mem_range.mp hi; simp; omega
      rw [e]; simp
    · rw [ih c (by omega)]
      have : ¬ (n + 1 ≤ c) := by omega
      simp [this]
theorem step9 (h : Wv xs) (h0 : 0 ≤ L) {some' : Option T} : law_S9 (e8 s row m xs L left due at' some' none none none none none none) = .ok .next (e8 s row m xs L left due at' some' (some (.int (nw (sortI xs) L))) none none none none none) := by
  have hl := h.len
  have c : law_C3 (e8 s row m xs L left due at' some' none none none none none none) = _ := dComp_eq (ρ1 := fun t => e8 s row m xs L left due (some t) some' none none none none none none) (p := fun t => match t with | .int i => decide (i.toNat + 1 ≤ nw (sortI xs) L) | _ => false) (u := id) (ts := rngTs 0 xs.length) (by
      rw [dRng1_ok (n := (xs.length : Nat)) (by simp) (by omega) (by omega), Int.toNat_natCast]) (by rw [Lw.rngTs_len]; omega) (fun t _ => by simp [wipeE]) (fun t ht => by
    obtain ⟨i, hi, rfl⟩ := Lw.rngTs_mem ht
    have e1 : cutT (intL (sortI xs)) none (some ((i : Int) + 1)) = intL ((sortI xs).take (i + 1)) := by rw [Lw.cut_take' (i + 1) _ (by push_cast; rfl), Lw.intL_take]
    have e2 := nw_iff (sortI xs) L (i + 1) (fun y hy => h.pos y (sortI_mem.mp hy)) h0 (by rw [sortI_len]; omega)
    have e3 : decide (((sortI xs).take (i + 1)).sum ≤ L) = decide (i + 1 ≤ nw (sortI xs) L) := decide_eq_decide.mpr e2
    have so' : caSorted [.lst .sh (intL xs)] = .ok (.lst .ow (intL (sortI xs))) := caSorted_li (by omega)
    simp only [dTestB_e, dOp_e, dCa_e, dCons_e, dSl_e, dVar_e, List.getElem?_cons_succ, List.getElem?_cons_zero, pkd_lsh, pkd_int, Res.bind, dNil_e, so', dNoPart_e, dPart_e, dC_e, opAdd_i, opSl_l, e1, Lw.caSum_l, opLe_i, isBl_e, e3, Int.toNat_natCast]) (fun t ht _ => by
    obtain ⟨i, hi, rfl⟩ := Lw.rngTs_mem ht
    exact ⟨.int i, by simp, rfl⟩)
  unfold law_S9
  rw [dAsgF_e, dCa_e, dCons_e, c]
  have len : (((rngTs 0 xs.length).filter fun t => match t with | .int i => decide (i.toNat + 1 ≤ nw (sortI xs) L) | _ => false).map id).length = nw (sortI xs) L := by
    rw [List.length_map]
    unfold rngTs
    rw [List.filter_map, List.length_map]
    have := filter_lt xs.length (nw (sortI xs) L) (by have := nw_le (sortI xs) L; rw [sortI_len] at this; exact this)
    refine Eq.trans ?_ this
    refine congrArg List.length (congrArg (fun q => List.filter q (List.range xs.length)) (funext fun i => ?_))
    show decide ((0 + (i : Int)).toNat + 1 ≤ nw (sortI xs) L) = decide (i + 1 ≤ nw (sortI xs) L)
    rw [show (0 + (i : Int)).toNat = i by omega]
  simp only [Res.bind, dNil_e, caLen_l, len, Res.st, asgFEnd_e, frz_int]
  rfl
theorem step10 (h : Wv xs) (h0 : 0 ≤ L) (h1 : L < 200) {some' : Option T} : law_S10 (e8 s row m xs L left due at' some' (some (.int (nw (sortI xs) L))) none none none none none) = .ok .next (e8 s row m xs L left due at' some' (some (.int (nw (sortI xs) L))) none none none none none) := by
  obtain ⟨a1, a2, a3⟩ := hs_is h h0
  obtain ⟨b1, b2⟩ := gs_is h h0
  have hl := h.len
  have gl := inc_len b1
  have c : law_C4 (e8 s row m xs L left due at' some' (some (.int (nw (sortI xs) L))) none none none none none) = _ := pick_c (xs := xs) (p := gs xs L) rfl rfl rfl b1.2 (by omega)
  have r := reach_e (A := .lst .sh (intL xs)) (.inl rfl) h.pos h0 (by omega)
  have t1 : dTestB (dOp opNe (dCa caLen (dCons (dVar 8) dNil)) (dVar 11)) (e8 s row m xs L left due at' some' (some (.int (nw (sortI xs) L))) none none none none none) = .ok false := by
    simp [a3, opNe, eqOk, scalT, T.rk]
  have t2 : dTestB (dOp opNe (dCa caSum (dCons law_C4 dNil)) (dCall _law_reach (dCons (dVar 3) (dCons (dVar 4) dNil)))) (e8 s row m xs L left due at' some' (some (.int (nw (sortI xs) L))) none none none none none) = .ok false := by
    rw [dTestB_e, dOp_e, dCa_e, dCons_e, c]
    simp [Lw.caSum_l, vals_sum, b2, r, opNe, eqOk, scalT, T.rk]
  unfold law_S10
  rw [dIfS_e, dOrT_e, t1]
  simp only [Res.bind, Bool.false_eq_true, if_false]
  rw [t2]
  rfl
end
end Fn.R20

namespace Fn.R20
open PySem PySem.Spec L2 Fn Fn.K
open _root_.Fn.Lw (RowOf)
section
variable [Tbs] {s row m : T} {xs : List Int} {L : Int} {left due at' some' : Option T}
abbrev e11 (s row m : T) (xs : List Int) (L : Int) (left due at' some' parts best part : Option T) : Env := e5 s row m xs L left due at' (some (tI (hs xs L))) (some (tI (gs xs L))) some' (some (.int (nw (sortI xs) L))) parts best none none none none part
theorem tIs_len (ps : List (List Int)) : (tIs ps).length = ps.length := by simp [tIs]
theorem tIs_filter (q : List Int → Bool) (f : T → Bool) (hf : ∀ p, f (tI p) = q p) (ps : List (List Int)) : (tIs ps).filter f = tIs (ps.filter q) := by
  unfold tIs
  rw [List.filter_map]
  refine congrArg _ (congrArg (fun g => List.filter g ps) (funext fun p => hf p))
theorem sum_test {p : List Int} {parts best : Option T} (hi : ∀ i ∈ p, 0 ≤ i ∧ i < xs.length) (few : p.length ≤ 10000000) : dCa caSum (dCons (dComp (dIt false (dVar 18)) (gN 7) dYes (dIx (dVar 3) (dVar 7)) [7]) dNil) (e11 s row m xs L left due at' some' parts best (some (tI p))) = .ok (.int (ps 0 xs p)) := by
  rw [dCa_e, dCons_e, pick_c (xs := xs) (p := p) rfl rfl rfl hi few]
  simp only [Res.bind, dNil_e, Lw.caSum_l, vals_sum]
theorem if_yes {c : Env → Res Bool} {a b : Env → ResS} {ρ : Env} (h : c ρ = .ok true) : dIfS c a b ρ = a ρ := by rw [dIfS_e, h]; rfl
theorem if_no {c : Env → Res Bool} {a : Env → ResS} {ρ : Env} (h : c ρ = .ok false) : dIfS c a dNop ρ = .ok .next ρ := by rw [dIfS_e, h]; rfl
theorem asgF_ok {f : Env → Res T} {i : Nat} {t t' : T} {ρ : Env} (h : f ρ = .ok t) (z : t.frz = some t') : dAsgF i f ρ = .ok .next (ρ.set i (some t')) := by rw [dAsgF_e, h]; simp [z]
theorem ca_one {F : List T → Res T} {f : Env → Res T} {t u : T} {ρ : Env} (h : f ρ = .ok t) (q : F [t] = .ok u) : dCa F (dCons f dNil) ρ = .ok u := by rw [dCa_e, dCons_e, h]; simpa using q
theorem ne_no {f : Env → Res T} {v : Nat} {t u : T} {ρ : Env} (h : ρ[v]? = some (some t)) (hp : t.pkd = t) (q : f ρ = .ok u) (n : opNe t u = .ok (.bl false)) : dTestB (dOp opNe (dVar v) f) ρ = .ok false := by
  rw [dTestB_e, dOp_e, dVar_e, h, q]
  simp only [Res.bind_ok, hp, n, isBl_e]
theorem ten_yes {parts best : Option T} (c9' : (xs.length : Int) < 10) : dTestB (dOp opLt (dCa caLen (dCons (dVar 3) dNil)) (dC (.int 10))) (e11 s row m xs L left due at' some' parts best none) = .ok true := by simp [c9']
theorem parts_a : (dCons (dCa caLen (dCons (dVar 3) dNil)) dNil) (e11 s row m xs L left due at' some' none none none) = .ok [.int xs.length] := by simp
theorem parts_b {F : List T → Res T} {r : T} {ρ : Env} {t : T} (a : (dCons (dCa caLen (dCons (dVar 3) dNil)) dNil) ρ = .ok [.int xs.length]) (qe : F [.int xs.length] = .ok r) : dCall F (dCons (dCa caLen (dCons (dVar 3) dNil)) dNil) ρ = .ok r := by
    rw [dCall_e, a]
    simp only [Res.bind_ok, frzs_cons, frz_int, frzs_nil]
    exact qe
theorem parts_c {f : Env → Res T} {ρ : Env} {ts : List T} (b : f ρ = .ok (.lst .ow ts)) : dIt false f ρ = .ok ts := by
  rw [dIt_e, b]
  simp only [Res.bind_ok, Bool.false_and, Bool.false_eq_true, if_false, iter_lst]
theorem parts_src {qs : List (List Int)} (qe : _law_parts [.int xs.length] = .ok (.lst .ow (tIs qs))) : dIt false (dCall _law_parts (dCons (dCa caLen (dCons (dVar 3) dNil)) dNil)) (e11 s row m xs L left due at' some' none none none) = .ok (tIs qs) := parts_c (parts_b (t := .non) parts_a qe)
theorem parts_fit {qs : List (List Int)} (ql : qs.length ≤ 512) (qi : ∀ p ∈ qs, Inc 0 xs.length p) (qf : ∀ p ∈ qs, p.length ≤ 10000000) (srcA : dIt false (dCall _law_parts (dCons (dCa caLen (dCons (dVar 3) dNil)) dNil)) (e11 s row m xs L left due at' some' none none none) = .ok (tIs qs)) : law_C7 (e11 s row m xs L left due at' some' none none none) = .ok (.lst .ow (tIs (qs.filter fun p => decide (ps 0 xs p ≤ L)))) := by
  have z := dComp_eq (src := dIt false (dCall _law_parts (dCons (dCa caLen (dCons (dVar 3) dNil)) dNil))) (tg := gN 18) (tt := dTestB (dOp opLe (dCa caSum (dCons law_C6 dNil)) (dVar 4))) (el := dVar 18) (own := [18]) (ρ := e11 s row m xs L left due at' some' none none none) (ρ1 := fun t => e11 s row m xs L left due at' some' none none (some t)) (p := fun t => match t with | .tup ts => (match T.ints ts with | some p => decide (ps 0 xs p ≤ L) | none => false) | _ => false) (u := id) (ts := tIs qs) srcA (by rw [tIs_len]; omega) (fun t _ => by simp [wipeE]) (fun t ht => by
    obtain ⟨p, hp, rfl⟩ := List.mem_map.mp ht
    rw [dTestB_e, dOp_e, sum_test (qi p hp).2 (qf p hp)]
    simp [Lw.ints_intL]) (fun t ht _ => by
    obtain ⟨p, hp, rfl⟩ := List.mem_map.mp ht
    exact ⟨tI p, by simp, rfl⟩)
  unfold law_C7
  rw [z, List.map_id, tIs_filter (fun p => decide (ps 0 xs p ≤ L)) _ (fun p => by simp [Lw.ints_intL])]
theorem parts_core (h : Wv xs) (h0 : 0 ≤ L) (h1 : L < 200) (c9' : (xs.length : Int) < 10) {qs : List (List Int)} (ql : qs.length ≤ 512) (qi : ∀ p ∈ qs, Inc 0 xs.length p) (qf : ∀ p ∈ qs, p.length ≤ 10000000) (qm : ∀ {p : List Int} {t : Int}, Pt 0 xs p t → p ∈ qs ∧ t = ps 0 xs p) (qt : ∀ p ∈ qs, Pt 0 xs p (ps 0 xs p)) (cA : law_C7 (e11 s row m xs L left due at' some' none none none) = .ok (.lst .ow (tIs (qs.filter fun p => decide (ps 0 xs p ≤ L))))) : ∃ parts best, law_S11 (e11 s row m xs L left due at' some' none none none) = .ok .next (e11 s row m xs L left due at' some' parts best none) := by
  obtain ⟨B1, B2, B3, _⟩ := bst_is h.pos h0
  generalize hF : (qs.filter fun p => decide (ps 0 xs p ≤ L)) = F at cA
  have memF : ∀ p, p ∈ F ↔ p ∈ qs ∧ ps 0 xs p ≤ L := fun p => by rw [← hF]; simp
  have lF : F.length ≤ 512 := by rw [← hF]; exact Nat.le_trans (List.length_filter_le _ _) ql
  -- the best sum
  have cB : law_C10 (e11 s row m xs L left due at' some' (some (.lst .sh (tIs F))) none none) = .ok (.lst .ow (intL (F.map (ps 0 xs)))) := by
    have z := dComp_eq (src := dIt false (dVar 12)) (tg := gN 18) (tt := dYes) (el := dCa caSum (dCons law_C9 dNil)) (own := [18]) (ρ := e11 s row m xs L left due at' some' (some (.lst .sh (tIs F))) none none) (ρ1 := fun t => e11 s row m xs L left due at' some' (some (.lst .sh (tIs F))) none (some t)) (p := fun _ => true) (u := fun t => match t with | .tup ts => (match T.ints ts with | some p => .int (ps 0 xs p) | none => .non) | _ => .non) (ts := tIs F) (by simp) (by rw [tIs_len]; omega) (fun t _ => by simp [wipeE]) (fun t _ => rfl) (fun t ht _ => by
      obtain ⟨p, hp, rfl⟩ := List.mem_map.mp ht
      have hp' := ((memF p).mp hp).1
      exact ⟨.int (ps 0 xs p), sum_test (qi p hp').2 (qf p hp'), by simp [Lw.ints_intL]⟩)
    have z2 : ((tIs F).filter fun _ => true).map (fun t => match t with | .tup ts => (match T.ints ts with | some p => T.int (ps 0 xs p) | none => .non) | _ => .non) = intL (F.map (ps 0 xs)) := by
      rw [List.filter_eq_self.mpr fun _ _ => rfl]
      unfold tIs intL
      rw [List.map_map, List.map_map]
      apply List.map_congr_left
      intro p _
      show (match T.ints (intL p) with | some p => T.int (ps 0 xs p) | none => .non) = T.int (ps 0 xs p)
      rw [Lw.ints_intL]
    unfold law_C10
    rw [z, z2]
  have mx : caMax [.lst .ow (intL (F.map (ps 0 xs)))] = .ok (.int (bst xs L)) := by
    refine Lw.caMax_of ?_ fun y hy => ?_
    · obtain ⟨p, hp⟩ := sums_iff (k := 0).mp B1
      obtain ⟨a, b⟩ := qm hp
      exact List.mem_map.mpr ⟨p, (memF p).mpr ⟨a, by omega⟩, b.symm⟩
    · obtain ⟨p, hp, rfl⟩ := List.mem_map.mp hy
      obtain ⟨a, b⟩ := (memF p).mp hp
      exact B3 _ (sums_iff (k := 0).mpr ⟨p, qt p a⟩) b
  obtain ⟨a1, a2, a3⟩ := hs_is h h0
  obtain ⟨b1, b2⟩ := gs_is h h0
  -- the least of the largest
  have cC : law_C11 (e11 s row m xs L left due at' some' (some (.lst .sh (tIs F))) (some (.int (bst xs L))) none) = .ok (.lst .ow (tIs (F.filter fun p => decide (p.length = nw (sortI xs) L)))) := by
    have z := dComp_eq (src := dIt false (dVar 12)) (tg := gN 18) (tt := dTestB (dOp opEq (dCa caLen (dCons (dVar 18) dNil)) (dVar 11))) (el := dVar 18) (own := [18]) (ρ := e11 s row m xs L left due at' some' (some (.lst .sh (tIs F))) (some (.int (bst xs L))) none) (ρ1 := fun t => e11 s row m xs L left due at' some' (some (.lst .sh (tIs F))) (some (.int (bst xs L))) (some t)) (p := fun t => match t with | .tup ts => decide (ts.length = nw (sortI xs) L) | _ => false) (u := id) (ts := tIs F) (by simp) (by rw [tIs_len]; omega) (fun t _ => by simp [wipeE]) (fun t ht => by
      obtain ⟨p, hp, rfl⟩ := List.mem_map.mp ht
      have e : ((p.length : Int) == (nw (sortI xs) L : Int)) = decide (p.length = nw (sortI xs) L) := by
        by_cases q : p.length = nw (sortI xs) L
        · simp [q]
        · have : ¬ (p.length : Int) = (nw (sortI xs) L : Int) := by omega
          simp [q, this]
      simp [opEq, eqOk, scalT, T.rk, e]) (fun t ht _ => by
      obtain ⟨p, hp, rfl⟩ := List.mem_map.mp ht
      exact ⟨tI p, by simp, rfl⟩)
    unfold law_C11
    rw [z, List.map_id, tIs_filter (fun p => decide (p.length = nw (sortI xs) L)) _ (fun p => by simp)]
  have mC : caMinT [.lst .ow (tIs (F.filter fun p => decide (p.length = nw (sortI xs) L)))] = .ok (tI (hs xs L)) := by
    refine minT_of ?_ fun p hp => ?_
    · have q := inc_pt (xs := xs) (p := hs xs L) (k := 0) (by rw [Int.zero_add]; exact a1)
      simp only [List.mem_filter, decide_eq_true_eq]
      exact ⟨(memF _).mpr ⟨(qm q).1, a2⟩, a3⟩
    · simp only [List.mem_filter, decide_eq_true_eq] at hp
      obtain ⟨a, b⟩ := (memF p).mp hp.1
      exact mh_least so_ok xs 0 L h0 h.pos (qt p a) b hp.2
  have cD : law_C14 (e11 s row m xs L left due at' some' (some (.lst .sh (tIs F))) (some (.int (bst xs L))) none) = .ok (.lst .ow (tIs (F.filter fun p => decide (ps 0 xs p = bst xs L)))) := by
    have z := dComp_eq (src := dIt false (dVar 12)) (tg := gN 18) (tt := dTestB (dOp opEq (dCa caSum (dCons law_C13 dNil)) (dVar 13))) (el := dVar 18) (own := [18]) (ρ := e11 s row m xs L left due at' some' (some (.lst .sh (tIs F))) (some (.int (bst xs L))) none) (ρ1 := fun t => e11 s row m xs L left due at' some' (some (.lst .sh (tIs F))) (some (.int (bst xs L))) (some t)) (p := fun t => match t with | .tup ts => (match T.ints ts with | some p => decide (ps 0 xs p = bst xs L) | none => false) | _ => false) (u := id) (ts := tIs F) (by simp) (by rw [tIs_len]; omega) (fun t _ => by simp [wipeE]) (fun t ht => by
      obtain ⟨p, hp, rfl⟩ := List.mem_map.mp ht
      have hp' := ((memF p).mp hp).1
      have e : (ps 0 xs p == bst xs L) = decide (ps 0 xs p = bst xs L) := by
        by_cases q : ps 0 xs p = bst xs L
        · simp [q]
        · simp [q]
      rw [dTestB_e, dOp_e, sum_test (qi p hp').2 (qf p hp')]
      simp [opEq, eqOk, scalT, T.rk, Lw.ints_intL, e]) (fun t ht _ => by
      obtain ⟨p, hp, rfl⟩ := List.mem_map.mp ht
      exact ⟨tI p, by simp, rfl⟩)
    unfold law_C14
    rw [z, List.map_id, tIs_filter (fun p => decide (ps 0 xs p = bst xs L)) _ (fun p => by simp [Lw.ints_intL])]
  have mD : caMinT [.lst .ow (tIs (F.filter fun p => decide (ps 0 xs p = bst xs L)))] = .ok (tI (gs xs L)) := by
    refine minT_of ?_ fun p hp => ?_
    · have q := inc_pt (xs := xs) (p := gs xs L) (k := 0) (by rw [Int.zero_add]; exact b1)
      simp only [List.mem_filter, decide_eq_true_eq]
      exact ⟨(memF _).mpr ⟨(qm q).1, by rw [b2]; exact B2⟩, b2⟩
    · simp only [List.mem_filter, decide_eq_true_eq] at hp
      obtain ⟨a, b⟩ := (memF p).mp hp.1
      have q := qt p a
      rw [hp.2] at q
      exact mg_least xs 0 (bst xs L) h.pos q
  have ne : ∀ p : List Int, opNe (tI p) (tI p) = .ok (.bl false) := fun p => by
    simp [opNe, eqOk, T.dok, Lw.doks_int, T.eqv, Lw.eqvs_intL]
  exact ⟨some (.lst .sh (tIs F)), some (.int (bst xs L)), (if_yes (ten_yes c9')).trans ((seq_ok (asgF_ok cA rfl)).trans ((seq_ok (asgF_ok (ca_one cB mx) rfl)).trans ((seq_ok (if_no (ne_no (v := 8) rfl rfl (ca_one cC mC) (ne _)))).trans (if_no (ne_no (v := 9) rfl rfl (ca_one cD mD) (ne _))))))⟩
theorem step11 (h : Wv xs) (h0 : 0 ≤ L) (h1 : L < 200) : ∃ parts best, law_S11 (e11 s row m xs L left due at' some' none none none) = .ok .next (e11 s row m xs L left due at' some' parts best none) := by
  by_cases c9 : xs.length < 10
  case neg =>
    have c9' : ¬ (xs.length : Int) < 10 := by omega
    exact ⟨none, none, by simp [c9']⟩
  case pos =>
  have c9' : (xs.length : Int) < 10 := by omega
  obtain ⟨qs, qp, qe⟩ := parts_e (n := xs.length) (by omega)
  have ql : qs.length ≤ 512 := by
    have l1 : 2 ^ xs.length ≤ 2 ^ 9 := Nat.pow_le_pow_right (by omega) (by omega)
    have l2 := qp.length_eq
    rw [pl_len] at l2
    omega
  have qi : ∀ p ∈ qs, Inc 0 xs.length p := fun p hp => pl_iff.mp (qp.mem_iff.mp hp)
  have qf : ∀ p ∈ qs, p.length ≤ 10000000 := fun p hp => by have := inc_len (qi p hp); omega
  have qm : ∀ {p : List Int} {t : Int}, Pt 0 xs p t → p ∈ qs ∧ t = ps 0 xs p := fun {p t} hp => by
    obtain ⟨a, b⟩ := hp.inc
    rw [Int.zero_add] at a
    exact ⟨qp.mem_iff.mpr (pl_iff.mpr a), b⟩
  have qt : ∀ p ∈ qs, Pt 0 xs p (ps 0 xs p) := fun p hp => inc_pt (by rw [Int.zero_add]; exact qi p hp)
  exact parts_core h h0 h1 c9' ql qi qf qm qt (parts_fit ql qi qf (parts_src qe))
end
end Fn.R20

namespace Fn.R20
open PySem PySem.Spec L2 Fn Fn.K
open _root_.Fn.Lw (RowOf)
def odds : List T := [.int (-1), .int 601, .non, .bl true]
def bads : List T := [.int 0, .int 21, .non, .bl true]
theorem odd_repr : ∀ t ∈ odds, ∃ S, caRepr [.tup [.str ("number" : Str), t]] = .ok (.str S) := by
  intro t ht
  simp only [odds, List.mem_cons, List.not_mem_nil, or_false] at ht
  rcases ht with rfl | rfl | rfl | rfl
  · exact ⟨_, if_pos (by decide +kernel)⟩
  · exact ⟨_, if_pos (by decide +kernel)⟩
  · exact ⟨_, if_pos (by decide +kernel)⟩
  · exact ⟨_, if_pos (by decide +kernel)⟩
theorem odd_ok : ∀ t ∈ odds, t.pkd = t ∧ t.frz = some t ∧ t.np = true ∧ is_within [t, .int 0, .int 600] = .ok (.bl false) := by
  intro t ht
  simp only [odds, List.mem_cons, List.not_mem_nil, or_false] at ht
  rcases ht with rfl | rfl | rfl | rfl
  · exact ⟨rfl, rfl, rfl, by rw [within_e]; rfl⟩
  · exact ⟨rfl, rfl, rfl, by rw [within_e]; rfl⟩
  · exact ⟨rfl, rfl, rfl, by simp [is_within, is_within_b, is_integer, is_integer_b, dRun, subT]⟩
  · exact ⟨rfl, rfl, rfl, by simp [is_within, is_within_b, is_integer, is_integer_b, dRun, subT]⟩
theorem bad_ok : ∀ t ∈ bads, t.pkd = t ∧ t.frz = some t ∧ t.np = true ∧ is_within [t, .int 1, .int 20] = .ok (.bl false) := by
  intro t ht
  simp only [bads, List.mem_cons, List.not_mem_nil, or_false] at ht
  rcases ht with rfl | rfl | rfl | rfl
  · exact ⟨rfl, rfl, rfl, by rw [within_e]; rfl⟩
  · exact ⟨rfl, rfl, rfl, by rw [within_e]; rfl⟩
  · exact ⟨rfl, rfl, rfl, by simp [is_within, is_within_b, is_integer, is_integer_b, dRun, subT]⟩
  · exact ⟨rfl, rfl, rfl, by simp [is_within, is_within_b, is_integer, is_integer_b, dRun, subT]⟩
def asks : List T := [.non, .lst .sh (List.replicate 31 (.int 1)), .int 5]
theorem asks_ok : ∀ t ∈ asks, t.pkd = t ∧ t.frz = some t ∧ t.np = true ∧ check_sizes [t, .int 30, .int 20] = .exc 1 [.int (-1)] := by
  intro t ht
  simp only [asks, List.mem_cons, List.not_mem_nil, or_false] at ht
  rcases ht with rfl | rfl | rfl
  · exact ⟨rfl, rfl, rfl, check_no (by simp [is_row, is_row_b, dRun, subT]) rfl rfl⟩
  · exact ⟨rfl, rfl, rfl, check_len (.inl rfl) (by simp)⟩
  · exact ⟨rfl, rfl, rfl, check_no (by simp [is_row, is_row_b, dRun, subT]) rfl rfl⟩
/-- the three that are asked -/
abbrev three : List (Nat × (List T → Res T)) := [(0, next_wave), (1, most_houses), (2, most_guests)]
theorem all_exc {A B : T} {c : Nat} {p : List T} (ha : A.pkd = A ∧ A.frz = some A) (hb : B.pkd = B ∧ B.frz = some B) (h : check_wave [A, B] = .exc c p) : ∀ n, n = 0 ∨ n = 1 ∨ n = 2 → Fn.pick three n [A, B] = .exc c p ∧ (three.any fun q => q.1 == n) = true := by
  rintro n (rfl | rfl | rfl)
  · refine ⟨?_, rfl⟩
    show next_wave [A, B] = _
    exact dRun_exc (ρ' := [some A, some B, none, none, none]) (seq_exc (by simp [ha.1, ha.2, hb.1, hb.2, h]))
  · refine ⟨?_, rfl⟩
    show most_houses [A, B] = _
    exact dRun_exc (ρ' := [some A, some B, none, none, none, none, none]) (seq_exc (by simp [ha.1, ha.2, hb.1, hb.2, h]))
  · refine ⟨?_, rfl⟩
    show most_guests [A, B] = _
    exact dRun_exc (ρ' := [some A, some B, none, none, none, none, none, none]) (seq_exc (by simp [ha.1, ha.2, hb.1, hb.2, h]))
theorem callV_exc {fM : Env → ResM (List T)} {ρ ρ' : Env} {n c : Nat} {A B : T} {p : List T} {i : Nat} {cs : List (Nat × (List T → Res T))} (hn : ρ[i]? = some (some (.fn n))) (h : fM ρ = .ok [A, B] ρ') (ha : A.frz = some A) (hb : B.frz = some B) (q : Fn.pick cs n [A, B] = .exc c p ∧ (cs.any fun q => q.1 == n) = true) : dCallV i cs fM ρ = .exc c p ρ' := by
  rw [dCallV_e, hn]
  simp only [q.2, if_true]
  rw [dM1_e, h]
  simp [ha, hb, q.1]
theorem refs_exc {cs : List (Nat × Str)} {m : Env → ResM T} {ρ ρ' : Env} {c : Nat} {t t' : T} {tag : Str} (h : m ρ = .exc c [t] ρ') (z : t.frz = some t') (f : (cs.find? fun q => q.1 == c) = some (c, tag)) : dRefs cs m ρ = .ok (.tup [.str tag, t']) ρ' := by
  rw [dRefs_e, h]
  simp [z, f]
theorem ifM_ne {m : Env → ResM T} {p : Env → Res T} {ρ ρ' : Env} {u : T} {a : Env → ResS} (h : m ρ = .ok u ρ') (q : p ρ' = .ok u) (hn : u.np = true) (n : opNe u u = .ok (.bl false)) : dIfSM (dTestBM (dOpM opNe m (dUp p))) a dNop ρ = .ok .next ρ' := by
  rw [dIfSM_e, dTestBM_e, dOpM_e, h]
  simp [q, hn, n]
theorem two_args {f g : Env → Res T} {ρ : Env} {A B : T} (h : f ρ = .ok A) (q : g ρ = .ok B) (ha : A.np = true) (hb : B.np = true) : dConsM (dUp f) (dConsM (dUp g) dNilM) ρ = .ok [A, B] ρ := by
  simp [h, q, ha, hb]
theorem one_args {f : Env → ResM T} {g : Env → Res T} {ρ ρ' : Env} {A B : T} (h : f ρ = .ok A ρ') (q : g ρ' = .ok B) (hb : B.np = true) : dConsM f (dConsM (dUp g) dNilM) ρ = .ok [A, B] ρ' := by
  rw [dConsM_e, h]; simp [q, hb]
theorem repr_one {m : Env → ResM T} {ρ ρ' : Env} {u r : T} (h : m ρ = .ok u ρ') (z : caRepr [u] = .ok r) (hr : r.np = true) : dM1 caRepr (dConsM m dNilM) ρ = .ok r ρ' := by
  rw [dM1_e, dConsM_e, h]; simp [z, hr]
section
variable [Tbs] {s row m : T} {xs : List Int} {L : Int} {left due at' some' count parts best : Option T}
abbrev badT (xs : List Int) (z : T) : T := .lst .sh (intL (xs.take 29) ++ [z])
abbrev e14 (s row m : T) (xs : List Int) (L : Int) (left due at' some' count parts best bad odd ask : Option T) : Env := e5 s row m xs L left due at' (some (tI (hs xs L))) (some (tI (gs xs L))) some' count parts best bad odd ask none none
theorem step12 (hr : Lw.IsRow row) (h : Wv xs) : ∃ row' z t, Lw.IsRow row' ∧ z ∈ bads ∧ t ∈ odds ∧ law_S12 (e14 s row m xs L left due at' some' count parts best none none none) = .ok .next (e14 s row' m xs L left due at' some' count parts best (some (badT xs z)) (some t) none) := by
  have hl := h.len
  obtain ⟨r1, z, hr1, hz, e1⟩ := Lw.pick_at (j := 1) (ρ := e14 s row m xs L left due at' some' count parts best none none none) (f := dLst (dCons (dC (.int 0)) (dCons (dC (.int 21)) (dCons (dC .non) (dCons (dC (.bl true)) dNil))))) (fl := .ow) (xs := bads) rfl hr (by rfl) (.inl rfl) (by simp [bads]) (by simp [bads]) (fun x hx => (bad_ok x hx).2.2.1)
  obtain ⟨r2, t, hr2, ht, e2⟩ := Lw.pick_at (j := 1) (ρ := e14 s r1 m xs L left due at' some' count parts best none none none) (f := dLst (dCons (dNeg (dC (.int 1))) (dCons (dC (.int 601)) (dCons (dC .non) (dCons (dC (.bl true)) dNil))))) (fl := .ow) (xs := odds) rfl hr1 (by rfl) (.inl rfl) (by simp [odds]) (by simp [odds]) (fun x hx => (odd_ok x hx).2.2.1)
  obtain ⟨z1, z2, z3, _⟩ := bad_ok z hz
  obtain ⟨t1, t2, t3, _⟩ := odd_ok t ht
  refine ⟨r2, z, t, hr2, hz, ht, ?_⟩
  have l1 : (xs.take 29).length + 1 ≤ 10000000 := by rw [List.length_take]; omega
  have cu : cutT (intL xs) none (some 29) = intL (xs.take 29) := by rw [Lw.cut_take' 29 29 rfl, Lw.intL_take]
  have p0 : dUp (dSl (dVar 3) dNoPart (dPart (dC (.int 29)))) (e14 s row m xs L left due at' some' count parts best none none none) = .ok (.lst .ow (intL (xs.take 29))) (e14 s row m xs L left due at' some' count parts best none none none) := by simp [cu]
  have p1 : dM1 (gS gLst) (dConsM (dCallM Lw._law_pick [some 1, none] (dBor 1 (dConsM (dUp (dLst (dCons (dC (.int 0)) (dCons (dC (.int 21)) (dCons (dC .non) (dCons (dC (.bl true)) dNil)))))) dNilM))) dNilM) (e14 s row m xs L left due at' some' count parts best none none none) = .ok (.lst .ow [z]) (e14 s r1 m xs L left due at' some' count parts best none none none) := by
    rw [dM1_e, dConsM_e, e1]; simp [z2]
  have p2 : dOpM opAdd (dUp (dSl (dVar 3) dNoPart (dPart (dC (.int 29))))) (dM1 (gS gLst) (dConsM (dCallM Lw._law_pick [some 1, none] (dBor 1 (dConsM (dUp (dLst (dCons (dC (.int 0)) (dCons (dC (.int 21)) (dCons (dC .non) (dCons (dC (.bl true)) dNil)))))) dNilM))) dNilM)) (e14 s row m xs L left due at' some' count parts best none none none) = .ok (.lst .ow (intL (xs.take 29) ++ [z])) (e14 s r1 m xs L left due at' some' count parts best none none none) := by
    rw [dOpM_e, p0]
    simp only [ResM.bind_ok, p1, opAdd_l, intL_len]
    rw [if_pos (by simpa using l1)]
    simp
  unfold law_S12
  rw [pick_is, dAsgTM_e, dM1_e, dConsM_e, p2]
  simp only [ResM.bind_ok]
  rw [dConsM_e, e2]
  simp [z2, t2]
theorem body (hr : Lw.IsRow row) (h : Wv xs) {z t : T} (hz : z ∈ bads) (ht : t ∈ odds) {n : Nat} (hn : n = 0 ∨ n = 1 ∨ n = 2) : ∃ row', Lw.IsRow row' ∧
    law_L2 (e14 s row m xs L left due at' some' count parts best (some (badT xs z)) (some t) (some (.fn n))) = .ok .next (e14 s row' m xs L left due at' some' count parts best (some (badT xs z)) (some t) (some (.fn n))) := by
  have hl := h.len
  obtain ⟨r1, y, hr1, hy, e1⟩ := Lw.pick_at (j := 1) (ρ := e14 s row m xs L left due at' some' count parts best (some (badT xs z)) (some t) (some (.fn n))) (f := dLst (dCons (dC .non) (dCons (dOp opMul (dLst (dCons (dC (.int 1)) dNil)) (dC (.int 31))) (dCons (dC (.int 5)) dNil)))) (fl := .ow) (xs := asks) rfl hr (by rfl) (.inl rfl) (by simp [asks]) (by simp [asks]) (fun x hx => (asks_ok x hx).2.2.1)
  obtain ⟨z1, z2, z3, z4⟩ := bad_ok z hz
  obtain ⟨t1, t2, t3, t4⟩ := odd_ok t ht
  obtain ⟨y1, y2, y3, y4⟩ := asks_ok y hy
  obtain ⟨S, hS⟩ := odd_repr t ht
  have c1 : check_sizes [badT xs z, .int 30, .int 20] = .exc 1 [.int (xs.take 29).length] := check_bad (.inl rfl) (by rw [List.length_take]; omega) (fun x hx => h.ok x (List.mem_of_mem_take hx)) z1 z2 z4
  have w1 := all_exc (A := badT xs z) (B := t) ⟨rfl, rfl⟩ ⟨t1, t2⟩ (wave_exc rfl rfl c1) n hn
  have w2 := all_exc (A := y) (B := t) ⟨y1, y2⟩ ⟨t1, t2⟩ (wave_exc y1 y2 y4) n hn
  have w3 := all_exc (A := .lst .sh (intL xs)) (B := t) ⟨rfl, rfl⟩ ⟨t1, t2⟩ (wave_odd (.inl rfl) h t1 t2 t4) n hn
  have dk : PyData.strOk ("sizes" : Str) = true := by decide +kernel
  have nT : ∀ k : Int, opNe (.tup [.str ("sizes" : Str), .int k]) (.tup [.str ("sizes" : Str), .int k]) = .ok (.bl false) := fun k => by
    simp [opNe, eqOk, scalT, T.rk, T.dok, doks, dk, T.eqv, eqvs]
  refine ⟨r1, hr1, ?_⟩
  have s1 := ifM_ne (a := dRet (dC (.bl false))) (m := dRefs [(2, ("number" : Str)), (1, ("sizes" : Str))] (dCallV 16 three (dConsM (dUp (dVar 14)) (dConsM (dUp (dVar 15)) dNilM)))) (p := dTup (dCons (dC (.str ("sizes" : Str))) (dCons (dOp opSub (dCa caLen (dCons (dVar 14) dNil)) (dC (.int 1))) dNil))) (ρ := e14 s row m xs L left due at' some' count parts best (some (badT xs z)) (some t) (some (.fn n)))
    (refs_exc (tag := ("sizes" : Str)) (callV_exc rfl (two_args (A := badT xs z) (B := t) (by simp) (by simp [t1]) rfl t3) rfl t2 w1) rfl rfl) (by simp) rfl (nT _)
  have s2 := ifM_ne (a := dRet (dC (.bl false))) (m := dRefs [(2, ("number" : Str)), (1, ("sizes" : Str))] (dCallV 16 three (dConsM (dCallM Lw._law_pick [some 1, none] (dBor 1 (dConsM (dUp (dLst (dCons (dC .non) (dCons (dOp opMul (dLst (dCons (dC (.int 1)) dNil)) (dC (.int 31))) (dCons (dC (.int 5)) dNil))))) dNilM))) (dConsM (dUp (dVar 15)) dNilM)))) (p := dTup (dCons (dC (.str ("sizes" : Str))) (dCons (dNeg (dC (.int 1))) dNil))) (ρ := e14 s row m xs L left due at' some' count parts best (some (badT xs z)) (some t) (some (.fn n)))
    (refs_exc (tag := ("sizes" : Str)) (callV_exc rfl (one_args (B := t) e1 (by simp [t1]) t3) y2 t2 w2) rfl rfl) (by simp) rfl (nT _)
  have s3 := ifM_ne (a := dRet (dC (.bl false))) (m := dM1 caRepr (dConsM (dRefs [(2, ("number" : Str)), (1, ("sizes" : Str))] (dCallV 16 three (dConsM (dUp (dVar 3)) (dConsM (dUp (dVar 15)) dNilM)))) dNilM)) (p := dCa caRepr (dCons (dTup (dCons (dC (.str ("number" : Str))) (dCons (dVar 15) dNil))) dNil)) (ρ := e14 s r1 m xs L left due at' some' count parts best (some (badT xs z)) (some t) (some (.fn n)))
    (repr_one (refs_exc (tag := ("number" : Str)) (callV_exc rfl (two_args (A := .lst .sh (intL xs)) (B := t) (by simp) (by simp [t1]) rfl t3) rfl t2 w3) t2 rfl) hS rfl) (by simp [t1, t2, hS]) rfl (by simp [opNe, eqOk, scalT, T.rk])
  unfold law_L2
  rw [pick_is]
  exact (seq_ok s1).trans ((seq_ok s2).trans s3)
end
end Fn.R20

namespace Fn.R20
open PySem PySem.Spec L2 Fn Fn.K
section
variable [Tbs]
theorem law_e {ns0 : List Int} {s : T} (hsc : Lw.Scr s ns0) : law [s] = .ok (.bl true) := by
  have sp : s.pkd = s ∧ s.frz = some s := by rcases hsc with rfl | rfl <;> exact ⟨rfl, rfl⟩
  have hr0 : Lw.IsRow (Lw.rowT s 0 120 0) := ⟨s, ns0, 0, 120, 0, hsc, by omega, rfl⟩
  obtain ⟨r1, m, hr1, m0, m1, q1⟩ := step1 (s := s) hr0
  obtain ⟨r2, xs, hr2, h, q2⟩ := step2 (s := s) hr1 m0 m1
  obtain ⟨r3, L, hr3, h0, h1, q3⟩ := step3 (s := s) (m := .int m) (xs := xs) hr2
  obtain ⟨l', j7, q5⟩ := step5 (s := s) (row := r3) (m := .int m) (L := L) h
  have q6 := step6 (s := s) (row := r3) (m := .int m) (left := some (.int l')) (at' := j7) h h0 h1
  have q7 := step7 (s := s) (row := r3) (m := .int m) (left := some (.int l')) (at' := j7) h h0 h1 (due := some (.int (nw xs L)))
  have q8 := step8 (s := s) (row := r3) (m := .int m) (left := some (.int l')) (at' := j7) h h0 (due := some (.int (nw xs L)))
  have q9 := step9 (s := s) (row := r3) (m := .int m) (left := some (.int l')) (at' := j7) h h0 (due := some (.int (nw xs L))) (some' := some (tI (gs xs L)))
  have q10 := step10 (s := s) (row := r3) (m := .int m) (left := some (.int l')) (at' := j7) h h0 h1 (due := some (.int (nw xs L))) (some' := some (tI (gs xs L)))
  obtain ⟨pa, be, q11⟩ := step11 (s := s) (row := r3) (m := .int m) (left := some (.int l')) (at' := j7) h h0 h1 (due := some (.int (nw xs L))) (some' := some (tI (gs xs L)))
  obtain ⟨r4, z, t, hr4, hz, ht, q12⟩ := step12 (s := s) (row := r3) (m := .int m) (L := L) (left := some (.int l')) (at' := j7) hr3 h (due := some (.int (nw xs L))) (some' := some (tI (gs xs L))) (count := some (.int (nw (sortI xs) L))) (parts := pa) (best := be)
  obtain ⟨r5, hr5, b0⟩ := body (s := s) (row := r4) (m := .int m) (L := L) (left := some (.int l')) (at' := j7) hr4 h (due := some (.int (nw xs L))) (some' := some (tI (gs xs L))) (count := some (.int (nw (sortI xs) L))) (parts := pa) (best := be) hz ht (n := 0) (.inl rfl)
  obtain ⟨r6, hr6, b1⟩ := body (s := s) (row := r5) (m := .int m) (L := L) (left := some (.int l')) (at' := j7) hr5 h (due := some (.int (nw xs L))) (some' := some (tI (gs xs L))) (count := some (.int (nw (sortI xs) L))) (parts := pa) (best := be) hz ht (n := 1) (.inr (.inl rfl))
  obtain ⟨r7, hr7, b2⟩ := body (s := s) (row := r6) (m := .int m) (L := L) (left := some (.int l')) (at' := j7) hr6 h (due := some (.int (nw xs L))) (some' := some (tI (gs xs L))) (count := some (.int (nw (sortI xs) L))) (parts := pa) (best := be) hz ht (n := 2) (.inr (.inr rfl))
  have q0 : law_S0 ([some s] ++ List.replicate 18 none) = .ok .next (e2 s (Lw.rowT s 0 120 0) none) := by simp [sp.1, sp.2, Lw.rowT]
  have q4 : law_S4 (env (some s) (some r3) (some (.int m)) (some (.lst .sh (intL xs))) (some (.int L)) none none none none none none none none none none none none none none) = .ok .next (e5 s r3 (.int m) xs L (some (.int L)) (some (.int 0)) none none none none none none none none none none none none) := by simp
  have q13 : law_S13 (e14 s r4 (.int m) xs L (some (.int l')) (some (.int (nw xs L))) j7 (some (tI (gs xs L))) (some (.int (nw (sortI xs) L))) pa be (some (badT xs z)) (some t) none) = .ok .next (e14 s r7 (.int m) xs L (some (.int l')) (some (.int (nw xs L))) j7 (some (tI (gs xs L))) (some (.int (nw (sortI xs) L))) pa be (some (badT xs z)) (some t) (some (.fn 2))) := by
    unfold law_S13
    rw [dFor_e]
    have src : dIt true (dLst (dCons (dC (.fn 0)) (dCons (dC (.fn 1)) (dCons (dC (.fn 2)) dNil)))) (e14 s r4 (.int m) xs L (some (.int l')) (some (.int (nw xs L))) j7 (some (tI (gs xs L))) (some (.int (nw (sortI xs) L))) pa be (some (badT xs z)) (some t) none) = .ok [.fn 0, .fn 1, .fn 2] := by simp
    rw [src]
    simp only [Res.st]
    refine (forL_next (by simp) (.inl b0)).trans ?_
    refine (forL_next (by simp) (.inl b1)).trans ?_
    refine (forL_next (by simp) (.inl b2)).trans ?_
    rfl
  have q14 : law_S14 (e14 s r7 (.int m) xs L (some (.int l')) (some (.int (nw xs L))) j7 (some (tI (gs xs L))) (some (.int (nw (sortI xs) L))) pa be (some (badT xs z)) (some t) (some (.fn 2))) = .ok (.ret (.bl true)) (e14 s r7 (.int m) xs L (some (.int l')) (some (.int (nw xs L))) j7 (some (tI (gs xs L))) (some (.int (nw (sortI xs) L))) pa be (some (badT xs z)) (some t) (some (.fn 2))) := by simp
  exact dRun_ret ((seq_ok q0).trans ((seq_ok q1).trans ((seq_ok q2).trans ((seq_ok q3).trans ((seq_ok q4).trans ((seq_ok q5).trans ((seq_ok q6).trans ((seq_ok q7).trans ((seq_ok q8).trans ((seq_ok q9).trans ((seq_ok q10).trans ((seq_ok q11).trans ((seq_ok q12).trans ((seq_ok q13).trans q14))))))))))))))
end
end Fn.R20

namespace Fn.R20
section
open PySem PySem.Spec PyProof.Rows L2 Fn Fn.K
theorem all_mk {w : World} {K : PySem.W.Frag} {h : Heap} {mg : Str → Option Value} {fa cA pA : Addr} (X : K.In h) (G : h.Ns mainGlobals mg) (hfa : mg "law" = some (.ref fa)) (hT : h.get? pA = some (PySem.W.tabObj #[]))
    {f_is_integer : Addr} {od_is_integer an_is_integer : Option Addr} {sl_is_integer : Array (Option Value)} {oc_is_integer kV_is_integer dc_is_integer pm_is_integer ct_is_integer : Value} {cd_is_integer : Value} {f_is_within : Addr} {od_is_within an_is_within : Option Addr} {sl_is_within : Array (Option Value)} {oc_is_within kV_is_within dc_is_within pm_is_within ct_is_within : Value} {cd_is_within : Value} {f_is_row : Addr} {od_is_row an_is_row : Option Addr} {sl_is_row : Array (Option Value)} {oc_is_row kV_is_row dc_is_row pm_is_row ct_is_row : Value} {cd_is_row : Value} {f_check_sizes : Addr} {od_check_sizes an_check_sizes : Option Addr} {sl_check_sizes : Array (Option Value)} {oc_check_sizes kV_check_sizes dc_check_sizes pm_check_sizes ct_check_sizes : Value} {cd_check_sizes : Value} {f_check_wave : Addr} {od_check_wave an_check_wave : Option Addr} {sl_check_wave : Array (Option Value)} {oc_check_wave kV_check_wave dc_check_wave pm_check_wave ct_check_wave : Value} {cd_check_wave : Value} {f_next_wave : Addr} {od_next_wave an_next_wave : Option Addr} {sl_next_wave : Array (Option Value)} {oc_next_wave kV_next_wave dc_next_wave pm_next_wave ct_next_wave : Value} {cd_next_wave : Value} {f_count_most : Addr} {od_count_most an_count_most : Option Addr} {sl_count_most : Array (Option Value)} {oc_count_most kV_count_most dc_count_most pm_count_most ct_count_most : Value} {cd_count_most : Value} {f_most_houses : Addr} {od_most_houses an_most_houses : Option Addr} {sl_most_houses : Array (Option Value)} {oc_most_houses kV_most_houses dc_most_houses pm_most_houses ct_most_houses : Value} {cd_most_houses : Value} {f_all_sums : Addr} {od_all_sums an_all_sums : Option Addr} {sl_all_sums : Array (Option Value)} {oc_all_sums kV_all_sums dc_all_sums pm_all_sums ct_all_sums : Value} {cd_all_sums : Value} {f_most_guests : Addr} {od_most_guests an_most_guests : Option Addr} {sl_most_guests : Array (Option Value)} {oc_most_guests kV_most_guests dc_most_guests pm_most_guests ct_most_guests : Value} {cd_most_guests : Value} {f__law_taken : Addr} {od__law_taken an__law_taken : Option Addr} {sl__law_taken : Array (Option Value)} {oc__law_taken kV__law_taken dc__law_taken pm__law_taken ct__law_taken : Value} {cd__law_taken : Value} {f__law_pick : Addr} {od__law_pick an__law_pick : Option Addr} {sl__law_pick : Array (Option Value)} {oc__law_pick kV__law_pick dc__law_pick pm__law_pick ct__law_pick : Value} {cd__law_pick : Value} {f__law_alike : Addr} {od__law_alike an__law_alike : Option Addr} {sl__law_alike : Array (Option Value)} {oc__law_alike kV__law_alike dc__law_alike pm__law_alike ct__law_alike : Value} {cd__law_alike : Value} {f__law_unlike : Addr} {od__law_unlike an__law_unlike : Option Addr} {sl__law_unlike : Array (Option Value)} {oc__law_unlike kV__law_unlike dc__law_unlike pm__law_unlike ct__law_unlike : Value} {cd__law_unlike : Value} {f__law_parts : Addr} {od__law_parts an__law_parts : Option Addr} {sl__law_parts : Array (Option Value)} {oc__law_parts kV__law_parts dc__law_parts pm__law_parts ct__law_parts : Value} {cd__law_parts : Value} {f__law_reach : Addr} {od__law_reach an__law_reach : Option Addr} {sl__law_reach : Array (Option Value)} {oc__law_reach kV__law_reach dc__law_reach pm__law_reach ct__law_reach : Value} {cd__law_reach : Value} {f_law : Addr} {od_law an_law : Option Addr} {sl_law : Array (Option Value)} {oc_law kV_law dc_law pm_law ct_law : Value} {f__law_refused : Addr} {od__law_refused an__law_refused : Option Addr} {sl__law_refused : Array (Option Value)} {oc__law_refused kV__law_refused dc__law_refused pm__law_refused ct__law_refused cd__law_refused : Value} {j_MOST_HOUSE : Nat} {j_MOST_HOUSES : Nat} {j_MOST_ROOM : Nat} {f_I T_I : Addr} {od_I an_I : Option Addr} {sl_I : Array (Option Value)} {oc_I kV_I dc_I pm_I cd_I ct_I : Value} {oT : Obj} {nT_I : Nat} {C_BadSizes : Addr} {nm_BadSizes q_BadSizes : Str} {N_BadSizes : Addr} {bs_BadSizes bm_BadSizes sub_BadSizes : List Value} {sn_BadSizes : List Str} {ab_BadSizes : Bool} {col_BadSizes : Option Bool} {dd_BadSizes : Option Addr} {m0_BadSizes m1_BadSizes m2_BadSizes m3_BadSizes m5_BadSizes : Option Value} {C_BadNumber : Addr} {nm_BadNumber q_BadNumber : Str} {N_BadNumber : Addr} {bs_BadNumber bm_BadNumber sub_BadNumber : List Value} {sn_BadNumber : List Str} {ab_BadNumber : Bool} {col_BadNumber : Option Bool} {dd_BadNumber : Option Addr} {m0_BadNumber m1_BadNumber m2_BadNumber m3_BadNumber m5_BadNumber : Option Value}
    (a_is_integer : PySem.W.nsIn K mainGlobals "is_integer" = some (some (.ref f_is_integer)))
    (l_is_integer : K.lookup f_is_integer = some ⟨oc_is_integer, od_is_integer, .func (PySem.W.fnOf "is_integer" "is_integer" (defArgs (sts 1)) (defBody (sts 1)) (defScope (sts 1)) .none kV_is_integer dc_is_integer pm_is_integer an_is_integer cd_is_integer ct_is_integer), sl_is_integer⟩)
    (c_is_integer : PySem.W.codeIn K cd_is_integer "is_integer" = true)
    (k_is_integer : PySem.W.keepIn K (.ref f_is_integer) = true)
    (a_is_within : PySem.W.nsIn K mainGlobals "is_within" = some (some (.ref f_is_within)))
    (l_is_within : K.lookup f_is_within = some ⟨oc_is_within, od_is_within, .func (PySem.W.fnOf "is_within" "is_within" (defArgs (sts 2)) (defBody (sts 2)) (defScope (sts 2)) .none kV_is_within dc_is_within pm_is_within an_is_within cd_is_within ct_is_within), sl_is_within⟩)
    (c_is_within : PySem.W.codeIn K cd_is_within "is_within" = true)
    (k_is_within : PySem.W.keepIn K (.ref f_is_within) = true)
    (a_is_row : PySem.W.nsIn K mainGlobals "is_row" = some (some (.ref f_is_row)))
    (l_is_row : K.lookup f_is_row = some ⟨oc_is_row, od_is_row, .func (PySem.W.fnOf "is_row" "is_row" (defArgs (sts 3)) (defBody (sts 3)) (defScope (sts 3)) .none kV_is_row dc_is_row pm_is_row an_is_row cd_is_row ct_is_row), sl_is_row⟩)
    (c_is_row : PySem.W.codeIn K cd_is_row "is_row" = true)
    (k_is_row : PySem.W.keepIn K (.ref f_is_row) = true)
    (a_check_sizes : PySem.W.nsIn K mainGlobals "check_sizes" = some (some (.ref f_check_sizes)))
    (l_check_sizes : K.lookup f_check_sizes = some ⟨oc_check_sizes, od_check_sizes, .func (PySem.W.fnOf "check_sizes" "check_sizes" (defArgs (sts 9)) (defBody (sts 9)) (defScope (sts 9)) .none kV_check_sizes dc_check_sizes pm_check_sizes an_check_sizes cd_check_sizes ct_check_sizes), sl_check_sizes⟩)
    (c_check_sizes : PySem.W.codeIn K cd_check_sizes "check_sizes" = true)
    (k_check_sizes : PySem.W.keepIn K (.ref f_check_sizes) = true)
    (a_check_wave : PySem.W.nsIn K mainGlobals "check_wave" = some (some (.ref f_check_wave)))
    (l_check_wave : K.lookup f_check_wave = some ⟨oc_check_wave, od_check_wave, .func (PySem.W.fnOf "check_wave" "check_wave" (defArgs (sts 14)) (defBody (sts 14)) (defScope (sts 14)) .none kV_check_wave dc_check_wave pm_check_wave an_check_wave cd_check_wave ct_check_wave), sl_check_wave⟩)
    (c_check_wave : PySem.W.codeIn K cd_check_wave "check_wave" = true)
    (k_check_wave : PySem.W.keepIn K (.ref f_check_wave) = true)
    (a_next_wave : PySem.W.nsIn K mainGlobals "next_wave" = some (some (.ref f_next_wave)))
    (l_next_wave : K.lookup f_next_wave = some ⟨oc_next_wave, od_next_wave, .func (PySem.W.fnOf "next_wave" "next_wave" (defArgs (sts 15)) (defBody (sts 15)) (defScope (sts 15)) .none kV_next_wave dc_next_wave pm_next_wave an_next_wave cd_next_wave ct_next_wave), sl_next_wave⟩)
    (c_next_wave : PySem.W.codeIn K cd_next_wave "next_wave" = true)
    (k_next_wave : PySem.W.keepIn K (.ref f_next_wave) = true)
    (a_count_most : PySem.W.nsIn K mainGlobals "count_most" = some (some (.ref f_count_most)))
    (l_count_most : K.lookup f_count_most = some ⟨oc_count_most, od_count_most, .func (PySem.W.fnOf "count_most" "count_most" (defArgs (sts 16)) (defBody (sts 16)) (defScope (sts 16)) .none kV_count_most dc_count_most pm_count_most an_count_most cd_count_most ct_count_most), sl_count_most⟩)
    (c_count_most : PySem.W.codeIn K cd_count_most "count_most" = true)
    (k_count_most : PySem.W.keepIn K (.ref f_count_most) = true)
    (a_most_houses : PySem.W.nsIn K mainGlobals "most_houses" = some (some (.ref f_most_houses)))
    (l_most_houses : K.lookup f_most_houses = some ⟨oc_most_houses, od_most_houses, .func (PySem.W.fnOf "most_houses" "most_houses" (defArgs (sts 17)) (defBody (sts 17)) (defScope (sts 17)) .none kV_most_houses dc_most_houses pm_most_houses an_most_houses cd_most_houses ct_most_houses), sl_most_houses⟩)
    (c_most_houses : PySem.W.codeIn K cd_most_houses "most_houses" = true)
    (k_most_houses : PySem.W.keepIn K (.ref f_most_houses) = true)
    (a_all_sums : PySem.W.nsIn K mainGlobals "all_sums" = some (some (.ref f_all_sums)))
    (l_all_sums : K.lookup f_all_sums = some ⟨oc_all_sums, od_all_sums, .func (PySem.W.fnOf "all_sums" "all_sums" (defArgs (sts 18)) (defBody (sts 18)) (defScope (sts 18)) .none kV_all_sums dc_all_sums pm_all_sums an_all_sums cd_all_sums ct_all_sums), sl_all_sums⟩)
    (c_all_sums : PySem.W.codeIn K cd_all_sums "all_sums" = true)
    (k_all_sums : PySem.W.keepIn K (.ref f_all_sums) = true)
    (a_most_guests : PySem.W.nsIn K mainGlobals "most_guests" = some (some (.ref f_most_guests)))
    (l_most_guests : K.lookup f_most_guests = some ⟨oc_most_guests, od_most_guests, .func (PySem.W.fnOf "most_guests" "most_guests" (defArgs (sts 19)) (defBody (sts 19)) (defScope (sts 19)) .none kV_most_guests dc_most_guests pm_most_guests an_most_guests cd_most_guests ct_most_guests), sl_most_guests⟩)
    (c_most_guests : PySem.W.codeIn K cd_most_guests "most_guests" = true)
    (k_most_guests : PySem.W.keepIn K (.ref f_most_guests) = true)
    (a__law_taken : PySem.W.nsIn K mainGlobals "_law_taken" = some (some (.ref f__law_taken)))
    (l__law_taken : K.lookup f__law_taken = some ⟨oc__law_taken, od__law_taken, .func (PySem.W.fnOf "_law_taken" "_law_taken" (defArgs (sts 21)) (defBody (sts 21)) (defScope (sts 21)) .none kV__law_taken dc__law_taken pm__law_taken an__law_taken cd__law_taken ct__law_taken), sl__law_taken⟩)
    (c__law_taken : PySem.W.codeIn K cd__law_taken "_law_taken" = true)
    (k__law_taken : PySem.W.keepIn K (.ref f__law_taken) = true)
    (a__law_pick : PySem.W.nsIn K mainGlobals "_law_pick" = some (some (.ref f__law_pick)))
    (l__law_pick : K.lookup f__law_pick = some ⟨oc__law_pick, od__law_pick, .func (PySem.W.fnOf "_law_pick" "_law_pick" (defArgs (sts 22)) (defBody (sts 22)) (defScope (sts 22)) .none kV__law_pick dc__law_pick pm__law_pick an__law_pick cd__law_pick ct__law_pick), sl__law_pick⟩)
    (c__law_pick : PySem.W.codeIn K cd__law_pick "_law_pick" = true)
    (k__law_pick : PySem.W.keepIn K (.ref f__law_pick) = true)
    (a__law_alike : PySem.W.nsIn K mainGlobals "_law_alike" = some (some (.ref f__law_alike)))
    (l__law_alike : K.lookup f__law_alike = some ⟨oc__law_alike, od__law_alike, .func (PySem.W.fnOf "_law_alike" "_law_alike" (defArgs (sts 23)) (defBody (sts 23)) (defScope (sts 23)) .none kV__law_alike dc__law_alike pm__law_alike an__law_alike cd__law_alike ct__law_alike), sl__law_alike⟩)
    (c__law_alike : PySem.W.codeIn K cd__law_alike "_law_alike" = true)
    (k__law_alike : PySem.W.keepIn K (.ref f__law_alike) = true)
    (a__law_unlike : PySem.W.nsIn K mainGlobals "_law_unlike" = some (some (.ref f__law_unlike)))
    (l__law_unlike : K.lookup f__law_unlike = some ⟨oc__law_unlike, od__law_unlike, .func (PySem.W.fnOf "_law_unlike" "_law_unlike" (defArgs (sts 24)) (defBody (sts 24)) (defScope (sts 24)) .none kV__law_unlike dc__law_unlike pm__law_unlike an__law_unlike cd__law_unlike ct__law_unlike), sl__law_unlike⟩)
    (c__law_unlike : PySem.W.codeIn K cd__law_unlike "_law_unlike" = true)
    (k__law_unlike : PySem.W.keepIn K (.ref f__law_unlike) = true)
    (a__law_parts : PySem.W.nsIn K mainGlobals "_law_parts" = some (some (.ref f__law_parts)))
    (l__law_parts : K.lookup f__law_parts = some ⟨oc__law_parts, od__law_parts, .func (PySem.W.fnOf "_law_parts" "_law_parts" (defArgs (sts 25)) (defBody (sts 25)) (defScope (sts 25)) .none kV__law_parts dc__law_parts pm__law_parts an__law_parts cd__law_parts ct__law_parts), sl__law_parts⟩)
    (c__law_parts : PySem.W.codeIn K cd__law_parts "_law_parts" = true)
    (k__law_parts : PySem.W.keepIn K (.ref f__law_parts) = true)
    (a__law_reach : PySem.W.nsIn K mainGlobals "_law_reach" = some (some (.ref f__law_reach)))
    (l__law_reach : K.lookup f__law_reach = some ⟨oc__law_reach, od__law_reach, .func (PySem.W.fnOf "_law_reach" "_law_reach" (defArgs (sts 26)) (defBody (sts 26)) (defScope (sts 26)) .none kV__law_reach dc__law_reach pm__law_reach an__law_reach cd__law_reach ct__law_reach), sl__law_reach⟩)
    (c__law_reach : PySem.W.codeIn K cd__law_reach "_law_reach" = true)
    (k__law_reach : PySem.W.keepIn K (.ref f__law_reach) = true)
    (a_law : PySem.W.nsIn K mainGlobals "law" = some (some (.ref f_law)))
    (l_law : K.lookup f_law = some ⟨oc_law, od_law, .func (PySem.W.fnOf "law" "law" (defArgs (sts 28)) (defBody (sts 28)) (defScope (sts 28)) .none kV_law dc_law pm_law an_law (.ref cA) ct_law), sl_law⟩)
    (c_law : PySem.W.codeIn K (.ref cA) "law" = true)
    (k_law : PySem.W.keepIn K (.ref f_law) = true)
    (a__law_refused : PySem.W.nsIn K mainGlobals "_law_refused" = some (some (.ref f__law_refused)))
    (l__law_refused : K.lookup f__law_refused = some ⟨oc__law_refused, od__law_refused, .func (PySem.W.fnOf "_law_refused" "_law_refused" (defArgs (sts 27)) (defBody (sts 27)) (defScope (sts 27)) .none kV__law_refused dc__law_refused pm__law_refused an__law_refused cd__law_refused ct__law_refused), sl__law_refused⟩)
    (c__law_refused : PySem.W.codeIn K cd__law_refused "_law_refused" = true)
    (k__law_refused : PySem.W.keepIn K (.ref f__law_refused) = true)
    (z_bool : PySem.W.nsIn K mainGlobals "bool" = some none)
    (z_dict : PySem.W.nsIn K mainGlobals "dict" = some none)
    (z_enumerate : PySem.W.nsIn K mainGlobals "enumerate" = some none)
    (z_int : PySem.W.nsIn K mainGlobals "int" = some none)
    (z_isinstance : PySem.W.nsIn K mainGlobals "isinstance" = some none)
    (z_len : PySem.W.nsIn K mainGlobals "len" = some none)
    (z_list : PySem.W.nsIn K mainGlobals "list" = some none)
    (z_max : PySem.W.nsIn K mainGlobals "max" = some none)
    (z_min : PySem.W.nsIn K mainGlobals "min" = some none)
    (z_range : PySem.W.nsIn K mainGlobals "range" = some none)
    (z_repr : PySem.W.nsIn K mainGlobals "repr" = some none)
    (z_sorted : PySem.W.nsIn K mainGlobals "sorted" = some none)
    (z_str : PySem.W.nsIn K mainGlobals "str" = some none)
    (z_sum : PySem.W.nsIn K mainGlobals "sum" = some none)
    (z_tuple : PySem.W.nsIn K mainGlobals "tuple" = some none)
    (g_MOST_HOUSE : PySem.W.nsIn K mainGlobals "MOST_HOUSE" = some (some (.int 20 j_MOST_HOUSE)))
    (g_MOST_HOUSES : PySem.W.nsIn K mainGlobals "MOST_HOUSES" = some (some (.int 30 j_MOST_HOUSES)))
    (g_MOST_ROOM : PySem.W.nsIn K mainGlobals "MOST_ROOM" = some (some (.int 600 j_MOST_ROOM)))
    (gl_BadSizes : PySem.W.nsIn K mainGlobals "BadSizes" = some (some (.ref C_BadSizes)))
    (x_BadSizes : K.lookup C_BadSizes = some (excClassObj nm_BadSizes q_BadSizes C_BadSizes N_BadSizes bs_BadSizes bm_BadSizes true sn_BadSizes sub_BadSizes ab_BadSizes col_BadSizes dd_BadSizes m0_BadSizes m1_BadSizes m2_BadSizes m3_BadSizes m5_BadSizes "ValueError.__new__"))
    (rv_BadSizes : PySem.HandSPX.refsVE bm_BadSizes = true)
    (sa_BadSizes : PySem.W.findIn K (.ref C_BadSizes) "__setattr__" = some (some (.builtin "object.__setattr__")))
    (ex_BadSizes : PySem.W.subIn K (.ref C_BadSizes) (.type "BaseException") = some true)
    (ty_BadSizes : PySem.W.typeIn K (.ref C_BadSizes) = some (.type "type"))
    (kc_BadSizes : PySem.W.keepIn K (.ref C_BadSizes) = true)
    (no_BadSizes : PySem.W.findIn K (.ref C_BadSizes) "value" = some none)
    (ii_BadSizes : PySem.W.findIn K (.ref C_BadSizes) "__init__" = some (some (.ref f_I)))
    (xf_BadSizes : xfB K C_BadSizes = true)
    (em_BadSizes : PySem.W.exmOne K (.ref C_BadSizes) (.ref C_BadSizes) = some true)
    (gl_BadNumber : PySem.W.nsIn K mainGlobals "BadNumber" = some (some (.ref C_BadNumber)))
    (x_BadNumber : K.lookup C_BadNumber = some (excClassObj nm_BadNumber q_BadNumber C_BadNumber N_BadNumber bs_BadNumber bm_BadNumber true sn_BadNumber sub_BadNumber ab_BadNumber col_BadNumber dd_BadNumber m0_BadNumber m1_BadNumber m2_BadNumber m3_BadNumber m5_BadNumber "ValueError.__new__"))
    (rv_BadNumber : PySem.HandSPX.refsVE bm_BadNumber = true)
    (sa_BadNumber : PySem.W.findIn K (.ref C_BadNumber) "__setattr__" = some (some (.builtin "object.__setattr__")))
    (ex_BadNumber : PySem.W.subIn K (.ref C_BadNumber) (.type "BaseException") = some true)
    (ty_BadNumber : PySem.W.typeIn K (.ref C_BadNumber) = some (.type "type"))
    (kc_BadNumber : PySem.W.keepIn K (.ref C_BadNumber) = true)
    (no_BadNumber : PySem.W.findIn K (.ref C_BadNumber) "value" = some none)
    (ii_BadNumber : PySem.W.findIn K (.ref C_BadNumber) "__init__" = some (some (.ref f_I)))
    (xf_BadNumber : xfB K C_BadNumber = true)
    (em_BadNumber : PySem.W.exmOne K (.ref C_BadNumber) (.ref C_BadNumber) = some true)
    (l_I : K.lookup f_I = some ⟨oc_I, od_I, .func (PySem.W.fnOf "__init__" "GuestError.__init__" (defArgs (inClass (sts 5) 0)) (defBody (inClass (sts 5) 0)) (defScope (inClass (sts 5) 0)) (.ref T_I) kV_I dc_I pm_I an_I cd_I ct_I), sl_I⟩)
    (c_I : PySem.W.codeIn K cd_I "GuestError.__init__" = true)
    (lT_I : K.lookup T_I = some oT)
    (hT_I : oT.data = .seq #[.none] nT_I)
    (ty_I : PySem.W.typeIn K (.ref f_I) = some (.type "function"))
    (ht_law_refused_0 : hitsB K (C_BadNumber, ("number" : Str)) [(C_BadNumber, ("number" : Str)), (C_BadSizes, ("sizes" : Str))] = true)
    (ht_law_refused_1 : hitsB K (C_BadSizes, ("sizes" : Str)) [(C_BadNumber, ("number" : Str)), (C_BadSizes, ("sizes" : Str))] = true)
    (hP : K.lookup pA = none)
    (hC : PySem.W.codeHdIn K cA pA = true)
    : TopLaw PySem.Challenge.rw_tablevow_k20_whole_waves w K (L2.CX (PySem.Challenge.rw_tablevow_k20_whole_waves).prog w) 63 "script" mg fa h := by
  letI tbs : Tbs := ⟨[(pA, ("law" ++ ".<locals>." ++ "<lambda>" : Str))]⟩
  have e := hfa.symm.trans (PySem.W.mg_of X G a_law)
  cases e
  let x : Tx := ⟨K, fun j => ([f_next_wave, f_most_houses, f_most_guests] : List Addr).getD j 0, fun c => match c with | 1 => C_BadSizes | 2 => C_BadNumber | _ => 0, fun _ => [("value" : Str)]⟩
  have Fu_is_integer := fun_mk (st := sts 1) l_is_integer c_is_integer k_is_integer
  have B_is_integer := Fu_is_integer.binds (ps := ["thing"]) fun _ _ _ _ _ _ us hl => match us, hl with | [_], _ => rfl
  have Fu_is_within := fun_mk (st := sts 2) l_is_within c_is_within k_is_within
  have B_is_within := Fu_is_within.binds (ps := ["thing", "least", "most"]) fun _ _ _ _ _ _ us hl => match us, hl with | [_, _, _], _ => rfl
  have Fu_is_row := fun_mk (st := sts 3) l_is_row c_is_row k_is_row
  have B_is_row := Fu_is_row.binds (ps := ["thing"]) fun _ _ _ _ _ _ us hl => match us, hl with | [_], _ => rfl
  have Fu_check_sizes := fun_mk (st := sts 9) l_check_sizes c_check_sizes k_check_sizes
  have B_check_sizes := Fu_check_sizes.binds (ps := ["sizes", "many", "most"]) fun _ _ _ _ _ _ us hl => match us, hl with | [_, _, _], _ => rfl
  have Fu_check_wave := fun_mk (st := sts 14) l_check_wave c_check_wave k_check_wave
  have B_check_wave := Fu_check_wave.binds (ps := ["sizes", "room"]) fun _ _ _ _ _ _ us hl => match us, hl with | [_, _], _ => rfl
  have Fu_next_wave := fun_mk (st := sts 15) l_next_wave c_next_wave k_next_wave
  have B_next_wave := Fu_next_wave.binds (ps := ["sizes", "room"]) fun _ _ _ _ _ _ us hl => match us, hl with | [_, _], _ => rfl
  have Fu_count_most := fun_mk (st := sts 16) l_count_most c_count_most k_count_most
  have B_count_most := Fu_count_most.binds (ps := ["sizes", "room"]) fun _ _ _ _ _ _ us hl => match us, hl with | [_, _], _ => rfl
  have Fu_most_houses := fun_mk (st := sts 17) l_most_houses c_most_houses k_most_houses
  have B_most_houses := Fu_most_houses.binds (ps := ["sizes", "room"]) fun _ _ _ _ _ _ us hl => match us, hl with | [_, _], _ => rfl
  have Fu_all_sums := fun_mk (st := sts 18) l_all_sums c_all_sums k_all_sums
  have B_all_sums := Fu_all_sums.binds (ps := ["sizes"]) fun _ _ _ _ _ _ us hl => match us, hl with | [_], _ => rfl
  have Fu_most_guests := fun_mk (st := sts 19) l_most_guests c_most_guests k_most_guests
  have B_most_guests := Fu_most_guests.binds (ps := ["sizes", "room"]) fun _ _ _ _ _ _ us hl => match us, hl with | [_, _], _ => rfl
  have Fu__law_taken := fun_mk (st := sts 21) l__law_taken c__law_taken k__law_taken
  have B__law_taken := Fu__law_taken.binds (ps := ["row", "many"]) fun _ _ _ _ _ _ us hl => match us, hl with | [_, _], _ => rfl
  have Fu__law_pick := fun_mk (st := sts 22) l__law_pick c__law_pick k__law_pick
  have B__law_pick := Fu__law_pick.binds (ps := ["row", "some"]) fun _ _ _ _ _ _ us hl => match us, hl with | [_, _], _ => rfl
  have Fu__law_alike := fun_mk (st := sts 23) l__law_alike c__law_alike k__law_alike
  have B__law_alike := Fu__law_alike.binds (ps := ["found", "due"]) fun _ _ _ _ _ _ us hl => match us, hl with | [_, _], _ => rfl
  have Fu__law_unlike := fun_mk (st := sts 24) l__law_unlike c__law_unlike k__law_unlike
  have B__law_unlike := Fu__law_unlike.binds (ps := ["things"]) fun _ _ _ _ _ _ us hl => match us, hl with | [_], _ => rfl
  have Fu__law_parts := fun_mk (st := sts 25) l__law_parts c__law_parts k__law_parts
  have B__law_parts := Fu__law_parts.binds (ps := ["many"]) fun _ _ _ _ _ _ us hl => match us, hl with | [_], _ => rfl
  have Fu__law_reach := fun_mk (st := sts 26) l__law_reach c__law_reach k__law_reach
  have B__law_reach := Fu__law_reach.binds (ps := ["sizes", "room"]) fun _ _ _ _ _ _ us hl => match us, hl with | [_, _], _ => rfl
  have Fu__law_refused := fun_mk (st := sts 27) l__law_refused c__law_refused k__law_refused
  have B__law_refused := Fu__law_refused.binds (ps := ["ask"]) fun _ _ _ _ _ _ us hl => match us, hl with | [_], _ => rfl
  refine ⟨PySem.W.fnOf "law" "law" (defArgs (sts 28)) (defBody (sts 28)) (defScope (sts 28)) .none kV_law dc_law pm_law an_law (.ref cA) ct_law, [(cA, pA)], spP x 1 law, fun p hp => ?_, fun s v => .of_eq rfl, fun H a ns hl hb hH hS => ?_, fun base KB GB TB => ?_⟩
  · cases List.mem_singleton.mp hp; exact ⟨hT, hP, PySem.W.codeHd_of_K X hC⟩
  · refine sp_law hS (fun t ht => ?_) fun t ht => law_e (ns0 := ns) ht
    cases List.mem_singleton.mp ht
    exact ⟨#[], hH (cA, pA) (by simp), trivial, fun pos cv hc => by cases hc⟩
  · let Pr := (PySem.Challenge.rw_tablevow_k20_whole_waves).prog
    have FI : FnOk Pr w x.K mg base (L2.CX Pr w) 1 f_I (PySem.W.fnOf "__init__" "GuestError.__init__" (defArgs (inClass (sts 5) 0)) (defBody (inClass (sts 5) 0)) (defScope (inClass (sts 5) 0)) (.ref T_I) kV_I dc_I pm_I an_I cd_I ct_I) ["self", "value"] (spIV x) := def_initD (x := x) (k := 0) l_I c_I ⟨rfl, rfl, rfl, by decide +kernel, rfl, by decide +kernel, by decide +kernel⟩ rfl
    have BI : Binds x.K (PySem.W.fnOf "__init__" "GuestError.__init__" (defArgs (inClass (sts 5) 0)) (defBody (inClass (sts 5) 0)) (defScope (inClass (sts 5) 0)) (.ref T_I) kV_I dc_I pm_I an_I cd_I ct_I) ["self", "value"] [] := init_binds (K := K) lT_I hT_I fun us hl => match us, hl with | [_, _], _ => ⟨_, rfl, rfl⟩
    have e_BadSizes : Exc x Pr w mg base "BadSizes" 1 1 := ⟨⟨⟨_, _, _, _, _, _, _, _, _, _, _, _, _, _, _, x_BadSizes, rv_BadSizes⟩, sa_BadSizes, ex_BadSizes, ty_BadSizes, kc_BadSizes⟩, rfl, no_BadSizes, PySem.W.mg_of X G gl_BadSizes, f_I, _, ii_BadSizes, ty_I, FI, BI⟩
    have e_BadNumber : Exc x Pr w mg base "BadNumber" 2 1 := ⟨⟨⟨_, _, _, _, _, _, _, _, _, _, _, _, _, _, _, x_BadNumber, rv_BadNumber⟩, sa_BadNumber, ex_BadNumber, ty_BadNumber, kc_BadNumber⟩, rfl, no_BadNumber, PySem.W.mg_of X G gl_BadNumber, f_I, _, ii_BadNumber, ty_I, FI, BI⟩
    have b_bool : mg "bool" = none := PySem.W.mg_none_of X G z_bool
    have b_dict : mg "dict" = none := PySem.W.mg_none_of X G z_dict
    have b_enumerate : mg "enumerate" = none := PySem.W.mg_none_of X G z_enumerate
    have b_int : mg "int" = none := PySem.W.mg_none_of X G z_int
    have b_isinstance : mg "isinstance" = none := PySem.W.mg_none_of X G z_isinstance
    have b_len : mg "len" = none := PySem.W.mg_none_of X G z_len
    have b_list : mg "list" = none := PySem.W.mg_none_of X G z_list
    have b_max : mg "max" = none := PySem.W.mg_none_of X G z_max
    have b_min : mg "min" = none := PySem.W.mg_none_of X G z_min
    have b_range : mg "range" = none := PySem.W.mg_none_of X G z_range
    have b_repr : mg "repr" = none := PySem.W.mg_none_of X G z_repr
    have b_sorted : mg "sorted" = none := PySem.W.mg_none_of X G z_sorted
    have b_str : mg "str" = none := PySem.W.mg_none_of X G z_str
    have b_sum : mg "sum" = none := PySem.W.mg_none_of X G z_sum
    have b_tuple : mg "tuple" = none := PySem.W.mg_none_of X G z_tuple
    have q_MOST_HOUSE := PySem.W.mg_of X G g_MOST_HOUSE
    have q_MOST_HOUSES := PySem.W.mg_of X G g_MOST_HOUSES
    have q_MOST_ROOM := PySem.W.mg_of X G g_MOST_ROOM
    have r__law_refused : Refds x Pr w mg base "_law_refused" [(2, ("number" : Str)), (1, ("sizes" : Str))] cA pA := ⟨fun _ _ => rfl, TB (cA, pA) (by simp), f__law_refused, _, _, _, _, _, _, _, _, _, _, _, _, _, ["ask", "e"], "ask", PySem.W.mg_of X G a__law_refused, k__law_refused, l__law_refused, c__law_refused, B__law_refused, ⟨rfl, rfl, rfl, by decide +kernel, rfl, by decide +kernel, by decide +kernel⟩, rfl, by first | exact Or.inl rfl | exact Or.inr (Or.inl rfl) | exact Or.inr (Or.inr rfl), by decide, by decide, fun Xc q hP hw hK hm hB => by
      refine refuseds_gives (X := Xc) (en := "e") (pa := ⟨0, 0, 0, 0⟩) (⟨"BadNumber", ("number" : Str), _, _, _, _, _, _, _, _, _⟩, C_BadNumber) [(⟨"BadSizes", ("sizes" : Str), _, _, _, _, _, _, _, _, _⟩, C_BadSizes)] (by decide) rfl (by first | exact Or.inl rfl | exact Or.inr (Or.inl rfl) | exact Or.inr (Or.inr rfl)) (by decide) (by decide) (fun r hr => ?_) (fun q hq => ?_)
      · rcases List.mem_cons.mp hr with z | hr
        · subst z; exact ⟨rfl, (show (("BadNumber" : Str) == ("__debug__" : Str)) = false by decide), by rw [hm]; exact PySem.W.mg_of X G gl_BadNumber, by rw [hK]; exact xfB_ok xf_BadNumber, by rw [hK]; exact no_BadNumber⟩
        rcases List.mem_cons.mp hr with z | hr
        · subst z; exact ⟨rfl, (show (("BadSizes" : Str) == ("__debug__" : Str)) = false by decide), by rw [hm]; exact PySem.W.mg_of X G gl_BadSizes, by rw [hK]; exact xfB_ok xf_BadSizes, by rw [hK]; exact no_BadSizes⟩
        · cases hr
      · rcases List.mem_cons.mp hq with z | hq
        · subst z; rw [hK]; exact hits_of ht_law_refused_0
        rcases List.mem_cons.mp hq with z | hq
        · subst z; rw [hK]; exact hits_of ht_law_refused_1
        · cases hq⟩
    have D_is_integer : Def x Pr w mg base "is_integer" 1 1 (spP x 1 is_integer) := ⟨f_is_integer, _, _, is_integer_ok (x := x) b_bool b_int b_isinstance Fu_is_integer, PySem.W.mg_of X G a_is_integer, k_is_integer, B_is_integer⟩
    have D_is_within : Def x Pr w mg base "is_within" 2 3 (spP x 3 is_within) := ⟨f_is_within, _, _, is_within_ok (x := x) D_is_integer Fu_is_within, PySem.W.mg_of X G a_is_within, k_is_within, B_is_within⟩
    have D_is_row : Def x Pr w mg base "is_row" 1 1 (spP x 1 is_row) := ⟨f_is_row, _, _, is_row_ok (x := x) b_isinstance b_list b_tuple Fu_is_row, PySem.W.mg_of X G a_is_row, k_is_row, B_is_row⟩
    have D_check_sizes : Def x Pr w mg base "check_sizes" 3 3 (spP x 3 check_sizes) := ⟨f_check_sizes, _, _, check_sizes_ok (x := x) b_enumerate b_len D_is_row D_is_within e_BadSizes Fu_check_sizes, PySem.W.mg_of X G a_check_sizes, k_check_sizes, B_check_sizes⟩
    have D_check_wave : Def x Pr w mg base "check_wave" 4 2 (spP x 2 check_wave) := ⟨f_check_wave, _, _, check_wave_ok (x := x) D_check_sizes D_is_within e_BadNumber ⟨_, q_MOST_HOUSE⟩ ⟨_, q_MOST_HOUSES⟩ ⟨_, q_MOST_ROOM⟩ Fu_check_wave, PySem.W.mg_of X G a_check_wave, k_check_wave, B_check_wave⟩
    have D_next_wave : Def x Pr w mg base "next_wave" 5 2 (spP x 2 next_wave) := ⟨f_next_wave, _, _, next_wave_ok (x := x) D_check_wave Fu_next_wave, PySem.W.mg_of X G a_next_wave, k_next_wave, B_next_wave⟩
    have D_count_most : Def x Pr w mg base "count_most" 6 2 (spP x 2 count_most) := ⟨f_count_most, _, _, count_most_ok (x := x) b_sorted D_next_wave Fu_count_most, PySem.W.mg_of X G a_count_most, k_count_most, B_count_most⟩
    have D_most_houses : Def x Pr w mg base "most_houses" 7 2 (spP x 2 most_houses) := ⟨f_most_houses, _, _, most_houses_ok (x := x) b_enumerate b_tuple D_check_wave D_count_most Fu_most_houses, PySem.W.mg_of X G a_most_houses, k_most_houses, B_most_houses⟩
    have D_all_sums : Def x Pr w mg base "all_sums" 1 1 (spP x 1 all_sums) := ⟨f_all_sums, _, _, all_sums_ok (x := x) b_dict Fu_all_sums, PySem.W.mg_of X G a_all_sums, k_all_sums, B_all_sums⟩
    have D_most_guests : Def x Pr w mg base "most_guests" 5 2 (spP x 2 most_guests) := ⟨f_most_guests, _, _, most_guests_ok (x := x) b_enumerate b_max b_tuple D_all_sums D_check_wave Fu_most_guests, PySem.W.mg_of X G a_most_guests, k_most_guests, B_most_guests⟩
    have D__law_taken : Def x Pr w mg base "_law_taken" 1 2 (spM x 2 (biOf [true, false]) _law_taken) := ⟨f__law_taken, _, _, _law_taken_ok (x := x) b_int b_len Fu__law_taken, PySem.W.mg_of X G a__law_taken, k__law_taken, B__law_taken⟩
    have D__law_pick : Def x Pr w mg base "_law_pick" 2 2 (spM x 2 (biOf [true, false]) _law_pick) := ⟨f__law_pick, _, _, _law_pick_ok (x := x) b_len D__law_taken Fu__law_pick, PySem.W.mg_of X G a__law_pick, k__law_pick, B__law_pick⟩
    have D__law_alike : Def x Pr w mg base "_law_alike" 4 2 (spP x 2 (_law_alike 3)) := ⟨f__law_alike, _, _, _law_alike_ok (x := x) b_bool b_dict b_int b_isinstance b_len b_list b_range b_str b_tuple Fu__law_alike (PySem.W.mg_of X G a__law_alike) k__law_alike B__law_alike 3, PySem.W.mg_of X G a__law_alike, k__law_alike, B__law_alike⟩
    have D__law_unlike : Def x Pr w mg base "_law_unlike" 1 1 (spP x 1 _law_unlike) := ⟨f__law_unlike, _, _, _law_unlike_ok (x := x) b_list b_sorted Fu__law_unlike, PySem.W.mg_of X G a__law_unlike, k__law_unlike, B__law_unlike⟩
    have D__law_parts : Def x Pr w mg base "_law_parts" 1 1 (spP x 1 _law_parts) := ⟨f__law_parts, _, _, _law_parts_ok (x := x) b_len b_range b_sorted Fu__law_parts, PySem.W.mg_of X G a__law_parts, k__law_parts, B__law_parts⟩
    have D__law_reach : Def x Pr w mg base "_law_reach" 1 2 (spP x 2 _law_reach) := ⟨f__law_reach, _, _, _law_reach_ok (x := x) b_list b_max Fu__law_reach, PySem.W.mg_of X G a__law_reach, k__law_reach, B__law_reach⟩
    exact law_ok (x := x) b_isinstance b_len b_list b_max b_min b_range b_repr b_sorted b_sum b_tuple D__law_alike D__law_parts D__law_pick D__law_reach D__law_taken D__law_unlike D_most_guests D_most_houses D_next_wave r__law_refused (PySem.W.mg_of X G a_most_guests) (PySem.W.mg_of X G a_most_houses) (PySem.W.mg_of X G a_next_wave) (List.mem_singleton.mpr rfl) (fun p hp _ => by cases List.mem_singleton.mp hp; rfl) l_law c_law
end
end Fn.R20

open Fn.R20
open PySem PySem.W PyProof.Rows
set_option maxRecDepth 100000 in
set_option maxHeartbeats 0 in
theorem PySem.Challenge.cw_tablevow_k20_whole_waves_holds : PySem.Challenge.rw_tablevow_k20_whole_waves.Holds := by
  w_on; o_law; k_head; (case hw => w_witness2)
  k_fill
  refine Fn.walk_top (l := PySem.Challenge.rw_tablevow_k20_whole_waves) (n := 63) (x := "script") (CX := fun w => L2.CX (PySem.Challenge.rw_tablevow_k20_whole_waves).prog w) rfl (by decide) rfl (fun w h Y => PySem.W.km_in_of Y) ?F (fun _ _ _ _ _ ⟨_, _, _, _, _, _, _, _, _, _, _, _, z⟩ => z)
  case F =>
    intro w mg fa h Y KX G hmg
    refine' all_mk KX G hmg ((PySem.W.km_tabs_of Y) _ (List.mem_singleton.mpr rfl)) ?q_a_is_integer ?q_l_is_integer ?q_c_is_integer ?q_k_is_integer ?q_a_is_within ?q_l_is_within ?q_c_is_within ?q_k_is_within ?q_a_is_row ?q_l_is_row ?q_c_is_row ?q_k_is_row ?q_a_check_sizes ?q_l_check_sizes ?q_c_check_sizes ?q_k_check_sizes ?q_a_check_wave ?q_l_check_wave ?q_c_check_wave ?q_k_check_wave ?q_a_next_wave ?q_l_next_wave ?q_c_next_wave ?q_k_next_wave ?q_a_count_most ?q_l_count_most ?q_c_count_most ?q_k_count_most ?q_a_most_houses ?q_l_most_houses ?q_c_most_houses ?q_k_most_houses ?q_a_all_sums ?q_l_all_sums ?q_c_all_sums ?q_k_all_sums ?q_a_most_guests ?q_l_most_guests ?q_c_most_guests ?q_k_most_guests ?q_a__law_taken ?q_l__law_taken ?q_c__law_taken ?q_k__law_taken ?q_a__law_pick ?q_l__law_pick ?q_c__law_pick ?q_k__law_pick ?q_a__law_alike ?q_l__law_alike ?q_c__law_alike ?q_k__law_alike ?q_a__law_unlike ?q_l__law_unlike ?q_c__law_unlike ?q_k__law_unlike ?q_a__law_parts ?q_l__law_parts ?q_c__law_parts ?q_k__law_parts ?q_a__law_reach ?q_l__law_reach ?q_c__law_reach ?q_k__law_reach ?q_a_law ?q_l_law ?q_c_law ?q_k_law ?q_a__law_refused ?q_l__law_refused ?q_c__law_refused ?q_k__law_refused ?q_z_bool ?q_z_dict ?q_z_enumerate ?q_z_int ?q_z_isinstance ?q_z_len ?q_z_list ?q_z_max ?q_z_min ?q_z_range ?q_z_repr ?q_z_sorted ?q_z_str ?q_z_sum ?q_z_tuple ?q_g_MOST_HOUSE ?q_g_MOST_HOUSES ?q_g_MOST_ROOM ?q_gl_BadSizes ?q_x_BadSizes ?q_rv_BadSizes ?q_sa_BadSizes ?q_ex_BadSizes ?q_ty_BadSizes ?q_kc_BadSizes ?q_no_BadSizes ?q_ii_BadSizes ?q_xf_BadSizes ?q_em_BadSizes ?q_gl_BadNumber ?q_x_BadNumber ?q_rv_BadNumber ?q_sa_BadNumber ?q_ex_BadNumber ?q_ty_BadNumber ?q_kc_BadNumber ?q_no_BadNumber ?q_ii_BadNumber ?q_xf_BadNumber ?q_em_BadNumber ?q_l_I ?q_c_I ?q_lT_I ?q_hT_I ?q_ty_I ?q_ht_law_refused_0 ?q_ht_law_refused_1 ?q_hP ?q_hC
    (case q_a_is_integer => k_is)
    (case q_l_is_integer => k_is)
    (case q_c_is_integer => k_is)
    (case q_k_is_integer => k_is)
    (case q_a_is_within => k_is)
    (case q_l_is_within => k_is)
    (case q_c_is_within => k_is)
    (case q_k_is_within => k_is)
    (case q_a_is_row => k_is)
    (case q_l_is_row => k_is)
    (case q_c_is_row => k_is)
    (case q_k_is_row => k_is)
    (case q_a_check_sizes => k_is)
    (case q_l_check_sizes => k_is)
    (case q_c_check_sizes => k_is)
    (case q_k_check_sizes => k_is)
    (case q_a_check_wave => k_is)
    (case q_l_check_wave => k_is)
    (case q_c_check_wave => k_is)
    (case q_k_check_wave => k_is)
    (case q_a_next_wave => k_is)
    (case q_l_next_wave => k_is)
    (case q_c_next_wave => k_is)
    (case q_k_next_wave => k_is)
    (case q_a_count_most => k_is)
    (case q_l_count_most => k_is)
    (case q_c_count_most => k_is)
    (case q_k_count_most => k_is)
    (case q_a_most_houses => k_is)
    (case q_l_most_houses => k_is)
    (case q_c_most_houses => k_is)
    (case q_k_most_houses => k_is)
    (case q_a_all_sums => k_is)
    (case q_l_all_sums => k_is)
    (case q_c_all_sums => k_is)
    (case q_k_all_sums => k_is)
    (case q_a_most_guests => k_is)
    (case q_l_most_guests => k_is)
    (case q_c_most_guests => k_is)
    (case q_k_most_guests => k_is)
    (case q_a__law_taken => k_is)
    (case q_l__law_taken => k_is)
    (case q_c__law_taken => k_is)
    (case q_k__law_taken => k_is)
    (case q_a__law_pick => k_is)
    (case q_l__law_pick => k_is)
    (case q_c__law_pick => k_is)
    (case q_k__law_pick => k_is)
    (case q_a__law_alike => k_is)
    (case q_l__law_alike => k_is)
    (case q_c__law_alike => k_is)
    (case q_k__law_alike => k_is)
    (case q_a__law_unlike => k_is)
    (case q_l__law_unlike => k_is)
    (case q_c__law_unlike => k_is)
    (case q_k__law_unlike => k_is)
    (case q_a__law_parts => k_is)
    (case q_l__law_parts => k_is)
    (case q_c__law_parts => k_is)
    (case q_k__law_parts => k_is)
    (case q_a__law_reach => k_is)
    (case q_l__law_reach => k_is)
    (case q_c__law_reach => k_is)
    (case q_k__law_reach => k_is)
    (case q_a_law => k_is)
    (case q_l_law => k_is)
    (case q_c_law => k_is)
    (case q_k_law => k_is)
    (case q_a__law_refused => k_is)
    (case q_l__law_refused => k_is)
    (case q_c__law_refused => k_is)
    (case q_k__law_refused => k_is)
    (case q_z_bool => k_is)
    (case q_z_dict => k_is)
    (case q_z_enumerate => k_is)
    (case q_z_int => k_is)
    (case q_z_isinstance => k_is)
    (case q_z_len => k_is)
    (case q_z_list => k_is)
    (case q_z_max => k_is)
    (case q_z_min => k_is)
    (case q_z_range => k_is)
    (case q_z_repr => k_is)
    (case q_z_sorted => k_is)
    (case q_z_str => k_is)
    (case q_z_sum => k_is)
    (case q_z_tuple => k_is)
    (case q_g_MOST_HOUSE => k_is)
    (case q_g_MOST_HOUSES => k_is)
    (case q_g_MOST_ROOM => k_is)
    (case q_gl_BadSizes => k_is)
    (case q_x_BadSizes => k_is)
    (case q_rv_BadSizes => decide +kernel)
    (case q_sa_BadSizes => k_is)
    (case q_ex_BadSizes => k_is)
    (case q_ty_BadSizes => k_is)
    (case q_kc_BadSizes => k_is)
    (case q_no_BadSizes => k_is)
    (case q_ii_BadSizes => k_is)
    (case q_xf_BadSizes => kernel_rfl)
    (case q_em_BadSizes => kernel_rfl)
    (case q_gl_BadNumber => k_is)
    (case q_x_BadNumber => k_is)
    (case q_rv_BadNumber => decide +kernel)
    (case q_sa_BadNumber => k_is)
    (case q_ex_BadNumber => k_is)
    (case q_ty_BadNumber => k_is)
    (case q_kc_BadNumber => k_is)
    (case q_no_BadNumber => k_is)
    (case q_ii_BadNumber => k_is)
    (case q_xf_BadNumber => kernel_rfl)
    (case q_em_BadNumber => kernel_rfl)
    (case q_l_I => k_is)
    (case q_c_I => k_is)
    (case q_lT_I => k_is)
    (case q_hT_I => rfl)
    (case q_ty_I => k_is)
    (case q_ht_law_refused_0 => kernel_rfl)
    (case q_ht_law_refused_1 => kernel_rfl)
    (case q_hP => kernel_rfl)
    (case q_hC => kernel_rfl)
