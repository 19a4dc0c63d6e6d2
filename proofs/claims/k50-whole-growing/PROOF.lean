import PyProof.Rows.All
import HandS.ExcCtx
import HandS.ForMost
import HandS.ForExc
import HandS.Lambda
import HandS.Wide
import HandS.Conv
import HandS.IsInst
import HandS.Style
import HandS.TupLe
import HandS.Strs
import HandS.Zip
import HandS.TupAny
import HandS.WordsDict
import KE.LtData
import HandS.SortInts
import HandS.StrMore
import HandS.Replace
import HandS.More
import PyProof.ListStr
import HandS.HeadHook1
import KE.GoesNew
import KE.GoesMore
import HandS.Set
import HandS.SetFor
import HandS.Iter
import KE.KDictZip
import PyProof.ListNew
import HandS.Keys
import HandS.HotCalls
import HandS.ExcIs
import HandS.ExcValue
import HandS.List
import HandS.Comp
import HandS.Defaults
import HandS.WordsExc
import HandS.HeadHook4
import HandS.Head0
import HandS.Head1
import HandS.Head2
import HandS.HeadEnd
import HandS.EndBits
import HandS.EndTab
import PySem.Challenge.RW_numeralbook_k50_whole_growing
set_option Elab.async false
set_option linter.all false
set_option maxRecDepth 100000
namespace DN
open PySem PySem.Spec PyProof.Rows L2
/-! ### plain data -/
abbrev DK := Sum Int (List Nat)
inductive D where
  | non
  | bl (b : Bool)
  | int (i : Int)
  | str (l : List Nat)
  | lst (xs : List D)
  | tup (xs : List D)
  | dct (kvs : List (DK × D))
  | scr (ns : List Int)
  deriving Inhabited
mutual
def D.eqb : D → D → Bool
  | .non, .non => true
  | .bl a, .bl b => a == b
  | .bl a, .int j => (if a then 1 else 0) == j
  | .int i, .bl b => i == (if b then 1 else 0)
  | .int i, .int j => i == j
  | .str x, .str y => x == y
  | .lst xs, .lst ys => D.eqbs xs ys
  | .tup xs, .tup ys => D.eqbs xs ys
  | _, _ => false
def D.eqbs : List D → List D → Bool
  | [], [] => true
  | x :: xs, y :: ys => D.eqb x y && D.eqbs xs ys
  | _, _ => false
end
/-- nested at most n deep, no dicts -/
def D.dep : Nat → D → Bool
  | _, .non => true
  | _, .bl _ => true
  | _, .int _ => true
  | _, .str _ => true
  | n + 1, .lst xs => xs.all (D.dep n)
  | n + 1, .tup xs => xs.all (D.dep n)
  | _, _ => false
mutual
def D.toP : D → PyData
  | .non => .none
  | .bl b => .bool b
  | .int i => .int i
  | .str l => .str ⟨l.toArray⟩
  | .lst xs => .list (D.toPs xs)
  | .tup xs => .tuple (D.toPs xs)
  | .dct _ => .dict []
  | .scr _ => .dict []
def D.toPs : List D → List PyData
  | [] => []
  | x :: xs => D.toP x :: D.toPs xs
end
theorem str_beq (x y : List Nat) : ((⟨x.toArray⟩ : Str) == ⟨y.toArray⟩) = (x == y) := by
  by_cases h : x = y
  · subst h; simp
  · have h2 : (⟨x.toArray⟩ : Str) ≠ ⟨y.toArray⟩ := fun q => h (by
      have q2 : x.toArray = y.toArray := congrArg Str.cps q
      simpa using q2)
    rw [beq_eq_false_iff_ne.mpr h, beq_eq_false_iff_ne.mpr h2]
mutual
theorem eqv_toP : ∀ d e : D, PyData.eqv d.toP e.toP = D.eqb d e
  | .non, e => by cases e <;> simp [D.toP, PyData.eqv, D.eqb]
  | .bl a, e => by cases e <;> simp [D.toP, PyData.eqv, D.eqb]
  | .int i, e => by cases e <;> simp [D.toP, PyData.eqv, D.eqb]
  | .str l, e => by cases e <;> simp only [D.toP, PyData.eqv, D.eqb, str_beq]
  | .lst xs, e => by cases e <;> simp [D.toP, PyData.eqv, D.eqb, eqv_toPs]
  | .tup xs, e => by cases e <;> simp [D.toP, PyData.eqv, D.eqb, eqv_toPs]
  | .dct _, e => by cases e <;> simp [D.toP, PyData.eqv, D.eqb]
  | .scr _, e => by cases e <;> simp [D.toP, PyData.eqv, D.eqb]
theorem eqv_toPs : ∀ d e : List D, PyData.eqvAll (D.toPs d) (D.toPs e) = D.eqbs d e
  | [], [] => by simp [D.toPs, PyData.eqvAll, D.eqbs]
  | [], _ :: _ => by simp [D.toPs, PyData.eqvAll, D.eqbs]
  | _ :: _, [] => by simp [D.toPs, PyData.eqvAll, D.eqbs]
  | x :: xs, y :: ys => by simp [D.toPs, PyData.eqvAll, D.eqbs, eqv_toP x y, eqv_toPs xs ys]
end
/-! ### representation -/
abbrev Hid := Addr → Prop
def SqLN (K : PySem.W.Frag) (H : Hp) (N : Hid) (a : Addr) (xs : List V) : Prop := ¬ N a ∧ H a = some (.lst xs)
def SqTN (K : PySem.W.Frag) (H : Hp) (N : Hid) (a : Addr) (xs : List V) : Prop := (¬ N a ∧ Rd H a (.tup xs)) ∨
    ∃ (o : Obj) (its : Array Value) (n : Nat), K.lookup a = some o ∧ o.cls = .type "tuple" ∧ o.data = .seq its n ∧ its.size ≤ sizeLine ∧ Vals xs its.toList
/-- the script's own list: known to the object, or written -/
def SqLS (K : PySem.W.Frag) (H : Hp) (N : Hid) (a : Addr) (xs : List V) : Prop := (¬ N a ∧ Rd H a (.lst xs)) ∨
    ∃ (o : Obj) (its : Array Value) (n : Nat), K.lookup a = some o ∧ o.cls = .type "list" ∧ o.dict = none ∧ o.data = .seq its n ∧ its.size ≤ sizeLine ∧ Vals xs its.toList
theorem SqLS.sq {K : PySem.W.Frag} {H : Hp} {N : Hid} {a : Addr} {xs : List V} (h : SqLS K H N a xs) : SqL K H a xs := by
  rcases h with ⟨_, h⟩ | h
  · exact .inl h
  · exact .inr h
def kS : DK → Key
  | .inl i => .inl i
  | .inr l => .inr ⟨l.toArray⟩
mutual
inductive Rp (K : PySem.W.Frag) (H : Hp) (N : Hid) : V → D → Prop
  | non : Rp K H N .non .non
  | bl (b : Bool) : Rp K H N (.bl b) (.bl b)
  | int (i : Int) : Rp K H N (.int i) (.int i)
  | str (l : List Nat) : (∀ c ∈ l, c < 0x110000) → l.length ≤ sizeLine → Rp K H N (.str ⟨l.toArray⟩) (.str l)
  | lst {a : Addr} {xs : List V} {ds : List D} : SqLN K H N a xs → RpAll K H N xs ds → Rp K H N (.ref a) (.lst ds)
  | tup {a : Addr} {xs : List V} {ds : List D} : SqTN K H N a xs → RpAll K H N xs ds → Rp K H N (.ref a) (.tup ds)
  | dct {a : Addr} {kvs : List (Key × V)} {ds : List (DK × D)} : ¬ N a → Rd H a (.dK kvs) → RpKv K H N kvs ds → Rp K H N (.ref a) (.dct ds)
  | scr {a : Addr} {ns : List Int} : SqLS K H N a (ns.map V.int) → Rp K H N (.ref a) (.scr ns)
inductive RpAll (K : PySem.W.Frag) (H : Hp) (N : Hid) : List V → List D → Prop
  | nil : RpAll K H N [] []
  | cons {v : V} {vs : List V} {d : D} {ds : List D} : Rp K H N v d → RpAll K H N vs ds → RpAll K H N (v :: vs) (d :: ds)
inductive RpKv (K : PySem.W.Frag) (H : Hp) (N : Hid) : List (Key × V) → List (DK × D) → Prop
  | nil : RpKv K H N [] []
  | cons {k : DK} {v : V} {vs : List (Key × V)} {d : D} {ds : List (DK × D)} : Rp K H N v d → RpKv K H N vs ds → RpKv K H N ((kS k, v) :: vs) ((k, d) :: ds)
end
/-- an operand: its top may be hidden -/
inductive RpO (K : PySem.W.Frag) (H : Hp) (N : Hid) : V → D → Prop
  | of {v : V} {d : D} : Rp K H N v d → RpO K H N v d
  | lst {a : Addr} {xs : List V} {ds : List D} : H a = some (.lst xs) → RpAll K H N xs ds → RpO K H N (.ref a) (.lst ds)
  | dct {a : Addr} {kvs : List (Key × V)} {ds : List (DK × D)} : H a = some (.dK kvs) → RpKv K H N kvs ds → RpO K H N (.ref a) (.dct ds)
inductive RpOs (K : PySem.W.Frag) (H : Hp) (N : Hid) : List V → List D → Prop
  | nil : RpOs K H N [] []
  | cons {v : V} {vs : List V} {d : D} {ds : List D} : RpO K H N v d → RpOs K H N vs ds → RpOs K H N (v :: vs) (d :: ds)
section
variable {K : PySem.W.Frag} {H H' : Hp} {N N' : Hid}
theorem SqLN.sq {a : Addr} {xs : List V} (h : SqLN K H N a xs) : SqL K H a xs := .inl (.inl h.2)
theorem SqTN.sq {a : Addr} {xs : List V} (h : SqTN K H N a xs) : SqT K H a xs := by
  rcases h with ⟨_, h⟩ | h
  · exact .inl h
  · exact .inr h
mutual
theorem Rp.mapN (fl : ∀ a xs, SqLN K H N a xs → SqLN K H' N' a xs) (ft : ∀ a xs, SqTN K H N a xs → SqTN K H' N' a xs) (fd : ∀ a kvs, ¬ N a → Rd H a (.dK kvs) → ¬ N' a ∧ Rd H' a (.dK kvs)) (fs : ∀ a xs, SqLS K H N a xs → SqLS K H' N' a xs) :
    ∀ (d : D) (v : V), Rp K H N v d → Rp K H' N' v d
  | .non, _, h => by cases h; exact .non
  | .bl _, _, h => by cases h; exact .bl _
  | .int _, _, h => by cases h; exact .int _
  | .str _, _, h => by cases h with | str _ h1 h2 => exact .str _ h1 h2
  | .lst ds, _, h => by cases h with | lst h1 h2 => exact .lst (fl _ _ h1) (RpAll.mapN fl ft fd fs ds _ h2)
  | .tup ds, _, h => by cases h with | tup h1 h2 => exact .tup (ft _ _ h1) (RpAll.mapN fl ft fd fs ds _ h2)
  | .dct ds, _, h => by cases h with | dct h1 h2 h3 => exact .dct (fd _ _ h1 h2).1 (fd _ _ h1 h2).2 (RpKv.mapN fl ft fd fs ds _ h3)
  | .scr ns, _, h => by cases h with | scr h1 => exact .scr (fs _ _ h1)
theorem RpAll.mapN (fl : ∀ a xs, SqLN K H N a xs → SqLN K H' N' a xs) (ft : ∀ a xs, SqTN K H N a xs → SqTN K H' N' a xs) (fd : ∀ a kvs, ¬ N a → Rd H a (.dK kvs) → ¬ N' a ∧ Rd H' a (.dK kvs)) (fs : ∀ a xs, SqLS K H N a xs → SqLS K H' N' a xs) :
    ∀ (ds : List D) (vs : List V), RpAll K H N vs ds → RpAll K H' N' vs ds
  | [], _, h => by cases h; exact .nil
  | d :: ds, _, h => by cases h with | cons h1 h2 => exact .cons (Rp.mapN fl ft fd fs d _ h1) (RpAll.mapN fl ft fd fs ds _ h2)
theorem RpKv.mapN (fl : ∀ a xs, SqLN K H N a xs → SqLN K H' N' a xs) (ft : ∀ a xs, SqTN K H N a xs → SqTN K H' N' a xs) (fd : ∀ a kvs, ¬ N a → Rd H a (.dK kvs) → ¬ N' a ∧ Rd H' a (.dK kvs)) (fs : ∀ a xs, SqLS K H N a xs → SqLS K H' N' a xs) :
    ∀ (ds : List (DK × D)) (vs : List (Key × V)), RpKv K H N vs ds → RpKv K H' N' vs ds
  | [], _, h => by cases h; exact .nil
  | (k, d) :: ds, _, h => by cases h with | cons h1 h2 => exact .cons (Rp.mapN fl ft fd fs d _ h1) (RpKv.mapN fl ft fd fs ds _ h2)
end
/-- the heap grows (tables of code objects may, too) -/
def Ext (T : List (Addr × Str)) (H H' : Hp) : Prop := LamX.ExtN H H' ∧ (LamX.Tabs T H → LamX.Tabs T H')
variable {T : List (Addr × Str)}
theorem Ext.refl (H : Hp) : Ext T H H := ⟨LamX.ExtN.refl H, fun h => h⟩
theorem Ext.trans {H1 H2 : Hp} (a : Ext T H H1) (b : Ext T H1 H2) : Ext T H H2 := ⟨a.1.trans b.1, fun h => b.2 (a.2 h)⟩
theorem Ext.same (e : ∀ b o, H b = some o → H' b = some o) : Ext T H H' := ⟨LamX.ExtN.of e, fun h => h.ext e⟩
theorem same_new {p : Addr} {o : HO} (h : H p = none) : ∀ b u, H b = some u → upd H p o b = some u := fun b u e => by rw [upd_ne (ne_of_none e h)]; exact e
theorem Ext.new {p : Addr} {o : HO} (h : H p = none) : Ext T H (upd H p o) := Ext.same (same_new h)
theorem Ext.rd {a : Addr} {u : HO} (e : Ext T H H') (hu : ∀ ps, u ≠ .tbl ps) (h : Rd H a u) : Rd H' a u := by
  rcases h with h | ⟨o, h⟩
  · exact .inl (e.1 _ _ h hu)
  · exact .inr ⟨o, e.1 _ _ h (fun _ z => nomatch z)⟩
theorem Ext.sqL {a : Addr} {xs : List V} (e : Ext T H H') (h : SqLN K H N a xs) : SqLN K H' N a xs := ⟨h.1, e.1 _ _ h.2 (fun _ z => nomatch z)⟩
theorem Ext.sqT {a : Addr} {xs : List V} (e : Ext T H H') (h : SqTN K H N a xs) : SqTN K H' N a xs := by
  rcases h with ⟨n, h⟩ | h
  · exact .inl ⟨n, e.rd (fun _ z => nomatch z) h⟩
  · exact .inr h
theorem Ext.rp {v : V} {d : D} (e : Ext T H H') (h : Rp K H N v d) : Rp K H' N v d :=
  h.mapN (fun _ _ q => e.sqL q) (fun _ _ q => e.sqT q) (fun _ _ n q => ⟨n, e.rd (fun _ z => nomatch z) q⟩) (fun _ _ q => q.imp (fun z => ⟨z.1, e.rd (fun _ z => nomatch z) z.2⟩) id)
theorem Ext.rps {vs : List V} {ds : List D} (e : Ext T H H') (h : RpAll K H N vs ds) : RpAll K H' N vs ds :=
  h.mapN (fun _ _ q => e.sqL q) (fun _ _ q => e.sqT q) (fun _ _ n q => ⟨n, e.rd (fun _ z => nomatch z) q⟩) (fun _ _ q => q.imp (fun z => ⟨z.1, e.rd (fun _ z => nomatch z) z.2⟩) id)
theorem Ext.rpk {vs : List (Key × V)} {ds : List (DK × D)} (e : Ext T H H') (h : RpKv K H N vs ds) : RpKv K H' N vs ds :=
  h.mapN (fun _ _ q => e.sqL q) (fun _ _ q => e.sqT q) (fun _ _ n q => ⟨n, e.rd (fun _ z => nomatch z) q⟩) (fun _ _ q => q.imp (fun z => ⟨z.1, e.rd (fun _ z => nomatch z) z.2⟩) id)
theorem Ext.rpo {v : V} {d : D} (e : Ext T H H') (h : RpO K H N v d) : RpO K H' N v d := by
  cases h with
  | of h => exact .of (e.rp h)
  | lst h1 h2 => exact .lst (e.1 _ _ h1 (fun _ z => nomatch z)) (e.rps h2)
  | dct h1 h2 => exact .dct (e.1 _ _ h1 (fun _ z => nomatch z)) (e.rpk h2)
theorem Ext.rpos {vs : List V} {ds : List D} (e : Ext T H H') (h : RpOs K H N vs ds) : RpOs K H' N vs ds := by
  induction h with
  | nil => exact .nil
  | cons h1 _ ih => exact .cons (e.rpo h1) ih
/-- fewer are hidden -/
theorem Rp.anti {v : V} {d : D} (hn : ∀ a, N' a → N a) (h : Rp K H N v d) : Rp K H N' v d :=
  h.mapN (fun _ _ z => ⟨fun w => z.1 (hn _ w), z.2⟩) (fun _ _ q => q.imp (fun z => ⟨fun w => z.1 (hn _ w), z.2⟩) id) (fun _ _ n q => ⟨fun w => n (hn _ w), q⟩) (fun _ _ q => q.imp (fun z => ⟨fun w => z.1 (hn _ w), z.2⟩) id)
theorem RpAll.anti {v : List V} {d : List D} (hn : ∀ a, N' a → N a) (h : RpAll K H N v d) : RpAll K H N' v d :=
  h.mapN (fun _ _ z => ⟨fun w => z.1 (hn _ w), z.2⟩) (fun _ _ q => q.imp (fun z => ⟨fun w => z.1 (hn _ w), z.2⟩) id) (fun _ _ n q => ⟨fun w => n (hn _ w), q⟩) (fun _ _ q => q.imp (fun z => ⟨fun w => z.1 (hn _ w), z.2⟩) id)
theorem RpKv.anti {v : List (Key × V)} {d : List (DK × D)} (hn : ∀ a, N' a → N a) (h : RpKv K H N v d) : RpKv K H N' v d :=
  h.mapN (fun _ _ z => ⟨fun w => z.1 (hn _ w), z.2⟩) (fun _ _ q => q.imp (fun z => ⟨fun w => z.1 (hn _ w), z.2⟩) id) (fun _ _ n q => ⟨fun w => n (hn _ w), q⟩) (fun _ _ q => q.imp (fun z => ⟨fun w => z.1 (hn _ w), z.2⟩) id)
/-- a free address is hidden, too -/
def Nu (N : Hid) (p : Addr) : Hid := fun a => N a ∨ a = p
/-- nothing but, perhaps, a table stands there -/
def NF (H : Hp) (p : Addr) : Prop := ∀ o, H p = some o → ∃ ps, o = .tbl ps
theorem NF.of {p : Addr} (h : H p = none) : NF H p := fun o e => by rw [h] at e; cases e
theorem NF.ne {a p : Addr} {u : HO} (hp : NF H p) (h : H a = some u) (hu : ∀ ps, u ≠ .tbl ps) : a ≠ p := by
  rintro rfl
  obtain ⟨ps, e⟩ := hp u h
  exact hu ps e
theorem NF.back {H1 : Hp} {p : Addr} (e : LamX.ExtN H H1) (h : NF H1 p) : NF H p := fun o q => by
  by_cases hu : ∃ ps, o = .tbl ps
  · exact hu
  · exact h o (e p o q fun ps z => hu ⟨ps, z⟩)
theorem Rd.ne_free {a p : Addr} {u : HO} (h : Rd H a u) (hp : NF H p) (hu : ∀ ps, u ≠ .tbl ps) : a ≠ p := by
  rcases h with h | ⟨o, h⟩
  · exact hp.ne h hu
  · exact hp.ne h (fun _ z => nomatch z)
theorem hide_l {p : Addr} (hp : NF H p) : ∀ a xs, SqLN K H N a xs → SqLN K H (Nu N p) a xs := fun a xs z => ⟨fun w => w.elim z.1 (fun e => hp.ne z.2 (fun _ w => by cases w) e), z.2⟩
theorem hide_t {p : Addr} (hp : NF H p) : ∀ a xs, SqTN K H N a xs → SqTN K H (Nu N p) a xs := fun a xs q => q.imp (fun z => ⟨fun w => w.elim z.1 (fun e => Rd.ne_free z.2 hp (fun _ w => by cases w) e), z.2⟩) id
theorem hide_d {p : Addr} (hp : NF H p) : ∀ a kvs, ¬ N a → Rd H a (.dK kvs) → ¬ Nu N p a ∧ Rd H a (.dK kvs) := fun a kvs n q => ⟨fun w => w.elim n (fun e => Rd.ne_free q hp (fun _ w => by cases w) e), q⟩
theorem hide_s {p : Addr} (hp : NF H p) : ∀ a xs, SqLS K H N a xs → SqLS K H (Nu N p) a xs := fun a xs q => q.imp (fun z => ⟨fun w => w.elim z.1 (fun e => Rd.ne_free z.2 hp (fun _ w => by cases w) e), z.2⟩) id
theorem Rp.hide {p : Addr} {v : V} {d : D} (hp : NF H p) (h : Rp K H N v d) : Rp K H (Nu N p) v d := h.mapN (hide_l hp) (hide_t hp) (hide_d hp) (hide_s hp)
theorem RpAll.hide {p : Addr} {v : List V} {d : List D} (hp : NF H p) (h : RpAll K H N v d) : RpAll K H (Nu N p) v d := h.mapN (hide_l hp) (hide_t hp) (hide_d hp) (hide_s hp)
theorem RpKv.hide {p : Addr} {v : List (Key × V)} {d : List (DK × D)} (hp : NF H p) (h : RpKv K H N v d) : RpKv K H (Nu N p) v d := h.mapN (hide_l hp) (hide_t hp) (hide_d hp) (hide_s hp)
/-- a hidden object changes -/
theorem rd_upd {a p : Addr} {u o : HO} (h : Rd H a u) (hp : a ≠ p) : Rd (L2.upd H p o) a u := by
  rcases h with h | ⟨z, h⟩
  · exact .inl (by rw [upd_ne hp]; exact h)
  · exact .inr ⟨z, by rw [upd_ne hp]; exact h⟩
theorem upd_hid {p a : Addr} {o u : HO} (hp : N p) (n : ¬ N a) (q : H a = some u) : L2.upd H p o a = some u := by
  have e : a ≠ p := fun e => n (by rw [e]; exact hp)
  rw [upd_ne e]; exact q
theorem mut_l {p : Addr} {o : HO} (hp : N p) : ∀ a xs, SqLN K H N a xs → SqLN K (L2.upd H p o) N a xs := fun a xs z => ⟨z.1, upd_hid hp z.1 z.2⟩
theorem mut_t {p : Addr} {o : HO} (hp : N p) : ∀ a xs, SqTN K H N a xs → SqTN K (L2.upd H p o) N a xs := fun a xs q => q.imp (fun z => ⟨z.1, rd_upd z.2 fun e => z.1 (e ▸ hp)⟩) id
theorem mut_d {p : Addr} {o : HO} (hp : N p) : ∀ a kvs, ¬ N a → Rd H a (.dK kvs) → ¬ N a ∧ Rd (L2.upd H p o) a (.dK kvs) := fun a kvs n q => ⟨n, rd_upd q fun e => n (e ▸ hp)⟩
theorem Rp.mut {p : Addr} {o : HO} {v : V} {d : D} (hp : N p) (h : Rp K H N v d) : Rp K (L2.upd H p o) N v d := h.mapN (mut_l hp) (mut_t hp) (mut_d hp) (fun _ _ q => q.imp (fun z => ⟨z.1, rd_upd z.2 fun e => z.1 (e ▸ hp)⟩) id)
theorem RpAll.mut {p : Addr} {o : HO} {v : List V} {d : List D} (hp : N p) (h : RpAll K H N v d) : RpAll K (L2.upd H p o) N v d := h.mapN (mut_l hp) (mut_t hp) (mut_d hp) (fun _ _ q => q.imp (fun z => ⟨z.1, rd_upd z.2 fun e => z.1 (e ▸ hp)⟩) id)
theorem RpKv.mut {p : Addr} {o : HO} {v : List (Key × V)} {d : List (DK × D)} (hp : N p) (h : RpKv K H N v d) : RpKv K (L2.upd H p o) N v d := h.mapN (mut_l hp) (mut_t hp) (mut_d hp) (fun _ _ q => q.imp (fun z => ⟨z.1, rd_upd z.2 fun e => z.1 (e ▸ hp)⟩) id)
/-- lists -/
theorem RpAll.length {vs : List V} {ds : List D} (h : RpAll K H N vs ds) : vs.length = ds.length := by
  induction ds generalizing vs with
  | nil => cases h; rfl
  | cons d ds ih => cases h with | cons _ h2 => simp [ih h2]
theorem RpAll.append {vs ws : List V} {ds es : List D} (h : RpAll K H N vs ds) (h' : RpAll K H N ws es) : RpAll K H N (vs ++ ws) (ds ++ es) := by
  induction ds generalizing vs with
  | nil => cases h; exact h'
  | cons d ds ih => cases h with | cons h1 h2 => exact .cons h1 (ih h2)
theorem RpAll.get {vs : List V} {ds : List D} (h : RpAll K H N vs ds) {i : Nat} {d : D} (e : ds[i]? = some d) : ∃ v, vs[i]? = some v ∧ Rp K H N v d := by
  induction ds generalizing vs i with
  | nil => simp at e
  | cons x ds ih =>
    cases h with
    | cons h1 h2 =>
      cases i with
      | zero => simp at e; subst e; exact ⟨_, rfl, h1⟩
      | succ i => obtain ⟨v, q, r⟩ := ih h2 (by simpa using e); exact ⟨v, by simpa using q, r⟩
theorem RpAll.get' {vs : List V} {ds : List D} (h : RpAll K H N vs ds) {i : Nat} {v : V} (e : vs[i]? = some v) : ∃ d, ds[i]? = some d ∧ Rp K H N v d := by
  induction ds generalizing vs i with
  | nil => cases h; simp at e
  | cons x ds ih =>
    cases h with
    | cons h1 h2 =>
      cases i with
      | zero => simp at e; subst e; exact ⟨_, rfl, h1⟩
      | succ i => obtain ⟨v, q, r⟩ := ih h2 (by simpa using e); exact ⟨v, by simpa using q, r⟩
theorem RpAll.take {vs : List V} {ds : List D} (h : RpAll K H N vs ds) (n : Nat) : RpAll K H N (vs.take n) (ds.take n) := by
  induction ds generalizing vs n with
  | nil => cases h; simp; exact .nil
  | cons x ds ih =>
    cases h with
    | cons h1 h2 =>
      cases n with
      | zero => exact .nil
      | succ n => exact .cons h1 (ih h2 n)
theorem RpAll.drop {vs : List V} {ds : List D} (h : RpAll K H N vs ds) (n : Nat) : RpAll K H N (vs.drop n) (ds.drop n) := by
  induction ds generalizing vs n with
  | nil => cases h; simp; exact .nil
  | cons x ds ih =>
    cases h with
    | cons h1 h2 =>
      cases n with
      | zero => exact .cons h1 h2
      | succ n => exact ih h2 n
theorem RpAll.reverse {vs : List V} {ds : List D} (h : RpAll K H N vs ds) : RpAll K H N vs.reverse ds.reverse := by
  induction ds generalizing vs with
  | nil => cases h; exact .nil
  | cons x ds ih => cases h with | cons h1 h2 => simp only [List.reverse_cons]; exact (ih h2).append (.cons h1 .nil)
theorem RpAll.rep {vs : List V} {ds : List D} (h : RpAll K H N vs ds) : ∀ k : Nat, RpAll K H N (List.replicate k vs).flatten (List.replicate k ds).flatten
  | 0 => .nil
  | k + 1 => by simp only [List.replicate_succ, List.flatten_cons]; exact h.append (RpAll.rep h k)
theorem RpAll.ints {vs : List V} : ∀ {ns : List Int}, RpAll K H N vs (ns.map D.int) → vs = ns.map V.int := by
  intro ns h
  induction ns generalizing vs with
  | nil => cases h; rfl
  | cons n ns ih => cases h with | cons h1 h2 => cases h1; rw [ih h2]; rfl
theorem RpAll.bls {vs : List V} : ∀ {ns : List Bool}, RpAll K H N vs (ns.map D.bl) → vs = ns.map V.bl := by
  intro ns h
  induction ns generalizing vs with
  | nil => cases h; rfl
  | cons n ns ih => cases h with | cons h1 h2 => cases h1; rw [ih h2]; rfl
theorem RpAll.of_ints : ∀ ns : List Int, RpAll K H N (ns.map V.int) (ns.map D.int)
  | [] => .nil
  | _ :: ns => .cons (.int _) (RpAll.of_ints ns)
/-- what an operand tells of its object -/
theorem RpO.sqL {v : V} {ds : List D} (h : RpO K H N v (.lst ds)) : ∃ a xs, v = .ref a ∧ H a = some (.lst xs) ∧ RpAll K H N xs ds := by
  cases h with
  | of h => cases h with | lst h1 h2 => exact ⟨_, _, rfl, h1.2, h2⟩
  | lst h1 h2 => exact ⟨_, _, rfl, h1, h2⟩
theorem RpO.sqT {v : V} {ds : List D} (h : RpO K H N v (.tup ds)) : ∃ a xs, v = .ref a ∧ SqTN K H N a xs ∧ RpAll K H N xs ds := by
  cases h with
  | of h => cases h with | tup h1 h2 => exact ⟨_, _, rfl, h1, h2⟩
theorem RpO.int {v : V} {i : Int} (h : RpO K H N v (.int i)) : v = .int i := by
  cases h with
  | of h => cases h; rfl
theorem RpO.bl {v : V} {i : Bool} (h : RpO K H N v (.bl i)) : v = .bl i := by
  cases h with
  | of h => cases h; rfl
theorem RpO.non {v : V} (h : RpO K H N v .non) : v = .non := by
  cases h with
  | of h => cases h; rfl
theorem RpO.str {v : V} {l : List Nat} (h : RpO K H N v (.str l)) : v = .str ⟨l.toArray⟩ ∧ (∀ c ∈ l, c < 0x110000) ∧ l.length ≤ sizeLine := by
  cases h with
  | of h => cases h with | str _ h1 h2 => exact ⟨rfl, h1, h2⟩
theorem RpO.flat {v : V} {d : D} (h : RpO K H N v d) (n1 : ∀ xs, d ≠ .lst xs) (n2 : ∀ xs, d ≠ .dct xs) : Rp K H N v d := by
  cases h with
  | of h => exact h
  | lst _ _ => exact absurd rfl (n1 _)
  | dct _ _ => exact absurd rfl (n2 _)
mutual
theorem Rp.dp : ∀ (n : Nat) (d : D) (v : V), D.dep n d = true → Rp K H N v d → Dp K H v d.toP
  | _, .non, _, _, h => by cases h; simp only [D.toP]; exact .non
  | _, .bl _, _, _, h => by cases h; simp only [D.toP]; exact .bl _
  | _, .int _, _, _, h => by cases h; simp only [D.toP]; exact .int _
  | _, .str _, _, _, h => by cases h; simp only [D.toP]; exact .str _
  | n + 1, .lst ds, _, q, h => by cases h with | lst h1 h2 => simp only [D.toP]; exact .lst h1.sq (RpAll.dp n ds _ (by simpa [D.dep] using q) h2)
  | n + 1, .tup ds, _, q, h => by cases h with | tup h1 h2 => simp only [D.toP]; exact .tup h1.sq (RpAll.dp n ds _ (by simpa [D.dep] using q) h2)
  | 0, .lst ds, _, q, h => by simp [D.dep] at q
  | 0, .tup ds, _, q, h => by simp [D.dep] at q
  | _, .dct ds, _, q, h => by simp [D.dep] at q
  | _, .scr ds, _, q, h => by simp [D.dep] at q
theorem RpAll.dp : ∀ (n : Nat) (ds : List D) (vs : List V), (∀ d ∈ ds, D.dep n d = true) → RpAll K H N vs ds → DpAll K H vs (D.toPs ds)
  | _, [], _, _, h => by cases h; simp only [D.toPs]; exact .nil
  | n, d :: ds, _, q, h => by cases h with | cons h1 h2 => simp only [D.toPs]; exact .cons (Rp.dp n d _ (q d (by simp)) h1) (RpAll.dp n ds _ (fun x hx => q x (by simp [hx])) h2)
end
theorem RpO.dp {n : Nat} {d : D} {v : V} (q : D.dep n d = true) (h : RpO K H N v d) : Dp K H v d.toP := by
  cases h with
  | of h => exact Rp.dp n d v q h
  | lst h1 h2 =>
    cases n with
    | zero => simp [D.dep] at q
    | succ n => simp only [D.toP]; exact .lst (.inl (.inl h1)) (RpAll.dp n _ _ (by simpa [D.dep] using q) h2)
  | dct h1 h2 => cases n <;> simp [D.dep] at q
end
theorem str_ok {l : List Nat} (h : ∀ c ∈ l, c < 0x110000) : PyData.strOk ⟨l.toArray⟩ = true := by
  unfold PyData.strOk
  rw [Array.all_eq_true']
  intro c hc
  exact decide_eq_true (h c (by simpa using hc))
section
variable {K : PySem.W.Frag} {H : Hp} {N : Hid}
mutual
theorem Rp.lay : ∀ (n : Nat) (d : D) (v : V), D.dep n d = true → Rp K H N v d → PyData.canLay0 d.toP = true ∧ PyData.depth d.toP ≤ n + 1
  | n, .non, _, _, h => by simp [D.toP, PyData.canLay0, PyData.depth]
  | n, .bl _, _, _, h => by simp [D.toP, PyData.canLay0, PyData.depth]
  | n, .int _, _, _, h => by simp [D.toP, PyData.canLay0, PyData.depth]
  | n, .str _, _, _, h => by cases h with | str _ h1 h2 => simp [D.toP, PyData.canLay0, PyData.depth, str_ok h1]
  | n + 1, .lst ds, _, q, h => by cases h with | lst h1 h2 => have := RpAll.lay n ds _ (by simpa [D.dep] using q) h2; simp [D.toP, PyData.canLay0, PyData.depth]; exact ⟨this.1, by omega⟩
  | n + 1, .tup ds, _, q, h => by cases h with | tup h1 h2 => have := RpAll.lay n ds _ (by simpa [D.dep] using q) h2; simp [D.toP, PyData.canLay0, PyData.depth]; exact ⟨this.1, by omega⟩
  | 0, .lst ds, _, q, h => by simp [D.dep] at q
  | 0, .tup ds, _, q, h => by simp [D.dep] at q
  | _, .dct ds, _, q, h => by simp [D.dep] at q
  | _, .scr ds, _, q, h => by simp [D.dep] at q
theorem RpAll.lay : ∀ (n : Nat) (ds : List D) (vs : List V), (∀ d ∈ ds, D.dep n d = true) → RpAll K H N vs ds → PyData.canLayAll0 (D.toPs ds) = true ∧ PyData.depthAll (D.toPs ds) ≤ n + 1
  | n, [], _, _, h => by simp [D.toPs, PyData.canLayAll0, PyData.depthAll]
  | n, d :: ds, _, q, h => by
    cases h with
    | cons h1 h2 =>
      have a := Rp.lay n d _ (q d (by simp)) h1
      have b := RpAll.lay n ds _ (fun x hx => q x (by simp [hx])) h2
      simp [D.toPs, PyData.canLayAll0, PyData.depthAll, a.1, b.1]
      omega
end
theorem RpO.shaped {n : Nat} {d : D} {v : V} (hn : n ≤ 60) (q : D.dep n d = true) (h : RpO K H N v d) : SeqAt.shaped d.toP = true := by
  have fin : PyData.canLay0 d.toP = true ∧ PyData.depth d.toP ≤ n + 1 := by
    cases h with
    | of h => exact Rp.lay n d v q h
    | lst h1 h2 =>
      cases n with
      | zero => simp [D.dep] at q
      | succ n =>
        have := RpAll.lay n _ _ (by simpa [D.dep] using q) h2
        simp [D.toP, PyData.canLay0, PyData.depth]
        exact ⟨this.1, by omega⟩
    | dct h1 h2 => cases n <;> simp [D.dep] at q
  unfold SeqAt.shaped
  rw [fin.1, Bool.true_and]
  exact decide_eq_true (by omega)
end
end DN

set_option Elab.async false
set_option linter.all false
set_option maxRecDepth 100000
namespace DN
open PySem PySem.Spec PyProof.Rows L2
/-! ### what is handed on -/
abbrev szL : Nat := 16777216
theorem szL_eq : sizeLine = szL := sizeLine_eq
def Dom (N : Hid) (H : Hp) : Prop := ∀ a, N a → ∃ o, H a = some o ∧ ∀ ps, o ≠ .tbl ps
def Giv (K : PySem.W.Frag) (T : List (Addr × Str)) (N : Hid) (H : Hp) (d : D) (Q : VK) : Prop := ∀ v H', Ext T H H' → Rp K H' N v d → Q v H'
section
variable {K : PySem.W.Frag} {T : List (Addr × Str)} {N : Hid} {H H' : Hp} {Q : VK}
theorem Dom.ext (h : Dom N H) (e : Ext T H H') : Dom N H' := fun a n => let ⟨o, q, z⟩ := h a n; ⟨o, e.1 _ _ q z, z⟩
theorem Dom.free (h : Dom N H) {p : Addr} (hp : H p = none) : ¬ N p := fun n => by
  obtain ⟨o, q, _⟩ := h p n
  rw [hp] at q; cases q
theorem Giv.now {v : V} {d : D} (g : Giv K T N H d Q) (r : Rp K H N v d) : Q v H := g v H (Ext.refl H) r
theorem Giv.int {i : Int} (g : Giv K T N H (.int i) Q) : Q (.int i) H := g.now (.int i)
theorem Giv.bl {i : Bool} (g : Giv K T N H (.bl i) Q) : Q (.bl i) H := g.now (.bl i)
theorem Giv.non (g : Giv K T N H .non Q) : Q .non H := g.now .non
theorem Giv.mono {d : D} (g : Giv K T N H d Q) (e : Ext T H H') : Giv K T N H' d Q := fun v H2 e2 r => g v H2 (e.trans e2) r
theorem Rp.newL {p : Addr} {xs : List V} {ds : List D} (dom : Dom N H) (hp : H p = none) (rs : RpAll K H N xs ds) : Rp K (upd H p (.lst xs)) N (.ref p) (.lst ds) :=
  .lst ⟨dom.free hp, upd_same⟩ ((Ext.new (T := []) hp).rps rs)
theorem Rp.newT {p : Addr} {xs : List V} {ds : List D} (dom : Dom N H) (hp : H p = none) (rs : RpAll K H N xs ds) : Rp K (upd H p (.tup xs)) N (.ref p) (.tup ds) :=
  .tup (.inl ⟨dom.free hp, .inl upd_same⟩) ((Ext.new (T := []) hp).rps rs)
theorem Giv.lst {xs : List V} {ds : List D} (g : Giv K T N H (.lst ds) Q) (dom : Dom N H) (rs : RpAll K H N xs ds) : ∀ p, H p = none → Q (.ref p) (upd H p (.lst xs)) :=
  fun p hp => g _ _ (Ext.new hp) (Rp.newL dom hp rs)
theorem Giv.tup {xs : List V} {ds : List D} (g : Giv K T N H (.tup ds) Q) (dom : Dom N H) (rs : RpAll K H N xs ds) : ∀ p, H p = none → Q (.ref p) (upd H p (.tup xs)) :=
  fun p hp => g _ _ (Ext.new hp) (Rp.newT dom hp rs)
theorem Giv.str {l : List Nat} (g : Giv K T N H (.str l) Q) (h1 : ∀ c ∈ l, c < 0x110000) (h2 : l.length ≤ szL) : Q (.str ⟨l.toArray⟩) H := g.now (.str l h1 (by rw [szL_eq]; exact h2))
end
theorem str_app (x y : List Nat) : ((⟨x.toArray⟩ : Str) ++ ⟨y.toArray⟩) = ⟨(x ++ y).toArray⟩ := by
  apply TL.ext_tl
  rw [TL.tl_append]
theorem str_len (x : List Nat) : (⟨x.toArray⟩ : Str).length = x.length := by simp [Str.length]
section
variable {X : Cx}
def rRepS : R2 := fun x y H Q => ∃ (z : List Nat) (k : Int), x = .str ⟨z.toArray⟩ ∧ y = .int k ∧ -(2 ^ 30) ≤ k ∧ k < 2 ^ 30 ∧ z.length * k.toNat ≤ sizeLine ∧ Q (.str ⟨(List.replicate k.toNat z).flatten.toArray⟩) H
theorem fold_rep (z : List Nat) : ∀ (k : Nat) (acc : List Nat), (List.replicate k z.toArray).foldl (· ++ ·) acc.toArray = (acc ++ (List.replicate k z).flatten).toArray
  | 0, acc => by simp
  | k + 1, acc => by
    rw [List.replicate_succ, List.foldl_cons, List.append_toArray, fold_rep z k]
    simp [List.replicate_succ]
theorem op_repS : OpR X (binaryOp .Mult) rRepS := by
  intro pins s σ H x y v u Q I rx ry h
  obtain ⟨z, k, rfl, rfl, h1, h2, hz, q⟩ := h
  obtain ⟨t, rfl⟩ := rx
  obtain ⟨t', rfl⟩ := ry
  have hs : (sizeLine : Nat) = 16777216 := sizeLine_eq
  have e0 : ∀ tk, EP X pins σ Q (.str ⟨(List.replicate k.toNat z).flatten.toArray⟩ tk) { s with toks := s.toks + 1 } := fun tk => ⟨.str _, H, I.tok _, ⟨_, rfl⟩, q⟩
  have e1 : ∀ tk, EP X pins σ Q (.str ⟨(List.replicate k.toNat z).flatten.toArray⟩ tk) s := fun tk => ⟨.str _, H, I, ⟨_, rfl⟩, q⟩
  have hlen : (⟨z.toArray⟩ : Str).length = z.length := str_len z
  refine PySem.P.mul_str ?_ (fun a b => ?_) (fun a b => ?_) ?_
  · rw [decide_eq_false (by omega), decide_eq_false (by omega)]; rfl
  · rw [hlen]
    have hz' : z.length ≤ 16777216 := by
      have : 1 ≤ k.toNat := by omega
      calc z.length = z.length * 1 := by omega
        _ ≤ z.length * k.toNat := Nat.mul_le_mul_left _ this
        _ ≤ 16777216 := by omega
    have h3 : (16777216 : Int) ≤ (2 ^ 63 - 1) / k := (Int.le_ediv_iff_mul_le (by omega)).mpr (by omega)
    omega
  · rw [hlen]
    unfold Builtin.Str.tooLong
    rw [decide_eq_false]
    rw [← sizeLine_eq] at *
    omega
  · by_cases c1 : k < 1
    · rw [if_pos c1]
      have e : k.toNat = 0 := by omega
      refine ⟨by decide, ?_⟩
      have := e0 s.toks
      rw [e] at this
      exact this
    · rw [if_neg c1]
      by_cases c2 : (k == 1 || (⟨z.toArray⟩ : Str).length == 0) = true
      · rw [if_pos c2]
        have e : (List.replicate k.toNat z).flatten = z := by
          rcases Bool.or_eq_true_iff.mp c2 with c | c
          · have : k = 1 := by simpa using c
            subst this
            simp
          · have : z = [] := by
              rw [hlen] at c
              exact List.length_eq_zero_iff.mp (by simpa using c)
            subst this
            simp
        show EP X pins σ Q _ s
        have := e1 t
        rw [e] at this
        exact this
      · rw [if_neg c2]
        have ef := fold_rep z k.toNat []
        simp only [List.nil_append] at ef
        have ef2 : (List.replicate k.toNat z.toArray).foldl (· ++ ·) #[] = (List.replicate k.toNat z).flatten.toArray := ef
        refine ⟨?_, ?_⟩
        · rw [ef2]
          show (⟨(List.replicate k.toNat z).flatten.toArray⟩ : Str).length ≤ sizeLine
          rw [str_len]
          simp
          rw [Nat.mul_comm]
          exact hz
        · show EP X pins σ Q (Value.str ⟨(List.replicate k.toNat z.toArray).foldl (· ++ ·) #[]⟩ s.toks) { s with toks := s.toks + 1 }
          rw [ef2]
          exact e0 _
end
end DN

set_option Elab.async false
set_option linter.all false
set_option maxRecDepth 100000
namespace DN
open PySem PySem.Spec PyProof.Rows L2
/-! ### operators -/
inductive Bop where
  | add | sub | mul | fdiv | mod | pow | xor
  deriving DecidableEq
def Bop.op : Bop → Operator
  | .add => .Add
  | .sub => .Sub
  | .mul => .Mult
  | .fdiv => .FloorDiv
  | .mod => .Mod
  | .pow => .Pow
  | .xor => .BitXor
def mulOk (i j : Int) : Bool := (decide (-(2 ^ 64) < i) && decide (i < 2 ^ 64)) || (decide (-(2 ^ 64) < j) && decide (j < 2 ^ 64)) || (decide (i.natAbs < 2 ^ 9000) && decide (j.natAbs < 2 ^ 9000))
def divOk (j : Int) : Bool := decide (0 < j) && decide (j < 2 ^ 9000)
def powOk (i j : Int) : Bool := decide (0 ≤ j) && decide (j ≤ 1000) && decide (-(2 ^ 64) < i) && decide (i < 2 ^ 64)
def repOk (n : Nat) (k : Int) : Bool := decide (-(2 ^ 30) ≤ k) && decide (k < 2 ^ 30) && decide (n * k.toNat ≤ szL)
def binSem : Bop → D → D → Option D
  | .add, .int i, .int j => some (.int (i + j))
  | .add, .str x, .str y => if x.length + y.length ≤ szL then some (.str (x ++ y)) else none
  | .add, .lst x, .lst y => if x.length + y.length ≤ szL then some (.lst (x ++ y)) else none
  | .add, .tup x, .tup y => if x.length + y.length ≤ szL then some (.tup (x ++ y)) else none
  | .sub, .int i, .int j => some (.int (i - j))
  | .mul, .int i, .int j => if mulOk i j then some (.int (i * j)) else none
  | .mul, .str x, .int k => if repOk x.length k then some (.str (List.replicate k.toNat x).flatten) else none
  | .mul, .lst x, .int k => if repOk x.length k then some (.lst (List.replicate k.toNat x).flatten) else none
  | .fdiv, .int i, .int j => if divOk j then some (.int (i / j)) else none
  | .mod, .int i, .int j => if 0 < j then some (.int (i % j)) else none
  | .pow, .int i, .int j => if powOk i j then some (.int (i ^ j.toNat)) else none
  | .xor, .int i, .int j => some (.int (Builtin.bitXor i j))
  | _, _, _ => none
def r2 (K : PySem.W.Frag) (T : List (Addr × Str)) (f : D → D → Option D) : R2 := fun x y H Q => ∃ N dx dy d, Dom N H ∧ RpO K H N x dx ∧ RpO K H N y dy ∧ f dx dy = some d ∧ Giv K T N H d Q
theorem log_lt {n k : Nat} (hk : 0 < k) (h : n < 2 ^ k) : n.log2 < k := PySem.Flt.log2_lt_of hk h
theorem flat_lt {z : List Nat} {k : Nat} (h : ∀ c ∈ z, c < 0x110000) : ∀ c ∈ (List.replicate k z).flatten, c < 0x110000 := by
  intro c hc
  obtain ⟨l, hl, hc⟩ := List.mem_flatten.mp hc
  rw [List.eq_of_mem_replicate hl] at hc
  exact h c hc
theorem bin_ok {X : Cx} {T : List (Addr × Str)} (op : Bop) : OpR X (binaryOp op.op) (r2 X.K T (binSem op)) := by
  intro pins s σ H x y v u Q I rx ry h
  obtain ⟨N, dx, dy, d, dom, hx, hy, e, g⟩ := h
  have hsz : (sizeLine : Nat) = szL := sizeLine_eq
  cases op with
  | add =>
    cases dx <;> cases dy <;> simp only [binSem, reduceCtorEq] at e
    · cases e; exact op_add pins s σ H x y v u Q I rx ry ⟨_, _, hx.int, hy.int, g.int⟩
    · split at e
      · cases e
        rename_i x1 y1 hl
        obtain ⟨ex, cx, lx⟩ := hx.str
        obtain ⟨ey, cy, ly⟩ := hy.str
        refine op_add_str pins s σ H x y v u Q I rx ry ⟨_, _, ex, ey, ?_, ?_⟩
        · rw [str_len, str_len, hsz]; exact hl
        · rw [str_app]
          exact g.str (fun c hc => (List.mem_append.mp hc).elim (cx c) (cy c)) (by simpa using hl)
      · cases e
    · split at e
      · cases e
        rename_i hl
        obtain ⟨a, xs, ex, q1, r1⟩ := hx.sqL
        obtain ⟨b, ys, ey, q2, r2⟩ := hy.sqL
        exact op_cat pins s σ H x y v u Q I rx ry ⟨a, b, xs, ys, ex, ey, q1, q2, by rw [r1.length, r2.length, hsz]; exact hl, g.lst dom (r1.append r2)⟩
      · cases e
    · split at e
      · cases e
        rename_i hl
        obtain ⟨a, xs, ex, q1, r1⟩ := hx.sqT
        obtain ⟨b, ys, ey, q2, r2⟩ := hy.sqT
        refine op_catA pins s σ H x y v u Q I rx ry ⟨a, b, xs, ys, ex, ey, q1.sq, q2.sq, by rw [r1.length, r2.length, hsz]; exact hl, fun h0 => ?_, fun h0 h1 => ?_, fun _ _ => g.tup dom (r1.append r2)⟩
        · subst h0
          cases r1
          exact g.now (.tup q2 r2)
        · subst h1
          cases r2
          rw [List.append_nil] at g
          exact g.now (.tup q1 r1)
      · cases e
  | sub =>
    cases dx <;> cases dy <;> simp only [binSem, reduceCtorEq] at e
    cases e; exact op_sub pins s σ H x y v u Q I rx ry ⟨_, _, hx.int, hy.int, g.int⟩
  | mul =>
    cases dx <;> cases dy <;> simp only [binSem, reduceCtorEq] at e
    · split at e
      · cases e
        rename_i i j hm
        unfold mulOk at hm
        simp only [Bool.or_eq_true, Bool.and_eq_true, decide_eq_true_eq] at hm
        rcases hm with hm | hm
        · exact op_mul pins s σ H x y v u Q I rx ry ⟨_, _, hx.int, hy.int, hm, g.int⟩
        · refine op_mulW pins s σ H x y v u Q I rx ry ⟨_, _, hx.int, hy.int, ?_, g.int⟩
          exact wide_mul hm.1 hm.2 (by omega) (by omega) (by omega)
      · cases e
    · split at e
      · cases e
        rename_i l k hm
        unfold repOk at hm
        simp only [Bool.and_eq_true, decide_eq_true_eq] at hm
        obtain ⟨ex, cx, lx⟩ := hx.str
        refine op_repS pins s σ H x y v u Q I rx ry ⟨_, _, ex, hy.int, hm.1.1, hm.1.2, by rw [hsz]; exact hm.2, g.str (flat_lt cx) ?_⟩
        simp
        rw [Nat.mul_comm]
        exact hm.2
      · cases e
    · split at e
      · cases e
        rename_i l k hm
        unfold repOk at hm
        simp only [Bool.and_eq_true, decide_eq_true_eq] at hm
        obtain ⟨a, xs, ex, q1, r1⟩ := hx.sqL
        exact op_rep pins s σ H x y v u Q I rx ry ⟨a, k, xs, ex, hy.int, q1, by omega, by omega, by rw [r1.length, hsz]; exact hm.2, g.lst dom (r1.rep _)⟩
      · cases e
  | fdiv =>
    cases dx <;> cases dy <;> simp only [binSem, reduceCtorEq] at e
    split at e
    · cases e
      rename_i i j hm
      unfold divOk at hm
      simp only [Bool.and_eq_true, decide_eq_true_eq] at hm
      exact op_fdivW pins s σ H x y v u Q I rx ry ⟨_, _, hx.int, hy.int, wide_div hm.1 (show j.natAbs < 2 ^ 9000 by omega) (by omega) (by omega), g.int⟩
    · cases e
  | mod =>
    cases dx <;> cases dy <;> simp only [binSem, reduceCtorEq] at e
    split at e
    · cases e
      rename_i hm
      exact op_mod pins s σ H x y v u Q I rx ry ⟨_, _, hx.int, hy.int, hm, g.int⟩
    · cases e
  | pow =>
    cases dx <;> cases dy <;> simp only [binSem, reduceCtorEq] at e
    split at e
    · cases e
      rename_i hm
      unfold powOk at hm
      simp only [Bool.and_eq_true, decide_eq_true_eq] at hm
      exact op_pow pins s σ H x y v u Q I rx ry ⟨_, _, hx.int, hy.int, ⟨hm.1.1.1, by omega, by omega⟩, g.int⟩
    · cases e
  | xor =>
    cases dx <;> cases dy <;> simp only [binSem, reduceCtorEq] at e
    cases e; exact op_xor pins s σ H x y v u Q I rx ry ⟨_, _, hx.int, hy.int, g.int⟩
/-! ### comparisons -/
inductive Cop where
  | lt | le | gt | ge | eq | ne | isin | notin | isn | notn
  deriving DecidableEq
def Cop.op : Cop → CmpOp
  | .lt => .Lt
  | .le => .LtE
  | .gt => .Gt
  | .ge => .GtE
  | .eq => .Eq
  | .ne => .NotEq
  | .isin => .In
  | .notin => .NotIn
  | .isn => .Is
  | .notn => .IsNot
def D.flat : D → Bool
  | .non => true
  | .bl _ => true
  | .int _ => true
  | .str _ => true
  | _ => false
def D.isNon : D → Bool
  | .non => true
  | _ => false
def eqSem : D → D → Option Bool
  | .scr ns, .lst [] => some ns.isEmpty
  | x, y => if x.dep 8 && y.dep 8 then some (x.eqb y) else none
def subSem (x y : List Nat) : Option Bool :=
  match x with
  | [c] => some (decide (c ∈ y))
  | _ => some (!(Builtin.Str.occurrences ⟨y.toArray⟩ ⟨x.toArray⟩ 0 y.length 1).isEmpty)
def inSem : D → D → Option Bool
  | .str x, .str y => subSem x y
  | x, .lst ys => if x.flat && ys.all D.flat then some (ys.any fun y => y.eqb x) else none
  | x, .tup ys => if x.flat && ys.all D.flat then some (ys.any fun y => y.eqb x) else none
  | _, _ => none
mutual
/-- can be compared, place by place -/
def D.alk : D → D → Bool
  | .bl _, .bl _ => true
  | .int _, .int _ => true
  | .str _, .str _ => true
  | .lst xs, .lst ys => D.alks xs ys
  | .tup xs, .tup ys => D.alks xs ys
  | _, _ => false
def D.alks : List D → List D → Bool
  | x :: xs, y :: ys => D.alk x y && D.alks xs ys
  | [], _ => true
  | _ :: _, [] => true
end
mutual
def D.ltb : D → D → Bool
  | .bl a, .bl b => decide ((if a then (1 : Int) else 0) < if b then 1 else 0)
  | .int i, .int j => decide (i < j)
  | .str x, .str y => decide (x < y)
  | .lst xs, .lst ys => D.ltbs xs ys
  | .tup xs, .tup ys => D.ltbs xs ys
  | _, _ => false
def D.ltbs : List D → List D → Bool
  | x :: xs, y :: ys => if D.eqb x y then D.ltbs xs ys else D.ltb x y
  | [], [] => false
  | [], _ :: _ => true
  | _ :: _, [] => false
end
def ltSem (x y : D) : Option Bool := if x.dep 8 && y.dep 8 && x.alk y then some (x.ltb y) else none
def cmpSem : Cop → D → D → Option Bool
  | .lt, .int i, .int j => some (decide (i < j))
  | .le, .int i, .int j => some (decide (i ≤ j))
  | .gt, .int i, .int j => some (decide (j < i))
  | .ge, .int i, .int j => some (decide (j ≤ i))
  | .lt, .str i, .str j => some (decide (i < j))
  | .lt, .lst xs, .lst ys => ltSem (.lst xs) (.lst ys)
  | .lt, .tup xs, .tup ys => ltSem (.tup xs) (.tup ys)
  | .le, .str i, .str j => some (!decide (j < i))
  | .gt, .str i, .str j => some (decide (j < i))
  | .ge, .str i, .str j => some (!decide (i < j))
  | .eq, x, y => eqSem x y
  | .ne, x, y => (eqSem x y).map not
  | .isin, x, y => inSem x y
  | .notin, x, y => (inSem x y).map not
  | .isn, x, .non => some x.isNon
  | .notn, x, .non => some (!x.isNon)
  | _, _, _ => none
section
variable {K : PySem.W.Frag} {H : Hp} {N : Hid}
theorem flat_of {v : V} {d : D} (f : d.flat = true) (h : Rp K H N v d) : flatV v = true := by
  cases d <;> simp [D.flat] at f <;> cases h <;> rfl
theorem eqV_of {v w : V} {d e : D} (f : d.flat = true) (f' : e.flat = true) (h : Rp K H N v d) (h' : Rp K H N w e) : eqV v w = D.eqb d e := by
  cases d <;> simp [D.flat] at f <;> cases e <;> simp [D.flat] at f' <;> cases h <;> cases h' <;> simp [eqV, D.eqb, str_beq]
theorem flats_of : ∀ {ds : List D} {vs : List V}, ds.all D.flat = true → RpAll K H N vs ds → vs.all flatV = true
  | [], _, _, h => by cases h; rfl
  | d :: ds, _, f, h => by
    cases h with
    | cons h1 h2 =>
      simp only [List.all_cons, Bool.and_eq_true] at f ⊢
      exact ⟨flat_of f.1 h1, flats_of f.2 h2⟩
theorem inV_of {w : V} {e : D} (f' : e.flat = true) (h' : Rp K H N w e) : ∀ {ds : List D} {vs : List V}, ds.all D.flat = true → RpAll K H N vs ds → inV w vs = ds.any fun y => y.eqb e
  | [], _, _, h => by cases h; rfl
  | d :: ds, _, f, h => by
    cases h with
    | cons h1 h2 =>
      simp only [List.all_cons, Bool.and_eq_true] at f
      unfold inV
      rw [List.any_cons, List.any_cons, eqV_of f.1 f' h1 h']
      exact congrArg _ (inV_of f' h' f.2 h2)
theorem isNon_of {v : V} {d : D} (h : RpO K H N v d) : decide (v = .non) = d.isNon := by
  cases h with
  | of h => cases h <;> rfl
  | lst _ _ => rfl
  | dct _ _ => rfl
end
theorem tl_mk (x : List Nat) : (⟨x.toArray⟩ : Str).cps.toList = x := by simp
section
variable {X : Cx} {T : List (Addr × Str)}
def r2B (K : PySem.W.Frag) (f : D → D → Option Bool) : R2 := fun x y H Q => ∃ N dx dy b, RpO K H N x dx ∧ RpO K H N y dy ∧ f dx dy = some b ∧ Q (.bl b) H
theorem eq_data {v w : V} {d e : D} {H : Hp} {N : Hid} (h : RpO X.K H N v d) (h' : RpO X.K H N w e) {b : Bool} (q : eqSem d e = some b) :
    ∃ p p', Dp X.K H v p ∧ Dp X.K H w p' ∧ SeqAt.shaped p = true ∧ SeqAt.shaped p' = true ∧ PyData.eqv p p' = b := by
  have gen : (if d.dep 8 && e.dep 8 then some (d.eqb e) else none) = some b → ∃ p p', Dp X.K H v p ∧ Dp X.K H w p' ∧ SeqAt.shaped p = true ∧ SeqAt.shaped p' = true ∧ PyData.eqv p p' = b := by
    intro q
    split at q
    · rename_i c
      simp only [Bool.and_eq_true] at c
      exact ⟨d.toP, e.toP, h.dp c.1, h'.dp c.2, h.shaped (by omega) c.1, h'.shaped (by omega) c.2, by rw [eqv_toP]; exact Option.some.inj q⟩
    · cases q
  unfold eqSem at q
  split at q
  · rename_i ns
    cases q
    cases h with
    | of h =>
      cases h with
      | scr hs =>
        obtain ⟨a, xs, rfl, hH, hr⟩ := h'.sqL
        cases hr
        refine ⟨.list (ns.map .int), .list [], .lst hs.sq ?_, .lst (.inl (.inl hH)) .nil, ?_, by decide, ?_⟩
        · have : ∀ ns : List Int, DpAll X.K H (ns.map V.int) (ns.map PyData.int) := by
            intro ns
            induction ns with
            | nil => exact .nil
            | cons n ns ih => exact .cons (.int n) ih
          exact this ns
        · have h1 : ∀ ns : List Int, PyData.canLayAll0 (ns.map PyData.int) = true := by
            intro ns
            induction ns with
            | nil => rfl
            | cons n ns ih => simp [PyData.canLayAll0, PyData.canLay0] at ih ⊢; exact ih
          have h2 : ∀ ns : List Int, PyData.depthAll (ns.map PyData.int) = 0 := by
            intro ns
            induction ns with
            | nil => rfl
            | cons n ns ih => simp [PyData.depthAll, PyData.depth] at ih ⊢; exact ih
          unfold SeqAt.shaped
          simp [PyData.canLay0, PyData.depth, h1, h2]
        · cases ns <;> simp [PyData.eqv, PyData.eqvAll]
  · exact gen q
mutual
theorem alk_toP : ∀ d e : D, D.alk d e = true → PySem.W.alike d.toP e.toP = true ∧ d.toP ≠ .none
  | .bl _, e, h => by cases e <;> simp [D.alk] at h; simp [D.toP, PySem.W.alike]
  | .int _, e, h => by cases e <;> simp [D.alk] at h; simp [D.toP, PySem.W.alike]
  | .str _, e, h => by cases e <;> simp [D.alk] at h; simp [D.toP, PySem.W.alike]
  | .lst xs, e, h => by
    cases e <;> simp [D.alk] at h
    simp [D.toP, PySem.W.alike, alks_toP _ _ h]
  | .tup xs, e, h => by
    cases e <;> simp [D.alk] at h
    simp [D.toP, PySem.W.alike, alks_toP _ _ h]
  | .non, e, h => by cases e <;> simp [D.alk] at h
  | .dct _, e, h => by cases e <;> simp [D.alk] at h
  | .scr _, e, h => by cases e <;> simp [D.alk] at h
theorem alks_toP : ∀ d e : List D, D.alks d e = true → PySem.W.alikeAll (D.toPs d) (D.toPs e) = true
  | [], e, _ => by simp [D.toPs, PySem.W.alikeAll]
  | x :: xs, [], _ => by simp [D.toPs, PySem.W.alikeAll]
  | x :: xs, y :: ys, h => by
    simp [D.alks] at h
    simp [D.toPs, PySem.W.alikeAll, (alk_toP x y h.1).1, alks_toP xs ys h.2]
end
mutual
theorem ltb_toP : ∀ d e : D, D.alk d e = true → PySem.W.dataLt d.toP e.toP = D.ltb d e
  | .bl a, e, h => by
    cases e <;> simp [D.alk] at h
    simp only [D.toP, D.ltb]
    rw [PySem.W.dataLt_bool]
    rfl
  | .int _, e, h => by
    cases e <;> simp [D.alk] at h
    simp only [D.toP, D.ltb, PySem.W.dataLt_int]
  | .str _, e, h => by
    cases e <;> simp [D.alk] at h
    simp only [D.toP, D.ltb, PySem.W.dataLt_str]
  | .lst xs, e, h => by
    cases e <;> simp [D.alk] at h
    simp only [D.toP, D.ltb, PySem.W.dataLt_list]
    exact ltbs_toP _ _ h
  | .tup xs, e, h => by
    cases e <;> simp [D.alk] at h
    simp only [D.toP, D.ltb, PySem.W.dataLt_tuple]
    exact ltbs_toP _ _ h
  | .non, e, h => by cases e <;> simp [D.alk] at h
  | .dct _, e, h => by cases e <;> simp [D.alk] at h
  | .scr _, e, h => by cases e <;> simp [D.alk] at h
theorem ltbs_toP : ∀ d e : List D, D.alks d e = true → PyProof.Rows.lexLt PyProof.Rows.itemOrd (PySem.W.keyToksAll (D.toPs d)) (PySem.W.keyToksAll (D.toPs e)) = D.ltbs d e
  | [], [], _ => by simp only [D.toPs, D.ltbs]; rfl
  | [], y :: ys, _ => by
    simp only [D.toPs, D.ltbs, PySem.W.keyToksAll]
    rfl
  | x :: xs, [], _ => by
    simp only [D.toPs, D.ltbs, PySem.W.keyToksAll]
    rfl
  | x :: xs, y :: ys, h => by
    simp [D.alks] at h
    simp only [D.toPs, D.ltbs]
    have e := eqv_toP x y
    cases q : D.eqb x y with
    | true =>
      rw [q] at e
      rw [PySem.W.dataLt_all_yes (alk_toP x y h.1).1 e, ltbs_toP xs ys h.2]
      simp
    | false =>
      rw [q] at e
      rw [PySem.W.dataLt_all_no (alk_toP x y h.1).1 e, ltb_toP x y h.1]
      simp
end
theorem lt_data (hu : X.A.units + 64 < cLine) {pins : List (Addr × Obj)} {s : Shared} {σ : L2.St} {H : Hp} {N : Hid} {x y : V} {v u : Value} {Q : VK} {d e : D} {b : Bool} (I : Inv X pins σ H s) (rx : RelV x v) (ry : RelV y u) (hx : RpO X.K H N x d) (hy : RpO X.K H N y e) (h : ltSem d e = some b) (q : Q (.bl b) H) :
    wpAny (model X.prog X.w) X.A (compareOp .Lt v u) (EP X pins σ Q) X.xe s := by
  unfold ltSem at h
  split at h
  · rename_i c
    cases h
    simp only [Bool.and_eq_true] at c
    obtain ⟨⟨c1, c2⟩, c3⟩ := c
    obtain ⟨as, r1⟩ := Dp.reads I d.toP x v (hx.dp c1) rx
    obtain ⟨bs, r2⟩ := Dp.reads I e.toP y u (hy.dp c2) ry
    have sh := hx.shaped (by omega) c1
    have sh2 := hy.shaped (by omega) c2
    unfold SeqAt.shaped at sh sh2
    simp only [Bool.and_eq_true, decide_eq_true_eq] at sh sh2
    obtain ⟨a1, a2⟩ := alk_toP d e c3
    refine PySem.W.rcLt_alike d.toP e.toP X.A s v u as bs r1 r2 a1 a2 (by omega) X.prog X.w _ _ ⟨.bl _, H, I, ?_, q⟩
    show Value.bool _ = Value.bool _
    rw [ltb_toP d e c3]
  · cases h
theorem cmp_ok (hu : X.A.units + 64 < cLine) (op : Cop) : OpR X (compareOp op.op) (r2B X.K (cmpSem op)) := by
  intro pins s σ H x y v u Q I rx ry h
  obtain ⟨N, dx, dy, b, hx, hy, e, q⟩ := h
  have bothS : ∀ {i j : List Nat}, RpO X.K H N x (.str i) → RpO X.K H N y (.str j) → x = .str ⟨i.toArray⟩ ∧ y = .str ⟨j.toArray⟩ := fun a b => ⟨a.str.1, b.str.1⟩
  cases op with
  | lt =>
    cases dx <;> cases dy <;> simp only [cmpSem, reduceCtorEq] at e
    · cases e; exact op_lt pins s σ H x y v u Q I rx ry ⟨_, _, hx.int, hy.int, q⟩
    · cases e; exact op_lt_str pins s σ H x y v u Q I rx ry ⟨_, _, hx.str.1, hy.str.1, by simpa using q⟩
    · exact lt_data hu I rx ry hx hy e q
    · exact lt_data hu I rx ry hx hy e q
  | le =>
    cases dx <;> cases dy <;> simp only [cmpSem, reduceCtorEq] at e <;> cases e
    · exact op_le pins s σ H x y v u Q I rx ry ⟨_, _, hx.int, hy.int, q⟩
    · exact op_le_str pins s σ H x y v u Q I rx ry ⟨_, _, hx.str.1, hy.str.1, by rw [tl_mk, tl_mk]; exact q⟩
  | gt =>
    cases dx <;> cases dy <;> simp only [cmpSem, reduceCtorEq] at e <;> cases e
    · exact op_gt pins s σ H x y v u Q I rx ry ⟨_, _, hx.int, hy.int, q⟩
    · exact op_gt_str pins s σ H x y v u Q I rx ry ⟨_, _, hx.str.1, hy.str.1, by rw [tl_mk, tl_mk]; exact q⟩
  | ge =>
    cases dx <;> cases dy <;> simp only [cmpSem, reduceCtorEq] at e <;> cases e
    · exact op_ge pins s σ H x y v u Q I rx ry ⟨_, _, hx.int, hy.int, q⟩
    · exact op_ge_str pins s σ H x y v u Q I rx ry ⟨_, _, hx.str.1, hy.str.1, by rw [tl_mk, tl_mk]; exact q⟩
  | eq =>
    simp only [cmpSem] at e
    obtain ⟨p, p', d1, d2, s1, s2, rfl⟩ := eq_data hx hy e
    exact op_eqD hu pins s σ H x y v u Q I rx ry ⟨p, p', d1, d2, s1, s2, q⟩
  | ne =>
    simp only [cmpSem, Option.map_eq_some_iff] at e
    obtain ⟨b', e, rfl⟩ := e
    obtain ⟨p, p', d1, d2, s1, s2, rfl⟩ := eq_data hx hy e
    exact op_neD hu pins s σ H x y v u Q I rx ry ⟨p, p', d1, d2, s1, s2, q⟩
  | isin =>
    simp only [cmpSem] at e
    unfold inSem at e
    split at e
    · rename_i x1 y1
      obtain ⟨ex, ey⟩ := bothS hx hy
      unfold subSem at e
      split at e
      · cases e
        exact op_in_sign pins s σ H x y v u Q I rx ry ⟨_, _, ex, ey, by rw [tl_mk]; exact q⟩
      · cases e
        exact op_in_str pins s σ H x y v u Q I rx ry ⟨_, _, ex, ey, by rw [str_len]; exact q⟩
    · rename_i x1 ys _
      split at e
      · cases e
        rename_i c
        simp only [Bool.and_eq_true] at c
        obtain ⟨a, xs, ey, q1, r1⟩ := hy.sqL
        have hx' : Rp X.K H N x dx := hx.flat (fun xs z => by rw [z] at c; simp [D.flat] at c) (fun xs z => by rw [z] at c; simp [D.flat] at c)
        refine op_in_seq pins s σ H x y v u Q I rx ry ⟨a, xs, ey, .inl (.inl (.inl q1)), flat_of c.1 hx', flats_of c.2 r1, ?_⟩
        rw [inV_of c.1 hx' c.2 r1]
        exact q
      · cases e
    · rename_i x1 ys
      split at e
      · cases e
        rename_i c
        simp only [Bool.and_eq_true] at c
        obtain ⟨a, xs, ey, q1, r1⟩ := hy.sqT
        have hx' : Rp X.K H N x dx := hx.flat (fun xs z => by rw [z] at c; simp [D.flat] at c) (fun xs z => by rw [z] at c; simp [D.flat] at c)
        refine op_in_seq pins s σ H x y v u Q I rx ry ⟨a, xs, ey, .inr q1.sq, flat_of c.1 hx', flats_of c.2 r1, ?_⟩
        rw [inV_of c.1 hx' c.2 r1]
        exact q
      · cases e
    · cases e
  | notin =>
    simp only [cmpSem, Option.map_eq_some_iff] at e
    obtain ⟨b', e, rfl⟩ := e
    unfold inSem at e
    split at e
    · rename_i x1 y1
      obtain ⟨ex, ey⟩ := bothS hx hy
      unfold subSem at e
      split at e
      · cases e
        exact op_notIn_sign pins s σ H x y v u Q I rx ry ⟨_, _, ex, ey, by rw [tl_mk]; exact q⟩
      · cases e
        exact op_notin_str pins s σ H x y v u Q I rx ry ⟨_, _, ex, ey, by rw [str_len]; exact q⟩
    · rename_i x1 ys _
      split at e
      · cases e
        rename_i c
        simp only [Bool.and_eq_true] at c
        obtain ⟨a, xs, ey, q1, r1⟩ := hy.sqL
        have hx' : Rp X.K H N x dx := hx.flat (fun xs z => by rw [z] at c; simp [D.flat] at c) (fun xs z => by rw [z] at c; simp [D.flat] at c)
        refine op_notIn_seq pins s σ H x y v u Q I rx ry ⟨a, xs, ey, .inl (.inl (.inl q1)), flat_of c.1 hx', flats_of c.2 r1, ?_⟩
        rw [inV_of c.1 hx' c.2 r1]
        exact q
      · cases e
    · rename_i x1 ys
      split at e
      · cases e
        rename_i c
        simp only [Bool.and_eq_true] at c
        obtain ⟨a, xs, ey, q1, r1⟩ := hy.sqT
        have hx' : Rp X.K H N x dx := hx.flat (fun xs z => by rw [z] at c; simp [D.flat] at c) (fun xs z => by rw [z] at c; simp [D.flat] at c)
        refine op_notIn_seq pins s σ H x y v u Q I rx ry ⟨a, xs, ey, .inr q1.sq, flat_of c.1 hx', flats_of c.2 r1, ?_⟩
        rw [inV_of c.1 hx' c.2 r1]
        exact q
      · cases e
    · cases e
  | isn =>
    cases dy <;> simp only [cmpSem, reduceCtorEq] at e <;> cases e
    exact op_isN pins s σ H x y v u Q I rx ry ⟨hy.non, by rw [isNon_of hx]; exact q⟩
  | notn =>
    cases dy <;> simp only [cmpSem, reduceCtorEq] at e <;> cases e
    exact op_notN pins s σ H x y v u Q I rx ry ⟨hy.non, by rw [isNon_of hx]; exact q⟩
end
end DN

set_option Elab.async false
set_option linter.all false
set_option maxRecDepth 100000
namespace DN
open PySem PySem.Spec PyProof.Rows L2
/-! ### subscripts, slices -/
def keyOf : D → Option DK
  | .int i => some (.inl i)
  | .str l => some (.inr l)
  | _ => none
def lkD (kvs : List (DK × D)) (k : DK) : Option D := (kvs.find? fun p => decide (p.1 = k)).map (·.2)
def ixSem : D → D → Option D
  | .lst xs, .int i => atI xs i
  | .tup xs, .int i => atI xs i
  | .str l, .int i => (atI l i).map fun c => .str [c]
  | .scr ns, .int i => (atI ns i).map .int
  | .dct kvs, .int i => lkD kvs (.inl i)
  | .dct kvs, .str l => lkD kvs (.inr l)
  | _, _ => none
theorem kS_in2 {a b : DK} (h : kS a = kS b) : a = b := by
  cases a <;> cases b <;> simp only [kS, Sum.inl.injEq, Sum.inr.injEq, reduceCtorEq] at h
  · rw [h]
  · have h := congrArg (fun z : Str => z.cps.toList) h
    simp at h
    rw [h]
theorem lk_of {K : PySem.W.Frag} {H : Hp} {N : Hid} {k : DK} {d : D} : ∀ {kvs : List (Key × V)} {ds : List (DK × D)}, RpKv K H N kvs ds → lkD ds k = some d → ∃ v, valV kvs (kS k) = some v ∧ Rp K H N v d
  | _, _, .nil, h => by cases h
  | _, _, .cons (k := k') (v := v) (d := d') r rs, h => by
    unfold lkD at h
    rw [List.find?_cons] at h
    by_cases e : k' = k
    · rw [decide_eq_true e] at h
      cases h
      exact ⟨v, valV_pos (by rw [e]), r⟩
    · rw [decide_eq_false e] at h
      obtain ⟨z, h1, h2⟩ := lk_of rs h
      exact ⟨z, by rw [valV_neg (fun q => e (kS_in2 q))]; exact h1, h2⟩
theorem ix_dk {X : Cx} (hu : X.A.units + 1 < cLine) : IxR X (fun x y H Q => ∃ a v, x = .ref a ∧ DGet H a y (some v) ∧ Q v H) := by
  intro value slice pins s σ H x y v u Q I rx ry h hs
  obtain ⟨a, r, rfl, g, q⟩ := h
  obtain rfl : v = Value.ref a := rx
  exact tail_any (dict_typeIs I g) slot_dict_getitem.lookup (d_getItem hu I g ry fun w' s3 I3 rw' => ⟨r, H, I3, rw', q⟩) hs
theorem RpO.dctR {K : PySem.W.Frag} {H : Hp} {N : Hid} {v : V} {ds : List (DK × D)} (h : RpO K H N v (.dct ds)) : ∃ a kvs, v = .ref a ∧ Rd H a (.dK kvs) ∧ RpKv K H N kvs ds := by
  cases h with
  | of h => cases h with | dct _ h1 h2 => exact ⟨_, _, rfl, h1, h2⟩
  | dct h1 h2 => exact ⟨_, _, rfl, .of h1, h2⟩
theorem at_of {K : PySem.W.Frag} {H : Hp} {N : Hid} {xs : List V} {ds : List D} (r : RpAll K H N xs ds) {i : Int} {d : D} (h : atI ds i = some d) : ∃ v, atI xs i = some v ∧ Rp K H N v d := by
  unfold atI at h ⊢
  rw [r.length]
  cases e : ixN ds.length i with
  | none => rw [e] at h; cases h
  | some j =>
    rw [e] at h
    exact r.get h
theorem at_map {α β : Type} (f : α → β) (xs : List α) (i : Int) : atI (xs.map f) i = (atI xs i).map f := by
  unfold atI
  rw [List.length_map]
  cases ixN xs.length i with
  | none => rfl
  | some j => simp
theorem at_mem {α : Type} {xs : List α} {i : Int} {c : α} (h : atI xs i = some c) : c ∈ xs := by
  unfold atI at h
  cases e : ixN xs.length i with
  | none => rw [e] at h; cases h
  | some j => rw [e] at h; exact List.mem_of_getElem? h
theorem ix_ok {X : Cx} {T : List (Addr × Str)} (hu : X.A.units + 1 < cLine) : IxR X (r2 X.K T ixSem) := by
  intro ve se pins s σ H x y v u Q I rx ry h hsub
  obtain ⟨N, dx, dy, d, dom, hx, hy, e, g⟩ := h
  cases dx <;> cases dy <;> simp only [ixSem, reduceCtorEq] at e
  · simp only [Option.map_eq_some_iff] at e
    obtain ⟨c, e, rfl⟩ := e
    obtain ⟨ex, cx, lx⟩ := hx.str
    refine ix_str ve se pins s σ H x y v u Q I rx ry ⟨_, _, c, ex, hy.int, by rw [str_len]; exact lx, by rw [tl_mk]; exact e, g.str (fun k hk => ?_) (by show 1 ≤ 16777216; omega)⟩ hsub
    rw [List.mem_singleton] at hk
    rw [hk]
    exact cx c (at_mem e)
  · obtain ⟨a, xs, ex, q1, r1⟩ := hx.sqL
    obtain ⟨z, hz, rz⟩ := at_of r1 e
    exact ix_list ve se pins s σ H x y v u Q I rx ry ⟨a, xs, _, z, ex, hy.int, .inl (.inl q1), hz, g.now rz⟩ hsub
  · obtain ⟨a, xs, ex, q1, r1⟩ := hx.sqT
    obtain ⟨z, hz, rz⟩ := at_of r1 e
    exact ix_tup ve se pins s σ H x y v u Q I rx ry ⟨a, xs, _, z, ex, hy.int, q1.sq, hz, g.now rz⟩ hsub
  · obtain ⟨a, kvs, rfl, rd, rk⟩ := hx.dctR
    obtain ⟨z, hz, rz⟩ := lk_of rk e
    exact ix_dk hu ve se pins s σ H _ y v u Q I rx ry ⟨a, z, rfl, .inl ⟨kvs, kS (.inl _), rd, hy.int, hz.symm⟩, g.now rz⟩ hsub
  · obtain ⟨a, kvs, rfl, rd, rk⟩ := hx.dctR
    obtain ⟨z, hz, rz⟩ := lk_of rk e
    exact ix_dk hu ve se pins s σ H _ y v u Q I rx ry ⟨a, z, rfl, .inl ⟨kvs, kS (.inr _), rd, hy.str.1, hz.symm⟩, g.now rz⟩ hsub
  · simp only [Option.map_eq_some_iff] at e
    obtain ⟨c, e, rfl⟩ := e
    cases hx with
    | of hx =>
      cases hx with
      | scr hs =>
        refine ix_list ve se pins s σ H _ y v u Q I rx ry ⟨_, _, _, .int c, rfl, hy.int, hs.sq, ?_, g.int⟩ hsub
        rw [at_map, e]
        rfl
def cutL {α : Type} (xs : List α) (lo hi : Option Int) : List α := (xs.drop (HT.sIx xs.length 0 lo)).take (HT.sIx xs.length xs.length hi - HT.sIx xs.length 0 lo)
def slSem : D → Option Int → Option Int → Option D
  | .lst xs, lo, hi => some (.lst (cutL xs lo hi))
  | .tup xs, lo, hi => some (.tup (cutL xs lo hi))
  | .str xs, lo, hi => some (.str (cutL xs lo hi))
  | _, _, _ => none
theorem cutL_len {α : Type} (xs : List α) (lo hi : Option Int) : (cutL xs lo hi).length ≤ xs.length := by
  unfold cutL
  rw [List.length_take, List.length_drop]
  omega
theorem cutL_mem {α : Type} {xs : List α} {lo hi : Option Int} {c : α} (h : c ∈ cutL xs lo hi) : c ∈ xs := List.mem_of_mem_drop (List.mem_of_mem_take h)
theorem cut_of {K : PySem.W.Frag} {H : Hp} {N : Hid} {xs : List V} {ds : List D} (r : RpAll K H N xs ds) (lo hi : Option Int) : RpAll K H N (cutV xs lo hi) (cutL ds lo hi) := by
  unfold cutV cutL
  rw [r.length]
  exact (r.drop _).take _
theorem cutL_whole {α : Type} {xs : List α} {lo hi : Option Int} (h : HT.sIx xs.length 0 lo = 0 ∧ HT.sIx xs.length xs.length hi = xs.length) : cutL xs lo hi = xs := by
  unfold cutL
  rw [h.1, h.2]
  simp
def rSl (K : PySem.W.Frag) (T : List (Addr × Str)) : V → Option Int → Option Int → Hp → VK → Prop := fun x lo hi H Q => ∃ N dx d, Dom N H ∧ RpO K H N x dx ∧ slSem dx lo hi = some d ∧ Giv K T N H d Q
theorem sl_ok {X : Cx} {T : List (Addr × Str)} : SlR X (rSl X.K T) := by
  intro pins s σ H x v vl vu lo hi sl Q I rx hs pl pu h
  obtain ⟨N, dx, d, dom, hx, e, g⟩ := h
  cases dx <;> simp only [slSem, reduceCtorEq] at e <;> cases e
  · obtain ⟨ex, cx, lx⟩ := hx.str
    refine sl_str pins s σ H x v vl vu lo hi sl Q I rx hs pl pu ⟨_, ex, by rw [str_len]; exact lx, ?_⟩
    have := g.str (fun c hc => cx c (cutL_mem hc)) (Nat.le_trans (cutL_len _ _ _) (by rw [← szL_eq]; exact lx))
    unfold cutS
    rw [str_len, tl_mk]
    exact this
  · obtain ⟨a, xs, ex, q1, r1⟩ := hx.sqL
    exact sl_list pins s σ H x v vl vu lo hi sl Q I rx hs pl pu ⟨a, xs, ex, .inl (.inl q1), g.lst dom (cut_of r1 lo hi)⟩
  · obtain ⟨a, xs, ex, q1, r1⟩ := hx.sqT
    refine sl_tupA pins s σ H x v vl vu lo hi sl Q I rx hs pl pu ⟨a, xs, ex, q1.sq, fun hw => ?_, fun _ => g.tup dom (cut_of r1 lo hi)⟩
    rw [r1.length] at hw
    rw [cutL_whole hw] at g
    exact g.now (.tup q1 r1)
/-! ### built-ins -/
inductive Blt where
  | len | abs | max | min | sum | all | any | int | str | list | tuple | sorted
  deriving DecidableEq
def Blt.nm : Blt → Str
  | .len => "len"
  | .abs => "abs"
  | .max => "max"
  | .min => "min"
  | .sum => "sum"
  | .all => "all"
  | .any => "any"
  | .int => "int"
  | .str => "str"
  | .list => "list"
  | .tuple => "tuple"
  | .sorted => "sorted"
def intsOf : List D → Option (List Int)
  | [] => some []
  | .int i :: r => (intsOf r).map (i :: ·)
  | _ => none
def blsOf : List D → Option (List Bool)
  | [] => some []
  | .bl i :: r => (blsOf r).map (i :: ·)
  | _ => none
theorem intsOf_eq : ∀ {ds : List D} {ns : List Int}, intsOf ds = some ns → ds = ns.map .int
  | [], ns, h => by cases h; rfl
  | .int i :: r, ns, h => by
    simp only [intsOf, Option.map_eq_some_iff] at h
    obtain ⟨m, h, rfl⟩ := h
    rw [intsOf_eq h]
    rfl
  | .non :: r, ns, h => by simp [intsOf] at h
  | .bl _ :: r, ns, h => by simp [intsOf] at h
  | .str _ :: r, ns, h => by simp [intsOf] at h
  | .lst _ :: r, ns, h => by simp [intsOf] at h
  | .tup _ :: r, ns, h => by simp [intsOf] at h
  | .dct _ :: r, ns, h => by simp [intsOf] at h
  | .scr _ :: r, ns, h => by simp [intsOf] at h
theorem blsOf_eq : ∀ {ds : List D} {ns : List Bool}, blsOf ds = some ns → ds = ns.map .bl
  | [], ns, h => by cases h; rfl
  | .bl i :: r, ns, h => by
    simp only [blsOf, Option.map_eq_some_iff] at h
    obtain ⟨m, h, rfl⟩ := h
    rw [blsOf_eq h]
    rfl
  | .non :: r, ns, h => by simp [blsOf] at h
  | .int _ :: r, ns, h => by simp [blsOf] at h
  | .str _ :: r, ns, h => by simp [blsOf] at h
  | .lst _ :: r, ns, h => by simp [blsOf] at h
  | .tup _ :: r, ns, h => by simp [blsOf] at h
  | .dct _ :: r, ns, h => by simp [blsOf] at h
  | .scr _ :: r, ns, h => by simp [blsOf] at h
@[simp] theorem intsOf_map (ns : List Int) : intsOf (ns.map .int) = some ns := by
  induction ns with
  | nil => rfl
  | cons n ns ih => simp [intsOf, ih]
@[simp] theorem blsOf_map (ns : List Bool) : blsOf (ns.map .bl) = some ns := by
  induction ns with
  | nil => rfl
  | cons n ns ih => simp [blsOf, ih]
def maxL : Int → List Int → Int
  | m, [] => m
  | m, x :: r => maxL (if m < x then x else m) r
def minL : Int → List Int → Int
  | m, [] => m
  | m, x :: r => minL (if x < m then x else m) r
theorem maxL_spec : ∀ (r : List Int) (m : Int), maxL m r ∈ m :: r ∧ ∀ y ∈ m :: r, y ≤ maxL m r
  | [], m => by simp [maxL]
  | x :: r, m => by
    have ih := maxL_spec r (if m < x then x else m)
    rw [show maxL m (x :: r) = maxL (if m < x then x else m) r from rfl]
    refine ⟨?_, fun y hy => ?_⟩
    · have h1 := ih.1
      rw [List.mem_cons] at h1
      rcases h1 with h1 | h1
      · rw [h1]; split <;> simp
      · simp [h1]
    · have h2 := ih.2 (if m < x then x else m) (by simp)
      have h3 : m ≤ (if m < x then x else m) ∧ x ≤ (if m < x then x else m) := by split <;> omega
      rcases List.mem_cons.mp hy with rfl | hy
      · omega
      · rcases List.mem_cons.mp hy with rfl | hy
        · omega
        · exact ih.2 y (by simp [hy])
theorem minL_spec : ∀ (r : List Int) (m : Int), minL m r ∈ m :: r ∧ ∀ y ∈ m :: r, minL m r ≤ y
  | [], m => by simp [minL]
  | x :: r, m => by
    have ih := minL_spec r (if x < m then x else m)
    rw [show minL m (x :: r) = minL (if x < m then x else m) r from rfl]
    refine ⟨?_, fun y hy => ?_⟩
    · have h1 := ih.1
      rw [List.mem_cons] at h1
      rcases h1 with h1 | h1
      · rw [h1]; split <;> simp
      · simp [h1]
    · have h2 := ih.2 (if x < m then x else m) (by simp)
      have h3 : (if x < m then x else m) ≤ m ∧ (if x < m then x else m) ≤ x := by split <;> omega
      rcases List.mem_cons.mp hy with rfl | hy
      · omega
      · rcases List.mem_cons.mp hy with rfl | hy
        · omega
        · exact ih.2 y (by simp [hy])
def strsOf : List D → Option (List (List Nat))
  | [] => some []
  | .str l :: r => (strsOf r).map (l :: ·)
  | _ => none
theorem strsOf_eq : ∀ {ds : List D} {ls : List (List Nat)}, strsOf ds = some ls → ds = ls.map .str
  | [], ns, h => by cases h; rfl
  | .str i :: r, ns, h => by
    simp only [strsOf, Option.map_eq_some_iff] at h
    obtain ⟨m, h, rfl⟩ := h
    rw [strsOf_eq h]
    rfl
  | .non :: r, ns, h => by simp [strsOf] at h
  | .bl _ :: r, ns, h => by simp [strsOf] at h
  | .int _ :: r, ns, h => by simp [strsOf] at h
  | .lst _ :: r, ns, h => by simp [strsOf] at h
  | .tup _ :: r, ns, h => by simp [strsOf] at h
  | .dct _ :: r, ns, h => by simp [strsOf] at h
  | .scr _ :: r, ns, h => by simp [strsOf] at h
theorem strsOf_map (ls : List (List Nat)) : strsOf (ls.map .str) = some ls := by
  induction ls with
  | nil => rfl
  | cons n ns ih => simp [strsOf, ih]
theorem RpAll.strs {K : PySem.W.Frag} {H : Hp} {N : Hid} : ∀ {ls : List (List Nat)} {vs : List V}, RpAll K H N vs (ls.map .str) → vs = ls.map (fun l => V.str ⟨l.toArray⟩) ∧ ∀ l ∈ ls, ∀ c ∈ l, c < 0x110000
  | [], _, h => by cases h; exact ⟨rfl, by simp⟩
  | l :: ls, _, h => by
    cases h with
    | cons h1 h2 =>
      obtain ⟨e1, e2⟩ := RpAll.strs h2
      cases h1 with
      | str _ hc hl =>
        refine ⟨by rw [e1]; rfl, fun k hk => ?_⟩
        rcases List.mem_cons.mp hk with rfl | hk
        · exact hc
        · exact e2 k hk
/-! sorting -/
def insI (x : Int) : List Int → List Int
  | [] => [x]
  | y :: r => if x ≤ y then x :: y :: r else y :: insI x r
def srtI : List Int → List Int
  | [] => []
  | x :: r => insI x (srtI r)
theorem insI_perm (x : Int) : ∀ l, (insI x l).Perm (x :: l)
  | [] => .refl _
  | y :: r => by
    unfold insI
    split
    · exact .refl _
    · exact ((insI_perm x r).cons y).trans (.swap x y r)
theorem srtI_perm : ∀ l, (srtI l).Perm l
  | [] => .refl _
  | x :: r => (insI_perm x _).trans ((srtI_perm r).cons x)
theorem insI_sorted (x : Int) : ∀ l : List Int, l.Pairwise (· ≤ ·) → (insI x l).Pairwise (· ≤ ·)
  | [], _ => by simp [insI]
  | y :: r, h => by
    unfold insI
    rw [List.pairwise_cons] at h
    split
    · rename_i c
      refine List.pairwise_cons.mpr ⟨fun z hz => ?_, List.pairwise_cons.mpr h⟩
      rcases List.mem_cons.mp hz with rfl | hz
      · exact c
      · exact Int.le_trans c (h.1 z hz)
    · rename_i c
      refine List.pairwise_cons.mpr ⟨fun z hz => ?_, insI_sorted x r h.2⟩
      rcases List.mem_cons.mp ((insI_perm x r).mem_iff.mp hz) with rfl | hz
      · omega
      · exact h.1 z hz
theorem srtI_sorted : ∀ l : List Int, (srtI l).Pairwise (· ≤ ·)
  | [] => by simp [srtI]
  | x :: r => insI_sorted x _ (srtI_sorted r)
theorem srt_uniq {α : Type} {r : α → α → Prop} (anti : ∀ a b, r a b → r b a → a = b) : ∀ {l m : List α}, l.Perm m → l.Pairwise r → m.Pairwise r → l = m
  | [], m, p, _, _ => (List.Perm.nil_eq p).symm ▸ rfl
  | x :: l, [], p, _, _ => absurd p.symm (by intro h; exact List.cons_ne_nil _ _ (List.Perm.nil_eq h).symm)
  | x :: l, y :: m, p, h1, h2 => by
    rw [List.pairwise_cons] at h1 h2
    have e : x = y := by
      have hx : x ∈ y :: m := p.mem_iff.mp (by simp)
      have hy : y ∈ x :: l := p.mem_iff.mpr (by simp)
      rcases List.mem_cons.mp hx with e | hx
      · exact e
      · rcases List.mem_cons.mp hy with e | hy
        · exact e.symm
        · exact anti _ _ (h1.1 y hy) (h2.1 x hx)
    subst e
    rw [srt_uniq anti ((List.perm_cons x).mp p) h1.2 h2.2]
def insS (x : List Nat) : List (List Nat) → List (List Nat)
  | [] => [x]
  | y :: r => if decide (y < x) then y :: insS x r else x :: y :: r
def srtS : List (List Nat) → List (List Nat)
  | [] => []
  | x :: r => insS x (srtS r)
theorem insS_perm (x : List Nat) : ∀ l, (insS x l).Perm (x :: l)
  | [] => .refl _
  | y :: r => by
    unfold insS
    split
    · exact ((insS_perm x r).cons y).trans (.swap x y r)
    · exact .refl _
theorem srtS_perm : ∀ l, (srtS l).Perm l
  | [] => .refl _
  | x :: r => (insS_perm x _).trans ((srtS_perm r).cons x)
abbrev leS (x y : List Nat) : Prop := ¬ y < x
theorem leS_trans {x y z : List Nat} (h1 : leS x y) (h2 : leS y z) : leS x z := List.le_trans (α := Nat) (l₁ := x) (l₂ := y) (l₃ := z) h1 h2
theorem leS_anti {x y : List Nat} (h1 : leS x y) (h2 : leS y x) : x = y := List.le_antisymm (α := Nat) h1 h2
theorem leS_lt {x y : List Nat} (h1 : x < y) : leS x y := fun h2 => List.lt_irrefl (α := Nat) x (List.lt_trans h1 h2)
theorem insS_sorted (x : List Nat) : ∀ l : List (List Nat), l.Pairwise leS → (insS x l).Pairwise leS
  | [], _ => by simp [insS]
  | y :: r, h => by
    unfold insS
    rw [List.pairwise_cons] at h
    split
    · rename_i c
      have c := of_decide_eq_true c
      refine List.pairwise_cons.mpr ⟨fun z hz => ?_, insS_sorted x r h.2⟩
      rcases List.mem_cons.mp ((insS_perm x r).mem_iff.mp hz) with rfl | hz
      · exact leS_lt c
      · exact h.1 z hz
    · rename_i c
      have c : leS x y := fun z => c (decide_eq_true z)
      refine List.pairwise_cons.mpr ⟨fun z hz => ?_, List.pairwise_cons.mpr h⟩
      rcases List.mem_cons.mp hz with rfl | hz
      · exact c
      · exact leS_trans c (h.1 z hz)
theorem srtS_sorted : ∀ l : List (List Nat), (srtS l).Pairwise leS
  | [] => by simp [srtS]
  | x :: r => insS_sorted x _ (srtS_sorted r)
theorem rising_pw : ∀ (r : List Str) (y : Str), PyProof.Rows.risingS y r = true → ((y :: r).map fun y => y.cps.toList).Pairwise leS
  | [], y, _ => by simp
  | z :: r, y, h => by
    simp only [PyProof.Rows.risingS, Bool.and_eq_true, Bool.not_eq_true', PyProof.Rows.ltCps_eq, decide_eq_false_iff_not] at h
    have ih := rising_pw r z h.2
    rw [List.map_cons]
    refine List.pairwise_cons.mpr ⟨fun k hk => ?_, ih⟩
    rw [List.map_cons] at ih hk
    rcases List.mem_cons.mp hk with rfl | hk
    · exact h.1
    · exact leS_trans h.1 ((List.pairwise_cons.mp ih).1 k hk)
theorem sortedS_pw {ys : List Str} (h : PyProof.Rows.sortedS ys = true) : (ys.map fun y => y.cps.toList).Pairwise leS := by
  cases ys with
  | nil => simp
  | cons y r => exact rising_pw r y h
theorem RpAll.strsL {K : PySem.W.Frag} {H : Hp} {N : Hid} : ∀ {ls : List (List Nat)} {vs : List V}, RpAll K H N vs (ls.map .str) → ∀ l ∈ ls, l.length ≤ sizeLine
  | [], _, h => by simp
  | l :: ls, _, h => by
    cases h with
    | cons h1 h2 =>
      have e2 := RpAll.strsL h2
      cases h1 with
      | str _ hc hl =>
        intro k hk
        rcases List.mem_cons.mp hk with rfl | hk
        · exact hl
        · exact e2 k hk
theorem RpAll.of_strs {K : PySem.W.Frag} {H : Hp} {N : Hid} : ∀ {ls : List (List Nat)}, (∀ l ∈ ls, ∀ c ∈ l, c < 0x110000) → (∀ l ∈ ls, l.length ≤ sizeLine) → RpAll K H N (ls.map fun l => V.str ⟨l.toArray⟩) (ls.map .str)
  | [], _, _ => .nil
  | l :: ls, h, h2 => .cons (.str l (h l (by simp)) (h2 l (by simp))) (RpAll.of_strs (fun k hk => h k (by simp [hk])) (fun k hk => h2 k (by simp [hk])))
/-- one figure -/
def digOf (l : List Nat) : Option Int :=
  match l with
  | [c] => if 48 ≤ c ∧ c ≤ 57 then some ((c : Int) - 48) else none
  | _ => none
def bltSem : Blt → List D → Option D
  | .len, [.str l] => some (.int l.length)
  | .len, [.lst l] => some (.int l.length)
  | .len, [.tup l] => some (.int l.length)
  | .len, [.scr l] => some (.int l.length)
  | .abs, [.int i] => some (.int (if i < 0 then -i else i))
  | .max, [.int i, .int j] => some (.int (if j > i then j else i))
  | .min, [.int i, .int j] => some (.int (if j < i then j else i))
  | .max, [.lst ds] => (match intsOf ds with
    | some (n :: ns) => some (.int (maxL n ns))
    | _ => none)
  | .min, [.lst ds] => (match intsOf ds with
    | some (n :: ns) => some (.int (minL n ns))
    | _ => none)
  | .sum, [.lst ds] => (intsOf ds).map fun ns => .int ns.sum
  | .all, [.lst ds] => (blsOf ds).map fun ns => .bl (ns.all id)
  | .any, [.lst ds] => (blsOf ds).map fun ns => .bl (ns.any id)
  | .int, [.int i] => some (.int i)
  | .int, [.bl b] => some (.int (if b then 1 else 0))
  | .int, [.str l] => (digOf l).map .int
  | .str, [.int i] => if 0 ≤ i ∧ i ≤ 9 then some (.str [(48 + i).toNat]) else none
  | .list, [.lst ds] => some (.lst ds)
  | .list, [.tup ds] => some (.lst ds)
  | .list, [.str l] => some (.lst (l.map fun c => .str [c]))
  | .tuple, [.lst ds] => some (.tup ds)
  | .tuple, [.tup ds] => some (.tup ds)
  | .sorted, [.lst ds] => (match intsOf ds with
    | some ns => some (.lst ((srtI ns).map .int))
    | none => (match strsOf ds with
      | some ls => if ls.length < 64 then some (.lst ((srtS ls).map .str)) else none
      | none => none))
  | _, _ => none
def rC (K : PySem.W.Frag) (T : List (Addr × Str)) (f : List D → Option D) : List V → Hp → VK → Prop := fun xs H Q => ∃ N ds d, Dom N H ∧ RpOs K H N xs ds ∧ f ds = some d ∧ Giv K T N H d Q
def Blt.val : Blt → Value
  | .len => .builtin "len"
  | .abs => .builtin "abs"
  | .max => .builtin "max"
  | .min => .builtin "min"
  | .sum => .builtin "sum"
  | .all => .builtin "all"
  | .any => .builtin "any"
  | .int => .type "int"
  | .str => .type "str"
  | .list => .type "list"
  | .tuple => .type "tuple"
  | .sorted => .builtin "sorted"
theorem RpOs.one {K : PySem.W.Frag} {H : Hp} {N : Hid} {xs : List V} {d : D} (h : RpOs K H N xs [d]) : ∃ x, xs = [x] ∧ RpO K H N x d := by
  cases h with
  | cons h1 h2 => cases h2; exact ⟨_, rfl, h1⟩
theorem RpOs.two {K : PySem.W.Frag} {H : Hp} {N : Hid} {xs : List V} {d e : D} (h : RpOs K H N xs [d, e]) : ∃ x y, xs = [x, y] ∧ RpO K H N x d ∧ RpO K H N y e := by
  cases h with
  | cons h1 h2 =>
    cases h2 with
    | cons h2 h3 => cases h3; exact ⟨_, _, rfl, h1, h2⟩
theorem dig_text : ∀ n : Nat, n ≤ 9 → PySem.intText? ⟨#[48 + n]⟩ = some (n : Int) := by decide +kernel
theorem dig_str : ∀ n : Nat, n ≤ 9 → (Str.ofString (toString (n : Int))) = ⟨#[48 + n]⟩ := by decide +kernel
theorem call_lstr {X : Cx} (hc : X.calm = true) : CallR X (.type "list") (fun xs H Q => ∃ l : List Nat, xs = [.str ⟨l.toArray⟩] ∧ l.length ≤ sizeLine ∧ ∀ p, H p = none → Q (.ref p) (upd H p (.lst (l.map fun c => V.str ⟨#[c]⟩)))) := by
  intro pins s σ H xs us Q I r h
  obtain ⟨l, rfl, hz, q⟩ := h
  obtain ⟨u, rfl, rx⟩ := vals1 r
  obtain ⟨t, rfl⟩ := rx
  refine call_list_str (I.ok.hd hc) _ _ (fun h' tk acc c' hk e hi => ?_) (hn := by simpa using hz)
  refine ⟨.ref s.heap.objs.size, upd H s.heap.objs.size (.lst (l.map fun c => V.str ⟨#[c]⟩)), I.laid hk (Nat.le_refl _) ⟨by rw [List.length_map]; exact hz, acc.toList, c', ?_, by rw [Array.toArray_toList]; exact e⟩, rfl, q _ (I.hok.fresh (Nat.le_refl _))⟩
  refine vals_of_idx _ _ (by rw [List.length_map, Array.length_toList]; simpa using hi.1) fun j u hj => ?_
  obtain ⟨c, t', hc, rfl⟩ := hi.2 j u (by rw [← Array.getElem?_toList]; exact hj)
  exact ⟨.str ⟨#[c]⟩, by simpa using hc, ⟨_, rfl⟩⟩
theorem blt_ok {X : Cx} {T : List (Addr × Str)} (hc : X.calm = true) (b : Blt) : CallR X b.val (rC X.K T (bltSem b)) := by
  intro pins s σ H xs us Q I rx h
  obtain ⟨N, ds, d, dom, hA, e, g⟩ := h
  unfold bltSem at e
  split at e
  · cases e
    obtain ⟨x, rfl, hx⟩ := hA.one
    obtain ⟨ex, _, lx⟩ := hx.str
    refine call_len pins s σ H _ us Q I rx ⟨x, _, rfl, ?_, g.int⟩
    rw [ex]
    exact ⟨by rw [str_len]; exact lx, (str_len _).symm⟩
  · cases e
    obtain ⟨x, rfl, hx⟩ := hA.one
    obtain ⟨a, xs, rfl, q1, r1⟩ := hx.sqL
    exact call_len pins s σ H _ us Q I rx ⟨_, _, rfl, .inl ⟨xs, .inl (.inl q1), r1.length.symm⟩, g.int⟩
  · cases e
    obtain ⟨x, rfl, hx⟩ := hA.one
    obtain ⟨a, xs, rfl, q1, r1⟩ := hx.sqT
    exact call_len pins s σ H _ us Q I rx ⟨_, _, rfl, .inr ⟨xs, q1.sq, r1.length.symm⟩, g.int⟩
  · cases e
    obtain ⟨x, rfl, hx⟩ := hA.one
    cases hx with
    | of hx =>
      cases hx with
      | scr hs => exact call_len pins s σ H _ us Q I rx ⟨_, _, rfl, .inl ⟨_, hs.sq, by simp⟩, g.int⟩
  · cases e
    obtain ⟨x, rfl, hx⟩ := hA.one
    exact call_abs pins s σ H _ us Q I rx ⟨_, by rw [hx.int], g.int⟩
  · cases e
    obtain ⟨x, y, rfl, hx, hy⟩ := hA.two
    exact call_max2 hc pins s σ H _ us Q I rx ⟨_, _, by rw [hx.int, hy.int], g.int⟩
  · cases e
    obtain ⟨x, y, rfl, hx, hy⟩ := hA.two
    exact call_min2 hc pins s σ H _ us Q I rx ⟨_, _, by rw [hx.int, hy.int], g.int⟩
  · split at e
    · cases e
      rename_i ds' n ns hi
      obtain ⟨x, rfl, hx⟩ := hA.one
      rw [intsOf_eq hi] at hx
      obtain ⟨a, xs, rfl, q1, r1⟩ := hx.sqL
      refine cr_max hc pins s σ H _ us Q I rx ⟨a, n :: ns, rfl, .inl (.inl (by rw [← r1.ints]; exact q1)), by simp, fun m hm hle => ?_⟩
      have sp := maxL_spec ns n
      have : m = maxL n ns := by
        have h1 := hle _ sp.1
        have h2 := sp.2 m hm
        omega
      rw [this]
      exact g.int
    · cases e
  · split at e
    · cases e
      rename_i ds' n ns hi
      obtain ⟨x, rfl, hx⟩ := hA.one
      rw [intsOf_eq hi] at hx
      obtain ⟨a, xs, rfl, q1, r1⟩ := hx.sqL
      refine cr_min hc pins s σ H _ us Q I rx ⟨a, n :: ns, rfl, .inl (.inl (by rw [← r1.ints]; exact q1)), by simp, fun m hm hle => ?_⟩
      have sp := minL_spec ns n
      have : m = minL n ns := by
        have h1 := hle _ sp.1
        have h2 := sp.2 m hm
        omega
      rw [this]
      exact g.int
    · cases e
  · simp only [Option.map_eq_some_iff] at e
    obtain ⟨ns, hi, rfl⟩ := e
    obtain ⟨x, rfl, hx⟩ := hA.one
    rw [intsOf_eq hi] at hx
    obtain ⟨a, xs, rfl, q1, r1⟩ := hx.sqL
    exact cr_sum hc pins s σ H _ us Q I rx ⟨a, ns, rfl, .inl (.inl (by rw [← r1.ints]; exact q1)), g.int⟩
  · simp only [Option.map_eq_some_iff] at e
    obtain ⟨ns, hi, rfl⟩ := e
    obtain ⟨x, rfl, hx⟩ := hA.one
    rw [blsOf_eq hi] at hx
    obtain ⟨a, xs, rfl, q1, r1⟩ := hx.sqL
    exact cr_all hc pins s σ H _ us Q I rx ⟨a, ns, rfl, .inl (.inl (by rw [← r1.bls]; exact q1)), g.bl⟩
  · simp only [Option.map_eq_some_iff] at e
    obtain ⟨ns, hi, rfl⟩ := e
    obtain ⟨x, rfl, hx⟩ := hA.one
    rw [blsOf_eq hi] at hx
    obtain ⟨a, xs, rfl, q1, r1⟩ := hx.sqL
    exact cr_any hc pins s σ H _ us Q I rx ⟨a, ns, rfl, .inl (.inl (by rw [← r1.bls]; exact q1)), g.bl⟩
  · cases e
    obtain ⟨x, rfl, hx⟩ := hA.one
    exact call_int1 pins s σ H _ us Q I rx (.inl ⟨_, by rw [hx.int], g.int⟩)
  · cases e
    obtain ⟨x, rfl, hx⟩ := hA.one
    exact call_int1 pins s σ H _ us Q I rx (.inr ⟨_, by rw [hx.bl], g.int⟩)
  · simp only [Option.map_eq_some_iff] at e
    obtain ⟨k, hk, rfl⟩ := e
    obtain ⟨x, rfl, hx⟩ := hA.one
    unfold digOf at hk
    split at hk
    · split at hk
      · cases hk
        rename_i c hcc
        have ec : ((c - 48 : Nat) : Int) = (c : Int) - 48 := by omega
        have e2 := dig_text (c - 48) (by omega)
        rw [show 48 + (c - 48) = c by omega, ec] at e2
        exact call_int_str pins s σ H _ us Q I rx ⟨_, _, by rw [hx.str.1], e2, by rw [str_len]; simp, g.int⟩
      · cases hk
    · cases hk
  · split at e
    · cases e
      rename_i i hi
      obtain ⟨x, rfl, hx⟩ := hA.one
      have en : ((i.toNat : Nat) : Int) = i := by omega
      have e2 := dig_str i.toNat (by omega)
      rw [en] at e2
      have e3 : (48 + i).toNat = 48 + i.toNat := by omega
      refine call_str_int pins s σ H _ us Q I rx ⟨i, by rw [hx.int], ?_, ?_⟩
      · have : i.natAbs < 2 ^ 4 := by omega
        have := log_lt (by omega) this
        omega
      · have q := g.str (fun c hc => by rw [List.mem_singleton] at hc; omega) (by show 1 ≤ 16777216; omega)
        rw [e3] at q
        show Q (.str (Str.ofString (toString i))) H
        rw [e2]
        exact q
    · cases e
  · cases e
    obtain ⟨x, rfl, hx⟩ := hA.one
    obtain ⟨a, xs, rfl, q1, r1⟩ := hx.sqL
    exact call_list_of pins s σ H _ us Q I rx ⟨a, xs, rfl, .inl (.inl (.inl q1)), g.lst dom r1⟩
  · cases e
    obtain ⟨x, rfl, hx⟩ := hA.one
    obtain ⟨a, xs, rfl, q1, r1⟩ := hx.sqT
    exact call_list_of pins s σ H _ us Q I rx ⟨a, xs, rfl, .inr q1.sq, g.lst dom r1⟩
  · cases e
    obtain ⟨x, rfl, hx⟩ := hA.one
    obtain ⟨ex, cx, lx⟩ := hx.str
    rename_i l
    refine call_lstr hc pins s σ H _ us Q I rx ⟨l, by rw [ex], lx, g.lst dom ?_⟩
    clear ex lx rx hA hx g
    induction l with
    | nil => exact .nil
    | cons c l ih => exact .cons (.str [c] (fun k hk => by rw [List.mem_singleton] at hk; rw [hk]; exact cx c (by simp)) (by show 1 ≤ 16777216; omega)) (ih fun k hk => cx k (by simp [hk]))
  · cases e
    obtain ⟨x, rfl, hx⟩ := hA.one
    obtain ⟨a, xs, rfl, q1, r1⟩ := hx.sqL
    exact call_tuple_of pins s σ H _ us Q I rx ⟨a, xs, rfl, .inl ⟨.inl (.inl q1), g.tup dom r1⟩⟩
  · cases e
    obtain ⟨x, rfl, hx⟩ := hA.one
    obtain ⟨a, xs, rfl, q1, r1⟩ := hx.sqT
    exact call_tuple_of pins s σ H _ us Q I rx ⟨a, xs, rfl, .inr ⟨q1.sq, g.now (.tup q1 r1)⟩⟩
  · split at e
    · cases e
      rename_i ds' ns hi
      obtain ⟨x, rfl, hx⟩ := hA.one
      rw [intsOf_eq hi] at hx
      obtain ⟨a, xs, rfl, q1, r1⟩ := hx.sqL
      refine cr_sortedI pins s σ H _ us Q I rx ⟨a, ns, rfl, .inl (.inl (by rw [← r1.ints]; exact q1)), fun ns' p h1 h2 hp => ?_⟩
      have e : ns' = srtI ns := srt_uniq (r := fun a b : Int => a ≤ b) (fun a b => Int.le_antisymm) (h1.trans (srtI_perm ns).symm) h2 (srtI_sorted ns)
      rw [e]
      exact g.lst dom (RpAll.of_ints _) p hp
    · split at e
      · split at e
        · cases e
          rename_i ds' _ ls hi hl
          obtain ⟨x, rfl, hx⟩ := hA.one
          rw [strsOf_eq hi] at hx
          obtain ⟨a, xs, rfl, q1, r1⟩ := hx.sqL
          obtain ⟨e1, e2⟩ := r1.strs
          have el : ls.map (fun l => V.str ⟨l.toArray⟩) = (ls.map fun l => (⟨l.toArray⟩ : Str)).map V.str := by simp
          refine cr_sortedS pins s σ H _ us Q I rx ⟨a, ls.map fun l => ⟨l.toArray⟩, rfl, .inl (.inl (by rw [← el, ← e1]; exact q1)), by simpa using hl, fun ys p h1 h2 hp => ?_⟩
          have ep : (ys.map fun y => y.cps.toList).Perm ls := by
            have := h1.map fun y : Str => y.cps.toList
            rw [List.map_map, show ((fun y : Str => y.cps.toList) ∘ fun l : List Nat => (⟨l.toArray⟩ : Str)) = id from rfl, List.map_id] at this
            exact this
          have es : ys = (ys.map fun y => y.cps.toList).map fun l => (⟨l.toArray⟩ : Str) := by
            rw [List.map_map, show ((fun l : List Nat => (⟨l.toArray⟩ : Str)) ∘ fun y : Str => y.cps.toList) = id from rfl, List.map_id]
          have eq : (ys.map fun y => y.cps.toList) = srtS ls := srt_uniq (r := leS) (fun a b => leS_anti) (ep.trans (srtS_perm ls).symm) (sortedS_pw h2) (srtS_sorted ls)
          rw [es, eq]
          have fin := g.lst dom (xs := (srtS ls).map fun l => V.str ⟨l.toArray⟩) (RpAll.of_strs (fun l hl' => e2 l ((srtS_perm ls).mem_iff.mp hl')) (fun l hl' => r1.strsL l ((srtS_perm ls).mem_iff.mp hl'))) p hp
          rw [List.map_map]
          exact fin
        · cases e
      · cases e
  · cases e
/-! ### isinstance -/
inductive Ty where
  | int | bool | str | list | tuple
  deriving DecidableEq
def Ty.nm : Ty → String
  | .int => "int"
  | .bool => "bool"
  | .str => "str"
  | .list => "list"
  | .tuple => "tuple"
def D.tyN : D → Option String
  | .non => some "NoneType"
  | .bl _ => some "bool"
  | .int _ => some "int"
  | .str _ => some "str"
  | .lst _ => some "list"
  | .tup _ => some "tuple"
  | .scr _ => some "list"
  | .dct _ => some "dict"
def isiSem (t : Ty) : D → Bool
  | .bl _ => t == .bool || t == .int
  | .int _ => t == .int
  | .str _ => t == .str
  | .lst _ => t == .list
  | .scr _ => t == .list
  | .tup _ => t == .tuple
  | _ => false
theorem tyX_of {K : PySem.W.Frag} {H : Hp} {N : Hid} {v : V} {d : D} (h : RpO K H N v d) : ∃ n, d.tyN = some n ∧ TyX K H v (.type n) := by
  cases h with
  | of h =>
    cases h with
    | non => exact ⟨_, rfl, .base .non⟩
    | bl b => exact ⟨_, rfl, .base (.bl b)⟩
    | int i => exact ⟨_, rfl, .base (.int i)⟩
    | str l _ _ => exact ⟨_, rfl, .base (.str _)⟩
    | lst h1 _ => exact ⟨_, rfl, .base (.lst h1.2)⟩
    | tup h1 _ =>
      refine ⟨_, rfl, ?_⟩
      rcases h1 with ⟨_, h | ⟨o, h⟩⟩ | ⟨o, its, n, h, c, _⟩
      · exact .base (.tup h)
      · exact .fTuple h
      · exact .kTuple h c
    | dct h1 h2 h3 =>
      refine ⟨_, rfl, ?_⟩
      rcases h2 with h | ⟨o, h⟩
      · exact .base (.dK h)
      · exact .fDict h
    | scr h =>
      refine ⟨_, rfl, ?_⟩
      rcases h with ⟨_, h | ⟨o, h⟩⟩ | ⟨o, its, n, h, c, _⟩
      · exact .base (.lst h)
      · exact .base (.frz h)
      · exact .kList h c
  | lst h _ => exact ⟨_, rfl, .base (.lst h)⟩
  | dct h _ => exact ⟨_, rfl, .base (.dK h)⟩
theorem kit_all : ∀ n ∈ ["NoneType", "bool", "int", "str", "list", "tuple", "dict"], ∀ t ∈ [Ty.int, .bool, .str, .list, .tuple],
    kitB n t.nm = some (decide (n = t.nm) || (decide (n = "bool") && decide (t.nm = "int"))) := by decide +kernel
theorem isi_ok {X : Cx} (t : Ty) : CallR X (.builtin "isinstance") (fun xs H Q => ∃ N d x, xs = [x, .ty t.nm] ∧ RpO X.K H N x d ∧ Q (.bl (isiSem t d)) H) := by
  intro pins s σ H xs us Q I rx h
  obtain ⟨N, d, x, rfl, hx, q⟩ := h
  obtain ⟨n, hn, ty⟩ := tyX_of hx
  refine call_isi pins s σ H _ us Q I rx ⟨x, _, _, _, isiSem t d, rfl, .ty _, ty, kit_ty ?_, q⟩
  rw [kit_all n (by cases d <;> simp [D.tyN] at hn <;> subst hn <;> decide) t (by cases t <;> decide)]
  cases d <;> simp only [D.tyN, Option.some.injEq] at hn <;> subst hn <;> cases t <;> rfl
/-! ### methods of one argument -/
/-- upper -/
def upSem : D → Option D
  | .str l => if l.all (fun c => decide (c < 128)) then some (.str (l.map PyProof.Rows.up1)) else none
  | _ => none
inductive Mth where
  | sindex | lindex | join | scount | lstrip | lcount
  deriving DecidableEq
def Mth.ty : Mth → String
  | .lindex => "list"
  | .lcount => "list"
  | _ => "str"
def Mth.nm : Mth → Str
  | .sindex => "index"
  | .lindex => "index"
  | .join => "join"
  | .scount => "count"
  | .lstrip => "lstrip"
  | .lcount => "count"
def Mth.id : Mth → String
  | .sindex => "str.index"
  | .lindex => "list.index"
  | .join => "str.join"
  | .scount => "str.count"
  | .lstrip => "str.lstrip"
  | .lcount => "list.count"
def mthRcv (m : Mth) : D → Bool
  | .str _ => m.ty == "str"
  | .lst _ => m.ty == "list"
  | _ => false
/-- the first place at which y stands in x -/
def subIdx (x y : List Nat) : Option Nat := (List.range (x.length + 1 - y.length)).find? fun i => decide ((x.drop i).take y.length = y)
def mthSem : Mth → D → D → Option D
  | .sindex, .str x, .str y => (subIdx x y).map fun i => .int (i : Nat)
  | .lindex, .lst ds, x => if x.flat && ds.all D.flat then (ds.findIdx? fun y => y.eqb x).map fun i => .int (i : Nat) else none
  | .join, .str [], .lst ds => (strsOf ds).bind fun ls => if ls.flatten.length ≤ szL then some (.str ls.flatten) else none
  | .scount, .str x, .str [c] => some (.int (x.count c : Nat))
  | .lstrip, .str x, .str [c] => some (.str (x.dropWhile fun k => k == c))
  | .lcount, .lst ds, .str k => (strsOf ds).map fun ls => .int (ls.count k : Nat)
  | _, _, _ => none
theorem subAt_mk (x y : List Nat) (i : Nat) : Builtin.Str.subAt ⟨x.toArray⟩ ⟨y.toArray⟩ i = decide ((x.drop i).take y.length = y) := by
  unfold Builtin.Str.subAt
  rw [str_len]
  have e : x.toArray.extract i (i + y.length) = ((x.drop i).take y.length).toArray := by
    rw [List.extract_toArray, List.extract_eq_drop_take]
    congr 2
    omega
  show (x.toArray.extract i (i + y.length) == y.toArray) = _
  rw [e]
  by_cases h : (x.drop i).take y.length = y
  · rw [h]; simp
  · rw [decide_eq_false h]
    exact beq_eq_false_iff_ne.mpr fun q => h (by simpa using q)
theorem subIdx_occ {x y : List Nat} {i : Nat} (h : subIdx x y = some i) : ∃ r, Builtin.Str.occurrences ⟨x.toArray⟩ ⟨y.toArray⟩ 0 (⟨x.toArray⟩ : Str).length 1 = i :: r := by
  unfold subIdx at h
  rw [List.find?_range_eq_some] at h
  obtain ⟨h1, h2, h3⟩ := h
  rw [List.mem_range] at h2
  rcases StrLaws.occ_head ⟨x.toArray⟩ ⟨y.toArray⟩ 1 (Nat.le_refl 1) with ⟨_, hn⟩ | ⟨j, r, e, ha, hn⟩
  · exact absurd ⟨by rw [str_len, str_len]; omega, by rw [subAt_mk]; exact h1⟩ (hn i)
  · have hj : j = i := by
      rcases Nat.lt_trichotomy j i with q | q | q
      · have := h3 j q
        obtain ⟨a1, a2⟩ := ha
        rw [subAt_mk] at a2
        rw [a2] at this
        cases this
      · exact q
      · exact absurd ⟨by rw [str_len, str_len]; omega, by rw [subAt_mk]; exact h1⟩ (hn i q)
    rw [← hj]
    exact ⟨r, e⟩
theorem cnt_count (c : Nat) : ∀ l : List Nat, PyProof.Rows.cnt c l = ((l.count c : Nat) : Int)
  | [] => rfl
  | n :: r => by
    rw [PyProof.Rows.cnt_cons, cnt_count c r, List.count_cons]
    by_cases h : n = c
    · subst h
      simp
      omega
    · simp [h]
theorem join_flat : ∀ ls : List (List Nat), Txt.join ⟨#[]⟩ (ls.map fun l => (⟨l.toArray⟩ : Str)) = ⟨ls.flatten.toArray⟩ := by
  intro ls
  show Builtin.Str.glued _ _ = _
  rw [StrLaws.glued_eq_join]
  induction ls with
  | nil => rfl
  | cons l ls ih =>
    cases ls with
    | nil => simp [Str.join]
    | cons k ls =>
      have ih' : Str.join ⟨#[]⟩ ((⟨k.toArray⟩ : Str) :: ls.map fun l => (⟨l.toArray⟩ : Str)) = ⟨(k :: ls).flatten.toArray⟩ := ih
      have e : Str.join ⟨#[]⟩ ((l :: k :: ls).map fun l => (⟨l.toArray⟩ : Str)) = ⟨l.toArray ++ #[] ++ (Str.join ⟨#[]⟩ ((⟨k.toArray⟩ : Str) :: ls.map fun l => (⟨l.toArray⟩ : Str))).cps⟩ := rfl
      rw [e, ih']
      simp
theorem lstrip_mk (x : List Nat) (c : Nat) : Txt.lstripChars ⟨x.toArray⟩ ⟨#[c]⟩ = ⟨(x.dropWhile fun k => k == c).toArray⟩ := by
  unfold Txt.lstripChars
  rw [PySem.W.stripBy_eq]
  have e1 : (⟨#[c]⟩ : Str).cps.contains = fun k => k == c := by
    funext k
    simp [Array.contains_eq_any_beq] <;> rfl
  rw [e1]
  unfold PySem.W.stripped
  simp only [if_true, Bool.false_eq_true, if_false, tl_mk, str_len]
  show (⟨x.toArray.extract _ _⟩ : Str) = _
  rw [List.extract_toArray, List.extract_eq_drop_take]
  congr 2
  rw [List.take_of_length_le (by rw [List.length_drop]; exact Nat.le_refl _)]
  have e2 : ∀ (a b z : List Nat), a ++ b = z → z.drop a.length = b := fun a b z e => by rw [← e, List.drop_left]
  exact e2 _ _ _ List.takeWhile_append_dropWhile
theorem count_strs (k : List Nat) : ∀ ls : List (List Nat), countIn (.str ⟨k.toArray⟩) ((ls.map fun l => (⟨l.toArray⟩ : Str)).map PyData.str) = ((ls.count k : Nat) : Int)
  | [] => rfl
  | l :: ls => by
    have ih := count_strs k ls
    simp only [List.map_cons, countIn, ih]
    have e : same (.str ⟨l.toArray⟩) (.str ⟨k.toArray⟩) = (l == k) := by
      show ((⟨l.toArray⟩ : Str) == ⟨k.toArray⟩) = _
      exact str_beq l k
    rw [e, List.count_cons]
    by_cases h : l = k
    · subst h
      simp
      omega
    · simp [h]
theorem mth_ok {X : Cx} {T : List (Addr × Str)} (m : Mth) : MtR X m.id (fun x xs H Q => ∃ N dx dy d y, xs = [y] ∧ Dom N H ∧ RpO X.K H N x dx ∧ RpO X.K H N y dy ∧ mthSem m dx dy = some d ∧ Giv X.K T N H d Q) := by
  intro pins s σ H x xs v us Q I rx rs h
  obtain ⟨N, dx, dy, d, y, rfl, dom, hx, hy, e, g⟩ := h
  unfold mthSem at e
  split at e
  · rename_i x' y'
    rw [Option.map_eq_some_iff] at e
    obtain ⟨i, e, rfl⟩ := e
    obtain ⟨ex, _, _⟩ := hx.str
    obtain ⟨ey, _, _⟩ := hy.str
    obtain ⟨r, e⟩ := subIdx_occ e
    exact mt_sindex pins s σ H x _ v us Q I rx rs ⟨_, _, i, r, ex, by rw [ey], e, g.int⟩
  · rename_i ds
    split at e
    · rename_i hf
      simp only [Bool.and_eq_true] at hf
      rw [Option.map_eq_some_iff] at e
      obtain ⟨i, e, rfl⟩ := e
      obtain ⟨a, zs, rfl, q1, r1⟩ := hx.sqL
      have hy' : Rp X.K H N y dy := by
        cases hy with
        | of h => exact h
        | lst _ _ => simp [D.flat] at hf
        | dct _ _ => simp [D.flat] at hf
      rw [List.findIdx?_eq_some_iff_getElem] at e
      obtain ⟨hi, e1, e2⟩ := e
      obtain ⟨z, z1, z2⟩ := r1.get (List.getElem?_eq_getElem hi)
      refine mt_index pins s σ H _ _ v us Q I rx rs ⟨a, zs, y, i, z, rfl, rfl, .inl (.inl q1), flat_of hf.1 hy', flats_of hf.2 r1, z1, ?_, fun m z' hm hz => ?_, g.int⟩
      · rw [eqV_of (List.all_eq_true.mp hf.2 _ (List.getElem_mem hi)) hf.1 z2 hy']
        exact e1
      · obtain ⟨w, w1, w2⟩ := r1.get (List.getElem?_eq_getElem (show m < ds.length by omega))
        rw [hz] at w1
        cases w1
        rw [eqV_of (List.all_eq_true.mp hf.2 _ (List.getElem_mem _)) hf.1 w2 hy']
        simpa using e2 m hm
    · cases e
  · rename_i ds
    rw [Option.bind_eq_some_iff] at e
    obtain ⟨ls, e1, e2⟩ := e
    split at e2
    · cases e2
      rename_i hl
      obtain ⟨ex, _, _⟩ := hx.str
      rw [strsOf_eq e1] at hy
      obtain ⟨a, zs, rfl, q1, r1⟩ := hy.sqL
      have ez := r1.strs
      refine mt_join pins s σ H x _ v us Q I rx rs ⟨_, a, ls.map fun l => (⟨l.toArray⟩ : Str), ex, rfl, .inl (.inl (.inl ?_)), ?_, ?_⟩
      · rw [q1, ez.1, List.map_map]
        rfl
      · have : (List.map (fun l => l.length) (ls.map fun l => (⟨l.toArray⟩ : Str))).sum = ls.flatten.length := by
          rw [List.length_flatten, List.map_map]
          rfl
        rw [this]
        have e0 : (⟨([] : List Nat).toArray⟩ : Str).length = 0 := rfl
        rw [e0, Nat.mul_zero]
        exact hl
      · show Q (.str (Txt.join ⟨#[]⟩ _)) H
        rw [join_flat]
        refine g.str (fun c hc => ?_) hl
        obtain ⟨l, h1, h2⟩ := List.mem_flatten.mp hc
        exact ez.2 l h1 c h2
    · cases e2
  · rename_i x' c
    cases e
    obtain ⟨ex, _, _⟩ := hx.str
    obtain ⟨ey, _, _⟩ := hy.str
    refine mt_count pins s σ H x _ v us Q I rx rs ⟨_, _, ex, by rw [ey], ?_⟩
    rw [PyProof.Rows.count_cnt, cnt_count, tl_mk]
    exact g.int
  · rename_i x' c
    cases e
    obtain ⟨ex, cx, lx⟩ := hx.str
    obtain ⟨ey, _, _⟩ := hy.str
    refine mt_lstripChars pins s σ H x _ v us Q I rx rs ⟨_, _, ex, by rw [ey], by rw [str_len]; exact lx, ?_⟩
    rw [lstrip_mk]
    exact g.str (fun k hk => cx k (List.dropWhile_subset _ hk)) (Nat.le_trans (List.dropWhile_sublist _).length_le (by rw [← szL_eq]; exact lx))
  · rename_i ds k
    rw [Option.map_eq_some_iff] at e
    obtain ⟨ls, e1, rfl⟩ := e
    obtain ⟨ey, _, _⟩ := hy.str
    subst ey
    rw [strsOf_eq e1] at hx
    obtain ⟨a, zs, rfl, q1, r1⟩ := hx.sqL
    have ez := r1.strs.1
    obtain ⟨its, rv, hl, _⟩ := I.list (.inl (.inl q1))
    have em : (ls.map fun l => V.str ⟨l.toArray⟩) = (ls.map fun l => (⟨l.toArray⟩ : Str)).map V.str := by simp
    rw [ez, em] at rv
    cases rx
    cases rs with
    | cons ru rr =>
      cases rr
      obtain ⟨t, rfl⟩ := ru
      refine PyProof.Rows.count_list_strs hl.isList rv.strs ?_
      rw [count_strs]
      exact ⟨.int _, H, I.tok _, ⟨_, rfl⟩, g.int⟩
  · cases e
/-! ### sets -/
/-- each once, as they come -/
def dk {α : Type} [DecidableEq α] (l : List α) : List α := l.foldl (fun r v => if v ∈ r then r else r ++ [v]) []
def keysOf : List D → Option (List DK)
  | [] => some []
  | d :: r => (keyOf d).bind fun k => (keysOf r).map fun ks => k :: ks
def lsetSem : D → Option D
  | .str l => if l.length < 1000 then some (.int (dk l).length) else none
  | .lst ds => (keysOf ds).bind fun ks => if ks.length < 1000 then some (.int (dk ks).length) else none
  | .tup ds => (keysOf ds).bind fun ks => if ks.length < 1000 then some (.int (dk ks).length) else none
  | _ => none
def ssetSem : D → Option D
  | .lst ds => (intsOf ds).bind fun ns => if ns.length < 64 then some (.lst ((srtI (dk ns)).map .int)) else none
  | _ => none
end DN

set_option Elab.async false
set_option linter.all false
set_option maxRecDepth 100000
namespace DN
open PySem PySem.Spec PyProof.Rows L2
/-! ### results, slots -/
inductive Rs (α : Type) where
  | ok (a : α)
  | exc (c : Str)
  | bad
def Rs.bind {α β : Type} (r : Rs α) (f : α → Rs β) : Rs β := match r with
  | .ok a => f a
  | .exc c => .exc c
  | .bad => .bad
@[simp] theorem Rs.bind_ok {α β : Type} (a : α) (f : α → Rs β) : (Rs.ok a).bind f = f a := (rfl)
@[simp] theorem Rs.bind_exc {α β : Type} (c : Str) (f : α → Rs β) : (Rs.exc c : Rs α).bind f = .exc c := (rfl)
@[simp] theorem Rs.bind_bad {α β : Type} (f : α → Rs β) : (Rs.bad : Rs α).bind f = .bad := (rfl)
def Rs.of {α : Type} (o : Option α) : Rs α := match o with
  | some a => .ok a
  | none => .bad
@[simp] theorem Rs.of_some {α : Type} (a : α) : Rs.of (some a) = .ok a := (rfl)
@[simp] theorem Rs.of_none {α : Type} : (Rs.of none : Rs α) = .bad := (rfl)
inductive Sl where
  | no
  | dat (d : D)
  | own (d : D)
abbrev En := List Sl
def getC (ρ : En) (i : Nat) : Rs D := match ρ[i]? with
  | some (.dat d) => .ok d
  | _ => .bad
def getO (ρ : En) (i : Nat) : Rs D := match ρ[i]? with
  | some (.dat d) => .ok d
  | some (.own d) => .ok d
  | _ => .bad
def putD (ρ : En) (i : Nat) (d : D) : En := ρ.set i (.dat d)
/-- targets: one name; a tuple of names -/
inductive Tg where
  | nm (i : Nat)
  | tp (is : List Nat)
def putAll (ρ : En) : List Nat → List D → Option En
  | [], [] => some ρ
  | i :: is, d :: ds => putAll (putD ρ i d) is ds
  | _, _ => none
def putT (ρ : En) (g : Tg) (d : D) : Option En := match g with
  | .nm i => some (putD ρ i d)
  | .tp is => (match d with
    | .tup ds => putAll ρ is ds
    | _ => none)
def Tg.slots : Tg → List Nat
  | .nm i => [i]
  | .tp is => is
def wip (ρ : En) : List Nat → En
  | [] => ρ
  | v :: vs => (wip ρ vs).set v .no
/-! ### expressions -/
inductive E where
  | var (i : Nat)
  | con (d : D)
  | glo (x : Str) (d : D)
  | bin (op : Bop) (a b : E)
  | neg (a : E)
  | cmp (op : Cop) (a b : E)
  | chain (o1 o2 : Cop) (a b c : E)
  | and (a b : E)
  | or (a b : E)
  | not (a : E)
  | ife (t a b : E)
  | nil
  | cons (a r : E)
  | tup (es : E)
  | lst (es : E)
  | call (f : Nat) (es : E)
  | blt1 (b : Blt) (a : E)
  | blt2 (b : Blt) (a c : E)
  | fin (a : E)
  | isi (a : E) (t : Ty)
  | ix (a b : E)
  | sl (a lo hi : E)
  | rev (a : E)
  | lrng1 (b : E)
  | lrng (a b : E)
  | comp (e : E) (g : Tg) (it c : E)
  | rng1 (a : E)
  | rng2 (a b : E)
  | rngd (a b c : E)
  | lrngd (a b c : E)
  | zip (a b : E)
  | enum (a : E)
  | walk (a : E)
  | mth (m : Mth) (a b : E)
  | lset (a : E)
  | sset (a : E)
  | lzip (a b : E)
  | dcon (kvs : List (DK × D))
/-- the defs that may be called, by number -/
  | told (ws : List Str) (e : E)
  | up (a : E)
abbrev Fns := List (Str × (List D → Rs D))
def asB : D → Rs Bool
  | .bl b => .ok b
  | _ => .bad
def asL : D → Rs (List D)
  | .tup ds => .ok ds
  | _ => .bad
def asItems : D → Rs (List D)
  | .lst ds => .ok ds
  | .tup ds => .ok ds
  | .str l => .ok (l.map fun c => .str [c])
  | _ => .bad
def asSeq : D → Rs (List D)
  | .lst ds => .ok ds
  | .str l => .ok (l.map fun c => .str [c])
  | _ => .bad
def asI : D → Rs Int
  | .int i => .ok i
  | _ => .bad
def asLst : D → Rs (List D)
  | .lst ds => .ok ds
  | _ => .bad
def asOI : D → Rs (Option Int)
  | .int i => .ok (some i)
  | .non => .ok none
  | _ => .bad
def revSem : D → Option D
  | .lst ds => some (.lst ds.reverse)
  | .str l => some (.str l.reverse)
  | _ => none
def rgOk (a b : Int) : Bool := decide (-(2 ^ 60) ≤ a) && decide (a < 2 ^ 60) && decide (-(2 ^ 60) ≤ b) && decide (b < 2 ^ 60)
def rdL (a b : Int) : List D := (List.range (a - b).toNat).map fun i => .int (a - (i : Nat))
def rgL (a b : Int) : List D := (List.range (b - a).toNat).map fun i => .int (a + (i : Nat))
def zipD : List D → List D → List D
  | x :: xs, y :: ys => .tup [x, y] :: zipD xs ys
  | _, _ => []
def enumD : Nat → List D → List D
  | _, [] => []
  | i, x :: xs => .tup [.int (i : Int), x] :: enumD (i + 1) xs
def compL (f : D → Rs (Option D)) : List D → List D → Rs (List D)
  | [], acc => .ok acc
  | x :: r, acc => match f x with
    | .ok none => compL f r acc
    | .ok (some y) => compL f r (acc ++ [y])
    | _ => .bad
def callF (fns : Fns) (f : Nat) (ds : List D) : Rs D := match fns[f]? with
  | some p => p.2 ds
  | none => .bad
/-- an operand -/
def opd (e : E) (r : En → Rs D) (ρ : En) : Rs D := match e with
  | .var i => getO ρ i
  | _ => r ρ
/-- a slice's part -/
def prt (e : E) (r : En → Rs D) (ρ : En) : Rs (Option Int) := match e with
  | .nil => .ok none
  | _ => (r ρ).bind fun x => (asI x).bind fun i => .ok (some i)
/-- what is made of a refusal -/
def toldR (ws : List Str) : Rs D → Rs D
  | .ok d => .ok d
  | .exc c => if c ∈ ws then .ok (.str c.cps.toList) else .bad
  | .bad => .bad
def tolds (ws : List Str) (ρ : En) : List (En → Rs D) → Rs (List D)
  | [] => .ok []
  | f :: fs => (toldR ws (f ρ)).bind fun x => (tolds ws ρ fs).bind fun l => .ok (x :: l)
def ev (fns : Fns) : E → En → Rs D
  | .var i, ρ => getC ρ i
  | .con d, _ => .ok d
  | .glo _ d, _ => .ok d
  | .bin op a b, ρ => (opd a (ev fns a) ρ).bind fun x => (opd b (ev fns b) ρ).bind fun y => .of (binSem op x y)
  | .neg a, ρ => (ev fns a ρ).bind fun x => (asI x).bind fun i => .ok (.int (-i))
  | .cmp op a b, ρ => (opd a (ev fns a) ρ).bind fun x => (opd b (ev fns b) ρ).bind fun y => (Rs.of (cmpSem op x y)).bind fun b => .ok (.bl b)
  | .chain o1 o2 a b c, ρ => (opd a (ev fns a) ρ).bind fun x => (opd b (ev fns b) ρ).bind fun y => (Rs.of (cmpSem o1 x y)).bind fun k =>
      if k then (opd c (ev fns c) ρ).bind fun z => (Rs.of (cmpSem o2 y z)).bind fun b => .ok (.bl b) else .ok (.bl false)
  | .and a b, ρ => (ev fns a ρ).bind fun x => (asB x).bind fun k => if k then ev fns b ρ else .ok (.bl false)
  | .or a b, ρ => (ev fns a ρ).bind fun x => (asB x).bind fun k => if k then .ok (.bl true) else ev fns b ρ
  | .not a, ρ => (ev fns a ρ).bind fun x => (asB x).bind fun k => .ok (.bl (!k))
  | .ife t a b, ρ => (ev fns t ρ).bind fun x => (asB x).bind fun k => if k then ev fns a ρ else ev fns b ρ
  | .nil, _ => .ok (.tup [])
  | .cons a r, ρ => (ev fns a ρ).bind fun x => (ev fns r ρ).bind fun y => (asL y).bind fun ds => .ok (.tup (x :: ds))
  | .tup es, ρ => (ev fns es ρ).bind fun y => (asL y).bind fun ds => if ds.length ≤ szL then .ok (.tup ds) else .bad
  | .lst es, ρ => (ev fns es ρ).bind fun y => (asL y).bind fun ds => if ds.length ≤ szL then .ok (.lst ds) else .bad
  | .call f es, ρ => (ev fns es ρ).bind fun y => (asL y).bind fun ds => callF fns f ds
  | .blt1 b a, ρ => (opd a (ev fns a) ρ).bind fun x => .of (bltSem b [x])
  | .blt2 b a c, ρ => (opd a (ev fns a) ρ).bind fun x => (opd c (ev fns c) ρ).bind fun y => .of (bltSem b [x, y])
  | .fin a, ρ => ev fns a ρ
  | .isi a t, ρ => (opd a (ev fns a) ρ).bind fun x => .ok (.bl (isiSem t x))
  | .ix a b, ρ => (opd a (ev fns a) ρ).bind fun x => (opd b (ev fns b) ρ).bind fun y => .of (ixSem x y)
  | .sl a lo hi, ρ => (opd a (ev fns a) ρ).bind fun x => (prt lo (ev fns lo) ρ).bind fun l => (prt hi (ev fns hi) ρ).bind fun h => .of (slSem x l h)
  | .rev a, ρ => (opd a (ev fns a) ρ).bind fun x => .of (revSem x)
  | .lrng1 b, ρ => (ev fns b ρ).bind fun y => (asI y).bind fun j => if rgOk 0 j && decide (j.toNat ≤ szL) then .ok (.lst (rgL 0 j)) else .bad
  | .lrng a b, ρ => (ev fns a ρ).bind fun x => (asI x).bind fun i => (ev fns b ρ).bind fun y => (asI y).bind fun j => if rgOk i j && decide ((j - i).toNat ≤ szL) then .ok (.lst (rgL i j)) else .bad
  | .comp e g it c, ρ => (ev fns it ρ).bind fun y => (asL y).bind fun ds => if ds.length ≤ szL then
      (compL (fun d => match putT (wip ρ g.slots) g d with
        | none => .bad
        | some ρ' => (match c with
          | .nil => (ev fns e ρ').bind fun y => .ok (some y)
          | _ => (ev fns c ρ').bind fun x => (asB x).bind fun k => if k then (ev fns e ρ').bind fun y => .ok (some y) else .ok none)) ds []).bind fun ys => .ok (.lst ys)
      else .bad
  | .rng1 a, ρ => (ev fns a ρ).bind fun x => (asI x).bind fun j => if rgOk 0 j then .ok (.tup (rgL 0 j)) else .bad
  | .rng2 a b, ρ => (ev fns a ρ).bind fun x => (asI x).bind fun i => (ev fns b ρ).bind fun y => (asI y).bind fun j => if rgOk i j then .ok (.tup (rgL i j)) else .bad
  | .rngd a b c, ρ => (ev fns a ρ).bind fun x => (asI x).bind fun i => (ev fns b ρ).bind fun y => (asI y).bind fun j => (ev fns c ρ).bind fun z => (asI z).bind fun k => if decide (k = -1) && rgOk j i then .ok (.tup (rdL i j)) else .bad
  | .lrngd a b c, ρ => (ev fns a ρ).bind fun x => (asI x).bind fun i => (ev fns b ρ).bind fun y => (asI y).bind fun j => (ev fns c ρ).bind fun z => (asI z).bind fun k => if decide (k = -1) && (rgOk j i && decide ((i - j).toNat ≤ szL)) then .ok (.lst (rdL i j)) else .bad
  | .zip a b, ρ => (ev fns a ρ).bind fun x => (asItems x).bind fun xs => (ev fns b ρ).bind fun y => (asItems y).bind fun ys => .ok (.tup (zipD xs ys))
  | .enum a, ρ => (ev fns a ρ).bind fun x => (asSeq x).bind fun xs => .ok (.tup (enumD 0 xs))
  | .walk a, ρ => (ev fns a ρ).bind fun x => (asItems x).bind fun xs => .ok (.tup xs)
  | .lset a, ρ => (opd a (ev fns a) ρ).bind fun x => .of (lsetSem x)
  | .sset a, ρ => (opd a (ev fns a) ρ).bind fun x => .of (ssetSem x)
  | .lzip a b, ρ => (ev fns a ρ).bind fun x => (asItems x).bind fun xs => (ev fns b ρ).bind fun y => (asItems y).bind fun ys => .of (if (zipD xs ys).length ≤ szL then some (.lst (zipD xs ys)) else none)
  | .dcon kvs, _ => .ok (.dct kvs)
  | .told ws a, ρ => toldR ws (ev fns a ρ)
  | .up a, ρ => (opd a (ev fns a) ρ).bind fun x => .of (upSem x)
  | .mth m a b, ρ => (opd a (ev fns a) ρ).bind fun x => if mthRcv m x then (opd b (ev fns b) ρ).bind fun y => .of (mthSem m x y) else .bad
def evL (fns : Fns) : E → List (En → Rs D)
  | .cons a r => ev fns a :: evL fns r
  | _ => []
/-! ### statements -/
inductive S where
  | nil
  | cons (a r : S)
  | set (i : Nat) (e : E)
  | setO (i : Nat) (e : E)
  | unp (is : List Nat) (e : E)
  | par (is : List (Nat × Bool)) (e : E)
  | expr (e : E)
  | ret (e : E)
  | retN
  | ife (t : E) (a b : S)
  | whl (n : Nat) (t : E) (b : S)
  | forS (g : Tg) (it : E) (b : S)
  | rai (c : Str)
  | app (i : Nat) (e : E)
  | pop (i j : Nat) (e : E)
  | rem (i : Nat) (e : E)
  | appc (t : E) (i j : Nat) (e : E)
  | ext (i : Nat) (e : E)
  | put (i : Nat) (k e : E)
  | ssl (i : Nat) (a b e : E)
  | dis (i : Nat)
  | alls (ws : List Str) (i : Nat) (es r t : E) (b : S)
  | brk
  | cnt
  | pass
inductive Out where
  | nx (ρ : En)
  | rt (d : D)
  | xc (c : Str) (ρ : En)
  | br (ρ : En)
  | ct (ρ : En)
  | bad
def onR {α : Type} (r : Rs α) (ρ : En) (f : α → Out) : Out := match r with
  | .ok a => f a
  | .exc c => .xc c ρ
  | .bad => .bad
@[simp] theorem onR_ok {α : Type} (a : α) (ρ : En) (f : α → Out) : onR (.ok a) ρ f = f a := (rfl)
@[simp] theorem onR_exc {α : Type} (c : Str) (ρ : En) (f : α → Out) : onR (.exc c) ρ f = .xc c ρ := (rfl)
@[simp] theorem onR_bad {α : Type} (ρ : En) (f : α → Out) : onR .bad ρ f = .bad := (rfl)
def onO (o : Option En) : Out := match o with
  | some ρ => .nx ρ
  | none => .bad
def whlL (c : En → Rs D) (b : En → Out) : Nat → En → Out
  | 0, _ => .bad
  | n + 1, ρ => onR ((c ρ).bind asB) ρ fun k => if k then (match b ρ with
    | .nx ρ' => whlL c b n ρ'
    | .ct ρ' => whlL c b n ρ'
    | .br ρ' => .nx ρ'
    | o => o) else .nx ρ
def forL (g : Tg) (b : En → Out) : List D → En → Out
  | [], ρ => .nx ρ
  | x :: r, ρ => match putT ρ g x with
    | none => .bad
    | some ρ1 => (match b ρ1 with
      | .nx ρ' => forL g b r ρ'
      | .ct ρ' => forL g b r ρ'
      | .br ρ' => .nx ρ'
      | o => o)
def isFresh : E → Bool
  | .lst _ => true
  | .comp _ _ _ _ => true
  | .blt1 .list _ => true
  | .lrng _ _ => true
  | .lrng1 _ => true
  | .bin _ _ _ => true

  | .rev _ => true
  | _ => false
def putPar (ρ : En) : List (Nat × Bool) → List D → Option En
  | [], [] => some ρ
  | (i, false) :: is, d :: ds => putPar (ρ.set i (.dat d)) is ds
  | (i, true) :: is, .lst d :: ds => putPar (ρ.set i (.own (.lst d))) is ds
  | _, _ => none
def remK (i : Nat) (ρ : En) (ds : List D) (d : D) : Out := match intsOf ds, d with
  | some ns, .int k => (match ns.findIdx? (fun n => decide (n = k)) with
    | some j => .nx (ρ.set i (.own (.lst (ds.eraseIdx j))))
    | none => .bad)
  | _, _ => .bad
def sslK (i : Nat) (ρ : En) (ds : List D) (d l h : D) : Out := match d, l, h with
  | .lst es, .int a, .int b => if 0 ≤ a ∧ a ≤ b ∧ b ≤ ds.length ∧ ds.length + es.length ≤ szL then .nx (ρ.set i (.own (.lst (ds.take a.toNat ++ es ++ ds.drop b.toNat)))) else .bad
  | _, _, _ => .bad
def exec (fns : Fns) : S → En → Out
  | .nil, ρ => .nx ρ
  | .cons a r, ρ => (match exec fns a ρ with
    | .nx ρ' => exec fns r ρ'
    | o => o)
  | .set i e, ρ => onR (ev fns e ρ) ρ fun d => .nx (putD ρ i d)
  | .setO i e, ρ => onR (ev fns e ρ) ρ fun d => (match d with
    | .lst ds => .nx (ρ.set i (.own (.lst ds)))
    | _ => .bad)
  | .unp is e, ρ => onR (ev fns e ρ) ρ fun d => onO (putT ρ (.tp is) d)
  | .par is e, ρ => (match ev fns e ρ with
    | .ok (.tup ds) => onO (putPar ρ is ds)
    | .exc c => if is.any (·.2) then .bad else .xc c ρ
    | _ => .bad)
  | .expr e, ρ => onR (ev fns e ρ) ρ fun _ => .nx ρ
  | .ret e, ρ => onR (ev fns e ρ) ρ fun d => .rt d
  | .retN, _ => .rt .non
  | .ife t a b, ρ => onR ((ev fns t ρ).bind asB) ρ fun k => if k then exec fns a ρ else exec fns b ρ
  | .whl n t b, ρ => whlL (ev fns t) (exec fns b) n ρ
  | .forS g it b, ρ => onR ((ev fns it ρ).bind asL) ρ fun ds => forL g (exec fns b) ds ρ
  | .rai c, ρ => .xc c ρ
  | .app i e, ρ => (match ρ[i]? with
    | some (.own (.lst ds)) => onR (ev fns e ρ) ρ fun d => if ds.length < szL then .nx (ρ.set i (.own (.lst (ds ++ [d])))) else .bad
    | _ => .bad)
  | .appc t i j e, ρ => onR ((ev fns t ρ).bind asB) ρ fun k => if k then (match ρ[i]? with
    | some (.own (.lst ds)) => onR (ev fns e ρ) ρ fun d => if ds.length < szL then .nx (ρ.set i (.own (.lst (ds ++ [d])))) else .bad
    | _ => .bad) else (match ρ[j]? with
    | some (.own (.lst ds)) => onR (ev fns e ρ) ρ fun d => if ds.length < szL then .nx (ρ.set j (.own (.lst (ds ++ [d])))) else .bad
    | _ => .bad)
  | .pop i j e, ρ => if i = j then .bad else (match ρ[i]?, ρ[j]? with
    | some (.own (.lst ds)), some (.own (.lst es)) => onR (ev fns e ρ) ρ fun d => (match d with
      | .int k => if 0 ≤ k ∧ k < 1000000 ∧ ds.length < szL then (match es[k.toNat]? with
        | some y => .nx ((ρ.set j (.own (.lst (es.eraseIdx k.toNat)))).set i (.own (.lst (ds ++ [y]))))
        | none => .bad) else .bad
      | _ => .bad)
    | _, _ => .bad)
  | .rem i e, ρ => (match ρ[i]? with
    | some (.own (.lst ds)) => onR (ev fns e ρ) ρ fun d => remK i ρ ds d
    | _ => .bad)
  | .ext i e, ρ => (match ρ[i]? with
    | some (.own (.lst ds)) => onR (ev fns e ρ) ρ fun d => (match d with
      | .lst es => if ds.length + es.length ≤ szL then .nx (ρ.set i (.own (.lst (ds ++ es)))) else .bad
      | _ => .bad)
    | _ => .bad)
  | .put i k e, ρ => (match ρ[i]? with
    | some (.own (.lst ds)) => onR (ev fns e ρ) ρ fun d => onR (ev fns k ρ) ρ fun j => (match j with
      | .int j => (match ixN ds.length j with
        | some n => .nx (ρ.set i (.own (.lst (ds.set n d))))
        | none => .bad)
      | _ => .bad)
    | _ => .bad)
  | .ssl i a b e, ρ => (match ρ[i]? with
    | some (.own (.lst ds)) => onR (ev fns e ρ) ρ fun d => onR (ev fns a ρ) ρ fun l => onR (ev fns b ρ) ρ fun h => sslK i ρ ds d l h
    | _ => .bad)
  | .dis i, ρ => (match ρ[i]? with
    | some (.own d) => .nx (putD ρ i d)
    | some (.dat _) => .nx ρ
    | _ => .bad)
  | .alls ws i es r t b, ρ => onR (tolds ws (ρ.set i .no) (evL fns es)) (ρ.set i .no) fun ds => onR (ev fns r (ρ.set i .no)) (ρ.set i .no) fun y => onR (.of (cmpSem .ne (.lst ds) y)) (ρ.set i .no) fun k =>
      if k then exec fns b (ρ.set i .no) else (match t with
        | .nil => .nx (ρ.set i .no)
        | _ => onR ((ev fns t (ρ.set i .no)).bind asB) (ρ.set i .no) fun k => if k then exec fns b (ρ.set i .no) else .nx (ρ.set i .no))
  | .brk, ρ => .br ρ
  | .cnt, ρ => .ct ρ
  | .pass, ρ => .nx ρ
def outR : Out → Rs D
  | .rt d => .ok d
  | .nx _ => .ok .non
  | .xc c _ => .exc c
  | _ => .bad
@[simp] theorem outR_rt (d : D) : outR (.rt d) = .ok d := (rfl)
@[simp] theorem outR_nx (ρ : En) : outR (.nx ρ) = .ok .non := (rfl)
@[simp] theorem outR_xc (c : Str) (ρ : En) : outR (.xc c ρ) = .exc c := (rfl)
/-- a def: so many parameters, so many slots in all -/
def fnSem (fns : Fns) (np n : Nat) (b : S) (ds : List D) : Rs D :=
  if ds.length = np then (match exec fns b (ds.map .dat ++ List.replicate (n - np) .no) with
    | .rt d => .ok d
    | .nx _ => .ok .non
    | .xc c _ => .exc c
    | _ => .bad) else .bad
end DN

set_option Elab.async false
set_option linter.all false
set_option maxRecDepth 100000
namespace DN
open PySem PySem.Spec PyProof.Rows L2
/-! ### a frame's slots -/
inductive OwnAt (K : PySem.W.Frag) (H : Hp) (N : Hid) (a : Addr) : D → Prop
  | lst {xs : List V} {ds : List D} : H a = some (.lst xs) → RpAll K H N xs ds → OwnAt K H N a (.lst ds)
  | dct {xs : List (Key × V)} {ds : List (DK × D)} : H a = some (.dK xs) → RpKv K H N xs ds → OwnAt K H N a (.dct ds)
theorem OwnAt.obj {K : PySem.W.Frag} {H : Hp} {N : Hid} {a : Addr} {d : D} (h : OwnAt K H N a d) : ∃ o, H a = some o ∧ (∀ ps, o ≠ .tbl ps) ∧ ∀ φ, o ≠ .ext φ := by
  cases h with
  | lst h _ => exact ⟨_, h, (fun _ z => nomatch z), fun _ z => nomatch z⟩
  | dct h _ => exact ⟨_, h, (fun _ z => nomatch z), fun _ z => nomatch z⟩
structure Rep (K : PySem.W.Frag) (T : List (Addr × Str)) (H0 : Hp) (N0 : Hid) (pn : List (V × D)) (H : Hp) (N : Hid) (σ : L2.St) (ρ : En) : Prop where
  ext : Ext T H0 H
  tabs : LamX.Tabs T H
  dom0 : Dom N0 H0
  dom : Dom N H
  hid : ∀ a, N0 a → N a
  len : σ.length = ρ.length
  dat : ∀ (i : Nat) (d : D), ρ[i]? = some (.dat d) → ∃ v, σ[i]? = some (some v) ∧ Rp K H N v d
  own : ∀ (i : Nat) (d : D), ρ[i]? = some (.own d) → ∃ a, σ[i]? = some (some (.ref a)) ∧ N a ∧ NF H0 a ∧ OwnAt K H N a d
  sep : ∀ (i j : Nat) (d e : D) (a : Addr), ρ[i]? = some (.own d) → ρ[j]? = some (.own e) → σ[i]? = some (some (.ref a)) → σ[j]? = some (some (.ref a)) → i = j
  pins : ∀ p ∈ pn, Rp K H N p.1 p.2
section
variable {K : PySem.W.Frag} {T : List (Addr × Str)} {H0 H H' : Hp} {N0 N N' : Hid} {pn : List (V × D)} {σ : L2.St} {ρ : En}
theorem Rep.n0 (r : Rep K T H0 N0 pn H N σ ρ) {a : Addr} (h : NF H0 a) : ¬ N0 a := fun n => by
  obtain ⟨o, e, z⟩ := r.dom0 a n
  obtain ⟨ps, q⟩ := h o e
  exact z ps q
theorem OwnAt.ext {a : Addr} {d : D} (e : Ext T H H') (h : OwnAt K H N a d) : OwnAt K H' N a d := by
  cases h with
  | lst h q => exact .lst (e.1 _ _ h (fun _ z => nomatch z)) (e.rps q)
  | dct h q => exact .dct (e.1 _ _ h (fun _ z => nomatch z)) (e.rpk q)
theorem OwnAt.anti {a : Addr} {d : D} (hn : ∀ a, N' a → N a) (h : OwnAt K H N a d) : OwnAt K H N' a d := by
  cases h with
  | lst h q => exact .lst h (q.anti hn)
  | dct h q => exact .dct h (q.anti hn)
theorem OwnAt.hide {a p : Addr} {d : D} (hp : NF H p) (h : OwnAt K H N a d) : OwnAt K H (Nu N p) a d := by
  cases h with
  | lst h q => exact .lst h (q.hide hp)
  | dct h q => exact .dct h (q.hide hp)
theorem OwnAt.mut {a p : Addr} {o : HO} {d : D} (hp : N p) (ne : a ≠ p) (h : OwnAt K H N a d) : OwnAt K (L2.upd H p o) N a d := by
  cases h with
  | lst h q => exact .lst (by rw [upd_ne ne]; exact h) (q.mut hp)
  | dct h q => exact .dct (by rw [upd_ne ne]; exact h) (q.mut hp)
theorem Rep.grow (r : Rep K T H0 N0 pn H N σ ρ) (e : Ext T H H') : Rep K T H0 N0 pn H' N σ ρ where
  ext := r.ext.trans e
  tabs := e.2 r.tabs
  dom0 := r.dom0
  dom := r.dom.ext e
  hid := r.hid
  len := r.len
  dat := fun i d q => let ⟨v, h, z⟩ := r.dat i d q; ⟨v, h, e.rp z⟩
  own := fun i d q => let ⟨a, h, n, f, z⟩ := r.own i d q; ⟨a, h, n, f, z.ext e⟩
  sep := r.sep
  pins := fun p hp => e.rp (r.pins p hp)
theorem Rep.moreN (r : Rep K T H0 N0 pn H N σ ρ) {p : Addr} {o : HO} (hp : NF H p) (e : Ext T H H') (ho : H' p = some o) (ht : ∀ ps, o ≠ .tbl ps) : Rep K T H0 N0 pn H' (Nu N p) σ ρ where
  ext := r.ext.trans e
  tabs := e.2 r.tabs
  dom0 := r.dom0
  dom := fun a n => by
    rcases n with n | n
    · exact r.dom.ext e a n
    · rw [n]; exact ⟨o, ho, ht⟩
  hid := fun a n => .inl (r.hid a n)
  len := r.len
  dat := fun i d q => let ⟨v, h, z⟩ := r.dat i d q; ⟨v, h, e.rp (z.hide hp)⟩
  own := fun i d q => let ⟨a, h, n, f, z⟩ := r.own i d q; ⟨a, h, .inl n, f, (z.hide hp).ext e⟩
  sep := r.sep
  pins := fun p' hp' => e.rp ((r.pins p' hp').hide hp)
theorem Rep.pin (r : Rep K T H0 N0 pn H N σ ρ) {p : V × D} (h : Rp K H N p.1 p.2) : Rep K T H0 N0 (p :: pn) H N σ ρ :=
  { r with pins := fun q hq => by rcases List.mem_cons.mp hq with e | hq; rw [e]; exact h; exact r.pins q hq }
theorem Rep.unpin {pn' : List (V × D)} (r : Rep K T H0 N0 pn' H N σ ρ) (h : ∀ p ∈ pn, p ∈ pn') : Rep K T H0 N0 pn H N σ ρ :=
  { r with pins := fun q hq => r.pins q (h q hq) }
/-- a slot gets a value -/
theorem get_set {α : Type} {l : List α} {i j : Nat} {x y : α} (h : (l.set i x)[j]? = some y) : (j = i ∧ y = x ∧ i < l.length) ∨ (j ≠ i ∧ l[j]? = some y) := by
  by_cases e : j = i
  · subst e
    by_cases hl : j < l.length
    · rw [List.getElem?_set_self hl] at h
      cases h
      exact .inl ⟨rfl, rfl, hl⟩
    · rw [List.getElem?_eq_none (by simpa using hl)] at h
      cases h
  · rw [List.getElem?_set_ne (Ne.symm e)] at h
    exact .inr ⟨e, h⟩
theorem Rep.put (r : Rep K T H0 N0 pn H N σ ρ) {i : Nat} {v : V} {d : D} (h : Rp K H N v d) : Rep K T H0 N0 pn H N (σ.set i (some v)) (ρ.set i (.dat d)) where
  ext := r.ext
  tabs := r.tabs
  dom0 := r.dom0
  dom := r.dom
  hid := r.hid
  len := by simp [r.len]
  dat := fun j e q => by
    rcases get_set q with ⟨rfl, e1, hl⟩ | ⟨ne, q⟩
    · cases e1
      exact ⟨v, by rw [List.getElem?_set_self (by rw [r.len]; exact hl)], h⟩
    · obtain ⟨w, q1, q2⟩ := r.dat j e q
      exact ⟨w, by rw [List.getElem?_set_ne (Ne.symm ne)]; exact q1, q2⟩
  own := fun j e q => by
    rcases get_set q with ⟨rfl, e1, hl⟩ | ⟨ne, q⟩
    · cases e1
    · obtain ⟨w, q1, q2⟩ := r.own j e q
      exact ⟨w, by rw [List.getElem?_set_ne (Ne.symm ne)]; exact q1, q2⟩
  sep := fun j k e f a h1 h2 h3 h4 => by
    rcases get_set h1 with ⟨rfl, e1, hl⟩ | ⟨ne1, q1⟩
    · cases e1
    · rcases get_set h2 with ⟨rfl, e2, hl⟩ | ⟨ne2, q2⟩
      · cases e2
      · rw [List.getElem?_set_ne (Ne.symm ne1)] at h3
        rw [List.getElem?_set_ne (Ne.symm ne2)] at h4
        exact r.sep j k e f a q1 q2 h3 h4
  pins := r.pins
/-- .. an owned object that no slot and no pin holds -/
theorem Rep.putO (r : Rep K T H0 N0 pn H N σ ρ) {i : Nat} {a : Addr} {d : D} (hN : N a) (hF : NF H0 a) (h : OwnAt K H N a d) (nw : ∀ (j : Nat) (e : D), ρ[j]? = some (.own e) → σ[j]? ≠ some (some (.ref a))) :
    Rep K T H0 N0 pn H N (σ.set i (some (.ref a))) (ρ.set i (.own d)) where
  ext := r.ext
  tabs := r.tabs
  dom0 := r.dom0
  dom := r.dom
  hid := r.hid
  len := by simp [r.len]
  dat := fun j e q => by
    rcases get_set q with ⟨rfl, e1, hl⟩ | ⟨ne, q⟩
    · cases e1
    · obtain ⟨w, q1, q2⟩ := r.dat j e q
      exact ⟨w, by rw [List.getElem?_set_ne (Ne.symm ne)]; exact q1, q2⟩
  own := fun j e q => by
    rcases get_set q with ⟨rfl, e1, hl⟩ | ⟨ne, q⟩
    · cases e1
      exact ⟨a, by rw [List.getElem?_set_self (by rw [r.len]; exact hl)], hN, hF, h⟩
    · obtain ⟨w, q1, q2⟩ := r.own j e q
      exact ⟨w, by rw [List.getElem?_set_ne (Ne.symm ne)]; exact q1, q2⟩
  sep := fun j k e f b h1 h2 h3 h4 => by
    rcases get_set h1 with ⟨rfl, e1, hl⟩ | ⟨ne1, q1⟩
    · rw [List.getElem?_set_self (by rw [r.len]; exact hl)] at h3
      cases h3
      rcases get_set h2 with ⟨rfl, e2, _⟩ | ⟨ne2, q2⟩
      · rfl
      · rw [List.getElem?_set_ne (Ne.symm ne2)] at h4
        exact absurd h4 (nw k f q2)
    · rw [List.getElem?_set_ne (Ne.symm ne1)] at h3
      rcases get_set h2 with ⟨rfl, e2, hl⟩ | ⟨ne2, q2⟩
      · rw [List.getElem?_set_self (by rw [r.len]; exact hl)] at h4
        cases h4
        exact absurd h3 (nw j e q1)
      · rw [List.getElem?_set_ne (Ne.symm ne2)] at h4
        exact r.sep j k e f b q1 q2 h3 h4
  pins := r.pins
/-- an owned object is disowned -/
theorem Rep.dis (r : Rep K T H0 N0 pn H N σ ρ) {i : Nat} {d : D} (h : ρ[i]? = some (.own d)) : ∃ N', Rep K T H0 N0 pn H N' σ (putD ρ i d) := by
  obtain ⟨a, ha, na, fa, oa⟩ := r.own i d h
  have anti : ∀ b, (N b ∧ b ≠ a) → N b := fun b z => z.1
  refine ⟨fun b => N b ∧ b ≠ a, r.ext, r.tabs, r.dom0, fun b n => r.dom b n.1, fun b n => ⟨r.hid b n, fun e => r.n0 fa (e ▸ n)⟩, by simp [putD, r.len], fun j e q => ?_, fun j e q => ?_, fun j k e f b h1 h2 h3 h4 => ?_, fun p hp => (r.pins p hp).anti anti⟩
  · rcases get_set q with ⟨rfl, e1, hl⟩ | ⟨ne, q⟩
    · cases e1
      refine ⟨.ref a, ha, ?_⟩
      cases oa with
      | lst q1 q2 => exact .lst ⟨fun z => z.2 rfl, q1⟩ (q2.anti anti)
      | dct q1 q2 => exact .dct (fun z => z.2 rfl) (.inl q1) (q2.anti anti)
    · obtain ⟨w, q1, q2⟩ := r.dat j e q
      exact ⟨w, q1, q2.anti anti⟩
  · rcases get_set q with ⟨rfl, e1, hl⟩ | ⟨ne, q⟩
    · cases e1
    · obtain ⟨w, q1, q2, q3, q4⟩ := r.own j e q
      exact ⟨w, q1, ⟨q2, fun z => ne (r.sep j i e d a q h (z ▸ q1) ha)⟩, q3, q4.anti anti⟩
  · rcases get_set h1 with ⟨rfl, e1, hl⟩ | ⟨ne1, q1⟩
    · cases e1
    · rcases get_set h2 with ⟨rfl, e2, hl⟩ | ⟨ne2, q2⟩
      · cases e2
      · exact r.sep j k e f b q1 q2 h3 h4
theorem tabs_upd {p : Addr} {o u : HO} (t : LamX.Tabs T H) (h : H p = some o) (h1 : ∀ ps, o ≠ .tbl ps) (h2 : ∀ φ, o ≠ .ext φ) : LamX.Tabs T (L2.upd H p u) := fun q hq => by
  obtain ⟨ps, e, z, f⟩ := t q hq
  refine ⟨ps, ?_, z, fun pos cv hc => ?_⟩
  · rw [upd_ne (fun w => by rw [w, h] at e; exact h1 ps (Option.some.inj e))]
    exact e
  · obtain ⟨c, e1, e2⟩ := f pos cv hc
    refine ⟨c, e1, ?_⟩
    rw [upd_ne (fun w => by rw [w, h] at e2; exact h2 _ (Option.some.inj e2))]
    exact e2
/-- an owned object changes -/
theorem Rep.mutO (r : Rep K T H0 N0 pn H N σ ρ) {i : Nat} {d d' : D} {a : Addr} {o : HO} (h : ρ[i]? = some (.own d)) (ha : σ[i]? = some (some (.ref a))) (ho : ∀ ps, o ≠ .tbl ps)
    (hn : ∀ na : N a, OwnAt K (L2.upd H a o) N a d') : Rep K T H0 N0 pn (L2.upd H a o) N σ (ρ.set i (.own d')) := by
  obtain ⟨a', ha', na, fa, oa⟩ := r.own i d h
  rw [ha] at ha'; cases ha'
  obtain ⟨u, hu, hu1, hu2⟩ := oa.obj
  have hi : i < σ.length := by
    rw [r.len]
    exact (List.getElem?_eq_some_iff.mp h).1
  refine ⟨⟨fun b x hb hx => ?_, fun t => tabs_upd (r.ext.2 t) hu hu1 hu2⟩, tabs_upd r.tabs hu hu1 hu2, r.dom0, fun b n => ?_, r.hid, by simp [r.len], fun j e q => ?_, fun j e q => ?_, fun j k e f b h1 h2 h3 h4 => ?_, fun p hp => (r.pins p hp).mut na⟩
  · have ne : b ≠ a := fa.ne hb hx
    rw [upd_ne ne]
    exact r.ext.1 b x hb hx
  · by_cases e : b = a
    · subst e; exact ⟨o, upd_same, ho⟩
    · rw [upd_ne e]; exact r.dom b n
  · rcases get_set q with ⟨rfl, e1, hl⟩ | ⟨ne, q⟩
    · cases e1
    · obtain ⟨w, q1, q2⟩ := r.dat j e q
      exact ⟨w, q1, q2.mut na⟩
  · rcases get_set q with ⟨rfl, e1, hl⟩ | ⟨ne, q⟩
    · cases e1
      exact ⟨a, ha, na, fa, hn na⟩
    · obtain ⟨w, q1, q2, q3, q4⟩ := r.own j e q
      exact ⟨w, q1, q2, q3, q4.mut na (fun z => ne (r.sep j i e d a q h (z ▸ q1) ha))⟩
  · have own' : ∀ (m : Nat) (x : D), (ρ.set i (.own d'))[m]? = some (.own x) → ∃ y, ρ[m]? = some (.own y) := fun m x q => by
      rcases get_set q with ⟨rfl, e1, hl⟩ | ⟨ne, q⟩
      · exact ⟨d, h⟩
      · exact ⟨x, q⟩
    obtain ⟨x1, q1⟩ := own' j e h1
    obtain ⟨x2, q2⟩ := own' k f h2
    exact r.sep j k x1 x2 b q1 q2 h3 h4
end
/-! ### transformers -/
section
variable (K : PySem.W.Frag) (T : List (Addr × Str)) (W : WX)
def Safe {α : Type} (r : Rs α) (H : Hp) (σ : L2.St) : Prop := r ≠ .bad ∧ ∀ c, r = .exc c → ∀ H', Ext T H H' → W (.ref (He.ga K c)) none σ H'
/-- an expression; R says how its value stands in the heap -/
def trE (R : Hp → Hid → V → D → Prop) (f : En → Rs D) : TE := fun σ H Q => ∃ H0 N0 pn N ρ, Rep K T H0 N0 pn H N σ ρ ∧ Safe K T W (f ρ) H σ ∧ ∀ d, f ρ = .ok d → ∀ v H', Ext T H H' → R H' N v d → Q v H'
abbrev trC : (En → Rs D) → TE := trE K T W (Rp K)
abbrev trO : (En → Rs D) → TE := trE K T W (RpO K)
/-- a test -/
def trB (f : En → Rs D) : TT := fun σ H Q => ∃ H0 N0 pn N ρ, Rep K T H0 N0 pn H N σ ρ ∧ Safe K T W ((f ρ).bind asB) H σ ∧ ∀ b, f ρ = .ok (.bl b) → ∀ H', Ext T H H' → Q b H'
/-- an argument list -/
def trA (f : En → Rs D) : TA := fun σ H Q => ∃ H0 N0 pn N ρ, Rep K T H0 N0 pn H N σ ρ ∧ Safe K T W ((f ρ).bind asL) H σ ∧ ∀ ds, f ρ = .ok (.tup ds) → ∀ vs H', Ext T H H' → RpAll K H' N vs ds → Q vs H'
/-- what an iterator yields, while the pins stand -/
def Wk (J : It) (ps : List (V × D)) (ds : List D) : Prop := ∀ (i : Nat) (H : Hp) (N : Hid), Dom N H → (∀ p ∈ ps, Rp K H N p.1 p.2) →
  (∀ d, ds[i]? = some d → J.go i H ∧ ∀ x H', J.yld i H x H' → Ext T H H' ∧ Rp K H' N x d) ∧ (ds.length ≤ i → J.stop i H)
def trI (f : En → Rs D) : TI := fun σ H R => ∃ H0 N0 pn N ρ, Rep K T H0 N0 pn H N σ ρ ∧ Safe K T W ((f ρ).bind asL) H σ ∧ ∀ ds, f ρ = .ok (.tup ds) → ∀ J ps H', Ext T H H' → (∀ p ∈ ps, Rp K H' N p.1 p.2) → Wk K T J ps ds → R J H'
/-- a new list: nobody else holds it -/
def trF (f : En → Rs D) : TE := fun σ H Q => ∃ H0 N0 pn N ρ, Rep K T H0 N0 pn H N σ ρ ∧ Safe K T W (f ρ) H σ ∧ (∀ d, f ρ = .ok d → ∃ ds, d = .lst ds) ∧ ∀ ds, f ρ = .ok (.lst ds) → ∀ p xs H', NF H p → ¬ N p → Ext T H H' → H' p = some (.lst xs) → RpAll K H' (Nu N p) xs ds → Q (.ref p) H'
/-- a statement -/
def EvS (H0 : Hp) (N0 : Hid) (pn : List (V × D)) (D : Ends) : Out → Prop
  | .nx ρ => ∀ σ H N, Rep K T H0 N0 pn H N σ ρ → D.nx σ H
  | .rt d => ∀ v H, Ext T H0 H → LamX.Tabs T H → Rp K H N0 v d → D.rt v H
  | .xc c ρ => ∀ σ H N, Rep K T H0 N0 pn H N σ ρ → W (.ref (He.ga K c)) none σ H
  | .br ρ => ∀ σ H N, Rep K T H0 N0 pn H N σ ρ → D.bk σ H
  | .ct ρ => ∀ σ H N, Rep K T H0 N0 pn H N σ ρ → D.ct σ H
  | .bad => False
def trS (f : En → Out) : TS := fun D σ H => ∃ H0 N0 pn N ρ, Rep K T H0 N0 pn H N σ ρ ∧ EvS K T W H0 N0 pn D (f ρ)
/-- what a def promises -/
def spOf (F : List D → Rs D) : Sp := fun vs H Q E => ∃ N ds, Dom N H ∧ LamX.Tabs T H ∧ RpAll K H N vs ds ∧ F ds ≠ .bad ∧ (∀ c, F ds = .exc c → ∀ H', Ext T H H' → E (.ref (He.ga K c)) none H') ∧ ∀ d, F ds = .ok d → ∀ v H', Ext T H H' → Rp K H' N v d → Q v H'
end
section
variable {K : PySem.W.Frag} {T : List (Addr × Str)} {W : WX} {α β : Type} {H H' : Hp} {σ : L2.St}
theorem Safe.grow {r : Rs α} (s : Safe K T W r H σ) (e : Ext T H H') : Safe K T W r H' σ := ⟨s.1, fun c h H2 e2 => s.2 c h H2 (e.trans e2)⟩
theorem Safe.left {r : Rs α} {f : α → Rs β} (s : Safe K T W (r.bind f) H σ) : Safe K T W r H σ := by
  cases r with
  | ok a => exact ⟨(fun h => by cases h), (fun c h => by cases h)⟩
  | exc c => exact ⟨(fun h => by cases h), (fun c' h => by cases h; exact s.2 c rfl)⟩
  | bad => exact absurd rfl s.1
theorem Safe.right {r : Rs α} {f : α → Rs β} {a : α} (s : Safe K T W (r.bind f) H σ) (h : r = .ok a) : Safe K T W (f a) H σ := by
  subst h; exact s
theorem Safe.of {o : Option α} (s : Safe K T W (.of o) H σ) : ∃ a, o = some a := by
  cases o with
  | none => exact absurd rfl s.1
  | some a => exact ⟨a, rfl⟩
theorem Safe.asB {d : D} (s : Safe K T W (asB d) H σ) : ∃ b, d = .bl b := by
  cases d <;> first | exact ⟨_, rfl⟩ | exact absurd rfl s.1
theorem Safe.asL {d : D} (s : Safe K T W (asL d) H σ) : ∃ b, d = .tup b := by
  cases d <;> first | exact ⟨_, rfl⟩ | exact absurd rfl s.1
theorem Safe.asI {d : D} (s : Safe K T W (asI d) H σ) : ∃ b, d = .int b := by
  cases d <;> first | exact ⟨_, rfl⟩ | exact absurd rfl s.1
theorem Safe.asLst {d : D} (s : Safe K T W (asLst d) H σ) : ∃ b, d = .lst b := by
  cases d <;> first | exact ⟨_, rfl⟩ | exact absurd rfl s.1
end
end DN

set_option Elab.async false
set_option linter.all false
set_option maxRecDepth 100000
namespace DN
open PySem PySem.Spec PyProof.Rows L2
/-! ### weaker wants -/
section
variable {X : Cx}
theorem impE {e : Expr} {t t' : TE} (h : PE X e t) (i : ∀ σ H Q, t' σ H Q → t σ H Q) : PE X e t' := ⟨fun pins s σ H Q I q => h.run pins s σ H Q I (i σ H Q q)⟩
theorem impT {e : Expr} {t t' : TT} (h : PT X e t) (i : ∀ σ H Q, t' σ H Q → t σ H Q) : PT X e t' := ⟨fun pins s σ H Q I q => h.run pins s σ H Q I (i σ H Q q)⟩
theorem impW {e : Expr} {t t' : TT} (h : PW X e t) (i : ∀ σ H Q, t' σ H Q → t σ H Q) : PW X e t' := ⟨fun whole pins s σ H Q I q => h.run whole pins s σ H Q I (i σ H Q q)⟩
theorem impA {e : List Expr} {t t' : TA} (h : PA X e t) (i : ∀ σ H Q, t' σ H Q → t σ H Q) : PA X e t' := ⟨fun pos pins s σ H Q I q => h.run pos pins s σ H Q I (i σ H Q q)⟩
theorem impS {e : Stmt} {t t' : TS} (h : PS X e t) (i : ∀ D σ H, t' D σ H → t D σ H) : PS X e t' := ⟨fun pins s σ H D I q => h.run pins s σ H D I (i D σ H q)⟩
theorem impSs {e : List Stmt} {t t' : TS} (h : PSs X e t) (i : ∀ D σ H, t' D σ H → t D σ H) : PSs X e t' := ⟨fun pins s σ H D I q => h.run pins s σ H D I (i D σ H q)⟩
end
section
variable {X : Cx} {T : List (Addr × Str)} {W : WX} {pos : Pos}
/-! ### names, constants -/
theorem xe_var {i : Nat} {x : Str} (hN : X.N[i]? = some x) (hv : Vis X.env.scope x) (hd : (x == ("__debug__" : Str)) = false) (hcd : (x == ("__classdict__" : Str)) = false) : PE X (.Name x pos) (trC X.K T W fun ρ => getC ρ i) := by
  refine impE (pe_var hN hv hd hcd) fun σ H Q h => ?_
  obtain ⟨H0, N0, pn, N, ρ, rep, s, k⟩ := h
  dsimp only [getC] at s k
  cases e : ρ[i]? with
  | none => rw [e] at s; exact absurd rfl s.1
  | some z =>
    rw [e] at s k
    cases z with
    | dat d =>
      obtain ⟨v, h1, h2⟩ := rep.dat i d e
      exact ⟨v, h1, k d rfl v H (Ext.refl H) h2⟩
    | own d => exact absurd rfl s.1
    | no => exact absurd rfl s.1
theorem xo_var {i : Nat} {x : Str} (hN : X.N[i]? = some x) (hv : Vis X.env.scope x) (hd : (x == ("__debug__" : Str)) = false) (hcd : (x == ("__classdict__" : Str)) = false) : PE X (.Name x pos) (trO X.K T W fun ρ => getO ρ i) := by
  refine impE (pe_var hN hv hd hcd) fun σ H Q h => ?_
  obtain ⟨H0, N0, pn, N, ρ, rep, s, k⟩ := h
  dsimp only [getO] at s k
  cases e : ρ[i]? with
  | none => rw [e] at s; exact absurd rfl s.1
  | some z =>
    rw [e] at s k
    cases z with
    | dat d =>
      obtain ⟨v, h1, h2⟩ := rep.dat i d e
      exact ⟨v, h1, k d rfl v H (Ext.refl H) (.of h2)⟩
    | own d =>
      obtain ⟨a, h1, h2, h3, h4⟩ := rep.own i d e
      refine ⟨.ref a, h1, k d rfl _ H (Ext.refl H) ?_⟩
      cases h4 with
      | lst q1 q2 => exact .lst q1 q2
      | dct q1 q2 => exact .dct q1 q2
    | no => exact absurd rfl s.1
theorem xo_of {e : Expr} {f : En → Rs D} (h : PE X e (trC X.K T W f)) : PE X e (trO X.K T W f) := by
  refine impE h fun σ H Q h => ?_
  obtain ⟨H0, N0, pn, N, ρ, rep, s, k⟩ := h
  exact ⟨H0, N0, pn, N, ρ, rep, s, fun d e v H' x r => k d e v H' x (.of r)⟩
/-- a constant -/
theorem xe_const {e : Expr} {v : V} {d : D} (h : PE X e (tC v)) (r : ∀ H N, Rp X.K H N v d) : PE X e (trC X.K T W fun _ => .ok d) := by
  refine impE h fun σ H Q h => ?_
  obtain ⟨H0, N0, pn, N, ρ, rep, s, k⟩ := h
  exact k d rfl v H (Ext.refl H) (r H N)
/-! ### two operands, one behind another -/
theorem two {fa fb : En → Rs D} {ta tb : TE} {R R' : Hp → Hid → V → D → Prop} {β : Type} {g : D → D → Rs β} {σ : L2.St} {H : Hp} {P : V → V → Hp → Prop} {H0 : Hp} {N0 : Hid} {pn : List (V × D)} {N : Hid} {ρ : En}
    (mono : ∀ {H H' : Hp} {v : V} {d : D}, Ext T H H' → R H N v d → R H' N v d)
    (ha : trE X.K T W R fa = ta) (hb : trE X.K T W R' fb = tb) (rep : Rep X.K T H0 N0 pn H N σ ρ) (s : Safe X.K T W ((fa ρ).bind fun x => (fb ρ).bind fun y => g x y) H σ)
    (k : ∀ x y v w H2, fa ρ = .ok x → fb ρ = .ok y → Ext T H H2 → R H2 N v x → R' H2 N w y → Safe X.K T W (g x y) H2 σ → P v w H2) : ta σ H fun v H1 => tb σ H1 fun w H2 => P v w H2 := by
  subst ha hb
  refine ⟨H0, N0, pn, N, ρ, rep, s.left, fun x ex v H1 e1 r1 => ?_⟩
  have s2 := (s.right ex).grow e1
  refine ⟨H0, N0, pn, N, ρ, rep.grow e1, s2.left, fun y ey w H2 e2 r2 => ?_⟩
  exact k x y v w H2 ex ey (e1.trans e2) (mono e2 r1) r2 ((s2.right ey).grow e2)
theorem x_bin {a b : Expr} {fa fb : En → Rs D} (op : Bop) (ha : PE X a (trO X.K T W fa)) (hb : PE X b (trO X.K T W fb)) :
    PE X (.BinOp a op.op b pos) (trC X.K T W fun ρ => (fa ρ).bind fun x => (fb ρ).bind fun y => .of (binSem op x y)) := by
  refine impE (pe_op (bin_ok (T := T) op) ha hb) fun σ H Q h => ?_
  obtain ⟨H0, N0, pn, N, ρ, rep, s, k⟩ := h
  refine two (fun e r => e.rpo r) rfl rfl rep s fun x y v w H2 ex ey e2 r1 r2 s2 => ?_
  obtain ⟨d, ed⟩ := s2.of
  refine ⟨N, x, y, d, rep.dom.ext e2, r1, r2, ed, fun v H' e3 r3 => k d ?_ v H' (e2.trans e3) r3⟩
  dsimp only
  rw [ex, ey, Rs.bind_ok, Rs.bind_ok, ed]
  rfl
theorem x_ix {a b : Expr} {fa fb : En → Rs D} (hu : X.A.units + 64 < cLine) (ha : PE X a (trO X.K T W fa)) (hb : PE X b (trO X.K T W fb)) (hs : PlainIx b) :
    PE X (.Subscript a b pos) (trC X.K T W fun ρ => (fa ρ).bind fun x => (fb ρ).bind fun y => .of (ixSem x y)) := by
  refine impE (pe_ix (ix_ok (T := T) (by omega)) ha hb hs) fun σ H Q h => ?_
  obtain ⟨H0, N0, pn, N, ρ, rep, s, k⟩ := h
  refine two (fun e r => e.rpo r) rfl rfl rep s fun x y v w H2 ex ey e2 r1 r2 s2 => ?_
  obtain ⟨d, ed⟩ := s2.of
  refine ⟨N, x, y, d, rep.dom.ext e2, r1, r2, ed, fun v H' e3 r3 => k d ?_ v H' (e2.trans e3) r3⟩
  dsimp only
  rw [ex, ey, Rs.bind_ok, Rs.bind_ok, ed]
  rfl
def cmpF (op : Cop) (fa fb : En → Rs D) : En → Rs D := fun ρ => (fa ρ).bind fun x => (fb ρ).bind fun y => (Rs.of (cmpSem op x y)).bind fun b => .ok (.bl b)
theorem cmp_run {op : Cop} {fa fb : En → Rs D} {σ : L2.St} {H : Hp} {P : V → Hp → Prop} {H0 : Hp} {N0 : Hid} {pn : List (V × D)} {N : Hid} {ρ : En} (rep : Rep X.K T H0 N0 pn H N σ ρ) (s : Safe X.K T W (cmpF op fa fb ρ) H σ)
    (k : ∀ b H', cmpF op fa fb ρ = .ok (.bl b) → Ext T H H' → P (.bl b) H') : tOp (r2B X.K (cmpSem op)) (trO X.K T W fa) (trO X.K T W fb) σ H P := by
  refine two (fun e r => e.rpo r) rfl rfl rep s fun x y v w H2 ex ey e2 r1 r2 s2 => ?_
  obtain ⟨d, ed⟩ := s2.left.of
  refine ⟨N, x, y, d, r1, r2, ed, k d H2 ?_ e2⟩
  unfold cmpF
  rw [ex, ey, Rs.bind_ok, Rs.bind_ok, ed]
  rfl
theorem x_cmp {a b : Expr} {fa fb : En → Rs D} (hu : X.A.units + 64 < cLine) (op : Cop) (ha : PE X a (trO X.K T W fa)) (hb : PE X b (trO X.K T W fb)) (hm : behindInMarks op.op b = false) : PE X (.Compare a [op.op] [b] pos) (trC X.K T W (cmpF op fa fb)) := by
  refine impE (pe_cmpR (cmp_ok hu op) ha hb hm) fun σ H Q h => ?_
  obtain ⟨H0, N0, pn, N, ρ, rep, s, k⟩ := h
  exact cmp_run rep s fun b H' e x => k _ e _ H' x (.bl b)
/-- from a value's reading to a test's -/
theorem safe_bool {f : Rs D} {H : Hp} {σ : L2.St} (s : Safe X.K T W (f.bind asB) H σ) : Safe X.K T W f H σ := s.left
theorem x_cmpT {a b : Expr} {fa fb : En → Rs D} (hu : X.A.units + 64 < cLine) (op : Cop) (ha : PE X a (trO X.K T W fa)) (hb : PE X b (trO X.K T W fb)) (hm : behindInMarks op.op b = false) : PT X (.Compare a [op.op] [b] pos) (trB X.K T W (cmpF op fa fb)) := by
  refine impT (pt_cmpR (cmp_ok hu op) ha hb hm) fun σ H Q h => ?_
  obtain ⟨H0, N0, pn, N, ρ, rep, s, k⟩ := h
  exact cmp_run rep s.left fun b H' e x => ⟨b, rfl, k b e H' x⟩
def chF (o1 o2 : Cop) (fa fb fc : En → Rs D) : En → Rs D := fun ρ => (fa ρ).bind fun x => (fb ρ).bind fun y => (Rs.of (cmpSem o1 x y)).bind fun k =>
      if k then (fc ρ).bind fun z => (Rs.of (cmpSem o2 y z)).bind fun b => .ok (.bl b) else .ok (.bl false)
theorem chain_run {o1 o2 : Cop} {fa fb fc : En → Rs D} {σ : L2.St} {H : Hp} {P : V → Hp → Prop} {H0 : Hp} {N0 : Hid} {pn : List (V × D)} {N : Hid} {ρ : En} (rep : Rep X.K T H0 N0 pn H N σ ρ) (s : Safe X.K T W (chF o1 o2 fa fb fc ρ) H σ)
    (k : ∀ b H', chF o1 o2 fa fb fc ρ = .ok (.bl b) → Ext T H H' → P (.bl b) H') : tChain (r2B X.K (cmpSem o1)) (r2B X.K (cmpSem o2)) (trO X.K T W fa) (trO X.K T W fb) (trO X.K T W fc) σ H P := by
  refine two (fun e r => e.rpo r) rfl rfl rep s fun x y v w H2 ex ey e2 r1 r2 s2 => ?_
  obtain ⟨d, ed⟩ := s2.left.of
  refine ⟨N, x, y, d, r1, r2, ed, d, rfl, ?_⟩
  rw [ed, Rs.of_some, Rs.bind_ok] at s2
  have eq : ∀ r, (if d then (fc ρ).bind fun z => (Rs.of (cmpSem o2 y z)).bind fun b => .ok (.bl b) else .ok (.bl false)) = r → chF o1 o2 fa fb fc ρ = r := fun r h => by
    unfold chF
    rw [ex, ey, Rs.bind_ok, Rs.bind_ok, ed]
    exact h
  cases d with
  | false => exact iteF (k false H2 (eq _ rfl) e2)
  | true =>
    refine iteT ⟨H0, N0, pn, N, ρ, rep.grow e2, s2.left, fun z ez u H3 e3 r3 => ?_⟩
    have s3 := (s2.right ez).left
    obtain ⟨b, eb⟩ := s3.of
    refine ⟨N, y, z, b, e3.rpo r2, r3, eb, k b H3 (eq _ ?_) (e2.trans e3)⟩
    simp only [if_true, ez, Rs.bind_ok, eb, Rs.of_some]
theorem lastM {op op' : CmpOp} {b c : Expr} (h : behindInMarks op' c = false) : lastMarks [op, op'] [b, c] = false := by
  unfold lastMarks
  simpa [lastMarks] using h
theorem x_chain {a b c : Expr} {fa fb fc : En → Rs D} (hu : X.A.units + 64 < cLine) (o1 o2 : Cop) (ha : PE X a (trO X.K T W fa)) (hb : PE X b (trO X.K T W fb)) (hc : PE X c (trO X.K T W fc)) (hm : behindInMarks o2.op c = false) :
    PE X (.Compare a [o1.op, o2.op] [b, c] pos) (trC X.K T W (chF o1 o2 fa fb fc)) := by
  refine impE (pe_chain (cmp_ok hu o1) (cmp_ok hu o2) ha hb hc (lastM hm)) fun σ H Q h => ?_
  obtain ⟨H0, N0, pn, N, ρ, rep, s, k⟩ := h
  exact chain_run rep s fun b H' e x => k _ e _ H' x (.bl b)
theorem x_chainT {a b c : Expr} {fa fb fc : En → Rs D} (hu : X.A.units + 64 < cLine) (o1 o2 : Cop) (ha : PE X a (trO X.K T W fa)) (hb : PE X b (trO X.K T W fb)) (hc : PE X c (trO X.K T W fc)) (hm : behindInMarks o2.op c = false) :
    PT X (.Compare a [o1.op, o2.op] [b, c] pos) (trB X.K T W (chF o1 o2 fa fb fc)) := by
  refine impT (pt_chain (cmp_ok hu o1) (cmp_ok hu o2) ha hb hc (lastM hm)) fun σ H Q h => ?_
  obtain ⟨H0, N0, pn, N, ρ, rep, s, k⟩ := h
  exact chain_run rep s.left fun b H' e x => ⟨b, rfl, k b e H' x⟩
/-! ### and, or, not, if -/
theorem boolE {f : En → Rs D} {σ : L2.St} {H : Hp} {H0 : Hp} {N0 : Hid} {pn : List (V × D)} {N : Hid} {ρ : En} {β : Type} {g : Bool → Rs β} {P : V → Hp → Prop} (rep : Rep X.K T H0 N0 pn H N σ ρ)
    (s : Safe X.K T W ((f ρ).bind fun x => (asB x).bind g) H σ) (k : ∀ b H', f ρ = .ok (.bl b) → Ext T H H' → Safe X.K T W (g b) H' σ → P (.bl b) H') : trC X.K T W f σ H P := by
  refine ⟨H0, N0, pn, N, ρ, rep, s.left, fun x ex v H1 e1 r1 => ?_⟩
  have s2 := s.right ex
  obtain ⟨b, rfl⟩ := s2.left.asB
  cases r1
  exact k b H1 ex e1 ((s2.right rfl).grow e1)
theorem boolT {f : En → Rs D} {σ : L2.St} {H : Hp} {H0 : Hp} {N0 : Hid} {pn : List (V × D)} {N : Hid} {ρ : En} {β : Type} {g : Bool → Rs β} {P : Bool → Hp → Prop} (rep : Rep X.K T H0 N0 pn H N σ ρ)
    (s : Safe X.K T W ((f ρ).bind fun x => (asB x).bind g) H σ) (k : ∀ b H', f ρ = .ok (.bl b) → Ext T H H' → Safe X.K T W (g b) H' σ → P b H') : trB X.K T W f σ H P := by
  refine ⟨H0, N0, pn, N, ρ, rep, ⟨fun h => ?_, fun c h => ?_⟩, fun b eb H' x => ?_⟩
  · cases e : f ρ with
    | ok d =>
      rw [e] at s h
      obtain ⟨b, rfl⟩ := (s.right rfl).left.asB
      cases h
    | exc c => rw [e] at h; cases h
    | bad => rw [e] at s; exact s.1 rfl
  · cases e : f ρ with
    | ok d =>
      rw [e] at s h
      obtain ⟨b, rfl⟩ := (s.right rfl).left.asB
      cases h
    | exc c' =>
      rw [e] at s h
      cases h
      exact s.2 c rfl
    | bad => rw [e] at h; cases h
  · exact k b H' eb x (((s.right eb).right rfl).grow x)
def andF (fa fb : En → Rs D) : En → Rs D := fun ρ => (fa ρ).bind fun x => (asB x).bind fun k => if k then fb ρ else .ok (.bl false)
def orF (fa fb : En → Rs D) : En → Rs D := fun ρ => (fa ρ).bind fun x => (asB x).bind fun k => if k then .ok (.bl true) else fb ρ
def notF (fa : En → Rs D) : En → Rs D := fun ρ => (fa ρ).bind fun x => (asB x).bind fun k => .ok (.bl (!k))
def ifF (ft fa fb : En → Rs D) : En → Rs D := fun ρ => (ft ρ).bind fun x => (asB x).bind fun k => if k then fa ρ else fb ρ
variable {a b c : Expr} {rest : List Expr} {fa fb fc : En → Rs D}
theorem x_and (ha : PE X a (trC X.K T W fa)) (hb : PE X (.BoolOp .And (b :: rest) pos) (trC X.K T W fb)) : PE X (.BoolOp .And (a :: b :: rest) pos) (trC X.K T W (andF fa fb)) := by
  refine impE (pe_and ha hb) fun σ H Q h => ?_
  obtain ⟨H0, N0, pn, N, ρ, rep, s, k⟩ := h
  refine boolE rep s fun c H1 ec e1 s1 => ⟨c, rfl, ?_⟩
  have eq : ∀ r, (if c then fb ρ else .ok (.bl false)) = r → andF fa fb ρ = r := fun r h => by
    unfold andF
    rw [ec]
    exact h
  cases c with
  | false => exact iteF (k _ (eq _ rfl) _ H1 e1 (.bl _))
  | true => exact iteT ⟨H0, N0, pn, N, ρ, rep.grow e1, s1, fun d ed v H2 e2 r2 => k d (eq _ ed) v H2 (e1.trans e2) r2⟩
theorem x_or (ha : PE X a (trC X.K T W fa)) (hb : PE X (.BoolOp .Or (b :: rest) pos) (trC X.K T W fb)) : PE X (.BoolOp .Or (a :: b :: rest) pos) (trC X.K T W (orF fa fb)) := by
  refine impE (pe_or ha hb) fun σ H Q h => ?_
  obtain ⟨H0, N0, pn, N, ρ, rep, s, k⟩ := h
  refine boolE rep s fun c H1 ec e1 s1 => ⟨c, rfl, ?_⟩
  have eq : ∀ r, (if c then .ok (.bl true) else fb ρ) = r → orF fa fb ρ = r := fun r h => by
    unfold orF
    rw [ec]
    exact h
  cases c with
  | true => exact iteT (k _ (eq _ rfl) _ H1 e1 (.bl _))
  | false => exact iteF ⟨H0, N0, pn, N, ρ, rep.grow e1, s1, fun d ed v H2 e2 r2 => k d (eq _ ed) v H2 (e1.trans e2) r2⟩
theorem x_not (ha : PE X a (trC X.K T W fa)) : PE X (.UnaryOp .Not a pos) (trC X.K T W (notF fa)) := by
  refine impE (pe_not ha) fun σ H Q h => ?_
  obtain ⟨H0, N0, pn, N, ρ, rep, s, k⟩ := h
  refine boolE rep s fun c H1 ec e1 s1 => ⟨c, rfl, k _ ?_ _ H1 e1 (.bl _)⟩
  unfold notF
  rw [ec]
  rfl
/-- the bool behind a test -/
theorem safe_tail {f : En → Rs D} {g : Bool → Rs D} {H : Hp} {σ : L2.St} {ρ : En} (s : Safe X.K T W (((f ρ).bind fun x => (asB x).bind g).bind asB) H σ) : Safe X.K T W ((f ρ).bind fun x => (asB x).bind fun k => (g k).bind asB) H σ := by
  cases e : f ρ with
  | ok d =>
    rw [e] at s
    cases d <;> exact s
  | exc c => rw [e] at s; exact s
  | bad => rw [e] at s; exact s
theorem x_andT (ha : PT X a (trB X.K T W fa)) (hb : PW X (.BoolOp .And (b :: rest) pos) (trB X.K T W fb)) : PW X (.BoolOp .And (a :: b :: rest) pos) (trB X.K T W (andF fa fb)) := by
  refine impW (pw_and ha hb) fun σ H Q h => ?_
  obtain ⟨H0, N0, pn, N, ρ, rep, s, k⟩ := h
  refine boolT rep (safe_tail s) fun c H1 ec e1 s1 => ?_
  have eq : ∀ r, (if c then fb ρ else .ok (.bl false)) = r → andF fa fb ρ = r := fun r h => by
    unfold andF
    rw [ec]
    exact h
  cases c with
  | false => exact iteF (k _ (eq _ rfl) H1 e1)
  | true => exact iteT ⟨H0, N0, pn, N, ρ, rep.grow e1, s1, fun d ed H2 e2 => k d (eq _ ed) H2 (e1.trans e2)⟩
theorem x_orT (ha : PT X a (trB X.K T W fa)) (hb : PW X (.BoolOp .Or (b :: rest) pos) (trB X.K T W fb)) : PW X (.BoolOp .Or (a :: b :: rest) pos) (trB X.K T W (orF fa fb)) := by
  refine impW (pw_or ha hb) fun σ H Q h => ?_
  obtain ⟨H0, N0, pn, N, ρ, rep, s, k⟩ := h
  refine boolT rep (safe_tail s) fun c H1 ec e1 s1 => ?_
  have eq : ∀ r, (if c then .ok (.bl true) else fb ρ) = r → orF fa fb ρ = r := fun r h => by
    unfold orF
    rw [ec]
    exact h
  cases c with
  | true => exact iteT (k _ (eq _ rfl) H1 e1)
  | false => exact iteF ⟨H0, N0, pn, N, ρ, rep.grow e1, s1, fun d ed H2 e2 => k d (eq _ ed) H2 (e1.trans e2)⟩
theorem x_notT (ha : PT X a (trB X.K T W fa)) : PT X (.UnaryOp .Not a pos) (trB X.K T W (notF fa)) := by
  refine impT (pt_not ha) fun σ H Q h => ?_
  obtain ⟨H0, N0, pn, N, ρ, rep, s, k⟩ := h
  refine boolT rep (safe_tail s) fun c H1 ec e1 s1 => k _ ?_ H1 e1
  unfold notF
  rw [ec]
  rfl
theorem x_valT {e : Expr} (h : PE X e (trC X.K T W fa)) (he : ∀ whole, isTrue e X.env whole = (do let v ← whole; standAt e.pos; holding [v] (truthy v))) : PT X e (trB X.K T W fa) := by
  refine impT (pt_val h he) fun σ H Q h => ?_
  obtain ⟨H0, N0, pn, N, ρ, rep, s, k⟩ := h
  refine ⟨H0, N0, pn, N, ρ, rep, s.left, fun d ed v H' x r => ?_⟩
  have s2 := s.right ed
  obtain ⟨b, rfl⟩ := s2.asB
  cases r
  exact ⟨b, rfl, k b ed H' x⟩
theorem x_if (hc : PT X c (trB X.K T W fc)) (ha : PE X a (trC X.K T W fa)) (hb : PE X b (trC X.K T W fb)) : PE X (.IfExp c a b pos) (trC X.K T W (ifF fc fa fb)) := by
  refine impE (pe_ifExp hc ha hb) fun σ H Q h => ?_
  obtain ⟨H0, N0, pn, N, ρ, rep, s, k⟩ := h
  refine boolT rep s fun c H1 ec e1 s1 => ?_
  have eq : ∀ r, (if c then fa ρ else fb ρ) = r → ifF fc fa fb ρ = r := fun r h => by
    unfold ifF
    rw [ec]
    exact h
  cases c with
  | true => exact iteT ⟨H0, N0, pn, N, ρ, rep.grow e1, s1, fun d ed v H2 e2 r2 => k d (eq _ ed) v H2 (e1.trans e2) r2⟩
  | false => exact iteF ⟨H0, N0, pn, N, ρ, rep.grow e1, s1, fun d ed v H2 e2 r2 => k d (eq _ ed) v H2 (e1.trans e2) r2⟩
theorem x_neg (ha : PE X a (trC X.K T W fa)) : PE X (.UnaryOp .USub a pos) (trC X.K T W fun ρ => (fa ρ).bind fun x => (asI x).bind fun i => .ok (.int (-i))) := by
  refine impE (pe_un un_neg ha) fun σ H Q h => ?_
  obtain ⟨H0, N0, pn, N, ρ, rep, s, k⟩ := h
  refine ⟨H0, N0, pn, N, ρ, rep, s.left, fun x ex v H1 e1 r1 => ?_⟩
  obtain ⟨i, rfl⟩ := (s.right ex).left.asI
  cases r1
  refine ⟨i, rfl, k _ ?_ _ H1 e1 (.int _)⟩
  dsimp only
  rw [ex]
  rfl
end
end DN

set_option Elab.async false
set_option linter.all false
set_option maxRecDepth 100000
namespace DN
open PySem PySem.Spec PyProof.Rows L2
section
variable {X : Cx} {T : List (Addr × Str)} {W : WX} {pos : Pos} {e a b c : Expr} {es : List Expr} {f fa fb fc fr : En → Rs D}
/-! ### argument lists, displays -/
def consF (fa fr : En → Rs D) : En → Rs D := fun ρ => (fa ρ).bind fun x => (fr ρ).bind fun y => (asL y).bind fun ds => .ok (.tup (x :: ds))
theorem x_nil : PA X [] (trA X.K T W fun _ => .ok (.tup [])) := by
  refine impA pa_nil fun σ H Q h => ?_
  obtain ⟨H0, N0, pn, N, ρ, rep, s, k⟩ := h
  exact k [] rfl [] H (Ext.refl H) .nil
theorem x_cons (ha : PE X e (trC X.K T W fa)) (hr : PA X es (trA X.K T W fr)) (hs : starEach (e :: es) X.env = (false, eval e X.env) :: starEach es X.env) : PA X (e :: es) (trA X.K T W (consF fa fr)) := by
  refine impA (pa_cons ha hr hs) fun σ H Q h => ?_
  obtain ⟨H0, N0, pn, N, ρ, rep, s, k⟩ := h
  have s0 := s.left
  unfold consF at s0
  refine ⟨H0, N0, pn, N, ρ, rep, s0.left, fun x ex v H1 e1 r1 => ?_⟩
  have s1 := (s0.right ex).grow e1
  have s2 : Safe X.K T W ((fr ρ).bind asL) H1 σ := by
    cases q : fr ρ with
    | ok d =>
      have := (s1.right q).left
      obtain ⟨ds, rfl⟩ := this.asL
      exact this
    | exc c => rw [q] at s1; exact ⟨(fun h => by cases h), (fun c' h => by cases h; exact s1.2 c rfl)⟩
    | bad => rw [q] at s1; exact absurd rfl s1.1
  refine ⟨H0, N0, pn, N, ρ, rep.grow e1, s2, fun ds eds vs H2 e2 r2 => k (x :: ds) ?_ (v :: vs) H2 (e1.trans e2) (.cons (e2.rp r1) r2)⟩
  unfold consF
  rw [ex, eds]
  rfl
def tupF (f : En → Rs D) : En → Rs D := fun ρ => (f ρ).bind fun y => (asL y).bind fun ds => if ds.length ≤ szL then .ok (.tup ds) else .bad
def lstF (f : En → Rs D) : En → Rs D := fun ρ => (f ρ).bind fun y => (asL y).bind fun ds => if ds.length ≤ szL then .ok (.lst ds) else .bad
/-- an argument list within more -/
theorem argsR {g : List D → Rs D} {σ : L2.St} {H : Hp} {H0 : Hp} {N0 : Hid} {pn : List (V × D)} {N : Hid} {ρ : En} {P : List V → Hp → Prop} (rep : Rep X.K T H0 N0 pn H N σ ρ) (s : Safe X.K T W ((f ρ).bind fun y => (asL y).bind g) H σ)
    (k : ∀ ds vs H', f ρ = .ok (.tup ds) → Ext T H H' → RpAll X.K H' N vs ds → Safe X.K T W (g ds) H' σ → P vs H') : trA X.K T W f σ H P := by
  refine ⟨H0, N0, pn, N, ρ, rep, ?_, fun ds eds vs H' x r => k ds vs H' eds x r (((s.right eds).right rfl).grow x)⟩
  cases q : f ρ with
  | ok d =>
    have := (s.right q).left
    obtain ⟨ds, rfl⟩ := this.asL
    exact this
  | exc c => rw [q] at s; exact ⟨(fun h => by cases h), (fun c' h => by cases h; exact s.2 c rfl)⟩
  | bad => rw [q] at s; exact absurd rfl s.1
theorem x_tup {x1} (h : PA X es (trA X.K T W f)) : PE X (.Tuple es x1 pos) (trC X.K T W (tupF f)) := by
  refine impE (pe_tup h) fun σ H Q h => ?_
  obtain ⟨H0, N0, pn, N, ρ, rep, s, k⟩ := h
  refine argsR rep s fun ds vs H1 ed e1 r1 s1 => ?_
  have hl : ds.length ≤ szL := by
    apply Decidable.byContradiction
    intro h
    rw [if_neg h] at s1
    exact s1.1 rfl
  refine ⟨by rw [r1.length, szL_eq]; exact hl, fun p hp => k _ ?_ _ _ (e1.trans (Ext.new hp)) (Rp.newT (rep.dom.ext e1) hp r1)⟩
  unfold tupF
  rw [ed]
  show (if ds.length ≤ szL then Rs.ok (D.tup ds) else .bad) = _
  rw [if_pos hl]
theorem x_lst (h : PA X es (trA X.K T W f)) : PE X (.List es pos) (trC X.K T W (lstF f)) := by
  refine impE (pe_lst h) fun σ H Q h => ?_
  obtain ⟨H0, N0, pn, N, ρ, rep, s, k⟩ := h
  refine argsR rep s fun ds vs H1 ed e1 r1 s1 => ?_
  have hl : ds.length ≤ szL := by
    apply Decidable.byContradiction
    intro h
    rw [if_neg h] at s1
    exact s1.1 rfl
  refine ⟨by rw [r1.length, szL_eq]; exact hl, fun p hp => k _ ?_ _ _ (e1.trans (Ext.new hp)) (Rp.newL (rep.dom.ext e1) hp r1)⟩
  unfold lstF
  rw [ed]
  show (if ds.length ≤ szL then Rs.ok (D.lst ds) else .bad) = _
  rw [if_pos hl]
/-- how a new list lies, for whoever owns it -/
theorem newF {H H1 : Hp} {N : Hid} {p : Addr} {xs : List V} {ds : List D} (dom : Dom N H1) (e1 : Ext T H H1) (hp : H1 p = none) (r : RpAll X.K H1 N xs ds) :
    NF H p ∧ ¬ N p ∧ Ext T H (upd H1 p (.lst xs)) ∧ upd H1 p (.lst xs) p = some (.lst xs) ∧ RpAll X.K (upd H1 p (.lst xs)) (Nu N p) xs ds :=
  ⟨NF.back e1.1 (NF.of hp), dom.free hp, e1.trans (Ext.new hp), upd_same, (Ext.new (T := T) hp).rps (r.hide (NF.of hp))⟩
theorem xf_lst (h : PA X es (trA X.K T W f)) : PE X (.List es pos) (trF X.K T W (lstF f)) := by
  refine impE (pe_lst h) fun σ H Q h => ?_
  obtain ⟨H0, N0, pn, N, ρ, rep, s, _, k⟩ := h
  refine argsR rep s fun ds vs H1 ed e1 r1 s1 => ?_
  have hl : ds.length ≤ szL := by
    apply Decidable.byContradiction
    intro h
    rw [if_neg h] at s1
    exact s1.1 rfl
  refine ⟨by rw [r1.length, szL_eq]; exact hl, fun p hp => ?_⟩
  obtain ⟨z1, z2, z3, z4, z5⟩ := newF (rep.dom.ext e1) e1 hp r1
  refine k ds ?_ p vs _ z1 z2 z3 z4 z5
  unfold lstF
  rw [ed]
  show (if ds.length ≤ szL then Rs.ok (D.lst ds) else .bad) = _
  rw [if_pos hl]
/-! ### calls -/
def callG (F : List D → Rs D) (f : En → Rs D) : En → Rs D := fun ρ => (f ρ).bind fun y => (asL y).bind fun ds => F ds
theorem x_call {x : Str} {p : Pos} {g : Addr} {fd : FuncData} {ps : List Str} {k : Nat} {F : List D → Rs D} (tk : L2N.Takes X W) (G : FnOk X.prog X.w X.K X.mg X.base (L2N.CX X.prog X.w) k g fd ps (spOf X.K T F)) (hr : Room k X.A) (hg : Gl X x)
    (hm : X.mg x = some (.ref g)) (hk : PySem.W.keepIn X.K (.ref g) = true) (hb : Binds X.K fd ps []) (h : PA X (e :: es) (trA X.K T W f)) (hdb : (x == ("__debug__" : Str)) = false)
    (he : starEach (e :: es) X.env = (false, eval e X.env) :: starEach es X.env) (hpl : (backTo pos (starEach es X.env)).any (·.1) = false) : PE X (.Call (.Name x p) (e :: es) [] pos) (trC X.K T W (callG F f)) := by
  refine impE (pe_callS G hr hg hm hk hb (fun σ => L2N.passAt tk σ) h hdb he hpl) fun σ H Q h => ?_
  obtain ⟨H0, N0, pn, N, ρ, rep, s, k⟩ := h
  refine argsR rep s fun ds vs H1 ed e1 r1 s1 => ?_
  refine ⟨N, ds, rep.dom.ext e1, e1.2 rep.tabs, r1, s1.1, s1.2, fun d q v H2 e2 r2 => k d ?_ v H2 (e1.trans e2) r2⟩
  unfold callG
  rw [ed]
  exact q
theorem x_call0 {x : Str} {p : Pos} {g : Addr} {fd : FuncData} {k : Nat} {ps : List Str} {F : List D → Rs D} (tk : L2N.Takes X W) (G : FnOk X.prog X.w X.K X.mg X.base (L2N.CX X.prog X.w) k g fd ps (spOf X.K T F)) (hr : Room k X.A) (hg : Gl X x)
    (hm : X.mg x = some (.ref g)) (hk : PySem.W.keepIn X.K (.ref g) = true) (hb : Binds X.K fd ps []) (hdb : (x == ("__debug__" : Str)) = false) : PE X (.Call (.Name x p) [] [] pos) (trC X.K T W fun ρ => F []) := by
  refine ⟨fun pins s σ H Q I h => ?_⟩
  obtain ⟨H0, N0, pn, N, ρ, rep, s1, k2⟩ := h
  refine wpAny_Call_Name_kw (ld_glob I hg hm ?_ hdb)
  exact PySem.W.callWith_K0 I.kIn hk (run_fnS (us := []) (vs := []) (E := fun σ => WE W σ) G hr hb (L2N.passAt tk σ) I .nil ⟨N, [], rep.dom, rep.tabs, .nil, s1.1, s1.2, fun d q v H2 e2 r2 => k2 d q v H2 e2 r2⟩)
theorem up_ok {X : Cx} {T : List (Addr × Str)} : MtR X "str.upper" (fun x xs H Q => ∃ N dx d, xs = [] ∧ RpO X.K H N x dx ∧ upSem dx = some d ∧ Giv X.K T N H d Q) := by
  intro pins s σ H x xs v us Q I rx rs h
  obtain ⟨N, dx, d, rfl, hx, e, g⟩ := h
  cases rs
  cases dx <;> simp only [upSem, reduceCtorEq] at e
  split at e
  · rename_i l hl
    cases e
    obtain ⟨ex, cx, lx⟩ := hx.str
    subst ex
    obtain ⟨t, rfl⟩ := rx
    have e1 : Txt.upper ⟨l.toArray⟩ = ⟨(l.map PyProof.Rows.up1).toArray⟩ := by
      rw [PyProof.Rows.upper_ascii (fun c hc => of_decide_eq_true (List.all_eq_true.mp hl c (by simpa using hc)))]
      simp
    have hz : (sizeLine : Nat) = 16777216 := sizeLine_eq
    refine PySem.SC.upper (by rw [e1]; unfold Builtin.Str.tooLong; rw [str_len, List.length_map, decide_eq_false]; rw [← sizeLine_eq] at *; omega) ?_
    rw [e1]
    refine ⟨.str _, H, I.tok _, ⟨_, rfl⟩, g.str (fun c hc => ?_) (by rw [List.length_map, ← szL_eq]; exact lx)⟩
    obtain ⟨c', h1, rfl⟩ := List.mem_map.mp hc
    have := cx c' h1
    unfold PyProof.Rows.up1
    split <;> omega
  · cases e
theorem x_up {apos : Pos} (ha : PE X a (trO X.K T W fa)) (hbase : attributeBase a "upper" X.env (eval a X.env) = eval a X.env) (hline : (apos.endLine == pos.line) = true) :
    PE X (.Call (.Attribute a "upper" apos) [] [] pos) (trC X.K T W fun ρ => (fa ρ).bind fun x => .of (upSem x)) := by
  refine impE (pe_bm0 F.plainAttrs_str F.slot_str_upper F.type_str_upper (up_ok (T := T)) ha hbase hline) fun σ H Q h => ?_
  obtain ⟨H0, N0, pn, N, ρ, rep, s, k⟩ := h
  refine ⟨H0, N0, pn, N, ρ, rep, s.left, fun x ex v H1 e1 r1 => ?_⟩
  obtain ⟨d, ed⟩ := (s.right ex).of
  refine ⟨?_, N, x, d, rfl, r1, ed, fun w H2 e2 r2 => k d ?_ w H2 (e1.trans e2) r2⟩
  · cases x <;> simp only [upSem, reduceCtorEq] at ed
    rw [r1.str.1]
    rfl
  · dsimp only
    rw [ex, Rs.bind_ok, ed]
    rfl
theorem boot_blt (b : Blt) : bootBuiltins b.nm = some b.val := by cases b <;> decide +kernel
theorem nm_blt (b : Blt) : b.nm ≠ "__name__" ∧ (b.nm == ("__debug__" : Str)) = false := by cases b <;> decide
theorem pe_callV {r : List V → Hp → VK → Prop} {t : TA} {p : Pos} (bi : Blt) (hc : CallR X bi.val r) (hg : Gl X bi.nm) (hm : X.mg bi.nm = none) (ha : PA X (e :: es) t)
    (he : starEach (e :: es) X.env = (false, eval e X.env) :: starEach es X.env) (hpl : (backTo pos (starEach es X.env)).any (·.1) = false) : PE X (.Call (.Name bi.nm p) (e :: es) [] pos) (tCB r t) := by
  have h1 := boot_blt bi
  have h2 := nm_blt bi
  cases bi
  · exact pe_callB hc hg hm h1 ha h2.1 h2.2 he hpl
  · exact pe_callB hc hg hm h1 ha h2.1 h2.2 he hpl
  · exact pe_callB hc hg hm h1 ha h2.1 h2.2 he hpl
  · exact pe_callB hc hg hm h1 ha h2.1 h2.2 he hpl
  · exact pe_callB hc hg hm h1 ha h2.1 h2.2 he hpl
  · exact pe_callB hc hg hm h1 ha h2.1 h2.2 he hpl
  · exact pe_callB hc hg hm h1 ha h2.1 h2.2 he hpl
  · exact pe_callTy hc hg hm h1 ha h2.1 h2.2 he hpl
  · exact pe_callTy hc hg hm h1 ha h2.1 h2.2 he hpl
  · exact pe_callTy hc hg hm h1 ha h2.1 h2.2 he hpl
  · exact pe_callTy hc hg hm h1 ha h2.1 h2.2 he hpl
  · exact pe_callB hc hg hm h1 ha h2.1 h2.2 he hpl
theorem x_blt1 {p : Pos} (bi : Blt) (hc : X.calm = true) (hg : Gl X bi.nm) (hm : X.mg bi.nm = none) (ha : PE X a (trO X.K T W fa)) (he : starEach [a] X.env = (false, eval a X.env) :: starEach [] X.env) :
    PE X (.Call (.Name bi.nm p) [a] [] pos) (trC X.K T W fun ρ => (fa ρ).bind fun x => .of (bltSem bi [x])) := by
  refine impE (pe_callV bi (blt_ok (T := T) hc bi) hg hm (pa_cons ha pa_nil he) he rfl) fun σ H Q h => ?_
  obtain ⟨H0, N0, pn, N, ρ, rep, s, k⟩ := h
  refine ⟨H0, N0, pn, N, ρ, rep, s.left, fun x ex v H1 e1 r1 => ?_⟩
  obtain ⟨d, ed⟩ := (s.right ex).of
  refine ⟨N, [x], d, rep.dom.ext e1, .cons r1 .nil, ed, fun w H2 e2 r2 => k d ?_ w H2 (e1.trans e2) r2⟩
  dsimp only
  rw [ex, Rs.bind_ok, ed]
  rfl
theorem x_blt2 {p : Pos} (bi : Blt) (hc : X.calm = true) (hg : Gl X bi.nm) (hm : X.mg bi.nm = none) (ha : PE X a (trO X.K T W fa)) (hb : PE X b (trO X.K T W fb)) (he : starEach [a, b] X.env = (false, eval a X.env) :: starEach [b] X.env)
    (he2 : starEach [b] X.env = (false, eval b X.env) :: starEach [] X.env) : PE X (.Call (.Name bi.nm p) [a, b] [] pos) (trC X.K T W fun ρ => (fa ρ).bind fun x => (fb ρ).bind fun y => .of (bltSem bi [x, y])) := by
  refine impE (pe_callV bi (blt_ok (T := T) hc bi) hg hm (pa_cons ha (pa_cons hb pa_nil he2) he) he (by rw [he2]; rfl)) fun σ H Q h => ?_
  obtain ⟨H0, N0, pn, N, ρ, rep, s, k⟩ := h
  refine two (fun e r => e.rpo r) rfl rfl rep s fun x y v w H2 ex ey e2 r1 r2 s2 => ?_
  obtain ⟨d, ed⟩ := s2.of
  refine ⟨N, [x, y], d, rep.dom.ext e2, .cons r1 (.cons r2 .nil), ed, fun w H3 e3 r3 => k d ?_ w H3 (e2.trans e3) r3⟩
  dsimp only
  rw [ex, ey, Rs.bind_ok, Rs.bind_ok, ed]
  rfl
theorem mth_slot (m : Mth) : PlainAttrs m.ty ∧ Slot m.ty m.nm m.id ∧ typeOf (.builtin m.id) = pure (.type "method_descriptor") := by
  cases m
  · exact ⟨F.plainAttrs_str, F.slot_str_index, F.type_str_index⟩
  · exact ⟨F.plainAttrs_list, F.slot_list_index, F.type_list_index⟩
  · exact ⟨F.plainAttrs_str, F.slot_str_join, F.type_str_join⟩
  · exact ⟨F.plainAttrs_str, F.slot_str_count, F.type_str_count⟩
  · exact ⟨F.plainAttrs_str, F.slot_str_lstrip, F.type_str_lstrip⟩
  · exact ⟨F.plainAttrs_list, F.slot_list_count, F.type_list_count⟩
def baseOk : Expr → Bool
  | .Call _ [] _ _ => false
  | _ => true
theorem base_of {o : Expr} (h : baseOk o = true) (m : Str) (env : Env) (w : Sem Value) : attributeBase o m env w = w := by
  cases o with
  | Call f as ks p =>
    cases as with
    | nil => simp [baseOk] at h
    | cons a as => cases f <;> rfl
  | _ => rfl
theorem rcv_ty {m : Mth} {K : PySem.W.Frag} {H : Hp} {N : Hid} {v : V} {x : D} (h : mthRcv m x = true) (r : RpO K H N v x) : tyV K m.ty v H := by
  cases x <;> simp [mthRcv] at h
  · rw [r.str.1]
    exact h
  · obtain ⟨a, xs, rfl, q1, _⟩ := r.sqL
    exact .inl ⟨h, xs, .inl (.inl q1)⟩
theorem x_mth {apos : Pos} (m : Mth) (ha : PE X a (trO X.K T W fa)) (hb : PE X b (trO X.K T W fb)) (hbase : baseOk a = true) (hline : (apos.endLine == pos.line) = true) (he : starEach [b] X.env = (false, eval b X.env) :: starEach [] X.env) :
    PE X (.Call (.Attribute a m.nm apos) [b] [] pos) (trC X.K T W fun ρ => (fa ρ).bind fun x => if mthRcv m x then (fb ρ).bind fun y => .of (mthSem m x y) else .bad) := by
  obtain ⟨s1, s2, s3⟩ := mth_slot m
  refine impE (pe_bm s1 s2 s3 (mth_ok (T := T) m) ha (pa_cons hb pa_nil he) (base_of hbase _ _ _) (by rw [he]; rfl) hline he rfl) fun σ H Q h => ?_
  obtain ⟨H0, N0, pn, N, ρ, rep, s, k⟩ := h
  refine ⟨H0, N0, pn, N, ρ, rep, s.left, fun x ex v H1 e1 r1 => ?_⟩
  have s2 := (s.right ex).grow e1
  cases hm : mthRcv m x with
  | false =>
    rw [hm] at s2
    exact absurd rfl s2.1
  | true =>
    rw [hm] at s2
    refine ⟨rcv_ty hm r1, H0, N0, pn, N, ρ, rep.grow e1, s2.left, fun y ey w H2 e2 r2 => ?_⟩
    obtain ⟨d, ed⟩ := ((s2.right ey).grow e2).of
    refine ⟨N, x, y, d, w, rfl, rep.dom.ext (e1.trans e2), e2.rpo r1, r2, ed, fun u H3 e3 r3 => k d ?_ u H3 ((e1.trans e2).trans e3) r3⟩
    dsimp only
    rw [ex, Rs.bind_ok, hm, if_pos rfl, ey, Rs.bind_ok, ed]
    rfl
def Ty.sn (t : Ty) : Str := Str.ofString t.nm
theorem boot_ty (t : Ty) : bootBuiltins t.sn = some (.type t.nm) := by cases t <;> decide +kernel
theorem nm_ty (t : Ty) : t.sn ≠ "__name__" ∧ (t.sn == ("__debug__" : Str)) = false := by cases t <;> decide
theorem x_isi {p p2 : Pos} (t : Ty) (hg : Gl X "isinstance") (hm : X.mg "isinstance" = none) (hg2 : Gl X t.sn) (hm2 : X.mg t.sn = none) (ha : PE X a (trO X.K T W fa)) (he : starEach [a, .Name t.sn p2] X.env = (false, eval a X.env) :: starEach [.Name t.sn p2] X.env) :
    PE X (.Call (.Name "isinstance" p) [a, .Name t.sn p2] [] pos) (trC X.K T W fun ρ => (fa ρ).bind fun x => .ok (.bl (isiSem t x))) := by
  refine impE (pe_callB (isi_ok t) hg hm (by decide +kernel) (pa_cons ha (pa_cons (pe_bltn (v := .ty t.nm) hg2 hm2 (boot_ty t) rfl (nm_ty t).1 (nm_ty t).2) pa_nil rfl) he) (by decide) (by decide) he rfl) fun σ H Q h => ?_
  obtain ⟨H0, N0, pn, N, ρ, rep, s, k⟩ := h
  refine ⟨H0, N0, pn, N, ρ, rep, s.left, fun x ex v H1 e1 r1 => ?_⟩
  refine ⟨N, x, v, rfl, r1, k _ ?_ _ H1 e1 (.bl _)⟩
  dsimp only
  rw [ex]
  rfl
/-! ### slices -/
def trP (K : PySem.W.Frag) (T : List (Addr × Str)) (W : WX) (f : En → Rs (Option Int)) : TO := fun σ H Q => ∃ H0 N0 pn N ρ, Rep K T H0 N0 pn H N σ ρ ∧ Safe K T W (f ρ) H σ ∧ ∀ o, f ρ = .ok o → ∀ H', Ext T H H' → Q o H'
theorem x_part0 : PO X none (trP X.K T W fun _ => .ok none) := ⟨fun pins s σ H Q I h => by
  obtain ⟨H0, N0, pn, N, ρ, rep, sf, k⟩ := h
  exact po_none.run pins s σ H Q I (k none rfl H (Ext.refl H))⟩
theorem x_part1 (h : PE X e (trC X.K T W f)) : PO X (some e) (trP X.K T W fun ρ => (f ρ).bind fun x => (asI x).bind fun i => .ok (some i)) := ⟨fun pins s σ H Q I q => by
  obtain ⟨H0, N0, pn, N, ρ, rep, sf, k⟩ := q
  refine (po_some h).run pins s σ H Q I ⟨H0, N0, pn, N, ρ, rep, sf.left, fun x ex v H1 e1 r1 => ?_⟩
  obtain ⟨i, rfl⟩ := (sf.right ex).left.asI
  cases r1
  refine ⟨i, rfl, k (some i) ?_ H1 e1⟩
  dsimp only
  rw [ex]
  rfl⟩
theorem x_sl {lo hi : Option Expr} {fl fh : En → Rs (Option Int)} {p2 : Pos} (ha : PE X a (trO X.K T W fa)) (hl : PO X lo (trP X.K T W fl)) (hh : PO X hi (trP X.K T W fh)) :
    PE X (.Subscript a (.Slice lo hi none p2) pos) (trC X.K T W fun ρ => (fa ρ).bind fun x => (fl ρ).bind fun l => (fh ρ).bind fun h => .of (slSem x l h)) := by
  refine impE (pe_slice (sl_ok (T := T)) ha hl hh) fun σ H Q h => ?_
  obtain ⟨H0, N0, pn, N, ρ, rep, s, k⟩ := h
  refine ⟨H0, N0, pn, N, ρ, rep, s.left, fun x ex v H1 e1 r1 => ?_⟩
  have s1 := (s.right ex).grow e1
  refine ⟨H0, N0, pn, N, ρ, rep.grow e1, s1.left, fun l el H2 e2 => ?_⟩
  have s2 := (s1.right el).grow e2
  refine ⟨H0, N0, pn, N, ρ, (rep.grow e1).grow e2, s2.left, fun h eh H3 e3 => ?_⟩
  obtain ⟨d, ed⟩ := (s2.right eh).of
  have e13 := (e1.trans e2).trans e3
  refine ⟨N, x, d, rep.dom.ext e13, (e2.trans e3).rpo r1, ed, fun w H4 e4 r4 => k d ?_ w H4 (e13.trans e4) r4⟩
  dsimp only
  rw [ex, Rs.bind_ok, el, Rs.bind_ok, eh, Rs.bind_ok, ed]
  rfl
def revF (f : En → Rs D) : En → Rs D := fun ρ => (f ρ).bind fun x => .of (revSem x)
/-! ### s[::-1], texts too -/
def tRevX (K : PySem.W.Frag) (te : TE) : TE := fun σ H Q => te σ H fun x H1 => (∃ a xs, x = .ref a ∧ SqL K H1 a xs ∧ ∀ p, H1 p = none → Q (.ref p) (upd H1 p (.lst xs.reverse))) ∨ (∃ l : List Nat, x = .str ⟨l.toArray⟩ ∧ l.length ≤ sizeLine ∧ Q (.str ⟨l.reverse.toArray⟩) H1)
theorem rev_pick (l : List Nat) : (Builtin.Str.strSliceIndices none none (-1) l.length).filterMap (l.toArray[·]?) = l.reverse := by
  have e : Builtin.Str.strSliceIndices none none (-1) l.length = sliceRange ((l.length : Int) - 1) (-1) (-1) := rfl
  rw [e, PySem.W.krv_sliceRange, PySem.W.krv_range, List.filterMap_reverse]
  have := PySem.W.krv_all l.toArray
  rw [List.size_toArray] at this
  rw [this]
theorem pe_revX {e : Expr} {te : TE} {k : Nat} {p1 p2 p3 pos : Pos} (he : PE X e te) : PE X (.Subscript e (.Slice none none (some (.UnaryOp .USub (.Constant (.int 1) k p1) p2)) p3) pos) (tRevX X.K te) := by
  refine ⟨fun pins s σ H Q I h => ?_⟩
  refine Subscript_ (thn (he.run pins s σ H _ I h) fun v s1 ⟨x, H1, I1, r1, q1⟩ => ?_)
  have hst : PO X (some (.UnaryOp .USub (.Constant (.int 1) k p1) p2)) (tPart (tUn (rU fun i => .int (-i)) (tC (.int 1)))) := po_some (pe_un un_neg pe_int)
  refine wpAny_Slice (thn (po_none.run pins s1 σ H1 (fun o H2 => o = none ∧ H2 = H1) I1 ⟨rfl, rfl⟩) fun vl s2 ⟨l, H2, I2, pl, el, e2⟩ => ?_)
  subst el e2
  refine thn (po_none.run pins s2 σ H2 (fun o H3 => o = none ∧ H3 = H2) I2 ⟨rfl, rfl⟩) fun vu s3 ⟨u, H3, I3, pu, eu, e3⟩ => ?_
  subst eu e3
  refine thn (hst.run pins s3 σ H3 (fun o H4 => o = some (-1) ∧ H4 = H3) I3 ⟨1, rfl, -1, rfl, rfl, rfl⟩) fun vs s4 ⟨o, H4, I4, ps, eo, e4⟩ => ?_
  subst eo e4
  have I5 : Inv X pins σ H4 { s4 with heap := s4.heap.push { cls := .type "slice", data := .fields #[vl, vu, vs] } } := I4.kept (t' := s4.toks) fun b ob q => Heap.get?_push_of_some _ q
  rcases q1 with ⟨a, xs, ex, hx, q⟩ | ⟨z, ex, hz, q⟩
  · subst ex
    cases r1
    obtain ⟨its, r, ht, hz⟩ := I5.list hx
    have hlen := r.length
    show wpAny (model X.prog X.w) X.A (subscriptTail e (.Slice none none (some (.UnaryOp .USub (.Constant (.int 1) k p1) p2)) p3) (.ref a) (.ref s4.heap.objs.size)) (EP X pins σ Q) X.xe { s4 with heap := s4.heap.push { cls := .type "slice", data := .fields #[vl, vu, vs] } }
    refine tail_any (ops := [.ref a, .ref s4.heap.objs.size]) ht.isList.typeIs (PySem.slot_list_getitem.lookup) ?_ (by with_unfolding_all rfl)
    refine wpAny_getItem_list_slice ht.isList (Heap.IsSliceOf.new _ vl vu vs) pl pu ps (by decide) ?_ (by rw [List.size_toArray]; omega)
    rw [PySem.W.krv_pick]
    refine ⟨.ref _, _, I5.laid (t' := s4.toks) (o := .lst xs.reverse) (fun b ob q => Heap.get?_push_of_some _ q) (Nat.le_refl _) ?_, rfl, q _ (I5.hok.fresh (Nat.le_refl _))⟩
    exact ⟨by rw [List.length_reverse]; exact hz, _, 0, r.reverse, Heap.get?_push_size _ rfl⟩
  · subst ex
    obtain ⟨t, rfl⟩ := r1
    obtain ⟨l0, rfl, e0⟩ := IsPart.raw pl
    obtain ⟨u0, rfl, e1⟩ := IsPart.raw pu
    obtain ⟨s0, rfl, e2⟩ := IsPart.raw ps
    show wpAny (model X.prog X.w) X.A (subscriptTail e (.Slice none none (some (.UnaryOp .USub (.Constant (.int 1) k p1) p2)) p3) (.str ⟨z.toArray⟩ t) (.ref s4.heap.objs.size)) (EP X pins σ Q) X.xe { s4 with heap := s4.heap.push { cls := .type "slice", data := .fields #[partValue l0, partValue u0, partValue s0] } }
    cases l0 with
    | some l0 => cases e0
    | none =>
    cases u0 with
    | some u0 => cases e1
    | none =>
    cases s0 with
    | none => cases e2
    | some s0 =>
    obtain ⟨sk, st⟩ := s0
    obtain rfl : sk = (-1 : Int) := by simpa using e2
    refine tail_any (ops := [.str ⟨z.toArray⟩ t, .ref s4.heap.objs.size]) (typeIs_str _ _ _) (F.slot_str_getitem.lookup) ?_ (by with_unfolding_all rfl)
    refine wpAny_getItem_str_slice (l := none) (u := none) (st := some (-1, st)) ⟨_, Heap.get?_push_size _ rfl, rfl, rfl⟩ (by rfl) ?_
    show Made.post (if ((-1 : Int) == 1 && (Builtin.Str.strSliceIndices none none (-1) (⟨z.toArray⟩ : Str).length).length == (⟨z.toArray⟩ : Str).length) = true then Made.val (.str ⟨z.toArray⟩ t)
      else Made.str ⟨((Builtin.Str.strSliceIndices none none (-1) (⟨z.toArray⟩ : Str).length).filterMap (z.toArray[·]?)).toArray⟩) (EP X pins σ Q) _
    rw [if_neg (by simp), str_len, rev_pick]
    exact ⟨by show (⟨z.reverse.toArray⟩ : Str).length ≤ sizeLine; rw [str_len]; simpa using hz, .str _, H4, I5.tok _, ⟨_, rfl⟩, q⟩
theorem rev_run {σ : L2.St} {H : Hp} {H0 : Hp} {N0 : Hid} {pn : List (V × D)} {N : Hid} {ρ : En} {Q : VK} (rep : Rep X.K T H0 N0 pn H N σ ρ) (s : Safe X.K T W (revF fa ρ) H σ)
    (k : ∀ ds xs H1 p, revF fa ρ = .ok (.lst ds) → Ext T H H1 → H1 p = none → RpAll X.K H1 N xs ds → Q (.ref p) (upd H1 p (.lst xs)))
    (k2 : ∀ l H1, revF fa ρ = .ok (.str l) → Ext T H H1 → Rp X.K H1 N (.str ⟨l.toArray⟩) (.str l) → Q (.str ⟨l.toArray⟩) H1) : tRevX X.K (trO X.K T W fa) σ H Q := by
  refine ⟨H0, N0, pn, N, ρ, rep, s.left, fun x ex v H1 e1 r1 => ?_⟩
  obtain ⟨d, ed⟩ := (s.right ex).of
  have ee : revF fa ρ = .ok d := by
    unfold revF
    rw [ex, Rs.bind_ok, ed]
    rfl
  cases x <;> simp only [revSem, reduceCtorEq] at ed
  · cases ed
    obtain ⟨ez, hc, hl⟩ := r1.str
    refine .inr ⟨_, ez, hl, k2 _ H1 ee e1 (.str _ (fun c h => hc c (by simpa using h)) (by simpa using hl))⟩
  · cases ed
    obtain ⟨p, xs, ev, q1, r2⟩ := r1.sqL
    exact .inl ⟨p, xs, ev, .inl (.inl q1), fun q hq => k _ xs.reverse H1 q ee e1 hq r2.reverse⟩
theorem x_rev {k : Nat} {p1 p2 p3 : Pos} (ha : PE X a (trO X.K T W fa)) : PE X (.Subscript a (.Slice none none (some (.UnaryOp .USub (.Constant (.int 1) k p1) p2)) p3) pos) (trC X.K T W (revF fa)) := by
  refine impE (pe_revX ha) fun σ H Q h => ?_
  obtain ⟨H0, N0, pn, N, ρ, rep, s, k⟩ := h
  exact rev_run rep s (fun ds xs H1 p ed e1 hp r => k _ ed _ _ (e1.trans (Ext.new hp)) (Rp.newL (rep.dom.ext e1) hp r)) (fun l H1 ed e1 r => k _ ed _ _ e1 r)
theorem xf_rev {k : Nat} {p1 p2 p3 : Pos} (ha : PE X a (trO X.K T W fa)) : PE X (.Subscript a (.Slice none none (some (.UnaryOp .USub (.Constant (.int 1) k p1) p2)) p3) pos) (trF X.K T W (revF fa)) := by
  refine impE (pe_revX ha) fun σ H Q h => ?_
  obtain ⟨H0, N0, pn, N, ρ, rep, s, kl, k⟩ := h
  refine rev_run rep s (fun ds xs H1 p ed e1 hp r => ?_) (fun l H1 ed e1 r => ?_)
  · obtain ⟨z1, z2, z3, z4, z5⟩ := newF (rep.dom.ext e1) e1 hp r
    exact k ds ed p xs _ z1 z2 z3 z4 z5
  · obtain ⟨ds, e⟩ := kl _ ed
    cases e
end
end DN

set_option Elab.async false
set_option linter.all false
set_option maxRecDepth 100000
namespace DN
open PySem PySem.Spec PyProof.Rows L2
section
variable {X : Cx} {T : List (Addr × Str)} {W : WX} {pos p : Pos} {e a b c tg iter : Expr} {es : List Expr} {f fa fb fc fr : En → Rs D}
theorem impI {t t' : TI} (h : PI X tg iter t) (i : ∀ σ H R, t' σ H R → t σ H R) : PI X tg iter t' := ⟨fun pins s σ H R I q => h.run pins s σ H R I (i σ H R q)⟩
/-! ### ranges -/
theorem rgL_len (i j : Int) : (rgL i j).length = (j - i).toNat := by unfold rgL; rw [List.length_map, List.length_range]
theorem rgL_get {i j : Int} {m : Nat} {d : D} (h : (rgL i j)[m]? = some d) : m < (j - i).toNat ∧ d = .int (i + (m : Nat)) := by
  have hl := (List.getElem?_eq_some_iff.mp h).1
  rw [rgL_len] at hl
  unfold rgL at h
  rw [List.getElem?_map, List.getElem?_range hl] at h
  exact ⟨hl, (Option.some.inj h).symm⟩
theorem wk_rng (K : PySem.W.Frag) (i j : Int) : Wk K T (Itr i (j - i).toNat) [] (rgL i j) := fun m H N dom pins => by
  refine ⟨fun d hd => ?_, fun hl => ?_⟩
  · obtain ⟨h1, rfl⟩ := rgL_get hd
    refine ⟨h1, fun x H' y => ?_⟩
    obtain ⟨rfl, rfl⟩ := y
    exact ⟨Ext.refl _, .int _⟩
  · rw [rgL_len] at hl
    exact hl
theorem rgOk_iff {i j : Int} (h : rgOk i j = true) : -(2 ^ 60) ≤ i ∧ i < 2 ^ 60 ∧ -(2 ^ 60) ≤ j ∧ j < 2 ^ 60 := by
  unfold rgOk at h
  simp only [Bool.and_eq_true, decide_eq_true_eq] at h
  exact ⟨h.1.1.1, h.1.1.2, h.1.2, h.2⟩
def rng1F (fa : En → Rs D) : En → Rs D := fun ρ => (fa ρ).bind fun x => (asI x).bind fun j => if rgOk 0 j then .ok (.tup (rgL 0 j)) else .bad
def rng2F (fa fb : En → Rs D) : En → Rs D := fun ρ => (fa ρ).bind fun x => (asI x).bind fun i => (fb ρ).bind fun y => (asI y).bind fun j => if rgOk i j then .ok (.tup (rgL i j)) else .bad
theorem Safe.cond {β : Type} {k : Bool} {r : Rs β} {H : Hp} {σ : L2.St} (s : Safe X.K T W (if k then r else .bad) H σ) : k = true := by
  cases k with
  | true => rfl
  | false => exact absurd rfl s.1
/-- an int within more -/
theorem intR {β : Type} {g : Int → Rs β} {σ : L2.St} {H : Hp} {H0 : Hp} {N0 : Hid} {pn : List (V × D)} {N : Hid} {ρ : En} {P : V → Hp → Prop} (rep : Rep X.K T H0 N0 pn H N σ ρ) (s : Safe X.K T W ((fa ρ).bind fun y => (asI y).bind g) H σ)
    (k : ∀ i H', fa ρ = .ok (.int i) → Ext T H H' → Safe X.K T W (g i) H' σ → P (.int i) H') : trC X.K T W fa σ H P := by
  refine ⟨H0, N0, pn, N, ρ, rep, s.left, fun x ex v H1 e1 r1 => ?_⟩
  obtain ⟨i, rfl⟩ := (s.right ex).left.asI
  cases r1
  exact k i H1 ex e1 (((s.right ex).right rfl).grow e1)
theorem x_rng1 (hg : Gl X "range") (hm : X.mg "range" = none) (ha : PE X a (trC X.K T W fa)) (hs : starEach [a] X.env = (false, eval a X.env) :: starEach [] X.env) : PI X tg (.Call (.Name "range" p) [a] [] pos) (trI X.K T W (rng1F fa)) := by
  refine impI (pi_range1 hg hm (pa_cons ha pa_nil hs) hs) fun σ H R h => ?_
  obtain ⟨H0, N0, pn, N, ρ, rep, s, k⟩ := h
  refine intR rep s.left fun j H1 ej e1 s1 => ?_
  have hk := s1.cond
  have hr := rgOk_iff hk
  refine ⟨j, rfl, by omega, by omega, ?_⟩
  have := k (rgL 0 j) (by unfold rng1F; rw [ej]; show (if rgOk 0 j then Rs.ok (D.tup (rgL 0 j)) else .bad) = _; rw [if_pos hk]) (Itr 0 (j - 0).toNat) [] H1 e1 (fun _ hp => absurd hp (by simp)) (wk_rng X.K 0 j)
  rw [Int.sub_zero] at this
  exact this
theorem x_rng2 (hg : Gl X "range") (hm : X.mg "range" = none) (ha : PE X a (trC X.K T W fa)) (hb : PE X b (trC X.K T W fb)) (hs : starEach [a, b] X.env = (false, eval a X.env) :: starEach [b] X.env) (hs2 : starEach [b] X.env = (false, eval b X.env) :: starEach [] X.env) :
    PI X tg (.Call (.Name "range" p) [a, b] [] pos) (trI X.K T W (rng2F fa fb)) := by
  refine impI (pi_range2 hg hm (pa_cons ha (pa_cons hb pa_nil hs2) hs) (by rw [hs, hs2]; rfl) hs2) fun σ H R h => ?_
  obtain ⟨H0, N0, pn, N, ρ, rep, s, k⟩ := h
  refine intR rep s.left fun i H1 ei e1 s1 => ?_
  refine intR (rep.grow e1) s1 fun j H2 ej e2 s2 => ?_
  have hk := s2.cond
  have hr := rgOk_iff hk
  refine ⟨i, j, rfl, ⟨by omega, by omega, by omega, by omega⟩, ?_⟩
  refine k (rgL i j) ?_ _ [] H2 (e1.trans e2) (fun _ hp => absurd hp (by simp)) (wk_rng X.K i j)
  unfold rng2F
  rw [ei, ej]
  show (if rgOk i j then Rs.ok (D.tup (rgL i j)) else .bad) = _
  rw [if_pos hk]
/-! ### a value walked -/
theorem wk_list (K : PySem.W.Frag) (a : Addr) (ds : List D) : Wk K T (Itl K a) [(.ref a, .lst ds)] ds := fun m H N dom pins => by
  have r := pins _ (List.mem_singleton.mpr rfl)
  cases r with
  | lst h1 h2 =>
    rename_i xs
    have sq : SqL K H a xs := h1.sq
    refine ⟨fun d hd => ?_, fun hl => ⟨xs, sq, by rw [h2.length]; exact hl⟩⟩
    obtain ⟨v, q1, q2⟩ := h2.get hd
    refine ⟨⟨xs, v, sq, q1⟩, fun x H' y => ?_⟩
    obtain ⟨rfl, y⟩ := y
    have := y xs sq
    rw [q1] at this
    cases this
    exact ⟨Ext.refl _, q2⟩
theorem wk_tup (K : PySem.W.Frag) (a : Addr) (ds : List D) : Wk K T (Itt K a) [(.ref a, .tup ds)] ds := fun m H N dom pins => by
  have r := pins _ (List.mem_singleton.mpr rfl)
  cases r with
  | tup h1 h2 =>
    rename_i xs
    have sq : SqT K H a xs := h1.sq
    refine ⟨fun d hd => ?_, fun hl => ⟨xs, sq, by rw [h2.length]; exact hl⟩⟩
    obtain ⟨v, q1, q2⟩ := h2.get hd
    refine ⟨⟨xs, v, sq, q1⟩, fun x H' y => ?_⟩
    obtain ⟨rfl, y⟩ := y
    have := y xs sq
    rw [q1] at this
    cases this
    exact ⟨Ext.refl _, q2⟩
theorem wk_str (K : PySem.W.Frag) (l : List Nat) (hc : ∀ c ∈ l, c < 0x110000) : Wk K T (Its ⟨l.toArray⟩) [] (l.map fun c => .str [c]) := fun m H N dom pins => by
  refine ⟨fun d hd => ?_, fun hl => ?_⟩
  · rw [List.getElem?_map, Option.map_eq_some_iff] at hd
    obtain ⟨c, hc1, rfl⟩ := hd
    have hl := (List.getElem?_eq_some_iff.mp hc1).1
    refine ⟨(show m < l.toArray.size by simpa using hl), fun x H' y => ?_⟩
    obtain ⟨rfl, c', h1, rfl⟩ := y
    have h2 : l[m]? = some c' := by simpa using h1
    rw [hc1] at h2
    cases h2
    exact ⟨Ext.refl _, .str [c] (fun k hk => by rw [List.mem_singleton] at hk; rw [hk]; exact hc c (List.mem_of_getElem? hc1)) (by rw [szL_eq]; show 1 ≤ 16777216; omega)⟩
  · exact (show l.toArray.size ≤ m by simpa using hl)
def walkF (fa : En → Rs D) : En → Rs D := fun ρ => (fa ρ).bind fun x => (asItems x).bind fun xs => .ok (.tup xs)
theorem x_walk (ha : PE X a (trC X.K T W fa)) : PI X tg a (trI X.K T W (walkF fa)) := ⟨fun pins s σ H R I h => by
  obtain ⟨H0, N0, pn, N, ρ, rep, sf, k⟩ := h
  have sa : Safe X.K T W (fa ρ) H σ := sf.left.left
  cases e : fa ρ with
  | ok d =>
    cases d with
    | lst ds =>
      refine (pi_list ha).run pins s σ H R I ⟨H0, N0, pn, N, ρ, rep, sa, fun d ed v H1 e1 r1 => ?_⟩
      rw [e] at ed
      cases ed
      cases r1 with
      | lst h1 h2 => exact ⟨_, rfl, ⟨_, h1.sq⟩, k ds (by unfold walkF; rw [e]; rfl) _ _ H1 e1 (fun q hq => by rw [List.mem_singleton] at hq; rw [hq]; exact .lst h1 h2) (wk_list _ _ _)⟩
    | tup ds =>
      refine (pi_tup ha).run pins s σ H R I ⟨H0, N0, pn, N, ρ, rep, sa, fun d ed v H1 e1 r1 => ?_⟩
      rw [e] at ed
      cases ed
      cases r1 with
      | tup h1 h2 => exact ⟨_, rfl, ⟨_, h1.sq⟩, k ds (by unfold walkF; rw [e]; rfl) _ _ H1 e1 (fun q hq => by rw [List.mem_singleton] at hq; rw [hq]; exact .tup h1 h2) (wk_tup _ _ _)⟩
    | str l =>
      refine (pi_str ha).run pins s σ H R I ⟨H0, N0, pn, N, ρ, rep, sa, fun d ed v H1 e1 r1 => ?_⟩
      rw [e] at ed
      cases ed
      cases r1 with
      | str _ h1 h2 => exact ⟨_, rfl, k _ (by unfold walkF; rw [e]; rfl) _ [] H1 e1 (fun q hq => absurd hq (by simp)) (wk_str _ _ h1)⟩
    | _ => exfalso; have := sf.left; unfold walkF at this; rw [e] at this; exact this.1 rfl
  | exc c =>
    refine (pi_list ha).run pins s σ H R I ⟨H0, N0, pn, N, ρ, rep, sa, fun d ed => ?_⟩
    rw [e] at ed
    cases ed
  | bad => rw [e] at sa; exact absurd rfl sa.1⟩
/-! ### zip, enumerate -/
theorem zipD_get : ∀ {xs ys : List D} {i : Nat} {d : D}, (zipD xs ys)[i]? = some d → ∃ x y, xs[i]? = some x ∧ ys[i]? = some y ∧ d = .tup [x, y]
  | [], _, _, _, h => by simp [zipD] at h
  | _ :: _, [], _, _, h => by simp [zipD] at h
  | x :: xs, y :: ys, 0, d, h => by simp [zipD] at h; exact ⟨x, y, rfl, rfl, h.symm⟩
  | x :: xs, y :: ys, i + 1, d, h => by
    simp [zipD] at h
    obtain ⟨x', y', h1, h2, h3⟩ := zipD_get h
    exact ⟨x', y', by simpa using h1, by simpa using h2, h3⟩
theorem zipD_len : ∀ xs ys : List D, (zipD xs ys).length = min xs.length ys.length
  | [], _ => by simp [zipD]
  | _ :: _, [] => by simp [zipD]
  | x :: xs, y :: ys => by simp [zipD, zipD_len xs ys]
theorem enumD_get : ∀ {xs : List D} {n i : Nat} {d : D}, (enumD n xs)[i]? = some d → ∃ x, xs[i]? = some x ∧ d = .tup [.int ((n + i : Nat) : Int), x]
  | [], _, _, _, h => by simp [enumD] at h
  | x :: xs, n, 0, d, h => by simp [enumD] at h; exact ⟨x, rfl, h.symm⟩
  | x :: xs, n, i + 1, d, h => by
    simp [enumD] at h
    obtain ⟨x', h1, h2⟩ := enumD_get h
    exact ⟨x', by simpa using h1, by rw [h2]; congr 4; omega⟩
theorem enumD_len : ∀ (xs : List D) (n : Nat), (enumD n xs).length = xs.length
  | [], _ => rfl
  | x :: xs, n => by simp [enumD, enumD_len xs]
/-! ### list(range(..)) -/
theorem rg_rep (K : PySem.W.Frag) (H : Hp) (N : Hid) (i j : Int) : RpAll K H N (rgV i j) (rgL i j) := by
  unfold rgV rgL
  generalize List.range (j - i).toNat = l
  induction l with
  | nil => exact .nil
  | cons n l ih => exact .cons (.int _) ih
def lrngF (fa fb : En → Rs D) : En → Rs D := fun ρ => (fa ρ).bind fun x => (asI x).bind fun i => (fb ρ).bind fun y => (asI y).bind fun j => if rgOk i j && decide ((j - i).toNat ≤ szL) then .ok (.lst (rgL i j)) else .bad
def lrng1F (fb : En → Rs D) : En → Rs D := fun ρ => (fb ρ).bind fun y => (asI y).bind fun j => if rgOk 0 j && decide (j.toNat ≤ szL) then .ok (.lst (rgL 0 j)) else .bad
theorem lrng_run {σ : L2.St} {H : Hp} {H0 : Hp} {N0 : Hid} {pn : List (V × D)} {N : Hid} {ρ : En} {Q : VK} (rep : Rep X.K T H0 N0 pn H N σ ρ) (s : Safe X.K T W (lrngF fa fb ρ) H σ)
    (k : ∀ ds xs H1 p, lrngF fa fb ρ = .ok (.lst ds) → Ext T H H1 → H1 p = none → RpAll X.K H1 N xs ds → Q (.ref p) (upd H1 p (.lst xs))) : tLstRg (tRg2 (trC X.K T W fa) (trC X.K T W fb)) σ H Q := by
  refine intR rep s fun i H1 ei e1 s1 => ?_
  refine intR (rep.grow e1) s1 fun j H2 ej e2 s2 => ?_
  have hk := s2.cond
  have hk2 := hk
  simp only [Bool.and_eq_true, decide_eq_true_eq] at hk
  have hr := rgOk_iff hk.1
  have hz := hk.2
  refine ⟨i, j, rfl, rfl, ⟨by omega, by omega, by omega, by omega, hz⟩, fun q hq => k (rgL i j) _ H2 q ?_ (e1.trans e2) hq (rg_rep _ _ _ _ _)⟩
  unfold lrngF
  rw [ei, ej]
  show (if rgOk i j && decide ((j - i).toNat ≤ szL) then Rs.ok (D.lst (rgL i j)) else .bad) = _
  rw [if_pos hk2]
theorem lrng1_run {σ : L2.St} {H : Hp} {H0 : Hp} {N0 : Hid} {pn : List (V × D)} {N : Hid} {ρ : En} {Q : VK} (rep : Rep X.K T H0 N0 pn H N σ ρ) (s : Safe X.K T W (lrng1F fb ρ) H σ)
    (k : ∀ ds xs H1 p, lrng1F fb ρ = .ok (.lst ds) → Ext T H H1 → H1 p = none → RpAll X.K H1 N xs ds → Q (.ref p) (upd H1 p (.lst xs))) : tLstRg (tRg1 (trC X.K T W fb)) σ H Q := by
  refine intR rep s fun j H2 ej e2 s2 => ?_
  have hk := s2.cond
  have hk2 := hk
  simp only [Bool.and_eq_true, decide_eq_true_eq] at hk
  have hr := rgOk_iff hk.1
  have hz := hk.2
  refine ⟨j, rfl, ⟨by omega, by omega, by omega, by omega, by rw [Int.sub_zero]; exact hz⟩, fun q hq => k (rgL 0 j) _ H2 q ?_ e2 hq (rg_rep _ _ _ _ _)⟩
  unfold lrng1F
  rw [ej]
  show (if rgOk 0 j && decide (j.toNat ≤ szL) then Rs.ok (D.lst (rgL 0 j)) else .bad) = _
  rw [if_pos hk2]
end
end DN

set_option Elab.async false
set_option linter.all false
set_option maxRecDepth 100000
set_option maxHeartbeats 1000000
namespace DN
open PySem PySem.Spec PyProof.Rows L2
/-! ### zip and enumerate over lists, tuples, texts -/
/-- what is walked -/
inductive Sd where
  | l (a : Addr)
  | t (a : Addr)
  | s (z : List Nat)
def Sd.v : Sd → V
  | .l a => .ref a
  | .t a => .ref a
  | .s z => .str ⟨z.toArray⟩
def Sd.val : Sd → Tok → Value
  | .l a, _ => .ref a
  | .t a, _ => .ref a
  | .s z, k => .str ⟨z.toArray⟩ k
def Sd.at_ : Sd → Addr → Prop
  | .l a, b => b = a
  | .t a, b => b = a
  | .s _, _ => False
def Sd.has (K : PySem.W.Frag) (H : Hp) : Sd → List V → Prop
  | .l a, xs => SqL K H a xs
  | .t a, xs => SqT K H a xs
  | .s z, xs => xs = z.map fun c => V.str ⟨#[c]⟩
def Sd.itp : Sd → Tok → Addr → Nat → Heap → Prop
  | .l a, _, it, i, h => h.IsListIter it a i
  | .t a, _, it, i, h => h.IsTupleIter it a i
  | .s z, k, it, i, h => h.IsStrIter it (strIterType ⟨z.toArray⟩) ⟨z.toArray⟩ k i
def Sd.obj : Sd → Tok → Obj
  | .l a, _ => { cls := .type "list_iterator", data := .fields #[.ref a, .int 0 0] }
  | .t a, _ => { cls := .type "tuple_iterator", data := .fields #[.ref a, .int 0 0] }
  | .s z, k => { cls := .type (strIterType ⟨z.toArray⟩), data := .fields #[.str ⟨z.toArray⟩ k, .int 0 0] }
theorem Sd.rel {d : Sd} {u : Value} (h : RelV d.v u) : ∃ k, u = d.val k := by
  cases d with
  | l a => cases h; exact ⟨0, rfl⟩
  | t a => cases h; exact ⟨0, rfl⟩
  | s z => obtain ⟨k, rfl⟩ := h; exact ⟨k, rfl⟩
theorem Sd.itp0 {d : Sd} {k : Tok} {it : Addr} {h : Heap} (e : h.get? it = some (d.obj k)) : d.itp k it 0 h := by
  cases d with
  | l a => exact ⟨_, e, rfl, rfl⟩
  | t a => exact ⟨_, e, rfl, rfl⟩
  | s z => exact ⟨_, e, rfl, rfl⟩
theorem Sd.itpK {d : Sd} {k : Tok} {it : Addr} {i : Nat} {h h' : Heap} (x : d.itp k it i h) (q : ∀ o, h.get? it = some o → h'.get? it = some o) : d.itp k it i h' := by
  cases d with
  | l a => exact x.at q
  | t a => exact x.at q
  | s z => obtain ⟨o, e, r⟩ := x; exact ⟨o, q o e, r⟩
theorem Sd.itpO {d : Sd} {k : Tok} {it : Addr} {i : Nat} {h : Heap} (x : d.itp k it i h) : ∃ o, h.get? it = some o ∧ ∀ v, o.data ≠ .cell v := by
  cases d with
  | l a => obtain ⟨o, e, _, q⟩ := x; exact ⟨o, e, fun v z => by rw [q] at z; cases z⟩
  | t a => obtain ⟨o, e, _, q⟩ := x; exact ⟨o, e, fun v z => by rw [q] at z; cases z⟩
  | s z => obtain ⟨o, e, _, q⟩ := x; exact ⟨o, e, fun v z => by rw [q] at z; cases z⟩
section
variable {X : Cx} {pins : List (Addr × Obj)} {σ : L2.St} {H : Hp} {s : Shared}
theorem vals_at {xs : List V} {its : List Value} (r : Vals xs its) {i : Nat} {v : Value} (h : its.toArray[i]? = some v) : ∃ x, xs[i]? = some x ∧ RelV x v := by
  have hl := r.length
  have hi : i < its.length := by
    have := (Array.getElem?_eq_some_iff.mp h).1
    simpa using this
  obtain ⟨u, e1, e2⟩ := r.get (List.getElem?_eq_getElem (show i < xs.length by omega))
  have e3 : its[i]? = some v := by simpa using h
  rw [e3] at e1
  cases e1
  exact ⟨_, List.getElem?_eq_getElem (show i < xs.length by omega), e2⟩
/-- its iterator draws -/
theorem Sd.draws (I : Inv X pins σ H s) (hh : X.A.handled = none) {d : Sd} {xs : List V} (h : d.has X.K H xs) (k : Tok) (it : Addr) (ne : ¬ d.at_ it) :
    ∃ (fp : List Addr) (P : Nat → Value → Prop) (St : Nat → Heap → Prop), Draws X.prog X.w X.A.in1 it fp xs.length P St ∧ it ∈ fp ∧ (∀ b ∈ fp, b = it ∨ d.at_ b) ∧ (∀ i, d.itp k it i s.heap → St i s.heap) ∧ (∀ i h', St i h' → d.itp k it i h') ∧ ∀ i v, P i v → ∃ x, xs[i]? = some x ∧ RelV x v := by
  have hh1 : X.A.in1.handled = none := hh
  cases d with
  | l a =>
    obtain ⟨its, rv, p, _⟩ := I.list h
    have D := Draws.list (prog := X.prog) (w := X.w) hh1 it a (fun e => ne e.symm) its.toArray
    rw [List.size_toArray, ← rv.length] at D
    exact ⟨_, _, _, D, by simp, fun b hb => by simpa [Sd.at_] using hb, fun i q => ⟨q, p.isList⟩, fun i h' q => q.1, fun i v q => vals_at rv q⟩
  | t a =>
    obtain ⟨its, rv, p, _⟩ := I.tuple h
    have D := Draws.tuple (prog := X.prog) (w := X.w) hh1 it a (fun e => ne e.symm) its.toArray
    rw [List.size_toArray, ← rv.length] at D
    exact ⟨_, _, _, D, by simp, fun b hb => by simpa [Sd.at_] using hb, fun i q => ⟨q, p⟩, fun i h' q => q.1, fun i v q => vals_at rv q⟩
  | s z =>
    have D := Draws.text (prog := X.prog) (w := X.w) hh1 it ⟨z.toArray⟩ k
    have e : (⟨z.toArray⟩ : Str).cps.size = xs.length := by
      rw [show xs = z.map fun c => V.str ⟨#[c]⟩ from h]
      simp
    rw [e] at D
    refine ⟨_, _, _, D, by simp, fun b hb => .inl (by simpa using hb), fun i q => q, fun i h' q => q, fun i v q => ?_⟩
    obtain ⟨c, u, q1, rfl⟩ := q
    refine ⟨.str ⟨#[c]⟩, ?_, ⟨u, rfl⟩⟩
    rw [show xs = z.map fun c => V.str ⟨#[c]⟩ from h, List.getElem?_map]
    have : z[i]? = some c := by simpa using q1
    rw [this]
    rfl
theorem Sd.begins (I : Inv X pins σ H s) {d : Sd} {xs : List V} (h : d.has X.K H xs) (k : Tok) : ∃ B : Heap → Prop, Begins (d.val k) (d.obj k) B ∧ B s.heap := by
  cases d with
  | l a =>
    obtain ⟨its, rv, p, _⟩ := I.list h
    exact ⟨_, begins_list a its.toArray, p.isList⟩
  | t a =>
    obtain ⟨its, rv, p, _⟩ := I.tuple h
    exact ⟨_, begins_tuple a its.toArray, p⟩
  | s z => exact ⟨_, begins_text _ k, trivial⟩
theorem Sd.old (I : Inv X pins σ H s) {d : Sd} {xs : List V} (h : d.has X.K H xs) : ∀ b, d.at_ b → b < s.heap.objs.size := by
  cases d with
  | l a =>
    obtain ⟨its, rv, p, _⟩ := I.list h
    intro b hb
    rw [show b = a from hb]
    exact p.lt
  | t a =>
    obtain ⟨its, rv, ⟨o, e, _⟩, _⟩ := I.tuple h
    intro b hb
    rw [show b = a from hb]
    exact Heap.lt_size e
  | s z => exact fun b hb => False.elim hb
theorem Sd.uniq (I : Inv X pins σ H s) {d : Sd} {xs ys : List V} (h : d.has X.K H xs) (h' : d.has X.K H ys) : xs = ys := by
  cases d with
  | l a => exact I.list_inj h h'
  | t a => exact I.tuple_inj h h'
  | s z => exact (show xs = _ from h).trans (show ys = _ from h').symm
end
/-- pairs of what is walked -/
def ItG (K : PySem.W.Frag) (d1 d2 : Sd) (n : Nat) : It :=
  ⟨fun i H => i < n ∧ ∃ xs ys, d1.has K H xs ∧ d2.has K H ys ∧ n = min xs.length ys.length,
    fun i H v H' => ∃ T x y, v = .ref T ∧ H T = none ∧ H' = upd H T (.tup [x, y]) ∧ (∀ xs, d1.has K H xs → xs[i]? = some x) ∧ ∀ ys, d2.has K H ys → ys[i]? = some y,
    fun i H => n ≤ i ∧ ∃ xs ys, d1.has K H xs ∧ d2.has K H ys ∧ n = min xs.length ys.length⟩
theorem mem5 {z TI TO i1 i2 c : Addr} (h : c ∈ [z, TI, TO, i1, i2]) : c = z ∨ c = TI ∨ c = TO ∨ c = i1 ∨ c = i2 := by simpa using h
theorem zipSep {z TI TO i1 i2 : Addr} {d1 d2 : Sd} {fp1 fp2 : List Addr} (nd : [z, TI, TO, i1, i2].Nodup) (ap : ∀ b ∈ [z, TI, TO, i1, i2], ¬ d1.at_ b ∧ ¬ d2.at_ b) (m1 : i1 ∈ fp1) (m2 : i2 ∈ fp2) (s1 : ∀ b ∈ fp1, b = i1 ∨ d1.at_ b) (s2 : ∀ b ∈ fp2, b = i2 ∨ d2.at_ b) : ZipSep2 z TI TO i1 i2 fp1 fp2 := by
  simp only [List.nodup_cons, List.mem_cons, List.not_mem_nil, or_false, not_or, List.nodup_nil, and_true, not_false_eq_true] at nd
  obtain ⟨⟨n1, n2, n3, n4⟩, ⟨n5, n6, n7⟩, ⟨n8, n9⟩, n10⟩ := nd
  have o1 : ∀ b ∈ [z, TI, TO, i1, i2], b ≠ i1 → b ∉ fp1 := fun b hb hn q => (s1 b q).elim hn (ap b hb).1
  have o2 : ∀ b ∈ [z, TI, TO, i1, i2], b ≠ i2 → b ∉ fp2 := fun b hb hn q => (s2 b q).elim hn (ap b hb).2
  exact {
    TIz := fun e => n1 e.symm
    TOz := fun e => n2 e.symm
    TITO := n5
    TIi1 := n6
    mem1 := m1
    zf1 := o1 z (by simp) n3
    Tf1 := o1 TO (by simp) n8
    TIi2 := n7
    mem2 := m2
    zf2 := o2 z (by simp) n4
    Tf2 := o2 TO (by simp) n9
    sep1_2 := o2 i1 (by simp) n10
    sep2_1 := o1 i2 (by simp) (fun e => n10 e.symm) }
theorem turn_zipG {P : Program} {w : World} {K : PySem.W.Frag} {elts : List Expr} {kk n : Nat} {tpos : Pos} {z TI TO i1 i2 : Addr} {d1 d2 : Sd} (k1 k2 : Tok) (nd : [z, TI, TO, i1, i2].Nodup) (ap : ∀ b ∈ [z, TI, TO, i1, i2], ¬ d1.at_ b ∧ ¬ d2.at_ b) :
    Turn P w K (.Tuple elts kk tpos) (ItG K d1 d2 n) [z, TI, TO, i1, i2] z (fun i h => i ≤ n ∧ IsZip h z TI TO .none ∧ IsTupOf2 h TI (.ref i1) (.ref i2) ∧ (∃ x y, IsTupOf2 h TO x y) ∧ d1.itp k1 i1 i h ∧ d2.itp k2 i2 i h) where
  mem := by simp
  obj := fun i h st c hc => by
    obtain ⟨_, hz, hTI, ⟨x, y, hTO⟩, h1, h2⟩ := st
    rcases mem5 hc with q | q | q | q | q
    · rw [q]; exact ⟨_, hz, fun v z => nomatch z⟩
    · rw [q]; exact ⟨_, hTI, fun v z => nomatch z⟩
    · rw [q]; exact ⟨_, hTO, fun v z => nomatch z⟩
    · rw [q]; exact Sd.itpO h1
    · rw [q]; exact Sd.itpO h2
  keep := fun i h h' st k => by
    obtain ⟨hi, hz, hTI, ⟨x, y, hTO⟩, h1, h2⟩ := st
    exact ⟨hi, k z (by simp) _ hz, k TI (by simp) _ hTI, ⟨x, y, k TO (by simp) _ hTO⟩, Sd.itpK h1 fun o q => k i1 (by simp) o q, Sd.itpK h2 fun o q => k i2 (by simp) o q⟩
  item := by
    intro X hP hw hK hc i pins s σ H E I hf st hg
    subst hP hw hK
    obtain ⟨hi, hz, hTI, hTO, h1, h2⟩ := st
    obtain ⟨hlt, xs, ys, hx, hy, hn⟩ := hg
    obtain ⟨fp1, P1, St1, D1, m1, s1, a1, b1, c1⟩ := Sd.draws I (I.ok.hd hc) hx k1 i1 (ap i1 (by simp)).1
    obtain ⟨fp2, P2, St2, D2, m2, s2, a2, b2, c2⟩ := Sd.draws I (I.ok.hd hc) hy k2 i2 (ap i2 (by simp)).2
    have S := zipSep nd ap m1 m2 s1 s2
    refine (GoesN.zip2 (elts := elts) (x1 := kk) (pos := tpos) S D1 D2).goes i s (fun u s2 => ∃ x H', Inv X pins σ H' s2 ∧ RelV x u ∧ (ItG X.K d1 d2 n).yld i H x H' ∧ (i + 1 ≤ n ∧ IsZip s2.heap z TI TO .none ∧ IsTupOf2 s2.heap TI (.ref i1) (.ref i2) ∧ (∃ x y, IsTupOf2 s2.heap TO x y) ∧ d1.itp k1 i1 (i + 1) s2.heap ∧ d2.itp k2 i2 (i + 1) s2.heap) ∧ ∀ b ∈ [z, TI, TO, i1, i2], H' b = none) E (by rw [← hn]; exact hlt) ⟨hz, hTI, hTO, a1 i h1, a2 i h2⟩ fun v h' tk hY st' hk htk => ?_
    obtain ⟨Tt, u1, u2, rfl, hT, q1, q2, hTup⟩ := hY
    obtain ⟨x, e1, r1⟩ := c1 i u1 q1
    obtain ⟨y, e2, r2⟩ := c2 i u2 q2
    have new : ObjOk X.prog X.w (upd H Tt (.tup [x, y])) h' Tt (.tup [x, y]) := ⟨by show 2 ≤ sizeLine; decide, [u1, u2], .cons r1 (.cons r2 .nil), hTup⟩
    have I1 : Inv X pins σ (upd H Tt (.tup [x, y])) { s with heap := h', toks := tk } :=
      I.turnedNew (t' := tk) (ch := [z, TI, TO, i1, i2]) (fun c o hb q => hk c o (fun m => hb (by
        have : c = z ∨ c = TO ∨ c = i1 ∨ c = i2 := by simpa using m
        rcases this with m | m | m | m <;> simp [m])) q) hf hT new
    obtain ⟨g1, g2, g3, g4, g5⟩ := st'
    refine ⟨.ref Tt, _, I1, rfl, ⟨Tt, x, y, rfl, I.hok.fresh hT, rfl, fun l hl => by rw [Sd.uniq I hl hx]; exact e1, fun l hl => by rw [Sd.uniq I hl hy]; exact e2⟩, ⟨hlt, g1, g2, g3, b1 _ _ g4, b2 _ _ g5⟩, fun c hcm => ?_⟩
    have hlt : c < s.heap.objs.size := by
      obtain ⟨x0, y0, hTO⟩ := hTO
      rcases mem5 hcm with q | q | q | q | q
      · rw [q]; exact Heap.lt_size hz
      · rw [q]; exact Heap.lt_size hTI
      · rw [q]; exact Heap.lt_size hTO
      · rw [q]; obtain ⟨_, e, _⟩ := Sd.itpO h1; exact Heap.lt_size e
      · rw [q]; obtain ⟨_, e, _⟩ := Sd.itpO h2; exact Heap.lt_size e
    rw [upd_ne (Nat.ne_of_lt (Nat.lt_of_lt_of_le hlt hT))]
    exact (hf c hcm).1
  done := by
    intro X hP hw hK hc i pins s σ H E I hf st hg
    subst hP hw hK
    obtain ⟨hi, hz, hTI, hTO, h1, h2⟩ := st
    obtain ⟨hle, xs, ys, hx, hy, hn⟩ := hg
    obtain ⟨fp1, P1, St1, D1, m1, s1, a1, b1, c1⟩ := Sd.draws I (I.ok.hd hc) hx k1 i1 (ap i1 (by simp)).1
    obtain ⟨fp2, P2, St2, D2, m2, s2, a2, b2, c2⟩ := Sd.draws I (I.ok.hd hc) hy k2 i2 (ap i2 (by simp)).2
    have S := zipSep nd ap m1 m2 s1 s2
    have e : i = min xs.length ys.length := by omega
    subst e
    refine (GoesN.zip2 (elts := elts) (x1 := kk) (pos := tpos) S D1 D2).stops s (fun s1 => Inv X pins σ H s1) E ⟨hz, hTI, hTO, a1 _ h1, a2 _ h2⟩ fun h' tk hk htk => ?_
    exact I.turnedL (t' := tk) (ch := [z, TI, TO, i1, i2]) (fun c o hb q => hk c o (fun m => hb (by
      have : c = z ∨ c = TO ∨ c = i1 ∨ c = i2 := by simpa using m
      rcases this with m | m | m | m <;> simp [m])) q) hf
  self := fun A i s Q E st h => wpAny_pyIter_zip st.2.1 h
def iZipG (K : PySem.W.Frag) (ta : TA) : TI := fun σ H R => ta σ H fun vs H1 => ∃ d1 d2 xs ys, vs = [Sd.v d1, Sd.v d2] ∧ d1.has K H1 xs ∧ d2.has K H1 ys ∧ R (ItG K d1 d2 (min xs.length ys.length)) H1
theorem five (N : Nat) : [N + 4, N + 2, N + 3, N, N + 1].Nodup := by
  simp
theorem pi_zipG {X : Cx} {e e2 : Expr} {ta : TA} {p pos tpos : Pos} {elts : List Expr} {kk : Nat} (hg : Gl X "zip") (hm : X.mg "zip" = none) (ha : PA X [e, e2] ta)
    (hs : starEach [e, e2] X.env = (false, eval e X.env) :: starEach [e2] X.env) (hpl : (backTo pos (starEach [e2] X.env)).any (·.1) = false) : PI X (.Tuple elts kk tpos) (.Call (.Name "zip" p) [e, e2] [] pos) (iZipG X.K ta) := by
  refine ⟨fun pins s σ H R I h => ?_⟩
  refine Call_ (ld_blt I hg hm PyProof.Rows.boot_zip (PyProof.Rows.callWith_type1 (thn (ha.run pos pins s σ H _ I h) fun us s1 ⟨vs, H1, I1, r1, q1⟩ => ?_) hs hpl))
  obtain ⟨d1, d2, xs, ys, rfl, hx, hy, q⟩ := q1
  obtain ⟨u1, u2, rfl, r, r'⟩ : ∃ u1 u2, us = [u1, u2] ∧ RelV d1.v u1 ∧ RelV d2.v u2 := by
    cases r1 with
    | cons r rr =>
      cases rr with
      | cons r' rr => cases rr; exact ⟨_, _, rfl, r, r'⟩
  obtain ⟨k1, rfl⟩ := Sd.rel r
  obtain ⟨k2, rfl⟩ := Sd.rel r'
  obtain ⟨B1, b1, g1⟩ := Sd.begins I1 hx k1
  obtain ⟨B2, b2, g2⟩ := Sd.begins I1 hy k2
  have old1 := Sd.old I1 hx
  have old2 := Sd.old I1 hy
  refine zip_begins2 b1 b2 g1 g2 fun h' hz hTI hTO e1 e2 hsz hk => wpAny_pyIter_zip hz ?_
  have I2 : Inv X pins σ H1 { s1 with heap := h' } := I1.kept (t' := s1.toks) hk
  have ge : ∀ b ∈ [s1.heap.objs.size + 4, s1.heap.objs.size + 2, s1.heap.objs.size + 3, s1.heap.objs.size, s1.heap.objs.size + 1], s1.heap.objs.size ≤ b := fun b hb => by
    rcases mem5 hb with q | q | q | q | q
    · rw [q]; exact Nat.le_add_right _ _
    · rw [q]; exact Nat.le_add_right _ _
    · rw [q]; exact Nat.le_add_right _ _
    · rw [q]; exact Nat.le_refl _
    · rw [q]; exact Nat.le_add_right _ _
  refine ⟨s1.heap.objs.size + 4, [s1.heap.objs.size + 4, s1.heap.objs.size + 2, s1.heap.objs.size + 3, s1.heap.objs.size, s1.heap.objs.size + 1], _, _, H1, rfl, I2, turn_zipG k1 k2 (five _) (fun b hb => ⟨fun z => ?_, fun z => ?_⟩), ⟨Nat.zero_le _, hz, hTI, ⟨_, _, hTO⟩, Sd.itp0 e1, Sd.itp0 e2⟩, fun b hb => I1.fpOk (ge b hb) (I1.hok.fresh (ge b hb)), q⟩
  · exact absurd (Nat.lt_of_lt_of_le (old1 b z) (ge b hb)) (Nat.lt_irrefl _)
  · exact absurd (Nat.lt_of_lt_of_le (old2 b z) (ge b hb)) (Nat.lt_irrefl _)
/-! ### enumerate of a text -/
def ItN (z : List Nat) : It :=
  ⟨fun i _ => i < z.length, fun i H v H' => ∃ T c, v = .ref T ∧ H T = none ∧ H' = upd H T (.tup [.int i, .str ⟨#[c]⟩]) ∧ z[i]? = some c, fun i _ => z.length ≤ i⟩
theorem turn_enumS {P : Program} {w : World} {K : PySem.W.Frag} {elts : List Expr} {kk : Nat} {tpos : Pos} {e it : Addr} (z : List Nat) (k : Tok) (ne : e ≠ it) :
    Turn P w K (.Tuple elts kk tpos) (ItN z) [e, it] e (fun i h => i ≤ z.length ∧ (∃ old, IsEnum h e it (0 + (i : Int)) old) ∧ (Sd.s z).itp k it i h) where
  mem := by simp
  obj := fun i h st c hc => by
    obtain ⟨_, ⟨old, he⟩, h1⟩ := st
    have : c = e ∨ c = it := by simpa using hc
    rcases this with q | q
    · rw [q]; exact ⟨_, he, fun v z => nomatch z⟩
    · rw [q]; exact Sd.itpO h1
  keep := fun i h h' st q => by
    obtain ⟨hi, ⟨old, he⟩, h1⟩ := st
    exact ⟨hi, ⟨old, q e (by simp) _ he⟩, Sd.itpK h1 fun o r => q it (by simp) o r⟩
  item := by
    intro X hP hw hK hc i pins s σ H E I hf st hg
    subst hP hw hK
    obtain ⟨hi, he, h1⟩ := st
    have hlt : i < z.length := hg
    have D := Draws.text (prog := X.prog) (w := X.w) (A := X.A.in1) (I.ok.hd hc) it ⟨z.toArray⟩ k
    have G := GoesN.enumFrom (elts := elts) (x1 := kk) (pos := tpos) 0 D e ne (by simpa using ne) (by simp)
    refine G.goes i s (fun u s2 => ∃ x H', Inv X pins σ H' s2 ∧ RelV x u ∧ (ItN z).yld i H x H' ∧ (i + 1 ≤ z.length ∧ (∃ old, IsEnum s2.heap e it (0 + ((i + 1 : Nat) : Int)) old) ∧ (Sd.s z).itp k it (i + 1) s2.heap) ∧ ∀ b ∈ [e, it], H' b = none) E (by simpa using hlt) ⟨he, h1⟩ fun v h' tk hY st' hk htk => ?_
    obtain ⟨Tt, t, x, rfl, hT, ⟨c, u, q1, rfl⟩, hTup⟩ := hY
    have q2 : z[i]? = some c := by simpa using q1
    have new : ObjOk X.prog X.w (upd H Tt (.tup [.int i, .str ⟨#[c]⟩])) h' Tt (.tup [.int i, .str ⟨#[c]⟩]) := ⟨by show 2 ≤ sizeLine; decide, [.int (0 + (i : Int)) t, .str ⟨#[c]⟩ u], .cons ⟨t, by rw [Int.zero_add]⟩ (.cons ⟨u, rfl⟩ .nil), hTup⟩
    have I1 : Inv X pins σ (upd H Tt (.tup [.int i, .str ⟨#[c]⟩])) { s with heap := h', toks := tk } :=
      I.turnedNew (t' := tk) (ch := [e, it]) (fun c o hb q => hk c o hb q) hf hT new
    refine ⟨.ref Tt, _, I1, rfl, ⟨Tt, c, rfl, I.hok.fresh hT, rfl, q2⟩, ⟨hlt, st'.1, st'.2⟩, fun b hb => ?_⟩
    have hl : b < s.heap.objs.size := by
      obtain ⟨old, he⟩ := he
      have : b = e ∨ b = it := by simpa using hb
      rcases this with q | q
      · rw [q]; exact Heap.lt_size he
      · rw [q]; obtain ⟨_, e, _⟩ := Sd.itpO h1; exact Heap.lt_size e
    rw [upd_ne (Nat.ne_of_lt (Nat.lt_of_lt_of_le hl hT))]
    exact (hf b hb).1
  done := by
    intro X hP hw hK hc i pins s σ H E I hf st hg
    subst hP hw hK
    obtain ⟨hi, he, h1⟩ := st
    have hle : z.length ≤ i := hg
    have ee : i = (⟨z.toArray⟩ : Str).cps.size := by simp; omega
    subst ee
    have D := Draws.text (prog := X.prog) (w := X.w) (A := X.A.in1) (I.ok.hd hc) it ⟨z.toArray⟩ k
    have G := GoesN.enumFrom (elts := elts) (x1 := kk) (pos := tpos) 0 D e ne (by simpa using ne) (by simp)
    exact G.stops s (fun s1 => Inv X pins σ H s1) E ⟨he, h1⟩ fun h' tk hk htk => I.turnedL (t' := tk) (ch := [e, it]) (fun c o hb q => hk c o hb q) hf
  self := fun A i s Q E st h => by
    obtain ⟨_, ⟨old, he⟩, _⟩ := st
    exact wpAny_pyIter_enum he h
def iEnumG (K : PySem.W.Frag) (ta : TA) : TI := fun σ H R => ta σ H fun vs H1 => (∃ a xs, vs = [.ref a] ∧ SqL K H1 a xs ∧ R (Ite K a) H1) ∨ ∃ z : List Nat, vs = [.str ⟨z.toArray⟩] ∧ R (ItN z) H1
theorem pi_enumG {X : Cx} {e : Expr} {ta : TA} {p pos tpos : Pos} {elts : List Expr} {kk : Nat} (hg : Gl X "enumerate") (hm : X.mg "enumerate" = none) (ha : PA X [e] ta) (hs : starEach [e] X.env = (false, eval e X.env) :: starEach [] X.env) :
    PI X (.Tuple elts kk tpos) (.Call (.Name "enumerate" p) [e] [] pos) (iEnumG X.K ta) := by
  refine ⟨fun pins s σ H R I h => ?_⟩
  refine Call_ (ld_blt I hg hm PyProof.Rows.boot_enumerate (PyProof.Rows.callWith_type1 (thn (ha.run pos pins s σ H _ I h) fun us s1 ⟨vs, H1, I1, r1, q1⟩ => ?_) hs (by rfl)))
  rcases q1 with ⟨a, xs, rfl, hqx, q⟩ | ⟨z, rfl, q⟩
  · obtain ⟨u, rfl, r⟩ : ∃ u, us = [u] ∧ RelV (V.ref a) u := by
      cases r1 with
      | cons r rr => cases rr; exact ⟨_, rfl, r⟩
    cases r
    obtain ⟨its, rv, p1, _⟩ := I1.list hqx
    refine call_enumerate_list p1.isList fun h' he hi hsz hk => wpAny_pyIter_enum he ?_
    have I2 : Inv X pins σ H1 { s1 with heap := h' } := I1.kept (t' := s1.toks) hk
    have la : a < s1.heap.objs.size := p1.lt
    exact ⟨s1.heap.objs.size + 1, [s1.heap.objs.size + 1, s1.heap.objs.size], _, _, H1, rfl, I2, turn_enum a _ _, ⟨⟨_, he⟩, hi, by simp⟩, fun b hb => by
      have : s1.heap.objs.size ≤ b := by
        have : b = s1.heap.objs.size + 1 ∨ b = s1.heap.objs.size := by simpa using hb
        rcases this with q | q <;> rw [q]
        · exact Nat.le_succ _
        · exact Nat.le_refl _
      exact I1.fpOk this (I1.hok.fresh this), q⟩
  · obtain ⟨u, rfl, r⟩ : ∃ u, us = [u] ∧ RelV (V.str ⟨z.toArray⟩) u := by
      cases r1 with
      | cons r rr => cases rr; exact ⟨_, rfl, r⟩
    obtain ⟨k, rfl⟩ := r
    refine call_enumerate_str fun h' he hi hsz hk => wpAny_pyIter_enum he ?_
    have I2 : Inv X pins σ H1 { s1 with heap := h' } := I1.kept (t' := s1.toks) hk
    exact ⟨s1.heap.objs.size + 1, [s1.heap.objs.size + 1, s1.heap.objs.size], _, _, H1, rfl, I2, turn_enumS z k (by simp), ⟨Nat.zero_le _, ⟨_, he⟩, hi⟩, fun b hb => by
      have : s1.heap.objs.size ≤ b := by
        have : b = s1.heap.objs.size + 1 ∨ b = s1.heap.objs.size := by simpa using hb
        rcases this with q | q <;> rw [q]
        · exact Nat.le_succ _
        · exact Nat.le_refl _
      exact I1.fpOk this (I1.hok.fresh this), q⟩
/-! ### the readings -/
section
variable {X : Cx} {T : List (Addr × Str)} {W : WX} {pos p : Pos} {a b : Expr} {fa fb : En → Rs D}
theorem Safe.asItems {d : D} {H : Hp} {σ : L2.St} (s : Safe X.K T W (asItems d) H σ) : ∃ ds, asItems d = .ok ds := by
  cases d <;> first | exact ⟨_, rfl⟩ | exact absurd rfl s.1
theorem Safe.asSeq {d : D} {H : Hp} {σ : L2.St} (s : Safe X.K T W (asSeq d) H σ) : ∃ ds, asSeq d = .ok ds := by
  cases d <;> first | exact ⟨_, rfl⟩ | exact absurd rfl s.1
/-- the items of what is walked -/
def SdR (K : PySem.W.Frag) (H : Hp) (N : Hid) (d : Sd) (ds : List D) : Prop := ∃ vs, d.has K H vs ∧ RpAll K H N vs ds
theorem rps_text {K : PySem.W.Frag} {H : Hp} {N : Hid} : ∀ {z : List Nat}, (∀ c ∈ z, c < 0x110000) → RpAll K H N (z.map fun c => V.str ⟨#[c]⟩) (z.map fun c => D.str [c])
  | [], _ => .nil
  | c :: z, h => .cons (.str [c] (fun q hq => by rw [List.mem_singleton] at hq; rw [hq]; exact h c (by simp)) (by show 1 ≤ sizeLine; decide)) (rps_text fun q hq => h q (by simp [hq]))
/-- a source and what pins it -/
theorem src_of {K : PySem.W.Frag} {H : Hp} {N : Hid} {v : V} {x : D} {ds : List D} (r : Rp K H N v x) (h : asItems x = .ok ds) : ∃ d : Sd, v = d.v ∧ ∀ H' N', Rp K H' N' v x → SdR K H' N' d ds := by
  cases x with
  | lst xs =>
    cases h
    cases r with
    | lst h1 h2 => exact ⟨.l _, rfl, fun H' N' r => by
        cases r with
        | lst g1 g2 => exact ⟨_, g1.sq, g2⟩⟩
  | tup xs =>
    cases h
    cases r with
    | tup h1 h2 => exact ⟨.t _, rfl, fun H' N' r => by
        cases r with
        | tup g1 g2 => exact ⟨_, g1.sq, g2⟩⟩
  | str z =>
    cases h
    cases r with
    | str _ h1 h2 => exact ⟨.s z, rfl, fun H' N' r => ⟨_, rfl, rps_text h1⟩⟩
  | _ => cases h
theorem wk_zipG (K : PySem.W.Frag) {d1 d2 : Sd} {xs ys : List D} {ps : List (V × D)} (n : Nat) (hn : n = min xs.length ys.length) (h1 : ∀ H N, (∀ p ∈ ps, Rp K H N p.1 p.2) → SdR K H N d1 xs) (h2 : ∀ H N, (∀ p ∈ ps, Rp K H N p.1 p.2) → SdR K H N d2 ys) : Wk K T (ItG K d1 d2 n) ps (zipD xs ys) := fun m H N dom pins => by
  obtain ⟨vs, q1, r1⟩ := h1 H N pins
  obtain ⟨ws, q2, r2⟩ := h2 H N pins
  have e : n = min vs.length ws.length := by rw [r1.length, r2.length]; exact hn
  refine ⟨fun d hd => ?_, fun hl => ⟨by rw [zipD_len] at hl; omega, vs, ws, q1, q2, e⟩⟩
  obtain ⟨x, y, hx, hy, rfl⟩ := zipD_get hd
  have lx := (List.getElem?_eq_some_iff.mp hx).1
  have ly := (List.getElem?_eq_some_iff.mp hy).1
  refine ⟨⟨by omega, vs, ws, q1, q2, e⟩, fun z H' yl => ?_⟩
  obtain ⟨Tt, x', y', rfl, hT, rfl, f1, f2⟩ := yl
  obtain ⟨d1', z1, z2⟩ := r1.get' (f1 vs q1)
  obtain ⟨d2', z3, z4⟩ := r2.get' (f2 ws q2)
  rw [hx] at z1
  rw [hy] at z3
  cases z1
  cases z3
  exact ⟨Ext.new hT, Rp.newT dom hT (.cons z2 (.cons z4 .nil))⟩
theorem wk_enumS (K : PySem.W.Frag) (z : List Nat) (hc : ∀ c ∈ z, c < 0x110000) : Wk K T (ItN z) [] (enumD 0 (z.map fun c => D.str [c])) := fun m H N dom pins => by
  refine ⟨fun d hd => ?_, fun hl => by rw [enumD_len, List.length_map] at hl; exact hl⟩
  obtain ⟨x, hx, rfl⟩ := enumD_get hd
  rw [List.getElem?_map, Option.map_eq_some_iff] at hx
  obtain ⟨c, hc1, rfl⟩ := hx
  have lx := (List.getElem?_eq_some_iff.mp hc1).1
  refine ⟨lx, fun v H' yl => ?_⟩
  obtain ⟨Tt, c', rfl, hT, rfl, f1⟩ := yl
  rw [hc1] at f1
  cases f1
  rw [Nat.zero_add]
  exact ⟨Ext.new hT, Rp.newT dom hT (.cons (.int _) (.cons (.str [c] (fun q hq => by rw [List.mem_singleton] at hq; rw [hq]; exact hc c (List.mem_of_getElem? hc1)) (by show 1 ≤ sizeLine; decide)) .nil))⟩
theorem wk_enum (K : PySem.W.Frag) (a : Addr) (xs : List D) : Wk K T (Ite K a) [(.ref a, .lst xs)] (enumD 0 xs) := fun m H N dom pins => by
  have r1 := pins (.ref a, .lst xs) (by simp)
  cases r1 with
  | lst h1 h2 =>
    rename_i vs
    have s1 : SqL K H a vs := h1.sq
    refine ⟨fun d hd => ?_, fun hl => ⟨vs, s1, ?_⟩⟩
    · obtain ⟨x, hx, rfl⟩ := enumD_get hd
      obtain ⟨v, q1, q2⟩ := h2.get hx
      refine ⟨⟨vs, v, s1, q1⟩, fun z H' yl => ?_⟩
      obtain ⟨Tt, x', rfl, hT, rfl, f1⟩ := yl
      have e1 := f1 vs s1
      rw [q1] at e1
      cases e1
      rw [Nat.zero_add]
      exact ⟨Ext.new hT, Rp.newT dom hT (.cons (.int _) (.cons q2 .nil))⟩
    · rw [enumD_len] at hl
      rw [h2.length]
      exact hl
def zipF (fa fb : En → Rs D) : En → Rs D := fun ρ => (fa ρ).bind fun x => (asItems x).bind fun xs => (fb ρ).bind fun y => (asItems y).bind fun ys => .ok (.tup (zipD xs ys))
def enumF (fa : En → Rs D) : En → Rs D := fun ρ => (fa ρ).bind fun x => (asSeq x).bind fun xs => .ok (.tup (enumD 0 xs))
/-- items within more -/
theorem itemsRn {β : Type} {g : List D → Rs β} {σ : L2.St} {H : Hp} {H0 : Hp} {N0 : Hid} {pn : List (V × D)} {N : Hid} {ρ : En} {P : V → Hp → Prop} (rep : Rep X.K T H0 N0 pn H N σ ρ) (s : Safe X.K T W ((fa ρ).bind fun y => (asItems y).bind g) H σ)
    (k : ∀ x ds v H', fa ρ = .ok x → asItems x = .ok ds → Ext T H H' → Rp X.K H' N v x → Safe X.K T W (g ds) H' σ → P v H') : trC X.K T W fa σ H P := by
  refine ⟨H0, N0, pn, N, ρ, rep, s.left, fun x ex v H1 e1 r1 => ?_⟩
  obtain ⟨ds, hd⟩ := (s.right ex).left.asItems
  exact k x ds v H1 ex hd e1 r1 (((s.right ex).right hd).grow e1)
theorem x_zip {elts : List Expr} {kk : Nat} {tpos : Pos} (hg : Gl X "zip") (hm : X.mg "zip" = none) (ha : PE X a (trC X.K T W fa)) (hb : PE X b (trC X.K T W fb)) (hs : starEach [a, b] X.env = (false, eval a X.env) :: starEach [b] X.env) (hs2 : starEach [b] X.env = (false, eval b X.env) :: starEach [] X.env) :
    PI X (.Tuple elts kk tpos) (.Call (.Name "zip" p) [a, b] [] pos) (trI X.K T W (zipF fa fb)) := by
  refine impI (pi_zipG hg hm (pa_cons ha (pa_cons hb pa_nil hs2) hs) hs (by rw [hs2]; rfl)) fun σ H R h => ?_
  obtain ⟨H0, N0, pn, N, ρ, rep, s, k⟩ := h
  refine itemsRn rep s.left fun x xs v H1 ei di e1 r1 s1 => ?_
  refine itemsRn (rep.grow e1) s1 fun y ys w H2 ej dj e2 r2 s2 => ?_
  have r1' := e2.rp r1
  obtain ⟨d1, v1, f1⟩ := src_of r1' di
  obtain ⟨d2, v2, f2⟩ := src_of r2 dj
  obtain ⟨z1, q1, g1⟩ := f1 H2 N r1'
  obtain ⟨z2, q2, g2⟩ := f2 H2 N r2
  refine ⟨d1, d2, z1, z2, by rw [v1, v2], q1, q2, k (zipD xs ys) ?_ _ [(v, x), (w, y)] H2 (e1.trans e2) (fun q hq => ?_) (wk_zipG _ _ (by rw [g1.length, g2.length]) (fun H N hp => f1 H N (hp (v, x) (by simp))) (fun H N hp => f2 H N (hp (w, y) (by simp))))⟩
  · unfold zipF
    rw [ei, Rs.bind_ok, di, Rs.bind_ok, ej, Rs.bind_ok, dj]
    rfl
  · simp only [List.mem_cons, List.not_mem_nil, or_false] at hq
    rcases hq with rfl | rfl
    · exact r1'
    · exact r2
theorem x_enum {elts : List Expr} {kk : Nat} {tpos : Pos} (hg : Gl X "enumerate") (hm : X.mg "enumerate" = none) (ha : PE X a (trC X.K T W fa)) (hs : starEach [a] X.env = (false, eval a X.env) :: starEach [] X.env) :
    PI X (.Tuple elts kk tpos) (.Call (.Name "enumerate" p) [a] [] pos) (trI X.K T W (enumF fa)) := by
  refine impI (pi_enumG hg hm (pa_cons ha pa_nil hs) hs) fun σ H R h => ?_
  obtain ⟨H0, N0, pn, N, ρ, rep, s, k⟩ := h
  refine ⟨H0, N0, pn, N, ρ, rep, s.left.left, fun x ex v H1 e1 r1 => ?_⟩
  obtain ⟨ds, hd⟩ := (s.left.right ex).left.asSeq
  have ee : enumF fa ρ = .ok (.tup (enumD 0 ds)) := by
    unfold enumF
    rw [ex, Rs.bind_ok, hd]
    rfl
  cases x with
  | lst xs =>
    cases hd
    have r2 := r1
    cases r1 with
    | lst h1 h2 =>
      refine .inl ⟨_, _, rfl, h1.sq, k _ ee _ _ H1 e1 (fun q hq => ?_) (wk_enum _ _ _)⟩
      rw [List.mem_singleton] at hq
      rw [hq]
      exact r2
  | str z =>
    cases hd
    cases r1 with
    | str _ h1 h2 => exact .inr ⟨z, rfl, k _ ee _ [] H1 e1 (fun q hq => by cases hq) (wk_enumS _ z h1)⟩
  | _ => cases hd
end
end DN

set_option Elab.async false
set_option linter.all false
set_option maxRecDepth 100000
set_option maxHeartbeats 4000000
namespace DN
open PySem PySem.Spec PyProof.Rows L2
/-! ### sets of keys -/
theorem dk_snoc {α : Type} [DecidableEq α] (l : List α) (v : α) : dk (l ++ [v]) = if v ∈ dk l then dk l else dk l ++ [v] := by
  unfold dk
  rw [List.foldl_append]
  rfl
theorem dk_memF {α : Type} [DecidableEq α] (k : α) : ∀ (l r : List α), k ∈ l.foldl (fun r v => if v ∈ r then r else r ++ [v]) r ↔ k ∈ r ∨ k ∈ l
  | [], r => by simp
  | v :: l, r => by
    rw [List.foldl_cons, dk_memF k l]
    by_cases h : v ∈ r
    · rw [if_pos h]
      constructor
      · rintro (q | q)
        · exact .inl q
        · exact .inr (by simp [q])
      · rintro (q | q)
        · exact .inl q
        · rcases List.mem_cons.mp q with rfl | q
          · exact .inl h
          · exact .inr q
    · rw [if_neg h]
      simp
      constructor
      · rintro ((q | q) | q) <;> simp [q]
      · rintro (q | q | q) <;> simp [q]
theorem dk_mem {α : Type} [DecidableEq α] (l : List α) (k : α) : k ∈ dk l ↔ k ∈ l := by
  unfold dk
  rw [dk_memF]
  simp
theorem dk_len {α : Type} [DecidableEq α] : ∀ (l r : List α), (l.foldl (fun r v => if v ∈ r then r else r ++ [v]) r).length ≤ r.length + l.length
  | [], r => by simp
  | v :: l, r => by
    rw [List.foldl_cons]
    refine Nat.le_trans (dk_len l _) ?_
    split <;> simp <;> omega
theorem dk_le {α : Type} [DecidableEq α] (l : List α) : (dk l).length ≤ l.length := by
  have := dk_len l []
  simpa [dk] using this
theorem take_snoc {α : Type} {l : List α} {i : Nat} {k : α} (h : l[i]? = some k) : l.take (i + 1) = l.take i ++ [k] := by
  rw [List.take_add_one, h]
  rfl
/-- whether it is among them -/
def hasK {α : Type} [DecidableEq α] (l : List α) (k : α) : Bool := decide (k ∈ l)
theorem hasK_iff {α : Type} [DecidableEq α] (l : List α) (k : α) : hasK l k = true ↔ k ∈ l := by unfold hasK; simp
/-- in one set: no two alike are told -/
theorem dk_all {α : Type} [DecidableEq α] : ∀ (l r : List α), (r ++ l).Nodup → l.foldl (fun r v => if v ∈ r then r else r ++ [v]) r = r ++ l
  | [], r, _ => by simp
  | v :: l, r, h => by
    have hv : v ∉ r := fun q => by
      have := (List.nodup_append.mp h).2.2 v q v (by simp)
      exact this rfl
    rw [List.foldl_cons, if_neg hv, dk_all l (r ++ [v]) (by simpa using h)]
    simp
theorem dk_nodup {α : Type} [DecidableEq α] {l : List α} (h : l.Nodup) : dk l = l := by
  have := dk_all l [] (by simpa using h)
  simpa [dk] using this
theorem dk_ndF {α : Type} [DecidableEq α] : ∀ (l r : List α), r.Nodup → (l.foldl (fun r v => if v ∈ r then r else r ++ [v]) r).Nodup
  | [], r, h => h
  | v :: l, r, h => by
    rw [List.foldl_cons]
    refine dk_ndF l _ ?_
    split
    · exact h
    · rename_i q
      exact List.nodup_append.mpr ⟨h, by simp, fun a ha b hb e => by rw [List.mem_singleton] at hb; subst hb; subst e; exact q ha⟩
theorem dk_nd {α : Type} [DecidableEq α] (l : List α) : (dk l).Nodup := dk_ndF l [] (by simp)
section
variable {prog : Program} {w : World} {A : Around} {R : Result → Shared → Prop} {I : Addr} {fp wr : List Addr} {G : Array GenState → Array GenState → Prop} {n : Nat} {P : Nat → Value → Prop} {St : Nat → Shared → Prop}
theorem set_loop (W : WalksS prog w A.in1 I fp wr G n P St) (S : Addr) (nS : S ∉ fp) (ks : List Key) (hl : ks.length = n) (hb : n + 1 < scanBound) (hv : ∀ i v, P i v → ∃ k, ks[i]? = some k ∧ (mixKind prog w).is k v = true ∧ v.scannable = true) :
    ∀ (m i : Nat) (s : Shared), n - i = m → i ≤ n → St i s → s.heap.SetOf (mixKind prog w) S (hasK (ks.take i)) (dk (ks.take i)).length →
      (∀ s', Moved (S :: wr) G s s' → s'.heap.SetOf (mixKind prog w) S (hasK ks) (dk ks).length → R (.ok (.ret .none)) s') →
      codeAny (model prog w) A (.builtin "set.update.loop" ⟨[.ref S, .ref I], []⟩) R s := by
  have nW : S ∉ wr := fun h => nS (W.sub _ h)
  have sb : ∀ b ∈ wr, b ∈ S :: wr := fun b hb => List.mem_cons_of_mem _ hb
  have stay : ∀ {h h' : Heap} {f : Key → Bool} {c : Nat}, (∀ o, h.get? S = some o → h'.get? S = some o) → h.SetOf (mixKind prog w) S f c → h'.SetOf (mixKind prog w) S f c := fun k ⟨o, es, ep, t, ho, r⟩ => ⟨o, es, ep, t, k o ho, r⟩
  intro m
  induction m with
  | zero =>
    intro i s hm hi st hS hR
    obtain rfl : i = n := by omega
    refine codeAny_builtin PyProof.Rows.F.entry_set_update_loop ?_
    rw [Around.under_plainId PyProof.Rows.F.plain_set_update_loop _]
    refine wpAny_bind (W.done s _ _ st fun s' mv => wpAny_pure (hR s' (mv.mono sb) ?_))
    rw [← hl, List.take_length] at hS
    exact stay (fun o e => mv.heap S _ nW e) hS
  | succ m ih =>
    intro i s hm hi st hS hR
    have lt : i < n := by omega
    refine codeAny_builtin PyProof.Rows.F.entry_set_update_loop ?_
    rw [Around.under_plainId PyProof.Rows.F.plain_set_update_loop _]
    refine wpAny_bind (W.item i s _ _ lt st fun v s' hP st' mv => ?_)
    obtain ⟨k, hk, is, sc⟩ := hv i v hP
    have hS' := stay (fun o e => mv.heap S _ nW e) hS
    refine wpAny_bind (wpAny_holding ?_)
    unfold setAdd
    refine wpAny_holding (wpAny_bind ((mixKind prog w).pyHash is ?_))
    have room : (dk (ks.take i)).length + 1 < scanBound := by
      have := dk_le (ks.take i)
      have := List.length_take_le i ks
      omega
    refine wpAny_setAddHashed_of (knd := mixKind prog w) (s := { s' with toks := s'.toks + 1 }) is sc hS' room fun h' same hS2 => ?_
    have hS3 : h'.SetOf (mixKind prog w) S (hasK (ks.take (i + 1))) (dk (ks.take (i + 1))).length := by
      have e1 : (fun k' => hasK (ks.take i) k' || decide (k' = k)) = hasK (ks.take (i + 1)) := by
        funext k'
        rw [take_snoc hk, Bool.eq_iff_iff, Bool.or_eq_true, hasK_iff, hasK_iff, decide_eq_true_eq, List.mem_append, List.mem_singleton]
      have e2 : (if hasK (ks.take i) k = true then (dk (ks.take i)).length else (dk (ks.take i)).length + 1) = (dk (ks.take (i + 1))).length := by
        rw [take_snoc hk, dk_snoc]
        by_cases q : k ∈ ks.take i
        · rw [if_pos ((hasK_iff _ _).mpr q), if_pos ((dk_mem _ _).mpr q)]
        · rw [if_neg (fun z => q ((hasK_iff _ _).mp z)), if_neg (fun z => q ((dk_mem _ _).mp z)), List.length_append]
          rfl
      rw [← e1, ← e2]
      exact hS2
    refine wpAny_pure ⟨plainId_quiet PyProof.Rows.F.plain_set_update_loop _, ih (i + 1) _ (by omega) lt (W.frame _ s' _ _ st' (Nat.le_succ _) fun b hb o e => ?_) hS3 fun s'' mv2 hS4 => hR s'' (Moved.trans W.gtrans ((mv.mono sb).then_heap (Nat.le_succ _) fun b o hb e => ?_) mv2) hS4⟩
    · have ne : b ≠ S := fun q => nS (q ▸ hb)
      exact (same.2 b ne).trans e
    · have ne : b ≠ S := fun q => hb (by rw [q]; exact List.mem_cons_self)
      exact (same.2 b ne).trans e
end
section
variable {prog : Program} {w : World} {A : Around} {E : Value → Shared → Prop} {s : Shared}
/-- what set(v) asks of v: the walk over it -/
def SetSrc (prog : Program) (w : World) (v : Value) (ks : List Key) (h0 : Heap) : Prop := ∀ (led : Bool) (A' : Around) (R : Result → Shared → Prop) (s1 : Shared), A'.handled = none → (∀ b o, h0.get? b = some o → s1.heap.get? b = some o) → s1.heap.get? h0.objs.size = some { cls := .type "set", dict := none, data := .set #[] 0 (.fresh 0 0 led) } → s1.heap.objs.size = h0.objs.size + 1 →
    (∀ h' tk, h'.SetOf (mixKind prog w) h0.objs.size (hasK ks) (dk ks).length → (∀ b o, b < h0.objs.size → h0.get? b = some o → h'.get? b = some o) → R (.ok (.ret .none)) { s1 with heap := h', toks := tk }) →
    wpAny (model prog w) A'.in1 (Builtin.«set.__init__» ⟨[.ref h0.objs.size, v], []⟩) (fun fin s' => match fin with | .done f => R (.ok f) s' | .again c' => c'.quiet = true ∧ codeAny (model prog w) A' c' R s') (fun e s' => R (.error e) s') s1
theorem call_setK {v : Value} {ks : List Key} {Q : Value → Shared → Prop} (hh : A.handled = none) (src : SetSrc prog w v ks s.heap)
    (h : ∀ (h' : Heap) (tk : Nat), h'.SetOf (mixKind prog w) s.heap.objs.size (hasK ks) (dk ks).length → (∀ b o, b < s.heap.objs.size → s.heap.get? b = some o → h'.get? b = some o) → Q (.ref s.heap.objs.size) { s with heap := h', toks := tk }) :
    wpAny (model prog w) A (call (.type "set") [v]) Q E s := by
  obtain ⟨c, tl, hmro⟩ := PySem.F.called_set.mro
  have f1 := PySem.F.called_set.made
  have f2 := PySem.F.called_set.sub
  refine wpAny_call (codeAny_of_tree (wpAny_pure ⟨Code.quiet_builtin _ (by decide +kernel), codeAny_builtin PySem.F.entry_type_call ?_⟩))
  rw [Around.under_plain (weight_type_call_type "set" [v] []) rfl]
  have f3 := PySem.F.called_set.notType
  have f4 := PySem.F.called_set.canCreate
  have f5 := PySem.F.typeCall_set_1 v
  repeat (any_goals (first | assumption | wp_step))
  refine codeAny_mono (code_set_new_1 v (E := E) (Q₁ := fun o s₁ => ∃ led : Bool, o = .ref s.heap.objs.size ∧ s₁ = { s with heap := s.heap.push { cls := .type "set", dict := none, data := .set #[] 0 (.fresh 0 0 led) } }) fun led => ⟨led, rfl, rfl⟩) fun r s₁ hr => ?_
  cases r with
  | error e => exact hr
  | ok fl =>
    cases fl with
    | ret obj =>
      obtain ⟨led, rfl, rfl⟩ := hr
      have hS : (s.heap.push { cls := .type "set", dict := none, data := .set #[] 0 (.fresh 0 0 led) }).get? s.heap.objs.size = some { cls := .type "set", dict := none, data := .set #[] 0 (.fresh 0 0 led) } := Heap.get?_push_size _ rfl
      have hT : Shared.TypeIs { s with heap := s.heap.push { cls := .type "set", dict := none, data := .set #[] 0 (.fresh 0 0 led) } } (.ref s.heap.objs.size) "set" := ⟨_, hS, rfl⟩
      have g1 := PySem.F.called_set.init.lookup
      have g2 := PySem.F.called_set.init.bind (.ref s.heap.objs.size)
      repeat (any_goals (first | assumption | wp_step))
      refine codeAny_mono (codeAny_call_builtin (R := wants (fun r s₂ => r = .none ∧ ∃ h' tk, s₂ = { s with heap := h', toks := tk } ∧ h'.SetOf (mixKind prog w) s.heap.objs.size (hasK ks) (dk ks).length ∧ (∀ b o, b < s.heap.objs.size → s.heap.get? b = some o → h'.get? b = some o)) E) PySem.F.called_set.init.plain PySem.F.entry_set_init (check_set_init_1 hT ?_)) fun r₂ s₂ hr₂ => ?_
      · refine src led A.in1 _ _ hh (fun b o e => Heap.get?_push_of_some _ e) hS (Heap.size_push ..) fun h' tk hS' hk => ?_
        exact ⟨rfl, h', tk, rfl, hS', hk⟩
      · cases r₂ with
        | error e => exact hr₂
        | ok fl₂ =>
          cases fl₂ with
          | ret r =>
            obtain ⟨rfl, h', tk, rfl, hS', hk'⟩ := hr₂
            repeat (any_goals (first | assumption | wp_step))
            exact h _ _ hS' hk'
          | _ => exact hr₂.elim
    | _ => exact hr.elim
/-- the rest behind the iterator -/
theorem set_rest {ks : List Key} {h0 : Heap} {led : Bool} {A' : Around} {R : Result → Shared → Prop} {it : Addr} {fp wr : List Addr} {n : Nat} {P : Nat → Value → Prop} {St : Nat → Heap → Prop} {s1 : Shared} (W : Walks prog w A'.in1.in1 it fp wr n P St) (hfp : ∀ b ∈ fp, b ≠ h0.objs.size) (hwr : ∀ b ∈ wr, h0.objs.size ≤ b)
    (hl : ks.length = n) (hb : n + 1 < scanBound) (hv : ∀ i v, P i v → ∃ k, ks[i]? = some k ∧ (mixKind prog w).is k v = true ∧ v.scannable = true) (st : St 0 s1.heap) (old : ∀ b o, h0.get? b = some o → s1.heap.get? b = some o)
    (hS : s1.heap.get? h0.objs.size = some { cls := .type "set", dict := none, data := .set #[] 0 (.fresh 0 0 led) })
    (hR : ∀ h' tk, h'.SetOf (mixKind prog w) h0.objs.size (hasK ks) (dk ks).length → (∀ b o, b < h0.objs.size → h0.get? b = some o → h'.get? b = some o) → R (.ok (.ret .none)) { s1 with heap := h', toks := tk }) :
    codeAny (model prog w) A'.in1 (.builtin "set.update.loop" ⟨[.ref h0.objs.size, .ref it], []⟩) R s1 := by
  refine set_loop W.toS h0.objs.size (fun z => hfp _ z rfl) ks hl hb hv (n - 0) 0 s1 rfl (Nat.zero_le _) st ?_ fun s' mv hS' => ?_
  · exact ⟨_, #[], 0, _, hS, ⟨rfl, rfl, rfl⟩, rfl, fun e he => by simp at he, fun k => by simp [hasK], by decide, by rfl, rfl⟩
  · obtain ⟨h', g', d', tk', os'⟩ := s'
    have eg : g' = s1.gens := mv.gens
    have ed : d' = s1.drawn := mv.drawn
    have eo : os' = s1.os := mv.os
    subst eg ed eo
    refine hR h' tk' hS' fun b o hb e => mv.heap b o (fun z => ?_) (old b o e)
    rcases List.mem_cons.mp z with q | q
    · exact absurd hb (by rw [q]; exact Nat.lt_irrefl _)
    · exact absurd hb (Nat.not_lt.mpr (hwr b q))
end
theorem sub_str_set : isSubtype (.type "str") (.type "set") = pure false := by rw [isSubtype_type]; kernel_rfl
theorem sub_str_frozenset : isSubtype (.type "str") (.type "frozenset") = pure false := by rw [isSubtype_type]; kernel_rfl
theorem src_str {prog : Program} {w : World} {h0 : Heap} {z : List Nat} {t : Tok} (hz : z.length + 1 < scanBound) : SetSrc prog w (.str ⟨z.toArray⟩ t) (z.map fun c => .inr ⟨#[c]⟩) h0 := by
  intro led A' R s1 hh old hS hsz hR
  have q1 := sub_str_set
  have q2 := sub_str_frozenset
  have q3 : (Value.type "str" == Value.type "dict") = false := by decide
  unfold Builtin.«set.__init__» noKeywords Builtin.Frozenset.updateFrom
  generalize hPI : pyIter = PI
  wp_walk
  subst hPI
  have hh1 : A'.in1.in1.handled = none := hh
  refine wpAny_pyIter_str fun o St W st => wpAny_bind (wpAny_runValue ?_)
  have ge : h0.objs.size ≤ s1.heap.objs.size := by rw [hsz]; exact Nat.le_succ _
  have ne : s1.heap.objs.size ≠ h0.objs.size := by rw [hsz]; exact Nat.succ_ne_self _
  refine set_rest (ks := z.map fun c => .inr ⟨#[c]⟩) (s1 := { s1 with heap := s1.heap.push o }) (led := led) (W A'.in1.in1 hh1) (fun b hb => by rw [List.mem_singleton.mp hb]; exact ne) (fun b hb => by rw [List.mem_singleton.mp hb]; exact ge) (by simp) (by simpa using hz) (fun i v q => ?_) st (fun b o e => Heap.get?_push_of_some _ (old b o e)) (Heap.get?_push_of_some _ hS) fun h' tk a b => ?_
  · obtain ⟨c, u, q4, rfl⟩ := q
    refine ⟨.inr ⟨#[c]⟩, ?_, ?_, rfl⟩
    · have : z[i]? = some c := by simpa using q4
      rw [List.getElem?_map, this]
      rfl
    · exact mixKind_str _ _ _ _
  · exact wpAny_pure (wpAny_pure (hR h' tk a b))
theorem src_list {prog : Program} {w : World} {h0 : Heap} {l : Addr} {its : Array Value} {ks : List Key} (hl : h0.IsList l its) (hk : its.size = ks.length) (hi : ∀ (i : Nat) (v : Value), its[i]? = some v → ∃ k, ks[i]? = some k ∧ (mixKind prog w).is k v = true ∧ v.scannable = true) (hz : ks.length + 1 < scanBound) : SetSrc prog w (.ref l) ks h0 := by
  intro led A' R s1 hh old hS hsz hR
  obtain ⟨⟨oc, od, oda, osl⟩, hol, hcl, nl, hdl⟩ := hl
  dsimp only at hcl hdl
  subst hcl hdl
  have hol' := old l _ hol
  have q1 := PySem.F.sub_list_set
  have q2 := PySem.F.sub_list_frozenset
  have q3 : (Value.type "list" == Value.type "dict") = false := by decide
  have hl1 : s1.heap.IsList l its := ⟨_, hol', rfl, nl, rfl⟩
  unfold Builtin.«set.__init__» noKeywords Builtin.Frozenset.updateFrom
  generalize hPI : pyIter = PI
  wp_walk
  subst hPI
  have hh1 : A'.in1.in1.handled = none := hh
  have lt : l < h0.objs.size := Heap.lt_size hol
  refine wpAny_pyIter_list hl1 (wpAny_bind (wpAny_runValue ?_))
  have ge : h0.objs.size ≤ s1.heap.objs.size := by rw [hsz]; exact Nat.le_succ _
  have ne : s1.heap.objs.size ≠ h0.objs.size := by rw [hsz]; exact Nat.succ_ne_self _
  have nl2 : l ≠ s1.heap.objs.size := Nat.ne_of_lt (Nat.lt_of_lt_of_le lt ge)
  refine set_rest (ks := ks) (s1 := { s1 with heap := s1.heap.push { cls := .type "list_iterator", data := .fields #[.ref l, .int 0 0] } }) (led := led) (Walks.list hh1 s1.heap.objs.size l nl2 its) (fun b hb => ?_) (fun b hb => by rw [List.mem_singleton.mp hb]; exact ge) hk.symm (by rw [hk]; exact hz) hi ⟨⟨_, Heap.get?_push_size _ rfl, rfl, rfl⟩, hl1.push _⟩ (fun b o e => Heap.get?_push_of_some _ (old b o e)) (Heap.get?_push_of_some _ hS) fun h' tk a b => wpAny_pure (wpAny_pure (hR h' tk a b))
  have : b = s1.heap.objs.size ∨ b = l := by simpa using hb
  rcases this with q | q
  · rw [q]; exact ne
  · rw [q]; exact Nat.ne_of_lt lt
theorem sub_tuple_set : isSubtype (.type "tuple") (.type "set") = pure false := by rw [isSubtype_type]; kernel_rfl
theorem sub_tuple_frozenset : isSubtype (.type "tuple") (.type "frozenset") = pure false := by rw [isSubtype_type]; kernel_rfl
theorem src_tuple {prog : Program} {w : World} {h0 : Heap} {l : Addr} {its : Array Value} {ks : List Key} (hl : h0.IsTuple l its) (hk : its.size = ks.length) (hi : ∀ (i : Nat) (v : Value), its[i]? = some v → ∃ k, ks[i]? = some k ∧ (mixKind prog w).is k v = true ∧ v.scannable = true) (hz : ks.length + 1 < scanBound) : SetSrc prog w (.ref l) ks h0 := by
  intro led A' R s1 hh old hS hsz hR
  obtain ⟨⟨oc, od, oda, osl⟩, hol, hcl, nl, hdl⟩ := hl
  dsimp only at hcl hdl
  subst hcl hdl
  have hol' := old l _ hol
  have q1 := sub_tuple_set
  have q2 := sub_tuple_frozenset
  have q3 : (Value.type "tuple" == Value.type "dict") = false := by decide
  have hl1 : s1.heap.IsTuple l its := ⟨_, hol', rfl, nl, rfl⟩
  unfold Builtin.«set.__init__» noKeywords Builtin.Frozenset.updateFrom
  generalize hPI : pyIter = PI
  wp_walk
  subst hPI
  have hh1 : A'.in1.in1.handled = none := hh
  have lt : l < h0.objs.size := Heap.lt_size hol
  refine wpAny_pyIter_tuple hl1 (wpAny_bind (wpAny_runValue ?_))
  have ge : h0.objs.size ≤ s1.heap.objs.size := by rw [hsz]; exact Nat.le_succ _
  have ne : s1.heap.objs.size ≠ h0.objs.size := by rw [hsz]; exact Nat.succ_ne_self _
  have nl2 : l ≠ s1.heap.objs.size := Nat.ne_of_lt (Nat.lt_of_lt_of_le lt ge)
  refine set_rest (ks := ks) (s1 := { s1 with heap := s1.heap.push { cls := .type "tuple_iterator", data := .fields #[.ref l, .int 0 0] } }) (led := led) (Walks.tuple hh1 s1.heap.objs.size l nl2 its) (fun b hb => ?_) (fun b hb => by rw [List.mem_singleton.mp hb]; exact ge) hk.symm (by rw [hk]; exact hz) hi ⟨⟨_, Heap.get?_push_size _ rfl, rfl, rfl⟩, hl1.push _⟩ (fun b o e => Heap.get?_push_of_some _ (old b o e)) (Heap.get?_push_of_some _ hS) fun h' tk a b => wpAny_pure (wpAny_pure (hR h' tk a b))
  have : b = s1.heap.objs.size ∨ b = l := by simpa using hb
  rcases this with q | q
  · rw [q]; exact ne
  · rw [q]; exact Nat.ne_of_lt lt
/-! ### len(set(..)) -/
theorem dk_mapF {α β : Type} [DecidableEq α] [DecidableEq β] {f : α → β} (inj : ∀ a b, f a = f b → a = b) : ∀ (l r : List α), (l.map f).foldl (fun r v => if v ∈ r then r else r ++ [v]) (r.map f) = (l.foldl (fun r v => if v ∈ r then r else r ++ [v]) r).map f
  | [], r => rfl
  | v :: l, r => by
    rw [List.map_cons, List.foldl_cons, List.foldl_cons]
    by_cases h : v ∈ r
    · rw [if_pos h, if_pos (List.mem_map_of_mem h), dk_mapF inj l r]
    · rw [if_neg h, if_neg (fun q => by
        obtain ⟨a, ha, e⟩ := List.mem_map.mp q
        rw [inj _ _ e] at ha
        exact h ha), ← dk_mapF inj l (r ++ [v])]
      simp
theorem dk_map {α β : Type} [DecidableEq α] [DecidableEq β] {f : α → β} (inj : ∀ a b, f a = f b → a = b) (l : List α) : dk (l.map f) = (dk l).map f := dk_mapF inj l []
theorem kS_inj : ∀ a b : DK, kS a = kS b → a = b
  | .inl i, .inl j, h => by cases h; rfl
  | .inr x, .inr y, h => by
    have h1 : (⟨x.toArray⟩ : Str) = ⟨y.toArray⟩ := Sum.inr.inj h
    have h2 : x.toArray = y.toArray := congrArg Str.cps h1
    rw [show x = y by simpa using h2]
  | .inl _, .inr _, h => by cases h
  | .inr _, .inl _, h => by cases h
theorem rp_key {K : PySem.W.Frag} {H : Hp} {N : Hid} {v : V} {d : D} {k : DK} (h : keyOf d = some k) (r : Rp K H N v d) : v = kV (kS k) := by
  cases d <;> simp only [keyOf, reduceCtorEq] at h
  · cases h; cases r; rfl
  · cases h; cases r; rfl
theorem rps_keys {K : PySem.W.Frag} {H : Hp} {N : Hid} : ∀ {ds : List D} {vs : List V} {ks : List DK}, keysOf ds = some ks → RpAll K H N vs ds → vs = (ks.map kS).map kV
  | [], _, _, h, r => by cases h; cases r; rfl
  | d :: ds, _, ks, h, r => by
    cases r with
    | cons r1 r2 =>
      simp only [keysOf, Option.bind_eq_some_iff, Option.map_eq_some_iff] at h
      obtain ⟨k, h1, ks', h2, rfl⟩ := h
      rw [rp_key h1 r1, rps_keys h2 r2]
      rfl
theorem kV_scan {k : Key} {u : Value} (r : RelV (kV k) u) : u.scannable = true := by
  cases k with
  | inl i => obtain ⟨t, rfl⟩ := r; rfl
  | inr x => obtain ⟨t, rfl⟩ := r; rfl
section
variable {X : Cx} {T : List (Addr × Str)} {W : WX} {pos p : Pos} {a : Expr} {fa : En → Rs D}
theorem keys_at {ks : List Key} {its : List Value} (r : Vals (ks.map kV) its) {P : Program} {w : World} (i : Nat) (v : Value) (h : its.toArray[i]? = some v) : ∃ k, ks[i]? = some k ∧ (mixKind P w).is k v = true ∧ v.scannable = true := by
  obtain ⟨x, e, q⟩ := vals_at r h
  rw [List.getElem?_map, Option.map_eq_some_iff] at e
  obtain ⟨k, e, rfl⟩ := e
  exact ⟨k, e, kV_is q, kV_scan q⟩
def lsetF (f : En → Rs D) : En → Rs D := fun ρ => (f ρ).bind fun x => .of (lsetSem x)
theorem boot_set2 : bootBuiltins "set" = some (.type "set") := by decide +kernel
theorem x_lset {p2 q : Pos} (hc : X.calm = true) (hg : Gl X "len") (hm : X.mg "len" = none) (hg2 : Gl X "set") (hm2 : X.mg "set" = none) (ha : PE X a (trO X.K T W fa)) (na : starEach [a] X.env = (false, eval a X.env) :: starEach [] X.env) :
    PE X (.Call (.Name "len" p) [.Call (.Name "set" p2) [a] [] q] [] pos) (trC X.K T W (lsetF fa)) := by
  refine ⟨fun pins s σ H Q I h => ?_⟩
  obtain ⟨H0, N0, pn, N, ρ, rep, sf, k⟩ := h
  refine Call_ (ld_blt I hg hm boot_len ?_)
  refine PyProof.Rows.callWith_builtin1 (PyProof.Rows.args_cons ?_ rfl) rfl rfl
  refine Call_ (ld_blt I hg2 hm2 boot_set2 ?_)
  have run := ha.run pins s σ H (fun v H1 => ∃ x, fa ρ = .ok x ∧ Ext T H H1 ∧ RpO X.K H1 N v x) I ⟨H0, N0, pn, N, ρ, rep, sf.left, fun x ex v H1 e1 r1 => ⟨x, ex, e1, r1⟩⟩
  refine PyProof.Rows.callWith_type1 (PyProof.Rows.args_cons (thn run fun u s1 ⟨v, H1, I1, rv, x, ex, e1, r1⟩ => PyProof.Rows.args_nil ?_) na) na rfl
  obtain ⟨d, ed⟩ := (sf.right ex).of
  have ee : lsetF fa ρ = .ok d := by
    unfold lsetF
    rw [ex, Rs.bind_ok, ed]
    rfl
  have fin : ∀ (ks : List Key), d = .int (dk ks).length → ks.length < 1000 → SetSrc X.prog X.w u ks s1.heap → wpAny (model X.prog X.w) X.A (call (.type "set") [u]) (fun v s₂ => wpAny (model X.prog X.w) X.A (spliced (backTo pos (starEach [] X.env))) (fun vs s₂ => wpAny (model X.prog X.w) X.A (call (.builtin "len") (v :: vs)) (EP X pins σ Q) X.xe s₂) X.xe s₂) X.xe s1 := fun ks hd hl src => by
    refine call_setK (I1.ok.hd hc) src fun h' tk hS hk => PyProof.Rows.args_nil ?_
    obtain ⟨o, es, ep, t, ho, hex, hdt, _, _, _, hf, hn⟩ := hS
    have I2 : Inv X pins σ H1 { s1 with heap := h', toks := tk } := I1.kept fun b o e => hk b o (Heap.lt_size e) e
    have hsm : (dk ks).length < 1000 := Nat.lt_of_le_of_lt (dk_le ks) hl
    refine call_len_set ho hex hdt hf (by rw [hn]; omega) ⟨.int (dk ks).length, H1, I2.tok _, ⟨_, by rw [hn]⟩, k d ee _ H1 e1 (by rw [hd]; exact .int _)⟩
  have sb : (scanBound : Nat) = 4096 := rfl
  cases x with
  | str l =>
    simp only [lsetSem] at ed
    split at ed
    · rename_i hl
      cases ed
      obtain ⟨ez, hcd, hsz⟩ := r1.str
      subst ez
      obtain ⟨t, rfl⟩ := rv
      refine fin (l.map fun c => .inr ⟨#[c]⟩) ?_ (by simpa using hl) (src_str (by omega))
      rw [dk_map (fun a b e => by
        have h1 : (⟨#[a]⟩ : Str) = ⟨#[b]⟩ := Sum.inr.inj e
        have h2 : (#[a] : Array Nat) = #[b] := congrArg Str.cps h1
        simpa using h2)]
      simp
    · cases ed
  | lst ds =>
    simp only [lsetSem, Option.bind_eq_some_iff] at ed
    obtain ⟨ks, hks, ed⟩ := ed
    split at ed
    · rename_i hl
      cases ed
      obtain ⟨b, xs, ez, hq, rs⟩ := r1.sqL
      subst ez
      cases rv
      have ev := rps_keys hks rs
      rw [ev] at hq
      obtain ⟨its, r, pl, hz⟩ := I1.list (.inl (.inl hq))
      refine fin (ks.map kS) ?_ (by simpa using hl) (src_list pl.isList (by rw [List.size_toArray, ← r.length]; simp) (fun i v h => keys_at r i v h) (by simp; omega))
      rw [dk_map kS_inj]
      simp
    · cases ed
  | tup ds =>
    simp only [lsetSem, Option.bind_eq_some_iff] at ed
    obtain ⟨ks, hks, ed⟩ := ed
    split at ed
    · rename_i hl
      cases ed
      obtain ⟨b, xs, ez, hq, rs⟩ := r1.sqT
      subst ez
      cases rv
      have ev := rps_keys hks rs
      rw [ev] at hq
      obtain ⟨its, r, pl, hz⟩ := I1.tuple hq.sq
      refine fin (ks.map kS) ?_ (by simpa using hl) (src_tuple pl (by rw [List.size_toArray, ← r.length]; simp) (fun i v h => keys_at r i v h) (by simp; omega))
      rw [dk_map kS_inj]
      simp
    · cases ed
  | _ => simp only [lsetSem, reduceCtorEq] at ed
end
end DN

set_option Elab.async false
set_option linter.all false
set_option maxRecDepth 100000
set_option maxHeartbeats 3200000
namespace DN
open PySem PySem.Spec PyProof.Rows L2
/-! ### sorted(set(xs)) of ints -/
section
variable {prog : Program} {w : World} {A : Around} {E : Value → Shared → Prop} {s : Shared}
theorem ints_at {its : Array Value} {ns : List Int} (hi : IntsAre its.toList ns) (i : Nat) (v : Value) (hv0 : its[i]? = some v) : ∃ k t, ns[i]? = some k ∧ v = .int k t := by
  have hv : its.toList[i]? = some v := by simpa using hv0
  clear hv0
  generalize its.toList = l at hi hv
  induction hi generalizing i with
  | nil => simp at hv
  | cons n t h ih =>
    cases i with
    | zero =>
      simp at hv
      exact ⟨n, t, rfl, hv.symm⟩
    | succ i => simpa using ih i (by simpa using hv)
theorem src_listI {h0 : Heap} {l : Addr} {its : Array Value} {ns : List Int} (hl : h0.IsList l its) (hi : IntsAre its.toList ns) (hsz0 : its.size = ns.length) (hb : ns.length + 1 < scanBound)
    {A' : Around} {R : Result → Shared → Prop} {s1 : Shared} (hh : A'.handled = none) (old : ∀ b o, h0.get? b = some o → s1.heap.get? b = some o) (hS : s1.heap.get? h0.objs.size = some { cls := .type "set", dict := none, data := .set #[] 0 (.fresh 0 0 (!w.params.followText "set-order")) }) (hsz : s1.heap.objs.size = h0.objs.size + 1)
    (hR : ∀ h' tk c, SetR w h' h0.objs.size (fun j => decide (j ∈ ns)) c → c ≤ ns.length → (∀ b o, h0.get? b = some o → h'.get? b = some o) → R (.ok (.ret .none)) { s1 with heap := h', toks := tk }) :
    wpAny (model prog w) A'.in1 (Builtin.«set.__init__» ⟨[.ref h0.objs.size, .ref l], []⟩) (fun fin s' => match fin with | .done f => R (.ok f) s' | .again c' => c'.quiet = true ∧ codeAny (model prog w) A' c' R s') (fun e s' => R (.error e) s') s1 := by
  obtain ⟨⟨oc, od, oda, osl⟩, hol, hcl, nl, hdl⟩ := hl
  dsimp only at hcl hdl
  subst hcl hdl
  have hol' := old l _ hol
  have q1 := PySem.F.sub_list_set
  have q2 := PySem.F.sub_list_frozenset
  have q3 : (Value.type "list" == Value.type "dict") = false := by decide
  have hl1 : s1.heap.IsList l its := ⟨_, hol', rfl, nl, rfl⟩
  unfold Builtin.«set.__init__» noKeywords Builtin.Frozenset.updateFrom
  generalize hPI : pyIter = PI
  wp_walk
  subst hPI
  have hh1 : A'.in1.in1.handled = none := hh
  have lt : l < h0.objs.size := Heap.lt_size hol
  have ge : h0.objs.size ≤ s1.heap.objs.size := by rw [hsz]; exact Nat.le_succ _
  have nl2 : l ≠ s1.heap.objs.size := Nat.ne_of_lt (Nat.lt_of_lt_of_le lt ge)
  refine wpAny_pyIter_list hl1 (wpAny_bind (wpAny_runValue ?_))
  refine set_update_ints (s := { s1 with heap := s1.heap.push { cls := .type "list_iterator", data := .fields #[.ref l, .int 0 0] } }) (Walks.list (prog := prog) (w := w) hh1 s1.heap.objs.size l nl2 its).toS h0.objs.size (fun z => ?_) ns hsz0 hb (fun i v hv => ?_) (its.size - 0) 0 rfl (Nat.zero_le _) ⟨⟨_, Heap.get?_push_size _ rfl, rfl, rfl⟩, hl1.push _⟩ ⟨0, Nat.le_refl _, setR_new_at (Heap.get?_push_of_some _ hS)⟩ fun s' c mv hc R => ?_
  · have : h0.objs.size = s1.heap.objs.size ∨ h0.objs.size = l := by simpa using z
    rw [hsz] at this
    rcases this with q | q
    · exact Nat.ne_of_lt (Nat.lt_succ_self _) q
    · rw [q] at lt; exact Nat.lt_irrefl _ lt
  · have hv : its[i]? = some v := by simpa using hv
    exact ints_at hi i v hv
  · obtain ⟨h', g', d', tk', os'⟩ := s'
    have eg : g' = s1.gens := mv.gens
    have ed : d' = s1.drawn := mv.drawn
    have eo : os' = s1.os := mv.os
    subst eg ed eo
    refine wpAny_pure (wpAny_pure (hR h' tk' c R (by omega) fun b o e => mv.heap b o (fun z => ?_) (Heap.get?_push_of_some _ (old b o e))))
    have hlt := Heap.lt_size e
    have : b = h0.objs.size ∨ b = s1.heap.objs.size := by simpa using z
    rw [hsz] at this
    rcases this with q | q
    · rw [q] at hlt; exact Nat.lt_irrefl _ hlt
    · rw [q] at hlt; exact Nat.lt_irrefl _ (Nat.lt_trans hlt (Nat.lt_succ_self _))
theorem call_set_listI {l : Addr} {its : Array Value} (ns : List Int) {Q : Value → Shared → Prop} (hh : A.handled = none) (hl : s.heap.IsList l its) (hi : IntsAre its.toList ns) (hb : ns.length + 1 < scanBound)
    (h : ∀ (h' : Heap) (tk c : Nat), SetR w h' s.heap.objs.size (fun j => decide (j ∈ ns)) c → c ≤ ns.length → (∀ b o, s.heap.get? b = some o → h'.get? b = some o) → Q (.ref s.heap.objs.size) { s with heap := h', toks := tk }) :
    wpAny (model prog w) A (call (.type "set") [.ref l]) Q E s := by
  have hsz : its.size = ns.length := by
    have q := IntsAre.length hi
    rw [Array.length_toList] at q
    exact q
  obtain ⟨c, tl, hmro⟩ := PySem.F.called_set.mro
  have f1 := PySem.F.called_set.made
  have f2 := PySem.F.called_set.sub
  refine wpAny_call (codeAny_of_tree (wpAny_pure ⟨Code.quiet_builtin _ (by decide +kernel), codeAny_builtin PySem.F.entry_type_call ?_⟩))
  rw [Around.under_plain (weight_type_call_type "set" [.ref l] []) rfl]
  have f3 := PySem.F.called_set.notType
  have f4 := PySem.F.called_set.canCreate
  have f5 := PySem.F.typeCall_set_1 (.ref l)
  repeat (any_goals (first | assumption | wp_step))
  generalize hO : ({ cls := .type "set", dict := none, data := .set #[] 0 (.fresh 0 0 (!w.params.followText "set-order")) } : Obj) = O
  refine codeAny_mono (code_set_led1 (.ref l) (E := E) (Q₁ := fun o s₁ => o = .ref s.heap.objs.size ∧ s₁ = { s with heap := s.heap.push O }) ⟨rfl, by rw [hO]⟩) fun r s₁ hr => ?_
  cases r with
  | error e => exact hr
  | ok fl =>
    cases fl with
    | ret obj =>
      obtain ⟨rfl, rfl⟩ := hr
      have hS : (s.heap.push O).get? s.heap.objs.size = some O := Heap.get?_push_size _ (by rw [← hO]; rfl)
      have hT : Shared.TypeIs { s with heap := s.heap.push O } (.ref s.heap.objs.size) "set" := ⟨_, hS, by rw [← hO]⟩
      have g1 := PySem.F.called_set.init.lookup
      have g2 := PySem.F.called_set.init.bind (.ref s.heap.objs.size)
      repeat (any_goals (first | assumption | wp_step))
      refine codeAny_mono (codeAny_call_builtin (R := wants (fun r s₂ => r = .none ∧ ∃ h' tk c, s₂ = { s with heap := h', toks := tk } ∧ SetR w h' s.heap.objs.size (fun j => decide (j ∈ ns)) c ∧ c ≤ ns.length ∧ (∀ b o, s.heap.get? b = some o → h'.get? b = some o)) E) PySem.F.called_set.init.plain PySem.F.entry_set_init (check_set_init_1 hT ?_)) fun r₂ s₂ hr₂ => ?_
      · refine src_listI (l := l) (ns := ns) hl hi hsz hb hh (fun b o e => Heap.get?_push_of_some _ e) (by rw [← hO] at hS ⊢; exact hS) (Heap.size_push ..) fun h' tk c a1 a2 a3 => ?_
        exact ⟨rfl, h', tk, c, rfl, a1, a2, a3⟩
      · cases r₂ with
        | error e => exact hr₂
        | ok fl₂ =>
          cases fl₂ with
          | ret r =>
            obtain ⟨rfl, h', tk, c, rfl, R, hc, hk'⟩ := hr₂
            repeat (any_goals (first | assumption | wp_step))
            exact h _ _ _ R hc hk'
          | _ => exact hr₂.elim
    | _ => exact hr.elim
end
theorem sset_uniq {ns l : List Int} (h : l.Pairwise (· < ·)) (m : ∀ k, k ∈ l ↔ k ∈ ns) : l = srtI (dk ns) := by
  have nd : l.Nodup := h.imp (fun a => Int.ne_of_lt a)
  have nd2 : (dk ns).Nodup := dk_nd ns
  have p : l.Perm (dk ns) := (List.perm_ext_iff_of_nodup nd nd2).mpr fun k => by rw [m, dk_mem]
  exact srt_uniq (r := fun a b : Int => a ≤ b) (fun a b => Int.le_antisymm) (p.trans (srtI_perm _).symm) (h.imp (fun a => Int.le_of_lt a)) (srtI_sorted _)
section
variable {X : Cx} {T : List (Addr × Str)} {W : WX} {pos p : Pos} {a : Expr} {fa : En → Rs D}
def ssetF (f : En → Rs D) : En → Rs D := fun ρ => (f ρ).bind fun x => .of (ssetSem x)
theorem boot_sorted2 : bootBuiltins "sorted" = some (.builtin "sorted") := by decide +kernel
theorem sorted_fin {pins : List (Addr × Obj)} {σ : L2.St} {H1 : Hp} {s1 : Shared} {Q : VK} {b : Addr} {ns : List Int} {c : Nat} (hc : X.calm = true) (I2 : L2.Inv X pins σ H1 s1) (R : SetR X.w s1.heap b (fun j => decide (j ∈ ns)) c) (h64 : c < 64)
    (k : ∀ p, H1 p = none → Q (.ref p) (upd H1 p (.lst ((srtI (dk ns)).map V.int)))) : wpAny (model X.prog X.w) X.A (call (.builtin "sorted") [.ref b]) (EP X pins σ Q) X.xe s1 := by
  refine sorted_set R (I2.ok.hd hc) h64 fun s' p out c' l k' g o hp hg' hi' hs hm' hll => ?_
  have el : l = srtI (dk ns) := sset_uniq hs fun j => by rw [hm']; simp
  have hlen : (l.map V.int).length ≤ sizeLine := by rw [List.length_map, hll, sizeLine_eq]; omega
  have hn : H1 p = none := I2.hok.fresh hp
  have J : L2.Inv X pins σ (upd H1 p (.lst (l.map V.int))) { s1 with heap := s'.heap, gens := s'.gens, drawn := s'.drawn, toks := s'.toks } :=
    I2.call (ch := []) (Un.laid k' hp hn) (I2.hok.laid k' hp ⟨hlen, out.toList, c', vals_of_ints hi', hg'⟩) (by rw [g]; exact I2.bare) (fun _ z => nomatch z)
  have e : s' = { s1 with heap := s'.heap, gens := s'.gens, drawn := s'.drawn, toks := s'.toks } := by
    cases s'
    cases s1
    cases o
    rfl
  rw [e]
  exact ⟨.ref p, _, J, rfl, by rw [← el] at k; exact k p hn⟩
theorem x_sset {p2 q : Pos} (hc : X.calm = true) (hg : Gl X "sorted") (hm : X.mg "sorted" = none) (hg2 : Gl X "set") (hm2 : X.mg "set" = none) (ha : PE X a (trO X.K T W fa)) (na : starEach [a] X.env = (false, eval a X.env) :: starEach [] X.env) :
    PE X (.Call (.Name "sorted" p) [.Call (.Name "set" p2) [a] [] q] [] pos) (trC X.K T W (ssetF fa)) := by
  refine ⟨fun pins s σ H Q I h => ?_⟩
  obtain ⟨H0, N0, pn, N, ρ, rep, sf, k⟩ := h
  refine Call_ (ld_blt I hg hm boot_sorted2 ?_)
  refine PyProof.Rows.callWith_builtin1 (PyProof.Rows.args_cons ?_ rfl) rfl rfl
  refine Call_ (ld_blt I hg2 hm2 boot_set2 ?_)
  have run := ha.run pins s σ H (fun v H1 => ∃ x, fa ρ = .ok x ∧ Ext T H H1 ∧ RpO X.K H1 N v x) I ⟨H0, N0, pn, N, ρ, rep, sf.left, fun x ex v H1 e1 r1 => ⟨x, ex, e1, r1⟩⟩
  refine PyProof.Rows.callWith_type1 (PyProof.Rows.args_cons (thn run fun u s1 ⟨v, H1, I1, rv, x, ex, e1, r1⟩ => PyProof.Rows.args_nil ?_) na) na rfl
  obtain ⟨d, ed⟩ := (sf.right ex).of
  have ee : ssetF fa ρ = .ok d := by
    unfold ssetF
    rw [ex, Rs.bind_ok, ed]
    rfl
  have sb : (scanBound : Nat) = 4096 := rfl
  cases x with
  | lst ds =>
    simp only [ssetSem, Option.bind_eq_some_iff] at ed
    obtain ⟨ns, hns, ed⟩ := ed
    split at ed
    · rename_i hl
      cases ed
      obtain ⟨b, xs, ez, hq, rs⟩ := r1.sqL
      subst ez
      cases rv
      have ev := (by have := intsOf_eq hns; subst this; exact rs.ints : xs = ns.map V.int)
      rw [ev] at hq
      obtain ⟨its, r, pl, hz⟩ := I1.list (.inl (.inl hq))
      have hi := intsAre_of r
      refine call_set_listI ns (I1.ok.hd hc) pl.isList (by simpa using hi) (by omega) fun h' tk c R hcl hk => PyProof.Rows.args_nil ?_
      have I2 : Inv X pins σ H1 { s1 with heap := h', toks := tk } := I1.kept fun b o e => hk b o e
      refine sorted_fin hc I2 R (by omega) fun p hn => ?_
      exact k _ ee _ _ (e1.trans (Ext.new hn)) (Rp.newL (rep.dom.ext e1) hn (RpAll.of_ints _))
    · cases ed
  | _ => simp only [ssetSem, reduceCtorEq] at ed
end
end DN

set_option Elab.async false
set_option linter.all false
set_option maxRecDepth 100000
set_option maxHeartbeats 1600000
namespace DN
open PySem PySem.Spec PyProof.Rows L2
/-! ### list(range(a, b, -1)) -/
def rdV (a b : Int) : List V := (List.range (a - b).toNat).map fun i => V.int (a - (i : Nat))
theorem rdV_length (a b : Int) : (rdV a b).length = (a - b).toNat := by unfold rdV; rw [List.length_map, List.length_range]
theorem vals_rd {a b : Int} {acc : Array Value} (h : ItemsOf (fun i v => ∃ t, v = .int (a + i * (-1)) t) acc (a - b).toNat) : Vals (rdV a b) acc.toList := by
  have e : acc.toList.length = (a - b).toNat := by rw [Array.length_toList]; exact h.1
  unfold rdV
  rw [← e]
  refine vals_of_get acc.toList _ fun j u hj => ?_
  obtain ⟨t, rfl⟩ := h.2 j u (by rw [← hj, Array.getElem?_toList])
  exact ⟨t, by rw [show a + (j : Int) * (-1) = a - (j : Int) by omega]⟩
section
variable {X : Cx} {T : List (Addr × Str)} {W : WX} {pos p : Pos} {a b c : Expr} {fa fb fc : En → Rs D} {ta tb tc : TE}
theorem wk_rngd (K : PySem.W.Frag) (i j : Int) : Wk K T (Itc i (-1) (i - j).toNat) [] (rdL i j) := fun m H N dom pins => by
  refine ⟨fun d hd => ?_, fun hl => ?_⟩
  · unfold rdL at hd
    have hl : m < (i - j).toNat := by
      have := (List.getElem?_eq_some_iff.mp hd).1
      simpa using this
    rw [List.getElem?_map, List.getElem?_range hl] at hd
    obtain rfl := (Option.some.inj hd).symm
    refine ⟨hl, fun x H' y => ?_⟩
    obtain ⟨rfl, rfl⟩ := y
    refine ⟨Ext.refl _, ?_⟩
    rw [show i + (m : Int) * (-1) = i - (m : Int) by omega]
    exact .int _
  · unfold rdL at hl
    rw [List.length_map, List.length_range] at hl
    exact hl
def rngdF (fa fb fc : En → Rs D) : En → Rs D := fun ρ => (fa ρ).bind fun x => (asI x).bind fun i => (fb ρ).bind fun y => (asI y).bind fun j => (fc ρ).bind fun z => (asI z).bind fun k => if decide (k = -1) && rgOk j i then .ok (.tup (rdL i j)) else .bad
theorem x_rngd {tg : Expr} (hg : Gl X "range") (hm : X.mg "range" = none) (ha : PE X a (trC X.K T W fa)) (hb : PE X b (trC X.K T W fb)) (hc : PE X c (trC X.K T W fc)) (na : starEach [a, b, c] X.env = (false, eval a X.env) :: starEach [b, c] X.env)
    (nb : starEach [b, c] X.env = (false, eval b X.env) :: starEach [c] X.env) (nc : starEach [c] X.env = (false, eval c X.env) :: starEach [] X.env) :
    PI X tg (.Call (.Name "range" p) [a, b, c] [] pos) (trI X.K T W (rngdF fa fb fc)) := by
  refine impI (pi_range3 hg hm (pa_cons ha (pa_cons hb (pa_cons hc pa_nil nc) nb) na) na (by rw [nb, nc]; rfl)) fun σ H R h => ?_
  obtain ⟨H0, N0, pn, N, ρ, rep, s, k⟩ := h
  refine intR rep s.left fun i H1 ei e1 s1 => ?_
  refine intR (rep.grow e1) s1 fun j H2 ej e2 s2 => ?_
  refine intR ((rep.grow e1).grow e2) s2 fun m H3 em e3 s3 => ?_
  have hk := s3.cond
  have hk2 := hk
  simp only [Bool.and_eq_true, decide_eq_true_eq] at hk
  have hr := rgOk_iff hk.2
  obtain rfl := hk.1
  refine ⟨i, j, -1, (i - j).toNat, rfl, RgC.neg (by omega) (by omega) (by omega) (by omega), ?_⟩
  refine k (rdL i j) ?_ _ [] H3 ((e1.trans e2).trans e3) (fun _ hp => absurd hp (by simp)) (wk_rngd X.K i j)
  unfold rngdF
  rw [ei, ej, em]
  show (if decide ((-1 : Int) = -1) && rgOk j i then Rs.ok (D.tup (rdL i j)) else .bad) = _
  rw [if_pos hk2]
/-- an expression that makes a falling range -/
def PRgD (X : Cx) (e : Expr) (t : L2.St → Hp → (Int → Int → Hp → Prop) → Prop) : Prop :=
  ∀ (pins : List (Addr × Obj)) (s : Shared) (σ : L2.St) (H : Hp) (Q : Int → Int → Hp → Prop), L2.Inv X pins σ H s → t σ H Q →
    wpAny (model X.prog X.w) X.A (eval e X.env) (fun x s' => ∃ r a b t u v H', x = .ref r ∧ IsRange s'.heap r a b (-1) t u v ∧ L2.Inv X pins σ H' s' ∧ Q a b H') X.xe s
def tRgD (ta tb tc : TE) : L2.St → Hp → (Int → Int → Hp → Prop) → Prop := fun σ H Q => ta σ H fun x H1 => tb σ H1 fun y H2 => tc σ H2 fun z H3 => ∃ i j, x = .int i ∧ y = .int j ∧ z = .int (-1) ∧ Q i j H3
theorem prg_D {p pos : Pos} (hg : Gl X "range") (hm : X.mg "range" = none) (ha : PE X a ta) (hb : PE X b tb) (hc : PE X c tc) (na : starEach [a, b, c] X.env = (false, eval a X.env) :: starEach [b, c] X.env)
    (nb : starEach [b, c] X.env = (false, eval b X.env) :: starEach [c] X.env) (nc : starEach [c] X.env = (false, eval c X.env) :: starEach [] X.env) (hp : (backTo pos (starEach [b, c] X.env)).any (·.1) = false) : PRgD X (.Call (.Name "range" p) [a, b, c] [] pos) (tRgD ta tb tc) := by
  intro pins s σ H Q I h
  refine Call_ (ld_blt I hg hm boot_range (PyProof.Rows.callWith_type1 (args_cons (thn (ha.run pins s σ H _ I h) fun v s1 ⟨x, H1, I1, r1, q1⟩ => args_cons (thn (hb.run pins s1 σ H1 _ I1 q1) fun v2 s2 ⟨y, H2, I2, r2, q2⟩ => one_arg hc I2 q2 (fun u s3 z H3 I3 r3 q => ?_) nc) nb) na) na hp))
  obtain ⟨i, j, rfl, rfl, rfl, q⟩ := q
  obtain ⟨t, rfl⟩ := r1
  obtain ⟨t', rfl⟩ := r2
  obtain ⟨t'', rfl⟩ := r3
  exact call_range_3 (by decide) ⟨_, i, j, _, _, _, H3, rfl, IsRange.new _ _ _ _ _ _ _, I3.kept fun b u e => Heap.get?_push_of_some _ e, q⟩ (.inl (PyProof.noPylong_small (by decide)))
def RdOk (a b : Int) : Prop := -(2 ^ 62) ≤ a ∧ a < 2 ^ 62 ∧ -(2 ^ 62) ≤ b ∧ b < 2 ^ 62 ∧ (a - b).toNat ≤ 2 ^ 24
variable {e : Expr} {te : L2.St → Hp → (Int → Int → Hp → Prop) → Prop}
def tLstRd (te : L2.St → Hp → (Int → Int → Hp → Prop) → Prop) : TE := fun σ H Q => te σ H fun a b H1 => RdOk a b ∧ ∀ q, H1 q = none → Q (.ref q) (upd H1 q (.lst (rdV a b)))
theorem pe_listRd {p pos : Pos} (hc : X.calm = true) (hg : Gl X "list") (hm : X.mg "list" = none) (he : PRgD X e te) (na : starEach [e] X.env = (false, eval e X.env) :: starEach [] X.env := by rfl) : PE X (.Call (.Name "list" p) [e] [] pos) (tLstRd te) := by
  refine ⟨fun pins s σ H Q I h => ?_⟩
  refine Call_ (ld_blt I hg hm boot_list (PyProof.Rows.callWith_type1 (args_cons (thn (he pins s σ H _ I h) fun x s1 ⟨r, a, b, t, u, v, H1, ex, hr, I1, ok, q⟩ => args_nil ?_) na) na))
  subst ex
  obtain ⟨b1, b2, b3, b4, b5⟩ := ok
  refine call_list_range (n := (a - b).toNat) (I1.ok.hd hc) hr (PySem.W.small_down b1 b2 b3 b4) (PySem.W.rangeSize_downNat a b) b5 fun h' tk acc c' hk e' hi => ?_
  refine ⟨.ref s1.heap.objs.size, upd H1 s1.heap.objs.size (.lst (rdV a b)), I1.laid hk (Nat.le_refl _) (show ObjOk X.prog X.w _ _ _ (.lst (rdV a b)) from ⟨?_, acc.toList, c', vals_rd hi, ?_⟩), rfl, q _ (I1.hok.fresh (Nat.le_refl _))⟩
  · rw [rdV_length, sizeLine_eq]; omega
  · rw [Array.toArray_toList]; exact e'
theorem rd_rep (K : PySem.W.Frag) (H : Hp) (N : Hid) (i j : Int) : RpAll K H N (rdV i j) (rdL i j) := by
  unfold rdV rdL
  generalize List.range (i - j).toNat = l
  induction l with
  | nil => exact .nil
  | cons n l ih => exact .cons (.int _) ih
def lrngdF (fa fb fc : En → Rs D) : En → Rs D := fun ρ => (fa ρ).bind fun x => (asI x).bind fun i => (fb ρ).bind fun y => (asI y).bind fun j => (fc ρ).bind fun z => (asI z).bind fun k => if decide (k = -1) && (rgOk j i && decide ((i - j).toNat ≤ szL)) then .ok (.lst (rdL i j)) else .bad
theorem x_lrngd {p2 p3 : Pos} (hc : X.calm = true) (hg : Gl X "list") (hm : X.mg "list" = none) (hg2 : Gl X "range") (hm2 : X.mg "range" = none) (ha : PE X a (trC X.K T W fa)) (hb : PE X b (trC X.K T W fb)) (hC : PE X c (trC X.K T W fc)) (na : starEach [a, b, c] X.env = (false, eval a X.env) :: starEach [b, c] X.env)
    (nb : starEach [b, c] X.env = (false, eval b X.env) :: starEach [c] X.env) (nc : starEach [c] X.env = (false, eval c X.env) :: starEach [] X.env) : PE X (.Call (.Name "list" p) [.Call (.Name "range" p2) [a, b, c] [] p3] [] pos) (trC X.K T W (lrngdF fa fb fc)) := by
  refine impE (pe_listRd hc hg hm (prg_D hg2 hm2 ha hb hC na nb nc (by rw [nb, nc]; rfl)) rfl) fun σ H Q h => ?_
  obtain ⟨H0, N0, pn, N, ρ, rep, s, k⟩ := h
  refine intR rep s fun i H1 ei e1 s1 => ?_
  refine intR (rep.grow e1) s1 fun j H2 ej e2 s2 => ?_
  refine intR ((rep.grow e1).grow e2) s2 fun m H3 em e3 s3 => ?_
  have hk := s3.cond
  have hk2 := hk
  simp only [Bool.and_eq_true, decide_eq_true_eq] at hk
  have hr := rgOk_iff hk.2.1
  have hz := hk.2.2
  obtain rfl := hk.1
  have e13 := (e1.trans e2).trans e3
  refine ⟨i, j, rfl, rfl, rfl, ⟨by omega, by omega, by omega, by omega, hz⟩, fun q hq => k _ ?_ _ _ (e13.trans (Ext.new hq)) (Rp.newL (rep.dom.ext e13) hq (rd_rep _ _ _ _ _))⟩
  unfold lrngdF
  rw [ei, ej, em]
  show (if decide ((-1 : Int) = -1) && (rgOk j i && decide ((i - j).toNat ≤ szL)) then Rs.ok (D.lst (rdL i j)) else .bad) = _
  rw [if_pos hk2]
end
end DN

set_option Elab.async false
set_option linter.all false
set_option maxRecDepth 100000
set_option maxHeartbeats 1000000
namespace DN
open PySem PySem.Spec PyProof.Rows L2
/-! ### list(zip(..)) -/
section
variable {prog : Program} {w : World} {A : Around} {E : Value → Shared → Prop} {s : Shared} {z TI TO T i1 i2 : Addr} {fp1 fp2 : List Addr} {n1 n2 i : Nat} {P1 P2 : Nat → Value → Prop} {St1 St2 : Nat → Heap → Prop} {f : Bool} {oT : Obj}
theorem held_item {Q : Value → Shared → Prop} (S : ZipSep2 z TI TO i1 i2 fp1 fp2) (D1 : Draws prog w A i1 fp1 n1 P1 St1) (D2 : Draws prog w A i2 fp2 n2 P2 St2)
    (hz : IsZipHeld s.heap z TI TO T f) (hT : s.heap.get? T = some oT) (hTI : IsTupOf2 s.heap TI (.ref i1) (.ref i2)) (st1 : St1 i s.heap) (st2 : St2 i s.heap) (hlt1 : i < n1) (hlt2 : i < n2)
    (hQ : ∀ x1 x2 h' tk, P1 i x1 → P2 i x2 → IsZipHeld h' z TI TO T true → St1 (i + 1) h' → St2 (i + 1) h' → IsTupOf2 h' s.heap.objs.size x1 x2 → h'.objs.size = s.heap.objs.size + 1 →
      (∀ c o, c ≠ z → c ≠ i1 → c ≠ i2 → s.heap.get? c = some o → h'.get? c = some o) → Q (.ref s.heap.objs.size) { s with heap := h', toks := tk }) :
    wpAny (model prog w) A (Builtin.«zip.__next__» ⟨[.ref z], []⟩) (fun fin s' => ∃ v, fin = .done (.ret v) ∧ Q v s') E s := by
  obtain ⟨hp, g, d, tk0, os⟩ := s
  show wpAny _ _ (field (.ref z) 2 >>= _) _ _ _
  refine wpAny_bind (wpAny_field hz rfl (x := .bool false) rfl ?_)
  show wpAny _ _ (field (.ref z) 3 >>= _) _ _ _
  refine wpAny_bind (wpAny_field hz rfl (x := .ref TI) rfl ?_)
  refine wpAny_bind (wpAny_seqItems hTI rfl ?_)
  show wpAny _ _ (Builtin.SmallTypes.ownedTupleIsFree (.ref z) >>= _) _ _ _
  refine wpAny_bind (wpAny_tupleHeld_zip hz hT fun g0 hz0 hs0 => ?_)
  replace hs0 : Heap.SameBut z hp g0 := hs0
  simp only [Bool.false_eq_true, if_false]
  refine wpAny_bind ?_
  rw [← Array.forIn_toList]
  simp only [List.forIn_cons, List.forIn_nil]
  refine wpAny_bind (wpAny_bind (wpAny_holding ?_))
  show wpAny _ _ (Builtin.SmallTypes.nextOf (.ref i1) >>= _) _ _ ⟨g0, g, d, tk0, os⟩
  refine wpAny_bind (D1.item i _ _ _ hlt1 (D1.over st1 hs0 S.zf1) fun x1 p1 tk1 hx1 sn1 hp1 => wpAny_pure ?_)
  replace hp1 : Heap.SameBut i1 g0 p1 := hp1
  refine wpAny_pure ?_
  refine wpAny_bind (wpAny_bind (wpAny_holding ?_))
  show wpAny _ _ (Builtin.SmallTypes.nextOf (.ref i2) >>= _) _ _ ⟨p1, g, d, tk1, os⟩
  refine wpAny_bind (D2.item i _ _ _ hlt2 (D2.over (D2.over st2 hs0 S.zf2) hp1 S.sep1_2) fun x2 p2 tk2 hx2 sn2 hp2 => wpAny_pure ?_)
  replace hp2 : Heap.SameBut i2 p1 p2 := hp2
  refine wpAny_pure (wpAny_pure ?_)
  show wpAny _ _ (newTuple [x1, x2] >>= _) _ _ ⟨p2, g, d, tk2, os⟩
  refine wpAny_bind (wpAny_newTuple ?_)
  have hsz : p2.objs.size = hp.objs.size := by rw [hp2.1, hp1.1, hs0.1]
  have hz3 : IsZipHeld p2 z TI TO T true := hp2.extBut _ _ S.zi2 (hp1.extBut _ _ S.zi1 hz0)
  have hk : ∀ c o, c ≠ z → c ≠ i1 → c ≠ i2 → hp.get? c = some o → p2.get? c = some o := fun c o c1 c2 c3 e => hp2.extBut _ _ c3 (hp1.extBut _ _ c2 (hs0.extBut _ _ c1 e))
  have hj1 : St1 (i + 1) p2 := D1.over sn1 hp2 S.sep2_1
  refine wpAny_pure ⟨_, rfl, ?_⟩
  show Q (.ref p2.objs.size) ⟨p2.push { cls := .type "tuple", data := .seq #[x1, x2] }, g, d, tk2, os⟩
  have hpp : IsTupOf2 (p2.push { cls := .type "tuple", data := .seq #[x1, x2] }) p2.objs.size x1 x2 := Heap.get?_push_size _ rfl
  have hz4 : (p2.push { cls := .type "tuple", data := .seq #[x1, x2] }).objs.size = p2.objs.size + 1 := Heap.size_push ..
  rw [hsz] at hpp hz4 ⊢
  exact hQ x1 x2 _ tk2 hx1 hx2 (Heap.get?_push_of_some _ hz3) (D1.frame _ _ _ hj1 fun b hb o e => Heap.get?_push_of_some _ e) (D2.frame _ _ _ sn2 fun b hb o e => Heap.get?_push_of_some _ e) hpp hz4 fun c o c1 c2 c3 e => Heap.get?_push_of_some _ (hk c o c1 c2 c3 e)
theorem held_end {Q : Fin → Shared → Prop} (S : ZipSep2 z TI TO i1 i2 fp1 fp2) (D1 : Draws prog w A i1 fp1 n1 P1 St1) (D2 : Draws prog w A i2 fp2 n2 P2 St2)
    (hz : IsZipHeld s.heap z TI TO T f) (hT : s.heap.get? T = some oT) (hTI : IsTupOf2 s.heap TI (.ref i1) (.ref i2)) (st1 : St1 i s.heap) (st2 : St2 i s.heap) (hle1 : i ≤ n1) (hle2 : i ≤ n2) (hend : i = n1 ∨ i = n2)
    (hE : ∀ h' tk e, (∀ c o, c ≠ z → c ≠ i1 → c ≠ i2 → s.heap.get? c = some o → h'.get? c = some o) → (∃ o, h'.get? e = some o ∧ o.cls = .type "StopIteration") → E (.ref e) { s with heap := h', toks := tk }) :
    wpAny (model prog w) A (Builtin.«zip.__next__» ⟨[.ref z], []⟩) Q E s := by
  obtain ⟨hp, g, d, tk0, os⟩ := s
  show wpAny _ _ (field (.ref z) 2 >>= _) _ _ _
  refine wpAny_bind (wpAny_field hz rfl (x := .bool false) rfl ?_)
  show wpAny _ _ (field (.ref z) 3 >>= _) _ _ _
  refine wpAny_bind (wpAny_field hz rfl (x := .ref TI) rfl ?_)
  refine wpAny_bind (wpAny_seqItems hTI rfl ?_)
  show wpAny _ _ (Builtin.SmallTypes.ownedTupleIsFree (.ref z) >>= _) _ _ _
  refine wpAny_bind (wpAny_tupleHeld_zip hz hT fun g0 hz0 hs0 => ?_)
  replace hs0 : Heap.SameBut z hp g0 := hs0
  simp only [Bool.false_eq_true, if_false]
  refine wpAny_bind ?_
  rw [← Array.forIn_toList]
  simp only [List.forIn_cons, List.forIn_nil]
  refine wpAny_bind (wpAny_bind (wpAny_holding ?_))
  show wpAny _ _ (Builtin.SmallTypes.nextOf (.ref i1) >>= _) _ _ ⟨g0, g, d, tk0, os⟩
  by_cases hlt1 : i < n1
  · refine wpAny_bind (D1.item i _ _ _ hlt1 (D1.over st1 hs0 S.zf1) fun x1 p1 tk1 hx1 sn1 hp1 => wpAny_pure ?_)
    replace hp1 : Heap.SameBut i1 g0 p1 := hp1
    have hi2 : i = n2 := by omega
    refine wpAny_pure ?_
    refine wpAny_bind (wpAny_bind (wpAny_holding ?_))
    show wpAny _ _ (Builtin.SmallTypes.nextOf (.ref i2) >>= _) _ _ ⟨p1, g, d, tk1, os⟩
    refine wpAny_bind (D2.done ⟨p1, g, d, tk1, os⟩ _ _ (by rw [← hi2]; exact D2.over (D2.over st2 hs0 S.zf2) hp1 S.sep1_2) fun q e hq he => ?_)
    replace hq : Heap.ExtBut i2 p1 q := hq
    exact hE q tk1 e (fun c o cz c1 c2 x => hq _ _ c2 (hp1.extBut _ _ c1 (hs0.extBut _ _ cz x))) he
  · have hi1 : i = n1 := by omega
    refine wpAny_bind (D1.done ⟨g0, g, d, tk0, os⟩ _ _ (by rw [← hi1]; exact D1.over st1 hs0 S.zf1) fun q e hq he => ?_)
    replace hq : Heap.ExtBut i1 g0 q := hq
    exact hE q tk0 e (fun c o cz c1 c2 x => hq _ _ c1 (hs0.extBut _ _ cz x)) he
/-- how a zip stands while its tuples are kept -/
def ZipAt (h : Heap) (z TI TO : Addr) (av : List Addr) (i : Nat) : Prop :=
  (i = 0 ∧ IsZip h z TI TO .none ∧ ∃ a b, IsTupOf2 h TO a b) ∨ ∃ T f oT, IsZipHeld h z TI TO T f ∧ h.get? T = some oT ∧ T ∉ av
theorem ZipAt.ty {av : List Addr} {i : Nat} (h : ZipAt s.heap z TI TO av i) : s.TypeIs (.ref z) "zip" := by
  rcases h with ⟨_, q, _⟩ | ⟨T, f, oT, q, _⟩
  · exact ⟨_, q, rfl⟩
  · exact ⟨_, q, rfl⟩
theorem ZipAt.keep {h h' : Heap} {av : List Addr} {i : Nat} {S : Addr} (q : ZipAt h z TI TO av i) (mS : S ∈ av) (zS : z ≠ S) (TS : TO ≠ S) (k : ∀ c o, c ≠ S → h.get? c = some o → h'.get? c = some o) : ZipAt h' z TI TO av i := by
  rcases q with ⟨e, q, a, b, r⟩ | ⟨T, f, oT, q, e, n⟩
  · exact .inl ⟨e, k _ _ zS q, a, b, k _ _ TS r⟩
  · exact .inr ⟨T, f, oT, k _ _ zS q, k _ _ (fun e => n (e ▸ mS)) e, n⟩
theorem next_item {av : List Addr} {Q : Option Value → Shared → Prop} (S : ZipSep2 z TI TO i1 i2 fp1 fp2) (D1 : Draws prog w A.in1 i1 fp1 n1 P1 St1) (D2 : Draws prog w A.in1 i2 fp2 n2 P2 St2)
    (hz : ZipAt s.heap z TI TO av i) (mz : z ∈ av) (mT : TO ∈ av) (m1 : i1 ∈ av) (m2 : i2 ∈ av) (lv : ∀ b ∈ av, b < s.heap.objs.size) (hTI : IsTupOf2 s.heap TI (.ref i1) (.ref i2)) (st1 : St1 i s.heap) (st2 : St2 i s.heap) (hlt1 : i < n1) (hlt2 : i < n2)
    (hQ : ∀ x1 x2 h' tk, P1 i x1 → P2 i x2 → ZipAt h' z TI TO av (i + 1) → St1 (i + 1) h' → St2 (i + 1) h' → IsTupOf2 h' s.heap.objs.size x1 x2 → h'.objs.size = s.heap.objs.size + 1 →
      (∀ c o, c ≠ z → c ≠ TO → c ≠ i1 → c ≠ i2 → s.heap.get? c = some o → h'.get? c = some o) → Q (some (.ref s.heap.objs.size)) { s with heap := h', toks := tk }) :
    wpAny (model prog w) A (pyNext (.ref z)) Q E s := by
  have nv : s.heap.objs.size ∉ av := fun m => Nat.lt_irrefl _ (lv _ m)
  have hTy := hz.ty
  rcases hz with ⟨_, q, a, b, hTO⟩ | ⟨T, f, oT, q, e, n⟩
  · refine wpAny_pyNext_zipD2_item S D1 D2 q hTI hTO st1 st2 hlt1 hlt2 fun x1 x2 h' tk p1 p2 g1 g2 g3 g4 g5 g6 g7 => ?_
    exact hQ x1 x2 h' tk p1 p2 (.inr ⟨s.heap.objs.size, false, _, g1, g5, nv⟩) g3 g4 g5 g6 g7
  · unfold pyNext
    exact wpAny_bind (wpAny_attempt (wpAny_callSpecial?_slot (name := Str.ofString "__next__") hTy F.slot_zip_next
      (wpAny_call_entry F.slot_zip_next hTy F.entry_zip_next
        (held_item S D1 D2 q e hTI st1 st2 hlt1 hlt2 fun x1 x2 h' tk p1 p2 g1 g3 g4 g5 g6 g7 =>
          wpAny_pure (hQ x1 x2 h' tk p1 p2 (.inr ⟨T, true, oT, g1, g7 T oT (fun z => n (z ▸ mz)) (fun z => n (z ▸ m1)) (fun z => n (z ▸ m2)) e, n⟩) g3 g4 g5 g6 fun c o c1 _ c3 c4 => g7 c o c1 c3 c4)) (F.args_zip_next_1 _))))
theorem next_end {av : List Addr} {Q : Option Value → Shared → Prop} (S : ZipSep2 z TI TO i1 i2 fp1 fp2) (D1 : Draws prog w A.in1 i1 fp1 n1 P1 St1) (D2 : Draws prog w A.in1 i2 fp2 n2 P2 St2)
    (hz : ZipAt s.heap z TI TO av i) (hTI : IsTupOf2 s.heap TI (.ref i1) (.ref i2)) (st1 : St1 i s.heap) (st2 : St2 i s.heap) (hle1 : i ≤ n1) (hle2 : i ≤ n2) (hend : i = n1 ∨ i = n2)
    (hQ : ∀ h' tk, (∀ c o, c ≠ z → c ≠ TO → c ≠ i1 → c ≠ i2 → s.heap.get? c = some o → h'.get? c = some o) → Q none { s with heap := h', toks := tk }) :
    wpAny (model prog w) A (pyNext (.ref z)) Q E s := by
  have hTy := hz.ty
  rcases hz with ⟨_, q, a, b, hTO⟩ | ⟨T, f, oT, q, e, n⟩
  · exact wpAny_pyNext_zipD2_end S D1 D2 q hTI hTO st1 st2 hle1 hle2 hend hQ
  · unfold pyNext
    refine wpAny_bind (wpAny_attempt (wpAny_callSpecial?_slot (name := Str.ofString "__next__") hTy F.slot_zip_next
      (wpAny_call_entry F.slot_zip_next hTy F.entry_zip_next (held_end S D1 D2 q e hTI st1 st2 hle1 hle2 hend fun h' tk e hk he => ?_) (F.args_zip_next_1 _))))
    obtain ⟨o, ho, hc⟩ := he
    refine wpAny_bind (wpAny_isInstance (T := "StopIteration") (b := true) ⟨o, ho, hc⟩ isSubtype_stop ?_)
    exact wpAny_pure (hQ _ _ fun c o c1 _ c3 c4 => hk c o c1 c3 c4)
end
theorem zip_no_len : typeLookup (.type "zip") "__len__" = pure none := by rw [typeLookup_type, builtinLookup_eq_fast]; kernel_rfl
theorem zip_no_hint : typeLookup (.type "zip") "__length_hint__" = pure none := by rw [typeLookup_type, builtinLookup_eq_fast]; kernel_rfl
/-- new tuples of pairs, from the place i on -/
inductive Prs (xs ys : List V) : Nat → Hp → Hp → List V → Prop
  | nil {i : Nat} {H : Hp} : min xs.length ys.length ≤ i → Prs xs ys i H H []
  | cons {i : Nat} {H H' : Hp} {T : Addr} {x y : V} {ws : List V} : xs[i]? = some x → ys[i]? = some y → H T = none → Prs xs ys (i + 1) (upd H T (.tup [x, y])) H' ws → Prs xs ys i H H' (.ref T :: ws)
section
variable {X : Cx} {pins : List (Addr × Obj)} {σ : L2.St}
variable {P1 P2 : Nat → Value → Prop} {St1 St2 : Nat → Heap → Prop} {z TI TO i1 i2 S : Addr} {fp1 fp2 : List Addr} {xs ys : List V}
theorem zip_loop {A : Around} {R : Result → Shared → Prop} (Sp : ZipSep2 z TI TO i1 i2 fp1 fp2) (D1 : Draws X.prog X.w A.in1.in1 i1 fp1 xs.length P1 St1) (D2 : Draws X.prog X.w A.in1.in1 i2 fp2 ys.length P2 St2)
    (c1 : ∀ i v, P1 i v → ∃ x, xs[i]? = some x ∧ RelV x v) (c2 : ∀ i v, P2 i v → ∃ x, ys[i]? = some x ∧ RelV x v)
    (nS : S ≠ z ∧ S ≠ TI ∧ S ≠ TO ∧ S ∉ fp1 ∧ S ∉ fp2) (hn : min xs.length ys.length ≤ sizeLine) (res : Value) :
    ∀ (m i : Nat) (s : Shared) (H : Hp) (acc : Array Value) (c : Nat) (vs : List V), min xs.length ys.length - i = m → i ≤ min xs.length ys.length → Inv X pins σ H s → (∀ b ∈ [z, TO, i1, i2, S], FpOk X pins H b) → (∀ b ∈ [z, TO, i1, i2, S], b < s.heap.objs.size) →
      ZipAt s.heap z TI TO [z, TO, i1, i2, S] i → IsTupOf2 s.heap TI (.ref i1) (.ref i2) → St1 i s.heap → St2 i s.heap →
      s.heap.get? S = some { cls := .type "list", dict := none, data := .seq acc c, slots := #[] } → Vals vs acc.toList → vs.length = i →
      (∀ s' H' acc' c' ws, Inv X pins σ H' s' → Prs xs ys i H H' ws → FpOk X pins H' S → s'.heap.get? S = some { cls := .type "list", dict := none, data := .seq acc' c', slots := #[] } → Vals (vs ++ ws) acc'.toList → (vs ++ ws).length ≤ sizeLine → R (.ok (.ret res)) s') →
      codeAny (model X.prog X.w) A (.builtin "list.extend.loop" ⟨[.ref S, .ref z, res], []⟩) R s := by
  intro m
  obtain ⟨n1, n2, n3, n4, n5⟩ := nS
  have ne1 : S ≠ i1 := fun e => n4 (e ▸ Sp.mem1)
  have ne2 : S ≠ i2 := fun e => n5 (e ▸ Sp.mem2)
  induction m with
  | zero =>
    intro i s H acc c vs hm hi I hf lv hz hTI s1 s2 hS hv hl hR
    refine codeAny_builtin F.entry_extend_loop ?_
    rw [Around.under_plainId F.plain_extend_loop _]
    show wpAny _ A.in1 (pyNext (.ref z) >>= _) _ _ s
    refine wpAny_bind (next_end Sp D1 D2 hz hTI s1 s2 (by omega) (by omega) (by omega) fun h' tk hk => ?_)
    have I1 : Inv X pins σ H { s with heap := h', toks := tk } := I.turnedL (t' := tk) (ch := [z, TO, i1, i2, S]) (fun b o hb e => hk b o (fun q => hb (by simp [q])) (fun q => hb (by simp [q])) (fun q => hb (by simp [q])) (fun q => hb (by simp [q])) e) hf
    refine wpAny_pure (hR _ H acc c [] I1 (.nil (by omega)) (hf S (by simp)) (hk S _ n1 n3 ne1 ne2 hS) (by rw [List.append_nil]; exact hv) (by rw [List.append_nil]; omega))
  | succ m ih =>
    intro i s H acc c vs hm hi I hf lv hz hTI s1 s2 hS hv hl hR
    refine codeAny_builtin F.entry_extend_loop ?_
    rw [Around.under_plainId F.plain_extend_loop _]
    show wpAny _ A.in1 (pyNext (.ref z) >>= _) _ _ s
    refine wpAny_bind (next_item Sp D1 D2 hz (by simp) (by simp) (by simp) (by simp) lv hTI s1 s2 (by omega) (by omega) fun u1 u2 h' tk p1 p2 hz' s1' s2' hT hsz hk => ?_)
    obtain ⟨x, e1, r1⟩ := c1 i u1 p1
    obtain ⟨y, e2, r2⟩ := c2 i u2 p2
    have fresh : H s.heap.objs.size = none := I.hok.fresh (Nat.le_refl _)
    have new : ObjOk X.prog X.w (upd H s.heap.objs.size (.tup [x, y])) h' s.heap.objs.size (.tup [x, y]) := ⟨by show 2 ≤ sizeLine; decide, [u1, u2], .cons r1 (.cons r2 .nil), ⟨_, hT, rfl, 0, rfl⟩⟩
    have I1 : Inv X pins σ (upd H s.heap.objs.size (.tup [x, y])) { s with heap := h', toks := tk } :=
      I.turnedNew (t' := tk) (ch := [z, TO, i1, i2, S]) (fun b o hb e => hk b o (fun q => hb (by simp [q])) (fun q => hb (by simp [q])) (fun q => hb (by simp [q])) (fun q => hb (by simp [q])) e) hf (Nat.le_refl _) new
    have hf1 : ∀ b ∈ [z, TO, i1, i2, S], FpOk X pins (upd H s.heap.objs.size (.tup [x, y])) b := fun b hb => by
      obtain ⟨q, r⟩ := hf b hb
      exact ⟨by rw [upd_ne (Nat.ne_of_lt (lv b hb))]; exact q, r⟩
    have hS' := hk S _ n1 n3 ne1 ne2 hS
    have hTI' : IsTupOf2 h' TI (.ref i1) (.ref i2) := hk TI _ Sp.TIz Sp.TITO Sp.TIi1 Sp.TIi2 hTI
    have hal : acc.size = i := by rw [← hl, hv.length, Array.length_toList]
    show wpAny _ A.in1 (updateSeq S (·.push (.ref s.heap.objs.size)) >>= _) _ _ _
    refine wpAny_bind ?_
    refine wpAny_updateSeq hS' rfl (wpAny_pure ⟨plainId_quiet F.plain_extend_loop _, ?_⟩) (by rw [hal]; omega) (by show (acc.push _).size ≤ sizeLine + 1; rw [Array.size_push, hal]; omega)
    have oth : ∀ b o, b ≠ S → h'.get? b = some o → (h'.update S (Obj.mapSeq (·.push (.ref s.heap.objs.size)))).get? b = some o := fun b o hb e => (Heap.get?_update_other _ _ (Ne.symm hb)).trans e
    refine ih (i + 1) _ (upd H s.heap.objs.size (.tup [x, y])) (acc.push (.ref s.heap.objs.size)) _ (vs ++ [.ref s.heap.objs.size]) (by omega) (by omega) ?_ hf1 ?_ ?_ ?_ ?_ ?_ (Heap.get?_update_self _ hS' rfl) ?_ (by simp [hl]) ?_
    · exact I1.turnedL (s := { s with heap := h', toks := tk }) (t' := tk) (ch := [z, TO, i1, i2, S]) (fun b o hb e => oth b o (fun q => hb (by simp [q])) e) hf1
    · intro b hb
      show b < (h'.update S _).objs.size
      rw [(Heap.SameBut.update h' S _).1, hsz]
      exact Nat.lt_succ_of_lt (lv b hb)
    · exact hz'.keep (by simp) (Ne.symm n1) (Ne.symm n3) oth
    · exact oth _ _ (Ne.symm n2) hTI'
    · exact D1.frame _ _ _ s1' fun b hb o e => oth b o (fun q => n4 (q ▸ hb)) e
    · exact D2.frame _ _ _ s2' fun b hb o e => oth b o (fun q => n5 (q ▸ hb)) e
    · rw [Array.toList_push]
      exact hv.append (.cons rfl .nil)
    · intro s' H' acc' c' ws I' pr f' hS'' hv' hz''
      refine hR s' H' acc' c' (.ref s.heap.objs.size :: ws) I' (.cons e1 e2 fresh pr) f' hS'' ?_ ?_
      · rw [List.append_assoc] at hv'; exact hv'
      · rw [List.append_assoc] at hz''; exact hz''
theorem zip_extend {A : Around} {R : Result → Shared → Prop} {s : Shared} {H : Hp} {c₀ : Nat} (Sp : ZipSep2 z TI TO i1 i2 fp1 fp2) (D1 : Draws X.prog X.w A.in1.in1 i1 fp1 xs.length P1 St1) (D2 : Draws X.prog X.w A.in1.in1 i2 fp2 ys.length P2 St2)
    (c1 : ∀ i v, P1 i v → ∃ x, xs[i]? = some x ∧ RelV x v) (c2 : ∀ i v, P2 i v → ∃ x, ys[i]? = some x ∧ RelV x v)
    (nS : S ≠ z ∧ S ≠ TI ∧ S ≠ TO ∧ S ∉ fp1 ∧ S ∉ fp2) (hn : min xs.length ys.length ≤ sizeLine) (res : Value) (I : Inv X pins σ H s) (hf : ∀ b ∈ [z, TO, i1, i2, S], FpOk X pins H b) (lv : ∀ b ∈ [z, TO, i1, i2, S], b < s.heap.objs.size)
    (hz : IsZip s.heap z TI TO .none) (hTO : ∃ a b, IsTupOf2 s.heap TO a b) (hTI : IsTupOf2 s.heap TI (.ref i1) (.ref i2)) (s1 : St1 0 s.heap) (s2 : St2 0 s.heap) (hS : s.heap.get? S = some { cls := .type "list", data := .seq #[] c₀ })
    (hR : ∀ s' H' acc' c' ws, Inv X pins σ H' s' → Prs xs ys 0 H H' ws → FpOk X pins H' S → s'.heap.get? S = some { cls := .type "list", dict := none, data := .seq acc' c', slots := #[] } → Vals ws acc'.toList → ws.length ≤ sizeLine → R (.ok (.ret res)) s') :
    wpAny (model X.prog X.w) A.in1 (Builtin.List.listExtendWith (.ref S) (.ref z) res)
      (fun fin s' => match fin with | .done f => R (.ok f) s' | .again c' => c'.quiet = true ∧ codeAny (model X.prog X.w) A c' R s') (fun e s' => R (.error e) s') s := by
  have hT : ∀ h' : Heap, IsZip h' z TI TO .none → ({ s with heap := h' } : Shared).TypeIs (.ref z) "zip" := fun h' q => ⟨_, q, rfl⟩
  have hSI : S ≠ z := nS.1
  unfold Builtin.List.listExtendWith
  refine wpAny_bind (wpAny_typeOf (hT _ hz) ?_)
  have h1 : Builtin.List.listSameRef (.ref S) (.ref z) = false := by simp [Builtin.List.listSameRef, hSI]
  have h2 : (Value.type "zip" == Value.type "list") = false := by decide
  have h3 : (Value.type "zip" == Value.type "tuple") = false := by decide
  simp only [h1, h2, h3, Bool.or_false, Bool.false_eq_true, if_false]
  refine wpAny_bind (wpAny_pyIter_zip hz ?_)
  refine wpAny_bind (wpAny_holding ?_)
  unfold Builtin.List.listLengthHint
  refine wpAny_bind (wpAny_specialOf (hT _ hz) zip_no_len ?_)
  show wpAny _ A.in1 (specialOf (Value.ref z) (Str.ofString "__length_hint__") >>= _) _ _ _
  refine wpAny_bind (wpAny_specialOf (hT _ hz) zip_no_hint ?_)
  refine wpAny_pure ?_
  show wpAny _ A.in1 (rule "list.extend.makes-room" >>= fun _ => Builtin.List.listTouch (.ref S) >>= fun _ =>
    again (.builtin "list.extend.loop" ⟨[.ref S, .ref z, res], []⟩)) _ _ _
  refine wpAny_bind (wpAny_rule ?_)
  refine wpAny_bind ?_
  show wpAny _ A.in1 (updateSeq S (·.push .none) >>= fun _ => updateSeq S (·.pop)) _ _ _
  refine wpAny_bind (wpAny_updateSeq hS rfl ?_)
  have hS₂ := Heap.get?_update_self (Obj.mapSeq (·.push Value.none)) hS rfl
  refine wpAny_updateSeq (hz := by seq_fits) hS₂ rfl ?_
  have hS₃ := Heap.get?_update_self (Obj.mapSeq (·.pop)) hS₂ rfl
  have oth : ∀ b o, b ≠ S → s.heap.get? b = some o → ((s.heap.update S (Obj.mapSeq (·.push Value.none))).update S (Obj.mapSeq (·.pop))).get? b = some o :=
    fun b o hb e => (Heap.get?_update_other _ _ (Ne.symm hb)).trans ((Heap.get?_update_other _ _ (Ne.symm hb)).trans e)
  obtain ⟨a, b, hTO⟩ := hTO
  refine wpAny_pure ⟨plainId_quiet F.plain_extend_loop _, zip_loop (pins := pins) (σ := σ) Sp D1 D2 c1 c2 nS hn res _ 0 _ H _ _ [] rfl (Nat.zero_le _) ?_ hf ?_ ?_ ?_ ?_ ?_ hS₃ .nil rfl ?_⟩
  · exact Inv.turnedL (s := s) (h' := (s.heap.update S (Obj.mapSeq (·.push Value.none))).update S (Obj.mapSeq (·.pop))) (t' := s.toks) (ch := [z, TO, i1, i2, S]) I (fun b o hb e => oth b o (fun q => hb (by simp [q])) e) hf
  · intro b hb
    show b < ((s.heap.update S _).update S _).objs.size
    rw [(Heap.SameBut.update _ S _).1, (Heap.SameBut.update _ S _).1]
    exact lv b hb
  · exact .inl ⟨rfl, oth _ _ (Ne.symm nS.1) hz, a, b, oth _ _ (Ne.symm nS.2.2.1) hTO⟩
  · exact oth _ _ (Ne.symm nS.2.1) hTI
  · exact D1.frame _ _ _ s1 fun b hb o e => oth b o (fun q => nS.2.2.2.1 (q ▸ hb)) e
  · exact D2.frame _ _ _ s2 fun b hb o e => oth b o (fun q => nS.2.2.2.2 (q ▸ hb)) e
  · exact hR
theorem zip_init {A : Around} {R : Result → Shared → Prop} {s : Shared} {H : Hp} (Sp : ZipSep2 z TI TO i1 i2 fp1 fp2) (D1 : Draws X.prog X.w A.in1.in1 i1 fp1 xs.length P1 St1) (D2 : Draws X.prog X.w A.in1.in1 i2 fp2 ys.length P2 St2)
    (c1 : ∀ i v, P1 i v → ∃ x, xs[i]? = some x ∧ RelV x v) (c2 : ∀ i v, P2 i v → ∃ x, ys[i]? = some x ∧ RelV x v)
    (nS : S ≠ z ∧ S ≠ TI ∧ S ≠ TO ∧ S ∉ fp1 ∧ S ∉ fp2) (hn : min xs.length ys.length ≤ sizeLine) (I : Inv X pins σ H s) (hf : ∀ b ∈ [z, TO, i1, i2, S], FpOk X pins H b) (lv : ∀ b ∈ [z, TO, i1, i2, S], b < s.heap.objs.size)
    (hz : IsZip s.heap z TI TO .none) (hTO : ∃ a b, IsTupOf2 s.heap TO a b) (hTI : IsTupOf2 s.heap TI (.ref i1) (.ref i2)) (s1 : St1 0 s.heap) (s2 : St2 0 s.heap) (hS : s.heap.get? S = some { cls := .type "list", data := .seq #[] })
    (hR : ∀ s' H' acc' c' ws, Inv X pins σ H' s' → Prs xs ys 0 H H' ws → FpOk X pins H' S → s'.heap.get? S = some { cls := .type "list", dict := none, data := .seq acc' c', slots := #[] } → Vals ws acc'.toList → ws.length ≤ sizeLine → R (.ok (.ret .none)) s') :
    wpAny (model X.prog X.w) A.in1 (Builtin.«list.__init__» ⟨[.ref S, .ref z], []⟩)
      (fun fin s' => match fin with | .done f => R (.ok f) s' | .again c' => c'.quiet = true ∧ codeAny (model X.prog X.w) A c' R s') (fun e s' => R (.error e) s') s := by
  show wpAny _ A.in1 (do let old ← Builtin.List.listItems (.ref S); Builtin.List.listUpdate (.ref S) (fun _ => #[]); letGo old.toList.reverse; Builtin.List.listExtendWith (.ref S) (.ref z) .none) _ _ s
  refine wpAny_bind ?_
  unfold Builtin.List.listItems
  refine wpAny_bind (wpAny_seqItems hS rfl (wpAny_pure ?_))
  show wpAny _ A.in1 (updateSeq S (fun _ => #[]) >>= fun _ => letGo (#[] : Array Value).toList.reverse >>= fun _ => Builtin.List.listExtendWith (.ref S) (.ref z) .none) _ _ s
  refine wpAny_bind (wpAny_updateSeq hS rfl ?_)
  have hS₂ := Heap.get?_update_self (Obj.mapSeq (fun _ => (#[] : Array Value))) hS rfl
  have oth : ∀ b o, b ≠ S → s.heap.get? b = some o → (s.heap.update S (Obj.mapSeq (fun _ => (#[] : Array Value)))).get? b = some o :=
    fun b o hb e => (Heap.get?_update_other _ _ (Ne.symm hb)).trans e
  refine wpAny_bind (wpAny_letGo ?_)
  obtain ⟨a, b, hTO⟩ := hTO
  refine zip_extend (pins := pins) (σ := σ) Sp D1 D2 c1 c2 nS hn .none ?_ hf ?_ (oth _ _ (Ne.symm nS.1) hz) ⟨a, b, oth _ _ (Ne.symm nS.2.2.1) hTO⟩ (oth _ _ (Ne.symm nS.2.1) hTI) (D1.frame _ _ _ s1 fun b hb o e => oth b o (fun q => nS.2.2.2.1 (q ▸ hb)) e) (D2.frame _ _ _ s2 fun b hb o e => oth b o (fun q => nS.2.2.2.2 (q ▸ hb)) e) hS₂ hR
  · exact I.turnedL (t' := s.toks) (ch := [z, TO, i1, i2, S]) (fun b o hb e => oth b o (fun q => hb (by simp [q])) e) hf
  · intro b hb
    show b < (s.heap.update S _).objs.size
    rw [(Heap.SameBut.update _ S _).1]
    exact lv b hb
/-- the list made of a zip -/
theorem call_list_zip {A : Around} {E : Value → Shared → Prop} {Q : Value → Shared → Prop} {s : Shared} {H : Hp} (Sp : ZipSep2 z TI TO i1 i2 fp1 fp2) (D1 : Draws X.prog X.w A.in1.in1.in1 i1 fp1 xs.length P1 St1) (D2 : Draws X.prog X.w A.in1.in1.in1 i2 fp2 ys.length P2 St2)
    (c1 : ∀ i v, P1 i v → ∃ x, xs[i]? = some x ∧ RelV x v) (c2 : ∀ i v, P2 i v → ∃ x, ys[i]? = some x ∧ RelV x v) (hlt : ∀ b, b = z ∨ b = TI ∨ b = TO ∨ b ∈ fp1 ∨ b ∈ fp2 → b < s.heap.objs.size)
    (hn : min xs.length ys.length ≤ sizeLine) (I : Inv X pins σ H s) (hf : ∀ b ∈ [z, TO, i1, i2], FpOk X pins H b)
    (hz : IsZip s.heap z TI TO .none) (hTO : ∃ a b, IsTupOf2 s.heap TO a b) (hTI : IsTupOf2 s.heap TI (.ref i1) (.ref i2)) (s1 : St1 0 s.heap) (s2 : St2 0 s.heap)
    (hQ : ∀ s' H' ws S, Inv X pins σ (upd H' S (.lst ws)) s' → Prs xs ys 0 H H' ws → H' S = none → Q (.ref S) s') :
    wpAny (model X.prog X.w) A (call (.type "list") [.ref z]) Q E s := by
  have ne : ∀ b, b < s.heap.objs.size → s.heap.objs.size ≠ b := fun b h => Nat.ne_of_gt h
  refine callType_codes (Q₁ := fun obj s₁ => obj = .ref s.heap.objs.size ∧ s₁ = { s with heap := s.heap.push { cls := .type "list", data := .seq #[] } }) F.called_list (F.typeCall_list_1 _) F.entry_list_init
    (code_list_new _ ⟨rfl, rfl⟩) fun obj s₁ h₁ => ?_
  obtain ⟨rfl, rfl⟩ := h₁
  have hS : (s.heap.push { cls := .type "list", data := .seq #[] }).get? s.heap.objs.size = some { cls := .type "list", data := .seq #[] } := Heap.get?_push_size _ rfl
  have k : ∀ b o, s.heap.get? b = some o → (s.heap.push { cls := .type "list", data := .seq #[] }).get? b = some o := fun b o e => Heap.get?_push_of_some _ e
  obtain ⟨a, b, hTO⟩ := hTO
  have li1 : i1 < s.heap.objs.size := hlt _ (.inr (.inr (.inr (.inl Sp.mem1))))
  have li2 : i2 < s.heap.objs.size := hlt _ (.inr (.inr (.inr (.inr Sp.mem2))))
  have lz : z < s.heap.objs.size := hlt _ (.inl rfl)
  have lT : TO < s.heap.objs.size := hlt _ (.inr (.inr (.inl rfl)))
  refine ⟨⟨_, hS, rfl⟩, F.args_list_init_2 _ _, zip_init (pins := pins) (σ := σ) (s := { s with heap := s.heap.push { cls := .type "list", data := .seq #[] } }) (H := H) Sp D1 D2 c1 c2 ⟨ne _ lz, ne _ (hlt _ (.inr (.inl rfl))), ne _ lT, fun m => Nat.lt_irrefl _ (hlt _ (.inr (.inr (.inr (.inl m))))), fun m => Nat.lt_irrefl _ (hlt _ (.inr (.inr (.inr (.inr m)))))⟩ hn ?_ ?_ ?_ (k _ _ hz) ⟨a, b, k _ _ hTO⟩ (k _ _ hTI) (D1.frame _ _ _ s1 fun b _ o e => k b o e) (D2.frame _ _ _ s2 fun b _ o e => k b o e) hS ?_⟩
  · exact I.kept (t' := s.toks) k
  · intro b hb
    have : b ∈ [z, TO, i1, i2] ∨ b = s.heap.objs.size := by
      simp only [List.mem_cons, List.not_mem_nil, or_false] at hb ⊢
      rcases hb with q | q | q | q | q <;> simp [q]
    rcases this with q | q
    · exact hf b q
    · rw [q]
      exact I.fpOk (Nat.le_refl _) (I.hok.fresh (Nat.le_refl _))
  · intro b hb
    show b < (s.heap.push _).objs.size
    rw [Heap.size_push]
    simp only [List.mem_cons, List.not_mem_nil, or_false] at hb
    rcases hb with q | q | q | q | q <;> rw [q] <;> first | exact Nat.lt_succ_self _ | (apply Nat.lt_succ_of_lt; assumption)
  · intro s' H' acc' c' ws I' pr f' hS' hv hw
    refine ⟨rfl, hQ s' H' ws _ ?_ pr f'.1⟩
    have := I'.take (h' := s'.heap) (t' := s'.toks) (it := s.heap.objs.size) (o := .lst ws) (fun b o _ e => e) f' ⟨hw, acc'.toList, c', hv, by rw [Array.toArray_toList]; exact hS'⟩
    exact this
end
def tLzip (K : PySem.W.Frag) (ta : TA) : TE := fun σ H Q => ta σ H fun vs H1 => ∃ d1 d2 xs ys, vs = [Sd.v d1, Sd.v d2] ∧ d1.has K H1 xs ∧ d2.has K H1 ys ∧ min xs.length ys.length ≤ sizeLine ∧ ∀ H' ws S, Prs xs ys 0 H1 H' ws → H' S = none → Q (.ref S) (upd H' S (.lst ws))
theorem Sd.drawsA {X : Cx} {pins : List (Addr × Obj)} {σ : L2.St} {H : Hp} {s : Shared} (I : Inv X pins σ H s) {A : Around} (hh1 : A.handled = none) {d : Sd} {xs : List V} (h : d.has X.K H xs) (k : Tok) (it : Addr) (ne : ¬ d.at_ it) :
    ∃ (fp : List Addr) (P : Nat → Value → Prop) (St : Nat → Heap → Prop), Draws X.prog X.w A it fp xs.length P St ∧ it ∈ fp ∧ (∀ b ∈ fp, b = it ∨ d.at_ b) ∧ (∀ i h', (∀ b o, b ≠ it → s.heap.get? b = some o → h'.get? b = some o) → d.itp k it i h' → St i h') ∧ ∀ i v, P i v → ∃ x, xs[i]? = some x ∧ RelV x v := by
  cases d with
  | l a =>
    obtain ⟨its, rv, p, _⟩ := I.list h
    have D := Draws.list (prog := X.prog) (w := X.w) hh1 it a (fun e => ne e.symm) its.toArray
    rw [List.size_toArray, ← rv.length] at D
    exact ⟨_, _, _, D, by simp, fun b hb => by simpa [Sd.at_] using hb, fun i h' kk q => ⟨q, p.isList.at fun o e => kk _ o (fun e => ne e.symm) e⟩, fun i v q => vals_at rv q⟩
  | t a =>
    obtain ⟨its, rv, p, _⟩ := I.tuple h
    have D := Draws.tuple (prog := X.prog) (w := X.w) hh1 it a (fun e => ne e.symm) its.toArray
    rw [List.size_toArray, ← rv.length] at D
    exact ⟨_, _, _, D, by simp, fun b hb => by simpa [Sd.at_] using hb, fun i h' kk q => ⟨q, let ⟨o, e, r⟩ := p; ⟨o, kk _ o (fun e => ne e.symm) e, r⟩⟩, fun i v q => vals_at rv q⟩
  | s z =>
    have D := Draws.text (prog := X.prog) (w := X.w) hh1 it ⟨z.toArray⟩ k
    have e : (⟨z.toArray⟩ : Str).cps.size = xs.length := by
      rw [show xs = z.map fun c => V.str ⟨#[c]⟩ from h]
      simp
    rw [e] at D
    refine ⟨_, _, _, D, by simp, fun b hb => .inl (by simpa using hb), fun i h' kk q => q, fun i v q => ?_⟩
    obtain ⟨c, u, q1, rfl⟩ := q
    refine ⟨.str ⟨#[c]⟩, ?_, ⟨u, rfl⟩⟩
    rw [show xs = z.map fun c => V.str ⟨#[c]⟩ from h, List.getElem?_map]
    have : z[i]? = some c := by simpa using q1
    rw [this]
    rfl
theorem pe_lzip {X : Cx} {e e2 : Expr} {ta : TA} {p p2 p3 pos : Pos} (hc : X.calm = true) (hgl : Gl X "list") (hml : X.mg "list" = none) (hg : Gl X "zip") (hm : X.mg "zip" = none) (ha : PA X [e, e2] ta)
    (hs : starEach [e, e2] X.env = (false, eval e X.env) :: starEach [e2] X.env) (hpl : (backTo p3 (starEach [e2] X.env)).any (·.1) = false) : PE X (.Call (.Name "list" p) [.Call (.Name "zip" p2) [e, e2] [] p3] [] pos) (tLzip X.K ta) := by
  refine ⟨fun pins s σ H Q I h => ?_⟩
  refine Call_ (ld_blt I hgl hml boot_list (PyProof.Rows.callWith_type1 (args_cons ?_ rfl) rfl))
  refine Call_ (ld_blt I hg hm PyProof.Rows.boot_zip (PyProof.Rows.callWith_type1 (thn (ha.run p3 pins s σ H _ I h) fun us s1 ⟨vs, H1, I1, r1, q1⟩ => ?_) hs hpl))
  obtain ⟨d1, d2, xs, ys, rfl, hx, hy, hmin, q⟩ := q1
  obtain ⟨u1, u2, rfl, r, r'⟩ : ∃ u1 u2, us = [u1, u2] ∧ RelV d1.v u1 ∧ RelV d2.v u2 := by
    cases r1 with
    | cons r rr =>
      cases rr with
      | cons r' rr => cases rr; exact ⟨_, _, rfl, r, r'⟩
  obtain ⟨k1, rfl⟩ := Sd.rel r
  obtain ⟨k2, rfl⟩ := Sd.rel r'
  obtain ⟨B1, b1, g1⟩ := Sd.begins I1 hx k1
  obtain ⟨B2, b2, g2⟩ := Sd.begins I1 hy k2
  have old1 := Sd.old I1 hx
  have old2 := Sd.old I1 hy
  refine zip_begins2 b1 b2 g1 g2 fun h' hz hTI hTO e1 e2 hsz hk => args_nil ?_
  have I2 : Inv X pins σ H1 { s1 with heap := h' } := I1.kept (t' := s1.toks) hk
  have ge : ∀ b ∈ [s1.heap.objs.size + 4, s1.heap.objs.size + 2, s1.heap.objs.size + 3, s1.heap.objs.size, s1.heap.objs.size + 1], s1.heap.objs.size ≤ b := fun b hb => by
    rcases mem5 hb with q | q | q | q | q
    · rw [q]; exact Nat.le_add_right _ _
    · rw [q]; exact Nat.le_add_right _ _
    · rw [q]; exact Nat.le_add_right _ _
    · rw [q]; exact Nat.le_refl _
    · rw [q]; exact Nat.le_add_right _ _
  have ap : ∀ b ∈ [s1.heap.objs.size + 4, s1.heap.objs.size + 2, s1.heap.objs.size + 3, s1.heap.objs.size, s1.heap.objs.size + 1], ¬ d1.at_ b ∧ ¬ d2.at_ b := fun b hb => ⟨fun z => absurd (Nat.lt_of_lt_of_le (old1 b z) (ge b hb)) (Nat.lt_irrefl _), fun z => absurd (Nat.lt_of_lt_of_le (old2 b z) (ge b hb)) (Nat.lt_irrefl _)⟩
  have hh : X.A.in1.in1.in1.handled = none := I1.ok.hd hc
  obtain ⟨fp1, P1, St1, D1, m1, s1', a1, c1⟩ := Sd.drawsA I1 hh hx k1 s1.heap.objs.size (ap _ (by simp)).1
  obtain ⟨fp2, P2, St2, D2, m2, s2', a2, c2⟩ := Sd.drawsA I1 hh hy k2 (s1.heap.objs.size + 1) (ap _ (by simp)).2
  have Sp := zipSep (five s1.heap.objs.size) ap m1 m2 s1' s2'
  have lt : ∀ b o, h'.get? b = some o → b < h'.objs.size := fun b o e => Heap.lt_size e
  have sz5 : s1.heap.objs.size + 4 < h'.objs.size := lt _ _ hz
  refine call_list_zip (pins := pins) (σ := σ) (s := { s1 with heap := h' }) (H := H1) Sp D1 D2 c1 c2 (fun b hb => ?_) hmin I2 (fun b hb => ?_) hz ⟨_, _, hTO⟩ hTI (a1 0 h' (fun b o _ e => hk b o e) (Sd.itp0 e1)) (a2 0 h' (fun b o _ e => hk b o e) (Sd.itp0 e2)) fun s' H' ws S I' pr hn => ⟨.ref S, _, I', rfl, q H' ws S pr hn⟩
  · show b < h'.objs.size
    have h5 : ∀ b, b ∈ [s1.heap.objs.size + 4, s1.heap.objs.size + 2, s1.heap.objs.size + 3, s1.heap.objs.size, s1.heap.objs.size + 1] → b < h'.objs.size := fun b hb => by
      refine Nat.lt_of_le_of_lt ?_ sz5
      rcases mem5 hb with q | q | q | q | q <;> rw [q]
      · exact Nat.le_refl _
      · exact Nat.add_le_add_left (by decide) _
      · exact Nat.add_le_add_left (by decide) _
      · exact Nat.le_add_right _ _
      · exact Nat.add_le_add_left (by decide) _
    have olds : ∀ b, b < s1.heap.objs.size → b < h'.objs.size := fun b hb => Nat.lt_trans hb (Nat.lt_of_le_of_lt (Nat.le_add_right _ _) sz5)
    rcases hb with q | q | q | q | q
    · rw [q]; exact h5 _ (by simp)
    · rw [q]; exact h5 _ (by simp)
    · rw [q]; exact h5 _ (by simp)
    · rcases s1' b q with w | w
      · rw [w]; exact h5 _ (by simp)
      · exact olds b (old1 b w)
    · rcases s2' b q with w | w
      · rw [w]; exact h5 _ (by simp)
      · exact olds b (old2 b w)
  · have hb' : b ∈ [s1.heap.objs.size + 4, s1.heap.objs.size + 2, s1.heap.objs.size + 3, s1.heap.objs.size, s1.heap.objs.size + 1] := by
      simp only [List.mem_cons, List.not_mem_nil, or_false] at hb ⊢
      rcases hb with q | q | q | q <;> simp [q]
    exact I1.fpOk (ge b hb') (I1.hok.fresh (ge b hb'))
theorem zipD_at : ∀ {xs ys : List D} {i : Nat} {x y : D}, xs[i]? = some x → ys[i]? = some y → (zipD xs ys)[i]? = some (.tup [x, y])
  | [], _, _, _, _, h, _ => by simp at h
  | _ :: _, [], _, _, _, _, h => by simp at h
  | x :: xs, y :: ys, 0, _, _, h1, h2 => by simp at h1 h2; simp [zipD, h1, h2]
  | x :: xs, y :: ys, i + 1, _, _, h1, h2 => by
    simp at h1 h2
    simp [zipD, zipD_at h1 h2]
theorem prs_rp {K : PySem.W.Frag} {T : List (Addr × Str)} {N : Hid} {xs ys : List V} {ds es : List D} {i : Nat} {H H' : Hp} {ws : List V} (h : Prs xs ys i H H' ws) : Dom N H → RpAll K H N xs ds → RpAll K H N ys es → Ext T H H' ∧ RpAll K H' N ws ((zipD ds es).drop i) := by
  induction h with
  | nil hm =>
    intro dom r1 r2
    rw [List.drop_of_length_le (by rw [zipD_len, ← r1.length, ← r2.length]; exact hm)]
    exact ⟨Ext.refl _, .nil⟩
  | @cons j G G' P u v us e1 e2 hT _ ih =>
    intro dom r1 r2
    obtain ⟨d1, q1, p1⟩ := r1.get' e1
    obtain ⟨d2, q2, p2⟩ := r2.get' e2
    have x1 : Ext T G (upd G P (.tup [u, v])) := Ext.new hT
    obtain ⟨i1, i2⟩ := ih (dom.ext x1) (x1.rps r1) (x1.rps r2)
    have z := zipD_at q1 q2
    obtain ⟨hl, hz⟩ := List.getElem?_eq_some_iff.mp z
    rw [List.drop_eq_getElem_cons hl, hz]
    exact ⟨x1.trans i1, .cons (i1.rp (Rp.newT dom hT (.cons p1 (.cons p2 .nil)))) i2⟩
def lzipF (fa fb : En → Rs D) : En → Rs D := fun ρ => (fa ρ).bind fun x => (asItems x).bind fun xs => (fb ρ).bind fun y => (asItems y).bind fun ys => .of (if (zipD xs ys).length ≤ szL then some (.lst (zipD xs ys)) else none)
section
variable {X : Cx} {T : List (Addr × Str)} {W : WX} {pos p p2 p3 : Pos} {a b : Expr} {fa fb : En → Rs D}
theorem x_lzip (hc : X.calm = true) (hgl : Gl X "list") (hml : X.mg "list" = none) (hg : Gl X "zip") (hm : X.mg "zip" = none) (ha : PE X a (trC X.K T W fa)) (hb : PE X b (trC X.K T W fb)) (hs : starEach [a, b] X.env = (false, eval a X.env) :: starEach [b] X.env) (hs2 : starEach [b] X.env = (false, eval b X.env) :: starEach [] X.env) :
    PE X (.Call (.Name "list" p) [.Call (.Name "zip" p2) [a, b] [] p3] [] pos) (trC X.K T W (lzipF fa fb)) := by
  refine impE (pe_lzip hc hgl hml hg hm (pa_cons ha (pa_cons hb pa_nil hs2) hs) hs (by rw [hs2]; rfl)) fun σ H Q h => ?_
  obtain ⟨H0, N0, pn, N, ρ, rep, s, k⟩ := h
  refine itemsRn rep s fun x xs v H1 ei di e1 r1 s1 => ?_
  refine itemsRn (rep.grow e1) s1 fun y ys w H2 ej dj e2 r2 s2 => ?_
  have r1' := e2.rp r1
  obtain ⟨d1, v1, f1⟩ := src_of r1' di
  obtain ⟨d2, v2, f2⟩ := src_of r2 dj
  obtain ⟨z1, q1, g1⟩ := f1 H2 N r1'
  obtain ⟨z2, q2, g2⟩ := f2 H2 N r2
  obtain ⟨d, ed⟩ := s2.of
  have hl : (zipD xs ys).length ≤ szL := by
    apply Decidable.byContradiction
    intro hn
    rw [if_neg hn] at ed
    cases ed
  rw [if_pos hl] at ed
  cases ed
  have hsz : (sizeLine : Nat) = szL := sizeLine_eq
  refine ⟨d1, d2, z1, z2, by rw [v1, v2], q1, q2, by rw [zipD_len] at hl; rw [g1.length, g2.length, hsz]; exact hl, fun H' ws S pr hS => ?_⟩
  obtain ⟨x1, x2⟩ := prs_rp (T := T) (N := N) pr (rep.dom.ext (e1.trans e2)) g1 g2
  rw [List.drop_zero] at x2
  refine k (.lst (zipD xs ys)) ?_ _ _ ((e1.trans e2).trans (x1.trans (Ext.new hS))) (Rp.newL ((rep.dom.ext (e1.trans e2)).ext x1) hS x2)
  unfold lzipF
  rw [ei, Rs.bind_ok, di, Rs.bind_ok, ej, Rs.bind_ok, dj, Rs.bind_ok, if_pos hl]
  rfl
end
end DN

set_option Elab.async false
set_option linter.all false
set_option maxRecDepth 100000
set_option maxHeartbeats 1000000
namespace DN
open PySem PySem.Spec PyProof.Rows L2
/-! ### a dict of constants -/
abbrev DKs := List (DK × D)
def kDd : DK → D
  | .inl i => .int i
  | .inr l => .str l
def keysNd : List (DK × D) → Bool
  | [] => true
  | p :: r => !(r.any fun q => decide (q.1 = p.1)) && keysNd r
section
variable {X : Cx} {T : List (Addr × Str)} {W : WX} {pos : Pos}
theorem rp_flat {K : PySem.W.Frag} {H H' : Hp} {N N' : Hid} {v : V} {d : D} (h : Rp K H N v d) (hf : d.flat = true) : Rp K H' N' v d := by
  cases h <;> first | (simp [D.flat] at hf; done) | skip
  · exact .non
  · exact .bl _
  · exact .int _
  · exact .str _ (by assumption) (by assumption)
theorem rpk_flat {K : PySem.W.Frag} {H H' : Hp} {N N' : Hid} : ∀ {vs : List (Key × V)} {ds : List (DK × D)}, RpKv K H N vs ds → (∀ p ∈ ds, p.2.flat = true) → RpKv K H' N' vs ds
  | _, _, .nil, _ => .nil
  | _, _, .cons (k := k) (d := d) r rs, h => .cons (rp_flat r (h (k, d) (by simp))) (rpk_flat rs fun p hp => h p (by simp [hp]))
theorem rp_kdd {K : PySem.W.Frag} {H : Hp} {N : Hid} {v : V} {k : DK} (h : Rp K H N v (kDd k)) : v = kV (kS k) := by
  cases k <;> cases h <;> rfl
theorem pairs_run {Q : List (V × V) → Hp → Prop} {H0 : Hp} {N0 : Hid} {pn : List (V × D)} {N : Hid} {ρ : En} {σ : L2.St} : ∀ (ds : List (DK × D)) (H : Hp), Rep X.K T H0 N0 pn H N σ ρ →
    (∀ (kvs : List (Key × V)) (H2 : Hp), Ext T H H2 → RpKv X.K H2 N kvs ds → Q (kvs.map fun kv => (kV kv.1, kv.2)) H2) → (∀ p ∈ ds, p.2.flat = true) → tPairs (ds.map fun p => (trC X.K T W fun _ => .ok (kDd p.1), trC X.K T W fun _ => .ok p.2)) σ H Q
  | [], H, rep, k, _ => k [] H (Ext.refl H) .nil
  | (a, d) :: ds, H, rep, k, hf => by
    have sf : ∀ (d : D) (H : Hp), Safe X.K T W (.ok d : Rs D) H σ := fun d H => ⟨(by intro h; cases h), fun c h => by cases h⟩
    refine ⟨H0, N0, pn, N, ρ, rep, sf _ _, fun x ex v H1 e1 r1 => ?_⟩
    cases ex
    refine ⟨H0, N0, pn, N, ρ, rep.grow e1, sf _ _, fun y ey w H2 e2 r2 => ?_⟩
    cases ey
    refine pairs_run ds H2 ((rep.grow e1).grow e2) (fun kvs H3 e3 r3 => ?_) fun p hp => hf p (by simp [hp])
    have := k ((kS a, w) :: kvs) H3 ((e1.trans e2).trans e3) (.cons (e3.rp r2) r3)
    rw [List.map_cons] at this
    rw [rp_kdd r1]
    exact this
theorem rpk_len {K : PySem.W.Frag} {H : Hp} {N : Hid} : ∀ {vs : List (Key × V)} {ds : List (DK × D)}, RpKv K H N vs ds → vs.length = ds.length
  | _, _, .nil => rfl
  | _, _, .cons _ rs => by rw [List.length_cons, List.length_cons, rpk_len rs]
theorem rpk_any {K : PySem.W.Frag} {H : Hp} {N : Hid} {k : DK} : ∀ {vs : List (Key × V)} {ds : List (DK × D)}, RpKv K H N vs ds → (ds.any fun q => decide (q.1 = k)) = false → ∀ p ∈ vs, p.1 ≠ kS k
  | _, _, .nil, _, p, hp => by cases hp
  | _, _, .cons r rs, h, p, hp => by
    simp only [List.any_cons, Bool.or_eq_false_iff, decide_eq_false_iff_not] at h
    rcases List.mem_cons.mp hp with rfl | hp
    · exact fun q => h.1 (kS_in2 q)
    · exact rpk_any rs h.2 p hp
theorem merge_nd {K : PySem.W.Frag} {H : Hp} {N : Hid} : ∀ {vs : List (Key × V)} {ds : List (DK × D)} (acc : List (Key × V)), RpKv K H N vs ds → keysNd ds = true → (∀ p ∈ vs, ∀ q ∈ acc, q.1 ≠ p.1) → mergeK acc vs = acc ++ vs
  | _, _, acc, .nil, _, _ => by simp [mergeK]
  | _, _, acc, .cons (k := k) (v := v) (vs := vs) r rs, h, hd => by
    simp only [keysNd, Bool.and_eq_true, Bool.not_eq_true'] at h
    have e : putK acc (kS k) v = acc ++ [(kS k, v)] := by
      unfold putK
      rw [if_neg]
      intro hc
      obtain ⟨q, hq, hk⟩ := List.any_eq_true.mp hc
      exact hd (kS k, v) (by simp) q hq (of_decide_eq_true hk)
    have := merge_nd (acc ++ [(kS k, v)]) rs h.2 (fun p hp q hq => by
      rcases List.mem_append.mp hq with hq | hq
      · exact hd p (by simp [hp]) q hq
      · rw [List.mem_singleton] at hq
        rw [hq]
        exact fun z => rpk_any rs h.1 p hp z.symm)
    show mergeK (putK acc (kS k) v) vs = _
    rw [e, this, List.append_assoc]
    rfl
theorem x_dcon {keys : List (Option Expr)} {values : List Expr} {ds : List (DK × D)} (h : PPs X pos keys values (ds.map fun p => (trC X.K T W fun _ => .ok (kDd p.1), trC X.K T W fun _ => .ok p.2))) (hall : keys.all (·.isSome) = true) (hl : keys.length = values.length) (h0 : keys ≠ []) (h15 : keys.length ≤ 15)
    (hd : ds.length ≤ 15) (hf : ∀ p ∈ ds, p.2.flat = true) (hn : keysNd ds = true) : PE X (.Dict keys values pos) (trC X.K T W fun _ => .ok (.dct ds)) := by
  refine impE (pe_disp h hall hl h0 h15) fun σ H Q h => ?_
  obtain ⟨H0, N0, pn, N, ρ, rep, s, k⟩ := h
  intro p hp
  have x1 := Ext.new (T := T) (o := .dK []) hp
  refine pairs_run ds _ (rep.grow x1) (fun kvs H2 e2 r2 => ?_) hf
  have hp2 : H2 p = some (.dK []) := e2.1 _ _ upd_same (fun _ z => nomatch z)
  refine ⟨hp2, kvs, rfl, by rw [rpk_len r2]; exact hd, ?_⟩
  rw [merge_nd [] r2 hn (fun _ _ _ hq => by cases hq), List.nil_append]
  have np : ¬ N p := rep.dom.free hp
  have ne : ∀ b o, H b = some o → b ≠ p := fun b o e z => by rw [z, hp] at e; cases e
  refine k (.dct ds) rfl (.ref p) _ ⟨fun b o e n => ?_, fun t => ?_⟩ (.dct np (.of upd_same) (rpk_flat r2 hf))
  · rw [upd_ne (ne b o e)]
    exact e2.1 b o (x1.1 b o e n) n
  · exact tabs_upd (e2.2 (x1.2 t)) hp2 (fun _ z => nomatch z) fun _ z => nomatch z
end
end DN

set_option Elab.async false
set_option linter.all false
set_option maxRecDepth 100000
namespace DN
open PySem PySem.Spec PyProof.Rows L2
/-! ### targets -/
def gAll : List Nat → TGs
  | [] => gNil
  | i :: is => gCons (gName i) (gAll is)
def tgG (K : PySem.W.Frag) : Tg → TG
  | .nm i => gName i
  | .tp is => gTup K is.length (gAll is)
def setAll (σ : L2.St) : List Nat → List V → L2.St
  | i :: is, v :: vs => setAll (σ.set i (some v)) is vs
  | _, _ => σ
theorem wipe_set (σ : L2.St) (i : Nat) (x : Option V) : ∀ vs : List Nat, i ∈ vs → wipe (σ.set i x) vs = wipe σ vs
  | [], h => by cases h
  | v :: vs, h => by
    by_cases hv : i ∈ vs
    · unfold wipe
      rw [wipe_set σ i x vs hv]
    · have e : i = v := by
        rcases List.mem_cons.mp h with e | e
        · exact e
        · exact absurd e hv
      subst e
      have : ∀ us : List Nat, wipe (σ.set i x) us = if i ∈ us then wipe σ us else (wipe σ us).set i x := by
        intro us
        induction us with
        | nil => simp [wipe]
        | cons u us ih =>
          unfold wipe
          rw [ih]
          by_cases h1 : i ∈ us
          · rw [if_pos h1, if_pos (List.mem_cons_of_mem _ h1)]
          · rw [if_neg h1]
            by_cases h2 : i = u
            · subst h2
              rw [if_pos List.mem_cons_self, List.set_set]
            · rw [if_neg (by simp [h1, h2]), List.set_comm _ _ h2]
      unfold wipe
      rw [this vs, if_neg hv, List.set_set]
theorem wipe_wipe_aux (σ : L2.St) (us : List Nat) : ∀ vs : List Nat, (∀ v ∈ vs, v ∈ us) → wipe (wipe σ vs) us = wipe σ us
  | [], _ => rfl
  | v :: vs, h => by
    rw [show wipe σ (v :: vs) = (wipe σ vs).set v none from rfl, wipe_set _ _ _ _ (h v List.mem_cons_self)]
    exact wipe_wipe_aux σ us vs fun w hw => h w (List.mem_cons_of_mem _ hw)
theorem wipe_wipe (σ : L2.St) (vs : List Nat) : wipe (wipe σ vs) vs = wipe σ vs := wipe_wipe_aux σ vs vs fun _ h => h
section
variable {K : PySem.W.Frag} {T : List (Addr × Str)} {H0 H : Hp} {N0 N : Hid} {pn : List (V × D)} {σ : L2.St} {ρ ρ' : En}
theorem putAll_run {us : List Nat} : ∀ {is : List Nat} {ds : List D} {vs : List V} {σ : L2.St} {ρ : En} {Q : L2.St → Hp → Prop}, Rep K T H0 N0 pn H N σ ρ → putAll ρ is ds = some ρ' → RpAll K H N vs ds → (∀ i ∈ is, i ∈ us) →
    (∀ σ', Rep K T H0 N0 pn H N σ' ρ' → wipe σ' us = wipe σ us → Q σ' H) → gAll is vs σ H Q
  | [], [], _, σ, ρ, Q, rep, e, r, _, k => by
    cases r
    cases e
    exact ⟨rfl, k σ rep rfl⟩
  | [], _ :: _, _, σ, ρ, Q, rep, e, r, _, k => by cases e
  | _ :: _, [], _, σ, ρ, Q, rep, e, r, _, k => by cases e
  | i :: is, d :: ds, _, σ, ρ, Q, rep, e, r, hu, k => by
    cases r with
    | cons r1 r2 =>
      refine ⟨_, _, rfl, ?_⟩
      exact putAll_run (rep.put r1) e r2 (fun j hj => hu j (List.mem_cons_of_mem _ hj)) fun σ' rep' hw => k σ' rep' (by rw [hw, wipe_set _ _ _ _ (hu i List.mem_cons_self)])
theorem putAll_len : ∀ {is : List Nat} {ds : List D} {ρ ρ' : En}, putAll ρ is ds = some ρ' → ds.length = is.length
  | [], [], _, _, _ => rfl
  | [], _ :: _, _, _, e => by cases e
  | _ :: _, [], _, _, e => by cases e
  | i :: is, d :: ds, ρ, ρ', e => by simp [putAll_len (ρ := putD ρ i d) e]
theorem putT_run {g : Tg} {v : V} {d : D} {Q : L2.St → Hp → Prop} (rep : Rep K T H0 N0 pn H N σ ρ) (e : putT ρ g d = some ρ') (r : Rp K H N v d) (k : ∀ σ', Rep K T H0 N0 pn H N σ' ρ' → wipe σ' g.slots = wipe σ g.slots → Q σ' H) : tgG K g v σ H Q := by
  cases g with
  | nm i =>
    cases e
    exact k _ (rep.put r) (wipe_set _ _ _ _ (by simp [Tg.slots]))
  | tp is =>
    cases d with
    | tup ds =>
      cases r with
      | tup h1 h2 =>
        have e' : putAll ρ is ds = some ρ' := e
        exact ⟨_, _, rfl, h1.sq, by rw [h2.length, putAll_len e'], putAll_run rep e' h2 (fun i hi => hi) k⟩
    | _ => cases e
theorem Rep.clear (r : Rep K T H0 N0 pn H N σ ρ) (i : Nat) : Rep K T H0 N0 pn H N (σ.set i none) (ρ.set i .no) where
  ext := r.ext
  tabs := r.tabs
  dom0 := r.dom0
  dom := r.dom
  hid := r.hid
  len := by simp [r.len]
  dat := fun j e q => by
    rcases get_set q with ⟨rfl, e1, hl⟩ | ⟨ne, q⟩
    · cases e1
    · obtain ⟨w, q1, q2⟩ := r.dat j e q
      exact ⟨w, by rw [List.getElem?_set_ne (Ne.symm ne)]; exact q1, q2⟩
  own := fun j e q => by
    rcases get_set q with ⟨rfl, e1, hl⟩ | ⟨ne, q⟩
    · cases e1
    · obtain ⟨w, q1, q2⟩ := r.own j e q
      exact ⟨w, by rw [List.getElem?_set_ne (Ne.symm ne)]; exact q1, q2⟩
  sep := fun j k e f a h1 h2 h3 h4 => by
    rcases get_set h1 with ⟨rfl, e1, hl⟩ | ⟨ne1, q1⟩
    · cases e1
    · rcases get_set h2 with ⟨rfl, e2, hl⟩ | ⟨ne2, q2⟩
      · cases e2
      · rw [List.getElem?_set_ne (Ne.symm ne1)] at h3
        rw [List.getElem?_set_ne (Ne.symm ne2)] at h4
        exact r.sep j k e f a q1 q2 h3 h4
  pins := r.pins
theorem Rep.wipe (r : Rep K T H0 N0 pn H N σ ρ) : ∀ vs : List Nat, Rep K T H0 N0 pn H N (L2.wipe σ vs) (wip ρ vs)
  | [] => r
  | v :: vs => (Rep.wipe r vs).clear v
end
/-! ### comprehensions -/
def stepF (fe : En → Rs D) (fc : Option (En → Rs D)) (g : Tg) (ρ : En) (d : D) : Rs (Option D) := match putT (wip ρ g.slots) g d with
  | none => .bad
  | some ρ' => (match fc with
    | none => (fe ρ').bind fun y => .ok (some y)
    | some fc => (fc ρ').bind fun x => (asB x).bind fun k => if k then (fe ρ').bind fun y => .ok (some y) else .ok none)
def compF (fe : En → Rs D) (g : Tg) (fi : En → Rs D) (fc : Option (En → Rs D)) : En → Rs D := fun ρ => (fi ρ).bind fun y => (asL y).bind fun ds => if ds.length ≤ szL then (compL (stepF fe fc g ρ) ds []).bind fun ys => .ok (.lst ys) else .bad
abbrev W0 : WX := fun _ _ _ _ => False
def trTs (K : PySem.W.Frag) (T : List (Addr × Str)) (fc : Option (En → Rs D)) : TT := match fc with
  | none => tYes
  | some fc => trB K T W0 fc
theorem safe_ok {K : PySem.W.Frag} {T : List (Addr × Str)} {W : WX} {α : Type} {r : Rs α} {a : α} {H : Hp} {σ : L2.St} (h : r = .ok a) : Safe K T W r H σ := by
  subst h
  exact ⟨(fun h => by cases h), (fun c h => by cases h)⟩
theorem compL_len {f : D → Rs (Option D)} : ∀ {ds acc ys : List D}, compL f ds acc = .ok ys → ys.length ≤ acc.length + ds.length
  | [], acc, ys, h => by cases h; simp
  | d :: ds, acc, ys, h => by
    unfold compL at h
    split at h
    · have := compL_len h; simp; omega
    · have := compL_len h; simp at this ⊢; omega
    · cases h
section
variable {X : Cx} {T : List (Addr × Str)} {W : WX} {pos : Pos} {elt tg iter : Expr} {ifs : List Expr} {scope : Scope} {own : List (Str × Nat)} {fe fi : En → Rs D} {fc : Option (En → Rs D)} {g : Tg}
theorem tail_of {o : Option (En → Rs D)} : True := trivial
/-- the loop of a comprehension -/
theorem comp_loop {J : It} {ps : List (V × D)} {ds outs : List D} {σ : L2.St} {ρ : En} {H1 : Hp} {H0 : Hp} {N0 N : Hid} {pn : List (V × D)} {Dd : Addr} {Q : Hp → Prop} (rep : Rep X.K T H0 N0 pn H1 N σ ρ) (hp : ∀ q ∈ ps, Rp X.K H1 N q.1 q.2) (wk : Wk X.K T J ps ds) (hD : H1 Dd = none)
    (hz : ds.length ≤ szL) (hc : compL (stepF fe fc g ρ) ds [] = .ok outs) (k : ∀ acc H, Ext T H1 H → H Dd = some (.lst acc) → RpAll X.K H (Nu N Dd) acc outs → Q H) :
    ∃ W : Nat → Nat → Hp → Prop, (∃ m, W 0 m (upd H1 Dd (.lst []))) ∧ ∀ i m H, W i m H →
      (J.stop i H ∧ Q H) ∨ (J.go i H ∧ ∃ Nx : Hp → Prop, (∀ H', Nx H' → ∃ m', m' < m ∧ W (i + 1) m' H') ∧ ∀ x H', J.yld i H x H' → tgG X.K g x (wipe σ g.slots) H' fun σ2 H2 => wipe σ2 g.slots = wipe σ g.slots ∧ trTs X.K T fc σ2 H2 fun b H3 =>
        if b = true then trC X.K T W0 fe σ2 H3 fun y H4 => ∃ acc, H4 Dd = some (.lst acc) ∧ acc.length < sizeLine ∧ Nx (upd H4 Dd (.lst (acc ++ [y]))) else Nx H3) := by
  have hsz : (sizeLine : Nat) = szL := sizeLine_eq
  refine ⟨fun i m H => m = ds.length - i ∧ i ≤ ds.length ∧ ∃ acc ys, H Dd = some (.lst acc) ∧ Ext T H1 H ∧ RpAll X.K H (Nu N Dd) acc ys ∧ ys.length ≤ i ∧ compL (stepF fe fc g ρ) (ds.drop i) ys = .ok outs,
    ⟨ds.length, by simp, Nat.zero_le _, [], [], upd_same, Ext.new hD, .nil, Nat.le_refl _, by simpa using hc⟩, ?_⟩
  rintro i m H ⟨rfl, hi, acc, ys, hacc, e1, ra, hyl, hco⟩
  have repH : Rep X.K T H0 N0 pn H (Nu N Dd) σ ρ := rep.moreN (NF.of hD) e1 hacc (fun _ z => nomatch z)
  have pinH : ∀ q ∈ ps, Rp X.K H (Nu N Dd) q.1 q.2 := fun q hq => e1.rp ((hp q hq).hide (NF.of hD))
  have wkH := wk i H (Nu N Dd) repH.dom pinH
  by_cases hlt : i < ds.length
  · have hd : ds[i]? = some ds[i] := List.getElem?_eq_getElem hlt
    obtain ⟨go, yl⟩ := wkH.1 _ hd
    have hdrop : ds.drop i = ds[i] :: ds.drop (i + 1) := List.drop_eq_getElem_cons hlt
    rw [hdrop] at hco
    refine .inr ⟨go, fun H' => i + 1 ≤ ds.length ∧ ∃ acc ys, H' Dd = some (.lst acc) ∧ Ext T H1 H' ∧ RpAll X.K H' (Nu N Dd) acc ys ∧ ys.length ≤ i + 1 ∧ compL (stepF fe fc g ρ) (ds.drop (i + 1)) ys = .ok outs, fun H' hN => ⟨ds.length - (i + 1), by omega, rfl, hN.1, hN.2⟩, fun x H2 y2 => ?_⟩
    obtain ⟨e2, r2⟩ := yl x H2 y2
    have acc2 : H2 Dd = some (.lst acc) := e2.1 _ _ hacc (fun _ z => nomatch z)
    -- one step of the den
    have step : (∃ o, stepF fe fc g ρ ds[i] = .ok o) := by
      unfold compL at hco
      split at hco
      · exact ⟨_, by assumption⟩
      · exact ⟨_, by assumption⟩
      · cases hco
    obtain ⟨o, ho⟩ := step
    have ho2 := ho
    unfold stepF at ho2
    cases hput : putT (wip ρ g.slots) g ds[i] with
    | none => rw [hput] at ho2; cases ho2
    | some ρ' =>
      rw [hput] at ho2
      dsimp only at ho2
      refine putT_run ((repH.grow e2).wipe g.slots) hput r2 fun σ2 rep2 hw => ⟨by rw [hw]; clear hput hw ho2 ho hco hdrop hd yl go wkH; exact wipe_wipe _ _, ?_⟩
      -- the element, kept
      have kept : ∀ H3, Ext T H2 H3 → (∀ y, o = some y → fe ρ' = .ok y) → (∃ y, o = some y) → trC X.K T W0 fe σ2 H3 fun y H4 => ∃ acc, H4 Dd = some (.lst acc) ∧ acc.length < sizeLine ∧ (i + 1 ≤ ds.length ∧ ∃ acc' ys, upd H4 Dd (.lst (acc ++ [y])) Dd = some (.lst acc') ∧ Ext T H1 (upd H4 Dd (.lst (acc ++ [y]))) ∧ RpAll X.K (upd H4 Dd (.lst (acc ++ [y]))) (Nu N Dd) acc' ys ∧ ys.length ≤ i + 1 ∧ compL (stepF fe fc g ρ) (ds.drop (i + 1)) ys = .ok outs) := by
        rintro H3 e3 hfe ⟨y, rfl⟩
        have efe := hfe y rfl
        refine ⟨H0, N0, pn, Nu N Dd, ρ', rep2.grow e3, safe_ok efe, fun d ed v H4 e4 r4 => ?_⟩
        rw [efe] at ed
        cases ed
        have acc4 : H4 Dd = some (.lst acc) := e4.1 _ _ (e3.1 _ _ acc2 (fun _ z => nomatch z)) (fun _ z => nomatch z)
        have e24 := (e2.trans e3).trans e4
        have nD : Nu N Dd Dd := .inr rfl
        refine ⟨acc, acc4, by rw [ra.length, hsz]; omega, hlt, acc ++ [v], ys ++ [y], upd_same, ?_, ?_, by simp; omega, ?_⟩
        · refine ⟨fun b o' hb ho' => ?_, fun t => tabs_upd ((e1.trans e24).2 t) acc4 (fun _ z => nomatch z) (fun _ z => nomatch z)⟩
          rw [upd_ne (ne_of_none hb hD)]
          exact (e1.trans e24).1 b o' hb ho'
        · exact ((e24.rps ra).append (.cons r4 .nil)).mut nD
        · unfold compL at hco
          rw [ho] at hco
          exact hco
      have drop : ∀ H3, Ext T H2 H3 → o = none → (i + 1 ≤ ds.length ∧ ∃ acc ys, H3 Dd = some (.lst acc) ∧ Ext T H1 H3 ∧ RpAll X.K H3 (Nu N Dd) acc ys ∧ ys.length ≤ i + 1 ∧ compL (stepF fe fc g ρ) (ds.drop (i + 1)) ys = .ok outs) := by
        rintro H3 e3 rfl
        refine ⟨hlt, acc, ys, e3.1 _ _ acc2 (fun _ z => nomatch z), (e1.trans e2).trans e3, (e2.trans e3).rps ra, by omega, ?_⟩
        unfold compL at hco
        rw [ho] at hco
        exact hco
      cases fc with
      | none =>
        dsimp only at ho2
        simp only [trTs, tYes]
        refine kept H2 (Ext.refl _) (fun y hy => ?_) ?_
        · cases q : fe ρ' with
          | ok z => rw [q] at ho2; cases ho2; cases hy; rfl
          | exc c => rw [q] at ho2; cases ho2
          | bad => rw [q] at ho2; cases ho2
        · cases q : fe ρ' with
          | ok z => rw [q] at ho2; cases ho2; exact ⟨_, rfl⟩
          | exc c => rw [q] at ho2; cases ho2
          | bad => rw [q] at ho2; cases ho2
      | some fc =>
        dsimp only at ho2
        cases qc : fc ρ' with
        | exc c => rw [qc] at ho2; cases ho2
        | bad => rw [qc] at ho2; cases ho2
        | ok dc =>
          rw [qc] at ho2
          cases dc with
          | bl kb =>
            refine ⟨H0, N0, pn, Nu N Dd, ρ', rep2, ?_, fun b hb H3 e3 => ?_⟩
            · rw [qc]; exact safe_ok (a := kb) rfl
            · rw [qc] at hb
              cases hb
              cases kb with
              | false =>
                cases ho2
                exact iteF (drop H3 e3 rfl)
              | true =>
                have ho3 : ((fe ρ').bind fun y => Rs.ok (some y)) = .ok o := ho2
                refine iteT (kept H3 e3 (fun y hy => ?_) ?_)
                · cases q : fe ρ' with
                  | ok z => rw [q] at ho3; cases ho3; cases hy; rfl
                  | exc c => rw [q] at ho3; cases ho3
                  | bad => rw [q] at ho3; cases ho3
                · cases q : fe ρ' with
                  | ok z => rw [q] at ho3; cases ho3; exact ⟨_, rfl⟩
                  | exc c => rw [q] at ho3; cases ho3
                  | bad => rw [q] at ho3; cases ho3
          | _ => cases ho2
  · have e : i = ds.length := by omega
    subst e
    refine .inl ⟨wkH.2 (Nat.le_refl _), k acc H e1 hacc ?_⟩
    rw [List.drop_length] at hco
    cases hco
    exact ra
end
end DN

set_option Elab.async false
set_option linter.all false
set_option maxRecDepth 100000
namespace DN
open PySem PySem.Spec PyProof.Rows L2
section
variable {X : Cx} {T : List (Addr × Str)} {W : WX} {pos p : Pos} {e a b elt tg iter : Expr} {es ifs : List Expr} {scope : Scope} {own : List (Str × Nat)} {fa fb fe fi : En → Rs D} {fc : Option (En → Rs D)} {g : Tg}
/-! ### comprehensions as values -/
theorem comp_run {σ : L2.St} {H : Hp} {H0 : Hp} {N0 : Hid} {pn : List (V × D)} {N : Hid} {ρ : En} {Q : VK} {vs : List Nat} (hv : vs = g.slots) (rep : Rep X.K T H0 N0 pn H N σ ρ) (s : Safe X.K T W (compF fe g fi fc ρ) H σ)
    (k : ∀ outs acc H' q, compF fe g fi fc ρ = .ok (.lst outs) → NF H q → ¬ N q → Ext T H H' → H' q = some (.lst acc) → RpAll X.K H' (Nu N q) acc outs → Q (.ref q) H') :
    tLc (trI X.K T W fi) (tgG X.K g) (trTs X.K T fc) (trC X.K T W0 fe) vs σ H Q := by
  subst hv
  unfold compF at s
  have s0 : Safe X.K T W ((fi ρ).bind asL) H σ := by
    cases q : fi ρ with
    | ok d =>
      have := (s.right q).left
      obtain ⟨ds, rfl⟩ := this.asL
      exact this
    | exc c => rw [q] at s; exact ⟨(fun h => by cases h), (fun c' h => by cases h; exact s.2 c rfl)⟩
    | bad => rw [q] at s; exact absurd rfl s.1
  refine ⟨H0, N0, pn, N, ρ, rep, s0, fun ds eds J ps H1 e1 hp wk Dd hD => ?_⟩
  have s1 := (s.right eds).right (a := ds) rfl
  have hz : ds.length ≤ szL := by
    apply Decidable.byContradiction
    intro h
    rw [if_neg h] at s1
    exact s1.1 rfl
  rw [if_pos hz] at s1
  cases q : compL (stepF fe fc g ρ) ds [] with
  | ok outs =>
    refine comp_loop (rep.grow e1) hp wk hD hz q fun acc H' e2 hacc r => k outs acc H' Dd ?_ (NF.back e1.1 (NF.of hD)) ((rep.dom.ext e1).free hD) (e1.trans e2) hacc r
    unfold compF
    rw [eds]
    show (if ds.length ≤ szL then (compL (stepF fe fc g ρ) ds []).bind fun ys => Rs.ok (D.lst ys) else .bad) = _
    rw [if_pos hz, q]
    rfl
  | exc c =>
    exfalso
    have : ∀ (l acc : List D), compL (stepF fe fc g ρ) l acc ≠ .exc c := by
      intro l
      induction l with
      | nil => intro acc h; cases h
      | cons d l ih =>
        intro acc h
        unfold compL at h
        split at h
        · exact ih _ h
        · exact ih _ h
        · cases h
    exact this _ _ q
  | bad => rw [q] at s1; exact absurd rfl s1.1
theorem clean_of {K : PySem.W.Frag} {H : Hp} {N : Hid} {q : Addr} {acc : List V} {outs : List D} (hn : ¬ N q) (h : H q = some (.lst acc)) (r : RpAll K H (Nu N q) acc outs) : Rp K H N (.ref q) (.lst outs) := .lst ⟨hn, h⟩ (r.anti fun a z => .inl z)
theorem x_comp (hc : X.calm = true) (hN : X.N.Nodup) (hi : PI X tg iter (trI X.K T W fi)) (ok : BlkOk X.N X.env.scope scope own) (hv : own.map (·.2) = g.slots)
    (hg : ∀ (s : Shared) (H : Hp) (C : Addr) (cl : List (Str × Addr)) (fp : List Addr), PG (X.blk s H scope (compEnvC scope cl C X.env) fp) tg (tgG X.K g)) (ht : ∀ (s : Shared) (H : Hp) (C : Addr) (cl : List (Str × Addr)) (fp : List Addr), PTs (X.blk s H scope (compEnvC scope cl C X.env) fp) ifs (trTs X.K T fc))
    (he : ∀ (s : Shared) (H : Hp) (C : Addr) (cl : List (Str × Addr)) (fp : List Addr), PE (X.blk s H scope (compEnvC scope cl C X.env) fp) elt (trC X.K T W0 fe)) (hs : ∀ x, foldedSetIterable iter X.env x = pure x) :
    PE X (.ListComp elt [⟨tg, iter, ifs, 0⟩] scope pos) (trC X.K T W (compF fe g fi fc)) ∧ PE X (.ListComp elt [⟨tg, iter, ifs, 0⟩] scope pos) (trF X.K T W (compF fe g fi fc)) := by
  refine ⟨impE (pe_lc hc hN hi ok hg ht he hs) fun σ H Q h => ?_, impE (pe_lc hc hN hi ok hg ht he hs) fun σ H Q h => ?_⟩
  · obtain ⟨H0, N0, pn, N, ρ, rep, s, k⟩ := h
    exact comp_run hv rep s fun outs acc H' q eo hq nq e1 hacc r => k _ eo _ H' e1 (clean_of nq hacc r)
  · obtain ⟨H0, N0, pn, N, ρ, rep, s, _, k⟩ := h
    exact comp_run hv rep s fun outs acc H' q eo hq nq e1 hacc r => k outs eo q acc H' hq nq e1 hacc r
/-! ### other new lists -/
def r2F (K : PySem.W.Frag) (op : Bop) : R2 := fun x y H Q => ∃ N dx dy ds, RpO K H N x dx ∧ RpO K H N y dy ∧ binSem op dx dy = some (.lst ds) ∧ ∀ q xs, H q = none → RpAll K H N xs ds → Q (.ref q) (upd H q (.lst xs))
theorem bin_okF (op : Bop) : OpR X (binaryOp op.op) (r2F X.K op) := by
  intro pins s σ H x y v u Q I rx ry h
  obtain ⟨N, dx, dy, ds, hx, hy, e, k⟩ := h
  have hsz : (sizeLine : Nat) = szL := sizeLine_eq
  cases op with
  | add =>
    cases dx <;> cases dy <;> simp only [binSem, reduceCtorEq, Option.some.injEq] at e
    · split at e <;> cases e
    · split at e
      · cases e
        rename_i hl
        obtain ⟨a, xs, ex, q1, r1⟩ := hx.sqL
        obtain ⟨b, ys, ey, q2, r2⟩ := hy.sqL
        exact op_cat pins s σ H x y v u Q I rx ry ⟨a, b, xs, ys, ex, ey, q1, q2, by rw [r1.length, r2.length, hsz]; exact hl, fun q hq => k q _ hq (r1.append r2)⟩
      · cases e
    · split at e <;> cases e
  | mul =>
    cases dx <;> cases dy <;> simp only [binSem, reduceCtorEq] at e
    · split at e <;> cases e
    · split at e <;> cases e
    · split at e
      · cases e
        rename_i l k' hm
        unfold repOk at hm
        simp only [Bool.and_eq_true, decide_eq_true_eq] at hm
        obtain ⟨a, xs, ex, q1, r1⟩ := hx.sqL
        exact op_rep pins s σ H x y v u Q I rx ry ⟨a, _, xs, ex, hy.int, q1, by omega, by omega, by rw [r1.length, hsz]; exact hm.2, fun q hq => k q _ hq (r1.rep _)⟩
      · cases e
  | sub => cases dx <;> cases dy <;> simp [binSem] at e
  | fdiv => cases dx <;> cases dy <;> simp [binSem] at e
  | mod => cases dx <;> cases dy <;> simp [binSem] at e
  | pow => cases dx <;> cases dy <;> simp [binSem] at e
  | xor => cases dx <;> cases dy <;> simp [binSem] at e
theorem xf_bin (op : Bop) (ha : PE X a (trO X.K T W fa)) (hb : PE X b (trO X.K T W fb)) : PE X (.BinOp a op.op b pos) (trF X.K T W fun ρ => (fa ρ).bind fun x => (fb ρ).bind fun y => .of (binSem op x y)) := by
  refine impE (pe_op (bin_okF op) ha hb) fun σ H Q h => ?_
  obtain ⟨H0, N0, pn, N, ρ, rep, s, hl, k⟩ := h
  refine two (fun e r => e.rpo r) rfl rfl rep s fun x y v w H2 ex ey e2 r1 r2 s2 => ?_
  obtain ⟨d, ed⟩ := s2.of
  have eq : ((fun ρ => (fa ρ).bind fun x => (fb ρ).bind fun y => Rs.of (binSem op x y)) ρ) = .ok d := by
    dsimp only
    rw [ex, ey, Rs.bind_ok, Rs.bind_ok, ed]
    rfl
  obtain ⟨ds, rfl⟩ := hl d eq
  refine ⟨N, x, y, ds, r1, r2, ed, fun q xs hq r => ?_⟩
  obtain ⟨z1, z2, z3, z4, z5⟩ := newF (rep.dom.ext e2) e2 hq r
  exact k ds eq q xs _ z1 z2 z3 z4 z5
theorem call_list_any {X : Cx} (hc : X.calm = true) : CallR X (.type "list") (fun xs H Q => (∃ p ys, xs = [.ref p] ∧ (SqL X.K H p ys ∨ SqT X.K H p ys) ∧ ∀ l, H l = none → Q (.ref l) (upd H l (.lst ys))) ∨ (∃ l : List Nat, xs = [.str ⟨l.toArray⟩] ∧ l.length ≤ sizeLine ∧ ∀ p, H p = none → Q (.ref p) (upd H p (.lst (l.map fun c => V.str ⟨#[c]⟩))))) := fun pins s σ H xs us Q I r h => h.elim (call_list_of pins s σ H xs us Q I r) (call_lstr hc pins s σ H xs us Q I r)
theorem chars_rp {K : PySem.W.Frag} {H : Hp} {N : Hid} : ∀ {l : List Nat}, (∀ c ∈ l, c < 0x110000) → RpAll K H N (l.map fun c => V.str ⟨#[c]⟩) (l.map fun c => D.str [c])
  | [], _ => .nil
  | c :: l, h => .cons (.str [c] (fun k hk => by rw [List.mem_singleton] at hk; rw [hk]; exact h c (by simp)) (by show 1 ≤ 16777216; omega)) (chars_rp fun k hk => h k (by simp [hk]))
theorem xf_list (hc : X.calm = true) (hg : Gl X "list") (hm : X.mg "list" = none) (ha : PE X a (trO X.K T W fa)) (he : starEach [a] X.env = (false, eval a X.env) :: starEach [] X.env) :
    PE X (.Call (.Name "list" p) [a] [] pos) (trF X.K T W fun ρ => (fa ρ).bind fun x => .of (bltSem .list [x])) := by
  refine impE (pe_callTy (call_list_any hc) hg hm (by decide +kernel) (pa_cons ha pa_nil he) (by decide) (by decide) he rfl) fun σ H Q h => ?_
  obtain ⟨H0, N0, pn, N, ρ, rep, s, hl, k⟩ := h
  refine ⟨H0, N0, pn, N, ρ, rep, s.left, fun x ex v H1 e1 r1 => ?_⟩
  obtain ⟨d, ed⟩ := (s.right ex).of
  have eq : ((fun ρ => (fa ρ).bind fun x => Rs.of (bltSem .list [x])) ρ) = .ok d := by
    dsimp only
    rw [ex, Rs.bind_ok, ed]
    rfl
  cases x with
  | lst ds =>
    cases ed
    obtain ⟨q, xs, rfl, q1, r2⟩ := r1.sqL
    refine .inl ⟨q, xs, rfl, .inl (.inl (.inl q1)), fun l hq => ?_⟩
    obtain ⟨z1, z2, z3, z4, z5⟩ := newF (rep.dom.ext e1) e1 hq r2
    exact k ds eq l xs _ z1 z2 z3 z4 z5
  | str l0 =>
    cases ed
    obtain ⟨ex', cx, lx⟩ := r1.str
    refine .inr ⟨l0, by rw [ex'], lx, fun l hq => ?_⟩
    obtain ⟨z1, z2, z3, z4, z5⟩ := newF (rep.dom.ext e1) e1 hq (chars_rp cx)
    exact k _ eq l _ _ z1 z2 z3 z4 z5
  | tup ds =>
    cases ed
    obtain ⟨q, xs, rfl, q1, r2⟩ := r1.sqT
    refine .inl ⟨q, xs, rfl, .inr q1.sq, fun l hq => ?_⟩
    obtain ⟨z1, z2, z3, z4, z5⟩ := newF (rep.dom.ext e1) e1 hq r2
    exact k ds eq l xs _ z1 z2 z3 z4 z5
  | _ => simp [bltSem] at ed
theorem x_lrng {p2 p3 : Pos} (hc : X.calm = true) (hg : Gl X "list") (hm : X.mg "list" = none) (hg2 : Gl X "range") (hm2 : X.mg "range" = none) (ha : PE X a (trC X.K T W fa)) (hb : PE X b (trC X.K T W fb)) (na : starEach [a, b] X.env = (false, eval a X.env) :: starEach [b] X.env)
    (nb : starEach [b] X.env = (false, eval b X.env) :: starEach [] X.env) : PE X (.Call (.Name "list" p) [.Call (.Name "range" p2) [a, b] [] p3] [] pos) (trC X.K T W (lrngF fa fb)) ∧ PE X (.Call (.Name "list" p) [.Call (.Name "range" p2) [a, b] [] p3] [] pos) (trF X.K T W (lrngF fa fb)) := by
  refine ⟨impE (pe_listRg hc hg hm (prg_2 hg2 hm2 ha hb na nb (by rw [nb]; rfl)) rfl) fun σ H Q h => ?_, impE (pe_listRg hc hg hm (prg_2 hg2 hm2 ha hb na nb (by rw [nb]; rfl)) rfl) fun σ H Q h => ?_⟩
  · obtain ⟨H0, N0, pn, N, ρ, rep, s, k⟩ := h
    exact lrng_run rep s fun ds xs H1 q ed e1 hq r => k _ ed _ _ (e1.trans (Ext.new hq)) (Rp.newL (rep.dom.ext e1) hq r)
  · obtain ⟨H0, N0, pn, N, ρ, rep, s, _, k⟩ := h
    refine lrng_run rep s fun ds xs H1 q ed e1 hq r => ?_
    obtain ⟨z1, z2, z3, z4, z5⟩ := newF (rep.dom.ext e1) e1 hq r
    exact k ds ed q xs _ z1 z2 z3 z4 z5
theorem x_lrng1 {p2 p3 : Pos} (hc : X.calm = true) (hg : Gl X "list") (hm : X.mg "list" = none) (hg2 : Gl X "range") (hm2 : X.mg "range" = none) (hb : PE X b (trC X.K T W fb))
    (nb : starEach [b] X.env = (false, eval b X.env) :: starEach [] X.env) : PE X (.Call (.Name "list" p) [.Call (.Name "range" p2) [b] [] p3] [] pos) (trC X.K T W (lrng1F fb)) ∧ PE X (.Call (.Name "list" p) [.Call (.Name "range" p2) [b] [] p3] [] pos) (trF X.K T W (lrng1F fb)) := by
  refine ⟨impE (pe_listRg hc hg hm (prg_1 hg2 hm2 hb nb) rfl) fun σ H Q h => ?_, impE (pe_listRg hc hg hm (prg_1 hg2 hm2 hb nb) rfl) fun σ H Q h => ?_⟩
  · obtain ⟨H0, N0, pn, N, ρ, rep, s, k⟩ := h
    exact lrng1_run rep s fun ds xs H1 q ed e1 hq r => k _ ed _ _ (e1.trans (Ext.new hq)) (Rp.newL (rep.dom.ext e1) hq r)
  · obtain ⟨H0, N0, pn, N, ρ, rep, s, _, k⟩ := h
    refine lrng1_run rep s fun ds xs H1 q ed e1 hq r => ?_
    obtain ⟨z1, z2, z3, z4, z5⟩ := newF (rep.dom.ext e1) e1 hq r
    exact k ds ed q xs _ z1 z2 z3 z4 z5
end
end DN

set_option Elab.async false
set_option linter.all false
set_option maxRecDepth 100000
namespace DN
open PySem PySem.Spec PyProof.Rows L2
section
variable {X : Cx} {T : List (Addr × Str)} {W : WX} {pos p : Pos} {e a b c tg iter : Expr} {es ifs : List Expr} {fa fb fe fi fc : En → Rs D} {f f' : En → Out} {st : Stmt} {sts sts' : List Stmt} {g : Tg}
/-! ### blocks -/
def seqF (f f' : En → Out) : En → Out := fun ρ => match f ρ with
  | .nx ρ' => f' ρ'
  | o => o
theorem evS_seq {H0 : Hp} {N0 : Hid} {pn : List (V × D)} {D : Ends} {ρ : En} (h : EvS X.K T W H0 N0 pn D (seqF f f' ρ)) : EvS X.K T W H0 N0 pn { D with nx := trS X.K T W f' D } (f ρ) := by
  unfold seqF at h
  cases q : f ρ with
  | nx ρ' =>
    rw [q] at h
    exact fun σ H N rep => ⟨H0, N0, pn, N, ρ', rep, h⟩
  | rt d => rw [q] at h; exact h
  | xc c ρ' => rw [q] at h; exact h
  | br ρ' => rw [q] at h; exact h
  | ct ρ' => rw [q] at h; exact h
  | bad => rw [q] at h; exact h
theorem s_nil : PSs X [] (trS X.K T W fun ρ => .nx ρ) := by
  refine impSs pss_nil fun D σ H h => ?_
  obtain ⟨H0, N0, pn, N, ρ, rep, k⟩ := h
  exact k σ H N rep
theorem s_cons (h : PS X st (trS X.K T W f)) (h' : PSs X sts (trS X.K T W f')) : PSs X (st :: sts) (trS X.K T W (seqF f f')) := by
  refine impSs (pss_cons h h') fun D σ H h => ?_
  obtain ⟨H0, N0, pn, N, ρ, rep, k⟩ := h
  exact ⟨H0, N0, pn, N, ρ, rep, evS_seq k⟩
def disF (i : Nat) : En → Out := fun ρ => match ρ[i]? with
  | some (.own d) => .nx (putD ρ i d)
  | some (.dat _) => .nx ρ
  | _ => .bad
theorem s_dis {i : Nat} (h : PSs X sts (trS X.K T W f)) : PSs X sts (trS X.K T W (seqF (disF i) f)) := by
  refine impSs h fun D σ H h => ?_
  obtain ⟨H0, N0, pn, N, ρ, rep, k⟩ := h
  unfold seqF disF at k
  cases q : ρ[i]? with
  | none => rw [q] at k; exact k.elim
  | some z =>
    rw [q] at k
    cases z with
    | no => exact k.elim
    | dat d => exact ⟨H0, N0, pn, N, ρ, rep, k⟩
    | own d =>
      obtain ⟨N', rep'⟩ := rep.dis q
      exact ⟨H0, N0, pn, N', _, rep', k⟩
/-! ### a result, then more -/
theorem safe_on {α : Type} {r : Rs α} {k : α → Out} {H0 : Hp} {N0 : Hid} {pn : List (V × D)} {D : Ends} {ρ : En} {σ : L2.St} {H : Hp} {N : Hid} (rep : Rep X.K T H0 N0 pn H N σ ρ) (h : EvS X.K T W H0 N0 pn D (onR r ρ k)) : Safe X.K T W r H σ := by
  cases r with
  | ok a => exact safe_ok rfl
  | exc c => exact ⟨(fun z => by cases z), (fun c' z H' e => by cases z; exact h σ H' N (rep.grow e))⟩
  | bad => exact h.elim
def asgF (g : Tg) (fa : En → Rs D) : En → Out := fun ρ => onR (fa ρ) ρ fun d => onO (putT ρ g d)
theorem s_asg (h : PS X st (tAsg (trC X.K T W fa) (tgG X.K g))) : PS X st (trS X.K T W (asgF g fa)) := by
  refine impS h fun D σ H h => ?_
  obtain ⟨H0, N0, pn, N, ρ, rep, k⟩ := h
  refine ⟨H0, N0, pn, N, ρ, rep, safe_on rep k, fun d ed v H' e r => ?_⟩
  unfold asgF at k
  rw [ed] at k
  have k2 : EvS X.K T W H0 N0 pn D (onO (putT ρ g d)) := k
  cases q : putT ρ g d with
  | none => rw [q] at k2; exact k2.elim
  | some ρ' =>
    rw [q] at k2
    exact putT_run (rep.grow e) q r fun σ' rep' _ => k2 σ' H' N rep'
def ownF (i : Nat) (fa : En → Rs D) : En → Out := fun ρ => onR (fa ρ) ρ fun d => match d with
  | .lst ds => .nx (ρ.set i (.own (.lst ds)))
  | _ => .bad
theorem Rep.fresh {K : PySem.W.Frag} {H0 H : Hp} {N0 N : Hid} {pn : List (V × D)} {σ : L2.St} {ρ : En} (rep : Rep K T H0 N0 pn H N σ ρ) {q : Addr} (hq : NF H q) (j : Nat) (d : D) (h : ρ[j]? = some (.own d)) : σ[j]? ≠ some (some (.ref q)) := fun z => by
  obtain ⟨a, h1, _, _, h4⟩ := rep.own j d h
  rw [z] at h1
  cases h1
  obtain ⟨o, ho, ht, _⟩ := h4.obj
  exact hq.ne ho ht rfl
theorem s_own {i : Nat} (h : PS X st (tAsg (trF X.K T W fa) (gName i))) : PS X st (trS X.K T W (ownF i fa)) := by
  refine impS h fun D σ H h => ?_
  obtain ⟨H0, N0, pn, N, ρ, rep, k⟩ := h
  have hl : ∀ d, fa ρ = .ok d → ∃ ds, d = .lst ds := fun d ed => by
    unfold ownF at k
    rw [ed] at k
    cases d <;> first | exact ⟨_, rfl⟩ | exact k.elim
  refine ⟨H0, N0, pn, N, ρ, rep, safe_on rep k, hl, fun ds ed q xs H' hq nq e hH r => ?_⟩
  unfold ownF at k
  rw [ed] at k
  have k2 : EvS X.K T W H0 N0 pn D (.nx (ρ.set i (.own (.lst ds)))) := k
  have rep1 := rep.moreN hq e hH (fun _ z => nomatch z)
  exact k2 _ H' _ (rep1.putO (.inr rfl) (NF.back rep.ext.1 hq) (.lst hH r) (fun j d' h => rep.fresh hq j d' h))
def exprF (fa : En → Rs D) : En → Out := fun ρ => onR (fa ρ) ρ fun _ => .nx ρ
theorem s_expr (h : PE X e (trC X.K T W fa)) (hs : swapsWith e none pos.line X.env = pure false) : PS X (.Expr e pos) (trS X.K T W (exprF fa)) := by
  refine impS (ps_expr h hs) fun D σ H h => ?_
  obtain ⟨H0, N0, pn, N, ρ, rep, k⟩ := h
  refine ⟨H0, N0, pn, N, ρ, rep, safe_on rep k, fun d ed v H' e r => ?_⟩
  unfold exprF at k
  rw [ed] at k
  exact (show EvS X.K T W H0 N0 pn D (.nx ρ) from k) σ H' N (rep.grow e)
def retF (fa : En → Rs D) : En → Out := fun ρ => onR (fa ρ) ρ fun d => .rt d
theorem s_ret (h : PE X e (trC X.K T W fa)) : PS X (.Return (some e) pos) (trS X.K T W (retF fa)) := by
  refine impS (ps_ret h) fun D σ H h => ?_
  obtain ⟨H0, N0, pn, N, ρ, rep, k⟩ := h
  refine ⟨H0, N0, pn, N, ρ, rep, safe_on rep k, fun d ed v H' e r => ?_⟩
  unfold retF at k
  rw [ed] at k
  exact (show EvS X.K T W H0 N0 pn D (.rt d) from k) v H' (rep.ext.trans e) (e.2 rep.tabs) (r.anti rep.hid)
theorem s_retN : PS X (.Return none pos) (trS X.K T W fun _ => .rt .non) := by
  refine impS ps_retN fun D σ H h => ?_
  obtain ⟨H0, N0, pn, N, ρ, rep, k⟩ := h
  exact (show EvS X.K T W H0 N0 pn D (.rt .non) from k) .non H rep.ext rep.tabs .non
theorem s_pass : PS X (.Pass pos) (trS X.K T W fun ρ => .nx ρ) := by
  refine impS ps_pass fun D σ H h => ?_
  obtain ⟨H0, N0, pn, N, ρ, rep, k⟩ := h
  exact k σ H N rep
theorem s_brk : PS X (.Break pos) (trS X.K T W fun ρ => .br ρ) := by
  refine impS ps_break fun D σ H h => ?_
  obtain ⟨H0, N0, pn, N, ρ, rep, k⟩ := h
  exact k σ H N rep
theorem s_cnt : PS X (.Continue pos) (trS X.K T W fun ρ => .ct ρ) := by
  refine impS ps_continue fun D σ H h => ?_
  obtain ⟨H0, N0, pn, N, ρ, rep, k⟩ := h
  exact k σ H N rep
/-- a test, then more -/
theorem testR {k : Bool → Out} {H0 : Hp} {N0 : Hid} {pn : List (V × D)} {D : Ends} {ρ : En} {σ : L2.St} {H : Hp} {N : Hid} {P : Bool → Hp → Prop} (rep : Rep X.K T H0 N0 pn H N σ ρ) (h : EvS X.K T W H0 N0 pn D (onR ((fc ρ).bind asB) ρ k))
    (hk : ∀ b H', Ext T H H' → EvS X.K T W H0 N0 pn D (k b) → P b H') : trB X.K T W fc σ H P := by
  refine ⟨H0, N0, pn, N, ρ, rep, safe_on rep h, fun b eb H' e => hk b H' e ?_⟩
  rw [eb] at h
  exact h
def ifSF (fc : En → Rs D) (f f' : En → Out) : En → Out := fun ρ => onR ((fc ρ).bind asB) ρ fun k => if k then f ρ else f' ρ
theorem s_if (hc : PT X c (trB X.K T W fc)) (h : PSs X sts (trS X.K T W f)) (h' : PSs X sts' (trS X.K T W f')) : PS X (.If c sts sts' pos) (trS X.K T W (ifSF fc f f')) := by
  refine impS (ps_if hc h h') fun D σ H h => ?_
  obtain ⟨H0, N0, pn, N, ρ, rep, k⟩ := h
  refine testR rep k fun b H' e kb => ?_
  cases b with
  | true => exact iteT ⟨H0, N0, pn, N, ρ, rep.grow e, kb⟩
  | false => exact iteF ⟨H0, N0, pn, N, ρ, rep.grow e, kb⟩
/-! ### loops -/
theorem s_while {n : Nat} (hp : PassesOwn (model X.prog X.w) X.A X.env X.xe) (hc : PT X c (trB X.K T W fc)) (hb : PSs X sts (trS X.K T W f)) : PS X (.While c sts [] pos) (trS X.K T W (whlL fc f n)) := by
  refine impS (ps_while hp hc hb) fun D σ H h => ?_
  obtain ⟨H0, N0, pn, N, ρ, rep, k⟩ := h
  refine ⟨fun m σ H => ∃ N ρ, Rep X.K T H0 N0 pn H N σ ρ ∧ EvS X.K T W H0 N0 pn D (whlL fc f m ρ), ⟨n, N, ρ, rep, k⟩, ?_⟩
  rintro m σ H ⟨N, ρ, rep, k⟩
  cases m with
  | zero => exact k.elim
  | succ m =>
    unfold whlL at k
    refine testR rep k fun b H' e kb => ?_
    cases b with
    | false => exact iteF ((show EvS X.K T W H0 N0 pn D (.nx ρ) from kb) σ H' N (rep.grow e))
    | true =>
      refine iteT ⟨fun σ' H' => ∃ N ρ, Rep X.K T H0 N0 pn H' N σ' ρ ∧ EvS X.K T W H0 N0 pn D (whlL fc f m ρ), fun σ' H' z => ⟨m, Nat.lt_succ_self m, z⟩, H0, N0, pn, N, ρ, rep.grow e, ?_⟩
      have kb2 : EvS X.K T W H0 N0 pn D (match f ρ with
        | .nx ρ' => whlL fc f m ρ'
        | .ct ρ' => whlL fc f m ρ'
        | .br ρ' => .nx ρ'
        | o => o) := kb
      cases q : f ρ with
      | nx ρ' => rw [q] at kb2; exact fun σ2 H2 N2 rep2 => ⟨N2, ρ', rep2, kb2⟩
      | ct ρ' => rw [q] at kb2; exact fun σ2 H2 N2 rep2 => ⟨N2, ρ', rep2, kb2⟩
      | br ρ' => rw [q] at kb2; exact kb2
      | rt d => rw [q] at kb2; exact kb2
      | xc c ρ' => rw [q] at kb2; exact kb2
      | bad => rw [q] at kb2; exact kb2
def forF (g : Tg) (fi : En → Rs D) (f : En → Out) : En → Out := fun ρ => onR ((fi ρ).bind asL) ρ fun ds => forL g f ds ρ
theorem s_for (hp : PassesOwn (model X.prog X.w) X.A X.env X.xe) (hc : X.calm = true) (hi : PI X tg iter (trI X.K T W fi)) (hg : PG X tg (tgG X.K g)) (hb : PSs X sts (trS X.K T W f)) (hs : ∀ x, foldedSetIterable iter X.env x = pure x) :
    PS X (.For tg iter sts [] pos) (trS X.K T W (forF g fi f)) := by
  refine impS (ps_for hp hc hi hg hb hs) fun D σ H h => ?_
  obtain ⟨H0, N0, pn, N, ρ, rep, k⟩ := h
  refine ⟨H0, N0, pn, N, ρ, rep, safe_on rep k, fun ds eds J ps H1 e1 hps wk => ?_⟩
  have k2 : EvS X.K T W H0 N0 pn D (forL g f ds ρ) := by
    unfold forF at k
    rw [eds] at k
    exact k
  have un : ∀ {H : Hp} {N : Hid} {σ : L2.St} {ρ : En}, Rep X.K T H0 N0 (ps ++ pn) H N σ ρ → Rep X.K T H0 N0 pn H N σ ρ := fun r => r.unpin fun q hq => List.mem_append_right _ hq
  have start : Rep X.K T H0 N0 (ps ++ pn) H1 N σ ρ := { rep.grow e1 with pins := fun q hq => (List.mem_append.mp hq).elim (hps q) ((rep.grow e1).pins q) }
  refine ⟨fun i m σ H => m = ds.length - i ∧ i ≤ ds.length ∧ ∃ N ρ, Rep X.K T H0 N0 (ps ++ pn) H N σ ρ ∧ EvS X.K T W H0 N0 pn D (forL g f (ds.drop i) ρ), ⟨ds.length, by simp, Nat.zero_le _, N, ρ, start, k2⟩, ?_⟩
  rintro i m σ H ⟨rfl, hi, N, ρ, rep, k⟩
  have wkH := wk i H N rep.dom fun q hq => rep.pins q (List.mem_append_left _ hq)
  by_cases hlt : i < ds.length
  · have hd : ds[i]? = some ds[i] := List.getElem?_eq_getElem hlt
    obtain ⟨go, yl⟩ := wkH.1 _ hd
    rw [List.drop_eq_getElem_cons hlt] at k
    unfold forL at k
    refine .inr ⟨go, fun σ' H' => i + 1 ≤ ds.length ∧ ∃ N ρ, Rep X.K T H0 N0 (ps ++ pn) H' N σ' ρ ∧ EvS X.K T W H0 N0 pn D (forL g f (ds.drop (i + 1)) ρ), fun σ' H' z => ⟨ds.length - (i + 1), by omega, rfl, z.1, z.2⟩, fun x H2 y2 => ?_⟩
    obtain ⟨e2, r2⟩ := yl x H2 y2
    cases q : putT ρ g ds[i] with
    | none => rw [q] at k; exact k.elim
    | some ρ1 =>
      rw [q] at k
      refine putT_run (rep.grow e2) q r2 fun σ2 rep2 _ => ⟨H0, N0, ps ++ pn, N, ρ1, rep2, ?_⟩
      have k3 : EvS X.K T W H0 N0 pn D (match f ρ1 with
        | .nx ρ' => forL g f (ds.drop (i + 1)) ρ'
        | .ct ρ' => forL g f (ds.drop (i + 1)) ρ'
        | .br ρ' => .nx ρ'
        | o => o) := k
      cases q2 : f ρ1 with
      | nx ρ' => rw [q2] at k3; exact fun σ3 H3 N3 rep3 => ⟨hlt, N3, ρ', rep3, k3⟩
      | ct ρ' => rw [q2] at k3; exact fun σ3 H3 N3 rep3 => ⟨hlt, N3, ρ', rep3, k3⟩
      | br ρ' => rw [q2] at k3; exact fun σ3 H3 N3 rep3 => k3 σ3 H3 N3 (un rep3)
      | rt d => rw [q2] at k3; exact k3
      | xc c ρ' => rw [q2] at k3; exact fun σ3 H3 N3 rep3 => k3 σ3 H3 N3 (un rep3)
      | bad => rw [q2] at k3; exact k3
  · have e : i = ds.length := by omega
    subst e
    rw [List.drop_length] at k
    exact .inl ⟨wkH.2 (Nat.le_refl _), (show EvS X.K T W H0 N0 pn D (.nx ρ) from k) σ H N (un rep)⟩
/-! ### raise, append, extend -/
theorem s_raise {x m : Str} {j : Nat} {p p2 p3 : Pos} (hc : X.calm = true) (tk : L2N.Takes X W) (q : PySem.W.excIn X.K (He.ga X.K x) He.veBase "ValueError.__new__" = true) (gC : X.mg x = some (.ref (He.ga X.K x))) (kC : PySem.W.keepIn X.K (.ref (He.ga X.K x)) = true)
    (b1 : PySem.W.subIn X.K (.ref (He.ga X.K x)) (.type "BaseException") = some true) (t1 : PySem.W.typeIn X.K (.ref (He.ga X.K x)) = some (.type "type")) (hg : Gl X x) (hdb : (x == ("__debug__" : Str)) = false) :
    PS X (.Raise (some (.Call (.Name x p) [.Constant (.str m) j p2] [] p3)) none pos) (trS X.K T W fun ρ => .xc x ρ) := by
  refine impS (L2N.ps_raise hc tk (L2N.pmk_own PySem.F.excBase_ValueError q gC kC (raises_own b1 t1) hg hdb)) fun D σ H h => ?_
  obtain ⟨H0, N0, pn, N, ρ, rep, k⟩ := h
  exact k σ H N rep
theorem own_at {K : PySem.W.Frag} {H : Hp} {N : Hid} {a : Addr} {ds : List D} (h : OwnAt K H N a (.lst ds)) : ∃ xs, H a = some (.lst xs) ∧ RpAll K H N xs ds := by
  cases h with
  | lst h q => exact ⟨_, h, q⟩
/-- a slot's list that is changed by a value -/
def mutF (i : Nat) (fa : En → Rs D) (k : List D → D → Out) : En → Out := fun ρ => match ρ[i]? with
  | some (.own (.lst ds)) => onR (fa ρ) ρ fun d => k ds d
  | _ => .bad
def appK (i : Nat) (ρ : En) (ds : List D) (d : D) : Out := if ds.length < szL then .nx (ρ.set i (.own (.lst (ds ++ [d])))) else .bad
def extK (i : Nat) (ρ : En) (ds : List D) (d : D) : Out := match d with
  | .lst es => if ds.length + es.length ≤ szL then .nx (ρ.set i (.own (.lst (ds ++ es)))) else .bad
  | _ => .bad
theorem meth_run {i : Nat} {k : List D → D → Out} {H0 : Hp} {N0 : Hid} {pn : List (V × D)} {D' : Ends} {ρ : En} {σ : L2.St} {H : Hp} {N : Hid} {Q : V → List V → Hp → Prop} (rep : Rep X.K T H0 N0 pn H N σ ρ) (h : EvS X.K T W H0 N0 pn D' (mutF i fa k ρ))
    (hk : ∀ a ds d xs v H', ρ[i]? = some (.own (.lst ds)) → σ[i]? = some (some (.ref a)) → H' a = some (.lst xs) → RpAll X.K H' N xs ds → Ext T H H' → Rp X.K H' N v d → EvS X.K T W H0 N0 pn D' (k ds d) → Q (.ref a) [v] H') :
    ∃ v, σ[i]? = some (some v) ∧ (tyV X.K "list" v H ∧ tCons (trC X.K T W fa) tNil σ H fun xs H2 => Q v xs H2) := by
  unfold mutF at h
  split at h
  · rename_i ds hi
    obtain ⟨a, ha, na, fa', oa⟩ := rep.own i _ hi
    obtain ⟨xs, hx, rx⟩ := own_at oa
    refine ⟨.ref a, ha, .inl ⟨rfl, xs, .inl (.inl hx)⟩, H0, N0, pn, N, ρ, rep, safe_on rep h, fun d ed v H' e r => ?_⟩
    rw [ed] at h
    exact hk a ds d xs v H' hi ha (e.1 _ _ hx (fun _ z => nomatch z)) (e.rps rx) e r h
  · exact h.elim
theorem s_app {i : Nat} {x : Str} {p2 p3 p4 : Pos} (hN : X.N[i]? = some x) (hv : Vis X.env.scope x) (hd : (x == ("__debug__" : Str)) = false) (hcd : (x == ("__classdict__" : Str)) = false) (ha : PE X a (trC X.K T W fa)) (he : starEach [a] X.env = (false, eval a X.env) :: starEach [] X.env) (hl : (p3.endLine == p4.line) = true) :
    PS X (.Expr (.Call (.Attribute (.Name x p2) "append" p3) [a] [] p4) pos) (trS X.K T W fun ρ => mutF i fa (appK i ρ) ρ) := by
  refine impS (ps_expr (pe_bm PySem.F.plainAttrs_list PySem.F.slot_list_append PySem.F.type_list_append mt_append (pe_var hN hv hd hcd) (pa_cons ha pa_nil he) (hfew := by rw [he]; rfl) (hline := hl) (hs := he)) rfl) fun D σ H h => ?_
  obtain ⟨H0, N0, pn, N, ρ, rep, k⟩ := h
  refine meth_run rep k fun a ds d xs v H' hi ha hx rx e r kk => ?_
  unfold appK at kk
  split at kk
  · rename_i hl
    refine ⟨a, xs, v, rfl, rfl, hx, by rw [rx.length, szL_eq]; exact hl, ?_⟩
    have kk2 : EvS X.K T W H0 N0 pn D (.nx (ρ.set i (.own (.lst (ds ++ [d]))))) := kk
    exact kk2 σ _ N ((rep.grow e).mutO hi ha (fun _ z => nomatch z) fun na => .lst upd_same ((rx.append (.cons r .nil)).mut na))
  · exact kk.elim
def appcF (ft : En → Rs D) (i j : Nat) (fa : En → Rs D) : En → Out := fun ρ => onR ((ft ρ).bind asB) ρ fun k => if k then mutF i fa (appK i ρ) ρ else mutF j fa (appK j ρ) ρ
theorem s_appc {t : Expr} {ft : En → Rs D} {i j : Nat} {x y : Str} {p2 p3 p4 p5 p6 : Pos} (ht : PT X t (trB X.K T W ft)) (hN : X.N[i]? = some x) (hv : Vis X.env.scope x) (hd : (x == ("__debug__" : Str)) = false) (hcd : (x == ("__classdict__" : Str)) = false) (hN' : X.N[j]? = some y) (hv' : Vis X.env.scope y) (hd' : (y == ("__debug__" : Str)) = false) (hcd' : (y == ("__classdict__" : Str)) = false)
    (ha : PE X a (trC X.K T W fa)) (he : starEach [a] X.env = (false, eval a X.env) :: starEach [] X.env) (hl : (p3.endLine == p4.line) = true) :
    PS X (.Expr (.Call (.Attribute (.IfExp t (.Name x p2) (.Name y p5) p6) "append" p3) [a] [] p4) pos) (trS X.K T W (appcF ft i j fa)) := by
  refine impS (ps_expr (pe_bm PySem.F.plainAttrs_list PySem.F.slot_list_append PySem.F.type_list_append mt_append (pe_ifExp ht (pe_var hN hv hd hcd) (pe_var hN' hv' hd' hcd')) (pa_cons ha pa_nil he) (hfew := by rw [he]; rfl) (hline := hl) (hs := he)) rfl) fun D σ H h => ?_
  obtain ⟨H0, N0, pn, N, ρ, rep, k⟩ := h
  refine testR rep k fun b H1 e1 kb => ?_
  have go : ∀ i, EvS X.K T W H0 N0 pn D (mutF i fa (appK i ρ) ρ) → ∃ v, σ[i]? = some (some v) ∧ (tyV X.K "list" v H1 ∧ tCons (trC X.K T W fa) tNil σ H1 fun xs H2 => rAppend v xs H2 (fun _ H3 => D.nx σ H3)) := fun i kb => by
    refine meth_run (rep.grow e1) kb fun a ds d xs v H' hi ha hx rx e r kk => ?_
    unfold appK at kk
    split at kk
    · rename_i hl
      refine ⟨a, xs, v, rfl, rfl, hx, by rw [rx.length, szL_eq]; exact hl, ?_⟩
      have kk2 : EvS X.K T W H0 N0 pn D (.nx (ρ.set i (.own (.lst (ds ++ [d]))))) := kk
      exact kk2 σ _ N (((rep.grow e1).grow e).mutO hi ha (fun _ z => nomatch z) fun na => .lst upd_same ((rx.append (.cons r .nil)).mut na))
    · exact kk.elim
  cases b with
  | true => exact iteT (go i kb)
  | false => exact iteF (go j kb)
theorem s_ext {i : Nat} {x : Str} {p2 p3 p4 : Pos} (hN : X.N[i]? = some x) (hv : Vis X.env.scope x) (hd : (x == ("__debug__" : Str)) = false) (hcd : (x == ("__classdict__" : Str)) = false) (ha : PE X a (trC X.K T W fa)) (he : starEach [a] X.env = (false, eval a X.env) :: starEach [] X.env) (hl : (p3.endLine == p4.line) = true) :
    PS X (.Expr (.Call (.Attribute (.Name x p2) "extend" p3) [a] [] p4) pos) (trS X.K T W fun ρ => mutF i fa (extK i ρ) ρ) := by
  refine impS (ps_expr (pe_bm PySem.F.plainAttrs_list PySem.F.slot_list_extend PySem.F.type_list_extend mt_extend (pe_var hN hv hd hcd) (pa_cons ha pa_nil he) (hfew := by rw [he]; rfl) (hline := hl) (hs := he)) rfl) fun D σ H h => ?_
  obtain ⟨H0, N0, pn, N, ρ, rep, k⟩ := h
  refine meth_run rep k fun a ds d xs v H' hi ha hx rx e r kk => ?_
  unfold extK at kk
  split at kk
  · rename_i es
    split at kk
    · rename_i hl
      cases r with
      | lst h1 h2 =>
        refine ⟨a, _, xs, _, rfl, rfl, hx, h1.2, by rw [rx.length, h2.length, szL_eq]; exact hl, ?_⟩
        have kk2 : EvS X.K T W H0 N0 pn D (.nx (ρ.set i (.own (.lst (ds ++ es))))) := kk
        exact kk2 σ _ N ((rep.grow e).mutO hi ha (fun _ z => nomatch z) fun na => .lst upd_same ((rx.append h2).mut na))
    · exact kk.elim
  · exact kk.elim
end
end DN

set_option Elab.async false
set_option linter.all false
set_option maxRecDepth 100000
set_option maxHeartbeats 1000000
namespace DN
open PySem PySem.Spec PyProof.Rows L2
/-! ### xs[k] = v -/
section
variable {X : Cx} {T : List (Addr × Str)} {W : WX} {pos p : Pos} {a b : Expr} {fa fb : En → Rs D}
theorem swaps_sub (value o i : Expr) (p : Pos) (n : Nat) (env : Env) : swapsWith value (some (.Subscript o i p)) n env = pure false := by
  cases value <;> rfl
theorem ps_lput {o i value : Expr} {td ty tv : TE} {pos' : Pos} (ho : PE X o td) (hi : PE X i ty) (hv : PE X value tv) :
    PS X (.Assign [.Subscript o i pos'] value pos) (fun D σ H => tv σ H fun v H1 => td σ H1 fun x H2 => ty σ H2 fun y H3 => rSetL x y v H3 fun H4 => D.nx σ H4) := by
  refine ⟨fun pins s σ H D I h => ?_⟩
  refine wpAny_Assign_Subscript (thn (hv.run pins s σ H _ I h) fun r s1 ⟨v, H1, I1, rv, q1⟩ => thn (ho.run pins s1 σ H1 _ I1 q1) fun u s2 ⟨x, H2, I2, rx, q2⟩ => thn (hi.run pins s2 σ H2 _ I2 q2) fun iv s3 ⟨y, H3, I3, ry, q3⟩ => ?_) (swaps_sub _ _ _ _ _ _)
  exact thn (set_list pins s3 σ H3 x y v u iv r _ I3 rx ry rv q3) fun _ s4 ⟨H4, I4, q4⟩ => ⟨σ, H4, I4, q4⟩
def putF (i : Nat) (fb fa : En → Rs D) : En → Out := fun ρ => match ρ[i]? with
  | some (.own (.lst ds)) => onR (fa ρ) ρ fun d => onR (fb ρ) ρ fun j => (match j with
    | .int j => (match ixN ds.length j with
      | some n => .nx (ρ.set i (.own (.lst (ds.set n d))))
      | none => .bad)
    | _ => .bad)
  | _ => .bad
theorem RpAll.set {K : PySem.W.Frag} {H : Hp} {N : Hid} {v : V} {d : D} (r : Rp K H N v d) : ∀ {vs : List V} {ds : List D} (n : Nat), RpAll K H N vs ds → RpAll K H N (vs.set n v) (ds.set n d)
  | _, _, _, .nil => .nil
  | _, _, 0, .cons _ q => .cons r q
  | _, _, n + 1, .cons q qs => .cons q (RpAll.set r n qs)
theorem s_put {i : Nat} {x : Str} {p2 p3 : Pos} (hN : X.N[i]? = some x) (hv : Vis X.env.scope x) (hd : (x == ("__debug__" : Str)) = false) (hcd : (x == ("__classdict__" : Str)) = false) (ha : PE X a (trC X.K T W fa)) (hb : PE X b (trC X.K T W fb)) :
    PS X (.Assign [.Subscript (.Name x p2) b p3] a pos) (trS X.K T W (putF i fb fa)) := by
  refine impS (ps_lput (pe_var hN hv hd hcd) hb ha) fun D σ H h => ?_
  obtain ⟨H0, N0, pn, N, ρ, rep, h⟩ := h
  unfold putF at h
  split at h
  · rename_i ds hi
    obtain ⟨ad, ha', na, fa', oa⟩ := rep.own i _ hi
    obtain ⟨xs, hx, rx⟩ := own_at oa
    refine ⟨H0, N0, pn, N, ρ, rep, safe_on rep h, fun d ed v H1 e1 r1 => ?_⟩
    rw [ed] at h
    refine ⟨.ref ad, ha', H0, N0, pn, N, ρ, rep.grow e1, safe_on (rep.grow e1) h, fun j ej w H2 e2 r2 => ?_⟩
    rw [ej] at h
    cases j with
    | int j =>
      dsimp only [onR] at h
      split at h
      · rename_i n hn
        cases r2
        refine ⟨ad, xs, j, n, rfl, rfl, (e1.trans e2).1 _ _ hx (fun _ z => nomatch z), by rw [rx.length]; exact hn, ?_⟩
        have h2 : EvS X.K T W H0 N0 pn D (.nx (ρ.set i (.own (.lst (ds.set n d))))) := h
        exact h2 σ _ N ((rep.grow (e1.trans e2)).mutO hi ha' (fun _ z => nomatch z) fun na => .lst upd_same ((RpAll.set (e2.rp r1) n ((e1.trans e2).rps rx)).mut na))
      · exact h.elim
    | _ => exact h.elim
  · exact h.elim
end
end DN

set_option Elab.async false
set_option linter.all false
set_option maxRecDepth 100000
set_option maxHeartbeats 1600000
namespace DN
open PySem PySem.Spec PyProof.Rows L2
section
variable {X : Cx} {T : List (Addr × Str)} {W : WX} {pos : Pos} {a : Expr} {fa : En → Rs D}
/-! ### remove, pop -/
theorem RpAll.erase {K : PySem.W.Frag} {H : Hp} {N : Hid} : ∀ {xs : List V} {ds : List D} (n : Nat), RpAll K H N xs ds → RpAll K H N (xs.eraseIdx n) (ds.eraseIdx n)
  | _, _, _, .nil => by simpa using RpAll.nil
  | _, _, 0, .cons r rs => by simpa using rs
  | _, _, n + 1, .cons r rs => by simpa using RpAll.cons r (rs.erase n)
theorem erase_map {α β : Type} (f : α → β) : ∀ (l : List α) (n : Nat), (l.eraseIdx n).map f = (l.map f).eraseIdx n
  | [], _ => by simp
  | a :: l, 0 => by simp
  | a :: l, n + 1 => by simpa using erase_map f l n
theorem s_rem {i : Nat} {x : Str} {p2 p3 p4 : Pos} (hN : X.N[i]? = some x) (hv : Vis X.env.scope x) (hd : (x == ("__debug__" : Str)) = false) (hcd : (x == ("__classdict__" : Str)) = false) (ha : PE X a (trC X.K T W fa)) (he : starEach [a] X.env = (false, eval a X.env) :: starEach [] X.env) (hl : (p3.endLine == p4.line) = true) :
    PS X (.Expr (.Call (.Attribute (.Name x p2) "remove" p3) [a] [] p4) pos) (trS X.K T W fun ρ => mutF i fa (remK i ρ) ρ) := by
  refine impS (ps_expr (pe_bm PySem.F.plainAttrs_list PySem.F.slot_list_remove PySem.F.type_list_remove mt_remove (pe_var hN hv hd hcd) (pa_cons ha pa_nil he) (hfew := by rw [he]; rfl) (hline := hl) (hs := he)) rfl) fun D σ H h => ?_
  obtain ⟨H0, N0, pn, N, ρ, rep, k⟩ := h
  refine meth_run rep k fun a ds d xs v H' hi ha hx rx e r kk => ?_
  unfold remK at kk
  split at kk
  · rename_i ns k hns
    have eds := intsOf_eq hns
    subst eds
    split at kk
    · rename_i j hj
      have exs : xs = ns.map V.int := rx.ints
      subst exs
      cases r
      obtain ⟨h1, h2, h3⟩ := List.findIdx?_eq_some_iff_getElem.mp hj
      refine ⟨a, ns, k, j, rfl, rfl, hx, ?_, fun m hm q => ?_, ?_⟩
      · rw [List.getElem?_eq_getElem h1]
        simpa using h2
      · obtain ⟨hm2, q2⟩ := List.getElem?_eq_some_iff.mp q
        have := h3 m hm
        simp [q2] at this
      · have kk2 : EvS X.K T W H0 N0 pn D (.nx (ρ.set i (.own (.lst ((ns.map DN.D.int).eraseIdx j))))) := kk
        rw [← erase_map] at kk2
        exact kk2 σ _ N ((rep.grow e).mutO hi ha (fun _ z => nomatch z) fun na => .lst upd_same ((RpAll.of_ints _).mut na))
    · exact kk.elim
  · exact kk.elim
def popF (i j : Nat) (fa : En → Rs D) : En → Out := fun ρ => if i = j then .bad else match ρ[i]?, ρ[j]? with
  | some (.own (.lst ds)), some (.own (.lst es)) => onR (fa ρ) ρ fun d => (match d with
    | .int k => if 0 ≤ k ∧ k < 1000000 ∧ ds.length < szL then (match es[k.toNat]? with
      | some y => .nx ((ρ.set j (.own (.lst (es.eraseIdx k.toNat)))).set i (.own (.lst (ds ++ [y]))))
      | none => .bad) else .bad
    | _ => .bad)
  | _, _ => .bad
theorem RpAll.at {K : PySem.W.Frag} {H : Hp} {N : Hid} : ∀ {xs : List V} {ds : List D} {n : Nat} {d : D}, RpAll K H N xs ds → ds[n]? = some d → ∃ v, xs[n]? = some v ∧ Rp K H N v d
  | _, _, _, _, .nil, h => by simp at h
  | _, _, 0, _, .cons r rs, h => by simp at h; subst h; exact ⟨_, rfl, r⟩
  | _, _, n + 1, _, .cons r rs, h => by simpa using rs.at (by simpa using h)
theorem s_pop {i j : Nat} {x y : Str} {p2 p3 p4 p5 p6 p7 : Pos} (hN : X.N[i]? = some x) (hv : Vis X.env.scope x) (hd : (x == ("__debug__" : Str)) = false) (hcd : (x == ("__classdict__" : Str)) = false) (hN' : X.N[j]? = some y) (hv' : Vis X.env.scope y) (hd' : (y == ("__debug__" : Str)) = false) (hcd' : (y == ("__classdict__" : Str)) = false)
    (ha : PE X a (trC X.K T W fa)) (he : starEach [a] X.env = (false, eval a X.env) :: starEach [] X.env) (hl : (p3.endLine == p4.line) = true) (hl2 : (p6.endLine == p7.line) = true) :
    PS X (.Expr (.Call (.Attribute (.Name x p2) "append" p3) [.Call (.Attribute (.Name y p5) "pop" p6) [a] [] p7] [] p4) pos) (trS X.K T W (popF i j fa)) := by
  refine impS (ps_expr (pe_bm PySem.F.plainAttrs_list PySem.F.slot_list_append PySem.F.type_list_append mt_append (pe_var hN hv hd hcd) (pa_cons (pe_bm PySem.F.plainAttrs_list PySem.F.slot_list_pop PySem.F.type_list_pop mt_popAt (pe_var hN' hv' hd' hcd') (pa_cons ha pa_nil he) (hfew := by rw [he]; rfl) (hline := hl2) (hs := he)) pa_nil rfl) (hfew := rfl) (hline := hl) (hs := rfl)) rfl) fun D σ H h => ?_
  obtain ⟨H0, N0, pn, N, ρ, rep, k⟩ := h
  unfold popF at k
  split at k
  · exact k.elim
  rename_i hij
  split at k
  · rename_i ds es h1 h2
    obtain ⟨a1, ha1, na1, fa1, oa1⟩ := rep.own i _ h1
    obtain ⟨a2, ha2, na2, fa2, oa2⟩ := rep.own j _ h2
    obtain ⟨xs, hx, rx⟩ := own_at oa1
    obtain ⟨ys, hy, ry⟩ := own_at oa2
    refine ⟨.ref a1, ha1, .inl ⟨rfl, xs, .inl (.inl hx)⟩, .ref a2, ha2, .inl ⟨rfl, ys, .inl (.inl hy)⟩, H0, N0, pn, N, ρ, rep, safe_on rep k, fun d ed v H' e r => ?_⟩
    rw [ed] at k
    cases d with
    | int z =>
      dsimp only [onR] at k
      split at k
      · rename_i hz
        split at k
        · rename_i w hw
          cases r
          obtain ⟨u, hu, ru⟩ := (e.rps ry).at hw
          have hlt : z.toNat < ys.length := (List.getElem?_eq_some_iff.mp hu).1
          have k2 : EvS X.K T W H0 N0 pn D (.nx ((ρ.set j (.own (.lst (es.eraseIdx z.toNat)))).set i (.own (.lst (ds ++ [w]))))) := k
          have rep2 := (rep.grow e).mutO (o := .lst (ys.eraseIdx z.toNat)) h2 ha2 (fun _ z => nomatch z) fun na => .lst upd_same (((e.rps ry).erase z.toNat).mut na)
          have ne : a1 ≠ a2 := fun z => hij (rep.sep i j _ _ a1 h1 h2 ha1 (by rw [z]; exact ha2))
          have hx2 : upd H' a2 (.lst (ys.eraseIdx z.toNat)) a1 = some (.lst xs) := by
            rw [upd_ne ne]
            exact e.1 _ _ hx (fun _ z => nomatch z)
          refine ⟨a2, ys, z, z.toNat, u, rfl, rfl, e.1 _ _ hy (fun _ z => nomatch z), by omega, by omega, ?_, hu, ?_⟩
          · unfold seqIndex?
            have g1 : ¬ z < 0 := by omega
            have g2 : z < (ys.length : Int) := by omega
            simp [g1, g2, hz.1]
          · refine ⟨a1, xs, u, rfl, rfl, hx2, by rw [rx.length, szL_eq]; exact hz.2.2, ?_⟩
            have na2' : N a2 := na2
            exact k2 σ _ N (rep2.mutO (by rw [List.getElem?_set_ne (Ne.symm hij)]; exact h1) ha1 (fun _ z => nomatch z) fun na => .lst upd_same (((((e.rps rx).append (.cons ru .nil)).mut na2').mut na)))
        · exact k.elim
      · exact k.elim
    | _ => exact k.elim
  · exact k.elim
end
end DN

set_option Elab.async false
set_option linter.all false
set_option maxRecDepth 100000
set_option maxHeartbeats 1600000
namespace DN
open PySem PySem.Spec PyProof.Rows L2
section
variable {X : Cx} {T : List (Addr × Str)} {W : WX} {pos p : Pos} {a lo hi : Expr} {fa fl fh : En → Rs D}
/-! ### xs[a:b] = ys -/
def rSetSl (x : V) (l u : V) (v : V) (H : Hp) (Q : Hp → Prop) : Prop := ∃ (p b : Addr) (xs ys : List V) (i j : Int), x = .ref p ∧ v = .ref b ∧ l = .int i ∧ u = .int j ∧ H p = some (.lst xs) ∧ H b = some (.lst ys) ∧ p ≠ b ∧ 0 ≤ i ∧ i ≤ j ∧ j ≤ xs.length ∧ xs.length + ys.length ≤ sizeLine ∧ Q (upd H p (.lst (xs.take i.toNat ++ ys ++ xs.drop j.toNat)))
theorem ps_ssl {o value : Expr} {td tl th tv : TE} {pos' p2 : Pos} (ho : PE X o td) (hl : PE X lo tl) (hh : PE X hi th) (hv : PE X value tv) :
    PS X (.Assign [.Subscript o (.Slice (some lo) (some hi) none p2) pos'] value pos) (fun D σ H => tv σ H fun v H1 => td σ H1 fun x H2 => tl σ H2 fun l H3 => th σ H3 fun u H4 => rSetSl x l u v H4 fun H5 => D.nx σ H5) := by
  refine ⟨fun pins s σ H D I h => ?_⟩
  refine wpAny_Assign_Subscript (thn (hv.run pins s σ H _ I h) fun r s1 ⟨v, H1, I1, rv, q1⟩ => thn (ho.run pins s1 σ H1 _ I1 q1) fun u s2 ⟨x, H2, I2, rx, q2⟩ => ?_) (swaps_sub _ _ _ _ _ _)
  refine wpAny_Slice ?_
  rw [evalPart_some, evalPart_some, evalPart_none]
  refine thn (hl.run pins s2 σ H2 _ I2 q2) fun vl s3 ⟨l, H3, I3, rl, q3⟩ => thn (hh.run pins s3 σ H3 _ I3 q3) fun vu s4 ⟨k, H4, I4, ru, q4⟩ => ?_
  refine wpAny_pure ?_
  obtain ⟨p, b, xs, ys, i, j, rfl, rfl, rfl, rfl, h1, h2, h3, h4, h5, h6, h7, h8⟩ := q4
  have I5 : Inv X pins σ H4 { s4 with heap := s4.heap.push { cls := .type "slice", data := .fields #[vl, vu, .none] } } := I4.kept (t' := s4.toks) fun b ob q => Heap.get?_push_of_some _ q
  cases rx
  cases rv
  exact set_slice (s := { s4 with heap := s4.heap.push { cls := .type "slice", data := .fields #[vl, vu, .none] } }) I5 h1 h2 h3 (Heap.IsSliceOf.new ..) rl ru h4 h5 h6 h7 fun s' I' => ⟨σ, _, I', h8⟩
def sslF (i : Nat) (fl fh fa : En → Rs D) : En → Out := fun ρ => match ρ[i]? with
  | some (.own (.lst ds)) => onR (fa ρ) ρ fun d => onR (fl ρ) ρ fun l => onR (fh ρ) ρ fun h => sslK i ρ ds d l h
  | _ => .bad
theorem s_ssl {i : Nat} {x : Str} {p2 p3 p4 : Pos} (hN : X.N[i]? = some x) (hv : Vis X.env.scope x) (hd : (x == ("__debug__" : Str)) = false) (hcd : (x == ("__classdict__" : Str)) = false) (ha : PE X a (trC X.K T W fa)) (hl : PE X lo (trC X.K T W fl)) (hh : PE X hi (trC X.K T W fh)) :
    PS X (.Assign [.Subscript (.Name x p2) (.Slice (some lo) (some hi) none p4) p3] a pos) (trS X.K T W (sslF i fl fh fa)) := by
  refine impS (ps_ssl (pe_var hN hv hd hcd) hl hh ha) fun D σ H h => ?_
  obtain ⟨H0, N0, pn, N, ρ, rep, h⟩ := h
  unfold sslF at h
  split at h
  · rename_i ds hi
    obtain ⟨ad, ha', na, fa', oa⟩ := rep.own i _ hi
    obtain ⟨xs, hx, rx⟩ := own_at oa
    refine ⟨H0, N0, pn, N, ρ, rep, safe_on rep h, fun d ed v H1 e1 r1 => ?_⟩
    rw [ed] at h
    refine ⟨.ref ad, ha', H0, N0, pn, N, ρ, rep.grow e1, safe_on (rep.grow e1) h, fun l el vl H2 e2 r2 => ?_⟩
    rw [el] at h
    refine ⟨H0, N0, pn, N, ρ, rep.grow (e1.trans e2), safe_on (rep.grow (e1.trans e2)) h, fun k ek vk H3 e3 r3 => ?_⟩
    rw [ek] at h
    dsimp only [onR] at h
    unfold sslK at h
    split at h
    · rename_i es u w
      split at h
      · rename_i hc
        cases r2
        cases r3
        have r1' := (e2.trans e3).rp r1
        cases r1' with
        | lst q1 q2 =>
          rename_i b ys
          have e := (e1.trans e2).trans e3
          have h2 : EvS X.K T W H0 N0 pn D (.nx (ρ.set i (.own (.lst (ds.take u.toNat ++ es ++ ds.drop w.toNat))))) := h
          have hne : ad ≠ b := fun z => q1.1 (z ▸ na)
          refine ⟨ad, b, xs, ys, u, w, rfl, rfl, rfl, rfl, e.1 _ _ hx (fun _ z => nomatch z), q1.2, hne, hc.1, hc.2.1, by rw [rx.length]; exact hc.2.2.1, by rw [rx.length, q2.length, szL_eq]; exact hc.2.2.2, ?_⟩
          exact h2 σ _ N ((rep.grow e).mutO hi ha' (fun _ z => nomatch z) fun na => .lst upd_same ((((e.rps rx).take _).append q2).append ((e.rps rx).drop _) |>.mut na))
      · exact h.elim
    · exact h.elim
  · exact h.elim
end
end DN

set_option Elab.async false
set_option linter.all false
set_option maxRecDepth 100000
namespace DN
open PySem PySem.Spec PyProof.Rows L2
/-! ### several names at once, some of new lists -/
def owns : List Bool → List V → List Addr
  | true :: fl, .ref a :: vs => a :: owns fl vs
  | _ :: fl, _ :: vs => owns fl vs
  | _, _ => []
inductive Pd (K : PySem.W.Frag) (H H' : Hp) (N' : Hid) : List Bool → List V → List D → Prop
  | nil : Pd K H H' N' [] [] []
  | dat {v : V} {d : D} {fl : List Bool} {vs : List V} {ds : List D} : Rp K H' N' v d → Pd K H H' N' fl vs ds → Pd K H H' N' (false :: fl) (v :: vs) (d :: ds)
  | own {a : Addr} {d : List D} {fl : List Bool} {vs : List V} {ds : List D} : N' a → NF H a → OwnAt K H' N' a (.lst d) → a ∉ owns fl vs → Pd K H H' N' fl vs ds → Pd K H H' N' (true :: fl) (.ref a :: vs) (.lst d :: ds)
def okFl : List Bool → List D → Prop
  | [], [] => True
  | false :: fl, _ :: ds => okFl fl ds
  | true :: fl, d :: ds => (∃ l, d = .lst l) ∧ okFl fl ds
  | _, _ => False
def trAF (K : PySem.W.Frag) (T : List (Addr × Str)) (fl : List Bool) (f : En → Rs D) : TA := fun σ H Q => ∃ H0 N0 pn N ρ ds, Rep K T H0 N0 pn H N σ ρ ∧ f ρ = .ok (.tup ds) ∧ okFl fl ds ∧
  ∀ vs H' N', Rep K T H0 N0 pn H' N' σ ρ → Ext T H H' → (∀ a, N a → N' a) → Pd K H H' N' fl vs ds → Q vs H'
theorem Pd.back {K : PySem.W.Frag} {T : List (Addr × Str)} {H H1 H2 : Hp} {N : Hid} (e : Ext T H H1) : ∀ {fl : List Bool} {vs : List V} {ds : List D}, Pd K H1 H2 N fl vs ds → Pd K H H2 N fl vs ds
  | _, _, _, .nil => .nil
  | _, _, _, .dat r t => .dat r (Pd.back e t)
  | _, _, _, .own n f o m t => .own n (NF.back e.1 f) o m (Pd.back e t)
theorem Pd.nf {K : PySem.W.Frag} {H H' : Hp} {N : Hid} : ∀ {fl : List Bool} {vs : List V} {ds : List D}, Pd K H H' N fl vs ds → ∀ a ∈ owns fl vs, NF H a
  | _, _, _, .nil, a, h => by cases h
  | _, _, _, .dat (v := v) r t, a, h => Pd.nf t a h
  | _, _, _, .own n f o m t, a, h => by
    rcases List.mem_cons.mp h with e | h
    · rw [e]; exact f
    · exact Pd.nf t a h
theorem rpAll_zip {K : PySem.W.Frag} {H H' : Hp} {N N' : Hid} : ∀ {xs : List V} {ds : List D}, RpAll K H N xs ds → (∀ p ∈ xs.zip ds, Rp K H' N' p.1 p.2) → RpAll K H' N' xs ds
  | [], _, h, _ => by cases h; exact .nil
  | x :: xs, _, h, k => by
    cases h with
    | cons h1 h2 => exact .cons (k (_, _) (by simp)) (rpAll_zip h2 fun p hp => k p (by simp [hp]))
theorem rpAll_mem {K : PySem.W.Frag} {H : Hp} {N : Hid} : ∀ {xs : List V} {ds : List D}, RpAll K H N xs ds → ∀ p ∈ xs.zip ds, Rp K H N p.1 p.2
  | [], _, h, p, hp => by simp at hp
  | x :: xs, _, h, p, hp => by
    cases h with
    | cons h1 h2 =>
      simp only [List.zip_cons_cons, List.mem_cons] at hp
      rcases hp with rfl | hp
      · exact h1
      · exact rpAll_mem h2 p hp
section
variable {X : Cx} {T : List (Addr × Str)} {W : WX} {pos : Pos} {e a b c : Expr} {es : List Expr} {fl : List Bool} {fa fr : En → Rs D}
theorem xp_nil : PA X [] (trAF X.K T [] fun _ => .ok (.tup [])) := by
  refine impA pa_nil fun σ H Q h => ?_
  obtain ⟨H0, N0, pn, N, ρ, ds, rep, e, _, k⟩ := h
  cases e
  exact k [] H N rep (Ext.refl H) (fun _ h => h) .nil
theorem cons_inv {ρ : En} {ds : List D} (h : consF fa fr ρ = .ok (.tup ds)) : ∃ x r, ds = x :: r ∧ fa ρ = .ok x ∧ fr ρ = .ok (.tup r) := by
  unfold consF at h
  cases q : fa ρ with
  | ok x =>
    rw [q] at h
    cases q2 : fr ρ with
    | ok y =>
      rw [q2] at h
      cases y with
      | tup r => cases h; exact ⟨x, r, rfl, rfl, rfl⟩
      | _ => cases h
    | exc c => rw [q2] at h; cases h
    | bad => rw [q2] at h; cases h
  | exc c => rw [q] at h; cases h
  | bad => rw [q] at h; cases h
theorem xp_dat (ha : PE X e (trC X.K T W fa)) (hr : PA X es (trAF X.K T fl fr)) (hs : starEach (e :: es) X.env = (false, eval e X.env) :: starEach es X.env) : PA X (e :: es) (trAF X.K T (false :: fl) (consF fa fr)) := by
  refine impA (pa_cons ha hr hs) fun σ H Q h => ?_
  obtain ⟨H0, N0, pn, N, ρ, ds, rep, eq, hok, k⟩ := h
  obtain ⟨x, r, rfl, ex, er⟩ := cons_inv eq
  refine ⟨H0, N0, pn, N, ρ, rep, safe_ok ex, fun x' ex' v H1 e1 r1 => ?_⟩
  rw [ex] at ex'
  cases ex'
  refine ⟨H0, N0, (v, x) :: pn, N, ρ, r, (rep.grow e1).pin (p := (v, x)) r1, er, hok, fun vs H2 N2 rep2 e2 hN pd => ?_⟩
  exact k (v :: vs) H2 N2 (rep2.unpin fun q hq => List.mem_cons_of_mem _ hq) (e1.trans e2) hN (.dat (rep2.pins (v, x) List.mem_cons_self) (pd.back e1))
theorem xp_own (ha : PE X e (trF X.K T W fa)) (hr : PA X es (trAF X.K T fl fr)) (hs : starEach (e :: es) X.env = (false, eval e X.env) :: starEach es X.env) : PA X (e :: es) (trAF X.K T (true :: fl) (consF fa fr)) := by
  refine impA (pa_cons ha hr hs) fun σ H Q h => ?_
  obtain ⟨H0, N0, pn, N, ρ, ds, rep, eq, hok, k⟩ := h
  obtain ⟨x, rs, rfl, ex, er⟩ := cons_inv eq
  obtain ⟨⟨l, rfl⟩, hok⟩ := hok
  refine ⟨H0, N0, pn, N, ρ, rep, safe_ok ex, fun d ed => ⟨l, by rw [ex] at ed; cases ed; rfl⟩, fun l' el p xs H1 hp np e1 hH r => ?_⟩
  rw [ex] at el
  cases el
  have rep1 := rep.moreN hp e1 hH (fun _ z => nomatch z)
  have rep2 : Rep X.K T H0 N0 (xs.zip l ++ pn) H1 (Nu N p) σ ρ := { rep1 with pins := fun q hq => (List.mem_append.mp hq).elim (rpAll_mem r q) (rep1.pins q) }
  refine ⟨H0, N0, _, _, ρ, rs, rep2, er, hok, fun vs H2 N2 rep3 e2 hN pd => ?_⟩
  refine k (.ref p :: vs) H2 N2 (rep3.unpin fun q hq => List.mem_append_right _ hq) (e1.trans e2) (fun a ha => hN a (.inl ha)) ?_
  have r2 : RpAll X.K H2 N2 xs l := rpAll_zip r fun q hq => rep3.pins q (List.mem_append_left _ hq)
  refine .own (hN p (.inr rfl)) hp (.lst (e2.1 _ _ hH (fun _ z => nomatch z)) r2) (fun hm => ?_) (pd.back e1)
  exact (pd.nf p hm).ne hH (fun _ z => nomatch z) rfl
end
/-! ### the stores -/
theorem Pd.put {K : PySem.W.Frag} {T : List (Addr × Str)} {H0 H H' : Hp} {N0 N' : Hid} {pn : List (V × D)} {ρ' : En} (h0 : ∀ a, NF H a → NF H0 a) : ∀ {is : List (Nat × Bool)} {vs : List V} {ds : List D} {σ : L2.St} {ρ : En}, Rep K T H0 N0 pn H' N' σ ρ → Pd K H H' N' (is.map (·.2)) vs ds →
    (∀ (j : Nat) (d : D) (a : Addr), ρ[j]? = some (.own d) → σ[j]? = some (some (.ref a)) → a ∉ owns (is.map (·.2)) vs) → putPar ρ is ds = some ρ' → Rep K T H0 N0 pn H' N' (setAll σ (is.map (·.1)) vs) ρ'
  | [], _, _, σ, ρ, rep, pd, _, e => by
    cases pd
    cases e
    exact rep
  | (i, false) :: is, _, _, σ, ρ, rep, pd, hf, e => by
    cases pd with
    | dat r t =>
      rename_i v d vs ds
      have e' : putPar (ρ.set i (.dat d)) is ds = some ρ' := e
      show Rep K T H0 N0 pn H' N' (setAll (σ.set i (some v)) (is.map (·.1)) vs) ρ'
      refine Pd.put h0 (rep.put r) t (fun j d a h1 h2 hm => ?_) e'
      rcases get_set h1 with ⟨rfl, z, _⟩ | ⟨ne, h1⟩
      · cases z
      · rw [List.getElem?_set_ne (Ne.symm ne)] at h2
        exact hf j d a h1 h2 hm
  | (i, true) :: is, _, _, σ, ρ, rep, pd, hf, e => by
    cases pd with
    | own n f o m t =>
      rename_i a l vs ds
      have e' : putPar (ρ.set i (.own (.lst l))) is ds = some ρ' := e
      show Rep K T H0 N0 pn H' N' (setAll (σ.set i (some (.ref a))) (is.map (·.1)) vs) ρ'
      refine Pd.put h0 (rep.putO n (h0 _ f) o fun j d hj hz => hf j d a hj hz List.mem_cons_self) t (fun j d b h1 h2 hm => ?_) e'
      rcases get_set h1 with ⟨rfl, z, hl⟩ | ⟨ne, h1⟩
      · rw [List.getElem?_set_self (by rw [rep.len]; exact hl)] at h2
        cases h2
        exact m hm
      · rw [List.getElem?_set_ne (Ne.symm ne)] at h2
        exact hf j d b h1 h2 (List.mem_cons_of_mem _ hm)
theorem putPar_ok : ∀ {is : List (Nat × Bool)} {ds : List D} {ρ ρ' : En}, putPar ρ is ds = some ρ' → okFl (is.map (·.2)) ds ∧ ds.length = is.length
  | [], [], _, _, _ => ⟨trivial, rfl⟩
  | [], _ :: _, _, _, e => by cases e
  | (i, false) :: is, d :: ds, ρ, ρ', e => by
    have := putPar_ok (ρ := ρ.set i (.dat d)) e
    exact ⟨this.1, by simp [this.2]⟩
  | (i, true) :: is, .lst d :: ds, ρ, ρ', e => by
    have := putPar_ok (ρ := ρ.set i (.own (.lst d))) e
    exact ⟨⟨⟨_, rfl⟩, this.1⟩, by simp [this.2]⟩
  | (i, false) :: is, [], ρ, ρ', e => by cases e
  | (i, true) :: is, [], ρ, ρ', e => by cases e
  | (i, true) :: is, .non :: ds, ρ, ρ', e => by cases e
  | (i, true) :: is, .bl _ :: ds, ρ, ρ', e => by cases e
  | (i, true) :: is, .int _ :: ds, ρ, ρ', e => by cases e
  | (i, true) :: is, .str _ :: ds, ρ, ρ', e => by cases e
  | (i, true) :: is, .tup _ :: ds, ρ, ρ', e => by cases e
  | (i, true) :: is, .dct _ :: ds, ρ, ρ', e => by cases e
  | (i, true) :: is, .scr _ :: ds, ρ, ρ', e => by cases e
def parF (is : List (Nat × Bool)) (f : En → Rs D) : En → Out := fun ρ => match f ρ with
  | .ok (.tup ds) => onO (putPar ρ is ds)
  | .exc c => if is.any (·.2) then .bad else .xc c ρ
  | _ => .bad
section
variable {X : Cx} {T : List (Addr × Str)} {W : WX} {pos : Pos} {e a b c : Expr} {es : List Expr} {f : En → Rs D} {is : List (Nat × Bool)}
/-- a reading of the arguments, then the stores -/
theorem par_run {σ : L2.St} {H : Hp} {D : Ends} {Q : List V → Hp → Prop} (h : trS X.K T W (parF is f) D σ H) (hk : ∀ vs H1, vs.length = is.length → (∀ H2, Ext T H1 H2 → D.nx (setAll σ (is.map (·.1)) vs) H2) → Q vs H1) :
    (is.any (·.2) = true → trAF X.K T (is.map (·.2)) f σ H Q) ∧ (is.any (·.2) = false → trA X.K T W f σ H Q) := by
  obtain ⟨H0, N0, pn, N, ρ, rep, k⟩ := h
  have len : ∀ {fl : List Bool} {vs : List V} {ds : List DN.D} {H' : Hp} {N' : Hid}, Pd X.K H H' N' fl vs ds → vs.length = ds.length := by
    intro fl vs ds H' N' pd
    induction pd with
    | nil => rfl
    | dat _ _ ih => simp [ih]
    | own _ _ _ _ _ ih => simp [ih]
  have fin : ∀ ds, f ρ = .ok (.tup ds) → okFl (is.map (·.2)) ds ∧ ∀ vs H' N', Rep X.K T H0 N0 pn H' N' σ ρ → Ext T H H' → Pd X.K H H' N' (is.map (·.2)) vs ds → Q vs H' := by
    intro ds eds
    unfold parF at k
    rw [eds] at k
    have k2 : EvS X.K T W H0 N0 pn D (onO (putPar ρ is ds)) := k
    cases q : putPar ρ is ds with
    | none => rw [q] at k2; exact k2.elim
    | some ρ' =>
      rw [q] at k2
      obtain ⟨h1, h2⟩ := putPar_ok q
      refine ⟨h1, fun vs H' N' rep' e pd => hk vs H' ((len pd).trans h2) fun H2 e2 => k2 _ H2 N' ((Pd.put (fun a n => NF.back rep.ext.1 n) rep' pd (fun j d a hj hz hm => ?_) q).grow e2)⟩
      exact rep.fresh (pd.nf a hm) j d hj hz
  refine ⟨fun hany => ?_, fun hany => ?_⟩
  · cases q : f ρ with
    | bad => unfold parF at k; rw [q] at k; exact k.elim
    | exc c => unfold parF at k; rw [q] at k; have k2 : EvS X.K T W H0 N0 pn D (if is.any (·.2) then .bad else .xc c ρ) := k; rw [hany] at k2; exact k2.elim
    | ok y =>
      cases y with
      | tup ds =>
        obtain ⟨z1, z2⟩ := fin ds q
        exact ⟨H0, N0, pn, N, ρ, ds, rep, q, z1, fun vs H' N' rep' e _ pd => z2 vs H' N' rep' e pd⟩
      | _ => unfold parF at k; rw [q] at k; exact k.elim
  · refine ⟨H0, N0, pn, N, ρ, rep, ?_, fun ds eds vs H' e r => ?_⟩
    · cases q : f ρ with
      | bad => unfold parF at k; rw [q] at k; exact k.elim
      | exc c =>
        unfold parF at k
        rw [q] at k
        have k2 : EvS X.K T W H0 N0 pn D (if is.any (·.2) then .bad else .xc c ρ) := k
        rw [hany] at k2
        exact ⟨(fun z => by cases z), (fun c' z H' e => by cases z; exact k2 σ H' N (rep.grow e))⟩
      | ok y =>
        cases y with
        | tup ds => exact safe_ok rfl
        | _ => unfold parF at k; rw [q] at k; exact k.elim
    · obtain ⟨z1, z2⟩ := fin ds eds
      refine z2 vs H' N (rep.grow e) e ?_
      have all : ∀ {l : List (Nat × Bool)} {vs : List V} {ds : List DN.D}, l.any (·.2) = false → okFl (l.map (·.2)) ds → RpAll X.K H' N vs ds → Pd X.K H H' N (l.map (·.2)) vs ds := by
        intro l
        induction l with
        | nil => intro vs ds _ ho r; cases ds with
          | nil => cases r; exact .nil
          | cons _ _ => exact ho.elim
        | cons z l ih =>
          intro vs ds ha ho r
          obtain ⟨i, fl⟩ := z
          simp only [List.any_cons, Bool.or_eq_false_iff] at ha
          obtain ⟨rfl, ha⟩ := ha
          cases ds with
          | nil => exact ho.elim
          | cons d ds =>
            cases r with
            | cons r1 r2 => exact .dat r1 (ih ha ho r2)
      exact all hany z1 r
end
end DN

set_option Elab.async false
set_option linter.all false
set_option maxRecDepth 100000
namespace DN
open PySem PySem.Spec PyProof.Rows L2
/-! ### the stores of a, b = x, y -/
def bkS (sc : Scope) : ScopeKind := if sc.kind.isAnnotationScope then .function else sc.kind
def swS (ts vs : List Expr) (sc : Scope) : Option (Option (List Str)) :=
  if (!(ts.length == 2 || ts.length == 3) || vs.length != ts.length || bkS sc != .function) = true then some none
  else if (vs.any fun | .Starred .. => true | _ => false) = true then some none
  else
    let line := (ts.head?.map (·.pos.line)).getD 0
    let names := ts.filterMap fun
      | .Name id pos => if (sc.names.lookup id == some .local && pos.line == line) = true then some id else none
      | _ => none
    if (names.length != ts.length || names.eraseDups.length != names.length) = true then some none
    else if vs.all (foldedForSure 8) = true then some none
    else if vs.all (constantsAlone 8) = true then none
    else some (some names)
theorem swS_ok {ts vs : List Expr} {env : Env} {k k2 : Nat} {p p2 : Pos} {r : Option (List Str)} (h : swS ts vs env.scope = some r) : swappedStores [.Tuple ts k p] (.Tuple vs k2 p2) env = pure r := by
  unfold swS at h
  unfold swappedStores
  show (if (!(ts.length == 2 || ts.length == 3) || vs.length != ts.length || bkS env.scope != .function) = true then _ else _) = _
  split at h
  · rename_i c
    cases h
    exact if_pos c
  · rename_i c
    refine (if_neg c).trans ?_
    show (if (vs.any _) = true then _ else _) = _
    split at h
    · rename_i c2
      cases h
      exact if_pos c2
    · rename_i c2
      refine (if_neg c2).trans ?_
      dsimp only at h
      split at h
      · rename_i c3
        cases h
        exact if_pos c3
      · rename_i c3
        refine (if_neg c3).trans ?_
        split at h
        · rename_i c4
          cases h
          exact if_pos c4
        · rename_i c4
          refine (if_neg c4).trans ?_
          split at h
          · cases h
          · rename_i c5
            cases h
            exact if_neg c5
end DN

set_option Elab.async false
set_option linter.all false
set_option maxRecDepth 100000
set_option maxHeartbeats 2000000
namespace DN
open PySem PySem.Spec PyProof.Rows L2 HotX
/-! ### lists walked while an exception is handled -/
section
variable {prog : Program} {w : World} {A : Around} {E : Value → Shared → Prop} {s : Shared}
theorem list_end_hot {it l x1 : Addr} {i : Nat} {items : Array Value} {Q : Option Value → Shared → Prop} (hot : HotAt A x1 s.heap) (hit : s.heap.IsListIter it l i) (hl : s.heap.IsList l items) (hx : items[i]? = none)
    (hQ : ∀ h', Heap.ExtBut it s.heap h' → Q none { s with heap := h' }) : wpAny (model prog w) A (pyNext (.ref it)) Q E s := by
  obtain ⟨io, g0, g1, g2⟩ := id hit
  obtain ⟨lo, k0, _, kn, k1⟩ := hl
  obtain ⟨hh, o1, vs1, h1, d1, c1⟩ := hot
  have ne : x1 ≠ it := fun z => by
    rw [z, g0] at h1
    cases h1
    rw [g2] at d1
    cases d1
    simp at c1
  unfold pyNext
  refine wpAny_bind (wpAny_attempt (wpAny_callSpecial?_slot (name := Str.ofString "__next__") hit.typeIs slot_listiter_next (wpAny_call_entry slot_listiter_next hit.typeIs entry_listiter_next ?_ (args_listiter_next _))))
  show wpAny _ _ (field (.ref it) 0 >>= _) _ _ s
  refine wpAny_bind (wpAny_field g0 g2 (x := .ref l) rfl ?_)
  show wpAny _ _ (if (Value.ref l == Value.none) = true then _ else _) _ _ s
  rw [if_neg (show ¬ ((Value.ref l == Value.none) = true) from Bool.false_ne_true)]
  show wpAny _ _ (field (.ref it) 1 >>= _) _ _ s
  refine wpAny_bind (wpAny_field g0 g2 (x := .int i 0) rfl ?_)
  show wpAny _ _ (seqItems? (.ref l) >>= _) _ _ s
  refine wpAny_bind (wpAny_seqItems k0 k1 ?_)
  simp only [Int.toNat_natCast, hx]
  refine wpAny_bind (wpAny_rule (wpAny_bind (wpAny_setField g0 g2 (by simp) ?_)))
  show wpAny _ _ (newExc (.type "StopIteration") [] >>= _) _ _ _
  refine wpAny_bind ?_
  simp only [newExc, newTuple]
  refine wpAny_bind (wpAny_newObj_type ?_ (by size_fits))
  refine wpAny_bind (m := firstArgMember _ _) (wpAny_of_eq (a := Value.none) (by first | rfl | (simp only [firstArgMember]; rfl)) ?_)
  refine wpAny_newObj_type ?_ (by size_fits)
  have h1' := (Heap.get?_update_other s.heap (Obj.mapFields (·.setIfInBounds 0 Value.none)) (Ne.symm ne)).trans h1
  refine raiseNew_hot ⟨hh, o1, vs1, Heap.get?_push_of_some _ (Heap.get?_push_of_some _ h1'), d1, c1⟩ (Nat.ne_of_lt (Heap.lt_size (Heap.get?_push_of_some _ h1'))) (Heap.get?_push_size _ rfl) rfl (by first | (simp; done) | (simp; omega) | (simp only [Array.size_append]; simp; omega)) ?_
  refine wpAny_bind (wpAny_isInstance (T := "StopIteration") (b := true) ⟨_, Heap.get?_update_self _ (Heap.get?_push_size _ rfl) rfl, rfl⟩ isSubtype_stop ?_)
  refine wpAny_pure (hQ _ fun b o nb e => ?_)
  have e' := (Heap.get?_update_other s.heap (Obj.mapFields (·.setIfInBounds 0 Value.none)) (Ne.symm nb)).trans e
  rw [Heap.get?_update_other _ _ (Nat.ne_of_gt (Heap.lt_size (Heap.get?_push_of_some _ e')))]
  exact Heap.get?_push_of_some _ (Heap.get?_push_of_some _ e')
/-- calm, or hot -/
def CoH (A : Around) (h : Heap) : Prop := A.handled = none ∨ ∃ x1, HotAt A x1 h
theorem list_end_any {it l : Addr} {i : Nat} {items : Array Value} {Q : Option Value → Shared → Prop} (ch : CoH A s.heap) (hit : s.heap.IsListIter it l i) (hl : s.heap.IsList l items) (hx : items[i]? = none)
    (hQ : ∀ h', Heap.ExtBut it s.heap h' → Q none { s with heap := h' }) : wpAny (model prog w) A (pyNext (.ref it)) Q E s := by
  rcases ch with hh | ⟨x1, hot⟩
  · exact wpAny_pyNext_list_end hh hit hl hx hQ
  · exact list_end_hot hot hit hl hx hQ
theorem walksHot {x1 : Addr} {o1 : Obj} {vs1 : Array Value} (hh : A.handled = some (.ref x1)) (d1 : o1.data = .fields vs1) (c1 : vs1[2]? = some .none) (I ax : Addr) (hne : ax ≠ I) (hx : x1 ≠ I) (items : Array Value) :
    Walks prog w A I [I, ax, x1] [I] items.size (fun i v => items[i]? = some v) (fun i h => (h.IsListIter I ax i ∧ h.IsList ax items) ∧ h.get? x1 = some o1) where
  sub := fun b hb => by
    simp at hb
    simp [hb]
  frame := fun _ _ _ st hk => ⟨⟨st.1.1.at fun o e => hk I (by simp) o e, st.1.2.at fun o e => hk ax (by simp) o e⟩, hk x1 (by simp) _ st.2⟩
  item := fun i s Q E hi st hQ => by
    refine wpAny_pyNext_list_item st.1.1 st.1.2 (x := items[i]) (by simp [hi]) fun h2 it2 sb => ?_
    exact hQ _ h2 s.toks (by simp [hi]) ⟨⟨it2, st.1.2.extBut sb.extBut hne⟩, sb.extBut _ _ hx st.2⟩ fun b o hb e => sb.extBut b o (fun z => hb (by simp [z])) e
  done := fun s Q E st hQ => list_end_hot ⟨hh, o1, vs1, st.2, d1, c1⟩ st.1.1 st.1.2 (by simp) fun h2 eb => hQ h2 s.toks fun b o hb e => eb b o (fun z => hb (by simp [z])) e
  self := fun _ _ _ _ st hQ => wpAny_pyIter_listiter st.1.1 hQ
theorem sum_hot {l x1 : Addr} {its : List Value} {ns : List Int} {Q : Value → Shared → Prop} (hot : HotAt A x1 s.heap) (hl : s.heap.IsList l its.toArray) (hi : IntsAre its ns)
    (h : ∀ h' tk t', (∀ b o, s.heap.get? b = some o → h'.get? b = some o) → Q (.int ns.sum t') { s with heap := h', toks := tk }) : wpAny (model prog w) A (call (.builtin "sum") [.ref l]) Q E s := by
  obtain ⟨xs, e⟩ := hi.allInts.items
  have hn : numsOf (intItems xs).toList = ns := by
    rw [← e]
    exact hi.numsOf
  rw [nums_intItems] at hn
  rw [e] at hl
  obtain ⟨hh, o1, vs1, h1, d1, c1⟩ := hot
  refine call_sum_walkG (iter_intList hl fun s₂ e2 st hfp hlI => ?_)
  subst e2
  have lt1 := Heap.lt_size h1
  refine ⟨_, _, _, _, _, _, numAt xs, rfl, walksHot (A := A.in1) hh d1 c1 _ l hlI (Nat.ne_of_lt lt1) (intItems xs), ⟨st, Heap.get?_push_of_some _ h1⟩, fun b hb => ?_, (fun _ _ => intItems_at), fun h' tk t' hk => ?_⟩
  · simp only [List.mem_cons, List.not_mem_nil, or_false] at hb
    rcases hb with z | z | z
    · exact hfp b (by simp [z])
    · exact hfp b (by simp [z])
    · rw [z]
      exact Heap.lt_size (Heap.get?_push_of_some _ h1)
  · have := h h' tk t' (old_kept hk)
    have q : preSum (numAt xs) (intItems xs).size = ns.sum := by
      rw [preSum_eq, List.take_of_length_le (by simp [intItems]), hn]
    rw [q]
    exact this
end
end DN

set_option Elab.async false
set_option linter.all false
set_option maxRecDepth 100000
set_option maxHeartbeats 2000000
namespace DN
open PySem PySem.Spec PyProof.Rows L2 HotX
/-! ### a list comprehension over a list, calm or hot; its block knows where it stands -/
theorem lcG {X : Cx} {pins : List (Addr × Obj)} {s : Shared} {σ : L2.St} {H : Hp} {Q : VK} {elt tg iter : Expr} {scope : Scope} {own : List (Str × Nat)} {pos : Pos} {ti : TE} {g : TG} {te : TE}
    (hN : X.N.Nodup) (I : Inv X pins σ H s) (hi : PE X iter ti) (ok : BlkOk X.N X.env.scope scope own) (hq : ∀ H' s', Inv X pins σ H' s' → CoH X.A s'.heap)
    (hg : ∀ (s : Shared) (H : Hp) (C : Addr) (cl : List (Str × Addr)) (fp : List Addr), PG (X.blk s H scope (compEnvC scope cl C X.env) fp) tg g)
    (he : ∀ (s : Shared) (H : Hp) (C : Addr) (cl : List (Str × Addr)) (fp : List Addr), (∀ pB σB HB sB, Inv (X.blk s H scope (compEnvC scope cl C X.env) fp) pB σB HB sB → Inv X pins σ HB sB) → PE (X.blk s H scope (compEnvC scope cl C X.env) fp) elt te)
    (hs : ∀ x, foldedSetIterable iter X.env x = pure x)
    (h : ti σ H fun v H1 => ∃ L xs, v = .ref L ∧ SqL X.K H1 L xs ∧ ∀ D, H1 D = none → ∃ Pv : Nat → Hp → Prop, Pv 0 (upd H1 D (.lst [])) ∧ (∀ i H, i ≤ xs.length → Pv i H → SqL X.K H L xs) ∧
      (∀ i x H, xs[i]? = some x → Pv i H → g x (wipe σ (own.map (·.2))) H fun σ2 H2 => wipe σ2 (own.map (·.2)) = wipe σ (own.map (·.2)) ∧ te σ2 H2 fun y H4 => ∃ acc, H4 D = some (.lst acc) ∧ acc.length < sizeLine ∧ Pv (i + 1) (upd H4 D (.lst (acc ++ [y])))) ∧
      ∀ H, Pv xs.length H → Q (.ref D) H) :
    wpAny (model X.prog X.w) X.A (eval (.ListComp elt [⟨tg, iter, [], 0⟩] scope pos) X.env) (EP X pins σ Q) X.xe s := by
  rw [eval_ListComp]
  have hfree : ∀ y ∈ scope.names, y.2 = .free → ∃ c, X.env.cells.lookup y.1 = some c := fun y hy e => (ok.free y hy e).elim (fun k => I.ok.has _ (.inl k)) (fun k => I.ok.has _ (.inr k))
  refine wpAny_comprehension_free (use := none) rfl hs (closure_ok hfree) ok.kind (fun y hy e => by rw [ok.uniq y hy, e]) (thn (hi.run pins s σ H _ I h) fun xv s1 hx => ?_)
  obtain ⟨xL, H1, I1, rx, L, xs, rfl, hL, q⟩ := hx
  cases rx
  obtain ⟨its, rv, isL, hz⟩ := I1.list hL
  refine wpAny_pyIter_list isL.isList ?_
  generalize hit : s1.heap.objs.size = it
  generalize hs2 : ({ s1 with heap := s1.heap.push { cls := .type "list_iterator", data := .fields #[.ref L, .int 0 0] } } : Shared) = s2
  have I2 : Inv X pins σ H1 s2 := by
    rw [← hs2]
    exact I1.kept (t' := s1.toks) fun b o e => Heap.get?_push_of_some _ e
  have st2 : s2.heap.IsListIter it L 0 := by
    rw [← hs2, ← hit]
    exact ⟨_, Heap.get?_push_size _ rfl, rfl, rfl⟩
  have f2 : FpOk X pins H1 it := by
    rw [← hit]
    exact I1.fpOk (Nat.le_refl _) (I1.hok.fresh (Nat.le_refl _))
  have lt2 : it < s2.heap.objs.size := by
    obtain ⟨_, e, _⟩ := id st2
    exact Heap.lt_size e
  refine wpAny_newObj_type (newEnv_comp ?_) (by show 0 ≤ sizeLine; decide)
  generalize hD : s2.heap.objs.size = D
  have hDn : H1 D = none := I2.hok.fresh (Nat.le_of_eq hD)
  obtain ⟨Pv, p0, pL, pS, pE⟩ := q D hDn
  generalize hs3 : ({ s2 with heap := s2.heap.push { cls := .type "list", data := .seq ([] : List Value).toArray } } : Shared) = s3
  have I3 : Inv X pins σ (upd H1 D (.lst [])) s3 := by
    rw [← hs3]
    refine I2.laid (t' := s2.toks) (fun b o e => Heap.get?_push_of_some _ e) (Nat.le_of_eq hD) ⟨Nat.zero_le _, [], 0, .nil, ?_⟩
    rw [← hD]
    exact Heap.get?_push_size _ rfl
  have h3 : s3.heap = s2.heap.push { cls := .type "list", data := .seq ([] : List Value).toArray } := by rw [← hs3]
  have f3 : ∀ b ∈ [it], FpOk X pins (upd H1 D (.lst [])) b ∧ b < s3.heap.objs.size := fun b hb => by
    obtain rfl : b = it := by simpa using hb
    refine ⟨⟨?_, f2.2⟩, by rw [h3, Heap.size_push]; exact Nat.lt_succ_of_lt lt2⟩
    rw [upd_ne (by rw [← hD]; exact Nat.ne_of_lt lt2)]
    exact f2.1
  have st3 : s3.heap.IsListIter it L 0 := st2.at fun o e => by rw [h3]; exact Heap.get?_push_of_some _ e
  have I4 := block_start I3 ok hN f3
  have over : ∀ (C : Addr) (cl : List (Str × Addr)) pB σB HB sB, Inv (X.blk s3 (upd H1 D (.lst [])) scope (compEnvC scope cl C X.env) [it]) pB σB HB sB → Inv X pins σ HB sB := fun C cl pB σB HB sB IB =>
    I3.call' (ch := [it]) IB.os IB.base IB.hok IB.bare fun b hb => let z := (f3 b hb).1; ⟨z.2.2.2.1, z.2.1, z.2.2.2.2.1, z.2.2.2.2.2⟩
  generalize hC : s3.heap.objs.size = C at I4
  generalize hcl : cellsFrom (C + 1) scope.names (cloFrom X.env.cells scope.names []) = cl at I4
  have pg := hg s3 (upd H1 D (.lst [])) C cl [it]
  have ovr := over C cl
  have pe := he s3 (upd H1 D (.lst [])) C cl [it] ovr
  show codeAny _ _ (.compStart (.ListComp elt [⟨tg, iter, [], 0⟩] scope pos) 0 (.ref it) (.ref D) (compEnvC scope cl C X.env)) (compPost (model X.prog X.w) X.A X.xe none (EP X pins σ Q) (.ref D) C) { s3 with heap := pushCells (s3.heap.push { cls := .type "dict", data := .dict #[] }) scope.names }
  have n3 : (upd H1 D (.lst [])) it = none := (f3 it (by simp)).1.1
  have I3n : ∀ H', H' C = none → FpOk X pins H' C := fun H' z => I3.fpOk (by rw [hC]; exact Nat.le_refl _) z
  generalize hce : compEnvC scope cl C X.env = ce at I4 pg pe ovr ⊢
  have cL : ce.locals = C := by subst hce; rfl
  generalize hH3 : upd H1 D (.lst []) = H3 at I4 pg pe ovr p0 n3
  generalize hs4 : ({ s3 with heap := pushCells (s3.heap.push { cls := .type "dict", data := .dict #[] }) scope.names } : Shared) = s4 at I4 ⊢
  have st4 : s4.heap.IsListIter it L 0 := st3.at fun o e => by rw [← hs4]; exact pushCells_keeps _ _ _ _ (Heap.get?_push_of_some _ e)
  have stat : ∀ {σ' : L2.St} {H' : Hp} {s' : Shared}, Inv (X.blk s3 H3 scope ce [it]) [] σ' H' s' → H' it = none → FpOk (X.blk s3 H3 scope ce [it]) [] H' it := fun {σ' H' s'} I' hn =>
    ⟨hn, (I'.ok.exf it (by simp)).1, I'.ok.exfs it (by simp), .inl (by simp), fun x c e => (I'.ok.exf it (by simp)).2 x c e, fun p hp => by simp at hp⟩
  have loop : codeAny (model X.prog X.w) X.A (.compLoop (.ListComp elt [⟨tg, iter, [], 0⟩] scope pos) 0 (.ref it) (.ref D) ce) (compPost (model X.prog X.w) X.A X.xe none (EP X pins σ Q) (.ref D) C) s4 := by
    refine compLoop_any (fun n s' => ∃ i H', n = xs.length - i ∧ i ≤ xs.length ∧ Inv (X.blk s3 H3 scope ce [it]) [] (wipe σ (own.map (·.2))) H' s' ∧ s'.heap.IsListIter it L i ∧ H' it = none ∧ Pv i H') ?_ xs.length ⟨0, H3, by simp, Nat.zero_le _, I4, st4, n3, p0⟩
    rintro n s5 ⟨i, H5, rfl, hi5, I5, st5, n5, w5⟩
    obtain ⟨its5, rv5, isL5, _⟩ := I5.list (pL i H5 hi5 w5)
    obtain ⟨f0, f1, f2', f3', f4, f5⟩ := stat I5 n5
    by_cases hlt : i < xs.length
    · have hx : xs[i]? = some xs[i] := List.getElem?_eq_getElem hlt
      obtain ⟨u, hu, ru⟩ := rv5.get hx
      refine wpAny_pyNext_list_item st5 isL5.isList (x := u) (by simpa using hu) fun h6 st6 sb => ?_
      have I6 : Inv (X.blk s3 H3 scope ce [it]) [] (wipe σ (own.map (·.2))) H5 { s5 with heap := h6 } := I5.turned (t' := s5.toks) (fun b o hb e => (sb.2 b hb).trans e) f0 f1 f3' f4 f5
      obtain ⟨io, e6, c6, d6⟩ := id st6
      refine go_of (s := { s5 with heap := h6 }) e6 c6 d6 (by decide) ?_
      have pinO : ∀ b ∈ [it], ∃ o, ({ s5 with heap := h6 } : Shared).heap.get? b = some o ∧ ∀ v, o.data ≠ .cell v := fun b hb => by
        obtain rfl : b = it := by simpa using hb
        exact ⟨io, e6, fun v z => by rw [d6] at z; cases z⟩
      have I7 := I6.pinned (fp := [it]) (fun b hb => by obtain rfl : b = it := by simpa using hb
                                                        exact stat I6 n5) pinO
      refine thnF (pg.run _ _ _ H5 xs[i] u _ I7 ru (pS i _ H5 hx w5)) fun _ s8 ⟨σ8, H8, I8, hw8, q8⟩ => ?_
      refine wpAny_tests_nil ?_
      rw [if_pos rfl]
      refine thnF (pe.run _ s8 σ8 H8 _ I8 q8) fun z s10 ⟨yv, H10, I10, r10, acc, hD10, hz10, nx⟩ => ?_
      refine app_ok (X := X.blk s3 H3 scope ce [it]) I10 hD10 hz10 r10 fun s11 I11 => ?_
      have pin' := I11.pin (it, io) (List.mem_append_right _ (List.mem_append_right _ (mem_pinsAt (by simp) e6)))
      refine ⟨xs.length - (i + 1), by omega, i + 1, _, rfl, hlt, (I11.unpinned (pins := [])).weak (by rw [← hw8, wipe_length]) (fun j v e => ?_), st6.at fun o e => ?_, pin'.2.1, nx⟩
      · rw [← hw8] at e
        exact (wipe_some e).1
      · have e' : h6.get? it = some o := e
        rw [e6] at e'
        cases e'
        exact pin'.1
    · have ei : i = xs.length := by omega
      subst ei
      have hl5 := rv5.length
      refine list_end_any (hq H5 s5 (ovr _ _ _ _ I5)) st5 isL5.isList (by simp; omega) fun h6 eb => ?_
      have I6 : Inv (X.blk s3 H3 scope ce [it]) [] (wipe σ (own.map (·.2))) H5 { s5 with heap := h6 } := I5.turned (t' := s5.toks) (fun b o hb e => eb b o hb e) f0 f1 f3' f4 f5
      have I7 : Inv X pins σ H5 { s5 with heap := h6 } := ovr _ _ _ _ I6
      have nC : H5 C = none := by
        have z : H5 ce.locals = none := I6.free
        rw [cL] at z
        exact z
      obtain ⟨m, hn, _⟩ := I6.loc
      have hn : h6.Ns ce.locals m := hn
      rw [cL] at hn
      refine ⟨m, hn, fun h7 sb7 => ?_⟩
      obtain ⟨u0, u1, u2, u3, u4, u5⟩ := I3n H5 nC
      exact ⟨.ref D, H5, I7.turned (t' := s5.toks) (fun b o hb e => (sb7.2 b hb).trans e) u0 u1 u3 u4 u5, rfl, pE H5 w5⟩
  exact codeAny_compStart_list loop (wpAny_pyIter_listiter st4 loop)
end DN

set_option Elab.async false
set_option linter.all false
set_option maxRecDepth 100000
set_option maxHeartbeats 2000000
namespace DN
open PySem PySem.Spec PyProof.Rows L2 HotX
/-! ### the class of a refusal, told while it is handled -/
def wordOf (ws : List Str) (c : Str) : Str := if c ∈ ws then c else "other"
def sGl (sc : Scope) (x : Str) : Bool := decide (sc.names.lookup x = some .globalImplicit)
def sLc (sc : Scope) (x : Str) : Bool := decide (sc.names.lookup x = some .local)
theorem sGl_of {sc : Scope} {x : Str} (h : sGl sc x = true) : sc.names.lookup x = some .globalImplicit := of_decide_eq_true h
theorem sLc_of {sc : Scope} {x : Str} (h : sLc sc x = true) : sc.names.lookup x = some .local := of_decide_eq_true h
def okX (x : Str) : Bool := !(x == ("__debug__" : Str)) && !(x == ("__classdict__" : Str))
def chkIs (sc : Scope) : List Str → List Expr → Bool
  | [], [] => true
  | w :: ws, .Call (.Name f _) [.Name e _, .Name y _] [] _ :: es => decide (f = "isinstance") && decide (e = "e") && decide (y = w) && sGl sc w && okX w && chkIs sc ws es
  | _, _ => false
def chkStrs : List Str → List Expr → Bool
  | [], [] => true
  | w :: ws, .Constant (.str y) _ _ :: es => decide (y = w) && chkStrs ws es
  | _, _ => false
def chkWord (sc : Scope) (ws : List Str) : List Stmt → Bool
  | [.Assign [.Name f1 _] (.List es _) _, .If (.BoolOp .Or [.Compare (.Call (.Name sm _) [.ListComp (.Call (.Name it _) [.Name g1 _] [] _) [⟨.Name g2 _, .Name f2 _, [], n0⟩] scope _] [] _) [.NotEq] [.Constant (.int n) _ _] _, .UnaryOp .Not (.Call (.Name is _) [.Name e _, .Name ve _] [] _) _] _) [.Return (some (.Constant (.str oth) _ _)) _] [] _,
      .Return (some (.Subscript (.List ns _) (.Call (.Attribute (.Name f3 _) ix pa) [.Constant (.bool tr) _ _] [] pc) _)) _] =>
    decide (f1 = "flags") && decide (f2 = "flags") && decide (f3 = "flags") && decide (sm = "sum") && decide (it = "int") && decide (g1 = "flag") && decide (g2 = "flag") && decide (n0 = 0) && decide (n = 1) && decide (is = "isinstance") && decide (e = "e") && decide (ve = "ValueError") &&
      decide (oth = "other") && decide (ix = "index") && tr && (pa.endLine == pc.line) && chkIs sc ws es && chkStrs ws ns && sGl sc "isinstance" && sGl sc "sum" && sGl sc "ValueError" && sLc sc "e" && sLc sc "flags" && blkC ["e", "flags", "flag"] sc scope [("flag", 2)] && sGl (relS scope sc) "int" && sLc (relS scope sc) "flag"
  | _ => false
section
variable {X : Cx} {a D : Addr} {oe : Obj} {c : Str} {ws : List Str}
theorem call_isP (hp : (a, oe) ∈ X.pn) (C : ExcC X.K D) (hz : Zc (.ref D) none oe) (hf : ∃ vs, oe.data = .fields vs) : CallR X (.builtin "isinstance") (rIsE X.K D a) := by
  intro pins s σ H xs us Q I r h
  obtain ⟨k, kv, b, rfl, hkv, e, q⟩ := h
  cases r with
  | cons rx rr =>
    cases rr with
    | cons rt rr =>
      cases rr
      cases rx
      have ek := hkv _ rt
      subst ek
      have hget := (I.pin (a, oe) (List.mem_append_left _ hp)).1
      obtain ⟨vs, hv⟩ := hf
      have J : PySem.W.InstAt s.heap a oe D none := by
        obtain ⟨oc, od, oda, osl⟩ := oe
        obtain ⟨h1, h2⟩ := hz
        dsimp only at h1 h2 hv
        subst h1 h2 hv
        exact ⟨hget, rfl, rfl, trivial⟩
      exact PySem.W.kia_one (PySem.W.handS_kitx_exc C.hg C.hk C.hs C.hd C.ha C.hn C.ht C.hm) I.kIn J e (fun z => nomatch z) fun tk => ⟨.bl b, H, I.kept (t' := tk) fun _ _ z => z, rfl, q⟩
theorem cr_sumH (hc : L2H.HotC X) : CallR X (.builtin "sum") (rSum X.K) := by
  intro pins s σ H vs us Q I r h
  obtain ⟨p, ns, rfl, hs, q⟩ := h
  obtain ⟨its, rv, hl, _⟩ := I.list hs
  obtain ⟨x1, hot⟩ := hc.at I
  rw [Vals.ref1 r]
  exact sum_hot hot hl.isList rv.ints fun h' tk t' hk => ⟨.int _, H, I.kept hk, ⟨_, rfl⟩, q⟩
/-- isinstance(e, w) -/
theorem pe_isx {i : Nat} {w : Str} {v : V} {u : Value} {b : Bool} {p1 p2 p3 p4 : Pos} (hcr : CallR X (.builtin "isinstance") (rIsE X.K D a)) (hi : X.N[i]? = some ("e" : Str)) (he : Vis X.env.scope "e") (hg : Gl X "isinstance") (hm : X.mg "isinstance" = none) (hw : PE X (.Name w p3) (tC v)) (hv : ∀ z, RelV v z → z = u) (hk : PySem.W.kitOne X.K (.ref D) u = some b) :
    PE X (.Call (.Name "isinstance" p1) [.Name "e" p2, .Name w p3] [] p4) (fun σ H Q => σ[i]? = some (some (.ref a)) ∧ Q (.bl b) H) :=
  ⟨fun pins s σ H Q I h => (pe_callB hcr hg hm (by decide +kernel) (pa_cons (pe_var hi he) (pa_cons hw pa_nil)) ).run pins s σ H Q I ⟨.ref a, h.1, ⟨v, u, b, rfl, hv, hk, h.2⟩⟩⟩
theorem pa_isis (hcr : CallR X (.builtin "isinstance") (rIsE X.K D a)) (hi : X.N[0]? = some ("e" : Str)) (he : Vis X.env.scope "e") (hg : Gl X "isinstance") (hm : X.mg "isinstance" = none) :
    ∀ (ws : List Str) (es : List Expr), chkIs X.env.scope ws es = true → (∀ w ∈ ws, X.mg w = some (.ref (He.ga X.K w)) ∧ PySem.W.kitOne X.K (.ref D) (.ref (He.ga X.K w)) = some (decide (c = w))) →
      PA X es (fun σ H Q => σ[0]? = some (some (.ref a)) ∧ Q (ws.map fun w => .bl (decide (c = w))) H)
  | [], [], _, _ => ⟨fun pos pins s σ H Q I h => pa_nil.run pos pins s σ H Q I h.2⟩
  | [], _ :: _, h, _ => by simp [chkIs] at h
  | _ :: _, [], h, _ => by simp [chkIs] at h
  | w :: ws, e :: es, h, hk => by
    unfold chkIs at h
    split at h
    · rename_i z1 z2 heq; cases heq
    · rename_i w' ws' f pf e' pe y py pc es' z1 z2
      cases z1
      cases z2
      simp only [Bool.and_eq_true, decide_eq_true_eq] at h
      obtain ⟨⟨⟨⟨⟨rfl, rfl⟩, rfl⟩, hgw⟩, hok⟩, hr⟩ := h
      obtain ⟨m1, m2⟩ := hk y (by simp)
      have hgl : Gl X y := sGl_of hgw
      unfold okX at hok
      simp only [Bool.and_eq_true, Bool.not_eq_true'] at hok
      have ih := pa_isis hcr hi he hg hm ws es hr fun x hx => hk x (by simp [hx])
      have p1 := pe_isx (p1 := pf) (p2 := pe) (p3 := py) (p4 := pc) hcr hi he hg hm (pe_glob (v := .ref (He.ga X.K y)) hgl m1 rfl hok.1) (fun z r => r) m2
      exact ⟨fun pos pins s σ H Q I hh => (pa_cons p1 ih).run pos pins s σ H Q I ⟨hh.1, hh.1, hh.2⟩⟩
    · cases h
theorem pa_strs : ∀ (ws : List Str) (es : List Expr), chkStrs ws es = true → PA X es (fun σ H Q => Q (ws.map .str) H)
  | [], [], _ => ⟨fun pos pins s σ H Q I h => pa_nil.run pos pins s σ H Q I h⟩
  | [], _ :: _, h => by simp [chkStrs] at h
  | _ :: _, [], h => by simp [chkStrs] at h
  | w :: ws, e :: es, h => by
    unfold chkStrs at h
    split at h
    · rename_i z1 z2 heq; cases heq
    · rename_i w' ws' y j pc es' z1 z2
      cases z1
      cases z2
      simp only [Bool.and_eq_true, decide_eq_true_eq] at h
      obtain ⟨rfl, hr⟩ := h
      have ih := pa_strs ws es hr
      exact ⟨fun pos pins s σ H Q I hh => (pa_cons pe_str ih).run pos pins s σ H Q I hh⟩
    · cases h
end
theorem flag_sum (c : Str) : ∀ {ws : List Str}, ws.Nodup → ((ws.map fun w => decide (c = w)).map fun b => if b then (1 : Int) else 0).sum = if c ∈ ws then 1 else 0
  | [], _ => rfl
  | w :: ws, h => by
    have hn := List.nodup_cons.mp h
    have ih := flag_sum c hn.2
    simp only [List.map_cons, List.sum_cons, ih]
    by_cases e : c = w
    · subst e
      simp [hn.1]
    · simp [e]
theorem flag_ix (c : Str) : ∀ {ws : List Str}, c ∈ ws → ∃ i, (ws.map fun w => D.bl (decide (c = w))).findIdx? (fun y => y.eqb (.bl true)) = some i ∧ ws[i]? = some c
  | [], h => by cases h
  | w :: ws, h => by
    by_cases e : c = w
    · subst e
      exact ⟨0, by simp [List.findIdx?_cons, D.eqb], rfl⟩
    · have h2 : c ∈ ws := (List.mem_cons.mp h).resolve_left e
      obtain ⟨i, h1, h3⟩ := flag_ix c h2
      refine ⟨i + 1, ?_, by simpa using h3⟩
      simp only [List.map_cons, List.findIdx?_cons, decide_eq_false e]
      rw [show D.eqb (.bl false) (.bl true) = false from rfl, h1]
      rfl
theorem rp_bls {K : PySem.W.Frag} {H : Hp} {N : Hid} (f : Str → Bool) : ∀ ws : List Str, RpAll K H N (ws.map fun w => V.bl (f w)) (ws.map fun w => D.bl (f w))
  | [] => .nil
  | _ :: ws => .cons (.bl _) (rp_bls f ws)
theorem rp_strL {K : PySem.W.Frag} {H : Hp} {N : Hid} : ∀ ws : List Str, (∀ w ∈ ws, (∀ k ∈ w.cps.toList, k < 0x110000) ∧ w.cps.toList.length ≤ sizeLine) → RpAll K H N (ws.map V.str) (ws.map fun w => D.str w.cps.toList)
  | [], _ => .nil
  | w :: ws, h => .cons (.str w.cps.toList (h w (by simp)).1 (h w (by simp)).2) (rp_strL ws fun x hx => h x (by simp [hx]))
end DN

set_option Elab.async false
set_option linter.all false
set_option maxRecDepth 100000
set_option maxHeartbeats 2000000
namespace DN
open PySem PySem.Spec PyProof.Rows L2 HotX
section
variable {X : Cx} {a D : Addr} {oe : Obj} {c : Str} {ws : List Str}
/-- how the word's def stands -/
structure WordX (X : Cx) (a D : Addr) (oe : Obj) (c : Str) (ws : List Str) : Prop where
  eN : X.N = (["e", "flags", "flag"] : List Str)
  hot : L2H.Hot1 X.A (a, oe)
  pin : (a, oe) ∈ X.pn
  exc : ExcC X.K D
  zc : Zc (.ref D) none oe
  un : X.A.units + 64 < cLine
  kit : ∀ w ∈ ws, X.mg w = some (.ref (He.ga X.K w)) ∧ PySem.W.kitOne X.K (.ref D) (.ref (He.ga X.K w)) = some (decide (c = w))
  kv : PySem.W.kitOne X.K (.ref D) (.type "ValueError") = some true
  nd : ws.Nodup
  cps : ∀ w ∈ ws, (∀ k ∈ w.cps.toList, k < 0x110000) ∧ w.cps.toList.length ≤ sizeLine
  few : ws.length ≤ 100
  b1 : X.mg "isinstance" = none
  b2 : X.mg "sum" = none
  b3 : X.mg "int" = none
  b4 : X.mg "ValueError" = none
/-- [int(flag) for flag in flags] -/
theorem word_lc (W : WordX X a D oe c ws) {scope : Scope} {p1 p2 p3 p4 p5 p6 : Pos} (hb : blkC ["e", "flags", "flag"] X.env.scope scope [("flag", 2)] = true) (hi : sGl (relS scope X.env.scope) "int" = true) (hf : sLc (relS scope X.env.scope) "flag" = true) (hv : sLc X.env.scope "flags" = true) :
    PE X (.ListComp (.Call (.Name "int" p1) [.Name "flag" p2] [] p3) [⟨.Name "flag" p4, .Name "flags" p5, [], 0⟩] scope p6)
      (fun σ H Q => ∃ (L : Addr) (fl : List Bool), σ[1]? = some (some (.ref L)) ∧ H L = some (.lst (fl.map V.bl)) ∧ fl.length ≤ 100 ∧ ∀ p H', (∀ b o, H b = some o → H' b = some o) → H' p = some (.lst (fl.map fun b => V.int (if b then 1 else 0))) → Q (.ref p) H') := by
  refine ⟨fun pins s σ H Q I h => ?_⟩
  obtain ⟨L, fl, h1, hL, hn, q⟩ := h
  have nd : X.N.Nodup := by rw [W.eN]; decide
  have ok : BlkOk X.N X.env.scope scope [("flag", 2)] := by rw [W.eN]; exact blkOk_by hb
  refine lcG (own := [("flag", 2)]) (g := gName 2) (ti := tVar 1) (te := fun σ H Q => ∃ b, σ[2]? = some (some (.bl b)) ∧ Q (.int (if b then 1 else 0)) H) nd I
    (pe_var (by rw [W.eN]; rfl) (.inl (sLc_of hv))) ok (fun H' s' I' => .inr (L2H.HotC.at ⟨_, W.hot, W.pin⟩ I'))
    (fun s H C cl fp => pg_name nd (by show X.N[2]? = _; rw [W.eN]; rfl) (.inl (sLc_of hf)) (.inr (sLc_of hf)))
    (fun sb Hb C cl fp _ => ⟨fun pins s σ H Q I h => ?_⟩) (fun _ => rfl) ⟨.ref L, h1, L, fl.map V.bl, rfl, .inl (.inl hL), fun Dd hD => ?_⟩
  · obtain ⟨b, hb2, q⟩ := h
    exact (pe_callTy (X := X.blk sb Hb scope (compEnvC scope cl C X.env) fp) call_int1 (sGl_of hi) W.b3 (by decide +kernel) (pa_cons (pe_var (X := X.blk sb Hb scope (compEnvC scope cl C X.env) fp) (i := 2) (by show X.N[2]? = _; rw [W.eN]; rfl) (.inl (sLc_of hf))) pa_nil)).run pins s σ H Q I ⟨.bl b, hb2, .inr ⟨b, rfl, q⟩⟩
  · have ne : L ≠ Dd := ne_of_none hL hD
    refine ⟨fun i H' => (∀ b o, H b = some o → H' b = some o) ∧ H' Dd = some (.lst ((fl.take i).map fun b => V.int (if b then 1 else 0))), ⟨fun b o e => by rw [upd_ne (ne_of_none e hD)]; exact e, by rw [upd_same]; rfl⟩, fun i H' _ p => .inl (.inl (p.1 _ _ hL)), fun i x H' hx p => ?_, fun H' p => ?_⟩
    · rw [List.getElem?_map, Option.map_eq_some_iff] at hx
      obtain ⟨b, hb3, rfl⟩ := hx
      have hi : i < fl.length := (List.getElem?_eq_some_iff.mp hb3).1
      refine ⟨by simp [wipe], b, ?_, _, p.2, ?_, fun b' o e => ?_, ?_⟩
      · rw [List.getElem?_set_self]
        have := I.len
        rw [W.eN] at this
        show 2 < (wipe σ [2]).length
        rw [wipe_length, this]
        decide
      · rw [List.length_map, List.length_take]
        have : (sizeLine : Nat) = 16777216 := sizeLine_eq
        omega
      · rw [upd_ne (ne_of_none e hD)]
        exact p.1 _ _ e
      · rw [upd_same, List.take_add_one, hb3]
        simp
    · have e : (fl.map V.bl).length = fl.length := by simp
      rw [e, List.take_length] at p
      exact q Dd H' p.1 p.2
theorem word_body {T : List (Addr × Str)} (W : WordX X a D oe c ws) (hfn : ∀ x, X.fn x = true) {body : List Stmt} (h : chkWord X.env.scope ws body = true) :
    PSs X body (fun Ed σ H => σ[0]? = some (some (.ref a)) ∧ ∀ H', Ext T H H' → Ed.rt (.str (wordOf ws c)) H') := by
  unfold chkWord at h
  split at h
  · rename_i f1 q1 es q2 q3 sm q4 it q5 g1 q6 q7 g2 q8 f2 q9 n0 scope q10 q11 n j1 q12 q13 is q14 e q15 ve q16 q17 q18 q19 oth j2 q20 q21 q22 ns q23 f3 q24 ix pa tr j3 q25 pc q26 q27
    simp only [Bool.and_eq_true, decide_eq_true_eq] at h
    obtain ⟨⟨⟨⟨⟨⟨⟨⟨⟨⟨⟨⟨⟨⟨⟨⟨⟨⟨⟨⟨⟨⟨⟨⟨⟨rfl, rfl⟩, rfl⟩, rfl⟩, rfl⟩, rfl⟩, rfl⟩, rfl⟩, rfl⟩, rfl⟩, rfl⟩, rfl⟩, rfl⟩, rfl⟩, rfl⟩, hline⟩, hes⟩, hns⟩, g1⟩, g2⟩, g3⟩, l1⟩, l2⟩, hblk⟩, gi⟩, lf⟩ := h
    have nd : X.N.Nodup := by rw [W.eN]; decide
    have hf : ∃ vs, oe.data = .fields vs := let ⟨_, vs, e, _⟩ := W.hot; ⟨vs, e⟩
    have hcr := call_isP W.pin W.exc W.zc hf
    have i0 : X.N[0]? = some ("e" : Str) := by rw [W.eN]; rfl
    have i1 : X.N[1]? = some ("flags" : Str) := by rw [W.eN]; rfl
    have hz : (sizeLine : Nat) = 16777216 := sizeLine_eq
    have s1 := ps_set (pos := q3) (pos' := q1) nd i1 (.inl (sLc_of l2)) (pe_lst (pos := q2) (pa_isis (c := c) hcr i0 (.inl (sLc_of l1)) (sGl_of g1) W.b1 ws es hes W.kit)) rfl (.inr (sLc_of l2))
    have hsum := pe_callB (p := q4) (pos := q11) (cr_sumH ⟨_, W.hot, W.pin⟩) (sGl_of g2) W.b2 (by decide +kernel) (pa_cons (word_lc W (p1 := q5) (p2 := q6) (p3 := q7) (p4 := q8) (p5 := q9) (p6 := q10) hblk gi lf l2) pa_nil)
    have hcmp := pt_cmpR (pos := q13) (cmp_ok (X := X) W.un .ne) hsum (pe_int (i := 1) (j := j1) (pos := q12)) rfl
    have hnot := pt_not (pos := q18) (pt_val (pe_isx (p1 := q14) (p2 := q15) (p3 := q16) (p4 := q17) (i := 0) hcr i0 (.inl (sLc_of l1)) (sGl_of g1) W.b1 (pe_bltn (v := .ty "ValueError") (sGl_of g3) W.b4 (by decide +kernel) rfl) (fun z r => r) W.kv))
    have s2 := ps_if (pos := q22) ((pw_or (pos := q19) hcmp (pw_or1 hnot)).pt) (pss_one (ps_ret (pos := q21) (pe_str (x := "other") (j := j2) (pos := q20)))) pss_nil
    have hix := pe_bm (apos := pa) (cpos := pc) F.plainAttrs_list F.slot_list_index F.type_list_index (mth_ok (X := X) (T := T) .lindex) (pe_var (pos := q24) i1 (.inl (sLc_of l2))) (pa_cons (pe_bl (b := true) (j := j3) (pos := q25)) pa_nil) (hline := hline)
    have s3 := ps_ret (pos := q27) (pe_ix (pos := q26) (ix_ok (X := X) (T := T) (by have := W.un; omega)) (pe_lst (pos := q23) (pa_strs ws ns hns)) hix (by intro o i; rfl))
    refine ⟨fun pins s σ H Ed I hh => (pss_cons s1 (pss_cons s2 (pss_one s3))).run pins s σ H Ed I ?_⟩
    obtain ⟨h0, hk⟩ := hh
    refine ⟨h0, ⟨by rw [List.length_map, hz]; have := W.few; omega, fun L hL => ?_⟩⟩
    have hl3 : σ.length = 3 := by
      have := I.len
      rw [W.eN] at this
      exact this
    have k1 : (σ.set 1 (some (V.ref L)))[1]? = some (some (.ref L)) := by rw [List.getElem?_set_self (by omega)]
    have k0 : (σ.set 1 (some (V.ref L)))[0]? = some (some (.ref a)) := by
      rw [List.getElem?_set_ne (by decide)]
      exact h0
    have eL : (ws.map fun w => V.bl (decide (c = w))) = (ws.map fun w => decide (c = w)).map V.bl := by simp
    have ext1 : ∀ b o, H b = some o → upd H L (.lst (ws.map fun w => V.bl (decide (c = w)))) b = some o := fun b o e => by
      rw [upd_ne (ne_of_none e hL)]
      exact e
    refine ⟨L, ws.map fun w => decide (c = w), k1, by rw [upd_same, eL], by simpa using W.few, fun p H2 e2 hp => ?_⟩
    refine ⟨p, (ws.map fun w => decide (c = w)).map (fun b => if b then (1 : Int) else 0), rfl, .inl (.inl (by rw [hp]; simp)), ?_⟩
    rw [flag_sum c W.nd]
    have e12 : ∀ b o, H b = some o → H2 b = some o := fun b o e => e2 b o (ext1 b o e)
    by_cases hc : c ∈ ws
    · rw [if_pos hc]
      refine ⟨fun _ => False, .int 1, .int 1, false, .of (.int 1), .of (.int 1), rfl, false, rfl, ?_⟩
      refine ⟨k0, true, rfl, ?_⟩
      have hL2 : H2 L = some (.lst (ws.map fun w => V.bl (decide (c = w)))) := e2 _ _ upd_same
      refine ⟨by rw [List.length_map, hz]; have := W.few; omega, fun M hM => ?_⟩
      have neM : L ≠ M := ne_of_none hL2 hM
      have hL3 : upd H2 M (.lst (ws.map V.str)) L = some (.lst (ws.map fun w => V.bl (decide (c = w)))) := by rw [upd_ne neM]; exact hL2
      obtain ⟨i, hi1, hi2⟩ := flag_ix c hc
      refine ⟨.ref L, k1, .inl ⟨rfl, _, .inl (.inl hL3)⟩, ?_⟩
      refine ⟨fun _ => False, .lst (ws.map fun w => DN.D.bl (decide (c = w))), .bl true, .int (i : Nat), .bl true, rfl, (fun a z => z.elim), .of (.lst ⟨fun z => z, hL3⟩ (rp_bls _ ws)), .of (.bl true), ?_, fun v H4 e4 r4 => ?_⟩
      · have fl : (ws.map fun w => DN.D.bl (decide (c = w))).all DN.D.flat = true := by
          rw [List.all_map, List.all_eq_true]
          intro x _
          rfl
        show (if (DN.D.bl true).flat && (ws.map fun w => DN.D.bl (decide (c = w))).all DN.D.flat then ((ws.map fun w => DN.D.bl (decide (c = w))).findIdx? fun y => y.eqb (.bl true)).map fun i => DN.D.int (i : Nat) else none) = _
        rw [fl, hi1]
        rfl
      · cases r4
        have hM4 : H4 M = some (.lst (ws.map V.str)) := e4.1 _ _ upd_same (fun _ z => nomatch z)
        refine ⟨fun _ => False, .lst (ws.map fun w => DN.D.str w.cps.toList), .int (i : Nat), .str c.cps.toList, (fun a z => z.elim), .of (.lst ⟨fun z => z, hM4⟩ (rp_strL ws W.cps)), .of (.int _), ?_, fun v H5 e5 r5 => ?_⟩
        · show atI (ws.map fun w => DN.D.str w.cps.toList) (i : Nat) = _
          rw [at_map]
          have : atI ws (i : Nat) = some c := L2.atI_nat hi2
          rw [this]
          rfl
        · cases r5
          unfold wordOf at hk
          rw [if_pos hc] at hk
          exact hk H5 ((((Ext.same e12).trans (Ext.new hM)).trans e4).trans e5)
    · rw [if_neg hc]
      refine ⟨fun _ => False, .int 0, .int 1, true, .of (.int 0), .of (.int 1), rfl, true, rfl, ?_⟩
      unfold wordOf at hk
      rw [if_neg hc] at hk
      exact hk H2 (Ext.same e12)
  · cases h
end
end DN

set_option Elab.async false
set_option linter.all false
set_option maxRecDepth 100000
set_option maxHeartbeats 2000000
namespace DN
open PySem PySem.Spec PyProof.Rows L2 HotX
/-! ### a def called while an exception is handled, its promise told of the very state -/
theorem run_ofH {CX : CXT} {P : Program} {w : World} {K : PySem.W.Frag} {mg : Str → Option Value} {base : Heap} {k : Nat} {f : Addr} {name qual : Str} {params : Arguments} {body : List Stmt} {scope : Scope} {dV kV doc pm cdv ct oc : Value} {an od : Option Addr}
    {osl : Array (Option Value)} {N ps : List Str} (lk : K.lookup f = some ⟨oc, od, .func (PySem.W.fnOf name qual params body scope dV kV doc pm an cdv ct), osl⟩) (hcd : PySem.W.codeIn K cdv qual = true) (S : FnScope N ps scope)
    {A : Around} {outer : List Env} {s : Shared} {H : Hp} {args : Args} {us : List Value} {vs : List V} {Q : VK} {E : XK} {p : Addr × Obj} (hr : L2H.RoomH (k + 1) A) (hpin : L2H.PinOk outer H s p) (e0 : Env0 P w K mg base A outer s H) (hb : BindsTo s (PySem.W.fnOf name qual params body scope dV kV doc pm an cdv ct) args (ps.zip us)) (r : Vals vs us) (hl : vs.length = ps.length)
    (hbody : L2H.RoomH k (A.deeper (envOfC qual scope s.heap.objs.size f cdv)) → ∃ t, PSs (L2H.cxH CX P w K mg base N qual scope f cdv A outer s H E p) body t ∧ t { nx := fun _ H' => Q .non H', rt := Q } (L2.start N vs) H) :
    codeAny (model P w) A (.call (.ref f) args) (CR CX outer P w H s Q E) s := by
  have KX : K.In s.heap := e0.mod.kin.keeps fun b o e => (e0.bs b o e).1
  have hkind : ∀ y ∈ ps.zip us, scope.names.lookup y.1 = some .local ∨ (scope.names.lookup y.1 = some .cell ∧ ((cellsFrom (s.heap.objs.size + 1) scope.names []).lookup y.1).isSome = true) := fun y hy =>
    (S.par y.1 (List.of_mem_zip (show (y.1, y.2) ∈ _ from hy)).1).imp id fun q => ⟨q, PySem.W.cellsFrom_some _ _ _ (.inl q)⟩
  refine codeAny_call_function hr.depth (KX _ _ lk) rfl S.co S.gen rfl (PySem.W.codeRec_of KX hcd) (hb _ _ _ _ (wpAny_newFunctionEnv_cells S.kind hkind fun env he s1 x => ?_))
  subst he
  refine ⟨(e0.mod.nolimit.keeps fun b o e => (e0.bs b o e).1).keeps x.toInCall.keep, codeAny_func ?_⟩
  obtain ⟨t, ht, hq⟩ := hbody (hr.deeper _)
  have I : Inv (L2H.cxH CX P w K mg base N qual scope f cdv A outer s H E p) [] (L2.start N vs) H s1 := L2H.inv_startH S hpin e0 hl r x
  refine wpAny_mono (ht.run [] s1 (L2.start N vs) H _ I hq) (fun fl s' hs => ?_) fun e s' hs => hs
  cases fl with
  | ret u =>
    obtain ⟨v, σ', H', J, rv, q⟩ := hs
    exact ⟨v, H', J.os, J.bare, J.base, J.hok, rv, q⟩
  | next =>
    obtain ⟨σ', H', J, q⟩ := hs
    exact ⟨.non, H', J.os, J.bare, J.base, J.hok, rfl, q⟩
  | brk => exact hs.elim fun _ z => z.elim fun _ z => z.2.elim
  | cont => exact hs.elim fun _ z => z.elim fun _ z => z.2.elim
/-! ### what the law's words stand on -/
/-- of K: the classes that may be told -/
structure ToldK (K : PySem.W.Frag) (mg : Str → Option Value) (ws : List Str) : Prop where
  exc : ∀ c ∈ ws, ExcC K (He.ga K c)
  kit : ∀ c ∈ ws, ∀ x ∈ ws, PySem.W.kitOne K (.ref (He.ga K c)) (.ref (He.ga K x)) = some (decide (c = x))
  kv : ∀ c ∈ ws, PySem.W.kitOne K (.ref (He.ga K c)) (.type "ValueError") = some true
  exm : ∀ c ∈ ws, PySem.W.exmOne K (.ref (He.ga K c)) (.ref (He.ga K "NumeralError")) = some true
  gl : ∀ c ∈ ws, mg c = some (.ref (He.ga K c))
  ne : mg "NumeralError" = some (.ref (He.ga K "NumeralError"))
  nd : ws.Nodup
  cps : ∀ w ∈ ws, (∀ k ∈ w.cps.toList, k < 0x110000) ∧ w.cps.toList.length ≤ sizeLine
  few : ws.length ≤ 100
  b1 : mg "isinstance" = none
  b2 : mg "sum" = none
  b3 : mg "int" = none
  b4 : mg "ValueError" = none
/-- a def of the program's top -/
structure TopD (K : PySem.W.Frag) (mg : Str → Option Value) (x : Str) (N ps : List Str) (params : Arguments) (body : List Stmt) (scope : Scope) (f : Addr) (fd : FuncData) : Prop where
  F : FunD K x x params body scope [] [] f fd
  gl : mg x = some (.ref f)
  b : Binds K fd ps []
  S : FnScope N ps scope
theorem pinned_ne {X : Cx} {pins : List (Addr × Obj)} {σ : L2.St} {H : Hp} {s : Shared} {p : Addr × Obj} (I : Inv X pins σ H s) (hp : p ∈ X.pn) : L2H.PinOk X.stack H s p := by
  have P1 := I.pin p (List.mem_append_left _ hp)
  exact ⟨P1.1, P1.2.1, fun hm => (List.mem_cons.mp (I.stkSub p.1 hm)).elim P1.2.2.1 P1.2.2.2.1, P1.2.2.2.2⟩
/-- _law_word(e) in the suite -/
theorem pe_word {X : Cx} {T : List (Addr × Str)} {ws : List Str} {c e x : Str} {a f : Addr} {oe : Obj} {i k : Nat} {pn : List (Addr × Obj)} {params : Arguments} {body : List Stmt} {scope : Scope} {fd : FuncData} {p1 p2 p3 : Pos} (tk : ToldK X.K X.mg ws) (hc : c ∈ ws) (td : TopD X.K X.mg x ["e", "flags", "flag"] ["e"] params body scope f fd) (hb : chkWord scope ws body = true)
    (hz : L2N.Zn (.ref (He.ga X.K c)) none oe) (hd : ∃ vs, oe.data = .fields vs) (hr : L2H.RoomH (k + 1) X.A) (hg : Gl X x) (hdb : (x == ("__debug__" : Str)) = false) (hi : X.N[i]? = some e) (hv : Vis X.env.scope e) (hd1 : (e == ("__debug__" : Str)) = false) (hd2 : (e == ("__classdict__" : Str)) = false) :
    PE (X.suite a ((a, oe) :: pn)) (.Call (.Name x p1) [.Name e p2] [] p3) (fun σ H Q => σ[i]? = some (some (.ref a)) ∧ ∀ H', Ext T H H' → Q (.str (wordOf ws c)) H') := by
  obtain ⟨vs0, hvs0⟩ := hd
  have hot : ∀ A : Around, A.handled = some (.ref a) → L2H.Hot1 A (a, oe) := fun A h => ⟨h, vs0, hvs0, hz.2.2 vs0 hvs0⟩
  obtain ⟨oc, od, dV, kV, doc, pm, an, cdv, ct, osl, rfl, lk, hcd, _, _⟩ := td.F.ex
  refine ⟨fun pins s σ H Q I h => ?_⟩
  obtain ⟨h0, hk⟩ := h
  refine wpAny_Call_Name_kw (ld_glob (X := X.suite a ((a, oe) :: pn)) I hg td.gl ?_ hdb)
  refine PySem.W.callWith_K (h₀ := X.base) I.ok.mod.kin td.F.kp (thn ((pa_cons (pe_var (X := X.suite a ((a, oe) :: pn)) (pos := p2) hi hv hd1 hd2) pa_nil).run p3 pins s σ H (fun vs H1 => vs = [.ref a] ∧ H1 = H) I ⟨.ref a, h0, rfl, rfl⟩) fun us s1 ⟨vs, H1, I1, r, ev, eH⟩ => ⟨I1.kIn, ?_⟩) rfl rfl
  subst ev
  rw [eH] at I1
  have hu := Vals.ref1 r
  subst hu
  have hbd : L2H.RoomH k ((X.suite a ((a, oe) :: pn)).A.deeper (envOfC x scope s1.heap.objs.size f cdv)) → ∃ t, PSs (L2H.cxH (L2N.CX X.prog X.w) X.prog X.w X.K X.mg X.base ["e", "flags", "flag"] x scope f cdv (X.suite a ((a, oe) :: pn)).A X.stack s1 H (fun _ _ _ => False) (a, oe)) body t ∧
      t { nx := fun _ H' => Q .non H', rt := Q } (L2.start ["e", "flags", "flag"] [.ref a]) H := fun hr2 => by
    refine ⟨_, word_body (X := L2H.cxH (L2N.CX X.prog X.w) X.prog X.w X.K X.mg X.base ["e", "flags", "flag"] x scope f cdv (X.suite a ((a, oe) :: pn)).A X.stack s1 H (fun _ _ _ => False) (a, oe)) (T := T) (c := c) (ws := ws) (a := a) (D := He.ga X.K c) (oe := oe)
      ⟨rfl, hot _ rfl, List.mem_cons_self, tk.exc c hc, hz.zc, ?_, fun x hx => ⟨tk.gl x hx, tk.kit c hc x hx⟩, tk.kv c hc, tk.nd, tk.cps, tk.few, tk.b1, tk.b2, tk.b3, tk.b4⟩ (fun _ => rfl) hb, rfl, fun H' e => hk H' e⟩
    have := hr2.un
    show ((X.suite a ((a, oe) :: pn)).A.deeper (envOfC x scope s1.heap.objs.size f cdv)).units + 64 < cLine
    omega
  have rc := run_ofH (CX := L2N.CX X.prog X.w) (E := fun _ _ _ => False) (Q := Q) (k := k) (args := ⟨[.ref a], []⟩) (us := [.ref a]) (vs := [.ref a]) (p := (a, oe)) lk hcd td.S (show L2H.RoomH (k + 1) (X.suite a ((a, oe) :: pn)).A from ⟨hr.dp, hr.un⟩)
    (pinned_ne (p := (a, oe)) I1 List.mem_cons_self) I1.env0 (td.b s1 [.ref a] I1.kIn rfl) r rfl hbd
  refine wpAny_call (codeAny_mono rc fun q s' hq => ?_)
  cases q with
  | error e =>
    obtain ⟨_, _, _, _, _, _, _, _, _, _, _, _, z⟩ := (show L2N.CX X.prog X.w _ _ _ _ e s' from hq)
    exact z.elim
  | ok fl =>
    cases fl with
    | ret u => exact I1.after hq
    | next => exact False.elim hq
    | brk => exact False.elim hq
    | cont => exact False.elim hq
end DN

set_option Elab.async false
set_option linter.all false
set_option maxRecDepth 100000
set_option maxHeartbeats 2000000
namespace DN
open PySem PySem.Spec PyProof.Rows L2 HotX
/-! ### a lambda's body, its call -/
def lamN (X : Cx) (A : Around) (outer : List Env) (s : Shared) (H : Hp) (E : XK) (scope : Scope) (f c' : Addr) : Cx :=
  { LamX.lamCx X A outer s H E scope f c' with xe := fun e s' => wpAny (model X.prog X.w) (A.deeper (LamX.lamEnv X scope s.heap.objs.size f c')) (leaving (LamX.lamEnv X scope s.heap.objs.size f c') e) (fun _ s2 => L2N.CX X.prog X.w outer H s E e s2) (fun e' s2 => L2N.CX X.prog X.w outer H s E e' s2) s' }
/-- the same program -/
structure Same (Z X : Cx) : Prop where
  p : Z.prog = X.prog
  w : Z.w = X.w
  k : Z.K = X.K
  g : Z.mg = X.mg
  b : Z.base = X.base
structure Lam where
  params : Arguments
  body : Expr
  scope : Scope
abbrev lamObj (X : Cx) (l : Lam) (pm : Value) (c' : Addr) (ctv : Value) : Obj := PySem.W.kla_obj "<lambda>" (X.env.qual ++ "<lambda>") l.params l.body l.scope (cloFrom X.env.cells l.scope.names []) pm c' ctv
/-- the lambda's object, as it is held -/
def LamO (X : Cx) (l : Lam) (f c' : Addr) : HO := .ext fun h => ∃ pm ctv, h.get? f = some (lamObj X l pm c' ctv)
theorem lamO_ne {X : Cx} {l : Lam} {f c' : Addr} (ps : Array Value) : LamO X l f c' ≠ .tbl ps := fun z => by
  unfold LamO at z
  cases z
theorem lamO_ok {P : Program} {w : World} {X : Cx} {l : Lam} {f c' : Addr} {H : Hp} {h : Heap} {pm ctv : Value} (e : h.get? f = some (lamObj X l pm c' ctv)) : ObjOk P w H h f (LamO X l f c') :=
  ⟨⟨pm, ctv, e⟩, ⟨_, e⟩, fun h1 h2 ⟨pm, ctv, q⟩ st => ⟨pm, ctv, st _ q⟩⟩
structure LamOk (X : Cx) (l : Lam) : Prop where
  s : LamX.LamS X.env.scope l.scope
  d : defaultsOf l.params X.env = ([], [])
  b : ∀ (q : Str) (cl : List (Str × Addr)) (pm cv ctv : Value), bindArgs (PySem.W.kla_fn "<lambda>" q l.params l.body l.scope cl pm cv ctv) ⟨[], []⟩ = pure []
theorem pe_actN {X Z : Cx} {pins : List (Addr × Obj)} {σ : L2.St} {f c' : Addr} {l : Lam} {k i : Nat} {a : Str} {W : WX} {E : XK} {tb : TE} {p1 p2 : Pos} (sm : Same Z X) (over : ∀ pZ σZ HZ sZ, Inv Z pZ σZ HZ sZ → Inv X pins σ HZ sZ) (lo : LamOk X l)
    (tk : L2N.Takes Z W) (hW : ∀ cls d σ' H', E cls d H' → W cls d σ' H') (hr : Room (k + 1) Z.A)
    (hbody : ∀ (A : Around) (outer : List Env) (s : Shared) (H : Hp), Room k (A.deeper (LamX.lamEnv X l.scope s.heap.objs.size f c')) → PE (lamN X A outer s H E l.scope f c') l.body tb)
    (hN : Z.N[i]? = some a) (hv : Vis Z.env.scope a) (hd : (a == ("__debug__" : Str)) = false) (hcd : (a == ("__classdict__" : Str)) = false) :
    PE Z (.Call (.Name a p1) [] [] p2) (fun σZ HZ Q => σZ[i]? = some (some (.ref f)) ∧ HZ f = some (LamO X l f c') ∧ HZ c' = some (LamX.CodeO c' (X.env.qual ++ "<lambda>")) ∧ tb σ HZ Q) := by
  refine ⟨fun pinsZ sZ σZ HZ Q IZ h => ?_⟩
  obtain ⟨hs, hfo, hc, ht⟩ := h
  refine wpAny_Call_Name_kw (thn ((pe_var (pos := p1) (i := i) hN hv hd hcd).run pinsZ sZ σZ HZ (fun v H1 => v = .ref f ∧ H1 = HZ) IZ ⟨.ref f, hs, rfl, rfl⟩) fun u s1 ⟨v, H1, I1, r1, q1⟩ => ?_)
  obtain ⟨rfl, eH⟩ := q1
  rw [eH] at I1
  obtain rfl : u = Value.ref f := r1
  have IX := over _ _ _ _ I1
  obtain ⟨⟨pm, ctv, of1⟩, _, _⟩ := I1.hok f _ hfo
  refine PySem.W.callWith_F0 ⟨_, _, _, _, of1⟩ ?_
  obtain ⟨⟨oc, vs, t, hoc, hdc, hvc⟩, _, _⟩ := I1.hok c' _ hc
  have e0 : Env0 X.prog X.w X.K X.mg X.base Z.A Z.stack s1 HZ := by
    rw [← sm.p, ← sm.w, ← sm.k, ← sm.g, ← sm.b]
    exact I1.env0
  have rc : codeAny (model X.prog X.w) Z.A (.call (.ref f) ⟨[], []⟩) (CR (L2N.CX X.prog X.w) Z.stack X.prog X.w HZ s1 Q E) s1 := by
    refine PySem.W.kla_callFunE hr.depth of1 rfl lo.s.co lo.s.gen rfl ⟨c', oc, vs, t, rfl, hoc, hdc, hvc⟩ ?_
    rw [lo.b]
    refine wpAny_pure (wpAny_newFunctionEnv (fun y hy => (lo.s.own y hy).2) (fun y hy => absurd hy (by simp)) (fun h₁ hns hsb => ⟨IX.nolimit.fresh _ hsb, ?_⟩) lo.s.kind)
    show codeAny _ _ (.expr l.body (LamX.lamEnv X l.scope s1.heap.objs.size f c')) _ _
    have kp : ∀ b o, s1.heap.get? b = some o → h₁.get? b = some o := fun b o e => hsb.extBut b o (Nat.ne_of_lt (Heap.lt_size e)) (Heap.get?_push_of_some _ e)
    have J0 : Inv (LamX.lamCx X Z.A Z.stack s1 HZ E l.scope f c') [] σ HZ { s1 with heap := h₁, toks := s1.toks + ([] : List (Str × Value)).length } := LamX.lam_start2 IX lo.s e0 hr.hd Un.refl hns kp
    have J : Inv (lamN X Z.A Z.stack s1 HZ E l.scope f c') [] σ HZ { s1 with heap := h₁, toks := s1.toks + ([] : List (Str × Value)).length } := Inv.unwish (X := lamN X Z.A Z.stack s1 HZ E l.scope f c') (E := (LamX.lamCx X Z.A Z.stack s1 HZ E l.scope f c').xe) J0
    refine PySem.W.kla_codeExpr (wpAny_mono ((hbody _ _ s1 HZ (hr.deeper _)).run [] _ _ HZ Q J ht) (fun v s' hq => ?_) fun e s' hq => hq)
    obtain ⟨w', H', J', rv, q⟩ := hq
    exact ⟨w', H', J'.os, J'.bare, J'.base, J'.hok, rv, q⟩
  rw [sm.p, sm.w]
  refine wpAny_call (codeAny_mono rc fun r s' hq => ?_)
  cases r with
  | error e =>
    refine L2N.passes_call tk hW _ _ _ _ _ _ I1 ?_
    rw [sm.p, sm.w]
    exact hq
  | ok fl =>
    cases fl with
    | ret u =>
      refine I1.after ?_
      rw [sm.p, sm.w]
      exact hq
    | next => exact False.elim hq
    | brk => exact False.elim hq
    | cont => exact False.elim hq
/-! ### _law_told -/
def chkTold (sc : Scope) (wd : Str) : List Stmt → Bool
  | [.Try [.Return (some (.Call (.Name d _) [] [] _)) _] [.ExceptHandler (some (.Name ne _)) (some e) [.Return (some (.Call (.Name w _) [.Name e2 _] [] _)) _] _] [] [] _] =>
    decide (d = "deed") && decide (ne = "NumeralError") && decide (e = "e") && decide (e2 = "e") && decide (w = wd) && okX wd && sLc sc "deed" && sLc sc "e" && sGl sc "NumeralError" && sGl sc wd
  | _ => false
/-- what is made of a refusal -/
def toldE (K : PySem.W.Frag) (T : List (Addr × Str)) (ws : List Str) (Q : VK) : XK := fun cls d H' => ∃ c ∈ ws, cls = .ref (He.ga K c) ∧ d = none ∧ ∀ H2, Ext T H' H2 → Q (.str (wordOf ws c)) H2
theorem takesN1 {X : Cx} : L2N.Takes X (fun _ _ _ _ => False) := fun u s' x => by
  obtain ⟨_, _, _, _, _, _, _, _, _, _, _, _, _, _, _, _, z⟩ := x
  exact z.elim
theorem told_body {Y : Cx} {T : List (Addr × Str)} {ws : List Str} {wd : Str} {f wf : Addr} {k : Nat} {params : Arguments} {wbody body : List Stmt} {wsc : Scope} {fd : FuncData} {tl : XK → Hp → VK → Prop} (eN : Y.N = (["deed", "e"] : List Str)) (hs : Y.stack = Y.env :: Y.outer) (hf : Y.env.frame = some Y.env.locals)
    (tk : ToldK Y.K Y.mg ws) (td : TopD Y.K Y.mg wd ["e", "flags", "flag"] ["e"] params wbody wsc wf fd) (hw : chkWord wsc ws wbody = true) (hr : L2H.RoomH (k + 1) Y.A) (h : chkTold Y.env.scope wd body = true)
    (act : ∀ (W : WX) (pn : List (Addr × Obj)) (xe : Value → Shared → Prop) (E : XK) (p1 p2 : Pos), L2N.Takes (Y.tr pn xe) W → (∀ cls d σ' H', E cls d H' → W cls d σ' H') → PE (Y.tr pn xe) (.Call (.Name "deed" p1) [] [] p2) (fun σZ HZ Q => σZ[0]? = some (some (.ref f)) ∧ tl E HZ Q)) :
    PSs Y body (fun Ed σ H => σ[0]? = some (some (.ref f)) ∧ tl (toldE Y.K T ws Ed.rt) H Ed.rt) := by
  unfold chkTold at h
  split at h
  · rename_i d q1 q2 q3 ne q4 e w q5 e2 q6 q7 q8 q9 q10
    simp only [Bool.and_eq_true, decide_eq_true_eq] at h
    obtain ⟨⟨⟨⟨⟨⟨⟨⟨⟨rfl, rfl⟩, rfl⟩, rfl⟩, rfl⟩, hok⟩, l1⟩, l2⟩, g1⟩, g2⟩ := h
    unfold okX at hok
    simp only [Bool.and_eq_true, Bool.not_eq_true'] at hok
    have nd : Y.N.Nodup := by rw [eN]; decide
    have i1 : Y.N[1]? = some ("e" : Str) := by rw [eN]; rfl
    have main := L2N.ps_try_as (X := Y) (x := "NumeralError") (n := "e") (c := .ref (He.ga Y.K "NumeralError")) (i := 1) (np := q4) (pos := q10) (pos' := q9) (Wout := fun _ _ _ _ => False)
      (tb := fun W Ed σ H => ∃ E : XK, (∀ cls d σ' H', E cls d H' → W cls d σ' H') ∧ σ[0]? = some (some (.ref f)) ∧ tl E H Ed.rt)
      (ts := fun a cls d Ed σ H => (σ.length = 2 → σ[1]? = some (some (.ref a))) ∧ toldE Y.K T ws Ed.rt cls d H)
      hs hf nd i1 (sLc_of l2) ⟨sGl_of g1, by decide, .inl tk.ne⟩ takesN1
      (body := [.Return (some (.Call (.Name "deed" q1) [] [] q2)) q3]) (b₀ := .Return (some (.Call (.Name w q5) [.Name "e" q6] [] q7)) q8) (suite := [])
      (fun W pn xe tkW _ => ⟨fun pins s σ H Ed I hh => ?_⟩) (fun a oe cls d pn hz hdat => ⟨fun pins s σ H Ed I hh => ?_⟩)
    · refine pss_one ⟨fun pins s σ H Ed I hh => main.run pins s σ H Ed I ⟨toldE Y.K T ws Ed.rt, fun cls d σ' H' hE => ?_, hh.1, hh.2⟩⟩
      obtain ⟨c, hc, rfl, rfl, hq⟩ := hE
      exact ⟨true, tk.exm c hc, fun _ a ha => ⟨fun hl => by rw [List.getElem?_set_self (by rw [List.length_set] at hl; omega)], c, hc, rfl, rfl, hq⟩, fun z => by cases z⟩
    · obtain ⟨E, hE, h0, ht⟩ := hh
      exact (pss_one (ps_ret (pos := q3) (act W pn xe E q1 q2 tkW hE))).run pins s σ H Ed I ⟨h0, ht⟩
    · obtain ⟨h1, c, hc, rfl, rfl, hq⟩ := hh
      have hl : σ.length = 2 := by
        have z : σ.length = Y.N.length := I.len
        rw [eN] at z
        exact z
      exact (pss_one (ps_ret (pos := q8) (pe_word (X := Y) (T := T) (p1 := q5) (p2 := q6) (p3 := q7) tk hc td hw hz hdat hr (sGl_of g2) hok.1 i1 (.inl (sLc_of l2)) (by decide) (by decide)))).run pins s σ H Ed I ⟨h1 hl, hq⟩
  · cases h
/-- what the def that tells stands on -/
structure ToldD (K : PySem.W.Frag) (mg : Str → Option Value) (ws : List Str) (x : Str) (g : Addr) : Prop where
  tk : ToldK K mg ws
  ex : ∃ (wd : Str) (wf : Addr) (params params' : Arguments) (wbody body : List Stmt) (wsc sc : Scope) (fd fd' : FuncData), TopD K mg wd ["e", "flags", "flag"] ["e"] params wbody wsc wf fd ∧ chkWord wsc ws wbody = true ∧ TopD K mg x ["deed", "e"] ["deed"] params' body sc g fd' ∧ chkTold sc wd body = true
theorem told_run {B X : Cx} {T : List (Addr × Str)} {ws : List Str} {x : Str} {g f c' : Addr} {l : Lam} {k : Nat} {pB pins : List (Addr × Obj)} {σB σ : L2.St} {HB : Hp} {sB : Shared} {Q : VK} {t : XK → TE} (TD : ToldD B.K B.mg ws x g) (sm : Same B X) (IB : Inv B pB σB HB sB) (over : ∀ H' s', Inv B pB σB H' s' → Inv X pins σ H' s') (lo : LamOk X l) (hfo : HB f = some (LamO X l f c'))
    (hc : HB c' = some (LamX.CodeO c' (X.env.qual ++ "<lambda>"))) (hr : Room (k + 2) B.A) (hbody : ∀ (A : Around) (outer : List Env) (s : Shared) (H : Hp) (E : XK) (f c' : Addr), Room k (A.deeper (LamX.lamEnv X l.scope s.heap.objs.size f c')) → PE (lamN X A outer s H E l.scope f c') l.body (t E))
    (h : t (toldE B.K T ws Q) σ HB Q) : wpAny (model B.prog B.w) B.A (call (.ref g) [.ref f]) (EP B pB σB Q) B.xe sB := by
  obtain ⟨wd, wf, params, params', wbody, body, wsc, sc, fd, fd', td, hw, tg, hb⟩ := TD.ex
  obtain ⟨oc, od, dV, kV, doc, pm', an, cdv, ct, osl, rfl, lk, hcd, _, _⟩ := tg.F.ex
  have rc : codeAny (model B.prog B.w) B.A (.call (.ref g) ⟨[.ref f], []⟩) (CR (L2N.CX B.prog B.w) B.stack B.prog B.w HB sB Q (fun _ _ _ => False)) sB := by
    refine LamX.run_ofS (N := ["deed", "e"]) (ps := ["deed"]) (us := [.ref f]) (vs := [.ref f]) lk hcd tg.S hr IB.env0 (tg.b sB [.ref f] IB.kIn rfl) (.cons rfl .nil) rfl fun hr' => ?_
    refine ⟨_, told_body (Y := cxOf (L2N.CX B.prog B.w) B.prog B.w B.K B.mg B.base ["deed", "e"] x sc g cdv B.A B.stack sB HB (fun _ _ _ => False)) (T := T) (f := f) (k := k) (tl := fun E HZ Q => HZ f = some (LamO X l f c') ∧ HZ c' = some (LamX.CodeO c' (X.env.qual ++ "<lambda>")) ∧ t E σ HZ Q) rfl rfl rfl TD.tk td hw (L2H.roomH_of hr') hb
      (fun W pn xe E p1 p2 tkW hE => pe_actN (sm := ⟨sm.p, sm.w, sm.k, sm.g, sm.b⟩) (i := 0) (fun pZ σZ HZ sZ IZ => over HZ sZ (IB.call' (ch := []) IZ.os IZ.base IZ.hok IZ.bare (fun b z => nomatch z))) lo tkW hE hr' (fun A outer s H hr2 => hbody A outer s H E f c' hr2) rfl ?_ (by decide) (by decide)), rfl, hfo, hc, h⟩
    · have hb2 := hb
      unfold chkTold at hb2
      split at hb2
      · simp only [Bool.and_eq_true] at hb2
        exact .inl (sLc_of hb2.1.1.1.2)
      · cases hb2
  refine wpAny_call (codeAny_mono rc fun q s' hq => ?_)
  cases q with
  | error e =>
    obtain ⟨_, _, _, _, _, _, _, _, _, _, _, _, z⟩ := (show L2N.CX B.prog B.w _ _ _ _ e s' from hq)
    exact z.elim
  | ok fl =>
    cases fl with
    | ret u => exact IB.after hq
    | next => exact False.elim hq
    | brk => exact False.elim hq
    | cont => exact False.elim hq
end DN

set_option Elab.async false
set_option linter.all false
set_option maxRecDepth 100000
set_option maxHeartbeats 2000000
namespace DN
open PySem PySem.Spec PyProof.Rows L2 HotX
/-! ### a lambda as a value -/
def TabX (X : Cx) (T : List (Addr × Str)) : Prop := ∃ c P, LamX.TabB X.base X.mg c P ∧ X.env.code = .ref c ∧ (P, X.env.qual ++ "<lambda>") ∈ T ∧ ∀ p ∈ T, p.1 = P → p.2 = X.env.qual ++ "<lambda>"
def tLamV (X : Cx) (T : List (Addr × Str)) (l : Lam) : TE := fun σ H Q => LamX.Tabs T H ∧ ∀ f c' H1, Ext T H H1 → H f = none → H1 f = some (LamO X l f c') → H1 c' = some (LamX.CodeO c' (X.env.qual ++ "<lambda>")) → Q (.ref f) H1
theorem pe_lam {X : Cx} {T : List (Addr × Str)} {l : Lam} {pos : Pos} (tb : TabX X T) (lo : LamOk X l) : PE X (.Lambda l.params l.body l.scope pos) (tLamV X T l) := by
  obtain ⟨c, P, TB, hcode, hm, hu⟩ := tb
  refine ⟨fun pins s σ H Q I h => ?_⟩
  obtain ⟨hT, h⟩ := h
  obtain ⟨ps, hP, ht, ha⟩ := hT _ hm
  refine PySem.W.kla_eval lo.d ?_
  have clo := closure_ok (lo.s.has I.ok)
  have bP : s.heap.BuiltinsAt X.mg P := TB.bm.keeps I.bk
  have hP' : s.heap.get? P = some { cls := .none, data := .fields ps } := I.hok P _ hP
  cases hc : codeAmong pos ps.toList with
  | none =>
    refine PySem.W.kla_makeFunction (mg := X.mg) (c := c) (P := P) (ps := ps) clo I.ok.glob (I.mod.glob.keeps I.bk) hcode (TB.code.keeps I.bk) hP' ht hc TB.gP bP fun c' ctv h2 tk hx hge hlt hrec htb => ?_
    obtain ⟨c2, oc, vs, t, ec, hoc, hd, hv⟩ := hrec
    cases ec
    have hsz : s.heap.objs.size ≤ h2.objs.size := Nat.le_trans hge (Nat.le_of_lt hlt)
    have nC : H c' = none := I.hok.fresh hge
    have I0 := LamX.inv_table (t' := s.toks) (more := #[rawInt pos.line, rawInt pos.col, .ref c']) (h' := h2) I hP (fun b o hb e => hx b o hb e) htb hge ⟨oc, vs, t, hoc, hd, hv⟩
    generalize hH0 : upd (upd H P (.tbl (ps ++ #[rawInt pos.line, rawInt pos.col, .ref c']))) c' (LamX.CodeO c' (X.env.qual ++ "<lambda>")) = H0 at I0
    have cH0 : H0 c' = some (LamX.CodeO c' (X.env.qual ++ "<lambda>")) := by rw [← hH0, upd_same]
    have nF0 : H0 h2.objs.size = none := I0.hok.fresh (Nat.le_refl _)
    have I1 := I0.laid (t' := tk) (a := h2.objs.size) (h' := h2.push (lamObj X l ((X.mg "__name__").getD .none) c' ctv)) (fun b o e => Heap.get?_push_of_some _ e) (Nat.le_refl _) (lamO_ok (X := X) (l := l) (c' := c') (Heap.get?_push_size _ rfl))
    have hE : LamX.ExtN H H0 := fun b o e n => by
      rw [← hH0, upd_ne (ne_of_none e nC), upd_ne (fun z => n ps (Option.some.inj (e.symm.trans (by rw [z]; exact hP))))]
      exact e
    have eL : (ps ++ #[rawInt pos.line, rawInt pos.col, .ref c']).toList = ps.toList ++ [rawInt pos.line, rawInt pos.col, .ref c'] := by simp
    have tb0 : LamX.Tabs T H → LamX.Tabs T H0 := fun hT p hp => by
      by_cases hb : p.1 = P
      · rw [hu p hp hb, hb]
        refine ⟨_, by rw [← hH0, upd_ne (ne_of_none hP nC), upd_same], by rw [eL]; exact PySem.TriplesOk_snoc _ _ _ _ ht, fun p' cv hcv => ?_⟩
        rw [eL] at hcv
        rcases LamX.among_app _ ht hcv with z | z
        · obtain ⟨c0, e1, e2⟩ := ha p' cv z
          exact ⟨c0, e1, hE _ _ e2 LamX.codeO_ne⟩
        · exact ⟨c', z, cH0⟩
      · obtain ⟨ps', a1, a2, a3⟩ := hT p hp
        refine ⟨ps', by rw [← hH0, upd_ne (ne_of_none a1 nC), upd_ne hb]; exact a1, a2, fun p' cv hcv => ?_⟩
        obtain ⟨c0, e1, e2⟩ := a3 p' cv hcv
        exact ⟨c0, e1, hE _ _ e2 LamX.codeO_ne⟩
    exact ⟨.ref h2.objs.size, _, I1, rfl, h h2.objs.size c' _ ((show Ext T H H0 from ⟨hE, tb0⟩).trans (Ext.new nF0)) (I.hok.fresh hsz) upd_same (by rw [upd_ne (ne_of_none cH0 nF0)]; exact cH0)⟩
  | some cv =>
    obtain ⟨c', rfl, hco⟩ := ha pos cv hc
    refine PySem.W.kla_makeFunctionHit (mg := X.mg) (c := c) (P := P) (ps := ps) clo I.ok.glob (I.mod.glob.keeps I.bk) hcode (TB.code.keeps I.bk) hP' ht hc bP fun ctv h2 tk hx hsz => ?_
    have nF0 : H h2.objs.size = none := I.hok.fresh hsz
    have I1 := I.laid (t' := tk) (a := h2.objs.size) (h' := h2.push (lamObj X l ((X.mg "__name__").getD .none) c' ctv)) (fun b o e => Heap.get?_push_of_some _ (hx b o e)) hsz (lamO_ok (X := X) (l := l) (c' := c') (Heap.get?_push_size _ rfl))
    exact ⟨.ref h2.objs.size, _, I1, rfl, h h2.objs.size c' _ (Ext.new nF0) nF0 upd_same (by rw [upd_ne (ne_of_none hco nF0)]; exact hco)⟩
/-! ### results told -/
/-- what a lambda's body says -/
def BodyOk (X : Cx) (T : List (Addr × Str)) (k : Nat) (l : Lam) (f : En → Rs D) : Prop := ∀ (A : Around) (outer : List Env) (s : Shared) (H : Hp) (E : XK) (g c' : Addr), Room k (A.deeper (LamX.lamEnv X l.scope s.heap.objs.size g c')) → PE (lamN X A outer s H E l.scope g c') l.body (trC X.K T (fun cls d _ H => E cls d H) f)
theorem told_safe {K : PySem.W.Frag} {T : List (Addr × Str)} {ws : List Str} {r : Rs D} {d : D} {Q : VK} {H : Hp} {N : Hid} {σ : L2.St} (cps : ∀ w ∈ ws, (∀ k ∈ w.cps.toList, k < 0x110000) ∧ w.cps.toList.length ≤ sizeLine) (h : toldR ws r = .ok d) (k : ∀ v H', Ext T H H' → Rp K H' N v d → Q v H') :
    Safe K T (fun cls d _ H => toldE K T ws Q cls d H) r H σ ∧ ∀ d', r = .ok d' → ∀ v H', Ext T H H' → Rp K H' N v d' → Q v H' := by
  cases r with
  | ok d' =>
    cases h
    exact ⟨safe_ok rfl, fun d' e => by cases e; exact k⟩
  | bad => cases h
  | exc c =>
    have h : (if c ∈ ws then Rs.ok (D.str c.cps.toList) else Rs.bad) = .ok d := h
    by_cases hc : c ∈ ws
    · rw [if_pos hc] at h
      cases h
      refine ⟨⟨(fun z => by cases z), fun c' e H' e1 => ?_⟩, fun d' e => by cases e⟩
      cases e
      refine ⟨c, hc, rfl, rfl, fun H2 e2 => k _ H2 (e1.trans e2) ?_⟩
      unfold wordOf
      rw [if_pos hc]
      exact .str c.cps.toList (cps c hc).1 (cps c hc).2
    · rw [if_neg hc] at h
      cases h
def toldF (ws : List Str) (f : En → Rs D) : En → Rs D := fun ρ => toldR ws (f ρ)
/-- _law_told(lambda: ..) -/
theorem x_told {X : Cx} {T : List (Addr × Str)} {W : WX} {ws : List Str} {x : Str} {g : Addr} {l : Lam} {k : Nat} {f : En → Rs D} {p lpos pos : Pos} (TD : ToldD X.K X.mg ws x g) (hm : X.mg x = some (.ref g)) (hkp : PySem.W.keepIn X.K (.ref g) = true) (hg : Gl X x) (hdb : (x == ("__debug__" : Str)) = false) (tb : TabX X T) (lo : LamOk X l) (hr : Room (k + 2) X.A) (hb : BodyOk X T k l f) :
    PE X (.Call (.Name x p) [.Lambda l.params l.body l.scope lpos] [] pos) (trC X.K T W (toldF ws f)) := by
  refine ⟨fun pins s σ H Q I h => ?_⟩
  obtain ⟨H0, N0, pn, N, ρ, rep, sf, k⟩ := h
  refine wpAny_Call_Name_kw (ld_glob I hg hm ?_ hdb)
  refine PySem.W.callWith_K (h₀ := X.base) I.ok.mod.kin hkp (thn ((pa_cons (pe_lam (pos := lpos) tb lo) pa_nil).run pos pins s σ H (fun vs H1 => ∃ f c', vs = [.ref f] ∧ Ext T H H1 ∧ H1 f = some (LamO X l f c') ∧ H1 c' = some (LamX.CodeO c' (X.env.qual ++ "<lambda>"))) I ⟨rep.tabs, fun f c' H1 e _ h1 h2 => ⟨f, c', rfl, e, h1, h2⟩⟩) fun us s1 ⟨vs, H1, I1, r, f', c', ev, e1, h1, h2⟩ => ⟨I1.kIn, ?_⟩) rfl rfl
  subst ev
  have hu := Vals.ref1 r
  subst hu
  cases q : toldF ws f ρ with
  | bad => exact absurd q sf.1
  | exc c =>
    exfalso
    unfold toldF toldR at q
    split at q
    · cases q
    · split at q <;> cases q
    · cases q
  | ok d =>
    obtain ⟨z1, z2⟩ := told_safe (σ := σ) (N := N) TD.tk.cps q fun v H' e r => k d q v H' (e1.trans e) r
    exact told_run (T := T) (t := fun E => trC X.K T (fun cls d _ H => E cls d H) f) TD ⟨rfl, rfl, rfl, rfl, rfl⟩ I1 (fun H' s' i => i) lo h1 h2 hr hb ⟨H0, N0, pn, N, ρ, rep.grow e1, z1, z2⟩
end DN

set_option Elab.async false
set_option linter.all false
set_option maxRecDepth 100000
set_option maxHeartbeats 2000000
namespace DN
open PySem PySem.Spec PyProof.Rows L2 HotX
/-! ### _law_all -/
def chkAll (sc : Scope) (td : Str) : List Stmt → Bool
  | [.Return (some (.ListComp (.Call (.Name t _) [.Name d1 _] [] _) [⟨.Name d2 _, .Name ds _, [], n0⟩] scope _)) _] =>
    decide (t = td) && decide (d1 = "deed") && decide (d2 = "deed") && decide (ds = "deeds") && decide (n0 = 0) && okX td && sLc sc "deeds" && blkC ["deeds", "deed"] sc scope [("deed", 1)] && sGl (relS scope sc) td && sLc (relS scope sc) "deed"
  | _ => false
structure AllD (K : PySem.W.Frag) (mg : Str → Option Value) (ws : List Str) (x : Str) (g : Addr) : Prop where
  ex : ∃ (td : Str) (tf : Addr) (params : Arguments) (body : List Stmt) (sc : Scope) (fd : FuncData), ToldD K mg ws td tf ∧ mg td = some (.ref tf) ∧ PySem.W.keepIn K (.ref tf) = true ∧ TopD K mg x ["deeds", "deed"] ["deeds"] params body sc g fd ∧ chkAll sc td body = true
/-- a lambda that was made -/
structure LamD where
  l : Lam
  f : Addr
  c : Addr
  fn : En → Rs D
def LamD.at (X : Cx) (H : Hp) (q : LamD) : Prop := H q.f = some (LamO X q.l q.f q.c) ∧ H q.c = some (LamX.CodeO q.c (X.env.qual ++ "<lambda>"))
theorem LamD.at_ext {X : Cx} {T : List (Addr × Str)} {H H' : Hp} {q : LamD} (h : q.at X H) (e : Ext T H H') : q.at X H' := ⟨e.1 _ _ h.1 lamO_ne, e.1 _ _ h.2 LamX.codeO_ne⟩
theorem tolds_at {ws : List Str} {ρ : En} : ∀ {fs : List (En → Rs D)} {ds : List D}, tolds ws ρ fs = .ok ds → ds.length = fs.length ∧ ∀ (i : Nat) (f : En → Rs D), fs[i]? = some f → ∃ d, ds[i]? = some d ∧ toldR ws (f ρ) = .ok d
  | [], ds, h => by
    cases h
    exact ⟨rfl, fun i f e => by simp at e⟩
  | f :: fs, ds, h => by
    unfold tolds at h
    cases q : toldR ws (f ρ) with
    | ok d =>
      rw [q] at h
      cases q2 : tolds ws ρ fs with
      | ok l =>
        rw [q2] at h
        cases h
        obtain ⟨h1, h2⟩ := tolds_at q2
        refine ⟨by simp [h1], fun i g e => ?_⟩
        cases i with
        | zero =>
          simp at e
          subst e
          exact ⟨d, rfl, q⟩
        | succ i => exact h2 i g (by simpa using e)
      | exc c => rw [q2] at h; cases h
      | bad => rw [q2] at h; cases h
    | exc c => rw [q] at h; cases h
    | bad => rw [q] at h; cases h
theorem all_run {X : Cx} {T : List (Addr × Str)} {ws : List Str} {x : Str} {g a : Addr} {k : Nat} {ls : List LamD} {ds : List D} {pins : List (Addr × Obj)} {σ : L2.St} {H H0 : Hp} {s : Shared} {N0 N : Hid} {pn : List (V × D)} {ρ : En} {Q : VK} (AD : AllD X.K X.mg ws x g) (I : Inv X pins σ H s) (hr : Room (k + 3) X.A) (rep : Rep X.K T H0 N0 pn H N σ ρ)
    (ha : H a = some (.lst (ls.map fun q => V.ref q.f))) (hl : ∀ q ∈ ls, q.at X H) (lo : ∀ q ∈ ls, LamOk X q.l ∧ BodyOk X T k q.l q.fn) (ht : tolds ws ρ (ls.map LamD.fn) = .ok ds) (hk : ∀ v H', Ext T H H' → Rp X.K H' N v (.lst ds) → Q v H') :
    wpAny (model X.prog X.w) X.A (call (.ref g) [.ref a]) (EP X pins σ Q) X.xe s := by
  obtain ⟨td, tf, params, body, sc, fd, TD, mt, kt, ta, hb⟩ := AD.ex
  obtain ⟨oc, od, dV, kV, doc, pm', an, cdv, ct, osl, rfl, lk, hcd, _, _⟩ := ta.F.ex
  obtain ⟨dl, dt⟩ := tolds_at ht
  rw [List.length_map] at dl
  have hlz : ls.length ≤ sizeLine := by
    have := (I.hok a _ ha).1
    simpa using this
  unfold chkAll at hb
  split at hb
  · rename_i t q1 d1 q2 q3 d2 q4 dsn q5 n0 scope q6 q7
    simp only [Bool.and_eq_true, decide_eq_true_eq] at hb
    obtain ⟨⟨⟨⟨⟨⟨⟨⟨⟨rfl, rfl⟩, rfl⟩, rfl⟩, rfl⟩, hok⟩, l1⟩, hblk⟩, g1⟩, l2⟩ := hb
    unfold okX at hok
    simp only [Bool.and_eq_true, Bool.not_eq_true'] at hok
    have rc : codeAny (model X.prog X.w) X.A (.call (.ref g) ⟨[.ref a], []⟩) (CR (L2N.CX X.prog X.w) X.stack X.prog X.w H s Q (fun _ _ _ => False)) s := by
      refine LamX.run_ofS (N := ["deeds", "deed"]) (ps := ["deeds"]) (us := [.ref a]) (vs := [.ref a]) lk hcd ta.S hr I.env0 (ta.b s [.ref a] I.kIn rfl) (.cons rfl .nil) rfl fun hr2 => ?_
      generalize hY : cxOf (L2N.CX X.prog X.w) X.prog X.w X.K X.mg X.base ["deeds", "deed"] x sc g cdv X.A X.stack s H (fun _ _ _ => False) = Y
      have sm : Same Y X := by subst hY; exact ⟨rfl, rfl, rfl, rfl, rfl⟩
      have eN : Y.N = (["deeds", "deed"] : List Str) := by subst hY; rfl
      have eS : Y.env.scope = sc := by subst hY; rfl
      have hr3 : Room (k + 2) Y.A := by subst hY; exact hr2
      have over1 : ∀ pY σY HY sY, Inv Y pY σY HY sY → Inv X pins σ HY sY := fun pY σY HY sY IY => by
        subst hY
        exact I.call' (ch := []) IY.os IY.base IY.hok IY.bare (fun b z => nomatch z)
      have nd : Y.N.Nodup := by rw [eN]; decide
      have pe : PE Y (.ListComp (.Call (.Name t q1) [.Name "deed" q2] [] q3) [⟨.Name "deed" q4, .Name "deeds" q5, [], 0⟩] scope q6) (fun σY HY Q => σY[0]? = some (some (.ref a)) ∧ HY = H ∧ ∀ v H', Ext T H H' → Rp X.K H' N v (.lst ds) → Q v H') := by
        refine ⟨fun pY sY σY HY Q IY hh => ?_⟩
        obtain ⟨h0, rfl, hk⟩ := hh
        have ok : BlkOk Y.N Y.env.scope scope [("deed", 1)] := by rw [eN, eS]; exact blkOk_by hblk
        refine lcG (own := [("deed", 1)]) (g := gName 1) (ti := tVar 0) (te := fun σB HB Q => ∃ q ∈ ls, σB[1]? = some (some (.ref q.f)) ∧ q.at X HB ∧ trC X.K T (fun cls d _ H => toldE X.K T ws Q cls d H) q.fn σ HB Q) nd IY
          (pe_var (by rw [eN]; rfl) (.inl (by rw [eS]; exact sLc_of l1))) ok (fun H' s' I' => .inl (I'.ok.hd (by subst hY; rfl)))
          (fun s H C cl fp => pg_name nd (by show Y.N[1]? = _; rw [eN]; rfl) (.inl ?_) (.inr ?_))
          (fun sb Hb C cl fp ov => ⟨fun pB sB σB HB Q IB h => ?_⟩) (fun _ => rfl) ⟨.ref a, h0, a, _, rfl, .inl (.inl ha), fun Dd hD => ?_⟩
        · show (relS scope Y.env.scope).names.lookup _ = _
          rw [eS]
          exact sLc_of l2
        · show (relS scope Y.env.scope).names.lookup _ = _
          rw [eS]
          exact sLc_of l2
        · obtain ⟨q, hq, h1, hat, htr⟩ := h
          have smB : Same (Y.blk sb Hb scope (compEnvC scope cl C Y.env) fp) X := ⟨sm.p, sm.w, sm.k, sm.g, sm.b⟩
          have hgl : Gl (Y.blk sb Hb scope (compEnvC scope cl C Y.env) fp) t := by
            show (relS scope Y.env.scope).names.lookup _ = _
            rw [eS]
            exact sGl_of g1
          have hvd : Vis (Y.blk sb Hb scope (compEnvC scope cl C Y.env) fp).env.scope "deed" := by
            show Vis (relS scope Y.env.scope) "deed"
            rw [eS]
            exact .inl (sLc_of l2)
          have mtB : (Y.blk sb Hb scope (compEnvC scope cl C Y.env) fp).mg t = some (.ref tf) := by
            show Y.mg t = _
            rw [sm.g]
            exact mt
          have ktB : PySem.W.keepIn (Y.blk sb Hb scope (compEnvC scope cl C Y.env) fp).K (.ref tf) = true := by
            show PySem.W.keepIn Y.K (.ref tf) = true
            rw [sm.k]
            exact kt
          have TDB : ToldD (Y.blk sb Hb scope (compEnvC scope cl C Y.env) fp).K (Y.blk sb Hb scope (compEnvC scope cl C Y.env) fp).mg ws t tf := by
            show ToldD Y.K Y.mg ws t tf
            rw [sm.k, sm.g]
            exact TD
          refine wpAny_Call_Name_kw (ld_glob (X := Y.blk sb Hb scope (compEnvC scope cl C Y.env) fp) IB hgl mtB ?_ hok.1)
          refine PySem.W.callWith_K (h₀ := Y.base) IB.ok.mod.kin ktB (thn ((pa_cons (pe_var (X := Y.blk sb Hb scope (compEnvC scope cl C Y.env) fp) (pos := q2) (i := 1) (by show Y.N[1]? = _; rw [eN]; rfl) hvd) pa_nil).run q3 pB sB σB HB (fun vs H1 => vs = [.ref q.f] ∧ H1 = HB) IB ⟨.ref q.f, h1, rfl, rfl⟩) fun us s1 ⟨vs, H1, I1, r, ev, eH⟩ => ⟨I1.kIn, ?_⟩) rfl rfl
          subst ev
          rw [eH] at I1
          have hu := Vals.ref1 r
          subst hu
          obtain ⟨lo1, lo2⟩ := lo q hq
          refine told_run (B := Y.blk sb Hb scope (compEnvC scope cl C Y.env) fp) (T := T) (t := fun E => trC X.K T (fun cls d _ H => E cls d H) q.fn) TDB smB I1 (fun H' s' i => over1 _ _ _ _ (ov _ _ _ _ i)) lo1 hat.1 hat.2 hr3 lo2 ?_
          show trC X.K T (fun cls d _ H => toldE Y.K T ws Q cls d H) q.fn σ HB Q
          rw [sm.k]
          exact htr
        · have hsz : (sizeLine : Nat) = szL := sizeLine_eq
          refine ⟨fun i H' => Ext T HY H' ∧ ∃ acc, H' Dd = some (.lst acc) ∧ acc.length = i ∧ RpAll X.K H' (Nu N Dd) acc (ds.take i), ⟨Ext.new hD, [], upd_same, rfl, .nil⟩, fun i H' _ p => .inl (.inl (p.1.1 _ _ ha (fun _ z => nomatch z))), fun i xv H' hx p => ?_, fun H' p => ?_⟩
          · obtain ⟨e1, acc, hacc, la, ra⟩ := p
            rw [List.getElem?_map, Option.map_eq_some_iff] at hx
            obtain ⟨q, hq, rfl⟩ := hx
            have hi : i < ls.length := (List.getElem?_eq_some_iff.mp hq).1
            have hqm : q ∈ ls := List.mem_of_getElem? hq
            obtain ⟨d, hd1, hd2⟩ := dt i q.fn (by rw [List.getElem?_map, hq]; rfl)
            have lenY : σY.length = 2 := by
              have z : σY.length = Y.N.length := IY.len
              rw [eN] at z
              exact z
            refine ⟨by simp [wipe], q, hqm, ?_, LamD.at_ext (hl q hqm) e1, ?_⟩
            · rw [List.getElem?_set_self]
              show 1 < (wipe σY [1]).length
              rw [wipe_length, lenY]
              decide
            · have repH : Rep X.K T H0 N0 pn H' (Nu N Dd) σ ρ := rep.moreN (NF.of hD) e1 hacc (fun _ z => nomatch z)
              have kont : ∀ v H4, Ext T H' H4 → Rp X.K H4 (Nu N Dd) v d → ∃ acc, H4 Dd = some (.lst acc) ∧ acc.length < sizeLine ∧ (Ext T HY (upd H4 Dd (.lst (acc ++ [v]))) ∧ ∃ acc', upd H4 Dd (.lst (acc ++ [v])) Dd = some (.lst acc') ∧ acc'.length = i + 1 ∧ RpAll X.K (upd H4 Dd (.lst (acc ++ [v]))) (Nu N Dd) acc' (ds.take (i + 1))) := by
                intro v H4 e4 r4
                have acc4 : H4 Dd = some (.lst acc) := e4.1 _ _ hacc (fun _ z => nomatch z)
                refine ⟨acc, acc4, by omega, ⟨fun b o' hb ho' => ?_, fun t => tabs_upd ((e1.trans e4).2 t) acc4 (fun _ z => nomatch z) (fun _ z => nomatch z)⟩, acc ++ [v], upd_same, by simp [la], ?_⟩
                · rw [upd_ne (ne_of_none hb hD)]
                  exact (e1.trans e4).1 b o' hb ho'
                · rw [List.take_add_one, hd1]
                  exact ((e4.rps ra).append (.cons r4 .nil)).mut (.inr rfl)
              obtain ⟨z1, z2⟩ := told_safe (σ := σ) (N := Nu N Dd) (H := H') (K := X.K) (T := T) TD.tk.cps hd2 kont
              exact ⟨H0, N0, pn, Nu N Dd, ρ, repH, z1, z2⟩
          · obtain ⟨e1, acc, hacc, la, ra⟩ := p
            rw [List.length_map, ← dl, List.take_length] at ra
            have nD : ¬ N Dd := rep.dom.free hD
            exact hk _ H' e1 (.lst ⟨nD, hacc⟩ (ra.anti fun a z => .inl z))
      have ps := pss_one (ps_ret (pos := q7) pe)
      exact ⟨_, ps, rfl, rfl, hk⟩
    refine wpAny_call (codeAny_mono rc fun q s' hq => ?_)
    cases q with
    | error e =>
      obtain ⟨_, _, _, _, _, _, _, _, _, _, _, _, z⟩ := (show L2N.CX X.prog X.w _ _ _ _ e s' from hq)
      exact z.elim
    | ok fl =>
      cases fl with
      | ret u => exact I.after hq
      | next => exact False.elim hq
      | brk => exact False.elim hq
      | cont => exact False.elim hq
  · cases hb
end DN

set_option Elab.async false
set_option linter.all false
set_option maxRecDepth 100000
namespace DN
open PySem PySem.Spec PyProof.Rows L2
/-! ### contexts -/
structure Ctx where
  N : List Str
  sc : Scope
  top : Bool
  fns : Fns
  fnm : List Str
  glos : List (Str × D)
  exs : List Str
  tab : Bool := false
  cel : Str → Bool := fun _ => false
  tn : Str := ""
  an : Str := ""
  ws : List Str := []
def bnames : List Str := ["len", "abs", "max", "min", "sum", "all", "any", "int", "str", "list", "tuple", "range", "zip", "enumerate", "isinstance", "bool", "sorted", "set", "dict", "ValueError"]
/-- an exception class of the program's -/
structure ExcF (K : PySem.W.Frag) (mg : Str → Option Value) (x : Str) : Prop where
  ex : PySem.W.excIn K (He.ga K x) He.veBase "ValueError.__new__" = true
  mg : mg x = some (.ref (He.ga K x))
  kp : PySem.W.keepIn K (.ref (He.ga K x)) = true
  sb : PySem.W.subIn K (.ref (He.ga K x)) (.type "BaseException") = some true
  ty : PySem.W.typeIn K (.ref (He.ga K x)) = some (.type "type")
structure Gk (P : Program) (w : World) (K : PySem.W.Frag) (mg : Str → Option Value) (base : Heap) (A : Around) (T : List (Addr × Str)) (fns : Fns) (fnm : List Str) (glos : List (Str × D)) (exs : List Str) : Prop where
  fn : ∀ (i : Nat) (x : Str) (F : Str × (List D → Rs D)), fnm[i]? = some x → fns[i]? = some F → ∃ (f : Addr) (fd : FuncData) (ps : List Str) (k : Nat), mg x = some (.ref f) ∧ PySem.W.keepIn K (.ref f) = true ∧ Binds K fd ps [] ∧ FnOk P w K mg base (L2N.CX P w) k f fd ps (spOf K T F.2) ∧ Room k A
  blt : ∀ x ∈ bnames, mg x = none
  glo : ∀ (i : Nat) (x : Str) (d : D), glos[i]? = some (x, d) → ∃ v u, mg x = some u ∧ RelV v u ∧ ∀ H N, Rp K H N v d
  exc : ∀ x ∈ exs, ExcF K mg x
  room : A.units + 64 < cLine
theorem takesN0 {X : Cx} : L2N.Takes X (fun _ _ _ _ => False) := fun u s' x => by
  obtain ⟨_, _, _, _, _, _, _, _, _, _, _, _, _, _, _, _, z⟩ := x
  exact z.elim
/-- where lambdas are made and told -/
structure TellX (X : Cx) (T : List (Addr × Str)) (c : Ctx) : Prop where
  tab : TabX X T
  told : ∃ g, ToldD X.K X.mg c.ws c.tn g ∧ X.mg c.tn = some (.ref g) ∧ PySem.W.keepIn X.K (.ref g) = true
  all : c.an ≠ "" → ∃ g, AllD X.K X.mg c.ws c.an g ∧ X.mg c.an = some (.ref g) ∧ PySem.W.keepIn X.K (.ref g) = true
  room : ∃ k, Room (k + 3) X.A ∧ ∀ A', Room k A' → Gk X.prog X.w X.K X.mg X.base A' T c.fns c.fnm c.glos c.exs
structure Cok (X : Cx) (T : List (Addr × Str)) (W : WX) (c : Ctx) : Prop where
  nd : X.N.Nodup
  eN : X.N = c.N
  eS : X.env.scope = c.sc
  calm : X.calm = true
  top : c.top = true → ∀ x, X.fn x = true
  cel : ∀ x, c.cel x = true → X.fn x = true
  tk : L2N.Takes X W
  po : PassesOwn (model X.prog X.w) X.A X.env X.xe
  gk : Gk X.prog X.w X.K X.mg X.base X.A T c.fns c.fnm c.glos c.exs
  tl : c.tab = true → TellX X T c
abbrev Ctx.blk (c : Ctx) (scope : Scope) : Ctx := { c with sc := relS scope c.sc, top := false, tab := false, cel := fun x => scope.names.lookup x == some .cell }
abbrev Ctx.lam (c : Ctx) (scope : Scope) : Ctx := { c with sc := scope, top := false, tab := false, cel := fun _ => false }
theorem Cok.blk {X : Cx} {T : List (Addr × Str)} {W : WX} {c : Ctx} (h : Cok X T W c) (s : Shared) (H : Hp) (scope : Scope) (cl : List (Str × Addr)) (C : Addr) (fp : List Addr) : Cok (X.blk s H scope (compEnvC scope cl C X.env) fp) T W0 (c.blk scope) where
  nd := h.nd
  eN := h.eN
  eS := by
    show relS scope X.env.scope = relS scope c.sc
    rw [h.eS]
  calm := h.calm
  top := fun z => by cases z
  cel := fun _ z => z
  tk := takesN0
  po := PassesOwn.never
  gk := h.gk
  tl := fun z => by cases z
/-! ### the checker -/
mutual
def D.same : D → D → Bool
  | .non, .non => true
  | .bl a, .bl b => a == b
  | .int a, .int b => decide (a = b)
  | .str a, .str b => decide (a = b)
  | .lst a, .lst b => D.sames a b
  | .tup a, .tup b => D.sames a b
  | .dct a, .dct b => D.sameK a b
  | .scr a, .scr b => decide (a = b)
  | _, _ => false
def D.sames : List D → List D → Bool
  | [], [] => true
  | x :: xs, y :: ys => D.same x y && D.sames xs ys
  | _, _ => false
def D.sameK : List (DK × D) → List (DK × D) → Bool
  | [], [] => true
  | (k, x) :: xs, (l, y) :: ys => decide (k = l) && D.same x y && D.sameK xs ys
  | _, _ => false
end
mutual
theorem D.same_eq : ∀ a b : D, D.same a b = true → a = b
  | .non, b, h => by cases b <;> simp [D.same] at h <;> rfl
  | .bl _, b, h => by cases b <;> simp [D.same] at h <;> rw [h]
  | .int _, b, h => by cases b <;> simp [D.same] at h <;> rw [h]
  | .str _, b, h => by cases b <;> simp [D.same] at h <;> rw [h]
  | .lst xs, b, h => by
    cases b <;> simp [D.same] at h
    rw [D.sames_eq _ _ h]
  | .tup xs, b, h => by
    cases b <;> simp [D.same] at h
    rw [D.sames_eq _ _ h]
  | .dct xs, b, h => by
    cases b <;> simp [D.same] at h
    rw [D.sameK_eq _ _ h]
  | .scr _, b, h => by cases b <;> simp [D.same] at h <;> rw [h]
theorem D.sames_eq : ∀ a b : List D, D.sames a b = true → a = b
  | [], [], _ => rfl
  | [], _ :: _, h => by simp [D.sames] at h
  | _ :: _, [], h => by simp [D.sames] at h
  | x :: xs, y :: ys, h => by
    simp [D.sames] at h
    rw [D.same_eq x y h.1, D.sames_eq xs ys h.2]
theorem D.sameK_eq : ∀ a b : List (DK × D), D.sameK a b = true → a = b
  | [], [], _ => rfl
  | [], _ :: _, h => by simp [D.sameK] at h
  | _ :: _, [], h => by simp [D.sameK] at h
  | (k, x) :: xs, (l, y) :: ys, h => by
    simp [D.sameK] at h
    rw [h.1.1, D.same_eq x y h.1.2, D.sameK_eq xs ys h.2]
end
/-- expressions that a test may be -/
def tstE : E → Bool
  | .ife _ _ _ => false
  | .neg _ => false
  | .and a b => tstE a && tstE b
  | .or a b => tstE a && tstE b
  | .not a => tstE a
  | .fin a => tstE a
  | _ => true
def visB (sc : Scope) (x : Str) : Bool := match sc.names.lookup x with
  | some .local => true
  | some .cell => true
  | some .free => true
  | _ => false
def glB (sc : Scope) (x : Str) : Bool := match sc.names.lookup x with
  | some .globalImplicit => true
  | _ => false
def locB (c : Ctx) (x : Str) : Bool := match c.sc.names.lookup x with
  | some .local => true
  | some .cell => c.top || c.cel x
  | _ => false
def okN (x : Str) : Bool := !(x == ("__debug__" : Str)) && !(x == ("__classdict__" : Str))
def nmOk (c : Ctx) (i : Nat) (x : Str) : Bool := decide (c.N[i]? = some x) && visB c.sc x && okN x
def tgOk (c : Ctx) (i : Nat) (x : Str) : Bool := decide (c.N[i]? = some x) && locB c x
def conOk : D → Const → Bool
  | .non, .none => true
  | .bl a, .bool b => a == b
  | .int i, .int j => decide (i = j)
  | .str l, .str x => decide (x = ⟨l.toArray⟩) && l.all (fun c => decide (c < 0x110000)) && decide (l.length ≤ szL)
  | _, _ => false
def notStar : Expr → Bool
  | .Starred _ _ => false
  | _ => true
def notSlice : Expr → Bool
  | .Slice _ _ _ _ => false
  | _ => true
def notSet : Expr → Bool
  | .Set _ _ _ => false
  | _ => true
def plainT : Expr → Bool
  | .UnaryOp _ _ _ => false
  | .BoolOp _ _ _ => false
  | .IfExp _ _ _ _ => false
  | .Compare _ _ _ _ => false
  | _ => true
def namesOf (N : List Str) (is : List Nat) : List (Str × Nat) := is.map fun i => ((N[i]?).getD "", i)
def chkNs (c : Ctx) : List Nat → List Expr → Bool
  | [], [] => true
  | i :: is, .Name x _ :: es => tgOk c i x && chkNs c is es
  | _, _ => false
def chkG (c : Ctx) : Tg → Expr → Bool
  | .nm i, .Name x _ => tgOk c i x
  | .tp is, .Tuple es _ _ => chkNs c is es
  | _, _ => false
def isTup : Expr → Bool
  | .Tuple _ _ _ => true
  | _ => false
def gloOk (c : Ctx) (x : Str) (d : D) : Bool := c.glos.any fun p => decide (p.1 = x) && D.same p.2 d
def conX (d : D) : Expr → Bool
  | .Constant k _ _ => conOk d k
  | .UnaryOp .USub (.Constant (.int i) _ _) _ => (match d with
    | .int j => decide (j = -i)
    | _ => false)
  | _ => false
def chkKv : List (DK × D) → List (Option Expr) → List Expr → Bool
  | [], [], [] => true
  | (k, d) :: ds, some x :: ks, y :: vs => conX (kDd k) x && conX d y && d.flat && chkKv ds ks vs
  | _, _, _ => false
def upB : Expr → Bool
  | .Name _ _ => true
  | _ => false
def noPar : Arguments → Bool
  | ⟨[], [], none, [], [], none, []⟩ => true
  | _ => false
mutual
def chkE (c : Ctx) : E → Expr → Bool
  | .var i, .Name x _ => nmOk c i x
  | .con d, .Constant k _ _ => conOk d k
  | .glo _ d, .Name y _ => glB c.sc y && okN y && gloOk c y d
  | .bin op a b, .BinOp l o r _ => decide (o = op.op) && chkE c a l && chkE c b r
  | .neg a, .UnaryOp .USub x _ => chkE c a x
  | .cmp op a b, .Compare l [o] [r] _ => decide (o = op.op) && chkE c a l && chkE c b r && notSet r
  | .chain o1 o2 a b d, .Compare l [p1, p2] [r, t] _ => decide (p1 = o1.op) && decide (p2 = o2.op) && chkE c a l && chkE c b r && chkE c d t && notSet t
  | .and a r, .BoolOp .And (x :: y :: es) _ => chkE c a x && chkL c .And r (y :: es)
  | .or a r, .BoolOp .Or (x :: y :: es) _ => chkE c a x && chkL c .Or r (y :: es)
  | .not a, .UnaryOp .Not x _ => chkE c a x
  | .ife t a b, .IfExp u x y _ => tstE t && chkE c t u && chkE c a x && chkE c b y
  | .tup es, .Tuple xs _ _ => chkA c es xs
  | .lst es, .List xs _ => chkA c es xs
  | .call f es, .Call (.Name x _) (y :: ys) [] _ => decide (c.fnm[f]? = some x) && decide (f < c.fns.length) && glB c.sc x && okN x && chkA c es (y :: ys)
  | .call f .nil, .Call (.Name x _) [] [] _ => decide (c.fnm[f]? = some x) && decide (f < c.fns.length) && glB c.sc x && okN x
  | .up a, .Call (.Attribute l n p) [] [] q => decide (n = "upper") && chkE c a l && upB l && (p.endLine == q.line)
  | .blt1 b a, .Call (.Name x _) [y] [] _ => decide (x = b.nm) && glB c.sc x && notStar y && chkE c a y
  | .blt2 b a d, .Call (.Name x _) [y, z] [] _ => decide (x = b.nm) && glB c.sc x && notStar y && notStar z && chkE c a y && chkE c d z
  | .isi a t, .Call (.Name x _) [y, .Name z _] [] _ => decide (x = "isinstance") && glB c.sc x && decide (z = t.sn) && glB c.sc z && notStar y && chkE c a y
  | .ix a b, .Subscript l r _ => chkE c a l && chkE c b r && notSlice r
  | .sl a lo hi, .Subscript l (.Slice x y none _) _ => chkE c a l && chkO c lo x && chkO c hi y
  | .mth m a b, .Call (.Attribute l n p) [y] [] q => decide (n = m.nm) && chkE c a l && notStar y && chkE c b y && baseOk l && (p.endLine == q.line)
  | .sset a, .Call (.Name x _) [.Call (.Name y _) [z] [] _] [] _ => decide (x = "sorted") && glB c.sc x && decide (y = "set") && glB c.sc y && notStar z && chkE c a z
  | .lset a, .Call (.Name x _) [.Call (.Name y _) [z] [] _] [] _ => decide (x = "len") && glB c.sc x && decide (y = "set") && glB c.sc y && notStar z && chkE c a z
  | .lzip a b, .Call (.Name x _) [.Call (.Name y _) [u, v] [] _] [] _ => decide (x = "list") && glB c.sc x && decide (y = "zip") && glB c.sc y && notStar u && notStar v && chkE c a u && chkE c b v
  | .told ws e, .Call (.Name x _) [.Lambda ps body scope _] [] _ => c.tab && decide (c.tn = x) && decide (c.ws = ws) && glB c.sc x && okN x && noPar ps && LamX.lamSB c.sc scope && chkE (c.lam scope) e body
  | .dcon ds, .Dict ks vs _ => chkKv ds ks vs && keysNd ds && decide (ds.length ≤ 15) && decide (ds ≠ [])
  | .rev a, .Subscript l (.Slice none none (some (.UnaryOp .USub (.Constant (.int 1) _ _) _)) _) _ => chkE c a l
  | .lrng a b, .Call (.Name x _) [.Call (.Name y _) [u, v] [] _] [] _ => decide (x = "list") && glB c.sc x && decide (y = "range") && glB c.sc y && notStar u && notStar v && chkE c a u && chkE c b v
  | .lrngd a b d, .Call (.Name x _) [.Call (.Name y _) [u, v, w] [] _] [] _ => decide (x = "list") && glB c.sc x && decide (y = "range") && glB c.sc y && notStar u && notStar v && notStar w && chkE c a u && chkE c b v && chkE c d w
  | .lrng1 b, .Call (.Name x _) [.Call (.Name y _) [v] [] _] [] _ => decide (x = "list") && glB c.sc x && decide (y = "range") && glB c.sc y && notStar v && chkE c b v
  | .comp e g it d, .ListComp elt [⟨tg, iter, ifs, 0⟩] scope _ => chkI c it tg iter && notSet iter && blkC c.N c.sc scope (namesOf c.N g.slots) && chkG (c.blk scope) g tg && chkE (c.blk scope) e elt && chkD (c.blk scope) d ifs
  | _, _ => false
def chkA (c : Ctx) : E → List Expr → Bool
  | .nil, [] => true
  | .cons a r, x :: xs => notStar x && chkE c a x && chkA c r xs
  | _, _ => false
def chkL (c : Ctx) : BoolOp → E → List Expr → Bool
  | _, .fin a, [x] => chkE c a x
  | .And, .and a r, x :: y :: es => chkE c a x && chkL c .And r (y :: es)
  | .Or, .or a r, x :: y :: es => chkE c a x && chkL c .Or r (y :: es)
  | _, _, _ => false
def chkO (c : Ctx) : E → Option Expr → Bool
  | .nil, none => true
  | .fin a, some x => chkE c a x
  | _, _ => false
def chkD (c : Ctx) : E → List Expr → Bool
  | .nil, [] => true
  | .fin a, [x] => tstE a && chkE c a x
  | _, _ => false
def chkI (c : Ctx) : E → Expr → Expr → Bool
  | .rng1 a, _, .Call (.Name x _) [y] [] _ => decide (x = "range") && glB c.sc x && notStar y && chkE c a y
  | .rng2 a b, _, .Call (.Name x _) [y, z] [] _ => decide (x = "range") && glB c.sc x && notStar y && notStar z && chkE c a y && chkE c b z
  | .rngd a b d, _, .Call (.Name x _) [y, z, w] [] _ => decide (x = "range") && glB c.sc x && notStar y && notStar z && notStar w && chkE c a y && chkE c b z && chkE c d w
  | .zip a b, t, .Call (.Name x _) [y, z] [] _ => isTup t && decide (x = "zip") && glB c.sc x && notStar y && notStar z && chkE c a y && chkE c b z
  | .enum a, t, .Call (.Name x _) [y] [] _ => isTup t && decide (x = "enumerate") && glB c.sc x && notStar y && chkE c a y
  | .walk a, _, e => chkE c a e
  | _, _, _ => false
end
end DN

set_option Elab.async false
set_option linter.all false
set_option maxRecDepth 100000
set_option maxHeartbeats 4000000
namespace DN
open PySem PySem.Spec PyProof.Rows L2
/-! ### what the syntax tells -/
theorem star_of {e : Expr} (h : notStar e = true) (es : List Expr) (env : Env) : starEach (e :: es) env = (false, eval e env) :: starEach es env := by
  cases e <;> first | rfl | cases h
theorem test_of {e : Expr} (h : plainT e = true) (env : Env) : ∀ whole, isTrue e env whole = (do let v ← whole; standAt e.pos; holding [v] (truthy v)) := by
  intro whole
  cases e <;> first | rfl | cases h
theorem ix_of {e : Expr} (h : notSlice e = true) : PlainIx e := by
  intro o i
  cases e <;> first | rfl | cases h
theorem set_of {e : Expr} (h : notSet e = true) (env : Env) : ∀ x, foldedSetIterable e env x = pure x := by
  intro x
  cases e <;> first | rfl | cases h
theorem mark_of {e : Expr} (h : notSet e = true) (op : CmpOp) : behindInMarks op e = false := by
  cases e <;> first | rfl | cases h
theorem vis_of {sc : Scope} {x : Str} (h : visB sc x = true) : Vis sc x := by
  unfold visB at h
  split at h
  · exact .inl (by assumption)
  · exact .inr (.inl (by assumption))
  · exact .inr (.inr (by assumption))
  · cases h
theorem gl_of {X : Cx} {T : List (Addr × Str)} {W : WX} {c : Ctx} (ok : Cok X T W c) {x : Str} (h : glB c.sc x = true) : Gl X x := by
  unfold glB at h
  split at h
  · show X.env.scope.names.lookup x = _
    rw [ok.eS]
    assumption
  · cases h
theorem okN_of {x : Str} (h : okN x = true) : (x == ("__debug__" : Str)) = false ∧ (x == ("__classdict__" : Str)) = false := by
  unfold okN at h
  simpa using h
theorem nm_of {X : Cx} {T : List (Addr × Str)} {W : WX} {c : Ctx} (ok : Cok X T W c) {i : Nat} {x : Str} (h : nmOk c i x = true) : X.N[i]? = some x ∧ Vis X.env.scope x ∧ (x == ("__debug__" : Str)) = false ∧ (x == ("__classdict__" : Str)) = false := by
  unfold nmOk at h
  simp only [Bool.and_eq_true, decide_eq_true_eq] at h
  obtain ⟨⟨h1, h2⟩, h3⟩ := h
  exact ⟨by rw [ok.eN]; exact h1, by rw [ok.eS]; exact vis_of h2, okN_of h3⟩
theorem loc_of {X : Cx} {T : List (Addr × Str)} {W : WX} {c : Ctx} (ok : Cok X T W c) {i : Nat} {x : Str} (h : tgOk c i x = true) : X.N[i]? = some x ∧ Loc X.env.scope x ∧ (X.fn x = true ∨ X.env.scope.names.lookup x = some .local) := by
  unfold tgOk locB at h
  simp only [Bool.and_eq_true, decide_eq_true_eq] at h
  obtain ⟨h1, h2⟩ := h
  refine ⟨by rw [ok.eN]; exact h1, ?_⟩
  unfold L2.Loc
  rw [ok.eS]
  split at h2
  · exact ⟨.inl (by assumption), .inr (by assumption)⟩
  · exact ⟨.inr (by assumption), .inl ((Bool.or_eq_true _ _ ▸ h2).elim (fun z => ok.top z x) (ok.cel x))⟩
  · cases h2
theorem back_of {c : Ctx} {env : Env} {pos : Pos} : ∀ {xs : List Expr} {e : E}, chkA c e xs = true → (backTo pos (starEach xs env)).any (·.1) = false
  | [], _, _ => rfl
  | x :: xs, e, h => by
    cases e with
    | cons a r =>
      simp only [chkA, Bool.and_eq_true] at h
      rw [star_of h.1.1]
      exact back_of (xs := xs) h.2
    | _ => simp [chkA] at h
theorem pg_of {X : Cx} {T : List (Addr × Str)} {W : WX} {c : Ctx} (ok : Cok X T W c) {i : Nat} {x : Str} {p : Pos} (h : tgOk c i x = true) : PG X (.Name x p) (gName i) := by
  obtain ⟨h1, h2, h3⟩ := loc_of ok h
  exact pg_name ok.nd h1 h2 h3
theorem pgs_of {X : Cx} {T : List (Addr × Str)} {W : WX} {c : Ctx} (ok : Cok X T W c) : ∀ {is : List Nat} {es : List Expr}, chkNs c is es = true → PGs X es (gAll is) ∧ (assignEach es X.env).length = is.length ∧ (assignEach es X.env).findIdx? (·.1) = none
  | [], [], _ => ⟨pgs_nil, rfl, rfl⟩
  | [], _ :: _, h => by simp [chkNs] at h
  | _ :: _, [], h => by simp [chkNs] at h
  | i :: is, e :: es, h => by
    cases e with
    | Name x p =>
      simp only [chkNs, Bool.and_eq_true] at h
      obtain ⟨h1, h2, h3⟩ := pgs_of ok h.2
      refine ⟨pgs_cons (pg_of ok h.1) h1 rfl, ?_, ?_⟩
      · show (assignEach es X.env).length + 1 = _
        rw [h2]; rfl
      · show ((false, _) :: assignEach es X.env).findIdx? (·.1) = none
        rw [List.findIdx?_cons]
        simp [h3]
    | _ => simp [chkNs] at h
theorem g_of {X : Cx} {T : List (Addr × Str)} {W : WX} {c : Ctx} (ok : Cok X T W c) {g : Tg} {e : Expr} (h : chkG c g e = true) : PG X e (tgG X.K g) := by
  cases g with
  | nm i =>
    cases e with
    | Name x p => exact pg_of ok h
    | _ => simp [chkG] at h
  | tp is =>
    cases e with
    | Tuple es k p =>
      obtain ⟨h1, h2, h3⟩ := pgs_of ok (show chkNs c is es = true from h)
      exact pg_tup ok.calm h1 h2 h3
    | _ => simp [chkG] at h
theorem blt_of {X : Cx} {T : List (Addr × Str)} {W : WX} {c : Ctx} (ok : Cok X T W c) {x : Str} (h : x ∈ bnames) : X.mg x = none := ok.gk.blt x h
theorem nm_mem (b : Blt) : b.nm ∈ bnames := by cases b <;> decide
theorem ty_mem (t : Ty) : t.sn ∈ bnames := by cases t <;> decide
theorem own_map (N : List Str) (is : List Nat) : (namesOf N is).map (·.2) = is := by
  unfold namesOf
  induction is with
  | nil => rfl
  | cons i is ih => simp only [List.map_cons, ih]
/-- a comprehension's test -/
def dOpt (fns : Fns) (e : E) : Option (En → Rs D) := match e with
  | .nil => none
  | _ => some (ev fns e)
theorem ev_comp (fns : Fns) (e : E) (g : Tg) (it d : E) : ev fns (.comp e g it d) = compF (ev fns e) g (ev fns it) (dOpt fns d) := by
  funext ρ
  unfold compF
  rw [ev]
  congr 1
  funext y
  congr 1
  funext ds
  congr 2
  congr 1
  funext x
  unfold stepF
  cases putT (wip ρ g.slots) g x with
  | none => rfl
  | some ρ' => cases d <;> rfl
theorem ev_sl (fns : Fns) (a lo hi : E) : ev fns (.sl a lo hi) = fun ρ => (opd a (ev fns a) ρ).bind fun x => (prt lo (ev fns lo) ρ).bind fun l => (prt hi (ev fns hi) ρ).bind fun h => .of (slSem x l h) := by
  funext ρ
  rw [ev]
/-! ### what a check says of the syntax -/
theorem rev_inv {c : Ctx} {a : E} {x : Expr} (h : chkE c (.rev a) x = true) : ∃ l k p1 p2 p3 p, x = .Subscript l (.Slice none none (some (.UnaryOp .USub (.Constant (.int 1) k p1) p2)) p3) p ∧ chkE c a l = true := by
  cases x with
  | Subscript l r p =>
    cases r with
    | Slice u v w q =>
      cases u with
      | some _ => simp [chkE] at h
      | none =>
        cases v with
        | some _ => simp [chkE] at h
        | none =>
          cases w with
          | none => simp [chkE] at h
          | some z =>
            cases z with
            | UnaryOp o y p2 =>
              cases o with
              | USub =>
                cases y with
                | Constant k j p1 =>
                  cases k with
                  | int i =>
                    by_cases hi : i = 1
                    · subst hi
                      exact ⟨l, j, p1, p2, q, p, rfl, by simpa [chkE] using h⟩
                    · exfalso
                      rw [chkE] at h
                      · cases h
                      all_goals (intros; simp_all)
                  | _ => simp [chkE] at h
                | _ => simp [chkE] at h
              | _ => simp [chkE] at h
            | _ => simp [chkE] at h
    | _ => simp [chkE] at h
  | _ => simp [chkE] at h
theorem lrng_inv {c : Ctx} {a b : E} {x : Expr} (h : chkE c (.lrng a b) x = true) : ∃ p1 p2 p3 p4 u v, x = .Call (.Name "list" p1) [.Call (.Name "range" p2) [u, v] [] p3] [] p4 ∧ glB c.sc "list" = true ∧ glB c.sc "range" = true ∧ notStar u = true ∧ notStar v = true ∧ chkE c a u = true ∧ chkE c b v = true := by
  cases x with
  | Call fn args kws p =>
    cases fn with
    | Name y q =>
      rcases args with _ | ⟨z, _ | ⟨z2, zs⟩⟩
      · simp [chkE] at h
      · cases kws with
        | cons _ _ => cases z <;> simp [chkE] at h
        | nil =>
          cases z with
          | Call f2 args2 kw2 p2 =>
            cases f2 with
            | Name y2 q2 =>
              rcases args2 with _ | ⟨u, _ | ⟨v, _ | ⟨w, ws⟩⟩⟩
              · simp [chkE] at h
              · simp [chkE] at h
              · cases kw2 with
                | cons _ _ => simp [chkE] at h
                | nil =>
                  simp only [chkE, Bool.and_eq_true, decide_eq_true_eq] at h
                  obtain ⟨⟨⟨⟨⟨⟨⟨rfl, h1⟩, rfl⟩, h2⟩, h3⟩, h4⟩, h5⟩, h6⟩ := h
                  exact ⟨_, _, _, _, u, v, rfl, h1, h2, h3, h4, h5, h6⟩
              · simp [chkE] at h
            | _ => simp [chkE] at h
          | _ => simp [chkE] at h
      · cases z <;> simp [chkE] at h
    | _ => simp [chkE] at h
  | _ => simp [chkE] at h
theorem lrng1_inv {c : Ctx} {b : E} {x : Expr} (h : chkE c (.lrng1 b) x = true) : ∃ p1 p2 p3 p4 v, x = .Call (.Name "list" p1) [.Call (.Name "range" p2) [v] [] p3] [] p4 ∧ glB c.sc "list" = true ∧ glB c.sc "range" = true ∧ notStar v = true ∧ chkE c b v = true := by
  cases x with
  | Call fn args kws p =>
    cases fn with
    | Name y q =>
      rcases args with _ | ⟨z, _ | ⟨z2, zs⟩⟩
      · simp [chkE] at h
      · cases kws with
        | cons _ _ => cases z <;> simp [chkE] at h
        | nil =>
          cases z with
          | Call f2 args2 kw2 p2 =>
            cases f2 with
            | Name y2 q2 =>
              rcases args2 with _ | ⟨v, _ | ⟨w, ws⟩⟩
              · simp [chkE] at h
              · cases kw2 with
                | cons _ _ => simp [chkE] at h
                | nil =>
                  simp only [chkE, Bool.and_eq_true, decide_eq_true_eq] at h
                  obtain ⟨⟨⟨⟨⟨rfl, h1⟩, rfl⟩, h2⟩, h3⟩, h4⟩ := h
                  exact ⟨_, _, _, _, v, rfl, h1, h2, h3, h4⟩
              · simp [chkE] at h
            | _ => simp [chkE] at h
          | _ => simp [chkE] at h
      · cases z <;> simp [chkE] at h
    | _ => simp [chkE] at h
  | _ => simp [chkE] at h
theorem comp_inv {c : Ctx} {e it d : E} {g : Tg} {x : Expr} (h : chkE c (.comp e g it d) x = true) : ∃ elt tg iter ifs scope p, x = .ListComp elt [⟨tg, iter, ifs, 0⟩] scope p ∧ chkI c it tg iter = true ∧ notSet iter = true ∧ blkC c.N c.sc scope (namesOf c.N g.slots) = true ∧
    chkG (c.blk scope) g tg = true ∧ chkE (c.blk scope) e elt = true ∧ chkD (c.blk scope) d ifs = true := by
  cases x with
  | ListComp elt gs scope p =>
    rcases gs with _ | ⟨⟨tg, iter, ifs, n⟩, _ | ⟨g2, gs⟩⟩
    · simp [chkE] at h
    · by_cases hn : n = 0
      · subst hn
        simp only [chkE, Bool.and_eq_true] at h
        obtain ⟨⟨⟨⟨⟨h1, h2⟩, h3⟩, h4⟩, h5⟩, h6⟩ := h
        exact ⟨_, _, _, _, _, _, rfl, h1, h2, h3, h4, h5, h6⟩
      · exfalso
        rw [chkE] at h
        · cases h
        all_goals (intros; simp_all)
    · simp [chkE] at h
  | _ => simp [chkE] at h
/-- a plain test -/
def plainE : E → Bool
  | .cmp _ _ _ => false
  | .chain _ _ _ _ _ => false
  | .and _ _ => false
  | .or _ _ => false
  | .not _ => false
  | .ife _ _ _ => false
  | .neg _ => false
  | _ => true
theorem plain_of {c : Ctx} {e : E} {x : Expr} (h : chkE c e x = true) (hp : plainE e = true) : plainT x = true := by
  cases e <;> first | (cases hp; done) | (cases x <;> first | rfl | (simp [chkE] at h; done))
section
variable {T : List (Addr × Str)}
theorem comp_of {X : Cx} {W : WX} {c : Ctx} {e it d : E} {g : Tg} {elt tg iter : Expr} {ifs : List Expr} {scope : Scope} {p : Pos} (ok : Cok X T W c) (h2 : notSet iter = true) (h3 : blkC c.N c.sc scope (namesOf c.N g.slots) = true) (h4 : chkG (c.blk scope) g tg = true)
    (hi : PI X tg iter (trI X.K T W (ev c.fns it))) (hd : ∀ {X : Cx}, Cok X T W0 (c.blk scope) → PTs X ifs (trTs X.K T (dOpt c.fns d))) (he : ∀ {X : Cx}, Cok X T W0 (c.blk scope) → PE X elt (trC X.K T W0 (ev c.fns e))) :
    PE X (.ListComp elt [⟨tg, iter, ifs, 0⟩] scope p) (trC X.K T W (ev c.fns (.comp e g it d))) ∧ PE X (.ListComp elt [⟨tg, iter, ifs, 0⟩] scope p) (trF X.K T W (ev c.fns (.comp e g it d))) := by
  rw [ev_comp]
  have bo : BlkOk X.N X.env.scope scope (namesOf c.N g.slots) := by
    rw [ok.eN, ok.eS]
    exact blkOk_by h3
  exact x_comp ok.calm ok.nd hi bo (own_map _ _) (fun s H C cl fp => g_of (ok.blk s H scope cl C fp) h4) (fun s H C cl fp => hd (ok.blk s H scope cl C fp)) (fun s H C cl fp => he (ok.blk s H scope cl C fp)) (set_of h2 _)
end
section
variable {T : List (Addr × Str)}
/-- an operand, from the clean reading -/
theorem opd_of {X : Cx} {W : WX} {c : Ctx} (ok : Cok X T W c) {e : E} {x : Expr} (h : chkE c e x = true) (he : PE X x (trC X.K T W (ev c.fns e))) : PE X x (trO X.K T W (opd e (ev c.fns e))) := by
  cases e with
  | var i =>
    cases x with
    | Name y p =>
      obtain ⟨h1, h2, h3, h4⟩ := nm_of ok (show nmOk c i y = true from by simpa [chkE] using h)
      exact xo_var h1 h2 h3 h4
    | _ => simp [chkE] at h
  | _ => exact xo_of he
/-- all that is shown of an expression -/
structure Snd (T : List (Addr × Str)) (z : E) : Prop where
  e : ∀ {X : Cx} {W : WX} {c : Ctx} {x : Expr} (ok : Cok X T W c) (h : chkE c (z) x = true), PE X x (trC X.K T W (ev c.fns (z)))
  t : ∀ {X : Cx} {W : WX} {c : Ctx} {x : Expr} (ok : Cok X T W c) (h : chkE c (z) x = true) (ht : tstE (z) = true), PT X x (trB X.K T W (ev c.fns (z)))
  a : ∀ {X : Cx} {W : WX} {c : Ctx} {xs : List Expr} (ok : Cok X T W c) (h : chkA c (z) xs = true), PA X xs (trA X.K T W (ev c.fns (z)))
  l : ∀ {X : Cx} {W : WX} {c : Ctx} {op : BoolOp} {xs : List Expr} {pos : Pos} (ok : Cok X T W c) (h : chkL c op (z) xs = true), PE X (.BoolOp op xs pos) (trC X.K T W (ev c.fns (z))) ∧ (tstE (z) = true → PW X (.BoolOp op xs pos) (trB X.K T W (ev c.fns (z))))
  o : ∀ {X : Cx} {W : WX} {c : Ctx} {x : Option Expr} (ok : Cok X T W c) (h : chkO c (z) x = true), PO X x (trP X.K T W (prt (z) (ev c.fns (z))))
  d : ∀ {X : Cx} {c : Ctx} {xs : List Expr} (ok : Cok X T W0 c) (h : chkD c (z) xs = true), PTs X xs (trTs X.K T (dOpt c.fns (z)))
  i : ∀ {X : Cx} {W : WX} {c : Ctx} {t x : Expr} (ok : Cok X T W c) (h : chkI c (z) t x = true), PI X t x (trI X.K T W (ev c.fns (z)))
theorem noPar_eq {ps : Arguments} (h : noPar ps = true) : ps = ⟨[], [], none, [], [], none, []⟩ := by
  unfold noPar at h
  split at h
  · rfl
  · cases h
theorem lam_ok {X : Cx} {W : WX} {c : Ctx} {ps : Arguments} {body : Expr} {scope : Scope} (ok : Cok X T W c) (h4 : noPar ps = true) (h5 : LamX.lamSB c.sc scope = true) : LamOk X ⟨ps, body, scope⟩ := by
  rw [noPar_eq h4]
  exact ⟨by show LamX.LamS X.env.scope scope; rw [ok.eS]; exact LamX.lamS_by h5, rfl, fun _ _ _ _ _ => rfl⟩
theorem lam_cok {X : Cx} {W : WX} {c : Ctx} (ok : Cok X T W c) {k : Nat} (gk : ∀ A', Room k A' → Gk X.prog X.w X.K X.mg X.base A' T c.fns c.fnm c.glos c.exs) {A : Around} {outer : List Env} {s : Shared} {H : Hp} {E : XK} {scope : Scope} {f c' : Addr} (hr : Room k (A.deeper (LamX.lamEnv X scope s.heap.objs.size f c'))) :
    Cok (lamN X A outer s H E scope f c') T (fun cls d _ H => E cls d H) (c.lam scope) where
  nd := ok.nd
  eN := ok.eN
  eS := rfl
  calm := rfl
  top := fun z => by cases z
  cel := fun _ z => by cases z
  tk := L2N.takes_of rfl rfl rfl rfl
  po := passes_of rfl
  gk := gk _ hr
  tl := fun z => by cases z
theorem body_ok {X : Cx} {W : WX} {c : Ctx} {e : E} {ps : Arguments} {body : Expr} {scope : Scope} (ok : Cok X T W c) {k : Nat} (gk : ∀ A', Room k A' → Gk X.prog X.w X.K X.mg X.base A' T c.fns c.fnm c.glos c.exs) (i_e : Snd T e) (h : chkE (c.lam scope) e body = true) : BodyOk X T k ⟨ps, body, scope⟩ (ev c.fns e) :=
  fun A outer s H E g c' hr => i_e.e (c := c.lam scope) (lam_cok (outer := outer) (H := H) (E := E) ok gk hr) h
theorem zE_var (i : Nat) {X : Cx} {W : WX} {c : Ctx} {x : Expr} (ok : Cok X T W c) (h : chkE c (.var i) x = true) : PE X x (trC X.K T W (ev c.fns (.var i))) := by
    cases x with
    | Name y p =>
      obtain ⟨h1, h2, h3, h4⟩ := nm_of ok (show nmOk c i y = true from by simpa [chkE] using h)
      have := xe_var (X := X) (T := T) (W := W) (pos := p) h1 h2 h3 h4
      exact this
    | _ => simp [chkE] at h
theorem zT_var (i : Nat) {X : Cx} {W : WX} {c : Ctx} {x : Expr} (ok : Cok X T W c) (h : chkE c (.var i) x = true) (ht : tstE (.var i) = true) : PT X x (trB X.K T W (ev c.fns (.var i))) := x_valT (zE_var i ok h) (test_of (plain_of h rfl) _)
theorem zA_var (i : Nat) {X : Cx} {W : WX} {c : Ctx} {xs : List Expr} (ok : Cok X T W c) (h : chkA c (.var i) xs = true) : PA X xs (trA X.K T W (ev c.fns (.var i))) := by
  cases xs <;> simp [chkA] at h
theorem zL_var (i : Nat) {X : Cx} {W : WX} {c : Ctx} {op : BoolOp} {xs : List Expr} {pos : Pos} (ok : Cok X T W c) (h : chkL c op (.var i) xs = true) : PE X (.BoolOp op xs pos) (trC X.K T W (ev c.fns (.var i))) ∧ (tstE (.var i) = true → PW X (.BoolOp op xs pos) (trB X.K T W (ev c.fns (.var i)))) := by
  cases op <;> rcases xs with _ | ⟨x, _ | ⟨y, es⟩⟩ <;> simp [chkL] at h
theorem zO_var (i : Nat) {X : Cx} {W : WX} {c : Ctx} {x : Option Expr} (ok : Cok X T W c) (h : chkO c (.var i) x = true) : PO X x (trP X.K T W (prt (.var i) (ev c.fns (.var i)))) := by
  cases x <;> simp [chkO] at h
theorem zD_var (i : Nat) {X : Cx} {c : Ctx} {xs : List Expr} (ok : Cok X T W0 c) (h : chkD c (.var i) xs = true) : PTs X xs (trTs X.K T (dOpt c.fns (.var i))) := by
  rcases xs with _ | ⟨x, _ | ⟨y, es⟩⟩ <;> simp [chkD] at h
theorem zI_var (i : Nat) {X : Cx} {W : WX} {c : Ctx} {t x : Expr} (ok : Cok X T W c) (h : chkI c (.var i) t x = true) : PI X t x (trI X.K T W (ev c.fns (.var i))) := by
  cases x <;> simp [chkI] at h
theorem zE_con (d : D) {X : Cx} {W : WX} {c : Ctx} {x : Expr} (ok : Cok X T W c) (h : chkE c (.con d) x = true) : PE X x (trC X.K T W (ev c.fns (.con d))) := by
    cases x with
    | Constant k j p =>
      have h : conOk d k = true := by simpa [chkE] using h
      cases d <;> cases k <;> simp only [conOk, reduceCtorEq] at h
      all_goals first | cases h | skip
      · exact xe_const pe_non fun H N => .non
      · rw [show _ = _ from eq_of_beq h]; exact xe_const pe_bl fun H N => .bl _
      · rw [of_decide_eq_true h]; exact xe_const pe_int fun H N => .int _
      · simp only [Bool.and_eq_true, decide_eq_true_eq] at h
        obtain ⟨⟨rfl, h1⟩, h2⟩ := h
        exact xe_const pe_str fun H N => .str _ (fun c hc => of_decide_eq_true (List.all_eq_true.mp h1 c hc)) (by rw [szL_eq]; exact h2)
    | _ => simp [chkE] at h
theorem zT_con (d : D) {X : Cx} {W : WX} {c : Ctx} {x : Expr} (ok : Cok X T W c) (h : chkE c (.con d) x = true) (ht : tstE (.con d) = true) : PT X x (trB X.K T W (ev c.fns (.con d))) := x_valT (zE_con d ok h) (test_of (plain_of h rfl) _)
theorem zA_con (d : D) {X : Cx} {W : WX} {c : Ctx} {xs : List Expr} (ok : Cok X T W c) (h : chkA c (.con d) xs = true) : PA X xs (trA X.K T W (ev c.fns (.con d))) := by
  cases xs <;> simp [chkA] at h
theorem zL_con (d : D) {X : Cx} {W : WX} {c : Ctx} {op : BoolOp} {xs : List Expr} {pos : Pos} (ok : Cok X T W c) (h : chkL c op (.con d) xs = true) : PE X (.BoolOp op xs pos) (trC X.K T W (ev c.fns (.con d))) ∧ (tstE (.con d) = true → PW X (.BoolOp op xs pos) (trB X.K T W (ev c.fns (.con d)))) := by
  cases op <;> rcases xs with _ | ⟨x, _ | ⟨y, es⟩⟩ <;> simp [chkL] at h
theorem zO_con (d : D) {X : Cx} {W : WX} {c : Ctx} {x : Option Expr} (ok : Cok X T W c) (h : chkO c (.con d) x = true) : PO X x (trP X.K T W (prt (.con d) (ev c.fns (.con d)))) := by
  cases x <;> simp [chkO] at h
theorem zD_con (d : D) {X : Cx} {c : Ctx} {xs : List Expr} (ok : Cok X T W0 c) (h : chkD c (.con d) xs = true) : PTs X xs (trTs X.K T (dOpt c.fns (.con d))) := by
  rcases xs with _ | ⟨x, _ | ⟨y, es⟩⟩ <;> simp [chkD] at h
theorem zI_con (d : D) {X : Cx} {W : WX} {c : Ctx} {t x : Expr} (ok : Cok X T W c) (h : chkI c (.con d) t x = true) : PI X t x (trI X.K T W (ev c.fns (.con d))) := by
  cases x <;> simp [chkI] at h
theorem zE_glo (y : Str) (d : D) {X : Cx} {W : WX} {c : Ctx} {x : Expr} (ok : Cok X T W c) (h : chkE c (.glo y d) x = true) : PE X x (trC X.K T W (ev c.fns (.glo y d))) := by
    cases x with
    | Name z p =>
      simp only [chkE, Bool.and_eq_true, decide_eq_true_eq] at h
      obtain ⟨⟨h1, h2⟩, h3⟩ := h
      unfold gloOk at h3
      rw [List.any_eq_true] at h3
      obtain ⟨q, hq, h4⟩ := h3
      simp only [Bool.and_eq_true, decide_eq_true_eq] at h4
      obtain ⟨h4, h5⟩ := h4
      obtain ⟨i, hi⟩ := List.getElem?_of_mem hq
      obtain ⟨v, u, m1, m2, m3⟩ := ok.gk.glo i q.1 q.2 hi
      rw [h4] at m1
      rw [D.same_eq _ _ h5] at m3
      exact xe_const (pe_glob (gl_of ok h1) m1 m2 (okN_of h2).1) m3
    | _ => simp [chkE] at h
theorem zT_glo (y : Str) (d : D) {X : Cx} {W : WX} {c : Ctx} {x : Expr} (ok : Cok X T W c) (h : chkE c (.glo y d) x = true) (ht : tstE (.glo y d) = true) : PT X x (trB X.K T W (ev c.fns (.glo y d))) := x_valT (zE_glo y d ok h) (test_of (plain_of h rfl) _)
theorem zA_glo (y : Str) (d : D) {X : Cx} {W : WX} {c : Ctx} {xs : List Expr} (ok : Cok X T W c) (h : chkA c (.glo y d) xs = true) : PA X xs (trA X.K T W (ev c.fns (.glo y d))) := by
  cases xs <;> simp [chkA] at h
theorem zL_glo (y : Str) (d : D) {X : Cx} {W : WX} {c : Ctx} {op : BoolOp} {xs : List Expr} {pos : Pos} (ok : Cok X T W c) (h : chkL c op (.glo y d) xs = true) : PE X (.BoolOp op xs pos) (trC X.K T W (ev c.fns (.glo y d))) ∧ (tstE (.glo y d) = true → PW X (.BoolOp op xs pos) (trB X.K T W (ev c.fns (.glo y d)))) := by
  cases op <;> rcases xs with _ | ⟨x, _ | ⟨y, es⟩⟩ <;> simp [chkL] at h
theorem zO_glo (y : Str) (d : D) {X : Cx} {W : WX} {c : Ctx} {x : Option Expr} (ok : Cok X T W c) (h : chkO c (.glo y d) x = true) : PO X x (trP X.K T W (prt (.glo y d) (ev c.fns (.glo y d)))) := by
  cases x <;> simp [chkO] at h
theorem zD_glo (y : Str) (d : D) {X : Cx} {c : Ctx} {xs : List Expr} (ok : Cok X T W0 c) (h : chkD c (.glo y d) xs = true) : PTs X xs (trTs X.K T (dOpt c.fns (.glo y d))) := by
  rcases xs with _ | ⟨x, _ | ⟨y, es⟩⟩ <;> simp [chkD] at h
theorem zI_glo (y : Str) (d : D) {X : Cx} {W : WX} {c : Ctx} {t x : Expr} (ok : Cok X T W c) (h : chkI c (.glo y d) t x = true) : PI X t x (trI X.K T W (ev c.fns (.glo y d))) := by
  cases x <;> simp [chkI] at h
theorem zE_bin (op : Bop) (a : E) (b : E) (i_a : Snd T a) (i_b : Snd T b) {X : Cx} {W : WX} {c : Ctx} {x : Expr} (ok : Cok X T W c) (h : chkE c (.bin op a b) x = true) : PE X x (trC X.K T W (ev c.fns (.bin op a b))) := by
    cases x with
    | BinOp l o r p =>
      simp only [chkE, Bool.and_eq_true, decide_eq_true_eq] at h
      obtain ⟨⟨rfl, h1⟩, h2⟩ := h
      exact x_bin op (opd_of ok h1 (i_a.e ok h1)) (opd_of ok h2 (i_b.e ok h2))
    | _ => simp [chkE] at h
theorem zT_bin (op : Bop) (a : E) (b : E) (i_a : Snd T a) (i_b : Snd T b) {X : Cx} {W : WX} {c : Ctx} {x : Expr} (ok : Cok X T W c) (h : chkE c (.bin op a b) x = true) (ht : tstE (.bin op a b) = true) : PT X x (trB X.K T W (ev c.fns (.bin op a b))) := x_valT (zE_bin op a b i_a i_b ok h) (test_of (plain_of h rfl) _)
theorem zA_bin (op : Bop) (a : E) (b : E) (i_a : Snd T a) (i_b : Snd T b) {X : Cx} {W : WX} {c : Ctx} {xs : List Expr} (ok : Cok X T W c) (h : chkA c (.bin op a b) xs = true) : PA X xs (trA X.K T W (ev c.fns (.bin op a b))) := by
  cases xs <;> simp [chkA] at h
theorem zL_bin (op0 : Bop) (a : E) (b : E) (i_a : Snd T a) (i_b : Snd T b) {X : Cx} {W : WX} {c : Ctx} {op : BoolOp} {xs : List Expr} {pos : Pos} (ok : Cok X T W c) (h : chkL c op (.bin op0 a b) xs = true) : PE X (.BoolOp op xs pos) (trC X.K T W (ev c.fns (.bin op0 a b))) ∧ (tstE (.bin op0 a b) = true → PW X (.BoolOp op xs pos) (trB X.K T W (ev c.fns (.bin op0 a b)))) := by
  cases op <;> rcases xs with _ | ⟨x, _ | ⟨y, es⟩⟩ <;> simp [chkL] at h
theorem zO_bin (op : Bop) (a : E) (b : E) (i_a : Snd T a) (i_b : Snd T b) {X : Cx} {W : WX} {c : Ctx} {x : Option Expr} (ok : Cok X T W c) (h : chkO c (.bin op a b) x = true) : PO X x (trP X.K T W (prt (.bin op a b) (ev c.fns (.bin op a b)))) := by
  cases x <;> simp [chkO] at h
theorem zD_bin (op : Bop) (a : E) (b : E) (i_a : Snd T a) (i_b : Snd T b) {X : Cx} {c : Ctx} {xs : List Expr} (ok : Cok X T W0 c) (h : chkD c (.bin op a b) xs = true) : PTs X xs (trTs X.K T (dOpt c.fns (.bin op a b))) := by
  rcases xs with _ | ⟨x, _ | ⟨y, es⟩⟩ <;> simp [chkD] at h
theorem zI_bin (op : Bop) (a : E) (b : E) (i_a : Snd T a) (i_b : Snd T b) {X : Cx} {W : WX} {c : Ctx} {t x : Expr} (ok : Cok X T W c) (h : chkI c (.bin op a b) t x = true) : PI X t x (trI X.K T W (ev c.fns (.bin op a b))) := by
  cases x <;> simp [chkI] at h
theorem zE_neg (a : E) (i_a : Snd T a) {X : Cx} {W : WX} {c : Ctx} {x : Expr} (ok : Cok X T W c) (h : chkE c (.neg a) x = true) : PE X x (trC X.K T W (ev c.fns (.neg a))) := by
    cases x with
    | UnaryOp o y p =>
      cases o <;> simp only [chkE, reduceCtorEq] at h
      all_goals first | exact x_neg (i_a.e ok h) | cases h
    | _ => simp [chkE] at h
theorem zT_neg (a : E) (i_a : Snd T a) {X : Cx} {W : WX} {c : Ctx} {x : Expr} (ok : Cok X T W c) (h : chkE c (.neg a) x = true) (ht : tstE (.neg a) = true) : PT X x (trB X.K T W (ev c.fns (.neg a))) := by
  simp [tstE] at ht
theorem zA_neg (a : E) (i_a : Snd T a) {X : Cx} {W : WX} {c : Ctx} {xs : List Expr} (ok : Cok X T W c) (h : chkA c (.neg a) xs = true) : PA X xs (trA X.K T W (ev c.fns (.neg a))) := by
  cases xs <;> simp [chkA] at h
theorem zL_neg (a : E) (i_a : Snd T a) {X : Cx} {W : WX} {c : Ctx} {op : BoolOp} {xs : List Expr} {pos : Pos} (ok : Cok X T W c) (h : chkL c op (.neg a) xs = true) : PE X (.BoolOp op xs pos) (trC X.K T W (ev c.fns (.neg a))) ∧ (tstE (.neg a) = true → PW X (.BoolOp op xs pos) (trB X.K T W (ev c.fns (.neg a)))) := by
  cases op <;> rcases xs with _ | ⟨x, _ | ⟨y, es⟩⟩ <;> simp [chkL] at h
theorem zO_neg (a : E) (i_a : Snd T a) {X : Cx} {W : WX} {c : Ctx} {x : Option Expr} (ok : Cok X T W c) (h : chkO c (.neg a) x = true) : PO X x (trP X.K T W (prt (.neg a) (ev c.fns (.neg a)))) := by
  cases x <;> simp [chkO] at h
theorem zD_neg (a : E) (i_a : Snd T a) {X : Cx} {c : Ctx} {xs : List Expr} (ok : Cok X T W0 c) (h : chkD c (.neg a) xs = true) : PTs X xs (trTs X.K T (dOpt c.fns (.neg a))) := by
  rcases xs with _ | ⟨x, _ | ⟨y, es⟩⟩ <;> simp [chkD] at h
theorem zI_neg (a : E) (i_a : Snd T a) {X : Cx} {W : WX} {c : Ctx} {t x : Expr} (ok : Cok X T W c) (h : chkI c (.neg a) t x = true) : PI X t x (trI X.K T W (ev c.fns (.neg a))) := by
  cases x <;> simp [chkI] at h
theorem zE_cmp (op : Cop) (a : E) (b : E) (i_a : Snd T a) (i_b : Snd T b) {X : Cx} {W : WX} {c : Ctx} {x : Expr} (ok : Cok X T W c) (h : chkE c (.cmp op a b) x = true) : PE X x (trC X.K T W (ev c.fns (.cmp op a b))) := by
    cases x with
    | Compare l os rs p =>
      match os, rs, h with
      | [o], [r], h =>
        simp only [chkE, Bool.and_eq_true, decide_eq_true_eq] at h
        obtain ⟨⟨⟨rfl, h1⟩, h2⟩, h3⟩ := h
        exact x_cmp ok.gk.room op (opd_of ok h1 (i_a.e ok h1)) (opd_of ok h2 (i_b.e ok h2)) (mark_of h3 _)
      | [], _, h => simp [chkE] at h
      | _ :: _ :: _, _, h => simp [chkE] at h
      | [_], [], h => simp [chkE] at h
      | [_], _ :: _ :: _, h => simp [chkE] at h
    | _ => simp [chkE] at h
theorem zT_cmp (op : Cop) (a : E) (b : E) (i_a : Snd T a) (i_b : Snd T b) {X : Cx} {W : WX} {c : Ctx} {x : Expr} (ok : Cok X T W c) (h : chkE c (.cmp op a b) x = true) (ht : tstE (.cmp op a b) = true) : PT X x (trB X.K T W (ev c.fns (.cmp op a b))) := by
    cases x with
    | Compare l os rs p =>
      match os, rs, h with
      | [o], [r], h =>
        simp only [chkE, Bool.and_eq_true, decide_eq_true_eq] at h
        obtain ⟨⟨⟨rfl, h1⟩, h2⟩, h3⟩ := h
        exact x_cmpT ok.gk.room op (opd_of ok h1 (i_a.e ok h1)) (opd_of ok h2 (i_b.e ok h2)) (mark_of h3 _)
      | [], _, h => simp [chkE] at h
      | _ :: _ :: _, _, h => simp [chkE] at h
      | [_], [], h => simp [chkE] at h
      | [_], _ :: _ :: _, h => simp [chkE] at h
    | _ => simp [chkE] at h
theorem zA_cmp (op : Cop) (a : E) (b : E) (i_a : Snd T a) (i_b : Snd T b) {X : Cx} {W : WX} {c : Ctx} {xs : List Expr} (ok : Cok X T W c) (h : chkA c (.cmp op a b) xs = true) : PA X xs (trA X.K T W (ev c.fns (.cmp op a b))) := by
  cases xs <;> simp [chkA] at h
theorem zL_cmp (op0 : Cop) (a : E) (b : E) (i_a : Snd T a) (i_b : Snd T b) {X : Cx} {W : WX} {c : Ctx} {op : BoolOp} {xs : List Expr} {pos : Pos} (ok : Cok X T W c) (h : chkL c op (.cmp op0 a b) xs = true) : PE X (.BoolOp op xs pos) (trC X.K T W (ev c.fns (.cmp op0 a b))) ∧ (tstE (.cmp op0 a b) = true → PW X (.BoolOp op xs pos) (trB X.K T W (ev c.fns (.cmp op0 a b)))) := by
  cases op <;> rcases xs with _ | ⟨x, _ | ⟨y, es⟩⟩ <;> simp [chkL] at h
theorem zO_cmp (op : Cop) (a : E) (b : E) (i_a : Snd T a) (i_b : Snd T b) {X : Cx} {W : WX} {c : Ctx} {x : Option Expr} (ok : Cok X T W c) (h : chkO c (.cmp op a b) x = true) : PO X x (trP X.K T W (prt (.cmp op a b) (ev c.fns (.cmp op a b)))) := by
  cases x <;> simp [chkO] at h
theorem zD_cmp (op : Cop) (a : E) (b : E) (i_a : Snd T a) (i_b : Snd T b) {X : Cx} {c : Ctx} {xs : List Expr} (ok : Cok X T W0 c) (h : chkD c (.cmp op a b) xs = true) : PTs X xs (trTs X.K T (dOpt c.fns (.cmp op a b))) := by
  rcases xs with _ | ⟨x, _ | ⟨y, es⟩⟩ <;> simp [chkD] at h
theorem zI_cmp (op : Cop) (a : E) (b : E) (i_a : Snd T a) (i_b : Snd T b) {X : Cx} {W : WX} {c : Ctx} {t x : Expr} (ok : Cok X T W c) (h : chkI c (.cmp op a b) t x = true) : PI X t x (trI X.K T W (ev c.fns (.cmp op a b))) := by
  cases x <;> simp [chkI] at h
theorem zE_chain (o1 : Cop) (o2 : Cop) (a : E) (b : E) (d : E) (i_a : Snd T a) (i_b : Snd T b) (i_d : Snd T d) {X : Cx} {W : WX} {c : Ctx} {x : Expr} (ok : Cok X T W c) (h : chkE c (.chain o1 o2 a b d) x = true) : PE X x (trC X.K T W (ev c.fns (.chain o1 o2 a b d))) := by
    cases x with
    | Compare l os rs p =>
      match os, rs, h with
      | [p1, p2], [r, t], h =>
        simp only [chkE, Bool.and_eq_true, decide_eq_true_eq] at h
        obtain ⟨⟨⟨⟨⟨rfl, rfl⟩, h1⟩, h2⟩, h3⟩, h4⟩ := h
        exact x_chain ok.gk.room o1 o2 (opd_of ok h1 (i_a.e ok h1)) (opd_of ok h2 (i_b.e ok h2)) (opd_of ok h3 (i_d.e ok h3)) (mark_of h4 _)
      | [], _, h => simp [chkE] at h
      | [_], _, h => simp [chkE] at h
      | _ :: _ :: _ :: _, _, h => simp [chkE] at h
      | [_, _], [], h => simp [chkE] at h
      | [_, _], [_], h => simp [chkE] at h
      | [_, _], _ :: _ :: _ :: _, h => simp [chkE] at h
    | _ => simp [chkE] at h
theorem zT_chain (o1 : Cop) (o2 : Cop) (a : E) (b : E) (d : E) (i_a : Snd T a) (i_b : Snd T b) (i_d : Snd T d) {X : Cx} {W : WX} {c : Ctx} {x : Expr} (ok : Cok X T W c) (h : chkE c (.chain o1 o2 a b d) x = true) (ht : tstE (.chain o1 o2 a b d) = true) : PT X x (trB X.K T W (ev c.fns (.chain o1 o2 a b d))) := by
    cases x with
    | Compare l os rs p =>
      match os, rs, h with
      | [p1, p2], [r, t], h =>
        simp only [chkE, Bool.and_eq_true, decide_eq_true_eq] at h
        obtain ⟨⟨⟨⟨⟨rfl, rfl⟩, h1⟩, h2⟩, h3⟩, h4⟩ := h
        exact x_chainT ok.gk.room o1 o2 (opd_of ok h1 (i_a.e ok h1)) (opd_of ok h2 (i_b.e ok h2)) (opd_of ok h3 (i_d.e ok h3)) (mark_of h4 _)
      | [], _, h => simp [chkE] at h
      | [_], _, h => simp [chkE] at h
      | _ :: _ :: _ :: _, _, h => simp [chkE] at h
      | [_, _], [], h => simp [chkE] at h
      | [_, _], [_], h => simp [chkE] at h
      | [_, _], _ :: _ :: _ :: _, h => simp [chkE] at h
    | _ => simp [chkE] at h
theorem zA_chain (o1 : Cop) (o2 : Cop) (a : E) (b : E) (d : E) (i_a : Snd T a) (i_b : Snd T b) (i_d : Snd T d) {X : Cx} {W : WX} {c : Ctx} {xs : List Expr} (ok : Cok X T W c) (h : chkA c (.chain o1 o2 a b d) xs = true) : PA X xs (trA X.K T W (ev c.fns (.chain o1 o2 a b d))) := by
  cases xs <;> simp [chkA] at h
theorem zL_chain (o1 : Cop) (o2 : Cop) (a : E) (b : E) (d : E) (i_a : Snd T a) (i_b : Snd T b) (i_d : Snd T d) {X : Cx} {W : WX} {c : Ctx} {op : BoolOp} {xs : List Expr} {pos : Pos} (ok : Cok X T W c) (h : chkL c op (.chain o1 o2 a b d) xs = true) : PE X (.BoolOp op xs pos) (trC X.K T W (ev c.fns (.chain o1 o2 a b d))) ∧ (tstE (.chain o1 o2 a b d) = true → PW X (.BoolOp op xs pos) (trB X.K T W (ev c.fns (.chain o1 o2 a b d)))) := by
  cases op <;> rcases xs with _ | ⟨x, _ | ⟨y, es⟩⟩ <;> simp [chkL] at h
theorem zO_chain (o1 : Cop) (o2 : Cop) (a : E) (b : E) (d : E) (i_a : Snd T a) (i_b : Snd T b) (i_d : Snd T d) {X : Cx} {W : WX} {c : Ctx} {x : Option Expr} (ok : Cok X T W c) (h : chkO c (.chain o1 o2 a b d) x = true) : PO X x (trP X.K T W (prt (.chain o1 o2 a b d) (ev c.fns (.chain o1 o2 a b d)))) := by
  cases x <;> simp [chkO] at h
theorem zD_chain (o1 : Cop) (o2 : Cop) (a : E) (b : E) (d : E) (i_a : Snd T a) (i_b : Snd T b) (i_d : Snd T d) {X : Cx} {c : Ctx} {xs : List Expr} (ok : Cok X T W0 c) (h : chkD c (.chain o1 o2 a b d) xs = true) : PTs X xs (trTs X.K T (dOpt c.fns (.chain o1 o2 a b d))) := by
  rcases xs with _ | ⟨x, _ | ⟨y, es⟩⟩ <;> simp [chkD] at h
theorem zI_chain (o1 : Cop) (o2 : Cop) (a : E) (b : E) (d : E) (i_a : Snd T a) (i_b : Snd T b) (i_d : Snd T d) {X : Cx} {W : WX} {c : Ctx} {t x : Expr} (ok : Cok X T W c) (h : chkI c (.chain o1 o2 a b d) t x = true) : PI X t x (trI X.K T W (ev c.fns (.chain o1 o2 a b d))) := by
  cases x <;> simp [chkI] at h
theorem zE_and (a : E) (r : E) (i_a : Snd T a) (i_r : Snd T r) {X : Cx} {W : WX} {c : Ctx} {x : Expr} (ok : Cok X T W c) (h : chkE c (.and a r) x = true) : PE X x (trC X.K T W (ev c.fns (.and a r))) := by
    cases x with
    | BoolOp o es p =>
      match o, es, h with
      | .And, x :: y :: es, h =>
        simp only [chkE, Bool.and_eq_true] at h
        exact x_and (i_a.e ok h.1) (i_r.l ok h.2).1
      | .Or, _, h => simp [chkE] at h
      | .And, [], h => simp [chkE] at h
      | .And, [_], h => simp [chkE] at h
    | _ => simp [chkE] at h
theorem zT_and (a : E) (r : E) (i_a : Snd T a) (i_r : Snd T r) {X : Cx} {W : WX} {c : Ctx} {x : Expr} (ok : Cok X T W c) (h : chkE c (.and a r) x = true) (ht : tstE (.and a r) = true) : PT X x (trB X.K T W (ev c.fns (.and a r))) := by
    cases x with
    | BoolOp o es p =>
      match o, es, h with
      | .And, x :: y :: es, h =>
        simp only [chkE, Bool.and_eq_true] at h
        simp only [tstE, Bool.and_eq_true] at ht
        exact (x_andT (i_a.t ok h.1 ht.1) ((i_r.l ok h.2).2 ht.2)).pt
      | .Or, _, h => simp [chkE] at h
      | .And, [], h => simp [chkE] at h
      | .And, [_], h => simp [chkE] at h
    | _ => simp [chkE] at h
theorem zA_and (a : E) (r : E) (i_a : Snd T a) (i_r : Snd T r) {X : Cx} {W : WX} {c : Ctx} {xs : List Expr} (ok : Cok X T W c) (h : chkA c (.and a r) xs = true) : PA X xs (trA X.K T W (ev c.fns (.and a r))) := by
  cases xs <;> simp [chkA] at h
theorem zL_and (a : E) (r : E) (i_a : Snd T a) (i_r : Snd T r) {X : Cx} {W : WX} {c : Ctx} {op : BoolOp} {xs : List Expr} {pos : Pos} (ok : Cok X T W c) (h : chkL c op (.and a r) xs = true) : PE X (.BoolOp op xs pos) (trC X.K T W (ev c.fns (.and a r))) ∧ (tstE (.and a r) = true → PW X (.BoolOp op xs pos) (trB X.K T W (ev c.fns (.and a r)))) := by
    cases op with
    | Or => rcases xs with _ | ⟨x, _ | ⟨y, es⟩⟩ <;> simp [chkL] at h
    | And =>
      rcases xs with _ | ⟨x, _ | ⟨y, es⟩⟩
      · simp [chkL] at h
      · simp [chkL] at h
      · simp only [chkL, Bool.and_eq_true] at h
        refine ⟨x_and (i_a.e ok h.1) (i_r.l ok h.2).1, fun ht => ?_⟩
        simp only [tstE, Bool.and_eq_true] at ht
        exact x_andT (i_a.t ok h.1 ht.1) ((i_r.l ok h.2).2 ht.2)
theorem zO_and (a : E) (r : E) (i_a : Snd T a) (i_r : Snd T r) {X : Cx} {W : WX} {c : Ctx} {x : Option Expr} (ok : Cok X T W c) (h : chkO c (.and a r) x = true) : PO X x (trP X.K T W (prt (.and a r) (ev c.fns (.and a r)))) := by
  cases x <;> simp [chkO] at h
theorem zD_and (a : E) (r : E) (i_a : Snd T a) (i_r : Snd T r) {X : Cx} {c : Ctx} {xs : List Expr} (ok : Cok X T W0 c) (h : chkD c (.and a r) xs = true) : PTs X xs (trTs X.K T (dOpt c.fns (.and a r))) := by
  rcases xs with _ | ⟨x, _ | ⟨y, es⟩⟩ <;> simp [chkD] at h
theorem zI_and (a : E) (r : E) (i_a : Snd T a) (i_r : Snd T r) {X : Cx} {W : WX} {c : Ctx} {t x : Expr} (ok : Cok X T W c) (h : chkI c (.and a r) t x = true) : PI X t x (trI X.K T W (ev c.fns (.and a r))) := by
  cases x <;> simp [chkI] at h
theorem zE_or (a : E) (r : E) (i_a : Snd T a) (i_r : Snd T r) {X : Cx} {W : WX} {c : Ctx} {x : Expr} (ok : Cok X T W c) (h : chkE c (.or a r) x = true) : PE X x (trC X.K T W (ev c.fns (.or a r))) := by
    cases x with
    | BoolOp o es p =>
      match o, es, h with
      | .Or, x :: y :: es, h =>
        simp only [chkE, Bool.and_eq_true] at h
        exact x_or (i_a.e ok h.1) (i_r.l ok h.2).1
      | .And, _, h => simp [chkE] at h
      | .Or, [], h => simp [chkE] at h
      | .Or, [_], h => simp [chkE] at h
    | _ => simp [chkE] at h
theorem zT_or (a : E) (r : E) (i_a : Snd T a) (i_r : Snd T r) {X : Cx} {W : WX} {c : Ctx} {x : Expr} (ok : Cok X T W c) (h : chkE c (.or a r) x = true) (ht : tstE (.or a r) = true) : PT X x (trB X.K T W (ev c.fns (.or a r))) := by
    cases x with
    | BoolOp o es p =>
      match o, es, h with
      | .Or, x :: y :: es, h =>
        simp only [chkE, Bool.and_eq_true] at h
        simp only [tstE, Bool.and_eq_true] at ht
        exact (x_orT (i_a.t ok h.1 ht.1) ((i_r.l ok h.2).2 ht.2)).pt
      | .And, _, h => simp [chkE] at h
      | .Or, [], h => simp [chkE] at h
      | .Or, [_], h => simp [chkE] at h
    | _ => simp [chkE] at h
theorem zA_or (a : E) (r : E) (i_a : Snd T a) (i_r : Snd T r) {X : Cx} {W : WX} {c : Ctx} {xs : List Expr} (ok : Cok X T W c) (h : chkA c (.or a r) xs = true) : PA X xs (trA X.K T W (ev c.fns (.or a r))) := by
  cases xs <;> simp [chkA] at h
theorem zL_or (a : E) (r : E) (i_a : Snd T a) (i_r : Snd T r) {X : Cx} {W : WX} {c : Ctx} {op : BoolOp} {xs : List Expr} {pos : Pos} (ok : Cok X T W c) (h : chkL c op (.or a r) xs = true) : PE X (.BoolOp op xs pos) (trC X.K T W (ev c.fns (.or a r))) ∧ (tstE (.or a r) = true → PW X (.BoolOp op xs pos) (trB X.K T W (ev c.fns (.or a r)))) := by
    cases op with
    | And => rcases xs with _ | ⟨x, _ | ⟨y, es⟩⟩ <;> simp [chkL] at h
    | Or =>
      rcases xs with _ | ⟨x, _ | ⟨y, es⟩⟩
      · simp [chkL] at h
      · simp [chkL] at h
      · simp only [chkL, Bool.and_eq_true] at h
        refine ⟨x_or (i_a.e ok h.1) (i_r.l ok h.2).1, fun ht => ?_⟩
        simp only [tstE, Bool.and_eq_true] at ht
        exact x_orT (i_a.t ok h.1 ht.1) ((i_r.l ok h.2).2 ht.2)
theorem zO_or (a : E) (r : E) (i_a : Snd T a) (i_r : Snd T r) {X : Cx} {W : WX} {c : Ctx} {x : Option Expr} (ok : Cok X T W c) (h : chkO c (.or a r) x = true) : PO X x (trP X.K T W (prt (.or a r) (ev c.fns (.or a r)))) := by
  cases x <;> simp [chkO] at h
theorem zD_or (a : E) (r : E) (i_a : Snd T a) (i_r : Snd T r) {X : Cx} {c : Ctx} {xs : List Expr} (ok : Cok X T W0 c) (h : chkD c (.or a r) xs = true) : PTs X xs (trTs X.K T (dOpt c.fns (.or a r))) := by
  rcases xs with _ | ⟨x, _ | ⟨y, es⟩⟩ <;> simp [chkD] at h
theorem zI_or (a : E) (r : E) (i_a : Snd T a) (i_r : Snd T r) {X : Cx} {W : WX} {c : Ctx} {t x : Expr} (ok : Cok X T W c) (h : chkI c (.or a r) t x = true) : PI X t x (trI X.K T W (ev c.fns (.or a r))) := by
  cases x <;> simp [chkI] at h
theorem zE_not (a : E) (i_a : Snd T a) {X : Cx} {W : WX} {c : Ctx} {x : Expr} (ok : Cok X T W c) (h : chkE c (.not a) x = true) : PE X x (trC X.K T W (ev c.fns (.not a))) := by
    cases x with
    | UnaryOp o y p =>
      cases o <;> simp only [chkE, reduceCtorEq] at h
      all_goals first | exact x_not (i_a.e ok h) | cases h
    | _ => simp [chkE] at h
theorem zT_not (a : E) (i_a : Snd T a) {X : Cx} {W : WX} {c : Ctx} {x : Expr} (ok : Cok X T W c) (h : chkE c (.not a) x = true) (ht : tstE (.not a) = true) : PT X x (trB X.K T W (ev c.fns (.not a))) := by
    cases x with
    | UnaryOp o y p =>
      cases o <;> simp only [chkE, reduceCtorEq] at h
      all_goals first | exact x_notT (i_a.t ok h (by simpa [tstE] using ht)) | cases h
    | _ => simp [chkE] at h
theorem zA_not (a : E) (i_a : Snd T a) {X : Cx} {W : WX} {c : Ctx} {xs : List Expr} (ok : Cok X T W c) (h : chkA c (.not a) xs = true) : PA X xs (trA X.K T W (ev c.fns (.not a))) := by
  cases xs <;> simp [chkA] at h
theorem zL_not (a : E) (i_a : Snd T a) {X : Cx} {W : WX} {c : Ctx} {op : BoolOp} {xs : List Expr} {pos : Pos} (ok : Cok X T W c) (h : chkL c op (.not a) xs = true) : PE X (.BoolOp op xs pos) (trC X.K T W (ev c.fns (.not a))) ∧ (tstE (.not a) = true → PW X (.BoolOp op xs pos) (trB X.K T W (ev c.fns (.not a)))) := by
  cases op <;> rcases xs with _ | ⟨x, _ | ⟨y, es⟩⟩ <;> simp [chkL] at h
theorem zO_not (a : E) (i_a : Snd T a) {X : Cx} {W : WX} {c : Ctx} {x : Option Expr} (ok : Cok X T W c) (h : chkO c (.not a) x = true) : PO X x (trP X.K T W (prt (.not a) (ev c.fns (.not a)))) := by
  cases x <;> simp [chkO] at h
theorem zD_not (a : E) (i_a : Snd T a) {X : Cx} {c : Ctx} {xs : List Expr} (ok : Cok X T W0 c) (h : chkD c (.not a) xs = true) : PTs X xs (trTs X.K T (dOpt c.fns (.not a))) := by
  rcases xs with _ | ⟨x, _ | ⟨y, es⟩⟩ <;> simp [chkD] at h
theorem zI_not (a : E) (i_a : Snd T a) {X : Cx} {W : WX} {c : Ctx} {t x : Expr} (ok : Cok X T W c) (h : chkI c (.not a) t x = true) : PI X t x (trI X.K T W (ev c.fns (.not a))) := by
  cases x <;> simp [chkI] at h
theorem zE_ife (t : E) (a : E) (b : E) (i_t : Snd T t) (i_a : Snd T a) (i_b : Snd T b) {X : Cx} {W : WX} {c : Ctx} {x : Expr} (ok : Cok X T W c) (h : chkE c (.ife t a b) x = true) : PE X x (trC X.K T W (ev c.fns (.ife t a b))) := by
    cases x with
    | IfExp u y z p =>
      simp only [chkE, Bool.and_eq_true] at h
      obtain ⟨⟨⟨h0, h1⟩, h2⟩, h3⟩ := h
      exact x_if (i_t.t ok h1 h0) (i_a.e ok h2) (i_b.e ok h3)
    | _ => simp [chkE] at h
theorem zT_ife (t : E) (a : E) (b : E) (i_t : Snd T t) (i_a : Snd T a) (i_b : Snd T b) {X : Cx} {W : WX} {c : Ctx} {x : Expr} (ok : Cok X T W c) (h : chkE c (.ife t a b) x = true) (ht : tstE (.ife t a b) = true) : PT X x (trB X.K T W (ev c.fns (.ife t a b))) := by
  simp [tstE] at ht
theorem zA_ife (t : E) (a : E) (b : E) (i_t : Snd T t) (i_a : Snd T a) (i_b : Snd T b) {X : Cx} {W : WX} {c : Ctx} {xs : List Expr} (ok : Cok X T W c) (h : chkA c (.ife t a b) xs = true) : PA X xs (trA X.K T W (ev c.fns (.ife t a b))) := by
  cases xs <;> simp [chkA] at h
theorem zL_ife (t : E) (a : E) (b : E) (i_t : Snd T t) (i_a : Snd T a) (i_b : Snd T b) {X : Cx} {W : WX} {c : Ctx} {op : BoolOp} {xs : List Expr} {pos : Pos} (ok : Cok X T W c) (h : chkL c op (.ife t a b) xs = true) : PE X (.BoolOp op xs pos) (trC X.K T W (ev c.fns (.ife t a b))) ∧ (tstE (.ife t a b) = true → PW X (.BoolOp op xs pos) (trB X.K T W (ev c.fns (.ife t a b)))) := by
  cases op <;> rcases xs with _ | ⟨x, _ | ⟨y, es⟩⟩ <;> simp [chkL] at h
theorem zO_ife (t : E) (a : E) (b : E) (i_t : Snd T t) (i_a : Snd T a) (i_b : Snd T b) {X : Cx} {W : WX} {c : Ctx} {x : Option Expr} (ok : Cok X T W c) (h : chkO c (.ife t a b) x = true) : PO X x (trP X.K T W (prt (.ife t a b) (ev c.fns (.ife t a b)))) := by
  cases x <;> simp [chkO] at h
theorem zD_ife (t : E) (a : E) (b : E) (i_t : Snd T t) (i_a : Snd T a) (i_b : Snd T b) {X : Cx} {c : Ctx} {xs : List Expr} (ok : Cok X T W0 c) (h : chkD c (.ife t a b) xs = true) : PTs X xs (trTs X.K T (dOpt c.fns (.ife t a b))) := by
  rcases xs with _ | ⟨x, _ | ⟨y, es⟩⟩ <;> simp [chkD] at h
theorem zI_ife (t0 : E) (a : E) (b : E) (i_t : Snd T t0) (i_a : Snd T a) (i_b : Snd T b) {X : Cx} {W : WX} {c : Ctx} {t x : Expr} (ok : Cok X T W c) (h : chkI c (.ife t0 a b) t x = true) : PI X t x (trI X.K T W (ev c.fns (.ife t0 a b))) := by
  cases x <;> simp [chkI] at h
theorem zE_nil {X : Cx} {W : WX} {c : Ctx} {x : Expr} (ok : Cok X T W c) (h : chkE c (.nil) x = true) : PE X x (trC X.K T W (ev c.fns (.nil))) := by
 cases x <;> simp [chkE] at h
theorem zT_nil {X : Cx} {W : WX} {c : Ctx} {x : Expr} (ok : Cok X T W c) (h : chkE c (.nil) x = true) (ht : tstE (.nil) = true) : PT X x (trB X.K T W (ev c.fns (.nil))) := x_valT (zE_nil ok h) (test_of (plain_of h rfl) _)
theorem zA_nil {X : Cx} {W : WX} {c : Ctx} {xs : List Expr} (ok : Cok X T W c) (h : chkA c (.nil) xs = true) : PA X xs (trA X.K T W (ev c.fns (.nil))) := by
    cases xs with
    | nil => exact x_nil
    | cons _ _ => simp [chkA] at h
theorem zL_nil {X : Cx} {W : WX} {c : Ctx} {op : BoolOp} {xs : List Expr} {pos : Pos} (ok : Cok X T W c) (h : chkL c op (.nil) xs = true) : PE X (.BoolOp op xs pos) (trC X.K T W (ev c.fns (.nil))) ∧ (tstE (.nil) = true → PW X (.BoolOp op xs pos) (trB X.K T W (ev c.fns (.nil)))) := by
  cases op <;> rcases xs with _ | ⟨x, _ | ⟨y, es⟩⟩ <;> simp [chkL] at h
theorem zO_nil {X : Cx} {W : WX} {c : Ctx} {x : Option Expr} (ok : Cok X T W c) (h : chkO c (.nil) x = true) : PO X x (trP X.K T W (prt (.nil) (ev c.fns (.nil)))) := by
    cases x with
    | none => exact x_part0
    | some _ => simp [chkO] at h
theorem zD_nil {X : Cx} {c : Ctx} {xs : List Expr} (ok : Cok X T W0 c) (h : chkD c (.nil) xs = true) : PTs X xs (trTs X.K T (dOpt c.fns (.nil))) := by
    cases xs with
    | nil => exact pts_nil
    | cons _ _ => simp [chkD] at h
theorem zI_nil {X : Cx} {W : WX} {c : Ctx} {t x : Expr} (ok : Cok X T W c) (h : chkI c (.nil) t x = true) : PI X t x (trI X.K T W (ev c.fns (.nil))) := by
  cases x <;> simp [chkI] at h
theorem zE_cons (a : E) (r : E) (i_a : Snd T a) (i_r : Snd T r) {X : Cx} {W : WX} {c : Ctx} {x : Expr} (ok : Cok X T W c) (h : chkE c (.cons a r) x = true) : PE X x (trC X.K T W (ev c.fns (.cons a r))) := by
 cases x <;> simp [chkE] at h
theorem zT_cons (a : E) (r : E) (i_a : Snd T a) (i_r : Snd T r) {X : Cx} {W : WX} {c : Ctx} {x : Expr} (ok : Cok X T W c) (h : chkE c (.cons a r) x = true) (ht : tstE (.cons a r) = true) : PT X x (trB X.K T W (ev c.fns (.cons a r))) := x_valT (zE_cons a r i_a i_r ok h) (test_of (plain_of h rfl) _)
theorem zA_cons (a : E) (r : E) (i_a : Snd T a) (i_r : Snd T r) {X : Cx} {W : WX} {c : Ctx} {xs : List Expr} (ok : Cok X T W c) (h : chkA c (.cons a r) xs = true) : PA X xs (trA X.K T W (ev c.fns (.cons a r))) := by
    cases xs with
    | nil => simp [chkA] at h
    | cons x xs =>
      simp only [chkA, Bool.and_eq_true] at h
      exact x_cons (i_a.e ok h.1.2) (i_r.a ok h.2) (star_of h.1.1 xs X.env)
theorem zL_cons (a : E) (r : E) (i_a : Snd T a) (i_r : Snd T r) {X : Cx} {W : WX} {c : Ctx} {op : BoolOp} {xs : List Expr} {pos : Pos} (ok : Cok X T W c) (h : chkL c op (.cons a r) xs = true) : PE X (.BoolOp op xs pos) (trC X.K T W (ev c.fns (.cons a r))) ∧ (tstE (.cons a r) = true → PW X (.BoolOp op xs pos) (trB X.K T W (ev c.fns (.cons a r)))) := by
  cases op <;> rcases xs with _ | ⟨x, _ | ⟨y, es⟩⟩ <;> simp [chkL] at h
theorem zO_cons (a : E) (r : E) (i_a : Snd T a) (i_r : Snd T r) {X : Cx} {W : WX} {c : Ctx} {x : Option Expr} (ok : Cok X T W c) (h : chkO c (.cons a r) x = true) : PO X x (trP X.K T W (prt (.cons a r) (ev c.fns (.cons a r)))) := by
  cases x <;> simp [chkO] at h
theorem zD_cons (a : E) (r : E) (i_a : Snd T a) (i_r : Snd T r) {X : Cx} {c : Ctx} {xs : List Expr} (ok : Cok X T W0 c) (h : chkD c (.cons a r) xs = true) : PTs X xs (trTs X.K T (dOpt c.fns (.cons a r))) := by
  rcases xs with _ | ⟨x, _ | ⟨y, es⟩⟩ <;> simp [chkD] at h
theorem zI_cons (a : E) (r : E) (i_a : Snd T a) (i_r : Snd T r) {X : Cx} {W : WX} {c : Ctx} {t x : Expr} (ok : Cok X T W c) (h : chkI c (.cons a r) t x = true) : PI X t x (trI X.K T W (ev c.fns (.cons a r))) := by
  cases x <;> simp [chkI] at h
theorem zE_tup (es : E) (i_es : Snd T es) {X : Cx} {W : WX} {c : Ctx} {x : Expr} (ok : Cok X T W c) (h : chkE c (.tup es) x = true) : PE X x (trC X.K T W (ev c.fns (.tup es))) := by
    cases x with
    | Tuple xs k p => exact x_tup (i_es.a ok (by simpa [chkE] using h))
    | _ => simp [chkE] at h
theorem zT_tup (es : E) (i_es : Snd T es) {X : Cx} {W : WX} {c : Ctx} {x : Expr} (ok : Cok X T W c) (h : chkE c (.tup es) x = true) (ht : tstE (.tup es) = true) : PT X x (trB X.K T W (ev c.fns (.tup es))) := x_valT (zE_tup es i_es ok h) (test_of (plain_of h rfl) _)
theorem zA_tup (es : E) (i_es : Snd T es) {X : Cx} {W : WX} {c : Ctx} {xs : List Expr} (ok : Cok X T W c) (h : chkA c (.tup es) xs = true) : PA X xs (trA X.K T W (ev c.fns (.tup es))) := by
  cases xs <;> simp [chkA] at h
theorem zL_tup (es : E) (i_es : Snd T es) {X : Cx} {W : WX} {c : Ctx} {op : BoolOp} {xs : List Expr} {pos : Pos} (ok : Cok X T W c) (h : chkL c op (.tup es) xs = true) : PE X (.BoolOp op xs pos) (trC X.K T W (ev c.fns (.tup es))) ∧ (tstE (.tup es) = true → PW X (.BoolOp op xs pos) (trB X.K T W (ev c.fns (.tup es)))) := by
  cases op <;> rcases xs with _ | ⟨x, _ | ⟨y, es⟩⟩ <;> simp [chkL] at h
theorem zO_tup (es : E) (i_es : Snd T es) {X : Cx} {W : WX} {c : Ctx} {x : Option Expr} (ok : Cok X T W c) (h : chkO c (.tup es) x = true) : PO X x (trP X.K T W (prt (.tup es) (ev c.fns (.tup es)))) := by
  cases x <;> simp [chkO] at h
theorem zD_tup (es : E) (i_es : Snd T es) {X : Cx} {c : Ctx} {xs : List Expr} (ok : Cok X T W0 c) (h : chkD c (.tup es) xs = true) : PTs X xs (trTs X.K T (dOpt c.fns (.tup es))) := by
  rcases xs with _ | ⟨x, _ | ⟨y, es⟩⟩ <;> simp [chkD] at h
theorem zI_tup (es : E) (i_es : Snd T es) {X : Cx} {W : WX} {c : Ctx} {t x : Expr} (ok : Cok X T W c) (h : chkI c (.tup es) t x = true) : PI X t x (trI X.K T W (ev c.fns (.tup es))) := by
  cases x <;> simp [chkI] at h
theorem zE_lst (es : E) (i_es : Snd T es) {X : Cx} {W : WX} {c : Ctx} {x : Expr} (ok : Cok X T W c) (h : chkE c (.lst es) x = true) : PE X x (trC X.K T W (ev c.fns (.lst es))) := by
    cases x with
    | List xs p => exact x_lst (i_es.a ok (by simpa [chkE] using h))
    | _ => simp [chkE] at h
theorem zT_lst (es : E) (i_es : Snd T es) {X : Cx} {W : WX} {c : Ctx} {x : Expr} (ok : Cok X T W c) (h : chkE c (.lst es) x = true) (ht : tstE (.lst es) = true) : PT X x (trB X.K T W (ev c.fns (.lst es))) := x_valT (zE_lst es i_es ok h) (test_of (plain_of h rfl) _)
theorem zA_lst (es : E) (i_es : Snd T es) {X : Cx} {W : WX} {c : Ctx} {xs : List Expr} (ok : Cok X T W c) (h : chkA c (.lst es) xs = true) : PA X xs (trA X.K T W (ev c.fns (.lst es))) := by
  cases xs <;> simp [chkA] at h
theorem zL_lst (es : E) (i_es : Snd T es) {X : Cx} {W : WX} {c : Ctx} {op : BoolOp} {xs : List Expr} {pos : Pos} (ok : Cok X T W c) (h : chkL c op (.lst es) xs = true) : PE X (.BoolOp op xs pos) (trC X.K T W (ev c.fns (.lst es))) ∧ (tstE (.lst es) = true → PW X (.BoolOp op xs pos) (trB X.K T W (ev c.fns (.lst es)))) := by
  cases op <;> rcases xs with _ | ⟨x, _ | ⟨y, es⟩⟩ <;> simp [chkL] at h
theorem zO_lst (es : E) (i_es : Snd T es) {X : Cx} {W : WX} {c : Ctx} {x : Option Expr} (ok : Cok X T W c) (h : chkO c (.lst es) x = true) : PO X x (trP X.K T W (prt (.lst es) (ev c.fns (.lst es)))) := by
  cases x <;> simp [chkO] at h
theorem zD_lst (es : E) (i_es : Snd T es) {X : Cx} {c : Ctx} {xs : List Expr} (ok : Cok X T W0 c) (h : chkD c (.lst es) xs = true) : PTs X xs (trTs X.K T (dOpt c.fns (.lst es))) := by
  rcases xs with _ | ⟨x, _ | ⟨y, es⟩⟩ <;> simp [chkD] at h
theorem zI_lst (es : E) (i_es : Snd T es) {X : Cx} {W : WX} {c : Ctx} {t x : Expr} (ok : Cok X T W c) (h : chkI c (.lst es) t x = true) : PI X t x (trI X.K T W (ev c.fns (.lst es))) := by
  cases x <;> simp [chkI] at h
theorem zE_call (f : Nat) (es : E) (i_es : Snd T es) {X : Cx} {W : WX} {c : Ctx} {x : Expr} (ok : Cok X T W c) (h : chkE c (.call f es) x = true) : PE X x (trC X.K T W (ev c.fns (.call f es))) := by
    cases x with
    | Call fn args kws p =>
      cases fn with
      | Name y q =>
        cases args with
        | nil =>
          cases kws with
          | cons _ _ => cases es <;> simp [chkE] at h
          | nil =>
            cases es with
            | nil =>
              simp only [chkE, Bool.and_eq_true, decide_eq_true_eq] at h
              obtain ⟨⟨⟨h1, h0⟩, h2⟩, h3⟩ := h
              cases hf : c.fns[f]? with
              | none => rw [List.getElem?_eq_none_iff] at hf; omega
              | some q2 =>
                obtain ⟨g, fd, ps, k, m1, m2, m3, m4, m5⟩ := ok.gk.fn f y q2 h1 hf
                have := x_call0 (T := T) (W := W) (p := q) (pos := p) ok.tk m4 m5 (gl_of ok h2) m1 m2 m3 (okN_of h3).1
                have ee : ev c.fns (.call f .nil) = fun ρ => q2.2 [] := by
                  funext ρ
                  rw [ev, ev]
                  show callF c.fns f [] = _
                  unfold callF
                  rw [hf]
                rw [ee]
                exact this
            | _ => simp [chkE] at h
        | cons z zs =>
          cases kws with
          | cons _ _ => simp [chkE] at h
          | nil =>
            simp only [chkE, Bool.and_eq_true, decide_eq_true_eq] at h
            obtain ⟨⟨⟨⟨h1, h0⟩, h2⟩, h3⟩, h4⟩ := h
            cases hf : c.fns[f]? with
            | none => rw [List.getElem?_eq_none_iff] at hf; omega
            | some q2 =>
              obtain ⟨g, fd, ps, k, m1, m2, m3, m4, m5⟩ := ok.gk.fn f y q2 h1 hf
              have hst : notStar z = true := by
                cases es <;> simp [chkA] at h4
                exact h4.1.1
              have hbk : (backTo p (starEach zs X.env)).any (·.1) = false := by
                cases es with
                | cons a r => simp only [chkA, Bool.and_eq_true] at h4; exact back_of h4.2
                | _ => simp [chkA] at h4
              have := x_call (T := T) (W := W) (p := q) (pos := p) ok.tk m4 m5 (gl_of ok h2) m1 m2 m3 (i_es.a ok h4) (okN_of h3).1 (star_of hst zs X.env) hbk
              have ee : ev c.fns (.call f es) = callG q2.2 (ev c.fns es) := by
                funext ρ
                rw [ev]
                unfold callG callF
                rw [hf]
              rw [ee]
              exact this
      | _ => simp [chkE] at h
    | _ => simp [chkE] at h
theorem zT_call (f : Nat) (es : E) (i_es : Snd T es) {X : Cx} {W : WX} {c : Ctx} {x : Expr} (ok : Cok X T W c) (h : chkE c (.call f es) x = true) (ht : tstE (.call f es) = true) : PT X x (trB X.K T W (ev c.fns (.call f es))) := x_valT (zE_call f es i_es ok h) (test_of (plain_of h rfl) _)
theorem zA_call (f : Nat) (es : E) (i_es : Snd T es) {X : Cx} {W : WX} {c : Ctx} {xs : List Expr} (ok : Cok X T W c) (h : chkA c (.call f es) xs = true) : PA X xs (trA X.K T W (ev c.fns (.call f es))) := by
  cases xs <;> simp [chkA] at h
theorem zL_call (f : Nat) (es : E) (i_es : Snd T es) {X : Cx} {W : WX} {c : Ctx} {op : BoolOp} {xs : List Expr} {pos : Pos} (ok : Cok X T W c) (h : chkL c op (.call f es) xs = true) : PE X (.BoolOp op xs pos) (trC X.K T W (ev c.fns (.call f es))) ∧ (tstE (.call f es) = true → PW X (.BoolOp op xs pos) (trB X.K T W (ev c.fns (.call f es)))) := by
  cases op <;> rcases xs with _ | ⟨x, _ | ⟨y, es⟩⟩ <;> simp [chkL] at h
theorem zO_call (f : Nat) (es : E) (i_es : Snd T es) {X : Cx} {W : WX} {c : Ctx} {x : Option Expr} (ok : Cok X T W c) (h : chkO c (.call f es) x = true) : PO X x (trP X.K T W (prt (.call f es) (ev c.fns (.call f es)))) := by
  cases x <;> simp [chkO] at h
theorem zD_call (f : Nat) (es : E) (i_es : Snd T es) {X : Cx} {c : Ctx} {xs : List Expr} (ok : Cok X T W0 c) (h : chkD c (.call f es) xs = true) : PTs X xs (trTs X.K T (dOpt c.fns (.call f es))) := by
  rcases xs with _ | ⟨x, _ | ⟨y, es⟩⟩ <;> simp [chkD] at h
theorem zI_call (f : Nat) (es : E) (i_es : Snd T es) {X : Cx} {W : WX} {c : Ctx} {t x : Expr} (ok : Cok X T W c) (h : chkI c (.call f es) t x = true) : PI X t x (trI X.K T W (ev c.fns (.call f es))) := by
  cases x <;> simp [chkI] at h
theorem zE_blt1 (b : Blt) (a : E) (i_a : Snd T a) {X : Cx} {W : WX} {c : Ctx} {x : Expr} (ok : Cok X T W c) (h : chkE c (.blt1 b a) x = true) : PE X x (trC X.K T W (ev c.fns (.blt1 b a))) := by
    cases x with
    | Call fn args kws p =>
      cases fn with
      | Name y q =>
        rcases args with _ | ⟨z, _ | ⟨z2, zs⟩⟩
        · simp [chkE] at h
        · cases kws with
          | cons _ _ => simp [chkE] at h
          | nil =>
            simp only [chkE, Bool.and_eq_true, decide_eq_true_eq] at h
            obtain ⟨⟨⟨rfl, h1⟩, h2⟩, h3⟩ := h
            exact x_blt1 b ok.calm (gl_of ok h1) (blt_of ok (nm_mem b)) (opd_of ok h3 (i_a.e ok h3)) (star_of h2 [] X.env)
        · simp [chkE] at h
      | _ => simp [chkE] at h
    | _ => simp [chkE] at h
theorem zT_blt1 (b : Blt) (a : E) (i_a : Snd T a) {X : Cx} {W : WX} {c : Ctx} {x : Expr} (ok : Cok X T W c) (h : chkE c (.blt1 b a) x = true) (ht : tstE (.blt1 b a) = true) : PT X x (trB X.K T W (ev c.fns (.blt1 b a))) := x_valT (zE_blt1 b a i_a ok h) (test_of (plain_of h rfl) _)
theorem zA_blt1 (b : Blt) (a : E) (i_a : Snd T a) {X : Cx} {W : WX} {c : Ctx} {xs : List Expr} (ok : Cok X T W c) (h : chkA c (.blt1 b a) xs = true) : PA X xs (trA X.K T W (ev c.fns (.blt1 b a))) := by
  cases xs <;> simp [chkA] at h
theorem zL_blt1 (b : Blt) (a : E) (i_a : Snd T a) {X : Cx} {W : WX} {c : Ctx} {op : BoolOp} {xs : List Expr} {pos : Pos} (ok : Cok X T W c) (h : chkL c op (.blt1 b a) xs = true) : PE X (.BoolOp op xs pos) (trC X.K T W (ev c.fns (.blt1 b a))) ∧ (tstE (.blt1 b a) = true → PW X (.BoolOp op xs pos) (trB X.K T W (ev c.fns (.blt1 b a)))) := by
  cases op <;> rcases xs with _ | ⟨x, _ | ⟨y, es⟩⟩ <;> simp [chkL] at h
theorem zO_blt1 (b : Blt) (a : E) (i_a : Snd T a) {X : Cx} {W : WX} {c : Ctx} {x : Option Expr} (ok : Cok X T W c) (h : chkO c (.blt1 b a) x = true) : PO X x (trP X.K T W (prt (.blt1 b a) (ev c.fns (.blt1 b a)))) := by
  cases x <;> simp [chkO] at h
theorem zD_blt1 (b : Blt) (a : E) (i_a : Snd T a) {X : Cx} {c : Ctx} {xs : List Expr} (ok : Cok X T W0 c) (h : chkD c (.blt1 b a) xs = true) : PTs X xs (trTs X.K T (dOpt c.fns (.blt1 b a))) := by
  rcases xs with _ | ⟨x, _ | ⟨y, es⟩⟩ <;> simp [chkD] at h
theorem zI_blt1 (b : Blt) (a : E) (i_a : Snd T a) {X : Cx} {W : WX} {c : Ctx} {t x : Expr} (ok : Cok X T W c) (h : chkI c (.blt1 b a) t x = true) : PI X t x (trI X.K T W (ev c.fns (.blt1 b a))) := by
  cases x <;> simp [chkI] at h
theorem zE_blt2 (b : Blt) (a : E) (d : E) (i_a : Snd T a) (i_d : Snd T d) {X : Cx} {W : WX} {c : Ctx} {x : Expr} (ok : Cok X T W c) (h : chkE c (.blt2 b a d) x = true) : PE X x (trC X.K T W (ev c.fns (.blt2 b a d))) := by
    cases x with
    | Call fn args kws p =>
      cases fn with
      | Name y q =>
        rcases args with _ | ⟨z, _ | ⟨z2, _ | ⟨z3, zs⟩⟩⟩
        · simp [chkE] at h
        · simp [chkE] at h
        · cases kws with
          | cons _ _ => simp [chkE] at h
          | nil =>
            simp only [chkE, Bool.and_eq_true, decide_eq_true_eq] at h
            obtain ⟨⟨⟨⟨⟨rfl, h1⟩, h2⟩, h3⟩, h4⟩, h5⟩ := h
            exact x_blt2 b ok.calm (gl_of ok h1) (blt_of ok (nm_mem b)) (opd_of ok h4 (i_a.e ok h4)) (opd_of ok h5 (i_d.e ok h5)) (star_of h2 [z2] X.env) (star_of h3 [] X.env)
        · simp [chkE] at h
      | _ => simp [chkE] at h
    | _ => simp [chkE] at h
theorem zT_blt2 (b : Blt) (a : E) (d : E) (i_a : Snd T a) (i_d : Snd T d) {X : Cx} {W : WX} {c : Ctx} {x : Expr} (ok : Cok X T W c) (h : chkE c (.blt2 b a d) x = true) (ht : tstE (.blt2 b a d) = true) : PT X x (trB X.K T W (ev c.fns (.blt2 b a d))) := x_valT (zE_blt2 b a d i_a i_d ok h) (test_of (plain_of h rfl) _)
theorem zA_blt2 (b : Blt) (a : E) (d : E) (i_a : Snd T a) (i_d : Snd T d) {X : Cx} {W : WX} {c : Ctx} {xs : List Expr} (ok : Cok X T W c) (h : chkA c (.blt2 b a d) xs = true) : PA X xs (trA X.K T W (ev c.fns (.blt2 b a d))) := by
  cases xs <;> simp [chkA] at h
theorem zL_blt2 (b : Blt) (a : E) (d : E) (i_a : Snd T a) (i_d : Snd T d) {X : Cx} {W : WX} {c : Ctx} {op : BoolOp} {xs : List Expr} {pos : Pos} (ok : Cok X T W c) (h : chkL c op (.blt2 b a d) xs = true) : PE X (.BoolOp op xs pos) (trC X.K T W (ev c.fns (.blt2 b a d))) ∧ (tstE (.blt2 b a d) = true → PW X (.BoolOp op xs pos) (trB X.K T W (ev c.fns (.blt2 b a d)))) := by
  cases op <;> rcases xs with _ | ⟨x, _ | ⟨y, es⟩⟩ <;> simp [chkL] at h
theorem zO_blt2 (b : Blt) (a : E) (d : E) (i_a : Snd T a) (i_d : Snd T d) {X : Cx} {W : WX} {c : Ctx} {x : Option Expr} (ok : Cok X T W c) (h : chkO c (.blt2 b a d) x = true) : PO X x (trP X.K T W (prt (.blt2 b a d) (ev c.fns (.blt2 b a d)))) := by
  cases x <;> simp [chkO] at h
theorem zD_blt2 (b : Blt) (a : E) (d : E) (i_a : Snd T a) (i_d : Snd T d) {X : Cx} {c : Ctx} {xs : List Expr} (ok : Cok X T W0 c) (h : chkD c (.blt2 b a d) xs = true) : PTs X xs (trTs X.K T (dOpt c.fns (.blt2 b a d))) := by
  rcases xs with _ | ⟨x, _ | ⟨y, es⟩⟩ <;> simp [chkD] at h
theorem zI_blt2 (b : Blt) (a : E) (d : E) (i_a : Snd T a) (i_d : Snd T d) {X : Cx} {W : WX} {c : Ctx} {t x : Expr} (ok : Cok X T W c) (h : chkI c (.blt2 b a d) t x = true) : PI X t x (trI X.K T W (ev c.fns (.blt2 b a d))) := by
  cases x <;> simp [chkI] at h
theorem zE_fin (a : E) (i_a : Snd T a) {X : Cx} {W : WX} {c : Ctx} {x : Expr} (ok : Cok X T W c) (h : chkE c (.fin a) x = true) : PE X x (trC X.K T W (ev c.fns (.fin a))) := by
  cases x <;> simp [chkE] at h
theorem zT_fin (a : E) (i_a : Snd T a) {X : Cx} {W : WX} {c : Ctx} {x : Expr} (ok : Cok X T W c) (h : chkE c (.fin a) x = true) (ht : tstE (.fin a) = true) : PT X x (trB X.K T W (ev c.fns (.fin a))) := x_valT (zE_fin a i_a ok h) (test_of (plain_of h rfl) _)
theorem zA_fin (a : E) (i_a : Snd T a) {X : Cx} {W : WX} {c : Ctx} {xs : List Expr} (ok : Cok X T W c) (h : chkA c (.fin a) xs = true) : PA X xs (trA X.K T W (ev c.fns (.fin a))) := by
  cases xs <;> simp [chkA] at h
theorem zL_fin (a : E) (i_a : Snd T a) {X : Cx} {W : WX} {c : Ctx} {op : BoolOp} {xs : List Expr} {pos : Pos} (ok : Cok X T W c) (h : chkL c op (.fin a) xs = true) : PE X (.BoolOp op xs pos) (trC X.K T W (ev c.fns (.fin a))) ∧ (tstE (.fin a) = true → PW X (.BoolOp op xs pos) (trB X.K T W (ev c.fns (.fin a)))) := by
    rcases xs with _ | ⟨x, _ | ⟨y, es⟩⟩
    · cases op <;> simp [chkL] at h
    · have h : chkE c a x = true := by cases op <;> simpa [chkL] using h
      refine ⟨?_, fun ht => ?_⟩
      · have := i_a.e ok h
        rw [show ev c.fns (.fin a) = ev c.fns a from by funext ρ; rw [ev]]
        exact pe_one this
      · have := i_a.t ok h (by simpa [tstE] using ht)
        rw [show ev c.fns (.fin a) = ev c.fns a from by funext ρ; rw [ev]]
        cases op with
        | And => exact pw_and1 this
        | Or => exact pw_or1 this
    · cases op <;> simp [chkL] at h
theorem zO_fin (a : E) (i_a : Snd T a) {X : Cx} {W : WX} {c : Ctx} {x : Option Expr} (ok : Cok X T W c) (h : chkO c (.fin a) x = true) : PO X x (trP X.K T W (prt (.fin a) (ev c.fns (.fin a)))) := by
    cases x with
    | none => simp [chkO] at h
    | some y =>
      have := x_part1 (i_a.e ok (by simpa [chkO] using h))
      have ee : prt (.fin a) (ev c.fns (.fin a)) = fun ρ => (ev c.fns a ρ).bind fun x => (asI x).bind fun i => .ok (some i) := by
        funext ρ
        unfold prt
        rw [ev]
      rw [ee]
      exact this
theorem zD_fin (a : E) (i_a : Snd T a) {X : Cx} {c : Ctx} {xs : List Expr} (ok : Cok X T W0 c) (h : chkD c (.fin a) xs = true) : PTs X xs (trTs X.K T (dOpt c.fns (.fin a))) := by
    rcases xs with _ | ⟨x, _ | ⟨y, es⟩⟩
    · simp [chkD] at h
    · simp only [chkD, Bool.and_eq_true] at h
      have := i_a.t ok h.2 h.1
      show PTs X [x] (trB X.K T W0 (ev c.fns (.fin a)))
      rw [show ev c.fns (.fin a) = ev c.fns a from by funext ρ; rw [ev]]
      exact pts_one this
    · simp [chkD] at h
theorem zI_fin (a : E) (i_a : Snd T a) {X : Cx} {W : WX} {c : Ctx} {t x : Expr} (ok : Cok X T W c) (h : chkI c (.fin a) t x = true) : PI X t x (trI X.K T W (ev c.fns (.fin a))) := by
  cases x <;> simp [chkI] at h
theorem zE_isi (a : E) (t : Ty) (i_a : Snd T a) {X : Cx} {W : WX} {c : Ctx} {x : Expr} (ok : Cok X T W c) (h : chkE c (.isi a t) x = true) : PE X x (trC X.K T W (ev c.fns (.isi a t))) := by
    cases x with
    | Call fn args kws p =>
      cases fn with
      | Name y q =>
        rcases args with _ | ⟨z, _ | ⟨z2, _ | ⟨z3, zs⟩⟩⟩
        · simp [chkE] at h
        · simp [chkE] at h
        · cases kws with
          | cons _ _ => cases z2 <;> simp [chkE] at h
          | nil =>
            cases z2 with
            | Name w q2 =>
              simp only [chkE, Bool.and_eq_true, decide_eq_true_eq] at h
              obtain ⟨⟨⟨⟨⟨rfl, h1⟩, rfl⟩, h2⟩, h3⟩, h4⟩ := h
              exact x_isi t (gl_of ok h1) (blt_of ok (by decide)) (gl_of ok h2) (blt_of ok (ty_mem t)) (opd_of ok h4 (i_a.e ok h4)) (star_of h3 _ X.env)
            | _ => simp [chkE] at h
        · cases z2 <;> simp [chkE] at h
      | _ => simp [chkE] at h
    | _ => simp [chkE] at h
theorem zT_isi (a : E) (t : Ty) (i_a : Snd T a) {X : Cx} {W : WX} {c : Ctx} {x : Expr} (ok : Cok X T W c) (h : chkE c (.isi a t) x = true) (ht : tstE (.isi a t) = true) : PT X x (trB X.K T W (ev c.fns (.isi a t))) := x_valT (zE_isi a t i_a ok h) (test_of (plain_of h rfl) _)
theorem zA_isi (a : E) (t : Ty) (i_a : Snd T a) {X : Cx} {W : WX} {c : Ctx} {xs : List Expr} (ok : Cok X T W c) (h : chkA c (.isi a t) xs = true) : PA X xs (trA X.K T W (ev c.fns (.isi a t))) := by
  cases xs <;> simp [chkA] at h
theorem zL_isi (a : E) (t : Ty) (i_a : Snd T a) {X : Cx} {W : WX} {c : Ctx} {op : BoolOp} {xs : List Expr} {pos : Pos} (ok : Cok X T W c) (h : chkL c op (.isi a t) xs = true) : PE X (.BoolOp op xs pos) (trC X.K T W (ev c.fns (.isi a t))) ∧ (tstE (.isi a t) = true → PW X (.BoolOp op xs pos) (trB X.K T W (ev c.fns (.isi a t)))) := by
  cases op <;> rcases xs with _ | ⟨x, _ | ⟨y, es⟩⟩ <;> simp [chkL] at h
theorem zO_isi (a : E) (t : Ty) (i_a : Snd T a) {X : Cx} {W : WX} {c : Ctx} {x : Option Expr} (ok : Cok X T W c) (h : chkO c (.isi a t) x = true) : PO X x (trP X.K T W (prt (.isi a t) (ev c.fns (.isi a t)))) := by
  cases x <;> simp [chkO] at h
theorem zD_isi (a : E) (t : Ty) (i_a : Snd T a) {X : Cx} {c : Ctx} {xs : List Expr} (ok : Cok X T W0 c) (h : chkD c (.isi a t) xs = true) : PTs X xs (trTs X.K T (dOpt c.fns (.isi a t))) := by
  rcases xs with _ | ⟨x, _ | ⟨y, es⟩⟩ <;> simp [chkD] at h
theorem zI_isi (a : E) (t0 : Ty) (i_a : Snd T a) {X : Cx} {W : WX} {c : Ctx} {t x : Expr} (ok : Cok X T W c) (h : chkI c (.isi a t0) t x = true) : PI X t x (trI X.K T W (ev c.fns (.isi a t0))) := by
  cases x <;> simp [chkI] at h
theorem zE_ix (a : E) (b : E) (i_a : Snd T a) (i_b : Snd T b) {X : Cx} {W : WX} {c : Ctx} {x : Expr} (ok : Cok X T W c) (h : chkE c (.ix a b) x = true) : PE X x (trC X.K T W (ev c.fns (.ix a b))) := by
    cases x with
    | Subscript l r p =>
      simp only [chkE, Bool.and_eq_true] at h
      exact x_ix ok.gk.room (opd_of ok h.1.1 (i_a.e ok h.1.1)) (opd_of ok h.1.2 (i_b.e ok h.1.2)) (ix_of h.2)
    | _ => simp [chkE] at h
theorem zT_ix (a : E) (b : E) (i_a : Snd T a) (i_b : Snd T b) {X : Cx} {W : WX} {c : Ctx} {x : Expr} (ok : Cok X T W c) (h : chkE c (.ix a b) x = true) (ht : tstE (.ix a b) = true) : PT X x (trB X.K T W (ev c.fns (.ix a b))) := x_valT (zE_ix a b i_a i_b ok h) (test_of (plain_of h rfl) _)
theorem zA_ix (a : E) (b : E) (i_a : Snd T a) (i_b : Snd T b) {X : Cx} {W : WX} {c : Ctx} {xs : List Expr} (ok : Cok X T W c) (h : chkA c (.ix a b) xs = true) : PA X xs (trA X.K T W (ev c.fns (.ix a b))) := by
  cases xs <;> simp [chkA] at h
theorem zL_ix (a : E) (b : E) (i_a : Snd T a) (i_b : Snd T b) {X : Cx} {W : WX} {c : Ctx} {op : BoolOp} {xs : List Expr} {pos : Pos} (ok : Cok X T W c) (h : chkL c op (.ix a b) xs = true) : PE X (.BoolOp op xs pos) (trC X.K T W (ev c.fns (.ix a b))) ∧ (tstE (.ix a b) = true → PW X (.BoolOp op xs pos) (trB X.K T W (ev c.fns (.ix a b)))) := by
  cases op <;> rcases xs with _ | ⟨x, _ | ⟨y, es⟩⟩ <;> simp [chkL] at h
theorem zO_ix (a : E) (b : E) (i_a : Snd T a) (i_b : Snd T b) {X : Cx} {W : WX} {c : Ctx} {x : Option Expr} (ok : Cok X T W c) (h : chkO c (.ix a b) x = true) : PO X x (trP X.K T W (prt (.ix a b) (ev c.fns (.ix a b)))) := by
  cases x <;> simp [chkO] at h
theorem zD_ix (a : E) (b : E) (i_a : Snd T a) (i_b : Snd T b) {X : Cx} {c : Ctx} {xs : List Expr} (ok : Cok X T W0 c) (h : chkD c (.ix a b) xs = true) : PTs X xs (trTs X.K T (dOpt c.fns (.ix a b))) := by
  rcases xs with _ | ⟨x, _ | ⟨y, es⟩⟩ <;> simp [chkD] at h
theorem zI_ix (a : E) (b : E) (i_a : Snd T a) (i_b : Snd T b) {X : Cx} {W : WX} {c : Ctx} {t x : Expr} (ok : Cok X T W c) (h : chkI c (.ix a b) t x = true) : PI X t x (trI X.K T W (ev c.fns (.ix a b))) := by
  cases x <;> simp [chkI] at h
theorem zE_sl (a : E) (lo : E) (hi : E) (i_a : Snd T a) (i_lo : Snd T lo) (i_hi : Snd T hi) {X : Cx} {W : WX} {c : Ctx} {x : Expr} (ok : Cok X T W c) (h : chkE c (.sl a lo hi) x = true) : PE X x (trC X.K T W (ev c.fns (.sl a lo hi))) := by
    cases x with
    | Subscript l r p =>
      cases r with
      | Slice u v w q =>
        cases w with
        | none =>
          simp only [chkE, Bool.and_eq_true] at h
          rw [ev_sl]
          exact x_sl (opd_of ok h.1.1 (i_a.e ok h.1.1)) (i_lo.o ok h.1.2) (i_hi.o ok h.2)
        | some _ => simp [chkE] at h
      | _ => simp [chkE] at h
    | _ => simp [chkE] at h
theorem zT_sl (a : E) (lo : E) (hi : E) (i_a : Snd T a) (i_lo : Snd T lo) (i_hi : Snd T hi) {X : Cx} {W : WX} {c : Ctx} {x : Expr} (ok : Cok X T W c) (h : chkE c (.sl a lo hi) x = true) (ht : tstE (.sl a lo hi) = true) : PT X x (trB X.K T W (ev c.fns (.sl a lo hi))) := x_valT (zE_sl a lo hi i_a i_lo i_hi ok h) (test_of (plain_of h rfl) _)
theorem zA_sl (a : E) (lo : E) (hi : E) (i_a : Snd T a) (i_lo : Snd T lo) (i_hi : Snd T hi) {X : Cx} {W : WX} {c : Ctx} {xs : List Expr} (ok : Cok X T W c) (h : chkA c (.sl a lo hi) xs = true) : PA X xs (trA X.K T W (ev c.fns (.sl a lo hi))) := by
  cases xs <;> simp [chkA] at h
theorem zL_sl (a : E) (lo : E) (hi : E) (i_a : Snd T a) (i_lo : Snd T lo) (i_hi : Snd T hi) {X : Cx} {W : WX} {c : Ctx} {op : BoolOp} {xs : List Expr} {pos : Pos} (ok : Cok X T W c) (h : chkL c op (.sl a lo hi) xs = true) : PE X (.BoolOp op xs pos) (trC X.K T W (ev c.fns (.sl a lo hi))) ∧ (tstE (.sl a lo hi) = true → PW X (.BoolOp op xs pos) (trB X.K T W (ev c.fns (.sl a lo hi)))) := by
  cases op <;> rcases xs with _ | ⟨x, _ | ⟨y, es⟩⟩ <;> simp [chkL] at h
theorem zO_sl (a : E) (lo : E) (hi : E) (i_a : Snd T a) (i_lo : Snd T lo) (i_hi : Snd T hi) {X : Cx} {W : WX} {c : Ctx} {x : Option Expr} (ok : Cok X T W c) (h : chkO c (.sl a lo hi) x = true) : PO X x (trP X.K T W (prt (.sl a lo hi) (ev c.fns (.sl a lo hi)))) := by
  cases x <;> simp [chkO] at h
theorem zD_sl (a : E) (lo : E) (hi : E) (i_a : Snd T a) (i_lo : Snd T lo) (i_hi : Snd T hi) {X : Cx} {c : Ctx} {xs : List Expr} (ok : Cok X T W0 c) (h : chkD c (.sl a lo hi) xs = true) : PTs X xs (trTs X.K T (dOpt c.fns (.sl a lo hi))) := by
  rcases xs with _ | ⟨x, _ | ⟨y, es⟩⟩ <;> simp [chkD] at h
theorem zI_sl (a : E) (lo : E) (hi : E) (i_a : Snd T a) (i_lo : Snd T lo) (i_hi : Snd T hi) {X : Cx} {W : WX} {c : Ctx} {t x : Expr} (ok : Cok X T W c) (h : chkI c (.sl a lo hi) t x = true) : PI X t x (trI X.K T W (ev c.fns (.sl a lo hi))) := by
  cases x <;> simp [chkI] at h
theorem zE_rev (a : E) (i_a : Snd T a) {X : Cx} {W : WX} {c : Ctx} {x : Expr} (ok : Cok X T W c) (h : chkE c (.rev a) x = true) : PE X x (trC X.K T W (ev c.fns (.rev a))) := by
    obtain ⟨l, k, p1, p2, p3, p, rfl, h1⟩ := rev_inv h
    exact x_rev (opd_of ok h1 (i_a.e ok h1))
theorem zT_rev (a : E) (i_a : Snd T a) {X : Cx} {W : WX} {c : Ctx} {x : Expr} (ok : Cok X T W c) (h : chkE c (.rev a) x = true) (ht : tstE (.rev a) = true) : PT X x (trB X.K T W (ev c.fns (.rev a))) := x_valT (zE_rev a i_a ok h) (test_of (plain_of h rfl) _)
theorem zA_rev (a : E) (i_a : Snd T a) {X : Cx} {W : WX} {c : Ctx} {xs : List Expr} (ok : Cok X T W c) (h : chkA c (.rev a) xs = true) : PA X xs (trA X.K T W (ev c.fns (.rev a))) := by
  cases xs <;> simp [chkA] at h
theorem zL_rev (a : E) (i_a : Snd T a) {X : Cx} {W : WX} {c : Ctx} {op : BoolOp} {xs : List Expr} {pos : Pos} (ok : Cok X T W c) (h : chkL c op (.rev a) xs = true) : PE X (.BoolOp op xs pos) (trC X.K T W (ev c.fns (.rev a))) ∧ (tstE (.rev a) = true → PW X (.BoolOp op xs pos) (trB X.K T W (ev c.fns (.rev a)))) := by
  cases op <;> rcases xs with _ | ⟨x, _ | ⟨y, es⟩⟩ <;> simp [chkL] at h
theorem zO_rev (a : E) (i_a : Snd T a) {X : Cx} {W : WX} {c : Ctx} {x : Option Expr} (ok : Cok X T W c) (h : chkO c (.rev a) x = true) : PO X x (trP X.K T W (prt (.rev a) (ev c.fns (.rev a)))) := by
  cases x <;> simp [chkO] at h
theorem zD_rev (a : E) (i_a : Snd T a) {X : Cx} {c : Ctx} {xs : List Expr} (ok : Cok X T W0 c) (h : chkD c (.rev a) xs = true) : PTs X xs (trTs X.K T (dOpt c.fns (.rev a))) := by
  rcases xs with _ | ⟨x, _ | ⟨y, es⟩⟩ <;> simp [chkD] at h
theorem zI_rev (a : E) (i_a : Snd T a) {X : Cx} {W : WX} {c : Ctx} {t x : Expr} (ok : Cok X T W c) (h : chkI c (.rev a) t x = true) : PI X t x (trI X.K T W (ev c.fns (.rev a))) := by
  cases x <;> simp [chkI] at h
theorem zE_lrng1 (b : E) (i_b : Snd T b) {X : Cx} {W : WX} {c : Ctx} {x : Expr} (ok : Cok X T W c) (h : chkE c (.lrng1 b) x = true) : PE X x (trC X.K T W (ev c.fns (.lrng1 b))) := by
    obtain ⟨p1, p2, p3, p4, v, rfl, h1, h2, h4, h6⟩ := lrng1_inv h
    exact (x_lrng1 ok.calm (gl_of ok h1) (blt_of ok (by decide)) (gl_of ok h2) (blt_of ok (by decide)) (i_b.e ok h6) (star_of h4 [] X.env)).1
theorem zT_lrng1 (b : E) (i_b : Snd T b) {X : Cx} {W : WX} {c : Ctx} {x : Expr} (ok : Cok X T W c) (h : chkE c (.lrng1 b) x = true) (ht : tstE (.lrng1 b) = true) : PT X x (trB X.K T W (ev c.fns (.lrng1 b))) := x_valT (zE_lrng1 b i_b ok h) (test_of (plain_of h rfl) _)
theorem zA_lrng1 (b : E) (i_b : Snd T b) {X : Cx} {W : WX} {c : Ctx} {xs : List Expr} (ok : Cok X T W c) (h : chkA c (.lrng1 b) xs = true) : PA X xs (trA X.K T W (ev c.fns (.lrng1 b))) := by
  cases xs <;> simp [chkA] at h
theorem zL_lrng1 (b : E) (i_b : Snd T b) {X : Cx} {W : WX} {c : Ctx} {op : BoolOp} {xs : List Expr} {pos : Pos} (ok : Cok X T W c) (h : chkL c op (.lrng1 b) xs = true) : PE X (.BoolOp op xs pos) (trC X.K T W (ev c.fns (.lrng1 b))) ∧ (tstE (.lrng1 b) = true → PW X (.BoolOp op xs pos) (trB X.K T W (ev c.fns (.lrng1 b)))) := by
  cases op <;> rcases xs with _ | ⟨x, _ | ⟨y, es⟩⟩ <;> simp [chkL] at h
theorem zO_lrng1 (b : E) (i_b : Snd T b) {X : Cx} {W : WX} {c : Ctx} {x : Option Expr} (ok : Cok X T W c) (h : chkO c (.lrng1 b) x = true) : PO X x (trP X.K T W (prt (.lrng1 b) (ev c.fns (.lrng1 b)))) := by
  cases x <;> simp [chkO] at h
theorem zD_lrng1 (b : E) (i_b : Snd T b) {X : Cx} {c : Ctx} {xs : List Expr} (ok : Cok X T W0 c) (h : chkD c (.lrng1 b) xs = true) : PTs X xs (trTs X.K T (dOpt c.fns (.lrng1 b))) := by
  rcases xs with _ | ⟨x, _ | ⟨y, es⟩⟩ <;> simp [chkD] at h
theorem zI_lrng1 (b : E) (i_b : Snd T b) {X : Cx} {W : WX} {c : Ctx} {t x : Expr} (ok : Cok X T W c) (h : chkI c (.lrng1 b) t x = true) : PI X t x (trI X.K T W (ev c.fns (.lrng1 b))) := by
  cases x <;> simp [chkI] at h
theorem zE_lrng (a : E) (b : E) (i_a : Snd T a) (i_b : Snd T b) {X : Cx} {W : WX} {c : Ctx} {x : Expr} (ok : Cok X T W c) (h : chkE c (.lrng a b) x = true) : PE X x (trC X.K T W (ev c.fns (.lrng a b))) := by
    obtain ⟨p1, p2, p3, p4, u, v, rfl, h1, h2, h3, h4, h5, h6⟩ := lrng_inv h
    exact (x_lrng ok.calm (gl_of ok h1) (blt_of ok (by decide)) (gl_of ok h2) (blt_of ok (by decide)) (i_a.e ok h5) (i_b.e ok h6) (star_of h3 [v] X.env) (star_of h4 [] X.env)).1
theorem zT_lrng (a : E) (b : E) (i_a : Snd T a) (i_b : Snd T b) {X : Cx} {W : WX} {c : Ctx} {x : Expr} (ok : Cok X T W c) (h : chkE c (.lrng a b) x = true) (ht : tstE (.lrng a b) = true) : PT X x (trB X.K T W (ev c.fns (.lrng a b))) := x_valT (zE_lrng a b i_a i_b ok h) (test_of (plain_of h rfl) _)
theorem zA_lrng (a : E) (b : E) (i_a : Snd T a) (i_b : Snd T b) {X : Cx} {W : WX} {c : Ctx} {xs : List Expr} (ok : Cok X T W c) (h : chkA c (.lrng a b) xs = true) : PA X xs (trA X.K T W (ev c.fns (.lrng a b))) := by
  cases xs <;> simp [chkA] at h
theorem zL_lrng (a : E) (b : E) (i_a : Snd T a) (i_b : Snd T b) {X : Cx} {W : WX} {c : Ctx} {op : BoolOp} {xs : List Expr} {pos : Pos} (ok : Cok X T W c) (h : chkL c op (.lrng a b) xs = true) : PE X (.BoolOp op xs pos) (trC X.K T W (ev c.fns (.lrng a b))) ∧ (tstE (.lrng a b) = true → PW X (.BoolOp op xs pos) (trB X.K T W (ev c.fns (.lrng a b)))) := by
  cases op <;> rcases xs with _ | ⟨x, _ | ⟨y, es⟩⟩ <;> simp [chkL] at h
theorem zO_lrng (a : E) (b : E) (i_a : Snd T a) (i_b : Snd T b) {X : Cx} {W : WX} {c : Ctx} {x : Option Expr} (ok : Cok X T W c) (h : chkO c (.lrng a b) x = true) : PO X x (trP X.K T W (prt (.lrng a b) (ev c.fns (.lrng a b)))) := by
  cases x <;> simp [chkO] at h
theorem zD_lrng (a : E) (b : E) (i_a : Snd T a) (i_b : Snd T b) {X : Cx} {c : Ctx} {xs : List Expr} (ok : Cok X T W0 c) (h : chkD c (.lrng a b) xs = true) : PTs X xs (trTs X.K T (dOpt c.fns (.lrng a b))) := by
  rcases xs with _ | ⟨x, _ | ⟨y, es⟩⟩ <;> simp [chkD] at h
theorem zI_lrng (a : E) (b : E) (i_a : Snd T a) (i_b : Snd T b) {X : Cx} {W : WX} {c : Ctx} {t x : Expr} (ok : Cok X T W c) (h : chkI c (.lrng a b) t x = true) : PI X t x (trI X.K T W (ev c.fns (.lrng a b))) := by
  cases x <;> simp [chkI] at h
theorem zE_comp (e : E) (g : Tg) (it : E) (d : E) (i_e : Snd T e) (i_it : Snd T it) (i_d : Snd T d) {X : Cx} {W : WX} {c : Ctx} {x : Expr} (ok : Cok X T W c) (h : chkE c (.comp e g it d) x = true) : PE X x (trC X.K T W (ev c.fns (.comp e g it d))) := by
    obtain ⟨elt, tg, iter, ifs, scope, p, rfl, h1, h2, h3, h4, h5, h6⟩ := comp_inv h
    exact (comp_of ok h2 h3 h4 (i_it.i ok h1) (fun ok' => by have := i_d.d ok' h6; exact this) (fun ok' => by have := i_e.e ok' h5; exact this)).1
theorem zT_comp (e : E) (g : Tg) (it : E) (d : E) (i_e : Snd T e) (i_it : Snd T it) (i_d : Snd T d) {X : Cx} {W : WX} {c : Ctx} {x : Expr} (ok : Cok X T W c) (h : chkE c (.comp e g it d) x = true) (ht : tstE (.comp e g it d) = true) : PT X x (trB X.K T W (ev c.fns (.comp e g it d))) := x_valT (zE_comp e g it d i_e i_it i_d ok h) (test_of (plain_of h rfl) _)
theorem zA_comp (e : E) (g : Tg) (it : E) (d : E) (i_e : Snd T e) (i_it : Snd T it) (i_d : Snd T d) {X : Cx} {W : WX} {c : Ctx} {xs : List Expr} (ok : Cok X T W c) (h : chkA c (.comp e g it d) xs = true) : PA X xs (trA X.K T W (ev c.fns (.comp e g it d))) := by
  cases xs <;> simp [chkA] at h
theorem zL_comp (e : E) (g : Tg) (it : E) (d : E) (i_e : Snd T e) (i_it : Snd T it) (i_d : Snd T d) {X : Cx} {W : WX} {c : Ctx} {op : BoolOp} {xs : List Expr} {pos : Pos} (ok : Cok X T W c) (h : chkL c op (.comp e g it d) xs = true) : PE X (.BoolOp op xs pos) (trC X.K T W (ev c.fns (.comp e g it d))) ∧ (tstE (.comp e g it d) = true → PW X (.BoolOp op xs pos) (trB X.K T W (ev c.fns (.comp e g it d)))) := by
  cases op <;> rcases xs with _ | ⟨x, _ | ⟨y, es⟩⟩ <;> simp [chkL] at h
theorem zO_comp (e : E) (g : Tg) (it : E) (d : E) (i_e : Snd T e) (i_it : Snd T it) (i_d : Snd T d) {X : Cx} {W : WX} {c : Ctx} {x : Option Expr} (ok : Cok X T W c) (h : chkO c (.comp e g it d) x = true) : PO X x (trP X.K T W (prt (.comp e g it d) (ev c.fns (.comp e g it d)))) := by
  cases x <;> simp [chkO] at h
theorem zD_comp (e : E) (g : Tg) (it : E) (d : E) (i_e : Snd T e) (i_it : Snd T it) (i_d : Snd T d) {X : Cx} {c : Ctx} {xs : List Expr} (ok : Cok X T W0 c) (h : chkD c (.comp e g it d) xs = true) : PTs X xs (trTs X.K T (dOpt c.fns (.comp e g it d))) := by
  rcases xs with _ | ⟨x, _ | ⟨y, es⟩⟩ <;> simp [chkD] at h
theorem zI_comp (e : E) (g : Tg) (it : E) (d : E) (i_e : Snd T e) (i_it : Snd T it) (i_d : Snd T d) {X : Cx} {W : WX} {c : Ctx} {t x : Expr} (ok : Cok X T W c) (h : chkI c (.comp e g it d) t x = true) : PI X t x (trI X.K T W (ev c.fns (.comp e g it d))) := by
  cases x <;> simp [chkI] at h
theorem zE_rng1 (a : E) (i_a : Snd T a) {X : Cx} {W : WX} {c : Ctx} {x : Expr} (ok : Cok X T W c) (h : chkE c (.rng1 a) x = true) : PE X x (trC X.K T W (ev c.fns (.rng1 a))) := by
 cases x <;> simp [chkE] at h
theorem zT_rng1 (a : E) (i_a : Snd T a) {X : Cx} {W : WX} {c : Ctx} {x : Expr} (ok : Cok X T W c) (h : chkE c (.rng1 a) x = true) (ht : tstE (.rng1 a) = true) : PT X x (trB X.K T W (ev c.fns (.rng1 a))) := x_valT (zE_rng1 a i_a ok h) (test_of (plain_of h rfl) _)
theorem zA_rng1 (a : E) (i_a : Snd T a) {X : Cx} {W : WX} {c : Ctx} {xs : List Expr} (ok : Cok X T W c) (h : chkA c (.rng1 a) xs = true) : PA X xs (trA X.K T W (ev c.fns (.rng1 a))) := by
  cases xs <;> simp [chkA] at h
theorem zL_rng1 (a : E) (i_a : Snd T a) {X : Cx} {W : WX} {c : Ctx} {op : BoolOp} {xs : List Expr} {pos : Pos} (ok : Cok X T W c) (h : chkL c op (.rng1 a) xs = true) : PE X (.BoolOp op xs pos) (trC X.K T W (ev c.fns (.rng1 a))) ∧ (tstE (.rng1 a) = true → PW X (.BoolOp op xs pos) (trB X.K T W (ev c.fns (.rng1 a)))) := by
  cases op <;> rcases xs with _ | ⟨x, _ | ⟨y, es⟩⟩ <;> simp [chkL] at h
theorem zO_rng1 (a : E) (i_a : Snd T a) {X : Cx} {W : WX} {c : Ctx} {x : Option Expr} (ok : Cok X T W c) (h : chkO c (.rng1 a) x = true) : PO X x (trP X.K T W (prt (.rng1 a) (ev c.fns (.rng1 a)))) := by
  cases x <;> simp [chkO] at h
theorem zD_rng1 (a : E) (i_a : Snd T a) {X : Cx} {c : Ctx} {xs : List Expr} (ok : Cok X T W0 c) (h : chkD c (.rng1 a) xs = true) : PTs X xs (trTs X.K T (dOpt c.fns (.rng1 a))) := by
  rcases xs with _ | ⟨x, _ | ⟨y, es⟩⟩ <;> simp [chkD] at h
theorem zI_rng1 (a : E) (i_a : Snd T a) {X : Cx} {W : WX} {c : Ctx} {t x : Expr} (ok : Cok X T W c) (h : chkI c (.rng1 a) t x = true) : PI X t x (trI X.K T W (ev c.fns (.rng1 a))) := by
    cases x with
    | Call fn args kws p =>
      cases fn with
      | Name y q =>
        rcases args with _ | ⟨z, _ | ⟨z2, zs⟩⟩
        · simp [chkI] at h
        · cases kws with
          | cons _ _ => simp [chkI] at h
          | nil =>
            simp only [chkI, Bool.and_eq_true, decide_eq_true_eq] at h
            obtain ⟨⟨⟨rfl, h1⟩, h2⟩, h3⟩ := h
            exact x_rng1 (gl_of ok h1) (blt_of ok (by decide)) (i_a.e ok h3) (star_of h2 [] X.env)
        · simp [chkI] at h
      | _ => simp [chkI] at h
    | _ => simp [chkI] at h
theorem zE_rng2 (a : E) (b : E) (i_a : Snd T a) (i_b : Snd T b) {X : Cx} {W : WX} {c : Ctx} {x : Expr} (ok : Cok X T W c) (h : chkE c (.rng2 a b) x = true) : PE X x (trC X.K T W (ev c.fns (.rng2 a b))) := by
 cases x <;> simp [chkE] at h
theorem zT_rng2 (a : E) (b : E) (i_a : Snd T a) (i_b : Snd T b) {X : Cx} {W : WX} {c : Ctx} {x : Expr} (ok : Cok X T W c) (h : chkE c (.rng2 a b) x = true) (ht : tstE (.rng2 a b) = true) : PT X x (trB X.K T W (ev c.fns (.rng2 a b))) := x_valT (zE_rng2 a b i_a i_b ok h) (test_of (plain_of h rfl) _)
theorem zA_rng2 (a : E) (b : E) (i_a : Snd T a) (i_b : Snd T b) {X : Cx} {W : WX} {c : Ctx} {xs : List Expr} (ok : Cok X T W c) (h : chkA c (.rng2 a b) xs = true) : PA X xs (trA X.K T W (ev c.fns (.rng2 a b))) := by
  cases xs <;> simp [chkA] at h
theorem zL_rng2 (a : E) (b : E) (i_a : Snd T a) (i_b : Snd T b) {X : Cx} {W : WX} {c : Ctx} {op : BoolOp} {xs : List Expr} {pos : Pos} (ok : Cok X T W c) (h : chkL c op (.rng2 a b) xs = true) : PE X (.BoolOp op xs pos) (trC X.K T W (ev c.fns (.rng2 a b))) ∧ (tstE (.rng2 a b) = true → PW X (.BoolOp op xs pos) (trB X.K T W (ev c.fns (.rng2 a b)))) := by
  cases op <;> rcases xs with _ | ⟨x, _ | ⟨y, es⟩⟩ <;> simp [chkL] at h
theorem zO_rng2 (a : E) (b : E) (i_a : Snd T a) (i_b : Snd T b) {X : Cx} {W : WX} {c : Ctx} {x : Option Expr} (ok : Cok X T W c) (h : chkO c (.rng2 a b) x = true) : PO X x (trP X.K T W (prt (.rng2 a b) (ev c.fns (.rng2 a b)))) := by
  cases x <;> simp [chkO] at h
theorem zD_rng2 (a : E) (b : E) (i_a : Snd T a) (i_b : Snd T b) {X : Cx} {c : Ctx} {xs : List Expr} (ok : Cok X T W0 c) (h : chkD c (.rng2 a b) xs = true) : PTs X xs (trTs X.K T (dOpt c.fns (.rng2 a b))) := by
  rcases xs with _ | ⟨x, _ | ⟨y, es⟩⟩ <;> simp [chkD] at h
theorem zI_rng2 (a : E) (b : E) (i_a : Snd T a) (i_b : Snd T b) {X : Cx} {W : WX} {c : Ctx} {t x : Expr} (ok : Cok X T W c) (h : chkI c (.rng2 a b) t x = true) : PI X t x (trI X.K T W (ev c.fns (.rng2 a b))) := by
    cases x with
    | Call fn args kws p =>
      cases fn with
      | Name y q =>
        rcases args with _ | ⟨z, _ | ⟨z2, _ | ⟨z3, zs⟩⟩⟩
        · simp [chkI] at h
        · simp [chkI] at h
        · cases kws with
          | cons _ _ => simp [chkI] at h
          | nil =>
            simp only [chkI, Bool.and_eq_true, decide_eq_true_eq] at h
            obtain ⟨⟨⟨⟨⟨rfl, h1⟩, h2⟩, h3⟩, h4⟩, h5⟩ := h
            exact x_rng2 (gl_of ok h1) (blt_of ok (by decide)) (i_a.e ok h4) (i_b.e ok h5) (star_of h2 [z2] X.env) (star_of h3 [] X.env)
        · simp [chkI] at h
      | _ => simp [chkI] at h
    | _ => simp [chkI] at h
theorem zE_zip (a : E) (b : E) (i_a : Snd T a) (i_b : Snd T b) {X : Cx} {W : WX} {c : Ctx} {x : Expr} (ok : Cok X T W c) (h : chkE c (.zip a b) x = true) : PE X x (trC X.K T W (ev c.fns (.zip a b))) := by
 cases x <;> simp [chkE] at h
theorem zT_zip (a : E) (b : E) (i_a : Snd T a) (i_b : Snd T b) {X : Cx} {W : WX} {c : Ctx} {x : Expr} (ok : Cok X T W c) (h : chkE c (.zip a b) x = true) (ht : tstE (.zip a b) = true) : PT X x (trB X.K T W (ev c.fns (.zip a b))) := x_valT (zE_zip a b i_a i_b ok h) (test_of (plain_of h rfl) _)
theorem zA_zip (a : E) (b : E) (i_a : Snd T a) (i_b : Snd T b) {X : Cx} {W : WX} {c : Ctx} {xs : List Expr} (ok : Cok X T W c) (h : chkA c (.zip a b) xs = true) : PA X xs (trA X.K T W (ev c.fns (.zip a b))) := by
  cases xs <;> simp [chkA] at h
theorem zL_zip (a : E) (b : E) (i_a : Snd T a) (i_b : Snd T b) {X : Cx} {W : WX} {c : Ctx} {op : BoolOp} {xs : List Expr} {pos : Pos} (ok : Cok X T W c) (h : chkL c op (.zip a b) xs = true) : PE X (.BoolOp op xs pos) (trC X.K T W (ev c.fns (.zip a b))) ∧ (tstE (.zip a b) = true → PW X (.BoolOp op xs pos) (trB X.K T W (ev c.fns (.zip a b)))) := by
  cases op <;> rcases xs with _ | ⟨x, _ | ⟨y, es⟩⟩ <;> simp [chkL] at h
theorem zO_zip (a : E) (b : E) (i_a : Snd T a) (i_b : Snd T b) {X : Cx} {W : WX} {c : Ctx} {x : Option Expr} (ok : Cok X T W c) (h : chkO c (.zip a b) x = true) : PO X x (trP X.K T W (prt (.zip a b) (ev c.fns (.zip a b)))) := by
  cases x <;> simp [chkO] at h
theorem zD_zip (a : E) (b : E) (i_a : Snd T a) (i_b : Snd T b) {X : Cx} {c : Ctx} {xs : List Expr} (ok : Cok X T W0 c) (h : chkD c (.zip a b) xs = true) : PTs X xs (trTs X.K T (dOpt c.fns (.zip a b))) := by
  rcases xs with _ | ⟨x, _ | ⟨y, es⟩⟩ <;> simp [chkD] at h
theorem zI_zip (a : E) (b : E) (i_a : Snd T a) (i_b : Snd T b) {X : Cx} {W : WX} {c : Ctx} {t x : Expr} (ok : Cok X T W c) (h : chkI c (.zip a b) t x = true) : PI X t x (trI X.K T W (ev c.fns (.zip a b))) := by
    cases x with
    | Call fn args kws p =>
      cases fn with
      | Name y q =>
        rcases args with _ | ⟨z, _ | ⟨z2, _ | ⟨z3, zs⟩⟩⟩
        · simp [chkI] at h
        · simp [chkI] at h
        · cases kws with
          | cons _ _ => simp [chkI] at h
          | nil =>
            simp only [chkI, Bool.and_eq_true, decide_eq_true_eq] at h
            obtain ⟨⟨⟨⟨⟨⟨h0, rfl⟩, h1⟩, h2⟩, h3⟩, h4⟩, h5⟩ := h
            cases t with
            | Tuple es k tp => exact x_zip (gl_of ok h1) (blt_of ok (by decide)) (i_a.e ok h4) (i_b.e ok h5) (star_of h2 [z2] X.env) (star_of h3 [] X.env)
            | _ => simp [isTup] at h0
        · simp [chkI] at h
      | _ => simp [chkI] at h
    | _ => simp [chkI] at h
theorem zE_enum (a : E) (i_a : Snd T a) {X : Cx} {W : WX} {c : Ctx} {x : Expr} (ok : Cok X T W c) (h : chkE c (.enum a) x = true) : PE X x (trC X.K T W (ev c.fns (.enum a))) := by
 cases x <;> simp [chkE] at h
theorem zT_enum (a : E) (i_a : Snd T a) {X : Cx} {W : WX} {c : Ctx} {x : Expr} (ok : Cok X T W c) (h : chkE c (.enum a) x = true) (ht : tstE (.enum a) = true) : PT X x (trB X.K T W (ev c.fns (.enum a))) := x_valT (zE_enum a i_a ok h) (test_of (plain_of h rfl) _)
theorem zA_enum (a : E) (i_a : Snd T a) {X : Cx} {W : WX} {c : Ctx} {xs : List Expr} (ok : Cok X T W c) (h : chkA c (.enum a) xs = true) : PA X xs (trA X.K T W (ev c.fns (.enum a))) := by
  cases xs <;> simp [chkA] at h
theorem zL_enum (a : E) (i_a : Snd T a) {X : Cx} {W : WX} {c : Ctx} {op : BoolOp} {xs : List Expr} {pos : Pos} (ok : Cok X T W c) (h : chkL c op (.enum a) xs = true) : PE X (.BoolOp op xs pos) (trC X.K T W (ev c.fns (.enum a))) ∧ (tstE (.enum a) = true → PW X (.BoolOp op xs pos) (trB X.K T W (ev c.fns (.enum a)))) := by
  cases op <;> rcases xs with _ | ⟨x, _ | ⟨y, es⟩⟩ <;> simp [chkL] at h
theorem zO_enum (a : E) (i_a : Snd T a) {X : Cx} {W : WX} {c : Ctx} {x : Option Expr} (ok : Cok X T W c) (h : chkO c (.enum a) x = true) : PO X x (trP X.K T W (prt (.enum a) (ev c.fns (.enum a)))) := by
  cases x <;> simp [chkO] at h
theorem zD_enum (a : E) (i_a : Snd T a) {X : Cx} {c : Ctx} {xs : List Expr} (ok : Cok X T W0 c) (h : chkD c (.enum a) xs = true) : PTs X xs (trTs X.K T (dOpt c.fns (.enum a))) := by
  rcases xs with _ | ⟨x, _ | ⟨y, es⟩⟩ <;> simp [chkD] at h
theorem zI_enum (a : E) (i_a : Snd T a) {X : Cx} {W : WX} {c : Ctx} {t x : Expr} (ok : Cok X T W c) (h : chkI c (.enum a) t x = true) : PI X t x (trI X.K T W (ev c.fns (.enum a))) := by
    cases x with
    | Call fn args kws p =>
      cases fn with
      | Name y q =>
        rcases args with _ | ⟨z, _ | ⟨z2, zs⟩⟩
        · simp [chkI] at h
        · cases kws with
          | cons _ _ => simp [chkI] at h
          | nil =>
            simp only [chkI, Bool.and_eq_true, decide_eq_true_eq] at h
            obtain ⟨⟨⟨⟨h0, rfl⟩, h1⟩, h2⟩, h3⟩ := h
            cases t with
            | Tuple es k tp => exact x_enum (gl_of ok h1) (blt_of ok (by decide)) (i_a.e ok h3) (star_of h2 [] X.env)
            | _ => simp [isTup] at h0
        · simp [chkI] at h
      | _ => simp [chkI] at h
    | _ => simp [chkI] at h
theorem zE_walk (a : E) (i_a : Snd T a) {X : Cx} {W : WX} {c : Ctx} {x : Expr} (ok : Cok X T W c) (h : chkE c (.walk a) x = true) : PE X x (trC X.K T W (ev c.fns (.walk a))) := by
 cases x <;> simp [chkE] at h
theorem zT_walk (a : E) (i_a : Snd T a) {X : Cx} {W : WX} {c : Ctx} {x : Expr} (ok : Cok X T W c) (h : chkE c (.walk a) x = true) (ht : tstE (.walk a) = true) : PT X x (trB X.K T W (ev c.fns (.walk a))) := x_valT (zE_walk a i_a ok h) (test_of (plain_of h rfl) _)
theorem zA_walk (a : E) (i_a : Snd T a) {X : Cx} {W : WX} {c : Ctx} {xs : List Expr} (ok : Cok X T W c) (h : chkA c (.walk a) xs = true) : PA X xs (trA X.K T W (ev c.fns (.walk a))) := by
  cases xs <;> simp [chkA] at h
theorem zL_walk (a : E) (i_a : Snd T a) {X : Cx} {W : WX} {c : Ctx} {op : BoolOp} {xs : List Expr} {pos : Pos} (ok : Cok X T W c) (h : chkL c op (.walk a) xs = true) : PE X (.BoolOp op xs pos) (trC X.K T W (ev c.fns (.walk a))) ∧ (tstE (.walk a) = true → PW X (.BoolOp op xs pos) (trB X.K T W (ev c.fns (.walk a)))) := by
  cases op <;> rcases xs with _ | ⟨x, _ | ⟨y, es⟩⟩ <;> simp [chkL] at h
theorem zO_walk (a : E) (i_a : Snd T a) {X : Cx} {W : WX} {c : Ctx} {x : Option Expr} (ok : Cok X T W c) (h : chkO c (.walk a) x = true) : PO X x (trP X.K T W (prt (.walk a) (ev c.fns (.walk a)))) := by
  cases x <;> simp [chkO] at h
theorem zD_walk (a : E) (i_a : Snd T a) {X : Cx} {c : Ctx} {xs : List Expr} (ok : Cok X T W0 c) (h : chkD c (.walk a) xs = true) : PTs X xs (trTs X.K T (dOpt c.fns (.walk a))) := by
  rcases xs with _ | ⟨x, _ | ⟨y, es⟩⟩ <;> simp [chkD] at h
theorem zI_walk (a : E) (i_a : Snd T a) {X : Cx} {W : WX} {c : Ctx} {t x : Expr} (ok : Cok X T W c) (h : chkI c (.walk a) t x = true) : PI X t x (trI X.K T W (ev c.fns (.walk a))) := by
 exact x_walk (i_a.e ok (by simpa [chkI] using h))
theorem zE_mth (m : Mth) (a : E) (b : E) (i_a : Snd T a) (i_b : Snd T b) {X : Cx} {W : WX} {c : Ctx} {x : Expr} (ok : Cok X T W c) (h : chkE c (.mth m a b) x = true) : PE X x (trC X.K T W (ev c.fns (.mth m a b))) := by
  cases x with
  | Call f args kws p =>
    cases f with
    | Attribute l n ap =>
      rcases args with _ | ⟨y, _ | ⟨y2, ys⟩⟩
      · simp [chkE] at h
      · cases kws with
        | cons _ _ => simp [chkE] at h
        | nil =>
          simp only [chkE, Bool.and_eq_true, decide_eq_true_eq] at h
          obtain ⟨⟨⟨⟨⟨rfl, h1⟩, h2⟩, h3⟩, h4⟩, h5⟩ := h
          exact x_mth m (opd_of ok h1 (i_a.e ok h1)) (opd_of ok h3 (i_b.e ok h3)) h4 h5 (star_of h2 [] X.env)
      · simp [chkE] at h
    | _ => simp [chkE] at h
  | _ => simp [chkE] at h
theorem zT_mth (m : Mth) (a : E) (b : E) (i_a : Snd T a) (i_b : Snd T b) {X : Cx} {W : WX} {c : Ctx} {x : Expr} (ok : Cok X T W c) (h : chkE c (.mth m a b) x = true) (ht : tstE (.mth m a b) = true) : PT X x (trB X.K T W (ev c.fns (.mth m a b))) := x_valT (zE_mth m a b i_a i_b ok h) (test_of (plain_of h rfl) _)
theorem zA_mth (m : Mth) (a : E) (b : E) (i_a : Snd T a) (i_b : Snd T b) {X : Cx} {W : WX} {c : Ctx} {xs : List Expr} (ok : Cok X T W c) (h : chkA c (.mth m a b) xs = true) : PA X xs (trA X.K T W (ev c.fns (.mth m a b))) := by
  cases xs <;> simp [chkA] at h
theorem zL_mth (m : Mth) (a : E) (b : E) (i_a : Snd T a) (i_b : Snd T b) {X : Cx} {W : WX} {c : Ctx} {op : BoolOp} {xs : List Expr} {pos : Pos} (ok : Cok X T W c) (h : chkL c op (.mth m a b) xs = true) : PE X (.BoolOp op xs pos) (trC X.K T W (ev c.fns (.mth m a b))) ∧ (tstE (.mth m a b) = true → PW X (.BoolOp op xs pos) (trB X.K T W (ev c.fns (.mth m a b)))) := by
  cases op <;> rcases xs with _ | ⟨x, _ | ⟨y, es⟩⟩ <;> simp [chkL] at h
theorem zO_mth (m : Mth) (a : E) (b : E) (i_a : Snd T a) (i_b : Snd T b) {X : Cx} {W : WX} {c : Ctx} {x : Option Expr} (ok : Cok X T W c) (h : chkO c (.mth m a b) x = true) : PO X x (trP X.K T W (prt (.mth m a b) (ev c.fns (.mth m a b)))) := by
  cases x <;> simp [chkO] at h
theorem zD_mth (m : Mth) (a : E) (b : E) (i_a : Snd T a) (i_b : Snd T b) {X : Cx} {c : Ctx} {xs : List Expr} (ok : Cok X T W0 c) (h : chkD c (.mth m a b) xs = true) : PTs X xs (trTs X.K T (dOpt c.fns (.mth m a b))) := by
  rcases xs with _ | ⟨x, _ | ⟨y, es⟩⟩ <;> simp [chkD] at h
theorem zI_mth (m : Mth) (a : E) (b : E) (i_a : Snd T a) (i_b : Snd T b) {X : Cx} {W : WX} {c : Ctx} {t x : Expr} (ok : Cok X T W c) (h : chkI c (.mth m a b) t x = true) : PI X t x (trI X.K T W (ev c.fns (.mth m a b))) := by
  cases x <;> simp [chkI] at h
theorem zE_lset (a : E) (i_a : Snd T a) {X : Cx} {W : WX} {c : Ctx} {x : Expr} (ok : Cok X T W c) (h : chkE c (.lset a) x = true) : PE X x (trC X.K T W (ev c.fns (.lset a))) := by
    cases x with
    | Call fn args kws p =>
      cases fn with
      | Name y q =>
        rcases args with _ | ⟨z, _ | ⟨z2, zs⟩⟩
        · simp [chkE] at h
        · cases kws with
          | cons _ _ => simp [chkE] at h
          | nil =>
            cases z with
            | Call fn2 args2 kws2 p2 =>
              cases fn2 with
              | Name y2 q2 =>
                rcases args2 with _ | ⟨u, _ | ⟨u2, us⟩⟩
                · simp [chkE] at h
                · cases kws2 with
                  | cons _ _ => simp [chkE] at h
                  | nil =>
                    simp only [chkE, Bool.and_eq_true, decide_eq_true_eq] at h
                    obtain ⟨⟨⟨⟨⟨rfl, h1⟩, rfl⟩, h2⟩, h3⟩, h4⟩ := h
                    exact x_lset ok.calm (gl_of ok h1) (ok.gk.blt _ (by decide)) (gl_of ok h2) (ok.gk.blt _ (by decide)) (opd_of ok h4 (i_a.e ok h4)) (star_of h3 [] X.env)
                · simp [chkE] at h
              | _ => simp [chkE] at h
            | _ => simp [chkE] at h
        · simp [chkE] at h
      | _ => simp [chkE] at h
    | _ => simp [chkE] at h
theorem zT_lset (a : E) (i_a : Snd T a) {X : Cx} {W : WX} {c : Ctx} {x : Expr} (ok : Cok X T W c) (h : chkE c (.lset a) x = true) (ht : tstE (.lset a) = true) : PT X x (trB X.K T W (ev c.fns (.lset a))) := x_valT (zE_lset a i_a ok h) (test_of (plain_of h rfl) _)
theorem zA_lset (a : E) (i_a : Snd T a) {X : Cx} {W : WX} {c : Ctx} {xs : List Expr} (ok : Cok X T W c) (h : chkA c (.lset a) xs = true) : PA X xs (trA X.K T W (ev c.fns (.lset a))) := by
  cases xs <;> simp [chkA] at h
theorem zL_lset (a : E) (i_a : Snd T a) {X : Cx} {W : WX} {c : Ctx} {op : BoolOp} {xs : List Expr} {pos : Pos} (ok : Cok X T W c) (h : chkL c op (.lset a) xs = true) : PE X (.BoolOp op xs pos) (trC X.K T W (ev c.fns (.lset a))) ∧ (tstE (.lset a) = true → PW X (.BoolOp op xs pos) (trB X.K T W (ev c.fns (.lset a)))) := by
  cases op <;> rcases xs with _ | ⟨x, _ | ⟨y, es⟩⟩ <;> simp [chkL] at h
theorem zO_lset (a : E) (i_a : Snd T a) {X : Cx} {W : WX} {c : Ctx} {x : Option Expr} (ok : Cok X T W c) (h : chkO c (.lset a) x = true) : PO X x (trP X.K T W (prt (.lset a) (ev c.fns (.lset a)))) := by
  cases x <;> simp [chkO] at h
theorem zD_lset (a : E) (i_a : Snd T a) {X : Cx} {c : Ctx} {xs : List Expr} (ok : Cok X T W0 c) (h : chkD c (.lset a) xs = true) : PTs X xs (trTs X.K T (dOpt c.fns (.lset a))) := by
  rcases xs with _ | ⟨x, _ | ⟨y, es⟩⟩ <;> simp [chkD] at h
theorem zI_lset (a : E) (i_a : Snd T a) {X : Cx} {W : WX} {c : Ctx} {t x : Expr} (ok : Cok X T W c) (h : chkI c (.lset a) t x = true) : PI X t x (trI X.K T W (ev c.fns (.lset a))) := by
  cases x <;> simp [chkI] at h
theorem conX_ok {X : Cx} {W : WX} {c : Ctx} (ok : Cok X T W c) {d : D} {x : Expr} (h : conX d x = true) : PE X x (trC X.K T W fun _ => .ok d) := by
  have con : ∀ k j p, conOk d k = true → PE X (.Constant k j p) (trC X.K T W fun _ => .ok d) := fun k j p h => by
    have := zE_con (T := T) d ok (x := .Constant k j p) (by simpa [chkE] using h)
    rw [show ev c.fns (.con d) = fun _ => .ok d from by funext ρ; rw [ev]] at this
    exact this
  cases x with
  | Constant k j p => exact con k j p h
  | UnaryOp o y p =>
    cases y with
    | Constant k j q =>
      cases o <;> cases k <;> simp only [conX, reduceCtorEq] at h
      all_goals first | (cases h; done) | skip
      cases d <;> simp only [decide_eq_true_eq, reduceCtorEq] at h
      all_goals first | (cases h; done) | skip
      subst h
      exact x_neg (fa := fun _ => .ok (.int _)) (xe_const pe_int fun H N => .int _)
    | _ => cases o <;> simp [conX] at h
  | _ => simp [conX] at h
theorem kv_inv {X : Cx} {W : WX} {c : Ctx} (ok : Cok X T W c) : ∀ (ds : List (DK × D)) (ks : List (Option Expr)) (vs : List Expr) (p : Pos), chkKv ds ks vs = true →
    PPs X p ks vs (ds.map fun p => (trC X.K T W fun _ => .ok (kDd p.1), trC X.K T W fun _ => .ok p.2)) ∧ ks.all (·.isSome) = true ∧ ks.length = vs.length ∧ ks.length = ds.length ∧ ∀ p ∈ ds, p.2.flat = true
  | [], ks, vs, p, h => by
    cases ks <;> cases vs <;> simp [chkKv] at h
    exact ⟨pps_nil, rfl, rfl, rfl, fun _ z => by cases z⟩
  | (k, d) :: ds, ks, vs, p, h => by
    cases ks with
    | nil => simp [chkKv] at h
    | cons x ks =>
      cases x with
      | none => cases vs <;> simp [chkKv] at h
      | some x =>
        cases vs with
        | nil => simp [chkKv] at h
        | cons y vs =>
          simp only [chkKv, Bool.and_eq_true] at h
          obtain ⟨⟨⟨h1, h2⟩, h3⟩, h4⟩ := h
          obtain ⟨g1, g2, g3, g4, g5⟩ := kv_inv ok ds ks vs p h4
          refine ⟨pps_cons (conX_ok ok h1) (conX_ok ok h2) g1, by simpa using g2, by simp [g3], by simp [g4], fun q hq => ?_⟩
          rcases List.mem_cons.mp hq with rfl | hq
          · exact h3
          · exact g5 q hq
theorem zE_lzip (a : E) (b : E) (i_a : Snd T a) (i_b : Snd T b) {X : Cx} {W : WX} {c : Ctx} {x : Expr} (ok : Cok X T W c) (h : chkE c (.lzip a b) x = true) : PE X x (trC X.K T W (ev c.fns (.lzip a b))) := by
    cases x with
    | Call f args kws p4 =>
      cases f with
      | Name nm p1 =>
        rcases args with _ | ⟨y, _ | ⟨y2, ys⟩⟩
        · simp [chkE] at h
        · cases y with
          | Call g args2 kws2 p3 =>
            cases g with
            | Name nm2 p2 =>
              rcases args2 with _ | ⟨u, _ | ⟨v, _ | ⟨w, ws⟩⟩⟩
              · simp [chkE] at h
              · simp [chkE] at h
              · cases kws2 with
                | cons _ _ => simp [chkE] at h
                | nil =>
                  cases kws with
                  | cons _ _ => simp [chkE] at h
                  | nil =>
                    simp only [chkE, Bool.and_eq_true, decide_eq_true_eq] at h
                    obtain ⟨⟨⟨⟨⟨⟨⟨rfl, h1⟩, rfl⟩, h2⟩, h3⟩, h4⟩, h5⟩, h6⟩ := h
                    rw [show ev c.fns (.lzip a b) = lzipF (ev c.fns a) (ev c.fns b) from by funext ρ; rw [ev]; rfl]
                    exact x_lzip ok.calm (gl_of ok h1) (ok.gk.blt _ (by decide)) (gl_of ok h2) (ok.gk.blt _ (by decide)) (i_a.e ok h5) (i_b.e ok h6) (star_of h3 [v] X.env) (star_of h4 [] X.env)
              · simp [chkE] at h
            | _ => simp [chkE] at h
          | _ => simp [chkE] at h
        · simp [chkE] at h
      | _ => simp [chkE] at h
    | _ => simp [chkE] at h
theorem zT_lzip (a : E) (b : E) (i_a : Snd T a) (i_b : Snd T b) {X : Cx} {W : WX} {c : Ctx} {x : Expr} (ok : Cok X T W c) (h : chkE c (.lzip a b) x = true) (ht : tstE (.lzip a b) = true) : PT X x (trB X.K T W (ev c.fns (.lzip a b))) := x_valT (zE_lzip a b i_a i_b ok h) (test_of (plain_of h rfl) _)
theorem zA_lzip (a : E) (b : E) (i_a : Snd T a) (i_b : Snd T b) {X : Cx} {W : WX} {c : Ctx} {xs : List Expr} (ok : Cok X T W c) (h : chkA c (.lzip a b) xs = true) : PA X xs (trA X.K T W (ev c.fns (.lzip a b))) := by
  cases xs <;> simp [chkA] at h
theorem zL_lzip (a : E) (b : E) (i_a : Snd T a) (i_b : Snd T b) {X : Cx} {W : WX} {c : Ctx} {op : BoolOp} {xs : List Expr} {pos : Pos} (ok : Cok X T W c) (h : chkL c op (.lzip a b) xs = true) : PE X (.BoolOp op xs pos) (trC X.K T W (ev c.fns (.lzip a b))) ∧ (tstE (.lzip a b) = true → PW X (.BoolOp op xs pos) (trB X.K T W (ev c.fns (.lzip a b)))) := by
  cases op <;> rcases xs with _ | ⟨x, _ | ⟨y, es⟩⟩ <;> simp [chkL] at h
theorem zO_lzip (a : E) (b : E) (i_a : Snd T a) (i_b : Snd T b) {X : Cx} {W : WX} {c : Ctx} {x : Option Expr} (ok : Cok X T W c) (h : chkO c (.lzip a b) x = true) : PO X x (trP X.K T W (prt (.lzip a b) (ev c.fns (.lzip a b)))) := by
  cases x <;> simp [chkO] at h
theorem zD_lzip (a : E) (b : E) (i_a : Snd T a) (i_b : Snd T b) {X : Cx} {c : Ctx} {xs : List Expr} (ok : Cok X T W0 c) (h : chkD c (.lzip a b) xs = true) : PTs X xs (trTs X.K T (dOpt c.fns (.lzip a b))) := by
  rcases xs with _ | ⟨x, _ | ⟨y, es⟩⟩ <;> simp [chkD] at h
theorem zI_lzip (a : E) (b : E) (i_a : Snd T a) (i_b : Snd T b) {X : Cx} {W : WX} {c : Ctx} {t x : Expr} (ok : Cok X T W c) (h : chkI c (.lzip a b) t x = true) : PI X t x (trI X.K T W (ev c.fns (.lzip a b))) := by
  cases x <;> simp [chkI] at h
theorem zE_dcon (kvs : DKs)  {X : Cx} {W : WX} {c : Ctx} {x : Expr} (ok : Cok X T W c) (h : chkE c (.dcon kvs) x = true) : PE X x (trC X.K T W (ev c.fns (.dcon kvs))) := by
    cases x with
    | Dict ks vs p =>
      simp only [chkE, Bool.and_eq_true, decide_eq_true_eq] at h
      obtain ⟨⟨⟨h1, h2⟩, h3⟩, h4⟩ := h
      obtain ⟨g1, g2, g3, g4, g5⟩ := kv_inv (W := W) ok kvs ks vs p h1
      rw [show ev c.fns (.dcon kvs) = fun _ => .ok (.dct kvs) from by funext ρ; rw [ev]]
      exact x_dcon g1 g2 g3 (fun z => by rw [z] at g4; exact h4 (List.length_eq_zero_iff.mp g4.symm)) (by rw [g4]; exact h3) h3 g5 h2
    | _ => simp [chkE] at h
theorem zT_dcon (kvs : DKs)  {X : Cx} {W : WX} {c : Ctx} {x : Expr} (ok : Cok X T W c) (h : chkE c (.dcon kvs) x = true) (ht : tstE (.dcon kvs) = true) : PT X x (trB X.K T W (ev c.fns (.dcon kvs))) := x_valT (zE_dcon kvs ok h) (test_of (plain_of h rfl) _)
theorem zA_dcon (kvs : DKs)  {X : Cx} {W : WX} {c : Ctx} {xs : List Expr} (ok : Cok X T W c) (h : chkA c (.dcon kvs) xs = true) : PA X xs (trA X.K T W (ev c.fns (.dcon kvs))) := by
  cases xs <;> simp [chkA] at h
theorem zL_dcon (kvs : DKs)  {X : Cx} {W : WX} {c : Ctx} {op : BoolOp} {xs : List Expr} {pos : Pos} (ok : Cok X T W c) (h : chkL c op (.dcon kvs) xs = true) : PE X (.BoolOp op xs pos) (trC X.K T W (ev c.fns (.dcon kvs))) ∧ (tstE (.dcon kvs) = true → PW X (.BoolOp op xs pos) (trB X.K T W (ev c.fns (.dcon kvs)))) := by
  cases op <;> rcases xs with _ | ⟨x, _ | ⟨y, es⟩⟩ <;> simp [chkL] at h
theorem zO_dcon (kvs : DKs)  {X : Cx} {W : WX} {c : Ctx} {x : Option Expr} (ok : Cok X T W c) (h : chkO c (.dcon kvs) x = true) : PO X x (trP X.K T W (prt (.dcon kvs) (ev c.fns (.dcon kvs)))) := by
  cases x <;> simp [chkO] at h
theorem zD_dcon (kvs : DKs)  {X : Cx} {c : Ctx} {xs : List Expr} (ok : Cok X T W0 c) (h : chkD c (.dcon kvs) xs = true) : PTs X xs (trTs X.K T (dOpt c.fns (.dcon kvs))) := by
  rcases xs with _ | ⟨x, _ | ⟨y, es⟩⟩ <;> simp [chkD] at h
theorem zI_dcon (kvs : DKs)  {X : Cx} {W : WX} {c : Ctx} {t x : Expr} (ok : Cok X T W c) (h : chkI c (.dcon kvs) t x = true) : PI X t x (trI X.K T W (ev c.fns (.dcon kvs))) := by
  cases x <;> simp [chkI] at h
theorem zE_told (ws : List Str) (e : E) (i_e : Snd T e) {X : Cx} {W : WX} {c : Ctx} {x : Expr} (ok : Cok X T W c) (h : chkE c (.told ws e) x = true) : PE X x (trC X.K T W (ev c.fns (.told ws e))) := by
    rw [show ev c.fns (.told ws e) = toldF ws (ev c.fns e) from by funext ρ; rw [ev]; rfl]
    cases x with
    | Call fn args kws p =>
      cases fn with
      | Name y q =>
        rcases args with _ | ⟨z, _ | ⟨z2, zs⟩⟩
        · simp [chkE] at h
        · cases kws with
          | cons _ _ => cases z <;> simp [chkE] at h
          | nil =>
            cases z with
            | Lambda ps body scope lp =>
              simp only [chkE, Bool.and_eq_true, decide_eq_true_eq] at h
              obtain ⟨⟨⟨⟨⟨⟨⟨h1, rfl⟩, rfl⟩, h2⟩, h3⟩, h4⟩, h5⟩, h6⟩ := h
              obtain ⟨tb, ⟨g, TD, m1, m2⟩, _, k, hr, gk⟩ := ok.tl h1
              exact x_told (l := ⟨ps, body, scope⟩) TD m1 m2 (gl_of ok h2) (okN_of h3).1 tb (lam_ok ok h4 h5) (hr.mono (by omega)) (body_ok ok gk i_e h6)
            | _ => simp [chkE] at h
        · cases z <;> simp [chkE] at h
      | _ => simp [chkE] at h
    | _ => simp [chkE] at h
theorem zT_told (ws : List Str) (e : E) (i_e : Snd T e) {X : Cx} {W : WX} {c : Ctx} {x : Expr} (ok : Cok X T W c) (h : chkE c (.told ws e) x = true) (ht : tstE (.told ws e) = true) : PT X x (trB X.K T W (ev c.fns (.told ws e))) := x_valT (zE_told ws e i_e ok h) (test_of (plain_of h rfl) _)
theorem zA_told (ws : List Str) (e : E) (i_e : Snd T e) {X : Cx} {W : WX} {c : Ctx} {xs : List Expr} (ok : Cok X T W c) (h : chkA c (.told ws e) xs = true) : PA X xs (trA X.K T W (ev c.fns (.told ws e))) := by
  cases xs <;> simp [chkA] at h
theorem zL_told (ws : List Str) (e : E) (i_e : Snd T e) {X : Cx} {W : WX} {c : Ctx} {op : BoolOp} {xs : List Expr} {pos : Pos} (ok : Cok X T W c) (h : chkL c op (.told ws e) xs = true) : PE X (.BoolOp op xs pos) (trC X.K T W (ev c.fns (.told ws e))) ∧ (tstE (.told ws e) = true → PW X (.BoolOp op xs pos) (trB X.K T W (ev c.fns (.told ws e)))) := by
  cases op <;> rcases xs with _ | ⟨x, _ | ⟨y, es⟩⟩ <;> simp [chkL] at h
theorem zO_told (ws : List Str) (e : E) (i_e : Snd T e) {X : Cx} {W : WX} {c : Ctx} {x : Option Expr} (ok : Cok X T W c) (h : chkO c (.told ws e) x = true) : PO X x (trP X.K T W (prt (.told ws e) (ev c.fns (.told ws e)))) := by
  cases x <;> simp [chkO] at h
theorem zD_told (ws : List Str) (e : E) (i_e : Snd T e) {X : Cx} {c : Ctx} {xs : List Expr} (ok : Cok X T W0 c) (h : chkD c (.told ws e) xs = true) : PTs X xs (trTs X.K T (dOpt c.fns (.told ws e))) := by
  rcases xs with _ | ⟨x, _ | ⟨y, es⟩⟩ <;> simp [chkD] at h
theorem zI_told (ws : List Str) (e : E) (i_e : Snd T e) {X : Cx} {W : WX} {c : Ctx} {t x : Expr} (ok : Cok X T W c) (h : chkI c (.told ws e) t x = true) : PI X t x (trI X.K T W (ev c.fns (.told ws e))) := by
  cases x <;> simp [chkI] at h
theorem zE_up (a : E) (i_a : Snd T a) {X : Cx} {W : WX} {c : Ctx} {x : Expr} (ok : Cok X T W c) (h : chkE c (.up a) x = true) : PE X x (trC X.K T W (ev c.fns (.up a))) := by
    cases x with
    | Call fn args kws p =>
      cases fn with
      | Attribute l n ap =>
        cases args with
        | cons _ _ => simp [chkE] at h
        | nil =>
          cases kws with
          | cons _ _ => simp [chkE] at h
          | nil =>
            simp only [chkE, Bool.and_eq_true, decide_eq_true_eq] at h
            obtain ⟨⟨⟨rfl, h1⟩, h2⟩, h3⟩ := h
            have hb : attributeBase l "upper" X.env (eval l X.env) = eval l X.env := by
              cases l <;> first | rfl | cases h2
            have := x_up (T := T) (W := W) (opd_of ok h1 (i_a.e ok h1)) hb h3
            rw [show ev c.fns (.up a) = fun ρ => (opd a (ev c.fns a) ρ).bind fun x => .of (upSem x) from by funext ρ; rw [ev]]
            exact this
      | _ => simp [chkE] at h
    | _ => simp [chkE] at h
theorem zT_up (a : E) (i_a : Snd T a) {X : Cx} {W : WX} {c : Ctx} {x : Expr} (ok : Cok X T W c) (h : chkE c (.up a) x = true) (ht : tstE (.up a) = true) : PT X x (trB X.K T W (ev c.fns (.up a))) := x_valT (zE_up a i_a ok h) (test_of (plain_of h rfl) _)
theorem zA_up (a : E) (i_a : Snd T a) {X : Cx} {W : WX} {c : Ctx} {xs : List Expr} (ok : Cok X T W c) (h : chkA c (.up a) xs = true) : PA X xs (trA X.K T W (ev c.fns (.up a))) := by
  cases xs <;> simp [chkA] at h
theorem zL_up (a : E) (i_a : Snd T a) {X : Cx} {W : WX} {c : Ctx} {op : BoolOp} {xs : List Expr} {pos : Pos} (ok : Cok X T W c) (h : chkL c op (.up a) xs = true) : PE X (.BoolOp op xs pos) (trC X.K T W (ev c.fns (.up a))) ∧ (tstE (.up a) = true → PW X (.BoolOp op xs pos) (trB X.K T W (ev c.fns (.up a)))) := by
  cases op <;> rcases xs with _ | ⟨x, _ | ⟨y, es⟩⟩ <;> simp [chkL] at h
theorem zO_up (a : E) (i_a : Snd T a) {X : Cx} {W : WX} {c : Ctx} {x : Option Expr} (ok : Cok X T W c) (h : chkO c (.up a) x = true) : PO X x (trP X.K T W (prt (.up a) (ev c.fns (.up a)))) := by
  cases x <;> simp [chkO] at h
theorem zD_up (a : E) (i_a : Snd T a) {X : Cx} {c : Ctx} {xs : List Expr} (ok : Cok X T W0 c) (h : chkD c (.up a) xs = true) : PTs X xs (trTs X.K T (dOpt c.fns (.up a))) := by
  rcases xs with _ | ⟨x, _ | ⟨y, es⟩⟩ <;> simp [chkD] at h
theorem zI_up (a : E) (i_a : Snd T a) {X : Cx} {W : WX} {c : Ctx} {t x : Expr} (ok : Cok X T W c) (h : chkI c (.up a) t x = true) : PI X t x (trI X.K T W (ev c.fns (.up a))) := by
  cases x <;> simp [chkI] at h
theorem zE_sset (a : E) (i_a : Snd T a) {X : Cx} {W : WX} {c : Ctx} {x : Expr} (ok : Cok X T W c) (h : chkE c (.sset a) x = true) : PE X x (trC X.K T W (ev c.fns (.sset a))) := by
    cases x with
    | Call fn args kws p =>
      cases fn with
      | Name y q =>
        rcases args with _ | ⟨z, _ | ⟨z2, zs⟩⟩
        · simp [chkE] at h
        · cases kws with
          | cons _ _ => simp [chkE] at h
          | nil =>
            cases z with
            | Call fn2 args2 kws2 p2 =>
              cases fn2 with
              | Name y2 q2 =>
                rcases args2 with _ | ⟨u, _ | ⟨u2, us⟩⟩
                · simp [chkE] at h
                · cases kws2 with
                  | cons _ _ => simp [chkE] at h
                  | nil =>
                    simp only [chkE, Bool.and_eq_true, decide_eq_true_eq] at h
                    obtain ⟨⟨⟨⟨⟨rfl, h1⟩, rfl⟩, h2⟩, h3⟩, h4⟩ := h
                    exact x_sset ok.calm (gl_of ok h1) (ok.gk.blt _ (by decide)) (gl_of ok h2) (ok.gk.blt _ (by decide)) (opd_of ok h4 (i_a.e ok h4)) (star_of h3 [] X.env)
                · simp [chkE] at h
              | _ => simp [chkE] at h
            | _ => simp [chkE] at h
        · simp [chkE] at h
      | _ => simp [chkE] at h
    | _ => simp [chkE] at h
theorem zT_sset (a : E) (i_a : Snd T a) {X : Cx} {W : WX} {c : Ctx} {x : Expr} (ok : Cok X T W c) (h : chkE c (.sset a) x = true) (ht : tstE (.sset a) = true) : PT X x (trB X.K T W (ev c.fns (.sset a))) := x_valT (zE_sset a i_a ok h) (test_of (plain_of h rfl) _)
theorem zA_sset (a : E) (i_a : Snd T a) {X : Cx} {W : WX} {c : Ctx} {xs : List Expr} (ok : Cok X T W c) (h : chkA c (.sset a) xs = true) : PA X xs (trA X.K T W (ev c.fns (.sset a))) := by
  cases xs <;> simp [chkA] at h
theorem zL_sset (a : E) (i_a : Snd T a) {X : Cx} {W : WX} {c : Ctx} {op : BoolOp} {xs : List Expr} {pos : Pos} (ok : Cok X T W c) (h : chkL c op (.sset a) xs = true) : PE X (.BoolOp op xs pos) (trC X.K T W (ev c.fns (.sset a))) ∧ (tstE (.sset a) = true → PW X (.BoolOp op xs pos) (trB X.K T W (ev c.fns (.sset a)))) := by
  cases op <;> rcases xs with _ | ⟨x, _ | ⟨y, es⟩⟩ <;> simp [chkL] at h
theorem zO_sset (a : E) (i_a : Snd T a) {X : Cx} {W : WX} {c : Ctx} {x : Option Expr} (ok : Cok X T W c) (h : chkO c (.sset a) x = true) : PO X x (trP X.K T W (prt (.sset a) (ev c.fns (.sset a)))) := by
  cases x <;> simp [chkO] at h
theorem zD_sset (a : E) (i_a : Snd T a) {X : Cx} {c : Ctx} {xs : List Expr} (ok : Cok X T W0 c) (h : chkD c (.sset a) xs = true) : PTs X xs (trTs X.K T (dOpt c.fns (.sset a))) := by
  rcases xs with _ | ⟨x, _ | ⟨y, es⟩⟩ <;> simp [chkD] at h
theorem zI_sset (a : E) (i_a : Snd T a) {X : Cx} {W : WX} {c : Ctx} {t x : Expr} (ok : Cok X T W c) (h : chkI c (.sset a) t x = true) : PI X t x (trI X.K T W (ev c.fns (.sset a))) := by
  cases x <;> simp [chkI] at h
theorem zE_lrngd (a : E) (b : E) (d : E) (i_a : Snd T a) (i_b : Snd T b) (i_d : Snd T d) {X : Cx} {W : WX} {c : Ctx} {x : Expr} (ok : Cok X T W c) (h : chkE c (.lrngd a b d) x = true) : PE X x (trC X.K T W (ev c.fns (.lrngd a b d))) := by
    cases x with
    | Call fn args kws p =>
      cases fn with
      | Name y q =>
        rcases args with _ | ⟨z, _ | ⟨z2, zs⟩⟩
        · simp [chkE] at h
        · cases kws with
          | cons _ _ => cases z <;> simp [chkE] at h
          | nil =>
            cases z with
            | Call f2 args2 kw2 p2 =>
              cases f2 with
              | Name y2 q2 =>
                rcases args2 with _ | ⟨u, _ | ⟨v, _ | ⟨w, _ | ⟨w2, ws⟩⟩⟩⟩
                · simp [chkE] at h
                · simp [chkE] at h
                · simp [chkE] at h
                · cases kw2 with
                  | cons _ _ => simp [chkE] at h
                  | nil =>
                    simp only [chkE, Bool.and_eq_true, decide_eq_true_eq] at h
                    obtain ⟨⟨⟨⟨⟨⟨⟨⟨⟨rfl, h1⟩, rfl⟩, h2⟩, h3⟩, h4⟩, h4'⟩, h5⟩, h6⟩, h7⟩ := h
                    exact x_lrngd ok.calm (gl_of ok h1) (blt_of ok (by decide)) (gl_of ok h2) (blt_of ok (by decide)) (i_a.e ok h5) (i_b.e ok h6) (i_d.e ok h7) (star_of h3 [v, w] X.env) (star_of h4 [w] X.env) (star_of h4' [] X.env)
                · simp [chkE] at h
              | _ => simp [chkE] at h
            | _ => simp [chkE] at h
        · cases z <;> simp [chkE] at h
      | _ => simp [chkE] at h
    | _ => simp [chkE] at h
theorem zT_lrngd (a : E) (b : E) (d : E) (i_a : Snd T a) (i_b : Snd T b) (i_d : Snd T d) {X : Cx} {W : WX} {c : Ctx} {x : Expr} (ok : Cok X T W c) (h : chkE c (.lrngd a b d) x = true) (ht : tstE (.lrngd a b d) = true) : PT X x (trB X.K T W (ev c.fns (.lrngd a b d))) := x_valT (zE_lrngd a b d i_a i_b i_d ok h) (test_of (plain_of h rfl) _)
theorem zA_lrngd (a : E) (b : E) (d : E) (i_a : Snd T a) (i_b : Snd T b) (i_d : Snd T d) {X : Cx} {W : WX} {c : Ctx} {xs : List Expr} (ok : Cok X T W c) (h : chkA c (.lrngd a b d) xs = true) : PA X xs (trA X.K T W (ev c.fns (.lrngd a b d))) := by
  cases xs <;> simp [chkA] at h
theorem zL_lrngd (a : E) (b : E) (d : E) (i_a : Snd T a) (i_b : Snd T b) (i_d : Snd T d) {X : Cx} {W : WX} {c : Ctx} {op : BoolOp} {xs : List Expr} {pos : Pos} (ok : Cok X T W c) (h : chkL c op (.lrngd a b d) xs = true) : PE X (.BoolOp op xs pos) (trC X.K T W (ev c.fns (.lrngd a b d))) ∧ (tstE (.lrngd a b d) = true → PW X (.BoolOp op xs pos) (trB X.K T W (ev c.fns (.lrngd a b d)))) := by
  cases op <;> rcases xs with _ | ⟨x, _ | ⟨y, es⟩⟩ <;> simp [chkL] at h
theorem zO_lrngd (a : E) (b : E) (d : E) (i_a : Snd T a) (i_b : Snd T b) (i_d : Snd T d) {X : Cx} {W : WX} {c : Ctx} {x : Option Expr} (ok : Cok X T W c) (h : chkO c (.lrngd a b d) x = true) : PO X x (trP X.K T W (prt (.lrngd a b d) (ev c.fns (.lrngd a b d)))) := by
  cases x <;> simp [chkO] at h
theorem zD_lrngd (a : E) (b : E) (d : E) (i_a : Snd T a) (i_b : Snd T b) (i_d : Snd T d) {X : Cx} {c : Ctx} {xs : List Expr} (ok : Cok X T W0 c) (h : chkD c (.lrngd a b d) xs = true) : PTs X xs (trTs X.K T (dOpt c.fns (.lrngd a b d))) := by
  rcases xs with _ | ⟨x, _ | ⟨y, es⟩⟩ <;> simp [chkD] at h
theorem zI_lrngd (a : E) (b : E) (d : E) (i_a : Snd T a) (i_b : Snd T b) (i_d : Snd T d) {X : Cx} {W : WX} {c : Ctx} {t x : Expr} (ok : Cok X T W c) (h : chkI c (.lrngd a b d) t x = true) : PI X t x (trI X.K T W (ev c.fns (.lrngd a b d))) := by
  cases x <;> simp [chkI] at h
theorem zE_rngd (a : E) (b : E) (d : E) (i_a : Snd T a) (i_b : Snd T b) (i_d : Snd T d) {X : Cx} {W : WX} {c : Ctx} {x : Expr} (ok : Cok X T W c) (h : chkE c (.rngd a b d) x = true) : PE X x (trC X.K T W (ev c.fns (.rngd a b d))) := by
 cases x <;> simp [chkE] at h
theorem zT_rngd (a : E) (b : E) (d : E) (i_a : Snd T a) (i_b : Snd T b) (i_d : Snd T d) {X : Cx} {W : WX} {c : Ctx} {x : Expr} (ok : Cok X T W c) (h : chkE c (.rngd a b d) x = true) (ht : tstE (.rngd a b d) = true) : PT X x (trB X.K T W (ev c.fns (.rngd a b d))) := x_valT (zE_rngd a b d i_a i_b i_d ok h) (test_of (plain_of h rfl) _)
theorem zA_rngd (a : E) (b : E) (d : E) (i_a : Snd T a) (i_b : Snd T b) (i_d : Snd T d) {X : Cx} {W : WX} {c : Ctx} {xs : List Expr} (ok : Cok X T W c) (h : chkA c (.rngd a b d) xs = true) : PA X xs (trA X.K T W (ev c.fns (.rngd a b d))) := by
  cases xs <;> simp [chkA] at h
theorem zL_rngd (a : E) (b : E) (d : E) (i_a : Snd T a) (i_b : Snd T b) (i_d : Snd T d) {X : Cx} {W : WX} {c : Ctx} {op : BoolOp} {xs : List Expr} {pos : Pos} (ok : Cok X T W c) (h : chkL c op (.rngd a b d) xs = true) : PE X (.BoolOp op xs pos) (trC X.K T W (ev c.fns (.rngd a b d))) ∧ (tstE (.rngd a b d) = true → PW X (.BoolOp op xs pos) (trB X.K T W (ev c.fns (.rngd a b d)))) := by
  cases op <;> rcases xs with _ | ⟨x, _ | ⟨y, es⟩⟩ <;> simp [chkL] at h
theorem zO_rngd (a : E) (b : E) (d : E) (i_a : Snd T a) (i_b : Snd T b) (i_d : Snd T d) {X : Cx} {W : WX} {c : Ctx} {x : Option Expr} (ok : Cok X T W c) (h : chkO c (.rngd a b d) x = true) : PO X x (trP X.K T W (prt (.rngd a b d) (ev c.fns (.rngd a b d)))) := by
  cases x <;> simp [chkO] at h
theorem zD_rngd (a : E) (b : E) (d : E) (i_a : Snd T a) (i_b : Snd T b) (i_d : Snd T d) {X : Cx} {c : Ctx} {xs : List Expr} (ok : Cok X T W0 c) (h : chkD c (.rngd a b d) xs = true) : PTs X xs (trTs X.K T (dOpt c.fns (.rngd a b d))) := by
  rcases xs with _ | ⟨x, _ | ⟨y, es⟩⟩ <;> simp [chkD] at h
theorem zI_rngd (a : E) (b : E) (d : E) (i_a : Snd T a) (i_b : Snd T b) (i_d : Snd T d) {X : Cx} {W : WX} {c : Ctx} {t x : Expr} (ok : Cok X T W c) (h : chkI c (.rngd a b d) t x = true) : PI X t x (trI X.K T W (ev c.fns (.rngd a b d))) := by
    cases x with
    | Call fn args kws p =>
      cases fn with
      | Name y q =>
        rcases args with _ | ⟨z, _ | ⟨z2, _ | ⟨z3, _ | ⟨z4, zs⟩⟩⟩⟩
        · simp [chkI] at h
        · simp [chkI] at h
        · simp [chkI] at h
        · cases kws with
          | cons _ _ => simp [chkI] at h
          | nil =>
            simp only [chkI, Bool.and_eq_true, decide_eq_true_eq] at h
            obtain ⟨⟨⟨⟨⟨⟨⟨rfl, h1⟩, h2⟩, h3⟩, h3'⟩, h4⟩, h5⟩, h6⟩ := h
            exact x_rngd (gl_of ok h1) (blt_of ok (by decide)) (i_a.e ok h4) (i_b.e ok h5) (i_d.e ok h6) (star_of h2 [z2, z3] X.env) (star_of h3 [z3] X.env) (star_of h3' [] X.env)
        · simp [chkI] at h
      | _ => simp [chkI] at h
    | _ => simp [chkI] at h
theorem snd (T : List (Addr × Str)) : ∀ z : E, Snd T z
  | .var i => ⟨fun ok h => zE_var i ok h, fun ok h ht => zT_var i ok h ht, fun ok h => zA_var i ok h, fun ok h => zL_var i ok h, fun ok h => zO_var i ok h, fun ok h => zD_var i ok h, fun ok h => zI_var i ok h⟩
  | .con d => ⟨fun ok h => zE_con d ok h, fun ok h ht => zT_con d ok h ht, fun ok h => zA_con d ok h, fun ok h => zL_con d ok h, fun ok h => zO_con d ok h, fun ok h => zD_con d ok h, fun ok h => zI_con d ok h⟩
  | .glo y d => ⟨fun ok h => zE_glo y d ok h, fun ok h ht => zT_glo y d ok h ht, fun ok h => zA_glo y d ok h, fun ok h => zL_glo y d ok h, fun ok h => zO_glo y d ok h, fun ok h => zD_glo y d ok h, fun ok h => zI_glo y d ok h⟩
  | .bin op a b => ⟨fun ok h => zE_bin op a b (snd T a) (snd T b) ok h, fun ok h ht => zT_bin op a b (snd T a) (snd T b) ok h ht, fun ok h => zA_bin op a b (snd T a) (snd T b) ok h, fun ok h => zL_bin op a b (snd T a) (snd T b) ok h, fun ok h => zO_bin op a b (snd T a) (snd T b) ok h, fun ok h => zD_bin op a b (snd T a) (snd T b) ok h, fun ok h => zI_bin op a b (snd T a) (snd T b) ok h⟩
  | .neg a => ⟨fun ok h => zE_neg a (snd T a) ok h, fun ok h ht => zT_neg a (snd T a) ok h ht, fun ok h => zA_neg a (snd T a) ok h, fun ok h => zL_neg a (snd T a) ok h, fun ok h => zO_neg a (snd T a) ok h, fun ok h => zD_neg a (snd T a) ok h, fun ok h => zI_neg a (snd T a) ok h⟩
  | .cmp op a b => ⟨fun ok h => zE_cmp op a b (snd T a) (snd T b) ok h, fun ok h ht => zT_cmp op a b (snd T a) (snd T b) ok h ht, fun ok h => zA_cmp op a b (snd T a) (snd T b) ok h, fun ok h => zL_cmp op a b (snd T a) (snd T b) ok h, fun ok h => zO_cmp op a b (snd T a) (snd T b) ok h, fun ok h => zD_cmp op a b (snd T a) (snd T b) ok h, fun ok h => zI_cmp op a b (snd T a) (snd T b) ok h⟩
  | .chain o1 o2 a b d => ⟨fun ok h => zE_chain o1 o2 a b d (snd T a) (snd T b) (snd T d) ok h, fun ok h ht => zT_chain o1 o2 a b d (snd T a) (snd T b) (snd T d) ok h ht, fun ok h => zA_chain o1 o2 a b d (snd T a) (snd T b) (snd T d) ok h, fun ok h => zL_chain o1 o2 a b d (snd T a) (snd T b) (snd T d) ok h, fun ok h => zO_chain o1 o2 a b d (snd T a) (snd T b) (snd T d) ok h, fun ok h => zD_chain o1 o2 a b d (snd T a) (snd T b) (snd T d) ok h, fun ok h => zI_chain o1 o2 a b d (snd T a) (snd T b) (snd T d) ok h⟩
  | .and a r => ⟨fun ok h => zE_and a r (snd T a) (snd T r) ok h, fun ok h ht => zT_and a r (snd T a) (snd T r) ok h ht, fun ok h => zA_and a r (snd T a) (snd T r) ok h, fun ok h => zL_and a r (snd T a) (snd T r) ok h, fun ok h => zO_and a r (snd T a) (snd T r) ok h, fun ok h => zD_and a r (snd T a) (snd T r) ok h, fun ok h => zI_and a r (snd T a) (snd T r) ok h⟩
  | .or a r => ⟨fun ok h => zE_or a r (snd T a) (snd T r) ok h, fun ok h ht => zT_or a r (snd T a) (snd T r) ok h ht, fun ok h => zA_or a r (snd T a) (snd T r) ok h, fun ok h => zL_or a r (snd T a) (snd T r) ok h, fun ok h => zO_or a r (snd T a) (snd T r) ok h, fun ok h => zD_or a r (snd T a) (snd T r) ok h, fun ok h => zI_or a r (snd T a) (snd T r) ok h⟩
  | .not a => ⟨fun ok h => zE_not a (snd T a) ok h, fun ok h ht => zT_not a (snd T a) ok h ht, fun ok h => zA_not a (snd T a) ok h, fun ok h => zL_not a (snd T a) ok h, fun ok h => zO_not a (snd T a) ok h, fun ok h => zD_not a (snd T a) ok h, fun ok h => zI_not a (snd T a) ok h⟩
  | .ife t a b => ⟨fun ok h => zE_ife t a b (snd T t) (snd T a) (snd T b) ok h, fun ok h ht => zT_ife t a b (snd T t) (snd T a) (snd T b) ok h ht, fun ok h => zA_ife t a b (snd T t) (snd T a) (snd T b) ok h, fun ok h => zL_ife t a b (snd T t) (snd T a) (snd T b) ok h, fun ok h => zO_ife t a b (snd T t) (snd T a) (snd T b) ok h, fun ok h => zD_ife t a b (snd T t) (snd T a) (snd T b) ok h, fun ok h => zI_ife t a b (snd T t) (snd T a) (snd T b) ok h⟩
  | .nil => ⟨fun ok h => zE_nil ok h, fun ok h ht => zT_nil ok h ht, fun ok h => zA_nil ok h, fun ok h => zL_nil ok h, fun ok h => zO_nil ok h, fun ok h => zD_nil ok h, fun ok h => zI_nil ok h⟩
  | .cons a r => ⟨fun ok h => zE_cons a r (snd T a) (snd T r) ok h, fun ok h ht => zT_cons a r (snd T a) (snd T r) ok h ht, fun ok h => zA_cons a r (snd T a) (snd T r) ok h, fun ok h => zL_cons a r (snd T a) (snd T r) ok h, fun ok h => zO_cons a r (snd T a) (snd T r) ok h, fun ok h => zD_cons a r (snd T a) (snd T r) ok h, fun ok h => zI_cons a r (snd T a) (snd T r) ok h⟩
  | .tup es => ⟨fun ok h => zE_tup es (snd T es) ok h, fun ok h ht => zT_tup es (snd T es) ok h ht, fun ok h => zA_tup es (snd T es) ok h, fun ok h => zL_tup es (snd T es) ok h, fun ok h => zO_tup es (snd T es) ok h, fun ok h => zD_tup es (snd T es) ok h, fun ok h => zI_tup es (snd T es) ok h⟩
  | .lst es => ⟨fun ok h => zE_lst es (snd T es) ok h, fun ok h ht => zT_lst es (snd T es) ok h ht, fun ok h => zA_lst es (snd T es) ok h, fun ok h => zL_lst es (snd T es) ok h, fun ok h => zO_lst es (snd T es) ok h, fun ok h => zD_lst es (snd T es) ok h, fun ok h => zI_lst es (snd T es) ok h⟩
  | .call f es => ⟨fun ok h => zE_call f es (snd T es) ok h, fun ok h ht => zT_call f es (snd T es) ok h ht, fun ok h => zA_call f es (snd T es) ok h, fun ok h => zL_call f es (snd T es) ok h, fun ok h => zO_call f es (snd T es) ok h, fun ok h => zD_call f es (snd T es) ok h, fun ok h => zI_call f es (snd T es) ok h⟩
  | .blt1 b a => ⟨fun ok h => zE_blt1 b a (snd T a) ok h, fun ok h ht => zT_blt1 b a (snd T a) ok h ht, fun ok h => zA_blt1 b a (snd T a) ok h, fun ok h => zL_blt1 b a (snd T a) ok h, fun ok h => zO_blt1 b a (snd T a) ok h, fun ok h => zD_blt1 b a (snd T a) ok h, fun ok h => zI_blt1 b a (snd T a) ok h⟩
  | .blt2 b a d => ⟨fun ok h => zE_blt2 b a d (snd T a) (snd T d) ok h, fun ok h ht => zT_blt2 b a d (snd T a) (snd T d) ok h ht, fun ok h => zA_blt2 b a d (snd T a) (snd T d) ok h, fun ok h => zL_blt2 b a d (snd T a) (snd T d) ok h, fun ok h => zO_blt2 b a d (snd T a) (snd T d) ok h, fun ok h => zD_blt2 b a d (snd T a) (snd T d) ok h, fun ok h => zI_blt2 b a d (snd T a) (snd T d) ok h⟩
  | .fin a => ⟨fun ok h => zE_fin a (snd T a) ok h, fun ok h ht => zT_fin a (snd T a) ok h ht, fun ok h => zA_fin a (snd T a) ok h, fun ok h => zL_fin a (snd T a) ok h, fun ok h => zO_fin a (snd T a) ok h, fun ok h => zD_fin a (snd T a) ok h, fun ok h => zI_fin a (snd T a) ok h⟩
  | .isi a t => ⟨fun ok h => zE_isi a t (snd T a) ok h, fun ok h ht => zT_isi a t (snd T a) ok h ht, fun ok h => zA_isi a t (snd T a) ok h, fun ok h => zL_isi a t (snd T a) ok h, fun ok h => zO_isi a t (snd T a) ok h, fun ok h => zD_isi a t (snd T a) ok h, fun ok h => zI_isi a t (snd T a) ok h⟩
  | .ix a b => ⟨fun ok h => zE_ix a b (snd T a) (snd T b) ok h, fun ok h ht => zT_ix a b (snd T a) (snd T b) ok h ht, fun ok h => zA_ix a b (snd T a) (snd T b) ok h, fun ok h => zL_ix a b (snd T a) (snd T b) ok h, fun ok h => zO_ix a b (snd T a) (snd T b) ok h, fun ok h => zD_ix a b (snd T a) (snd T b) ok h, fun ok h => zI_ix a b (snd T a) (snd T b) ok h⟩
  | .sl a lo hi => ⟨fun ok h => zE_sl a lo hi (snd T a) (snd T lo) (snd T hi) ok h, fun ok h ht => zT_sl a lo hi (snd T a) (snd T lo) (snd T hi) ok h ht, fun ok h => zA_sl a lo hi (snd T a) (snd T lo) (snd T hi) ok h, fun ok h => zL_sl a lo hi (snd T a) (snd T lo) (snd T hi) ok h, fun ok h => zO_sl a lo hi (snd T a) (snd T lo) (snd T hi) ok h, fun ok h => zD_sl a lo hi (snd T a) (snd T lo) (snd T hi) ok h, fun ok h => zI_sl a lo hi (snd T a) (snd T lo) (snd T hi) ok h⟩
  | .rev a => ⟨fun ok h => zE_rev a (snd T a) ok h, fun ok h ht => zT_rev a (snd T a) ok h ht, fun ok h => zA_rev a (snd T a) ok h, fun ok h => zL_rev a (snd T a) ok h, fun ok h => zO_rev a (snd T a) ok h, fun ok h => zD_rev a (snd T a) ok h, fun ok h => zI_rev a (snd T a) ok h⟩
  | .lrng1 b => ⟨fun ok h => zE_lrng1 b (snd T b) ok h, fun ok h ht => zT_lrng1 b (snd T b) ok h ht, fun ok h => zA_lrng1 b (snd T b) ok h, fun ok h => zL_lrng1 b (snd T b) ok h, fun ok h => zO_lrng1 b (snd T b) ok h, fun ok h => zD_lrng1 b (snd T b) ok h, fun ok h => zI_lrng1 b (snd T b) ok h⟩
  | .lrng a b => ⟨fun ok h => zE_lrng a b (snd T a) (snd T b) ok h, fun ok h ht => zT_lrng a b (snd T a) (snd T b) ok h ht, fun ok h => zA_lrng a b (snd T a) (snd T b) ok h, fun ok h => zL_lrng a b (snd T a) (snd T b) ok h, fun ok h => zO_lrng a b (snd T a) (snd T b) ok h, fun ok h => zD_lrng a b (snd T a) (snd T b) ok h, fun ok h => zI_lrng a b (snd T a) (snd T b) ok h⟩
  | .comp e g it d => ⟨fun ok h => zE_comp e g it d (snd T e) (snd T it) (snd T d) ok h, fun ok h ht => zT_comp e g it d (snd T e) (snd T it) (snd T d) ok h ht, fun ok h => zA_comp e g it d (snd T e) (snd T it) (snd T d) ok h, fun ok h => zL_comp e g it d (snd T e) (snd T it) (snd T d) ok h, fun ok h => zO_comp e g it d (snd T e) (snd T it) (snd T d) ok h, fun ok h => zD_comp e g it d (snd T e) (snd T it) (snd T d) ok h, fun ok h => zI_comp e g it d (snd T e) (snd T it) (snd T d) ok h⟩
  | .rng1 a => ⟨fun ok h => zE_rng1 a (snd T a) ok h, fun ok h ht => zT_rng1 a (snd T a) ok h ht, fun ok h => zA_rng1 a (snd T a) ok h, fun ok h => zL_rng1 a (snd T a) ok h, fun ok h => zO_rng1 a (snd T a) ok h, fun ok h => zD_rng1 a (snd T a) ok h, fun ok h => zI_rng1 a (snd T a) ok h⟩
  | .rng2 a b => ⟨fun ok h => zE_rng2 a b (snd T a) (snd T b) ok h, fun ok h ht => zT_rng2 a b (snd T a) (snd T b) ok h ht, fun ok h => zA_rng2 a b (snd T a) (snd T b) ok h, fun ok h => zL_rng2 a b (snd T a) (snd T b) ok h, fun ok h => zO_rng2 a b (snd T a) (snd T b) ok h, fun ok h => zD_rng2 a b (snd T a) (snd T b) ok h, fun ok h => zI_rng2 a b (snd T a) (snd T b) ok h⟩
  | .zip a b => ⟨fun ok h => zE_zip a b (snd T a) (snd T b) ok h, fun ok h ht => zT_zip a b (snd T a) (snd T b) ok h ht, fun ok h => zA_zip a b (snd T a) (snd T b) ok h, fun ok h => zL_zip a b (snd T a) (snd T b) ok h, fun ok h => zO_zip a b (snd T a) (snd T b) ok h, fun ok h => zD_zip a b (snd T a) (snd T b) ok h, fun ok h => zI_zip a b (snd T a) (snd T b) ok h⟩
  | .enum a => ⟨fun ok h => zE_enum a (snd T a) ok h, fun ok h ht => zT_enum a (snd T a) ok h ht, fun ok h => zA_enum a (snd T a) ok h, fun ok h => zL_enum a (snd T a) ok h, fun ok h => zO_enum a (snd T a) ok h, fun ok h => zD_enum a (snd T a) ok h, fun ok h => zI_enum a (snd T a) ok h⟩
  | .walk a => ⟨fun ok h => zE_walk a (snd T a) ok h, fun ok h ht => zT_walk a (snd T a) ok h ht, fun ok h => zA_walk a (snd T a) ok h, fun ok h => zL_walk a (snd T a) ok h, fun ok h => zO_walk a (snd T a) ok h, fun ok h => zD_walk a (snd T a) ok h, fun ok h => zI_walk a (snd T a) ok h⟩
  | .mth m a b => ⟨fun ok h => zE_mth m a b (snd T a) (snd T b) ok h, fun ok h ht => zT_mth m a b (snd T a) (snd T b) ok h ht, fun ok h => zA_mth m a b (snd T a) (snd T b) ok h, fun ok h => zL_mth m a b (snd T a) (snd T b) ok h, fun ok h => zO_mth m a b (snd T a) (snd T b) ok h, fun ok h => zD_mth m a b (snd T a) (snd T b) ok h, fun ok h => zI_mth m a b (snd T a) (snd T b) ok h⟩
  | .lset a => ⟨fun ok h => zE_lset a (snd T a) ok h, fun ok h ht => zT_lset a (snd T a) ok h ht, fun ok h => zA_lset a (snd T a) ok h, fun ok h => zL_lset a (snd T a) ok h, fun ok h => zO_lset a (snd T a) ok h, fun ok h => zD_lset a (snd T a) ok h, fun ok h => zI_lset a (snd T a) ok h⟩
  | .lzip a b => ⟨fun ok h => zE_lzip a b (snd T a) (snd T b) ok h, fun ok h ht => zT_lzip a b (snd T a) (snd T b) ok h ht, fun ok h => zA_lzip a b (snd T a) (snd T b) ok h, fun ok h => zL_lzip a b (snd T a) (snd T b) ok h, fun ok h => zO_lzip a b (snd T a) (snd T b) ok h, fun ok h => zD_lzip a b (snd T a) (snd T b) ok h, fun ok h => zI_lzip a b (snd T a) (snd T b) ok h⟩
  | .dcon kvs => ⟨fun ok h => zE_dcon kvs ok h, fun ok h ht => zT_dcon kvs ok h ht, fun ok h => zA_dcon kvs ok h, fun ok h => zL_dcon kvs ok h, fun ok h => zO_dcon kvs ok h, fun ok h => zD_dcon kvs ok h, fun ok h => zI_dcon kvs ok h⟩
  | .told ws e => ⟨fun ok h => zE_told ws e (snd T e) ok h, fun ok h ht => zT_told ws e (snd T e) ok h ht, fun ok h => zA_told ws e (snd T e) ok h, fun ok h => zL_told ws e (snd T e) ok h, fun ok h => zO_told ws e (snd T e) ok h, fun ok h => zD_told ws e (snd T e) ok h, fun ok h => zI_told ws e (snd T e) ok h⟩
  | .up a => ⟨fun ok h => zE_up a (snd T a) ok h, fun ok h ht => zT_up a (snd T a) ok h ht, fun ok h => zA_up a (snd T a) ok h, fun ok h => zL_up a (snd T a) ok h, fun ok h => zO_up a (snd T a) ok h, fun ok h => zD_up a (snd T a) ok h, fun ok h => zI_up a (snd T a) ok h⟩
  | .sset a => ⟨fun ok h => zE_sset a (snd T a) ok h, fun ok h ht => zT_sset a (snd T a) ok h ht, fun ok h => zA_sset a (snd T a) ok h, fun ok h => zL_sset a (snd T a) ok h, fun ok h => zO_sset a (snd T a) ok h, fun ok h => zD_sset a (snd T a) ok h, fun ok h => zI_sset a (snd T a) ok h⟩
  | .lrngd a b d => ⟨fun ok h => zE_lrngd a b d (snd T a) (snd T b) (snd T d) ok h, fun ok h ht => zT_lrngd a b d (snd T a) (snd T b) (snd T d) ok h ht, fun ok h => zA_lrngd a b d (snd T a) (snd T b) (snd T d) ok h, fun ok h => zL_lrngd a b d (snd T a) (snd T b) (snd T d) ok h, fun ok h => zO_lrngd a b d (snd T a) (snd T b) (snd T d) ok h, fun ok h => zD_lrngd a b d (snd T a) (snd T b) (snd T d) ok h, fun ok h => zI_lrngd a b d (snd T a) (snd T b) (snd T d) ok h⟩
  | .rngd a b d => ⟨fun ok h => zE_rngd a b d (snd T a) (snd T b) (snd T d) ok h, fun ok h ht => zT_rngd a b d (snd T a) (snd T b) (snd T d) ok h ht, fun ok h => zA_rngd a b d (snd T a) (snd T b) (snd T d) ok h, fun ok h => zL_rngd a b d (snd T a) (snd T b) (snd T d) ok h, fun ok h => zO_rngd a b d (snd T a) (snd T b) (snd T d) ok h, fun ok h => zD_rngd a b d (snd T a) (snd T b) (snd T d) ok h, fun ok h => zI_rngd a b d (snd T a) (snd T b) (snd T d) ok h⟩
end
end DN

set_option Elab.async false
set_option linter.all false
set_option maxRecDepth 100000
set_option maxHeartbeats 4000000
namespace DN
open PySem PySem.Spec PyProof.Rows L2
section
variable {T : List (Addr × Str)}
/-! ### new lists -/
theorem sF (e : E) {X : Cx} {W : WX} {c : Ctx} {x : Expr} (ok : Cok X T W c) (h : chkE c e x = true) (hf : isFresh e = true) : PE X x (trF X.K T W (ev c.fns e)) := by
  cases e with
  | lst es =>
    cases x with
    | List xs p => exact xf_lst ((snd T es).a ok (by simpa [chkE] using h))
    | _ => simp [chkE] at h
  | comp e g it d =>
    obtain ⟨elt, tg, iter, ifs, scope, p, rfl, h1, h2, h3, h4, h5, h6⟩ := comp_inv h
    exact (comp_of ok h2 h3 h4 ((snd T it).i ok h1) (fun ok' => by have := (snd T d).d ok' h6; exact this) (fun ok' => by have := (snd T e).e ok' h5; exact this)).2
  | blt1 b a =>
    cases b <;> simp [isFresh] at hf
    cases x with
    | Call fn args kws p =>
      cases fn with
      | Name y q =>
        rcases args with _ | ⟨z, _ | ⟨z2, zs⟩⟩
        · simp [chkE] at h
        · cases kws with
          | cons _ _ => simp [chkE] at h
          | nil =>
            simp only [chkE, Bool.and_eq_true, decide_eq_true_eq] at h
            obtain ⟨⟨⟨rfl, h1⟩, h2⟩, h3⟩ := h
            exact xf_list ok.calm (gl_of ok h1) (blt_of ok (nm_mem .list)) (opd_of ok h3 ((snd T a).e ok h3)) (star_of h2 [] X.env)
        · simp [chkE] at h
      | _ => simp [chkE] at h
    | _ => simp [chkE] at h
  | lrng a b =>
    obtain ⟨p1, p2, p3, p4, u, v, rfl, h1, h2, h3, h4, h5, h6⟩ := lrng_inv h
    exact (x_lrng ok.calm (gl_of ok h1) (blt_of ok (by decide)) (gl_of ok h2) (blt_of ok (by decide)) ((snd T a).e ok h5) ((snd T b).e ok h6) (star_of h3 [v] X.env) (star_of h4 [] X.env)).2
  | lrng1 b =>
    obtain ⟨p1, p2, p3, p4, v, rfl, h1, h2, h4, h6⟩ := lrng1_inv h
    exact (x_lrng1 ok.calm (gl_of ok h1) (blt_of ok (by decide)) (gl_of ok h2) (blt_of ok (by decide)) ((snd T b).e ok h6) (star_of h4 [] X.env)).2
  | bin op a b =>
    cases x with
    | BinOp l o r p =>
      simp only [chkE, Bool.and_eq_true, decide_eq_true_eq] at h
      obtain ⟨⟨rfl, h1⟩, h2⟩ := h
      exact xf_bin op (opd_of ok h1 ((snd T a).e ok h1)) (opd_of ok h2 ((snd T b).e ok h2))
    | _ => simp [chkE] at h
  | rev a =>
    obtain ⟨l, k, p1, p2, p3, p, rfl, h1⟩ := rev_inv h
    exact xf_rev (opd_of ok h1 ((snd T a).e ok h1))
  | _ => simp [isFresh] at hf
def freshP : List Bool → E → Bool
  | [], .nil => true
  | f :: fl, .cons a r => (!f || isFresh a) && freshP fl r
  | _, _ => false
theorem sP (e : E) : ∀ {X : Cx} {W : WX} {c : Ctx} {xs : List Expr} {fl : List Bool} (ok : Cok X T W c) (h : chkA c e xs = true) (hf : freshP fl e = true), PA X xs (trAF X.K T fl (ev c.fns e)) := by
  induction e with
  | nil =>
    intro X W c xs fl ok h hf
    cases xs with
    | nil =>
      cases fl with
      | nil => exact xp_nil
      | cons _ _ => simp [freshP] at hf
    | cons _ _ => simp [chkA] at h
  | cons a r ia ir =>
    intro X W c xs fl ok h hf
    cases xs with
    | nil => simp [chkA] at h
    | cons x xs =>
      cases fl with
      | nil => simp [freshP] at hf
      | cons f fl =>
        simp only [chkA, Bool.and_eq_true] at h
        simp only [freshP, Bool.and_eq_true] at hf
        cases f with
        | false => exact xp_dat ((snd T a).e ok h.1.2) (ir ok h.2 hf.2) (star_of h.1.1 xs X.env)
        | true => exact xp_own (sF a ok h.1.2 (by simpa using hf.1)) (ir ok h.2 hf.2) (star_of h.1.1 xs X.env)
  | _ =>
    intro X W c xs fl ok h hf
    cases xs <;> simp [chkA] at h
/-! ### statements -/
def notComp : Expr → Bool
  | .ListComp _ _ _ _ => false
  | .SetComp _ _ _ _ => false
  | .DictComp _ _ _ _ _ => false
  | _ => true
theorem swap_of {v : Expr} (h : notComp v = true) (t : Option Expr) (l : Nat) (env : Env) : swapsWith v t l env = pure false := by
  cases v <;> first | rfl | cases h
/-- how name = a comprehension is run: none if it isn't told -/
def swapB (sc : Scope) (x : Str) (p : Pos) : Expr → Option Bool
  | .ListComp _ _ scope pos => match sc.names.lookup x with
    | some .local => if sc.kind == .function && (p.line == pos.line) && !(scope.names.any fun (n, k) => n == x && (k == .local || k == .cell)) then some true else none
    | some .cell => some false
    | _ => none
  | v => if notComp v then some false else none
end
end DN

set_option Elab.async false
set_option linter.all false
set_option maxRecDepth 100000
set_option maxHeartbeats 4000000
namespace DN
open PySem PySem.Spec PyProof.Rows L2
section
variable {T : List (Addr × Str)}
theorem comp_ofS {X : Cx} {W : WX} {c : Ctx} {e it d : E} {g : Tg} {elt tg iter : Expr} {ifs : List Expr} {scope : Scope} {p py spos : Pos} {i : Nat} {y : Str} (ok : Cok X T W c) (h2 : notSet iter = true) (h3 : blkC c.N c.sc scope (namesOf c.N g.slots) = true) (h4 : chkG (c.blk scope) g tg = true)
    (hi : PI X tg iter (trI X.K T W (ev c.fns it))) (hd : ∀ {X : Cx}, Cok X T W0 (c.blk scope) → PTs X ifs (trTs X.K T (dOpt c.fns d))) (he : ∀ {X : Cx}, Cok X T W0 (c.blk scope) → PE X elt (trC X.K T W0 (ev c.fns e)))
    (hy : X.N[i]? = some y) (hyl : X.env.scope.names.lookup y = some .local) (hsw : swapsWith (.ListComp elt [⟨tg, iter, ifs, 0⟩] scope p) (some (.Name y py)) spos.line X.env = pure true) :
    PS X (.Assign [.Name y py] (.ListComp elt [⟨tg, iter, ifs, 0⟩] scope p) spos) (tAsg (trC X.K T W (ev c.fns (.comp e g it d))) (gName i)) ∧ PS X (.Assign [.Name y py] (.ListComp elt [⟨tg, iter, ifs, 0⟩] scope p) spos) (tAsg (trF X.K T W (ev c.fns (.comp e g it d))) (gName i)) := by
  rw [ev_comp]
  have bo : BlkOk X.N X.env.scope scope (namesOf c.N g.slots) := by
    rw [ok.eN, ok.eS]
    exact blkOk_by h3
  have main := ps_setLc (te := trC X.K T W0 (ev c.fns e)) (tt := trTs X.K T (dOpt c.fns d)) (g := tgG X.K g) ok.calm ok.nd hy hyl hsw hi bo (fun s H C cl fp => g_of (ok.blk s H scope cl C fp) h4) (fun s H C cl fp => hd (ok.blk s H scope cl C fp)) (fun s H C cl fp => he (ok.blk s H scope cl C fp)) (set_of h2 _)
  refine ⟨impS main fun D σ H h => ?_, impS main fun D σ H h => ?_⟩
  · obtain ⟨H0, N0, pn, N, ρ, rep, s, k⟩ := h
    exact comp_run (own_map _ _) rep s fun outs acc H' q eo hq nq e1 hacc r => k _ eo _ H' e1 (clean_of nq hacc r)
  · obtain ⟨H0, N0, pn, N, ρ, rep, s, _, k⟩ := h
    exact comp_run (own_map _ _) rep s fun outs acc H' q eo hq nq e1 hacc r => k outs eo q acc H' hq nq e1 hacc r
/-- name = value, clean or new -/
theorem s_setG {X : Cx} {W : WX} {c : Ctx} {e : E} {i : Nat} {x : Str} {v : Expr} {p pos : Pos} {b : Bool} (ok : Cok X T W c) (ht : tgOk c i x = true) (h : chkE c e v = true) (hw : swapB c.sc x p v = some b) :
    PS X (.Assign [.Name x p] v pos) (tAsg (trC X.K T W (ev c.fns e)) (gName i)) ∧ (isFresh e = true → PS X (.Assign [.Name x p] v pos) (tAsg (trF X.K T W (ev c.fns e)) (gName i))) := by
  obtain ⟨h1, h2, h3⟩ := loc_of ok ht
  have plain : swapsWith v (some (.Name x p)) pos.line X.env = pure false → PS X (.Assign [.Name x p] v pos) (tAsg (trC X.K T W (ev c.fns e)) (gName i)) ∧ (isFresh e = true → PS X (.Assign [.Name x p] v pos) (tAsg (trF X.K T W (ev c.fns e)) (gName i))) := fun hs =>
    ⟨ps_set ok.nd h1 h2 ((snd T e).e ok h) hs h3, fun hf => ps_set ok.nd h1 h2 (sF e ok h hf) hs h3⟩
  cases v with
  | ListComp elt gs scope q =>
    simp only [swapB] at hw
    split at hw
    · rename_i hl
      split at hw
      · rename_i hc
        simp only [Bool.and_eq_true, Bool.not_eq_true'] at hc
        obtain ⟨⟨hk, hln⟩, hn⟩ := hc
        cases e with
        | comp e g it d =>
          obtain ⟨elt', tg, iter, ifs, scope', p', e1, q1, q2, q3, q4, q5, q6⟩ := comp_inv h
          cases e1
          have hk' : X.env.scope.kind = .function := by
            rw [ok.eS]
            exact eq_of_beq hk
          have hl' : X.env.scope.names.lookup x = some .local := by
            rw [ok.eS]
            exact hl
          have := comp_ofS (T := T) (py := p) (spos := pos) (p := q) (i := i) (y := x) ok q2 q3 q4 ((snd T it).i ok q1) (fun ok' => by have := (snd T d).d ok' q6; exact this) (fun ok' => by have := (snd T e).e ok' q5; exact this) h1 hl' (sw_true hk' hl' hln hn)
          exact ⟨this.1, fun _ => this.2⟩
        | _ => simp [chkE] at h
      · cases hw
    · rename_i hl
      refine plain ?_
      have hl' : X.env.kindOf x = some .cell := by
        show X.env.scope.names.lookup x = _
        rw [ok.eS]
        exact hl
      unfold swapsWith
      simp only [hl']
      cases X.env.blockKind == ScopeKind.function <;> rfl
    · cases hw
  | SetComp _ _ _ _ => simp [swapB, notComp] at hw
  | DictComp _ _ _ _ _ => simp [swapB, notComp] at hw
  | _ => exact plain (swap_of rfl _ _ _)
/-! ### a, b = x, y -/
def chkNL (c : Ctx) : List Nat → List Expr → Bool
  | [], [] => true
  | i :: is, .Name x _ :: es => decide (c.N[i]? = some x) && decide (c.sc.names.lookup x = some .local) && chkNL c is es
  | _, _ => false
theorem setAll2 (σ : L2.St) (i j : Nat) (v w : V) : setAll σ [i, j] [v, w] = (σ.set i (some v)).set j (some w) := rfl
theorem setAll3 (σ : L2.St) (i j k : Nat) (u v w : V) : setAll σ [i, j, k] [u, v, w] = ((σ.set i (some u)).set j (some v)).set k (some w) := rfl
theorem s_par2 {X : Cx} {W : WX} {c : Ctx} {e : E} {i j : Nat} {f1 f2 : Bool} {x y : Str} {a b : Expr} {px py pt p2 pos : Pos} {k1 k2 : Nat} (ok : Cok X T W c) (hij : i ≠ j) (hi : c.N[i]? = some x) (hj : c.N[j]? = some y) (lx : c.sc.names.lookup x = some .local) (ly : c.sc.names.lookup y = some .local)
    (h : chkA c e [a, b] = true) (hf : freshP [f1, f2] e = true) (hw : swS [.Name x px, .Name y py] [a, b] c.sc = some (some [x, y])) : PS X (.Assign [.Tuple [.Name x px, .Name y py] k1 pt] (.Tuple [a, b] k2 p2) pos) (trS X.K T W (parF [(i, f1), (j, f2)] (ev c.fns e))) := by
  have hw' : swappedStores [.Tuple [.Name x px, .Name y py] k1 pt] (.Tuple [a, b] k2 p2) X.env = pure (some [x, y]) := swS_ok (by rw [ok.eS]; exact hw)
  have hx : X.env.scope.names.lookup x = some .local := by rw [ok.eS]; exact lx
  have hy : X.env.scope.names.lookup y = some .local := by rw [ok.eS]; exact ly
  have hi' : X.N[i]? = some x := by rw [ok.eN]; exact hi
  have hj' : X.N[j]? = some y := by rw [ok.eN]; exact hj
  have fin : ∀ {σ : L2.St} {D : Ends} {vs : List V} {H1 : Hp}, vs.length = [(i, f1), (j, f2)].length → (∀ H2, Ext T H1 H2 → D.nx (setAll σ ([(i, f1), (j, f2)].map (·.1)) vs) H2) → ∃ v w, vs = [v, w] ∧ D.nx ((σ.set i (some v)).set j (some w)) H1 := by
    intro σ D vs H1 hl k
    match vs, hl with
    | [v, w], _ => exact ⟨v, w, rfl, k H1 (Ext.refl H1)⟩
  cases hany : [(i, f1), (j, f2)].any (·.2) with
  | true =>
    refine impS (ps_par ok.calm ok.nd hi' hj' hij hx hy (sP e ok h hf) hw' rfl) fun D σ H hh => ?_
    exact (par_run hh fun vs H1 hl k => fin hl k).1 hany
  | false =>
    refine impS (ps_par ok.calm ok.nd hi' hj' hij hx hy ((snd T e).a ok h) hw' rfl) fun D σ H hh => ?_
    exact (par_run hh fun vs H1 hl k => fin hl k).2 hany
theorem s_par3 {X : Cx} {W : WX} {c : Ctx} {e : E} {i j l : Nat} {f1 f2 f3 : Bool} {x y z : Str} {a b d : Expr} {px py pz pt p2 pos : Pos} {k1 k2 : Nat} (ok : Cok X T W c) (hij : i ≠ j) (hil : i ≠ l) (hjl : j ≠ l) (hi : c.N[i]? = some x) (hj : c.N[j]? = some y) (hl : c.N[l]? = some z)
    (lx : c.sc.names.lookup x = some .local) (ly : c.sc.names.lookup y = some .local) (lz : c.sc.names.lookup z = some .local)
    (h : chkA c e [a, b, d] = true) (hf : freshP [f1, f2, f3] e = true) (hw : swS [.Name x px, .Name y py, .Name z pz] [a, b, d] c.sc = some (some [x, y, z])) : PS X (.Assign [.Tuple [.Name x px, .Name y py, .Name z pz] k1 pt] (.Tuple [a, b, d] k2 p2) pos) (trS X.K T W (parF [(i, f1), (j, f2), (l, f3)] (ev c.fns e))) := by
  have hw' : swappedStores [.Tuple [.Name x px, .Name y py, .Name z pz] k1 pt] (.Tuple [a, b, d] k2 p2) X.env = pure (some [x, y, z]) := swS_ok (by rw [ok.eS]; exact hw)
  have hx : X.env.scope.names.lookup x = some .local := by rw [ok.eS]; exact lx
  have hy : X.env.scope.names.lookup y = some .local := by rw [ok.eS]; exact ly
  have hz : X.env.scope.names.lookup z = some .local := by rw [ok.eS]; exact lz
  have hi' : X.N[i]? = some x := by rw [ok.eN]; exact hi
  have hj' : X.N[j]? = some y := by rw [ok.eN]; exact hj
  have hl' : X.N[l]? = some z := by rw [ok.eN]; exact hl
  have fin : ∀ {σ : L2.St} {D : Ends} {vs : List V} {H1 : Hp}, vs.length = [(i, f1), (j, f2), (l, f3)].length → (∀ H2, Ext T H1 H2 → D.nx (setAll σ ([(i, f1), (j, f2), (l, f3)].map (·.1)) vs) H2) → ∃ u v w, vs = [u, v, w] ∧ D.nx (((σ.set i (some u)).set j (some v)).set l (some w)) H1 := by
    intro σ D vs H1 hl k
    match vs, hl with
    | [u, v, w], _ => exact ⟨u, v, w, rfl, k H1 (Ext.refl H1)⟩
  cases hany : [(i, f1), (j, f2), (l, f3)].any (·.2) with
  | true =>
    refine impS (ps_par3 ok.calm ok.nd hi' hj' hl' hij hil hjl hx hy hz (sP e ok h hf) hw' rfl) fun D σ H hh => ?_
    exact (par_run hh fun vs H1 hl k => fin hl k).1 hany
  | false =>
    refine impS (ps_par3 ok.calm ok.nd hi' hj' hl' hij hil hjl hx hy hz ((snd T e).a ok h) hw' rfl) fun D σ H hh => ?_
    exact (par_run hh fun vs H1 hl k => fin hl k).2 hany
theorem gAll_run : ∀ {is : List Nat} {vs : List V} {σ : L2.St} {H : Hp} {Q : L2.St → Hp → Prop}, vs.length = is.length → Q (setAll σ is vs) H → gAll is vs σ H Q
  | [], [], σ, H, Q, _, h => ⟨rfl, h⟩
  | [], _ :: _, _, _, _, hl, _ => by simp at hl
  | _ :: _, [], _, _, _, hl, _ => by simp at hl
  | i :: is, v :: vs, σ, H, Q, hl, h => ⟨v, vs, rfl, gAll_run (is := is) (by simpa using hl) h⟩
/-- constants, or names that are captured -/
theorem s_parC {X : Cx} {W : WX} {c : Ctx} {e : E} {is : List (Nat × Bool)} {ts vs : List Expr} {pt p2 pos : Pos} {k1 k2 : Nat} (ok : Cok X T W c) (hn : is.any (·.2) = false) (hl : is.length ≤ 20) (hg : chkNs c (is.map (·.1)) ts = true) (h : chkA c e vs = true) (hw : swS ts vs c.sc = some none) :
    PS X (.Assign [.Tuple ts k1 pt] (.Tuple vs k2 p2) pos) (trS X.K T W (parF is (ev c.fns e))) := by
  have hw' : swappedStores [.Tuple ts k1 pt] (.Tuple vs k2 p2) X.env = pure none := swS_ok (by rw [ok.eS]; exact hw)
  have pg : PG X (.Tuple ts k1 pt) (tgG X.K (.tp (is.map (·.1)))) := g_of ok (show chkG c (.tp (is.map (·.1))) (.Tuple ts k1 pt) = true from hg)
  refine impS (ps_asg (pe_tup ((snd T e).a ok h)) pg rfl hw' rfl) fun D σ H hh => ?_
  refine (par_run hh fun us H1 hlen k => ?_).2 hn
  refine ⟨by rw [hlen, szL_eq]; show is.length ≤ 16777216; omega, fun q hq => ?_⟩
  exact ⟨q, us, rfl, .inl (.inl upd_same), by rw [hlen]; simp, gAll_run (by rw [hlen]; simp) (k _ (Ext.new hq))⟩
/-- the same, some lists own -/
theorem s_parD {X : Cx} {W : WX} {c : Ctx} {e : E} {is : List (Nat × Bool)} {ts vs : List Expr} {pt p2 pos : Pos} {k1 k2 : Nat} (ok : Cok X T W c) (hn : is.any (·.2) = true) (hf : freshP (is.map (·.2)) e = true) (hl : is.length ≤ 20) (hg : chkNs c (is.map (·.1)) ts = true) (h : chkA c e vs = true) (hw : swS ts vs c.sc = some none) :
    PS X (.Assign [.Tuple ts k1 pt] (.Tuple vs k2 p2) pos) (trS X.K T W (parF is (ev c.fns e))) := by
  have hw' : swappedStores [.Tuple ts k1 pt] (.Tuple vs k2 p2) X.env = pure none := swS_ok (by rw [ok.eS]; exact hw)
  have pg : PG X (.Tuple ts k1 pt) (tgG X.K (.tp (is.map (·.1)))) := g_of ok (show chkG c (.tp (is.map (·.1))) (.Tuple ts k1 pt) = true from hg)
  refine impS (ps_asg (pe_tup (sP e ok h hf)) pg rfl hw' rfl) fun D σ H hh => ?_
  refine (par_run hh fun us H1 hlen k => ?_).1 hn
  refine ⟨by rw [hlen, szL_eq]; show is.length ≤ 16777216; omega, fun q hq => ?_⟩
  exact ⟨q, us, rfl, .inl (.inl upd_same), by rw [hlen]; simp, gAll_run (by rw [hlen]; simp) (k _ (Ext.new hq))⟩
end
end DN

set_option Elab.async false
set_option linter.all false
set_option maxRecDepth 100000
set_option maxHeartbeats 4000000
namespace DN
open PySem PySem.Spec PyProof.Rows L2 HotX
/-! ### deeds = [lambda: ..]; deeds.append(lambda: ..); if _law_all(deeds) != ..: -/
def eLen : E → Nat
  | .cons _ r => eLen r + 1
  | _ => 0
def lamB (c : Ctx) (e : E) (ps : Arguments) (body : Expr) (scope : Scope) : Bool := noPar ps && LamX.lamSB c.sc scope && chkE (c.lam scope) e body
def chkMk (c : Ctx) (i : Nat) : Bool → E → List Stmt → Option (List Stmt)
  | true, .cons e r, .Assign [.Name x _] (.List [.Lambda ps body scope _] _) _ :: sts => if tgOk c i x && lamB c e ps body scope then chkMk c i false r sts else none
  | false, .cons e r, .Expr (.Call (.Attribute (.Name x _) ap p3) [.Lambda ps body scope _] [] p4) _ :: sts => if decide (ap = "append") && nmOk c i x && lamB c e ps body scope && (p3.endLine == p4.line) then chkMk c i false r sts else none
  | false, .nil, sts => some sts
  | _, _, _ => none
section
variable {K : PySem.W.Frag} {T : List (Addr × Str)} {H0 H H' : Hp} {N0 N N' : Hid} {pn : List (V × D)} {σ : L2.St} {ρ : En}
theorem Rep.mutA (r : Rep K T H0 N0 pn H N σ ρ) {a : Addr} {o : HO} {xs : List V} (na : N a) (fa : NF H0 a) (hu : H a = some (.lst xs)) (sp : ∀ (j : Nat) (d : D), ρ[j]? = some (.own d) → σ[j]? ≠ some (some (.ref a))) (ho : ∀ ps, o ≠ .tbl ps) : Rep K T H0 N0 pn (L2.upd H a o) N σ ρ := by
  have hu1 : ∀ ps, HO.lst xs ≠ .tbl ps := fun _ z => nomatch z
  have hu2 : ∀ φ, HO.lst xs ≠ .ext φ := fun _ z => nomatch z
  refine ⟨⟨fun b x hb hx => ?_, fun t => tabs_upd (r.ext.2 t) hu hu1 hu2⟩, tabs_upd r.tabs hu hu1 hu2, r.dom0, fun b n => ?_, r.hid, r.len, fun j e q => ?_, fun j e q => ?_, r.sep, fun p hp => (r.pins p hp).mut na⟩
  · rw [upd_ne (fa.ne hb hx)]
    exact r.ext.1 b x hb hx
  · by_cases e : b = a
    · subst e
      exact ⟨o, upd_same, ho⟩
    · rw [upd_ne e]
      exact r.dom b n
  · obtain ⟨w, q1, q2⟩ := r.dat j e q
    exact ⟨w, q1, q2.mut na⟩
  · obtain ⟨w, q1, q2, q3, q4⟩ := r.own j e q
    exact ⟨w, q1, q2, q3, q4.mut na fun z => sp j e q (z ▸ q1)⟩
theorem Rep.clearV (r : Rep K T H0 N0 pn H N σ ρ) (i : Nat) (x : Option V) : Rep K T H0 N0 pn H N (σ.set i x) (ρ.set i .no) where
  ext := r.ext
  tabs := r.tabs
  dom0 := r.dom0
  dom := r.dom
  hid := r.hid
  len := by simp [r.len]
  dat := fun j d h => by
    rcases get_set h with ⟨rfl, z, _⟩ | ⟨ne, h⟩
    · cases z
    · rw [List.getElem?_set_ne (Ne.symm ne)]
      exact r.dat j d h
  own := fun j d h => by
    rcases get_set h with ⟨rfl, z, _⟩ | ⟨ne, h⟩
    · cases z
    · rw [List.getElem?_set_ne (Ne.symm ne)]
      exact r.own j d h
  sep := fun j k d e a h1 h2 h3 h4 => by
    rcases get_set h1 with ⟨rfl, z, _⟩ | ⟨n1, h1⟩
    · cases z
    · rcases get_set h2 with ⟨rfl, z, _⟩ | ⟨n2, h2⟩
      · cases z
      · rw [List.getElem?_set_ne (Ne.symm n1)] at h3
        rw [List.getElem?_set_ne (Ne.symm n2)] at h4
        exact r.sep j k d e a h1 h2 h3 h4
  pins := r.pins
end
/-- the list as it grows -/
structure Made (X : Cx) (T : List (Addr × Str)) (k i : Nat) (H0 : Hp) (N0 : Hid) (pn : List (V × D)) (ρ : En) (σ : L2.St) (H : Hp) (N : Hid) (a : Addr) (ls : List LamD) : Prop where
  rep : Rep X.K T H0 N0 pn H N σ (ρ.set i .no)
  na : N a
  fa : NF H0 a
  sp : ∀ (j : Nat) (d : D), (ρ.set i .no)[j]? = some (.own d) → σ[j]? ≠ some (some (.ref a))
  sl : σ[i]? = some (some (.ref a))
  la : H a = some (.lst (ls.map fun q => .ref q.f))
  lo : ∀ q ∈ ls, q.at X H ∧ LamOk X q.l ∧ BodyOk X T k q.l q.fn
section
variable {X : Cx} {T : List (Addr × Str)} {W : WX} {c : Ctx} {k i : Nat}
theorem Made.add {H0 : Hp} {N0 : Hid} {pn : List (V × D)} {ρ : En} {σ : L2.St} {H H1 : Hp} {N : Hid} {a : Addr} {ls : List LamD} (m : Made X T k i H0 N0 pn ρ σ H N a ls) (q : LamD) (e : Ext T H H1) (hq : q.at X H1) (lo : LamOk X q.l) (bo : BodyOk X T k q.l q.fn) :
    H1 a = some (.lst (ls.map fun q => V.ref q.f)) ∧ Made X T k i H0 N0 pn ρ σ (upd H1 a (.lst ((ls.map fun q => V.ref q.f) ++ [.ref q.f]))) N a (ls ++ [q]) := by
  have la1 : H1 a = some (.lst (ls.map fun q => V.ref q.f)) := e.1 _ _ m.la (fun _ z => nomatch z)
  have kp : ∀ p : LamD, p.at X H1 → p.at X (upd H1 a (.lst ((ls.map fun q => V.ref q.f) ++ [.ref q.f]))) := fun p hp => by
    have n1 : p.f ≠ a := fun z => by
      have := hp.1
      rw [z, la1] at this
      unfold LamO at this
      cases this
    have n2 : p.c ≠ a := fun z => by
      have := hp.2
      rw [z, la1] at this
      unfold LamX.CodeO at this
      cases this
    exact ⟨by rw [upd_ne n1]; exact hp.1, by rw [upd_ne n2]; exact hp.2⟩
  refine ⟨la1, (m.rep.grow e).mutA m.na m.fa la1 m.sp (fun _ z => nomatch z), m.na, m.fa, m.sp, m.sl, by rw [upd_same]; simp, fun p hp => ?_⟩
  rcases List.mem_append.mp hp with h | h
  · obtain ⟨z1, z2, z3⟩ := m.lo p h
    exact ⟨kp p (LamD.at_ext z1 e), z2, z3⟩
  · obtain rfl : p = q := by simpa using h
    exact ⟨kp p hq, lo, bo⟩
def tMk (X : Cx) (T : List (Addr × Str)) (k i n : Nat) (fs : List (En → Rs D)) (u : TS) : TS := fun Ed σ H => ∃ H0 N0 pn ρ N a ls, Made X T k i H0 N0 pn ρ σ H N a ls ∧ ls.length + n ≤ 1000 ∧ ∀ σ' H' N' ls', Made X T k i H0 N0 pn ρ σ' H' N' a ls' → ls'.map LamD.fn = ls.map LamD.fn ++ fs → u Ed σ' H'
theorem mk_app (ok : Cok X T W c) (tb : TabX X T) (gk : ∀ A', Room k A' → Gk X.prog X.w X.K X.mg X.base A' T c.fns c.fnm c.glos c.exs) {u : TS} {sts' : List Stmt} (hu : PSs X sts' u) : ∀ (es : E) (sts : List Stmt), chkMk c i false es sts = some sts' → PSs X sts (tMk X T k i (eLen es) (evL c.fns es) u)
  | .cons e r, sts, h => by
    unfold chkMk at h
    split at h
    · rename_i heq _; cases heq
    · rename_i e' r' x p1 ap p3 ps body scope lp p4 p5 sts2 _ heq
      cases heq
      split at h
      · rename_i hc
        simp only [Bool.and_eq_true, decide_eq_true_eq, lamB] at hc
        obtain ⟨⟨⟨rfl, hn⟩, ⟨h4, h5⟩, h6⟩, hl⟩ := hc
        have ih := mk_app ok tb gk hu r sts2 h
        obtain ⟨n1, n2, n3, n4⟩ := nm_of ok hn
        have lo : LamOk X ⟨ps, body, scope⟩ := lam_ok ok h4 h5
        have bo : BodyOk X T k ⟨ps, body, scope⟩ (ev c.fns e) := body_ok ok gk (snd T e) h6
        have st := ps_expr (pos := p5) (pe_bm (apos := p3) (cpos := p4) PySem.F.plainAttrs_list PySem.F.slot_list_append PySem.F.type_list_append (mt_append (X := X)) (pe_var (pos := p1) n1 n2 n3 n4) (pa_cons (pe_lam (l := ⟨ps, body, scope⟩) (pos := lp) tb lo) pa_nil) (hline := hl)) rfl
        refine impSs (pss_cons st ih) fun Ed σ H hh => ?_
        obtain ⟨H0, N0, pn, ρ, N, a, ls, m, hn, k2⟩ := hh
        refine ⟨.ref a, m.sl, .inl ⟨rfl, _, .inl (.inl m.la)⟩, m.rep.tabs, fun f c' H1 e1 hf1 hf2 hf3 => ?_⟩
        obtain ⟨la1, m1⟩ := m.add ⟨⟨ps, body, scope⟩, f, c', ev c.fns e⟩ e1 ⟨hf2, hf3⟩ lo bo
        have hz : (sizeLine : Nat) = 16777216 := sizeLine_eq
        have hn' : ls.length + (eLen r + 1) ≤ 1000 := hn
        refine ⟨a, _, .ref f, rfl, rfl, la1, by rw [List.length_map, hz]; omega, H0, N0, pn, ρ, N, a, _, m1, by simp only [List.length_append, List.length_cons, List.length_nil]; omega, fun σ' H' N' ls' m' el => k2 σ' H' N' ls' m' ?_⟩
        rw [el]
        simp [evL]
      · cases h
    · rename_i heq; cases heq
    · cases h
  | .nil, sts, h => by
    have e : sts = sts' := by
      unfold chkMk at h
      exact Option.some.inj h
    subst e
    refine impSs hu fun Ed σ H hh => ?_
    obtain ⟨H0, N0, pn, ρ, N, a, ls, m, hn, k2⟩ := hh
    exact k2 σ H N ls m (by simp [evL])
  | .var _, _, h => by simp [chkMk] at h
  | .con _, _, h => by simp [chkMk] at h
  | .glo _ _, _, h => by simp [chkMk] at h
  | .bin _ _ _, _, h => by simp [chkMk] at h
  | .neg _, _, h => by simp [chkMk] at h
  | .cmp _ _ _, _, h => by simp [chkMk] at h
  | .chain _ _ _ _ _, _, h => by simp [chkMk] at h
  | .and _ _, _, h => by simp [chkMk] at h
  | .or _ _, _, h => by simp [chkMk] at h
  | .not _, _, h => by simp [chkMk] at h
  | .ife _ _ _, _, h => by simp [chkMk] at h
  | .tup _, _, h => by simp [chkMk] at h
  | .lst _, _, h => by simp [chkMk] at h
  | .call _ _, _, h => by simp [chkMk] at h
  | .blt1 _ _, _, h => by simp [chkMk] at h
  | .blt2 _ _ _, _, h => by simp [chkMk] at h
  | .fin _, _, h => by simp [chkMk] at h
  | .isi _ _, _, h => by simp [chkMk] at h
  | .ix _ _, _, h => by simp [chkMk] at h
  | .sl _ _ _, _, h => by simp [chkMk] at h
  | .rev _, _, h => by simp [chkMk] at h
  | .lrng _ _, _, h => by simp [chkMk] at h
  | .lrng1 _, _, h => by simp [chkMk] at h
  | .comp _ _ _ _, _, h => by simp [chkMk] at h
  | .rng1 _, _, h => by simp [chkMk] at h
  | .rng2 _ _, _, h => by simp [chkMk] at h
  | .rngd _ _ _, _, h => by simp [chkMk] at h
  | .lrngd _ _ _, _, h => by simp [chkMk] at h
  | .zip _ _, _, h => by simp [chkMk] at h
  | .enum _, _, h => by simp [chkMk] at h
  | .walk _, _, h => by simp [chkMk] at h
  | .mth _ _ _, _, h => by simp [chkMk] at h
  | .lset _, _, h => by simp [chkMk] at h
  | .sset _, _, h => by simp [chkMk] at h
  | .lzip _ _, _, h => by simp [chkMk] at h
  | .dcon _, _, h => by simp [chkMk] at h
  | .told _ _, _, h => by simp [chkMk] at h
  | .up _, _, h => by simp [chkMk] at h
theorem toldR_noexc {ws : List Str} {r : Rs D} {x : Str} : toldR ws r ≠ .exc x := by
  intro h
  cases r with
  | ok d => cases h
  | bad => cases h
  | exc c =>
    have h : (if c ∈ ws then Rs.ok (D.str c.cps.toList) else Rs.bad) = .exc x := h
    split at h <;> cases h
theorem tolds_noexc {ws : List Str} {ρ : En} {x : Str} : ∀ {fs : List (En → Rs D)}, tolds ws ρ fs ≠ .exc x
  | [], h => by cases h
  | f :: fs, h => by
    unfold tolds at h
    cases q : toldR ws (f ρ) with
    | ok d =>
      rw [q] at h
      cases q2 : tolds ws ρ fs with
      | ok l => rw [q2] at h; cases h
      | exc c => exact tolds_noexc q2
      | bad => rw [q2] at h; cases h
    | exc c => exact toldR_noexc q
    | bad => rw [q] at h; cases h
/-- _law_all(deeds) -/
theorem pe_all {ws : List Str} {x y : Str} {g : Addr} {p1 p2 p3 : Pos} (AD : AllD X.K X.mg ws x g) (hm : X.mg x = some (.ref g)) (hkp : PySem.W.keepIn X.K (.ref g) = true) (hg : Gl X x) (hdb : (x == ("__debug__" : Str)) = false) (hr : Room (k + 3) X.A) (hN : X.N[i]? = some y) (hv : Vis X.env.scope y) (hd : (y == ("__debug__" : Str)) = false) (hcd : (y == ("__classdict__" : Str)) = false) :
    PE X (.Call (.Name x p1) [.Name y p2] [] p3) (fun σ H Q => ∃ H0 N0 pn ρ N a ls ds, Made X T k i H0 N0 pn ρ σ H N a ls ∧ tolds ws (ρ.set i .no) (ls.map LamD.fn) = .ok ds ∧ ∀ v H', Ext T H H' → Rp X.K H' N v (.lst ds) → Q v H') := by
  refine ⟨fun pins s σ H Q I h => ?_⟩
  obtain ⟨H0, N0, pn, ρ, N, a, ls, ds, m, ht, k2⟩ := h
  refine wpAny_Call_Name_kw (ld_glob I hg hm ?_ hdb)
  refine PySem.W.callWith_K (h₀ := X.base) I.ok.mod.kin hkp (thn ((pa_cons (pe_var (pos := p2) hN hv hd hcd) pa_nil).run p3 pins s σ H (fun vs H1 => vs = [.ref a] ∧ H1 = H) I ⟨.ref a, m.sl, rfl, rfl⟩) fun us s1 ⟨vs, H1, I1, r, ev, eH⟩ => ⟨I1.kIn, ?_⟩) rfl rfl
  subst ev
  rw [eH] at I1
  have hu := Vals.ref1 r
  subst hu
  exact all_run (T := T) AD I1 hr m.rep m.la (fun q hq => (m.lo q hq).1) (fun q hq => (m.lo q hq).2) ht k2
def chkCmp (c : Ctx) (i : Nat) (r : E) : Expr → Bool
  | .Compare (.Call (.Name an _) [.Name dn _] [] _) [.NotEq] [rx] _ => decide (c.an = an) && !decide (an = "") && glB c.sc an && okN an && nmOk c i dn && chkE c r rx && notSet rx
  | _ => false
def chkTst (c : Ctx) (i : Nat) (r t : E) : Expr → Bool
  | .BoolOp .Or (z :: y :: es) _ => chkCmp c i r z && tstE t && chkL c .Or t (y :: es) && (match t with | .nil => false | _ => true)
  | e => chkCmp c i r e && (match t with | .nil => true | _ => false)
/-- the comparison, then more -/
def tCmp (X : Cx) (T : List (Addr × Str)) (W : WX) (k i : Nat) (ws : List Str) (fr : En → Rs D) : TT := fun σ H Q => ∃ H0 N0 pn ρ N a ls ds, Made X T k i H0 N0 pn ρ σ H N a ls ∧ tolds ws (ρ.set i .no) (ls.map LamD.fn) = .ok ds ∧ Safe X.K T W ((fr (ρ.set i .no)).bind fun y => .of (cmpSem .ne (.lst ds) y)) H σ ∧
  ∀ y b H', fr (ρ.set i .no) = .ok y → cmpSem .ne (.lst ds) y = some b → Ext T H H' → Q b H'
theorem pt_all (ok : Cok X T W c) {ws : List Str} (hws : c.ws = ws) (tl : TellX X T c) (hr : Room (k + 3) X.A) {r : E} {e : Expr} (h : chkCmp c i r e = true) : PT X e (tCmp X T W k i ws (ev c.fns r)) := by
  unfold chkCmp at h
  split at h
  · rename_i an p1 dn p2 p3 rx p4
    simp only [Bool.and_eq_true, decide_eq_true_eq, Bool.not_eq_true', decide_eq_false_iff_not] at h
    obtain ⟨⟨⟨⟨⟨⟨rfl, hne⟩, h2⟩, h3⟩, h4⟩, h5⟩, h6⟩ := h
    obtain ⟨g, AD, m1, m2⟩ := tl.all hne
    rw [hws] at AD
    obtain ⟨n1, n2, n3, n4⟩ := nm_of ok h4
    have hx := pe_all (T := T) (k := k) (p1 := p1) (p2 := p2) (p3 := p3) AD m1 m2 (gl_of ok h2) (okN_of h3).1 hr n1 n2 n3 n4
    have main := pt_cmpR (pos := p4) (cmp_ok (X := X) ok.gk.room .ne) hx (xo_of ((snd T r).e ok h5)) (mark_of h6 _)
    refine impT main fun σ H Q hh => ?_
    obtain ⟨H0, N0, pn, ρ, N, a, ls, ds, m, ht, sf, k2⟩ := hh
    refine ⟨H0, N0, pn, ρ, N, a, ls, ds, m, ht, fun v H1 e1 r1 => ⟨H0, N0, pn, N, _, m.rep.grow e1, (sf.left).grow e1, fun y ey w H2 e2 r2 => ?_⟩⟩
    obtain ⟨b, hb⟩ := (sf.right ey).of
    exact ⟨N, .lst ds, y, b, .of (e2.rp r1), r2, hb, b, rfl, k2 y b H2 ey hb (e1.trans e2)⟩
  · cases h
def allsF (ws : List Str) (i : Nat) (fs : List (En → Rs D)) (fr : En → Rs D) (ft : Option (En → Rs D)) (fb : En → Out) : En → Out := fun ρ => onR (tolds ws (ρ.set i .no) fs) (ρ.set i .no) fun ds => onR (fr (ρ.set i .no)) (ρ.set i .no) fun y => onR (.of (cmpSem .ne (.lst ds) y)) (ρ.set i .no) fun k =>
  if k then fb (ρ.set i .no) else (match ft with
    | none => .nx (ρ.set i .no)
    | some f => onR ((f (ρ.set i .no)).bind asB) (ρ.set i .no) fun k => if k then fb (ρ.set i .no) else .nx (ρ.set i .no))
theorem chkTst_inv {r t : E} {e : Expr} (h : chkTst c i r t e = true) : (t = .nil ∧ chkCmp c i r e = true) ∨ (t ≠ .nil ∧ ∃ z y es p, e = .BoolOp .Or (z :: y :: es) p ∧ chkCmp c i r z = true ∧ tstE t = true ∧ chkL c .Or t (y :: es) = true) := by
  unfold chkTst at h
  split at h
  · rename_i z y es p
    simp only [Bool.and_eq_true] at h
    obtain ⟨⟨⟨h1, h2⟩, h3⟩, h4⟩ := h
    exact .inr ⟨(fun w => by subst w; cases h4), z, y, es, p, rfl, h1, h2, h3⟩
  · simp only [Bool.and_eq_true] at h
    refine .inl ⟨?_, h.1⟩
    cases t <;> first | rfl | (have := h.2; cases this)
theorem s_alls (ok : Cok X T W c) (htab : c.tab = true) {es r t : E} {sts bd rest : List Stmt} {test : Expr} {q : Pos} {fb fz : En → Out} (h : chkMk c i true es sts = some (.If test bd [] q :: rest)) (hcnt : eLen es ≤ 1000) (hT : chkTst c i r t test = true) (hb : PSs X bd (trS X.K T W fb)) (hz : PSs X rest (trS X.K T W fz)) :
    PSs X sts (trS X.K T W (seqF (allsF c.ws i (evL c.fns es) (ev c.fns r) (dOpt c.fns t) fb) fz)) := by
  have tl := ok.tl htab
  obtain ⟨k, hr, gk⟩ := tl.room
  -- the test
  have ifs : PSs X (.If test bd [] q :: rest) (fun Ed σ H => ∃ H0 N0 pn ρ N a ls, Made X T k i H0 N0 pn ρ σ H N a ls ∧ ls.map LamD.fn = evL c.fns es ∧ EvS X.K T W H0 N0 pn { Ed with nx := trS X.K T W fz Ed } (allsF c.ws i (evL c.fns es) (ev c.fns r) (dOpt c.fns t) fb ρ)) := by
    have key : ∀ {Ed : Ends} {H0 : Hp} {N0 : Hid} {pn : List (V × D)} {ρ : En}, EvS X.K T W H0 N0 pn Ed (allsF c.ws i (evL c.fns es) (ev c.fns r) (dOpt c.fns t) fb ρ) → ∃ ds, tolds c.ws (ρ.set i .no) (evL c.fns es) = .ok ds ∧
        EvS X.K T W H0 N0 pn Ed (onR ((ev c.fns r (ρ.set i .no)).bind fun y => Rs.of (cmpSem .ne (.lst ds) y)) (ρ.set i .no) fun k => if k then fb (ρ.set i .no) else (match dOpt c.fns t with
          | none => .nx (ρ.set i .no)
          | some f => onR ((f (ρ.set i .no)).bind asB) (ρ.set i .no) fun k => if k then fb (ρ.set i .no) else .nx (ρ.set i .no))) := by
      intro Ed H0 N0 pn ρ hE
      unfold allsF at hE
      cases q1 : tolds c.ws (ρ.set i .no) (evL c.fns es) with
      | bad => rw [q1] at hE; exact hE.elim
      | exc x => exact absurd q1 tolds_noexc
      | ok ds =>
        rw [q1] at hE
        refine ⟨ds, rfl, ?_⟩
        have hE : EvS X.K T W H0 N0 pn Ed (onR (ev c.fns r (ρ.set i .no)) (ρ.set i .no) fun y => onR (.of (cmpSem .ne (.lst ds) y)) (ρ.set i .no) fun k => if k then fb (ρ.set i .no) else (match dOpt c.fns t with
          | none => .nx (ρ.set i .no)
          | some f => onR ((f (ρ.set i .no)).bind asB) (ρ.set i .no) fun k => if k then fb (ρ.set i .no) else .nx (ρ.set i .no))) := hE
        cases q2 : ev c.fns r (ρ.set i .no) with
        | ok y => rw [q2] at hE; exact hE
        | exc x => rw [q2] at hE; exact hE
        | bad => rw [q2] at hE; exact hE
    rcases chkTst_inv hT with ⟨rfl, hc⟩ | ⟨hne, z, y, es2, p, rfl, hc, ht1, ht2⟩
    · have pt := pt_all ok rfl tl hr hc
      refine impSs (pss_cons (ps_if (pos := q) pt hb pss_nil) hz) fun Ed σ H hh => ?_
      obtain ⟨H0, N0, pn, ρ, N, a, ls, m, el, hE⟩ := hh
      obtain ⟨ds, hd, hE⟩ := key hE
      refine ⟨H0, N0, pn, ρ, N, a, ls, ds, m, by rw [el]; exact hd, safe_on m.rep hE, fun y b H1 ey eb e1 => ?_⟩
      rw [ey] at hE
      have hE : EvS X.K T W H0 N0 pn _ (onR (Rs.of (cmpSem .ne (.lst ds) y)) (ρ.set i .no) fun k => if k then fb (ρ.set i .no) else .nx (ρ.set i .no)) := hE
      rw [eb] at hE
      cases b with
      | true => exact iteT ⟨H0, N0, pn, N, _, m.rep.grow e1, hE⟩
      | false => exact iteF (hE σ H1 N (m.rep.grow e1))
    · have pt := pt_all ok rfl tl hr hc
      have pw := ((snd T t).l (pos := p) ok ht2).2 ht1
      have dt : dOpt c.fns t = some (ev c.fns t) := by
        unfold dOpt
        split
        · exact absurd rfl hne
        · rfl
      refine impSs (pss_cons (ps_if (pos := q) ((pw_or pt pw).pt) hb pss_nil) hz) fun Ed σ H hh => ?_
      obtain ⟨H0, N0, pn, ρ, N, a, ls, m, el, hE⟩ := hh
      obtain ⟨ds, hd, hE⟩ := key hE
      refine ⟨H0, N0, pn, ρ, N, a, ls, ds, m, by rw [el]; exact hd, safe_on m.rep hE, fun y b H1 ey eb e1 => ?_⟩
      rw [ey, dt] at hE
      have hE : EvS X.K T W H0 N0 pn _ (onR (Rs.of (cmpSem .ne (.lst ds) y)) (ρ.set i .no) fun k => if k then fb (ρ.set i .no) else onR ((ev c.fns t (ρ.set i .no)).bind asB) (ρ.set i .no) fun k => if k then fb (ρ.set i .no) else .nx (ρ.set i .no)) := hE
      rw [eb] at hE
      cases b with
      | true => exact iteT (iteT ⟨H0, N0, pn, N, _, m.rep.grow e1, hE⟩)
      | false =>
        have hE : EvS X.K T W H0 N0 pn _ (onR ((ev c.fns t (ρ.set i .no)).bind asB) (ρ.set i .no) fun k => if k then fb (ρ.set i .no) else .nx (ρ.set i .no)) := hE
        refine iteF ⟨H0, N0, pn, N, _, m.rep.grow e1, safe_on (m.rep.grow e1) hE, fun b hb H2 e2 => ?_⟩
        rw [hb] at hE
        have hE : EvS X.K T W H0 N0 pn _ (if b then fb (ρ.set i .no) else .nx (ρ.set i .no)) := hE
        cases b with
        | true => exact iteT ⟨H0, N0, pn, N, _, (m.rep.grow e1).grow e2, hE⟩
        | false => exact iteF (hE σ H2 N ((m.rep.grow e1).grow e2))
  -- the first lambda
  cases es with
  | cons e r2 =>
    unfold chkMk at h
    split at h
    · rename_i e' r' x p1 ps body scope lp p2 p3 sts2 _ heq
      cases heq
      split at h
      · rename_i hc
        simp only [Bool.and_eq_true, lamB] at hc
        obtain ⟨hn, ⟨h4, h5⟩, h6⟩ := hc
        obtain ⟨n1, n2, n3⟩ := loc_of ok hn
        have lo : LamOk X ⟨ps, body, scope⟩ := lam_ok ok h4 h5
        have bo : BodyOk X T k ⟨ps, body, scope⟩ (ev c.fns e) := body_ok ok gk (snd T e) h6
        have st := ps_set (pos := p3) (pos' := p1) ok.nd n1 n2 (pe_lst (pos := p2) (pa_cons (pe_lam (l := ⟨ps, body, scope⟩) (pos := lp) tl.tab lo) pa_nil)) rfl n3
        have ih := mk_app (i := i) ok tl.tab gk ifs r2 sts2 h
        refine ⟨fun pins s σ H Ed I hh => (pss_cons st ih).run pins s σ H Ed I ?_⟩
        obtain ⟨H0, N0, pn, N, ρ, rep, hE⟩ := hh
        have hE := evS_seq hE
        refine ⟨rep.tabs, fun f c' H1 e1 hf1 hf2 hf3 => ⟨by show 1 ≤ sizeLine; rw [sizeLine_eq]; decide, fun p hp => ?_⟩⟩
        have hq : NF H p := NF.back e1.1 (NF.of hp)
        have rep1 := rep.moreN hq (e1.trans (Ext.new (o := .lst [.ref f]) hp)) upd_same (fun _ z => nomatch z)
        have np1 : f ≠ p := fun z => by rw [z, hp] at hf2; cases hf2
        have np2 : c' ≠ p := fun z => by rw [z, hp] at hf3; cases hf3
        have hi : i < σ.length := by
          have hl : σ.length = X.N.length := I.len
          rw [hl]
          exact (List.getElem?_eq_some_iff.mp n1).1
        have mm : Made X T k i H0 N0 pn ρ (σ.set i (some (.ref p))) (upd H1 p (.lst [.ref f])) (Nu N p) p [⟨⟨ps, body, scope⟩, f, c', ev c.fns e⟩] := {
          rep := rep1.clearV i _
          na := .inr rfl
          fa := NF.back rep.ext.1 hq
          sp := fun j d hj => by
            rcases get_set hj with ⟨rfl, z, _⟩ | ⟨ne, hj⟩
            · cases z
            · rw [List.getElem?_set_ne (Ne.symm ne)]
              exact rep.fresh hq j d hj
          sl := by rw [List.getElem?_set_self hi]
          la := by rw [upd_same]; rfl
          lo := fun q hq => by
            obtain rfl : q = ⟨⟨ps, body, scope⟩, f, c', ev c.fns e⟩ := by simpa using hq
            exact ⟨⟨by rw [upd_ne np1]; exact hf2, by rw [upd_ne np2]; exact hf3⟩, lo, bo⟩ }
        refine ⟨H0, N0, pn, ρ, Nu N p, p, _, mm, by have : eLen r2 + 1 ≤ 1000 := hcnt; show 1 + eLen r2 ≤ 1000; omega, fun σ' H' N' ls' m' el => ⟨H0, N0, pn, ρ, N', p, ls', m', ?_, hE⟩⟩
        rw [el]
        rfl
      · cases h
    · contradiction
    · contradiction
    · cases h
  | _ => simp [chkMk] at h
end
end DN

set_option Elab.async false
set_option linter.all false
set_option maxRecDepth 100000
set_option maxHeartbeats 4000000
namespace DN
open PySem PySem.Spec PyProof.Rows L2
/-! ### the checker of statements -/
def notTup : Expr → Bool
  | .Tuple _ _ _ => false
  | _ => true
def distinct : List Nat → Bool
  | [] => true
  | i :: is => !(is.contains i) && distinct is
def chkPar (c : Ctx) (is : List (Nat × Bool)) (e : E) (ts vs : List Expr) : Bool :=
  chkA c e vs && decide (is.length ≤ 20) &&
  (match swS ts vs c.sc with
  | some none => (!(is.any (·.2)) || freshP (is.map (·.2)) e) && chkNs c (is.map (·.1)) ts
  | some (some ns) => (match ts with
    | [.Name x _, .Name y _] => decide (ns = [x, y]) && decide (is.length = 2)
    | [.Name x _, .Name y _, .Name z _] => decide (ns = [x, y, z]) && decide (is.length = 3)
    | _ => false) && distinct (is.map (·.1)) && chkNL c (is.map (·.1)) ts && freshP (is.map (·.2)) e
  | none => false)
def chkRai (c : Ctx) (x : Str) (v : Expr) : Bool := match v with
  | .Call (.Name y _) [.Constant (.str _) _ _] [] _ => decide (y = x) && glB c.sc x && okN x && decide (x ∈ c.exs)
  | _ => false
def chkPop (c : Ctx) (i j : Nat) (e : E) : Expr → Bool
  | .Call (.Attribute (.Name x _) m p3) [.Call (.Attribute (.Name y _) m2 p6) [a] [] p7] [] p4 => decide (m = "append") && decide (m2 = "pop") && nmOk c i x && nmOk c j y && notStar a && chkE c e a && (p3.endLine == p4.line) && (p6.endLine == p7.line)
  | _ => false
def chkPut (c : Ctx) (i : Nat) (k : E) : List Expr → Bool
  | [.Subscript (.Name x _) b _] => nmOk c i x && chkE c k b
  | _ => false
theorem put_inv {c : Ctx} {i : Nat} {k : E} {ts : List Expr} (h : chkPut c i k ts = true) : ∃ x p2 b p3, ts = [.Subscript (.Name x p2) b p3] ∧ nmOk c i x = true ∧ chkE c k b = true := by
  unfold chkPut at h
  split at h
  · simp only [Bool.and_eq_true] at h
    exact ⟨_, _, _, _, rfl, h.1, h.2⟩
  · cases h
def chkSsl (c : Ctx) (i : Nat) (k l : E) : List Expr → Bool
  | [.Subscript (.Name x _) (.Slice (some a) (some b) none _) _] => nmOk c i x && chkE c k a && chkE c l b
  | _ => false
theorem ssl_inv {c : Ctx} {i : Nat} {k l : E} {ts : List Expr} (h : chkSsl c i k l ts = true) : ∃ x p2 a b p4 p3, ts = [.Subscript (.Name x p2) (.Slice (some a) (some b) none p4) p3] ∧ nmOk c i x = true ∧ chkE c k a = true ∧ chkE c l b = true := by
  unfold chkSsl at h
  split at h
  · simp only [Bool.and_eq_true] at h
    exact ⟨_, _, _, _, _, _, rfl, h.1.1, h.1.2, h.2⟩
  · cases h
def isAlls : S → Bool
  | .alls _ _ _ _ _ _ => true
  | _ => false
mutual
def chkS (c : Ctx) : S → Stmt → Bool
  | .set i e, .Assign [.Name x p] v _ => tgOk c i x && chkE c e v && (swapB c.sc x p v).isSome
  | .setO i e, .Assign [.Name x p] v _ => tgOk c i x && chkE c e v && (swapB c.sc x p v).isSome && isFresh e
  | .unp is e, .Assign [.Tuple ts _ _] v _ => chkNs c is ts && chkE c e v && notTup v && notComp v
  | .par is e, .Assign [.Tuple ts _ _] (.Tuple vs _ _) _ => chkPar c is e ts vs
  | .expr e, .Expr v _ => chkE c e v && notComp v
  | .ret e, .Return (some v) _ => chkE c e v
  | .retN, .Return none _ => true
  | .ife t a b, .If u xs ys _ => tstE t && chkE c t u && chkBk c a xs && chkBk c b ys
  | .whl _ t b, .While u xs [] _ => tstE t && chkE c t u && chkBk c b xs
  | .forS g it b, .For tg iter xs [] _ => chkI c it tg iter && notSet iter && chkG c g tg && chkBk c b xs
  | .rai x, .Raise (some v) none _ => chkRai c x v
  | .app i e, .Expr (.Call (.Attribute (.Name x _) m p3) [a] [] p4) _ => decide (m = "append") && nmOk c i x && notStar a && chkE c e a && (p3.endLine == p4.line)
  | .appc t i j e, .Expr (.Call (.Attribute (.IfExp u (.Name x _) (.Name y _) _) m p3) [a] [] p4) _ => decide (m = "append") && tstE t && chkE c t u && nmOk c i x && nmOk c j y && notStar a && chkE c e a && (p3.endLine == p4.line)
  | .pop i j e, .Expr v _ => chkPop c i j e v
  | .rem i e, .Expr (.Call (.Attribute (.Name x _) m p3) [a] [] p4) _ => decide (m = "remove") && nmOk c i x && notStar a && chkE c e a && (p3.endLine == p4.line)
  | .ext i e, .Expr (.Call (.Attribute (.Name x _) m p3) [a] [] p4) _ => decide (m = "extend") && nmOk c i x && notStar a && chkE c e a && (p3.endLine == p4.line)
  | .put i k e, .Assign ts v _ => chkPut c i k ts && chkE c e v
  | .ssl i k l e, .Assign ts v _ => chkSsl c i k l ts && chkE c e v
  | .brk, .Break _ => true
  | .cnt, .Continue _ => true
  | .pass, .Pass _ => true
  | _, _ => false
def chkBk (c : Ctx) : S → List Stmt → Bool
  | .nil, [] => true
  | .cons s r, sts => (match s with
    | .dis _ => chkBk c r sts
    | _ => if isAlls s then (match chkAl c s sts with
        | some rest => chkBk c r rest
        | none => false)
      else (match sts with
      | st :: sts => chkS c s st && chkBk c r sts
      | [] => false))
  | _, _ => false
def chkAl (c : Ctx) : S → List Stmt → Option (List Stmt)
  | .alls ws i es re t b, sts => (match chkMk c i true es sts with
    | some (.If test bd [] _ :: rest) => if c.tab && decide (c.ws = ws) && decide (eLen es ≤ 1000) && chkTst c i re t test && chkBk c b bd then some rest else none
    | _ => none)
  | _, _ => none
end
structure SndS (T : List (Addr × Str)) (z : S) : Prop where
  s : ∀ {X : Cx} {W : WX} {c : Ctx} {st : Stmt} (ok : Cok X T W c) (h : chkS c z st = true), PS X st (trS X.K T W (exec c.fns z))
  b : ∀ {X : Cx} {W : WX} {c : Ctx} {sts : List Stmt} (ok : Cok X T W c) (h : chkBk c z sts = true), PSs X sts (trS X.K T W (exec c.fns z))
section
variable {T : List (Addr × Str)}
theorem exec_cons (fns : Fns) (a r : S) : exec fns (.cons a r) = seqF (exec fns a) (exec fns r) := by
  funext ρ
  rw [exec]
  unfold seqF
  rfl
theorem nb {c : Ctx} {z : S} {sts : List Stmt} (hz : ∀ a r, z ≠ .cons a r) (hn : z ≠ .nil) (h : chkBk c z sts = true) : False := by
  cases z with
  | nil => exact hn rfl
  | cons a r => exact hz a r rfl
  | _ => cases sts <;> simp [chkBk] at h
theorem zS_set (i : Nat) (e : E) {X : Cx} {W : WX} {c : Ctx} {st : Stmt} (ok : Cok X T W c) (h : chkS c (.set i e) st = true) : PS X st (trS X.K T W (exec c.fns (.set i e))) := by
  cases st with
  | Assign ts v q =>
    rcases ts with _ | ⟨t, _ | ⟨t2, ts⟩⟩
    · simp [chkS] at h
    · cases t with
      | Name x p =>
        simp only [chkS, Bool.and_eq_true] at h
        obtain ⟨b, hb⟩ := Option.isSome_iff_exists.mp h.2
        have := s_asg (g := .nm i) (s_setG (pos := q) ok h.1.1 h.1.2 hb).1
        rw [show exec c.fns (.set i e) = asgF (.nm i) (ev c.fns e) from by funext ρ; rw [exec]; rfl]
        exact this
      | _ => simp [chkS] at h
    · cases t <;> simp [chkS] at h
  | _ => simp [chkS] at h
theorem zS_setO (i : Nat) (e : E) {X : Cx} {W : WX} {c : Ctx} {st : Stmt} (ok : Cok X T W c) (h : chkS c (.setO i e) st = true) : PS X st (trS X.K T W (exec c.fns (.setO i e))) := by
  cases st with
  | Assign ts v q =>
    rcases ts with _ | ⟨t, _ | ⟨t2, ts⟩⟩
    · simp [chkS] at h
    · cases t with
      | Name x p =>
        simp only [chkS, Bool.and_eq_true] at h
        obtain ⟨b, hb⟩ := Option.isSome_iff_exists.mp h.1.2
        have := s_own ((s_setG (pos := q) ok h.1.1.1 h.1.1.2 hb).2 h.2)
        rw [show exec c.fns (.setO i e) = ownF i (ev c.fns e) from by funext ρ; rw [exec]; rfl]
        exact this
      | _ => simp [chkS] at h
    · cases t <;> simp [chkS] at h
  | _ => simp [chkS] at h
theorem noSw {ts : List Expr} {v : Expr} (h : notTup v = true) (k : Nat) (p : Pos) (env : Env) : swappedStores [.Tuple ts k p] v env = pure none := by
  cases v <;> first | rfl | cases h
theorem zS_unp (is : List Nat) (e : E) {X : Cx} {W : WX} {c : Ctx} {st : Stmt} (ok : Cok X T W c) (h : chkS c (.unp is e) st = true) : PS X st (trS X.K T W (exec c.fns (.unp is e))) := by
  cases st with
  | Assign ts v q =>
    rcases ts with _ | ⟨t, _ | ⟨t2, ts⟩⟩
    · simp [chkS] at h
    · cases t with
      | Tuple es k p =>
        simp only [chkS, Bool.and_eq_true] at h
        obtain ⟨⟨⟨h1, h2⟩, h3⟩, h4⟩ := h
        have := s_asg (g := .tp is) (ps_asg (pos := q) ((snd T e).e ok h2) (g_of ok (show chkG c (.tp is) (.Tuple es k p) = true from h1)) (show swapsWithSole [.Tuple es k p] v q.line X.env = pure false from by unfold swapsWithSole; exact swap_of h4 _ _ _) (noSw h3 _ _ _) rfl)
        rw [show exec c.fns (.unp is e) = asgF (.tp is) (ev c.fns e) from by funext ρ; rw [exec]; rfl]
        exact this
      | _ => simp [chkS] at h
    · cases t <;> simp [chkS] at h
  | _ => simp [chkS] at h
theorem exec_par (fns : Fns) (is : List (Nat × Bool)) (e : E) : exec fns (.par is e) = parF is (ev fns e) := by
  funext ρ
  rw [exec]
  unfold parF
  rfl
theorem zS_par (is : List (Nat × Bool)) (e : E) {X : Cx} {W : WX} {c : Ctx} {st : Stmt} (ok : Cok X T W c) (h : chkS c (.par is e) st = true) : PS X st (trS X.K T W (exec c.fns (.par is e))) := by
  rw [exec_par]
  cases st with
  | Assign ts v q =>
    rcases ts with _ | ⟨t, _ | ⟨t2, ts⟩⟩
    · simp [chkS] at h
    · cases t with
      | Tuple es k p =>
        cases v with
        | Tuple vs k2 p2 =>
          have h : chkPar c is e es vs = true := by simpa [chkS] using h
          unfold chkPar at h
          simp only [Bool.and_eq_true, decide_eq_true_eq] at h
          obtain ⟨⟨h1, h2⟩, h3⟩ := h
          split at h3
          · rename_i hw
            simp only [Bool.and_eq_true, Bool.or_eq_true, Bool.not_eq_true'] at h3
            cases hany : is.any (·.2) with
            | false => exact s_parC ok hany h2 h3.2 h1 hw
            | true => exact s_parD ok hany (h3.1.resolve_left (by rw [hany]; decide)) h2 h3.2 h1 hw
          · rename_i ns hw
            simp only [Bool.and_eq_true] at h3
            obtain ⟨⟨⟨h3, h4⟩, h5⟩, h6⟩ := h3
            split at h3
            · rename_i x px y py
              simp only [Bool.and_eq_true, decide_eq_true_eq] at h3
              obtain ⟨rfl, hl⟩ := h3
              match is, hl with
              | [(i, f1), (j, f2)], _ =>
                simp only [List.map_cons, List.map_nil, distinct, chkNL, Bool.and_eq_true, decide_eq_true_eq] at h4 h5
                obtain ⟨⟨h7, h8⟩, ⟨h9, h10⟩, _⟩ := h5
                have hij : i ≠ j := fun e => by subst e; simp at h4
                match vs, h1, hw with
                | [a, b], h1, hw => exact s_par2 ok hij h7 h9 h8 h10 h1 h6 hw
                | [], h1, hw => simp [swS] at hw
                | [_], h1, hw => simp [swS] at hw
                | _ :: _ :: _ :: _, h1, hw => simp [swS] at hw
            · rename_i x px y py z pz
              simp only [Bool.and_eq_true, decide_eq_true_eq] at h3
              obtain ⟨rfl, hl⟩ := h3
              match is, hl with
              | [(i, f1), (j, f2), (l, f3)], _ =>
                simp only [List.map_cons, List.map_nil, distinct, chkNL, Bool.and_eq_true, decide_eq_true_eq] at h4 h5
                obtain ⟨⟨h7, h8⟩, ⟨h9, h10⟩, ⟨h11, h12⟩, _⟩ := h5
                have hij : i ≠ j := fun e => by subst e; simp at h4
                have hil : i ≠ l := fun e => by subst e; simp at h4
                have hjl : j ≠ l := fun e => by subst e; simp at h4
                match vs, h1, hw with
                | [a, b, d], h1, hw => exact s_par3 ok hij hil hjl h7 h9 h11 h8 h10 h12 h1 h6 hw
                | [], h1, hw => simp [swS] at hw
                | [_], h1, hw => simp [swS] at hw
                | [_, _], h1, hw => simp [swS] at hw
                | _ :: _ :: _ :: _ :: _, h1, hw => simp [swS] at hw
            · cases h3
          · cases h3
        | _ => simp [chkS] at h
      | _ => simp [chkS] at h
    · cases t <;> simp [chkS] at h
  | _ => simp [chkS] at h
theorem zS_expr (e : E) {X : Cx} {W : WX} {c : Ctx} {st : Stmt} (ok : Cok X T W c) (h : chkS c (.expr e) st = true) : PS X st (trS X.K T W (exec c.fns (.expr e))) := by
  cases st with
  | Expr v q =>
    simp only [chkS, Bool.and_eq_true] at h
    have := s_expr (pos := q) ((snd T e).e ok h.1) (swap_of h.2 _ _ _)
    rw [show exec c.fns (.expr e) = exprF (ev c.fns e) from by funext ρ; rw [exec]; rfl]
    exact this
  | _ => simp [chkS] at h
theorem zS_ret (e : E) {X : Cx} {W : WX} {c : Ctx} {st : Stmt} (ok : Cok X T W c) (h : chkS c (.ret e) st = true) : PS X st (trS X.K T W (exec c.fns (.ret e))) := by
  cases st with
  | Return v q =>
    cases v with
    | none => simp [chkS] at h
    | some v =>
      have := s_ret (pos := q) ((snd T e).e ok (by simpa [chkS] using h))
      rw [show exec c.fns (.ret e) = retF (ev c.fns e) from by funext ρ; rw [exec]; rfl]
      exact this
  | _ => simp [chkS] at h
theorem zS_retN {X : Cx} {W : WX} {c : Ctx} {st : Stmt} (ok : Cok X T W c) (h : chkS c .retN st = true) : PS X st (trS X.K T W (exec c.fns .retN)) := by
  cases st with
  | Return v q =>
    cases v with
    | none =>
      rw [show exec c.fns .retN = fun _ => .rt .non from by funext ρ; rw [exec]]
      exact s_retN
    | some v => simp [chkS] at h
  | _ => simp [chkS] at h
theorem zS_ife (t : E) (a b : S) (ia : SndS T a) (ib : SndS T b) {X : Cx} {W : WX} {c : Ctx} {st : Stmt} (ok : Cok X T W c) (h : chkS c (.ife t a b) st = true) : PS X st (trS X.K T W (exec c.fns (.ife t a b))) := by
  cases st with
  | If u xs ys q =>
    simp only [chkS, Bool.and_eq_true] at h
    obtain ⟨⟨⟨h1, h2⟩, h3⟩, h4⟩ := h
    have := s_if (pos := q) ((snd T t).t ok h2 h1) (ia.b ok h3) (ib.b ok h4)
    rw [show exec c.fns (.ife t a b) = ifSF (ev c.fns t) (exec c.fns a) (exec c.fns b) from by funext ρ; rw [exec]; rfl]
    exact this
  | _ => simp [chkS] at h
theorem zS_whl (n : Nat) (t : E) (b : S) (ib : SndS T b) {X : Cx} {W : WX} {c : Ctx} {st : Stmt} (ok : Cok X T W c) (h : chkS c (.whl n t b) st = true) : PS X st (trS X.K T W (exec c.fns (.whl n t b))) := by
  cases st with
  | While u xs ys q =>
    cases ys with
    | cons _ _ => simp [chkS] at h
    | nil =>
      simp only [chkS, Bool.and_eq_true] at h
      obtain ⟨⟨h1, h2⟩, h3⟩ := h
      have := s_while (pos := q) (n := n) ok.po ((snd T t).t ok h2 h1) (ib.b ok h3)
      rw [show exec c.fns (.whl n t b) = whlL (ev c.fns t) (exec c.fns b) n from by funext ρ; rw [exec]]
      exact this
  | _ => simp [chkS] at h
theorem zS_forS (g : Tg) (it : E) (b : S) (ib : SndS T b) {X : Cx} {W : WX} {c : Ctx} {st : Stmt} (ok : Cok X T W c) (h : chkS c (.forS g it b) st = true) : PS X st (trS X.K T W (exec c.fns (.forS g it b))) := by
  cases st with
  | For tg iter xs ys q =>
    cases ys with
    | cons _ _ => simp [chkS] at h
    | nil =>
      simp only [chkS, Bool.and_eq_true] at h
      obtain ⟨⟨⟨h1, h2⟩, h3⟩, h4⟩ := h
      have := s_for (pos := q) ok.po ok.calm ((snd T it).i ok h1) (g_of ok h3) (ib.b ok h4) (set_of h2 _)
      rw [show exec c.fns (.forS g it b) = forF g (ev c.fns it) (exec c.fns b) from by funext ρ; rw [exec]; rfl]
      exact this
  | _ => simp [chkS] at h
theorem rai_inv {c : Ctx} {x : Str} {st : Stmt} (h : chkS c (.rai x) st = true) : ∃ m j p1 p2 p3 q, st = .Raise (some (.Call (.Name x p1) [.Constant (.str m) j p2] [] p3)) none q ∧ glB c.sc x = true ∧ okN x = true ∧ x ∈ c.exs := by
  cases st with
  | Raise v w q =>
    cases w with
    | some _ => cases v <;> simp [chkS] at h
    | none =>
      cases v with
      | none => simp [chkS] at h
      | some v =>
        have h : chkRai c x v = true := by simpa [chkS] using h
        unfold chkRai at h
        split at h
        · simp only [Bool.and_eq_true, decide_eq_true_eq] at h
          obtain ⟨⟨⟨rfl, h1⟩, h2⟩, h3⟩ := h
          exact ⟨_, _, _, _, _, q, rfl, h1, h2, h3⟩
        · cases h
  | _ => simp [chkS] at h
theorem zS_rai (x : Str) {X : Cx} {W : WX} {c : Ctx} {st : Stmt} (ok : Cok X T W c) (h : chkS c (.rai x) st = true) : PS X st (trS X.K T W (exec c.fns (.rai x))) := by
  obtain ⟨m, j, p1, p2, p3, q, rfl, h1, h2, h3⟩ := rai_inv h
  have F := ok.gk.exc x h3
  rw [show exec c.fns (.rai x) = fun ρ => .xc x ρ from by funext ρ; rw [exec]]
  exact s_raise ok.calm ok.tk F.ex F.mg F.kp F.sb F.ty (gl_of ok h1) (okN_of h2).1
theorem app_inv {c : Ctx} {i : Nat} {e : E} {st : Stmt} (h : chkS c (.app i e) st = true) : ∃ x p2 p3 a p4 q, st = .Expr (.Call (.Attribute (.Name x p2) "append" p3) [a] [] p4) q ∧ nmOk c i x = true ∧ notStar a = true ∧ chkE c e a = true ∧ (p3.endLine == p4.line) = true := by
  cases st with
  | Expr v q =>
    cases v with
    | Call fn args kws p4 =>
      cases fn with
      | Attribute o m p3 =>
        cases o with
        | Name x p2 =>
          rcases args with _ | ⟨z, _ | ⟨z2, zs⟩⟩
          · simp [chkS] at h
          · cases kws with
            | cons _ _ => simp [chkS] at h
            | nil =>
              simp only [chkS, Bool.and_eq_true, decide_eq_true_eq] at h
              obtain ⟨⟨⟨⟨rfl, h1⟩, h2⟩, h3⟩, h4⟩ := h
              exact ⟨x, p2, p3, z, p4, q, rfl, h1, h2, h3, h4⟩
          · simp [chkS] at h
        | _ => simp [chkS] at h
      | _ => simp [chkS] at h
    | _ => simp [chkS] at h
  | _ => simp [chkS] at h
theorem ext_inv {c : Ctx} {i : Nat} {e : E} {st : Stmt} (h : chkS c (.ext i e) st = true) : ∃ x p2 p3 a p4 q, st = .Expr (.Call (.Attribute (.Name x p2) "extend" p3) [a] [] p4) q ∧ nmOk c i x = true ∧ notStar a = true ∧ chkE c e a = true ∧ (p3.endLine == p4.line) = true := by
  cases st with
  | Expr v q =>
    cases v with
    | Call fn args kws p4 =>
      cases fn with
      | Attribute o m p3 =>
        cases o with
        | Name x p2 =>
          rcases args with _ | ⟨z, _ | ⟨z2, zs⟩⟩
          · simp [chkS] at h
          · cases kws with
            | cons _ _ => simp [chkS] at h
            | nil =>
              simp only [chkS, Bool.and_eq_true, decide_eq_true_eq] at h
              obtain ⟨⟨⟨⟨rfl, h1⟩, h2⟩, h3⟩, h4⟩ := h
              exact ⟨x, p2, p3, z, p4, q, rfl, h1, h2, h3, h4⟩
          · simp [chkS] at h
        | _ => simp [chkS] at h
      | _ => simp [chkS] at h
    | _ => simp [chkS] at h
  | _ => simp [chkS] at h
theorem zS_app (i : Nat) (e : E) {X : Cx} {W : WX} {c : Ctx} {st : Stmt} (ok : Cok X T W c) (h : chkS c (.app i e) st = true) : PS X st (trS X.K T W (exec c.fns (.app i e))) := by
  obtain ⟨x, p2, p3, a, p4, q, rfl, h1, h2, h3, h4⟩ := app_inv h
  obtain ⟨m1, m2, m3, m4⟩ := nm_of ok h1
  have := s_app (pos := q) (p2 := p2) m1 m2 m3 m4 ((snd T e).e ok h3) (star_of h2 [] X.env) h4
  rw [show exec c.fns (.app i e) = fun ρ => mutF i (ev c.fns e) (appK i ρ) ρ from by funext ρ; rw [exec]; rfl]
  exact this
theorem appc_inv {c : Ctx} {t : E} {i j : Nat} {e : E} {st : Stmt} (h : chkS c (.appc t i j e) st = true) : ∃ u x y p2 p3 a p4 p5 p6 q, st = .Expr (.Call (.Attribute (.IfExp u (.Name x p2) (.Name y p5) p6) "append" p3) [a] [] p4) q ∧ tstE t = true ∧ chkE c t u = true ∧ nmOk c i x = true ∧ nmOk c j y = true ∧ notStar a = true ∧ chkE c e a = true ∧ (p3.endLine == p4.line) = true := by
  cases st with
  | Expr v q =>
    cases v with
    | Call fn args kws p4 =>
      cases fn with
      | Attribute o m p3 =>
        cases o with
        | IfExp u n1 n2 p6 =>
          cases n1 with
          | Name x p2 =>
            cases n2 with
            | Name y p5 =>
              rcases args with _ | ⟨z, _ | ⟨z2, zs⟩⟩
              · simp [chkS] at h
              · cases kws with
                | cons _ _ => simp [chkS] at h
                | nil =>
                  simp only [chkS, Bool.and_eq_true, decide_eq_true_eq] at h
                  obtain ⟨⟨⟨⟨⟨⟨⟨rfl, a1⟩, a2⟩, a3⟩, a4⟩, h2⟩, h3⟩, h4⟩ := h
                  exact ⟨u, x, y, p2, p3, z, p4, p5, p6, q, rfl, a1, a2, a3, a4, h2, h3, h4⟩
              · simp [chkS] at h
            | _ => simp [chkS] at h
          | _ => simp [chkS] at h
        | _ => simp [chkS] at h
      | _ => simp [chkS] at h
    | _ => simp [chkS] at h
  | _ => simp [chkS] at h
theorem zS_appc (t : E) (i j : Nat) (e : E) {X : Cx} {W : WX} {c : Ctx} {st : Stmt} (ok : Cok X T W c) (h : chkS c (.appc t i j e) st = true) : PS X st (trS X.K T W (exec c.fns (.appc t i j e))) := by
  obtain ⟨u, x, y, p2, p3, a, p4, p5, p6, q, rfl, a1, a2, a3, a4, h2, h3, h4⟩ := appc_inv h
  obtain ⟨m1, m2, m3, m4⟩ := nm_of ok a3
  obtain ⟨n1, n2, n3, n4⟩ := nm_of ok a4
  have := s_appc (pos := q) (p2 := p2) (p5 := p5) (p6 := p6) ((snd T t).t ok a2 a1) m1 m2 m3 m4 n1 n2 n3 n4 ((snd T e).e ok h3) (star_of h2 [] X.env) h4
  rw [show exec c.fns (.appc t i j e) = appcF (ev c.fns t) i j (ev c.fns e) from by funext ρ; rw [exec]; rfl]
  exact this
theorem rem_inv {c : Ctx} {i : Nat} {e : E} {st : Stmt} (h : chkS c (.rem i e) st = true) : ∃ x p2 p3 a p4 q, st = .Expr (.Call (.Attribute (.Name x p2) "remove" p3) [a] [] p4) q ∧ nmOk c i x = true ∧ notStar a = true ∧ chkE c e a = true ∧ (p3.endLine == p4.line) = true := by
  cases st with
  | Expr v q =>
    cases v with
    | Call fn args kws p4 =>
      cases fn with
      | Attribute o m p3 =>
        cases o with
        | Name x p2 =>
          rcases args with _ | ⟨z, _ | ⟨z2, zs⟩⟩
          · simp [chkS] at h
          · cases kws with
            | cons _ _ => simp [chkS] at h
            | nil =>
              simp only [chkS, Bool.and_eq_true, decide_eq_true_eq] at h
              obtain ⟨⟨⟨⟨rfl, h1⟩, h2⟩, h3⟩, h4⟩ := h
              exact ⟨x, p2, p3, z, p4, q, rfl, h1, h2, h3, h4⟩
          · simp [chkS] at h
        | _ => simp [chkS] at h
      | _ => simp [chkS] at h
    | _ => simp [chkS] at h
  | _ => simp [chkS] at h
theorem zS_rem (i : Nat) (e : E) {X : Cx} {W : WX} {c : Ctx} {st : Stmt} (ok : Cok X T W c) (h : chkS c (.rem i e) st = true) : PS X st (trS X.K T W (exec c.fns (.rem i e))) := by
  obtain ⟨x, p2, p3, a, p4, q, rfl, h1, h2, h3, h4⟩ := rem_inv h
  obtain ⟨m1, m2, m3, m4⟩ := nm_of ok h1
  have := s_rem (pos := q) (p2 := p2) m1 m2 m3 m4 ((snd T e).e ok h3) (star_of h2 [] X.env) h4
  rw [show exec c.fns (.rem i e) = fun ρ => mutF i (ev c.fns e) (remK i ρ) ρ from by funext ρ; rw [exec]; rfl]
  exact this
theorem pop_inv {c : Ctx} {i j : Nat} {e : E} {st : Stmt} (h : chkS c (.pop i j e) st = true) : ∃ x y p2 p3 a p4 p5 p6 p7 q, st = .Expr (.Call (.Attribute (.Name x p2) "append" p3) [.Call (.Attribute (.Name y p5) "pop" p6) [a] [] p7] [] p4) q ∧ nmOk c i x = true ∧ nmOk c j y = true ∧ notStar a = true ∧ chkE c e a = true ∧ (p3.endLine == p4.line) = true ∧ (p6.endLine == p7.line) = true := by
  cases st with
  | Expr v q =>
    rw [chkS] at h
    unfold chkPop at h
    split at h
    · rename_i x p2 m p3 y p5 m2 p6 a p7 p4
      simp only [Bool.and_eq_true, decide_eq_true_eq] at h
      obtain ⟨⟨⟨⟨⟨⟨⟨rfl, rfl⟩, h1⟩, h2⟩, h3⟩, h4⟩, h5⟩, h6⟩ := h
      exact ⟨x, y, p2, p3, a, p4, p5, p6, p7, q, rfl, h1, h2, h3, h4, h5, h6⟩
    · cases h
  | _ => simp [chkS] at h
theorem zS_pop (i j : Nat) (e : E) {X : Cx} {W : WX} {c : Ctx} {st : Stmt} (ok : Cok X T W c) (h : chkS c (.pop i j e) st = true) : PS X st (trS X.K T W (exec c.fns (.pop i j e))) := by
  obtain ⟨x, y, p2, p3, a, p4, p5, p6, p7, q, rfl, h1, h2, h3, h4, h5, h6⟩ := pop_inv h
  obtain ⟨m1, m2, m3, m4⟩ := nm_of ok h1
  obtain ⟨n1, n2, n3, n4⟩ := nm_of ok h2
  have := s_pop (pos := q) (p2 := p2) (p5 := p5) m1 m2 m3 m4 n1 n2 n3 n4 ((snd T e).e ok h4) (star_of h3 [] X.env) h5 h6
  rw [show exec c.fns (.pop i j e) = popF i j (ev c.fns e) from by funext ρ; rw [exec]; rfl]
  exact this
theorem zS_ext (i : Nat) (e : E) {X : Cx} {W : WX} {c : Ctx} {st : Stmt} (ok : Cok X T W c) (h : chkS c (.ext i e) st = true) : PS X st (trS X.K T W (exec c.fns (.ext i e))) := by
  obtain ⟨x, p2, p3, a, p4, q, rfl, h1, h2, h3, h4⟩ := ext_inv h
  obtain ⟨m1, m2, m3, m4⟩ := nm_of ok h1
  have := s_ext (pos := q) (p2 := p2) m1 m2 m3 m4 ((snd T e).e ok h3) (star_of h2 [] X.env) h4
  rw [show exec c.fns (.ext i e) = fun ρ => mutF i (ev c.fns e) (extK i ρ) ρ from by funext ρ; rw [exec]; rfl]
  exact this
theorem zS_put (i : Nat) (k e : E) {X : Cx} {W : WX} {c : Ctx} {st : Stmt} (ok : Cok X T W c) (h : chkS c (.put i k e) st = true) : PS X st (trS X.K T W (exec c.fns (.put i k e))) := by
  cases st with
  | Assign ts v q =>
    simp only [chkS, Bool.and_eq_true] at h
    obtain ⟨h1, h3⟩ := h
    obtain ⟨x, p2, b, p3, rfl, h1, h2⟩ := put_inv h1
    obtain ⟨m1, m2, m3, m4⟩ := nm_of ok h1
    rw [show exec c.fns (.put i k e) = putF i (ev c.fns k) (ev c.fns e) from by funext ρ; rw [exec]; rfl]
    exact s_put m1 m2 m3 m4 ((snd T e).e ok h3) ((snd T k).e ok h2)
  | _ => simp [chkS] at h
theorem zS_ssl (i : Nat) (k l e : E) {X : Cx} {W : WX} {c : Ctx} {st : Stmt} (ok : Cok X T W c) (h : chkS c (.ssl i k l e) st = true) : PS X st (trS X.K T W (exec c.fns (.ssl i k l e))) := by
  cases st with
  | Assign ts v q =>
    simp only [chkS, Bool.and_eq_true] at h
    obtain ⟨h1, h3⟩ := h
    obtain ⟨x, p2, a, b, p4, p3, rfl, h1, h2, h4⟩ := ssl_inv h1
    obtain ⟨m1, m2, m3, m4⟩ := nm_of ok h1
    rw [show exec c.fns (.ssl i k l e) = sslF i (ev c.fns k) (ev c.fns l) (ev c.fns e) from by funext ρ; rw [exec]; rfl]
    exact s_ssl m1 m2 m3 m4 ((snd T e).e ok h3) ((snd T k).e ok h2) ((snd T l).e ok h4)
  | _ => simp [chkS] at h
theorem exec_alls (fns : Fns) (ws : List Str) (i : Nat) (es re t : E) (b : S) : exec fns (.alls ws i es re t b) = allsF ws i (evL fns es) (ev fns re) (dOpt fns t) (exec fns b) := by
  funext ρ
  cases t <;> (rw [exec] <;> first | rfl | (intro h; cases h))
theorem zB_cons (a r : S) (ia : SndS T a) (ir : SndS T r) (ib : ∀ ws i es re t b, a = .alls ws i es re t b → ∀ {X : Cx} {W : WX} {c : Ctx} {sts : List Stmt}, Cok X T W c → chkBk c b sts = true → PSs X sts (trS X.K T W (exec c.fns b))) {X : Cx} {W : WX} {c : Ctx} {sts : List Stmt} (ok : Cok X T W c) (h : chkBk c (.cons a r) sts = true) : PSs X sts (trS X.K T W (exec c.fns (.cons a r))) := by
  rw [exec_cons]
  by_cases hd : ∃ i, a = .dis i
  · obtain ⟨i, rfl⟩ := hd
    have h : chkBk c r sts = true := by simpa [chkBk] using h
    have := s_dis (i := i) (ir.b ok h)
    rw [show exec c.fns (.dis i) = disF i from by funext ρ; rw [exec]; rfl]
    exact this
  · by_cases ha : ∃ ws i es re t b, a = .alls ws i es re t b
    · obtain ⟨ws, i, es, re, t, b, rfl⟩ := ha
      have h9 : (match chkAl c (.alls ws i es re t b) sts with
        | some rest => chkBk c r rest
        | none => false) = true := by
        simp only [chkBk, isAlls, if_true] at h
        exact h
      split at h9
      · rename_i rest hal
        rw [chkAl] at hal
        split at hal
        · rename_i test bd q rest' hmk
          split at hal
          · rename_i hcc
            cases hal
            simp only [Bool.and_eq_true, decide_eq_true_eq] at hcc
            obtain ⟨⟨⟨⟨h1, rfl⟩, h3⟩, h4⟩, h5⟩ := hcc
            have := s_alls ok h1 hmk h3 h4 (ib _ _ _ _ _ _ rfl ok h5) (ir.b ok h9)
            rw [exec_alls]
            exact this
          · cases hal
        · cases hal
      · cases h9
    · cases sts with
      | nil => cases a <;> first | exact absurd ⟨_, rfl⟩ hd | exact absurd ⟨_, _, _, _, _, _, rfl⟩ ha | (simp [chkBk, isAlls] at h; done)
      | cons st sts =>
        have h2 : chkS c a st = true ∧ chkBk c r sts = true := by
          cases a <;> first | exact absurd ⟨_, rfl⟩ hd | exact absurd ⟨_, _, _, _, _, _, rfl⟩ ha | simpa [chkBk, isAlls] using h
        exact s_cons (ia.s ok h2.1) (ir.b ok h2.2)
end
theorem sndS (T : List (Addr × Str)) : ∀ z : S, SndS T z
  | .nil => ⟨fun {_ _ _ st} ok h => by cases st <;> simp [chkS] at h, fun {X W c sts} ok h => by
      cases sts with
      | nil =>
        rw [show exec c.fns .nil = fun ρ => .nx ρ from by funext ρ; rw [exec]]
        exact s_nil
      | cons _ _ => simp [chkBk] at h⟩
  | .cons a r => ⟨fun {_ _ _ st} ok h => by cases st <;> simp [chkS] at h, fun ok h => zB_cons a r (sndS T a) (sndS T r) (fun ws i es re t b e {X W c sts} ok h => (match a, e with | .alls _ _ _ _ _ b, rfl => (sndS T b).b ok h)) ok h⟩
  | .set i e => ⟨fun ok h => zS_set i e ok h, fun ok h => (nb (fun _ _ z => by cases z) (fun z => by cases z) h).elim⟩
  | .setO i e => ⟨fun ok h => zS_setO i e ok h, fun ok h => (nb (fun _ _ z => by cases z) (fun z => by cases z) h).elim⟩
  | .unp is e => ⟨fun ok h => zS_unp is e ok h, fun ok h => (nb (fun _ _ z => by cases z) (fun z => by cases z) h).elim⟩
  | .par is e => ⟨fun ok h => zS_par is e ok h, fun ok h => (nb (fun _ _ z => by cases z) (fun z => by cases z) h).elim⟩
  | .expr e => ⟨fun ok h => zS_expr e ok h, fun ok h => (nb (fun _ _ z => by cases z) (fun z => by cases z) h).elim⟩
  | .ret e => ⟨fun ok h => zS_ret e ok h, fun ok h => (nb (fun _ _ z => by cases z) (fun z => by cases z) h).elim⟩
  | .retN => ⟨fun ok h => zS_retN ok h, fun ok h => (nb (fun _ _ z => by cases z) (fun z => by cases z) h).elim⟩
  | .ife t a b => ⟨fun ok h => zS_ife t a b (sndS T a) (sndS T b) ok h, fun ok h => (nb (fun _ _ z => by cases z) (fun z => by cases z) h).elim⟩
  | .whl n t b => ⟨fun ok h => zS_whl n t b (sndS T b) ok h, fun ok h => (nb (fun _ _ z => by cases z) (fun z => by cases z) h).elim⟩
  | .forS g it b => ⟨fun ok h => zS_forS g it b (sndS T b) ok h, fun ok h => (nb (fun _ _ z => by cases z) (fun z => by cases z) h).elim⟩
  | .rai x => ⟨fun ok h => zS_rai x ok h, fun ok h => (nb (fun _ _ z => by cases z) (fun z => by cases z) h).elim⟩
  | .put i k e => ⟨fun ok h => zS_put i k e ok h, fun ok h => (nb (fun _ _ z => by cases z) (fun z => by cases z) h).elim⟩
  | .ssl i k l e => ⟨fun ok h => zS_ssl i k l e ok h, fun ok h => (nb (fun _ _ z => by cases z) (fun z => by cases z) h).elim⟩
  | .appc t i j e => ⟨fun ok h => zS_appc t i j e ok h, fun ok h => (nb (fun _ _ z => by cases z) (fun z => by cases z) h).elim⟩
  | .pop i j e => ⟨fun ok h => zS_pop i j e ok h, fun ok h => (nb (fun _ _ z => by cases z) (fun z => by cases z) h).elim⟩
  | .rem i e => ⟨fun ok h => zS_rem i e ok h, fun ok h => (nb (fun _ _ z => by cases z) (fun z => by cases z) h).elim⟩
  | .app i e => ⟨fun ok h => zS_app i e ok h, fun ok h => (nb (fun _ _ z => by cases z) (fun z => by cases z) h).elim⟩
  | .ext i e => ⟨fun ok h => zS_ext i e ok h, fun ok h => (nb (fun _ _ z => by cases z) (fun z => by cases z) h).elim⟩
  | .alls ws i es re t b => ⟨fun {_ _ _ st} ok h => by cases st <;> simp [chkS] at h, fun ok h => (nb (fun _ _ z => by cases z) (fun z => by cases z) h).elim⟩
  | .dis i => ⟨fun {_ _ _ st} ok h => by cases st <;> simp [chkS] at h, fun ok h => (nb (fun _ _ z => by cases z) (fun z => by cases z) h).elim⟩
  | .brk => ⟨fun {_ _ c st} ok h => by
      cases st with
      | Break q =>
        rw [show exec c.fns .brk = fun ρ => .br ρ from by funext ρ; rw [exec]]
        exact s_brk
      | _ => simp [chkS] at h, fun ok h => (nb (fun _ _ z => by cases z) (fun z => by cases z) h).elim⟩
  | .cnt => ⟨fun {_ _ c st} ok h => by
      cases st with
      | Continue q =>
        rw [show exec c.fns .cnt = fun ρ => .ct ρ from by funext ρ; rw [exec]]
        exact s_cnt
      | _ => simp [chkS] at h, fun ok h => (nb (fun _ _ z => by cases z) (fun z => by cases z) h).elim⟩
  | .pass => ⟨fun {_ _ c st} ok h => by
      cases st with
      | Pass q =>
        rw [show exec c.fns .pass = fun ρ => .nx ρ from by funext ρ; rw [exec]]
        exact s_pass
      | _ => simp [chkS] at h, fun ok h => (nb (fun _ _ z => by cases z) (fun z => by cases z) h).elim⟩
end DN

set_option Elab.async false
set_option linter.all false
set_option maxRecDepth 100000
set_option maxHeartbeats 4000000
namespace DN
open PySem PySem.Spec PyProof.Rows L2
/-! ### a def -/
section
variable {P : Program} {w : World} {K : PySem.W.Frag} {mg : Str → Option Value} {base : Heap} {T : List (Addr × Str)}
/-- a def of the program's top, up to a level -/
def FnF (P : Program) (w : World) (K : PySem.W.Frag) (mg : Str → Option Value) (base : Heap) (T : List (Addr × Str)) (k : Nat) (x : Str) (F : List D → Rs D) : Prop := ∃ (f : Addr) (fd : FuncData) (ps : List Str) (j : Nat), j ≤ k ∧ mg x = some (.ref f) ∧ PySem.W.keepIn K (.ref f) = true ∧ Binds K fd ps [] ∧ FnOk P w K mg base (L2N.CX P w) j f fd ps (spOf K T F)
theorem FnF.mono {k k' : Nat} {x : Str} {F : List D → Rs D} (h : FnF P w K mg base T k x F) (hk : k ≤ k') : FnF P w K mg base T k' x F := let ⟨f, fd, ps, j, hj, r⟩ := h; ⟨f, fd, ps, j, Nat.le_trans hj hk, r⟩
inductive FnFs (P : Program) (w : World) (K : PySem.W.Frag) (mg : Str → Option Value) (base : Heap) (T : List (Addr × Str)) (k : Nat) : List Str → Fns → Prop
  | nil : FnFs P w K mg base T k [] []
  | cons {j : Nat} {x : Str} {y : Str} {F : List D → Rs D} {xs : List Str} {fs : Fns} : FnF P w K mg base T j x F → j ≤ k → FnFs P w K mg base T k xs fs → FnFs P w K mg base T k (x :: xs) ((y, F) :: fs)
theorem FnFs.get {k : Nat} {xs : List Str} {fs : Fns} (h : FnFs P w K mg base T k xs fs) : ∀ (i : Nat) (x : Str) (F : Str × (List D → Rs D)), xs[i]? = some x → fs[i]? = some F → FnF P w K mg base T k x F.2 := by
  induction h with
  | nil => intro i x F h; simp at h
  | cons h1 h2 _ ih =>
    intro i x F e1 e2
    cases i with
    | zero => simp at e1 e2; subst e1; subst e2; exact h1.mono h2
    | succ i => exact ih i x F (by simpa using e1) (by simpa using e2)
/-- what the program's top has, besides -/
structure Gp (K : PySem.W.Frag) (mg : Str → Option Value) (glos : List (Str × D)) (exs : List Str) : Prop where
  blt : ∀ x ∈ bnames, mg x = none
  glo : ∀ (i : Nat) (x : Str) (d : D), glos[i]? = some (x, d) → ∃ v u, mg x = some u ∧ RelV v u ∧ ∀ H N, Rp K H N v d
  exc : ∀ x ∈ exs, ExcF K mg x
theorem Gp.gk {k : Nat} {fns : Fns} {fnm : List Str} {glos : List (Str × D)} {exs : List Str} {A : Around} (g : Gp K mg glos exs) (fs : FnFs P w K mg base T k fnm fns) (hr : Room k A) : Gk P w K mg base A T fns fnm glos exs where
  fn := fun i x F h1 h2 => let ⟨f, fd, ps, j, hj, m1, m2, m3, m4⟩ := fs.get i x F h1 h2; ⟨f, fd, ps, j, m1, m2, m3, m4, hr.mono hj⟩
  blt := g.blt
  glo := g.glo
  exc := g.exc
  room := hr.units
def ctxOf (N : List Str) (sc : Scope) (fns : Fns) (fnm : List Str) (glos : List (Str × D)) (exs : List Str) : Ctx := { N := N, sc := sc, top := true, fns := fns, fnm := fnm, glos := glos, exs := exs }
def ctxOfL (N : List Str) (sc : Scope) (fns : Fns) (fnm : List Str) (glos : List (Str × D)) (exs : List Str) (tn an : Str) (ws : List Str) : Ctx := { N := N, sc := sc, top := true, fns := fns, fnm := fnm, glos := glos, exs := exs, tab := true, tn := tn, an := an, ws := ws }
theorem rep_start {H : Hp} {N0 : Hid} {vs : List V} {ds : List D} {N : List Str} (dom : Dom N0 H) (tabs : LamX.Tabs T H) (r : RpAll K H N0 vs ds) : Rep K T H N0 [] H N0 (start N vs) (ds.map .dat ++ List.replicate (N.length - ds.length) .no) where
  ext := Ext.refl H
  tabs := tabs
  dom0 := dom
  dom := dom
  hid := fun _ h => h
  len := by
    unfold L2.start
    simp [r.length]
  dat := fun i d h => by
    by_cases hi : i < ds.length
    · rw [List.getElem?_append_left (by simpa using hi), List.getElem?_map, Option.map_eq_some_iff] at h
      obtain ⟨d', h1, h2⟩ := h
      cases h2
      obtain ⟨v, q1, q2⟩ := r.get h1
      refine ⟨v, ?_, q2⟩
      unfold L2.start
      rw [List.getElem?_append_left (by rw [List.length_map, r.length]; exact hi), List.getElem?_map, q1]
      rfl
    · rw [List.getElem?_append_right (by simpa using hi), List.getElem?_replicate] at h
      split at h <;> cases h
  own := fun i d h => by
    by_cases hi : i < ds.length
    · rw [List.getElem?_append_left (by simpa using hi), List.getElem?_map, Option.map_eq_some_iff] at h
      obtain ⟨d', h1, h2⟩ := h
      cases h2
    · rw [List.getElem?_append_right (by simpa using hi), List.getElem?_replicate] at h
      split at h <;> cases h
  sep := fun i j d e a h _ _ _ => by
    by_cases hi : i < ds.length
    · rw [List.getElem?_append_left (by simpa using hi), List.getElem?_map, Option.map_eq_some_iff] at h
      obtain ⟨d', h1, h2⟩ := h
      cases h2
    · rw [List.getElem?_append_right (by simpa using hi), List.getElem?_replicate] at h
      split at h <;> cases h
  pins := fun p h => by cases h
theorem fn_gen {k : Nat} {c : Ctx} {f : Addr} {name qual : Str} {params : Arguments} {body : List Stmt} {scope : Scope} {dV kV doc pm cdv ct oc : Value} {an od : Option Addr} {osl : Array (Option Value)} {N ps : List Str} {b : S} (lk : K.lookup f = some ⟨oc, od, .func (PySem.W.fnOf name qual params body scope dV kV doc pm an cdv ct), osl⟩) (hcd : PySem.W.codeIn K cdv qual = true) (Sc : FnScope N ps scope)
    (hok : ∀ (A : Around) (outer : List Env) (s : Shared) (H : Hp) (E : XK), Room k (A.deeper (envOfC qual scope s.heap.objs.size f cdv)) → Cok (cxOf (L2N.CX P w) P w K mg base N qual scope f cdv A outer s H E) T (fun cls d _ H => E cls d H) c) (h : chkBk c b body = true) :
    FnOk P w K mg base (L2N.CX P w) (k + 1) f (PySem.W.fnOf name qual params body scope dV kV doc pm an cdv ct) ps (spOf K T (fnSem c.fns ps.length N.length b)) := by
  refine fn_of lk hcd Sc (fun vs H Q E hs => ?_) (fun A outer s H vs Q E hr hs => ?_)
  · obtain ⟨N, ds, _, _, r, hb, _⟩ := hs
    rw [r.length]
    apply Decidable.byContradiction
    intro hne
    apply hb
    unfold fnSem
    rw [if_neg hne]
  · obtain ⟨Nh, ds, dom, tabs, r, hb, hx, hk⟩ := hs
    have hlen : ds.length = ps.length := by
      apply Decidable.byContradiction
      intro hne
      apply hb
      unfold fnSem
      rw [if_neg hne]
    have ok := hok A outer s H E hr
    refine ⟨_, (sndS T b).b ok h, H, Nh, [], Nh, _, rep_start (N := N) dom tabs r, ?_⟩
    have key : fnSem c.fns ps.length N.length b ds = (match exec c.fns b (ds.map .dat ++ List.replicate (N.length - ds.length) .no) with
      | .rt d => .ok d
      | .nx _ => .ok .non
      | .xc c _ => .exc c
      | _ => .bad) := by
      unfold fnSem
      rw [if_pos hlen, hlen] <;> rfl
    rw [key] at hb hx hk
    show EvS K T _ H Nh [] _ (exec c.fns b _)
    cases q : exec c.fns b (ds.map .dat ++ List.replicate (N.length - ds.length) .no) with
    | nx ρ => rw [q] at hk; exact fun σ H' N' rep => hk .non rfl .non H' rep.ext .non
    | rt d => rw [q] at hk; exact fun v H' e _ r => hk d rfl v H' e r
    | xc c ρ => rw [q] at hx; exact fun σ H' N' rep => hx c rfl H' rep.ext
    | br ρ => rw [q] at hb; exact absurd rfl hb
    | ct ρ => rw [q] at hb; exact absurd rfl hb
    | bad => rw [q] at hb; exact absurd rfl hb
theorem fn_ok {k : Nat} {fns : Fns} {fnm : List Str} {glos : List (Str × D)} {exs : List Str} (g : Gp K mg glos exs) (fs : FnFs P w K mg base T k fnm fns) {x qual : Str} {params : Arguments} {body : List Stmt} {scope : Scope} {f : Addr} {fd : FuncData} {N ps : List Str} {b : S}
    (F : FunD K x qual params body scope [] [] f fd) (Sc : FnScope N ps scope) (h : chkBk (ctxOf N scope fns fnm glos exs) b body = true) : FnOk P w K mg base (L2N.CX P w) (k + 1) f fd ps (spOf K T (fnSem fns ps.length N.length b)) := by
  obtain ⟨oc, od, dV, kV, doc, pm, an, cdv, ct, osl, rfl, lk, hcd, _, _⟩ := F.ex
  exact fn_gen (P := P) (w := w) (mg := mg) (base := base) (T := T) (c := ctxOf N scope fns fnm glos exs) lk hcd Sc (fun A outer s H E hr => {
      nd := Sc.nd
      eN := rfl
      eS := rfl
      calm := rfl
      top := fun _ _ => rfl
      cel := fun _ _ => rfl
      tk := L2N.takes_of rfl rfl rfl rfl
      po := passes_of rfl
      gk := g.gk fs hr
      tl := fun z => by cases z }) h
/-- the tables of the defs that make lambdas: by their names, at the top and in the text -/
def tabT (K : PySem.W.Frag) (tf : List (Str × Str)) : List (Addr × Str) := tf.map fun p => ((He.cT K (p.1, none)).2, (p.2 ++ ".<locals>.") ++ "<lambda>")
def tabNd (tf : List (Str × Str)) (K : PySem.W.Frag) : Bool := decide ((tf.map fun p => (He.cT K (p.1, none)).2).Nodup)
theorem nodup_at {α β : Type} {f : α → β} : ∀ {l : List α}, (l.map f).Nodup → ∀ a ∈ l, ∀ b ∈ l, f a = f b → a = b
  | [], _, a, h, _, _, _ => by cases h
  | x :: l, hn, a, ha, b, hb, e => by
    rw [List.map_cons, List.nodup_cons] at hn
    rcases List.mem_cons.mp ha with rfl | ha2
    · rcases List.mem_cons.mp hb with rfl | hb
      · rfl
      · exact absurd (List.mem_map.mpr ⟨b, hb, e.symm⟩) hn.1
    · rcases List.mem_cons.mp hb with z | hb
      · subst z
        exact absurd (List.mem_map.mpr ⟨a, ha2, e⟩) hn.1
      · exact nodup_at hn.2 a ha2 b hb e
theorem fn_okL {k : Nat} {tf : List (Str × Str)} {fns : Fns} {fnm : List Str} {glos : List (Str × D)} {exs : List Str} (g : Gp K mg glos exs) (fs : FnFs P w K mg base (tabT K tf) k fnm fns) {x y tn an : Str} {ws : List Str} {params : Arguments} {body : List Stmt} {scope : Scope} {fd : FuncData} {N ps : List Str} {b : S}
    (hx : (x, y) ∈ tf) (hnd : tabNd tf K = true) (TB : ∀ p ∈ tf, LamX.TabB base mg (He.cT K (p.1, none)).1 (He.cT K (p.1, none)).2) (told : ∃ g, ToldD K mg ws tn g ∧ mg tn = some (.ref g) ∧ PySem.W.keepIn K (.ref g) = true) (all : an ≠ "" → ∃ g, AllD K mg ws an g ∧ mg an = some (.ref g) ∧ PySem.W.keepIn K (.ref g) = true)
    (F : FunD K y y params body scope [] [] (He.fAd K (x, none)) fd) (Sc : FnScope N ps scope) (h : chkBk (ctxOfL N scope fns fnm glos exs tn an ws) b body = true) : FnOk P w K mg base (L2N.CX P w) (k + 4) (He.fAd K (x, none)) fd ps (spOf K (tabT K tf) (fnSem fns ps.length N.length b)) := by
  obtain ⟨oc, od, dV, kV, doc, pm, an', cdv, ct, osl, rfl, lk, hcd, _, _⟩ := F.ex
  obtain ⟨cc, rfl⟩ := He.codeIn_ref hcd
  have ec : He.codeOf K (x, none) = cc := He.codeOf_eq lk rfl
  have tb := TB _ hx
  have ecT : (He.cT K (x, none)).1 = cc := ec
  refine fn_gen (P := P) (w := w) (mg := mg) (base := base) (T := tabT K tf) (c := ctxOfL N scope fns fnm glos exs tn an ws) (k := k + 3) lk hcd Sc (fun A outer s H E hr => {
      nd := Sc.nd
      eN := rfl
      eS := rfl
      calm := rfl
      top := fun _ _ => rfl
      cel := fun _ _ => rfl
      tk := L2N.takes_of rfl rfl rfl rfl
      po := passes_of rfl
      gk := g.gk fs (hr.mono (by omega))
      tl := fun _ => {
        tab := ⟨cc, (He.cT K (x, none)).2, by rw [← ecT]; exact tb, rfl, List.mem_map.mpr ⟨(x, y), hx, rfl⟩, fun p hp hp1 => ?_⟩
        told := told
        all := all
        room := ⟨k, hr, fun A' hr' => g.gk fs hr'⟩ } }) h
  obtain ⟨q, hq, rfl⟩ := List.mem_map.mp hp
  have := nodup_at (of_decide_eq_true hnd) q hq (x, y) hx hp1
  rw [this]
  rfl
/-! ### scopes by a check -/
def fnScB (N P : List Str) (sc : Scope) : Bool :=
  (match sc.kind with | .function => true | _ => false) && !sc.isCoroutine && !sc.isGenerator && decide (N.Nodup) && decide (N.take P.length = P) && (P.all fun x => (match sc.names.lookup x with | some .local => true | some .cell => true | _ => false)) && sc.names.all fun y => (match y.2 with | .free => false | _ => true)
theorem fnSc_by {N P : List Str} {sc : Scope} (h : fnScB N P sc = true) : FnScope N P sc := by
  unfold fnScB at h
  simp only [Bool.and_eq_true, decide_eq_true_eq, Bool.not_eq_true', List.all_eq_true] at h
  obtain ⟨⟨⟨⟨⟨⟨h1, h2⟩, h3⟩, h4⟩, h5⟩, h6⟩, h7⟩ := h
  refine ⟨?_, h2, h3, h4, h5, fun x hx => ?_, fun y hy hf => ?_⟩
  · split at h1
    · assumption
    · cases h1
  · have := h6 x hx
    split at this
    · exact .inl (by assumption)
    · exact .inr (by assumption)
    · cases this
  · have := h7 y hy
    rw [hf] at this
    cases this
/-- one step: the next def, with lambdas -/
theorem stepL {k : Nat} {tf : List (Str × Str)} {fns : Fns} {fnm : List Str} {glos : List (Str × D)} {exs : List Str} (g : Gp K mg glos exs) {x y tn an : Str} {ws : List Str} {params : Arguments} {body : List Stmt} {scope : Scope} {fd : FuncData} {N ps : List Str} {b : S} (fs : FnFs P w K mg base (tabT K tf) k fnm fns)
    (hx : (x, y) ∈ tf) (hnd : tabNd tf K = true) (TB : ∀ p ∈ tf, LamX.TabB base mg (He.cT K (p.1, none)).1 (He.cT K (p.1, none)).2) (told : ∃ g, ToldD K mg ws tn g ∧ mg tn = some (.ref g) ∧ PySem.W.keepIn K (.ref g) = true) (all : an ≠ "" → ∃ g, AllD K mg ws an g ∧ mg an = some (.ref g) ∧ PySem.W.keepIn K (.ref g) = true)
    (F : FunD K y y params body scope [] [] (He.fAd K (x, none)) fd) (m1 : mg x = some (.ref (He.fAd K (x, none)))) (Sc : fnScB N ps scope = true) (h : chkBk (ctxOfL N scope fns fnm glos exs tn an ws) b body = true) (hb : Binds K fd ps []) :
    FnF P w K mg base (tabT K tf) (k + 4) x (fnSem fns ps.length N.length b) := ⟨_, fd, ps, k + 4, Nat.le_refl _, m1, F.kp, hb, fn_okL g fs hx hnd TB told all F (fnSc_by Sc) h⟩
/-- one step: the next def -/
theorem step {k : Nat} {fns : Fns} {fnm : List Str} {glos : List (Str × D)} {exs : List Str} (g : Gp K mg glos exs) {x y : Str} {params : Arguments} {body : List Stmt} {scope : Scope} {f : Addr} {fd : FuncData} {N ps : List Str} {b : S} (fs : FnFs P w K mg base T k fnm fns)
    (F : FunD K y y params body scope [] [] f fd) (m1 : mg x = some (.ref f)) (Sc : fnScB N ps scope = true) (h : chkBk (ctxOf N scope fns fnm glos exs) b body = true) (hb : Binds K fd ps []) :
    FnF P w K mg base T (k + 1) x (fnSem fns ps.length N.length b) := ⟨f, fd, ps, k + 1, Nat.le_refl _, m1, F.kp, hb, fn_ok g fs F (fnSc_by Sc) h⟩
end
/-! ### the law -/
theorem law_sp {K : PySem.W.Frag} {F : List D → Rs D} {H : Hp} {a : Addr} {ns : List Int} (hO : Only H) (hS : SqL K H a (ns.map V.int)) (h : F [.scr ns] = .ok (.bl true)) : spOf K [] F [.ref a] H (fun v _ => v = .bl true) fun _ _ _ => False := by
  have r : Rp K H (fun _ => False) (.ref a) (.scr ns) := by
    rcases hS with (hS | hS) | hS
    · exact .scr (.inl ⟨fun z => z, .inl hS⟩)
    · exact .scr (.inl ⟨fun z => z, .inr hS⟩)
    · exact .scr (.inr hS)
  refine ⟨fun _ => False, [.scr ns], (fun a z => z.elim), (fun p z => by cases z), .cons r .nil, (fun z => by rw [h] at z; cases z), (fun c z => by rw [h] at z; cases z), fun d e v H' _ q => ?_⟩
  rw [h] at e
  cases e
  cases q
  rfl
theorem law_no {P : Program} {w : World} (H : Hp) (s : Shared) (e : Value) (s' : Shared) (h : L2N.CX P w [] H s (fun _ _ _ => False) e s') : False := by
  obtain ⟨_, _, _, _, _, _, _, _, _, _, _, _, z⟩ := h
  exact z
theorem law_spT {K : PySem.W.Frag} {tf : List (Str × Str)} {F : List D → Rs D} {H : Hp} {a : Addr} {ns : List Int} (hT : ∀ p ∈ tf, H (He.cT K (p.1, none)).2 = some (.tbl #[])) (hS : SqL K H a (ns.map V.int)) (h : F [.scr ns] = .ok (.bl true)) : spOf K (tabT K tf) F [.ref a] H (fun v _ => v = .bl true) fun _ _ _ => False := by
  have r : Rp K H (fun _ => False) (.ref a) (.scr ns) := by
    rcases hS with hS | hS
    · exact .scr (.inl ⟨fun z => z, hS⟩)
    · exact .scr (.inr hS)
  refine ⟨fun _ => False, [.scr ns], (fun a z => z.elim), (fun p z => ?_), .cons r .nil, (fun z => by rw [h] at z; cases z), (fun c z => by rw [h] at z; cases z), fun d e v H' _ q => ?_⟩
  · obtain ⟨q, hq, rfl⟩ := List.mem_map.mp z
    exact LamX.TabS.nil (hT q hq)
  · rw [h] at e
    cases e
    cases q
    rfl
end DN

set_option Elab.async false
set_option linter.all false
set_option maxRecDepth 100000
set_option maxHeartbeats 4000000
namespace DN
open PySem PySem.Spec PyProof.Rows L2
/-! ### the top's constants -/
def atomB : D → Bool
  | .int _ => true
  | .str l => l.all (fun c => decide (c < 0x110000)) && decide (l.length ≤ sizeLine)
  | _ => false
def dvOf : D → He.Dv
  | .int i => .int i
  | .str l => .str ⟨l.toArray⟩
  | _ => .non
def gloB (K : PySem.W.Frag) (p : Str × D) : Bool := match p.2 with
  | .int i => (He.Fa.int p.1 i).ok K
  | .str l => (He.Fa.str p.1 ⟨l.toArray⟩).ok K && atomB (.str l)
  | .tup ds => (He.Fa.glo p.1).ok K && He.tupB K p.1 (ds.map dvOf) && ds.all atomB
  | _ => false
def topB (exs : List Str) (glos : List (Str × D)) (K : PySem.W.Frag) : Bool := (bnames.all fun x => (He.Fa.free x).ok K) && (exs.all fun x => (He.Fa.exc x).ok K && (He.Fa.glo x).ok K) && glos.all (gloB K)
section
variable {K : PySem.W.Frag} {h : Heap} {mg : Str → Option Value}
theorem rp_atom {H : Hp} {N : Hid} {d : D} (hd : atomB d = true) : Rp K H N ((dvOf d).v K) d := by
  cases d with
  | int i => exact .int i
  | str l =>
    simp only [atomB, Bool.and_eq_true, List.all_eq_true, decide_eq_true_eq] at hd
    exact .str l hd.1 hd.2
  | _ => cases hd
theorem rp_atoms {H : Hp} {N : Hid} : ∀ {ds : List D}, ds.all atomB = true → RpAll K H N ((ds.map dvOf).map (He.Dv.v K)) ds
  | [], _ => .nil
  | d :: ds, h => by
    simp only [List.all_cons, Bool.and_eq_true] at h
    exact .cons (rp_atom h.1) (rp_atoms h.2)
theorem glo_by (X : K.In h) (G : h.Ns mainGlobals mg) {p : Str × D} (c : gloB K p = true) : ∃ v u, mg p.1 = some u ∧ RelV v u ∧ ∀ H N, Rp K H N v p.2 := by
  obtain ⟨x, d⟩ := p
  cases d with
  | int i =>
    obtain ⟨t, e⟩ := He.int_ok X G (i := i) c
    exact ⟨.int i, _, e, ⟨t, rfl⟩, fun H N => .int i⟩
  | str l =>
    simp only [gloB, Bool.and_eq_true] at c
    obtain ⟨t, e⟩ := He.str_ok X G c.1
    exact ⟨.str ⟨l.toArray⟩, _, e, ⟨t, rfl⟩, fun H N => rp_atom (d := .str l) c.2⟩
  | tup ds =>
    simp only [gloB, Bool.and_eq_true] at c
    refine ⟨.ref (He.ga K x), _, He.glo_ok X G c.1.1, rfl, fun H N => .tup ?_ (rp_atoms c.2)⟩
    have q := c.1.2
    unfold He.tupB at q
    cases z : K.lookup (He.ga K x) with
    | none =>
      rw [z] at q
      cases q
    | some o =>
      obtain ⟨oc, od, dt, osl⟩ := o
      rw [z] at q
      cases oc with
      | type c =>
        cases dt with
        | seq its n =>
          simp only [Bool.and_eq_true, decide_eq_true_eq] at q
          exact .inr ⟨_, its, n, z, congrArg Value.type q.1, rfl, q.2.1, He.relAll_ok q.2.2⟩
        | _ => cases q
      | _ => cases dt <;> cases q
  | _ => cases c
theorem gp0 {exs : List Str} {glos : List (Str × D)} (X : K.In h) (G : h.Ns mainGlobals mg) (c : topB exs glos K = true) : Gp K mg glos exs := by
  simp only [topB, Bool.and_eq_true, List.all_eq_true] at c
  exact {
    blt := fun x hx => He.free_ok X G (c.1.1 x hx)
    glo := fun i x d z => glo_by X G (c.2 _ (List.mem_of_getElem? z))
    exc := fun x hx => by
      obtain ⟨q1, q2⟩ := c.1.2 x hx
      obtain ⟨e1, e2, e3, e4⟩ := He.exc_ok q1
      exact ⟨e1, He.glo_ok X G q2, e2, e3, e4⟩ }
end
/-! ### the end -/
theorem walkD {l : PySem.W.OpenLaw} {n k : Nat} {q : Program} {loose : List Str} {XP : (Str → Option Value) → Heap → Prop} {YP : World → Heap → Prop} {d : DefRec} {x : Str} {F : List D → Rs D}
    (hn : l.most = some n) (hn2 : n ≤ sizeLine) (hdf : d.params.defaults = []) (hr : Room k callerA)
    (hF : ∀ (w : World) (mg : Str → Option Value) (fa : Addr) (h : Heap), YP w h → h.Ns mainGlobals mg → mg d.name = some (.ref fa) →
      ∃ (K : PySem.W.Frag) (fd : FuncData), K.In h ∧ (∀ (s : Shared) (u : Value), BindsTo s fd ⟨[u], []⟩ [(x, u)]) ∧ ∀ base : Heap, FnOk l.prog w K mg base (L2N.CX l.prog w) k fa fd [x] (spOf K [] F))
    (hsp : ∀ ns : List Int, ns.length ≤ n → F [.scr ns] = .ok (.bl true)) :
    PySem.W.WalkO q loose XP YP l.row.toRowW d [] (fun f vs => PySem.call f vs) := by
  refine Att.attach_callB hn hdf fun w s₀ s₁ mg mb fa o pm cd doc a vs ns G Y ho hd hcd hmg hobj hints hlen _ hg => ?_
  obtain ⟨K, fd, KX, hb, hF⟩ := hF w mg fa _ Y G.T.g hmg
  exact law_call KX G.T.g G.T.b G.T.builtins G.T.nolimit hg hobj hints (Nat.le_trans hlen hn2) hr (fun base _ _ => hF base) hb (fun H hO hS => law_sp hO hS (hsp ns hlen)) (fun H e s' z => law_no H _ e s' z)
/-- the end, with tables -/
theorem walkDT {l : PySem.W.OpenLaw} {n k : Nat} {q : Program} {loose : List Str} {XP : (Str → Option Value) → Heap → Prop} {YP : World → Heap → Prop} {d : DefRec} {x : Str} {F : List D → Rs D} (tf : List (Str × Str))
    (hn : l.most = some n) (hn2 : n ≤ sizeLine) (hdf : d.params.defaults = []) (hr : Room k callerA)
    (hF : ∀ (w : World) (mg : Str → Option Value) (fa : Addr) (h : Heap), YP w h → h.Ns mainGlobals mg → mg d.name = some (.ref fa) →
      ∃ (K : PySem.W.Frag) (fd : FuncData), K.In h ∧ (∀ p ∈ tf, PySem.W.codeHdIn K (He.cT K (p.1, none)).1 (He.cT K (p.1, none)).2 = true ∧ K.lookup (He.cT K (p.1, none)).2 = none ∧ h.get? (He.cT K (p.1, none)).2 = some { cls := .none, data := .fields #[] }) ∧ (∀ (s : Shared) (u : Value), BindsTo s fd ⟨[u], []⟩ [(x, u)]) ∧
        ∀ base : Heap, (∀ p ∈ tf, LamX.TabB base mg (He.cT K (p.1, none)).1 (He.cT K (p.1, none)).2) → FnOk l.prog w K mg base (L2N.CX l.prog w) k fa fd [x] (spOf K (tabT K tf) F))
    (hsp : ∀ ns : List Int, ns.length ≤ n → F [.scr ns] = .ok (.bl true)) :
    PySem.W.WalkO q loose XP YP l.row.toRowW d [] (fun f vs => PySem.call f vs) := by
  refine Att.attach_callB hn hdf fun w s₀ s₁ mg mb fa o pm cd doc a vs ns G Y ho hd hcd hmg hobj hints hlen _ hg => ?_
  obtain ⟨K, fd, KX, hT, hb, hF⟩ := hF w mg fa _ Y G.T.g hmg
  have mem : ∀ {R : Addr × Addr → Prop}, (∀ p ∈ tf, R (He.cT K (p.1, none))) → ∀ p ∈ tf.map (fun p => He.cT K (p.1, none)), R p := fun h p hp => by
    obtain ⟨z, hz, rfl⟩ := List.mem_map.mp hp
    exact h z hz
  have back : ∀ {R : Addr × Addr → Prop}, (∀ p ∈ tf.map (fun p => He.cT K (p.1, none)), R p) → ∀ p ∈ tf, R (He.cT K (p.1, none)) := fun h p hp => h _ (List.mem_map.mpr ⟨p, hp, rfl⟩)
  exact LamX.law_callTs (cs := tf.map fun p => He.cT K (p.1, none)) KX G.T.g G.T.b G.T.builtins G.T.nolimit hg (mem (R := fun p => s₁.heap.get? p.2 = _) fun p hp => (hT p hp).2.2) (mem (R := fun p => K.lookup p.2 = none) fun p hp => (hT p hp).2.1)
    (mem (R := fun p => PySem.W.CodeHd s₁.heap p.1 p.2) fun p hp => PySem.W.codeHd_of_K KX (hT p hp).1) G.T.bmain hobj hints (Nat.le_trans hlen hn2) hr (fun base _ _ TB => hF base (back (R := fun p => LamX.TabB base mg p.1 p.2) TB)) hb
    (fun H hH hS => law_spT (back (R := fun p => H p.2 = some (.tbl #[])) hH) hS (hsp ns hlen)) (fun H e s' z => law_no H _ e s' z)
/-! ### the told classes, by a check of K -/
def excCB (K : PySem.W.Frag) (D : Addr) : Bool :=
  decide (PySem.W.findIn K (.ref D) "__getattribute__" = some (some (.builtin "BaseException.__getattribute__"))) && decide (PySem.W.findIn K (.ref D) "__getattr__" = some none) && decide (PySem.W.subIn K (.ref D) (.type "BaseException") = some true) && PySem.W.hasDictIn K D &&
    decide (PySem.W.findIn K (.ref D) "__class__" = some (some (.builtin "object.__class__"))) && decide (PySem.W.specialIn K (.builtin "object.__class__") "__get__" = some (some (.builtin "getset_descriptor.__get__"))) && decide (PySem.W.takesIn K (.builtin "object.__class__") = some true) && decide (PySem.W.mroIn K D (.type "object") = some true)
def toldB (ws : List Str) (K : PySem.W.Frag) : Bool := ws.all fun c => excCB K (He.ga K c) && (ws.all fun x => decide (PySem.W.kitOne K (.ref (He.ga K c)) (.ref (He.ga K x)) = some (decide (c = x)))) && decide (PySem.W.kitOne K (.ref (He.ga K c)) (.type "ValueError") = some true) &&
  decide (PySem.W.exmOne K (.ref (He.ga K c)) (.ref (He.ga K "NumeralError")) = some true)
def wsB (ws exs : List Str) : Bool := decide (ws.Nodup) && decide (ws.length ≤ 100) && (ws.all fun w => decide (w ∈ exs) && w.cps.toList.all (fun k => decide (k < 0x110000)) && decide (w.cps.toList.length ≤ 1000)) && decide (("NumeralError" : Str) ∈ exs)
theorem toldK_of {K : PySem.W.Frag} {mg : Str → Option Value} {glos : List (Str × D)} {exs ws : List Str} (g : Gp K mg glos exs) (h : toldB ws K = true) (hw : wsB ws exs = true) : ToldK K mg ws := by
  unfold toldB at h
  unfold wsB at hw
  simp only [List.all_eq_true, Bool.and_eq_true, decide_eq_true_eq] at h hw
  obtain ⟨⟨⟨w1, w2⟩, w3⟩, w4⟩ := hw
  have hz : (sizeLine : Nat) = 16777216 := sizeLine_eq
  exact {
    exc := fun c hc => by
      have := (h c hc).1.1.1
      unfold excCB at this
      simp only [Bool.and_eq_true, decide_eq_true_eq] at this
      obtain ⟨⟨⟨⟨⟨⟨⟨a1, a2⟩, a3⟩, a4⟩, a5⟩, a6⟩, a7⟩, a8⟩ := this
      exact ⟨a1, a2, a3, a4, a5, a6, a7, a8⟩
    kit := fun c hc x hx => (h c hc).1.1.2 x hx
    kv := fun c hc => (h c hc).1.2
    exm := fun c hc => (h c hc).2
    gl := fun c hc => (g.exc c (w3 c hc).1.1).mg
    ne := (g.exc _ w4).mg
    nd := w1
    cps := fun w hw => ⟨(w3 w hw).1.2, by have := (w3 w hw).2; omega⟩
    few := w2
    b1 := g.blt _ (by decide)
    b2 := g.blt _ (by decide)
    b3 := g.blt _ (by decide)
    b4 := g.blt _ (by decide) }
/-- the statement at a place of the top -/
def topAt (P : Program) (i : Nat) : Stmt := P.main.body.getD i (.Pass ⟨0, 0, 0, 0⟩)
def defD (P : Program) (x y : Str) (i : Nat) : He.DefD := ⟨(x, none), y, y, defArgs (topAt P i), defBody (topAt P i), defScope (topAt P i), [], []⟩
end DN

set_option Elab.async false
set_option linter.all false
set_option maxRecDepth 100000
set_option maxHeartbeats 4000000
namespace DN
open PySem PySem.Spec PyProof.Rows L2
/-! ### the interpreter by simp -/
theorem fnSem_eq {fns : Fns} {np n : Nat} {b : S} {ds : List D} (h : ds.length = np) : fnSem fns np n b ds = outR (exec fns b (ds.map .dat ++ List.replicate (n - np) .no)) := by
  unfold fnSem
  rw [if_pos h]
  cases exec fns b (ds.map .dat ++ List.replicate (n - np) .no) <;> rfl

@[simp] theorem ev_var_s (fns : Fns) (i : Nat) (ρ : En) : ev fns (.var i) ρ = (getC ρ i) := by rw [ev] <;> rfl
@[simp] theorem ev_con_s (fns : Fns) (d : D) (ρ : En) : ev fns (.con d) ρ = (.ok d) := by rw [ev] <;> rfl
@[simp] theorem ev_glo_s (fns : Fns) (x : Str) (d : D) (ρ : En) : ev fns (.glo x d) ρ = (.ok d) := by rw [ev] <;> rfl
@[simp] theorem ev_bin_s (fns : Fns) (op : Bop) (a : E) (b : E) (ρ : En) : ev fns (.bin op a b) ρ = ((opd a (ev fns a) ρ).bind fun x => (opd b (ev fns b) ρ).bind fun y => .of (binSem op x y)) := by rw [ev] <;> rfl
@[simp] theorem ev_neg_s (fns : Fns) (a : E) (ρ : En) : ev fns (.neg a) ρ = ((ev fns a ρ).bind fun x => (asI x).bind fun i => .ok (.int (-i))) := by rw [ev] <;> rfl
@[simp] theorem ev_cmp_s (fns : Fns) (op : Cop) (a : E) (b : E) (ρ : En) : ev fns (.cmp op a b) ρ = ((opd a (ev fns a) ρ).bind fun x => (opd b (ev fns b) ρ).bind fun y => (Rs.of (cmpSem op x y)).bind fun b => .ok (.bl b)) := by rw [ev] <;> rfl
@[simp] theorem ev_chain_s (fns : Fns) (o1 : Cop) (o2 : Cop) (a : E) (b : E) (c : E) (ρ : En) : ev fns (.chain o1 o2 a b c) ρ = ((opd a (ev fns a) ρ).bind fun x => (opd b (ev fns b) ρ).bind fun y => (Rs.of (cmpSem o1 x y)).bind fun k =>
      if k then (opd c (ev fns c) ρ).bind fun z => (Rs.of (cmpSem o2 y z)).bind fun b => .ok (.bl b) else .ok (.bl false)) := by rw [ev] <;> rfl
@[simp] theorem ev_and_s (fns : Fns) (a : E) (b : E) (ρ : En) : ev fns (.and a b) ρ = ((ev fns a ρ).bind fun x => (asB x).bind fun k => if k then ev fns b ρ else .ok (.bl false)) := by rw [ev] <;> rfl
@[simp] theorem ev_or_s (fns : Fns) (a : E) (b : E) (ρ : En) : ev fns (.or a b) ρ = ((ev fns a ρ).bind fun x => (asB x).bind fun k => if k then .ok (.bl true) else ev fns b ρ) := by rw [ev] <;> rfl
@[simp] theorem ev_not_s (fns : Fns) (a : E) (ρ : En) : ev fns (.not a) ρ = ((ev fns a ρ).bind fun x => (asB x).bind fun k => .ok (.bl (!k))) := by rw [ev] <;> rfl
@[simp] theorem ev_ife_s (fns : Fns) (t : E) (a : E) (b : E) (ρ : En) : ev fns (.ife t a b) ρ = ((ev fns t ρ).bind fun x => (asB x).bind fun k => if k then ev fns a ρ else ev fns b ρ) := by rw [ev] <;> rfl
@[simp] theorem ev_nil_s (fns : Fns)  (ρ : En) : ev fns (.nil) ρ = (.ok (.tup [])) := by rw [ev] <;> rfl
@[simp] theorem ev_cons_s (fns : Fns) (a : E) (r : E) (ρ : En) : ev fns (.cons a r) ρ = ((ev fns a ρ).bind fun x => (ev fns r ρ).bind fun y => (asL y).bind fun ds => .ok (.tup (x :: ds))) := by rw [ev] <;> rfl
@[simp] theorem ev_tup_s (fns : Fns) (es : E) (ρ : En) : ev fns (.tup es) ρ = ((ev fns es ρ).bind fun y => (asL y).bind fun ds => if ds.length ≤ szL then .ok (.tup ds) else .bad) := by rw [ev] <;> rfl
@[simp] theorem ev_lst_s (fns : Fns) (es : E) (ρ : En) : ev fns (.lst es) ρ = ((ev fns es ρ).bind fun y => (asL y).bind fun ds => if ds.length ≤ szL then .ok (.lst ds) else .bad) := by rw [ev] <;> rfl
@[simp] theorem ev_call_s (fns : Fns) (f : Nat) (es : E) (ρ : En) : ev fns (.call f es) ρ = ((ev fns es ρ).bind fun y => (asL y).bind fun ds => callF fns f ds) := by rw [ev] <;> rfl
@[simp] theorem ev_blt1_s (fns : Fns) (b : Blt) (a : E) (ρ : En) : ev fns (.blt1 b a) ρ = ((opd a (ev fns a) ρ).bind fun x => .of (bltSem b [x])) := by rw [ev] <;> rfl
@[simp] theorem ev_blt2_s (fns : Fns) (b : Blt) (a : E) (c : E) (ρ : En) : ev fns (.blt2 b a c) ρ = ((opd a (ev fns a) ρ).bind fun x => (opd c (ev fns c) ρ).bind fun y => .of (bltSem b [x, y])) := by rw [ev] <;> rfl
@[simp] theorem ev_fin_s (fns : Fns) (a : E) (ρ : En) : ev fns (.fin a) ρ = (ev fns a ρ) := by rw [ev] <;> rfl
@[simp] theorem ev_isi_s (fns : Fns) (a : E) (t : Ty) (ρ : En) : ev fns (.isi a t) ρ = ((opd a (ev fns a) ρ).bind fun x => .ok (.bl (isiSem t x))) := by rw [ev] <;> rfl
@[simp] theorem ev_ix_s (fns : Fns) (a : E) (b : E) (ρ : En) : ev fns (.ix a b) ρ = ((opd a (ev fns a) ρ).bind fun x => (opd b (ev fns b) ρ).bind fun y => .of (ixSem x y)) := by rw [ev] <;> rfl
@[simp] theorem ev_sl_s (fns : Fns) (a : E) (lo : E) (hi : E) (ρ : En) : ev fns (.sl a lo hi) ρ = ((opd a (ev fns a) ρ).bind fun x => (prt lo (ev fns lo) ρ).bind fun l => (prt hi (ev fns hi) ρ).bind fun h => .of (slSem x l h)) := by rw [ev] <;> rfl
@[simp] theorem ev_rev_s (fns : Fns) (a : E) (ρ : En) : ev fns (.rev a) ρ = ((opd a (ev fns a) ρ).bind fun x => .of (revSem x)) := by rw [ev] <;> rfl
@[simp] theorem revSem_l (ds : List D) : revSem (.lst ds) = some (.lst ds.reverse) := (rfl)
@[simp] theorem revSem_s (ds : List Nat) : revSem (.str ds) = some (.str ds.reverse) := (rfl)
@[simp] theorem b_sortI (ns : List Int) : bltSem .sorted [.lst (ns.map .int)] = some (.lst ((srtI ns).map .int)) := by
  unfold bltSem
  simp
@[simp] theorem ev_lrng1_s (fns : Fns) (b : E) (ρ : En) : ev fns (.lrng1 b) ρ = ((ev fns b ρ).bind fun y => (asI y).bind fun j => if rgOk 0 j && decide (j.toNat ≤ szL) then .ok (.lst (rgL 0 j)) else .bad) := by rw [ev] <;> rfl
@[simp] theorem ev_lrng_s (fns : Fns) (a : E) (b : E) (ρ : En) : ev fns (.lrng a b) ρ = ((ev fns a ρ).bind fun x => (asI x).bind fun i => (ev fns b ρ).bind fun y => (asI y).bind fun j => if rgOk i j && decide ((j - i).toNat ≤ szL) then .ok (.lst (rgL i j)) else .bad) := by rw [ev] <;> rfl
@[simp] theorem ev_rng1_s (fns : Fns) (a : E) (ρ : En) : ev fns (.rng1 a) ρ = ((ev fns a ρ).bind fun x => (asI x).bind fun j => if rgOk 0 j then .ok (.tup (rgL 0 j)) else .bad) := by rw [ev] <;> rfl
@[simp] theorem ev_rng2_s (fns : Fns) (a : E) (b : E) (ρ : En) : ev fns (.rng2 a b) ρ = ((ev fns a ρ).bind fun x => (asI x).bind fun i => (ev fns b ρ).bind fun y => (asI y).bind fun j => if rgOk i j then .ok (.tup (rgL i j)) else .bad) := by rw [ev] <;> rfl
@[simp] theorem ev_lzip_s (fns : Fns) (a : E) (b : E) (ρ : En) : ev fns (.lzip a b) ρ = ((ev fns a ρ).bind fun x => (asItems x).bind fun xs => (ev fns b ρ).bind fun y => (asItems y).bind fun ys => .of (if (zipD xs ys).length ≤ szL then some (.lst (zipD xs ys)) else none)) := by rw [ev] <;> rfl
@[simp] theorem ev_dcon_s (fns : Fns) (kvs : List (DK × D)) (ρ : En) : ev fns (.dcon kvs) ρ = .ok (.dct kvs) := by rw [ev] <;> rfl
@[simp] theorem ev_zip_s (fns : Fns) (a : E) (b : E) (ρ : En) : ev fns (.zip a b) ρ = ((ev fns a ρ).bind fun x => (asItems x).bind fun xs => (ev fns b ρ).bind fun y => (asItems y).bind fun ys => .ok (.tup (zipD xs ys))) := by rw [ev] <;> rfl
@[simp] theorem ev_enum_s (fns : Fns) (a : E) (ρ : En) : ev fns (.enum a) ρ = ((ev fns a ρ).bind fun x => (asSeq x).bind fun xs => .ok (.tup (enumD 0 xs))) := by rw [ev] <;> rfl
@[simp] theorem ev_walk_s (fns : Fns) (a : E) (ρ : En) : ev fns (.walk a) ρ = ((ev fns a ρ).bind fun x => (asItems x).bind fun xs => .ok (.tup xs)) := by rw [ev] <;> rfl
@[simp] theorem exec_nil_s (fns : Fns)  (ρ : En) : exec fns (.nil) ρ = (.nx ρ) := by rw [exec] <;> rfl
@[simp] theorem exec_cons_s (fns : Fns) (a : S) (r : S) (ρ : En) : exec fns (.cons a r) ρ = ((match exec fns a ρ with
    | .nx ρ' => exec fns r ρ'
    | o => o)) := by rw [exec] <;> rfl
@[simp] theorem exec_set_s (fns : Fns) (i : Nat) (e : E) (ρ : En) : exec fns (.set i e) ρ = (onR (ev fns e ρ) ρ fun d => .nx (putD ρ i d)) := by rw [exec] <;> rfl
@[simp] theorem exec_setO_s (fns : Fns) (i : Nat) (e : E) (ρ : En) : exec fns (.setO i e) ρ = (onR (ev fns e ρ) ρ fun d => (match d with
    | .lst ds => .nx (ρ.set i (.own (.lst ds)))
    | _ => .bad)) := by rw [exec] <;> rfl
@[simp] theorem exec_unp_s (fns : Fns) (is : List Nat) (e : E) (ρ : En) : exec fns (.unp is e) ρ = (onR (ev fns e ρ) ρ fun d => onO (putT ρ (.tp is) d)) := by rw [exec] <;> rfl
@[simp] theorem exec_par_s (fns : Fns) (is : List (Nat × Bool)) (e : E) (ρ : En) : exec fns (.par is e) ρ = ((match ev fns e ρ with
    | .ok (.tup ds) => onO (putPar ρ is ds)
    | .exc c => if is.any (·.2) then .bad else .xc c ρ
    | _ => .bad)) := by rw [exec] <;> rfl
@[simp] theorem exec_expr_s (fns : Fns) (e : E) (ρ : En) : exec fns (.expr e) ρ = (onR (ev fns e ρ) ρ fun _ => .nx ρ) := by rw [exec] <;> rfl
@[simp] theorem exec_ret_s (fns : Fns) (e : E) (ρ : En) : exec fns (.ret e) ρ = (onR (ev fns e ρ) ρ fun d => .rt d) := by rw [exec] <;> rfl
@[simp] theorem exec_retN_s (fns : Fns)  (ρ : En) : exec fns (.retN) ρ = (.rt .non) := by rw [exec] <;> rfl
@[simp] theorem exec_ife_s (fns : Fns) (t : E) (a : S) (b : S) (ρ : En) : exec fns (.ife t a b) ρ = (onR ((ev fns t ρ).bind asB) ρ fun k => if k then exec fns a ρ else exec fns b ρ) := by rw [exec] <;> rfl
@[simp] theorem exec_whl_s (fns : Fns) (n : Nat) (t : E) (b : S) (ρ : En) : exec fns (.whl n t b) ρ = (whlL (ev fns t) (exec fns b) n ρ) := by rw [exec] <;> rfl
@[simp] theorem exec_forS_s (fns : Fns) (g : Tg) (it : E) (b : S) (ρ : En) : exec fns (.forS g it b) ρ = (onR ((ev fns it ρ).bind asL) ρ fun ds => forL g (exec fns b) ds ρ) := by rw [exec] <;> rfl
@[simp] theorem exec_rai_s (fns : Fns) (c : Str) (ρ : En) : exec fns (.rai c) ρ = (.xc c ρ) := by rw [exec] <;> rfl
@[simp] theorem exec_app_s (fns : Fns) (i : Nat) (e : E) (ρ : En) : exec fns (.app i e) ρ = ((match ρ[i]? with
    | some (.own (.lst ds)) => onR (ev fns e ρ) ρ fun d => if ds.length < szL then .nx (ρ.set i (.own (.lst (ds ++ [d])))) else .bad
    | _ => .bad)) := by rw [exec] <;> rfl
@[simp] theorem exec_appc_s (fns : Fns) (t : E) (i j : Nat) (e : E) (ρ : En) : exec fns (.appc t i j e) ρ = (onR ((ev fns t ρ).bind asB) ρ fun k => if k then exec fns (.app i e) ρ else exec fns (.app j e) ρ) := by
  rw [exec, exec, exec]
@[simp] theorem exec_pop_s (fns : Fns) (i j : Nat) (e : E) (ρ : En) : exec fns (.pop i j e) ρ = (if i = j then .bad else (match ρ[i]?, ρ[j]? with
    | some (.own (.lst ds)), some (.own (.lst es)) => onR (ev fns e ρ) ρ fun d => (match d with
      | .int k => if 0 ≤ k ∧ k < 1000000 ∧ ds.length < szL then (match es[k.toNat]? with
        | some y => .nx ((ρ.set j (.own (.lst (es.eraseIdx k.toNat)))).set i (.own (.lst (ds ++ [y]))))
        | none => .bad) else .bad
      | _ => .bad)
    | _, _ => .bad)) := by rw [exec] <;> rfl
@[simp] theorem exec_rem_s (fns : Fns) (i : Nat) (e : E) (ρ : En) : exec fns (.rem i e) ρ = ((match ρ[i]? with
    | some (.own (.lst ds)) => onR (ev fns e ρ) ρ fun d => remK i ρ ds d
    | _ => .bad)) := by rw [exec] <;> rfl
@[simp] theorem exec_ssl_s (fns : Fns) (i : Nat) (a b e : E) (ρ : En) : exec fns (.ssl i a b e) ρ = ((match ρ[i]? with
    | some (.own (.lst ds)) => onR (ev fns e ρ) ρ fun d => onR (ev fns a ρ) ρ fun l => onR (ev fns b ρ) ρ fun h => sslK i ρ ds d l h
    | _ => .bad)) := by rw [exec] <;> rfl
@[simp] theorem exec_put_s (fns : Fns) (i : Nat) (k e : E) (ρ : En) : exec fns (.put i k e) ρ = ((match ρ[i]? with
    | some (.own (.lst ds)) => onR (ev fns e ρ) ρ fun d => onR (ev fns k ρ) ρ fun j => (match j with
      | .int j => (match ixN ds.length j with
        | some n => .nx (ρ.set i (.own (.lst (ds.set n d))))
        | none => .bad)
      | _ => .bad)
    | _ => .bad)) := by rw [exec] <;> rfl
@[simp] theorem exec_ext_s (fns : Fns) (i : Nat) (e : E) (ρ : En) : exec fns (.ext i e) ρ = ((match ρ[i]? with
    | some (.own (.lst ds)) => onR (ev fns e ρ) ρ fun d => (match d with
      | .lst es => if ds.length + es.length ≤ szL then .nx (ρ.set i (.own (.lst (ds ++ es)))) else .bad
      | _ => .bad)
    | _ => .bad)) := by rw [exec] <;> rfl
@[simp] theorem exec_dis_s (fns : Fns) (i : Nat) (ρ : En) : exec fns (.dis i) ρ = ((match ρ[i]? with
    | some (.own d) => .nx (putD ρ i d)
    | some (.dat _) => .nx ρ
    | _ => .bad)) := by rw [exec] <;> rfl
@[simp] theorem exec_brk_s (fns : Fns)  (ρ : En) : exec fns (.brk) ρ = (.br ρ) := by rw [exec] <;> rfl
@[simp] theorem exec_cnt_s (fns : Fns)  (ρ : En) : exec fns (.cnt) ρ = (.ct ρ) := by rw [exec] <;> rfl
@[simp] theorem exec_pass_s (fns : Fns)  (ρ : En) : exec fns (.pass) ρ = (.nx ρ) := by rw [exec] <;> rfl

@[simp] theorem opd_s (fns : Fns) (i : Nat) (ρ : En) : opd (.var i) (ev fns (.var i)) ρ = getO ρ i := (rfl)
@[simp] theorem putD_s (ρ : En) (i : Nat) (d : D) : putD ρ i d = ρ.set i (.dat d) := (rfl)
@[simp] theorem putT_nm (ρ : En) (i : Nat) (d : D) : putT ρ (.nm i) d = some (ρ.set i (.dat d)) := (rfl)
@[simp] theorem putT_tp (ρ : En) (is : List Nat) (ds : List D) : putT ρ (.tp is) (.tup ds) = putAll ρ is ds := (rfl)
@[simp] theorem putAll_n (ρ : En) : putAll ρ [] [] = some ρ := (rfl)
@[simp] theorem putAll_c (ρ : En) (i : Nat) (is : List Nat) (d : D) (ds : List D) : putAll ρ (i :: is) (d :: ds) = putAll (ρ.set i (.dat d)) is ds := (rfl)
@[simp] theorem putPar_n (ρ : En) : putPar ρ [] [] = some ρ := (rfl)
@[simp] theorem putPar_f (ρ : En) (i : Nat) (is : List (Nat × Bool)) (d : D) (ds : List D) : putPar ρ ((i, false) :: is) (d :: ds) = putPar (ρ.set i (.dat d)) is ds := by cases d <;> rfl
@[simp] theorem putPar_t (ρ : En) (i : Nat) (is : List (Nat × Bool)) (d : List D) (ds : List D) : putPar ρ ((i, true) :: is) (.lst d :: ds) = putPar (ρ.set i (.own (.lst d))) is ds := (rfl)
@[simp] theorem wip_n (ρ : En) : wip ρ [] = ρ := (rfl)
@[simp] theorem wip_c (ρ : En) (v : Nat) (vs : List Nat) : wip ρ (v :: vs) = (wip ρ vs).set v .no := (rfl)
@[simp] theorem slots_nm (i : Nat) : Tg.slots (.nm i) = [i] := (rfl)
@[simp] theorem slots_tp (is : List Nat) : Tg.slots (.tp is) = is := (rfl)
@[simp] theorem asB_s (b : Bool) : asB (.bl b) = .ok b := (rfl)
@[simp] theorem asL_s (ds : List D) : asL (.tup ds) = .ok ds := (rfl)
@[simp] theorem asItems_l (ds : List D) : asItems (.lst ds) = .ok ds := (rfl)
@[simp] theorem asItems_t (ds : List D) : asItems (.tup ds) = .ok ds := (rfl)
@[simp] theorem asItems_s (l : List Nat) : asItems (.str l) = .ok (l.map fun c => .str [c]) := (rfl)
@[simp] theorem asI_s (i : Int) : asI (.int i) = .ok i := (rfl)
@[simp] theorem asSeq_l (ds : List D) : asSeq (.lst ds) = .ok ds := (rfl)
@[simp] theorem asSeq_t (l : List Nat) : asSeq (.str l) = .ok (l.map fun c => .str [c]) := (rfl)
@[simp] theorem asLst_s (ds : List D) : asLst (.lst ds) = .ok ds := (rfl)
@[simp] theorem getC_s (ρ : En) (i : Nat) (d : D) (h : ρ[i]? = some (.dat d)) : getC ρ i = .ok d := by unfold getC; rw [h]
@[simp] theorem getO_s (ρ : En) (i : Nat) (d : D) (h : ρ[i]? = some (.dat d)) : getO ρ i = .ok d := by unfold getO; rw [h]
@[simp] theorem getO_o (ρ : En) (i : Nat) (d : D) (h : ρ[i]? = some (.own d)) : getO ρ i = .ok d := by unfold getO; rw [h]
@[simp] theorem ix_l (xs : List D) (i : Int) : ixSem (.lst xs) (.int i) = atI xs i := (rfl)
@[simp] theorem ix_t (xs : List D) (i : Int) : ixSem (.tup xs) (.int i) = atI xs i := (rfl)
@[simp] theorem ix_s (l : List Nat) (i : Int) : ixSem (.str l) (.int i) = (atI l i).map fun c => .str [c] := (rfl)
@[simp] theorem ix_c (l : List Int) (i : Int) : ixSem (.scr l) (.int i) = (atI l i).map .int := (rfl)
@[simp] theorem sl_l (xs : List D) (lo hi : Option Int) : slSem (.lst xs) lo hi = some (.lst (cutL xs lo hi)) := (rfl)
@[simp] theorem sl_t (xs : List D) (lo hi : Option Int) : slSem (.tup xs) lo hi = some (.tup (cutL xs lo hi)) := (rfl)
@[simp] theorem sl_s (xs : List Nat) (lo hi : Option Int) : slSem (.str xs) lo hi = some (.str (cutL xs lo hi)) := (rfl)
@[simp] theorem isi_b (t : Ty) (b : Bool) : isiSem t (.bl b) = (t == .bool || t == .int) := (rfl)
@[simp] theorem isi_i (t : Ty) (i : Int) : isiSem t (.int i) = (t == .int) := (rfl)
@[simp] theorem isi_s (t : Ty) (l : List Nat) : isiSem t (.str l) = (t == .str) := (rfl)
@[simp] theorem isi_l (t : Ty) (l : List D) : isiSem t (.lst l) = (t == .list) := (rfl)
@[simp] theorem isi_c (t : Ty) (l : List Int) : isiSem t (.scr l) = (t == .list) := (rfl)
@[simp] theorem isi_t (t : Ty) (l : List D) : isiSem t (.tup l) = (t == .tuple) := (rfl)
@[simp] theorem isi_n (t : Ty) : isiSem t .non = false := (rfl)
@[simp] theorem b_lenS (l : List Nat) : bltSem .len [.str l] = some (.int l.length) := (rfl)
@[simp] theorem b_lenL (l : List D) : bltSem .len [.lst l] = some (.int l.length) := (rfl)
@[simp] theorem b_lenT (l : List D) : bltSem .len [.tup l] = some (.int l.length) := (rfl)
@[simp] theorem b_lenC (l : List Int) : bltSem .len [.scr l] = some (.int l.length) := (rfl)
@[simp] theorem b_abs (i : Int) : bltSem .abs [.int i] = some (.int (if i < 0 then -i else i)) := (rfl)
@[simp] theorem b_max (i j : Int) : bltSem .max [.int i, .int j] = some (.int (if j > i then j else i)) := (rfl)
@[simp] theorem b_min (i j : Int) : bltSem .min [.int i, .int j] = some (.int (if j < i then j else i)) := (rfl)
@[simp] theorem b_sum (ns : List Int) : bltSem .sum [.lst (ns.map .int)] = some (.int ns.sum) := by
  show (intsOf (ns.map .int)).map _ = _
  rw [intsOf_map]; rfl
@[simp] theorem b_all (ns : List Bool) : bltSem .all [.lst (ns.map .bl)] = some (.bl (ns.all id)) := by
  show (blsOf (ns.map .bl)).map _ = _
  rw [blsOf_map]; rfl
@[simp] theorem b_any (ns : List Bool) : bltSem .any [.lst (ns.map .bl)] = some (.bl (ns.any id)) := by
  show (blsOf (ns.map .bl)).map _ = _
  rw [blsOf_map]; rfl
@[simp] theorem b_listL (l : List D) : bltSem .list [.lst l] = some (.lst l) := (rfl)
@[simp] theorem b_listT (l : List D) : bltSem .list [.tup l] = some (.lst l) := (rfl)
@[simp] theorem b_listS (l : List Nat) : bltSem .list [.str l] = some (.lst (l.map fun c => .str [c])) := (rfl)
@[simp] theorem b_tupL (l : List D) : bltSem .tuple [.lst l] = some (.tup l) := (rfl)
@[simp] theorem b_tupT (l : List D) : bltSem .tuple [.tup l] = some (.tup l) := (rfl)
@[simp] theorem b_intI (i : Int) : bltSem .int [.int i] = some (.int i) := (rfl)
@[simp] theorem b_intB (b : Bool) : bltSem .int [.bl b] = some (.int (if b then 1 else 0)) := (rfl)
@[simp] theorem b_intS (l : List Nat) : bltSem .int [.str l] = (digOf l).map .int := (rfl)
@[simp] theorem b_strI (i : Int) : bltSem .str [.int i] = if 0 ≤ i ∧ i ≤ 9 then some (.str [(48 + i).toNat]) else none := (rfl)
@[simp] theorem opd_con (fns : Fns) (d : D) (ρ : En) : opd (.con d) (ev fns (.con d)) ρ = ev fns (.con d) ρ := (rfl)
@[simp] theorem opd_glo (fns : Fns) (x : Str) (d : D) (ρ : En) : opd (.glo x d) (ev fns (.glo x d)) ρ = ev fns (.glo x d) ρ := (rfl)
@[simp] theorem opd_bin (fns : Fns) (o : Bop) (a b : E) (ρ : En) : opd (.bin o a b) (ev fns (.bin o a b)) ρ = ev fns (.bin o a b) ρ := (rfl)
@[simp] theorem opd_neg (fns : Fns) (a : E) (ρ : En) : opd (.neg a) (ev fns (.neg a)) ρ = ev fns (.neg a) ρ := (rfl)
@[simp] theorem opd_cmp (fns : Fns) (o : Cop) (a b : E) (ρ : En) : opd (.cmp o a b) (ev fns (.cmp o a b)) ρ = ev fns (.cmp o a b) ρ := (rfl)
@[simp] theorem opd_chain (fns : Fns) (o p : Cop) (a b c : E) (ρ : En) : opd (.chain o p a b c) (ev fns (.chain o p a b c)) ρ = ev fns (.chain o p a b c) ρ := (rfl)
@[simp] theorem opd_and (fns : Fns) (a b : E) (ρ : En) : opd (.and a b) (ev fns (.and a b)) ρ = ev fns (.and a b) ρ := (rfl)
@[simp] theorem opd_or (fns : Fns) (a b : E) (ρ : En) : opd (.or a b) (ev fns (.or a b)) ρ = ev fns (.or a b) ρ := (rfl)
@[simp] theorem opd_not (fns : Fns) (a : E) (ρ : En) : opd (.not a) (ev fns (.not a)) ρ = ev fns (.not a) ρ := (rfl)
@[simp] theorem opd_ife (fns : Fns) (a b c : E) (ρ : En) : opd (.ife a b c) (ev fns (.ife a b c)) ρ = ev fns (.ife a b c) ρ := (rfl)
@[simp] theorem opd_tup (fns : Fns) (a : E) (ρ : En) : opd (.tup a) (ev fns (.tup a)) ρ = ev fns (.tup a) ρ := (rfl)
@[simp] theorem opd_lst (fns : Fns) (a : E) (ρ : En) : opd (.lst a) (ev fns (.lst a)) ρ = ev fns (.lst a) ρ := (rfl)
@[simp] theorem opd_call (fns : Fns) (f : Nat) (a : E) (ρ : En) : opd (.call f a) (ev fns (.call f a)) ρ = ev fns (.call f a) ρ := (rfl)
@[simp] theorem opd_blt1 (fns : Fns) (b : Blt) (a : E) (ρ : En) : opd (.blt1 b a) (ev fns (.blt1 b a)) ρ = ev fns (.blt1 b a) ρ := (rfl)
@[simp] theorem opd_blt2 (fns : Fns) (b : Blt) (a c : E) (ρ : En) : opd (.blt2 b a c) (ev fns (.blt2 b a c)) ρ = ev fns (.blt2 b a c) ρ := (rfl)
@[simp] theorem opd_fin (fns : Fns) (a : E) (ρ : En) : opd (.fin a) (ev fns (.fin a)) ρ = ev fns (.fin a) ρ := (rfl)
@[simp] theorem opd_isi (fns : Fns) (a : E) (t : Ty) (ρ : En) : opd (.isi a t) (ev fns (.isi a t)) ρ = ev fns (.isi a t) ρ := (rfl)
@[simp] theorem opd_ix (fns : Fns) (a b : E) (ρ : En) : opd (.ix a b) (ev fns (.ix a b)) ρ = ev fns (.ix a b) ρ := (rfl)
@[simp] theorem opd_sl (fns : Fns) (a b c : E) (ρ : En) : opd (.sl a b c) (ev fns (.sl a b c)) ρ = ev fns (.sl a b c) ρ := (rfl)
@[simp] theorem opd_rev (fns : Fns) (a : E) (ρ : En) : opd (.rev a) (ev fns (.rev a)) ρ = ev fns (.rev a) ρ := (rfl)
@[simp] theorem opd_lrng1 (fns : Fns) (a : E) (ρ : En) : opd (.lrng1 a) (ev fns (.lrng1 a)) ρ = ev fns (.lrng1 a) ρ := (rfl)
@[simp] theorem opd_lrng (fns : Fns) (a b : E) (ρ : En) : opd (.lrng a b) (ev fns (.lrng a b)) ρ = ev fns (.lrng a b) ρ := (rfl)
@[simp] theorem opd_comp (fns : Fns) (a : E) (g : Tg) (b c : E) (ρ : En) : opd (.comp a g b c) (ev fns (.comp a g b c)) ρ = ev fns (.comp a g b c) ρ := (rfl)
@[simp] theorem ev_mth_s (fns : Fns) (m : Mth) (a b : E) (ρ : En) : ev fns (.mth m a b) ρ = ((opd a (ev fns a) ρ).bind fun x => if mthRcv m x then (opd b (ev fns b) ρ).bind fun y => .of (mthSem m x y) else .bad) := by rw [ev] <;> rfl
@[simp] theorem ev_rngd_s (fns : Fns) (a b c : E) (ρ : En) : ev fns (.rngd a b c) ρ = ((ev fns a ρ).bind fun x => (asI x).bind fun i => (ev fns b ρ).bind fun y => (asI y).bind fun j => (ev fns c ρ).bind fun z => (asI z).bind fun k => if decide (k = -1) && rgOk j i then .ok (.tup (rdL i j)) else .bad) := by rw [ev] <;> rfl
@[simp] theorem ev_lrngd_s (fns : Fns) (a b c : E) (ρ : En) : ev fns (.lrngd a b c) ρ = ((ev fns a ρ).bind fun x => (asI x).bind fun i => (ev fns b ρ).bind fun y => (asI y).bind fun j => (ev fns c ρ).bind fun z => (asI z).bind fun k => if decide (k = -1) && (rgOk j i && decide ((i - j).toNat ≤ szL)) then .ok (.lst (rdL i j)) else .bad) := by rw [ev] <;> rfl
@[simp] theorem opd_lrngd (fns : Fns) (a b c : E) (ρ : En) : opd (.lrngd a b c) (ev fns (.lrngd a b c)) ρ = ev fns (.lrngd a b c) ρ := (rfl)
@[simp] theorem ev_sset_s (fns : Fns) (a : E) (ρ : En) : ev fns (.sset a) ρ = ((opd a (ev fns a) ρ).bind fun x => .of (ssetSem x)) := by rw [ev] <;> rfl
@[simp] theorem opd_sset (fns : Fns) (a : E) (ρ : En) : opd (.sset a) (ev fns (.sset a)) ρ = ev fns (.sset a) ρ := (rfl)
@[simp] theorem ev_lset_s (fns : Fns) (a : E) (ρ : En) : ev fns (.lset a) ρ = ((opd a (ev fns a) ρ).bind fun x => .of (lsetSem x)) := by rw [ev] <;> rfl
@[simp] theorem opd_lset (fns : Fns) (a : E) (ρ : En) : opd (.lset a) (ev fns (.lset a)) ρ = ev fns (.lset a) ρ := (rfl)
@[simp] theorem lset_s (l : List Nat) : lsetSem (.str l) = if l.length < 1000 then some (.int (dk l).length) else none := (rfl)
@[simp] theorem opd_mth (fns : Fns) (m : Mth) (a b : E) (ρ : En) : opd (.mth m a b) (ev fns (.mth m a b)) ρ = ev fns (.mth m a b) ρ := (rfl)
@[simp] theorem rcv_sindex (l : List Nat) : mthRcv .sindex (.str l) = true := (rfl)
@[simp] theorem rcv_join (l : List Nat) : mthRcv .join (.str l) = true := (rfl)
@[simp] theorem rcv_scount (l : List Nat) : mthRcv .scount (.str l) = true := (rfl)
@[simp] theorem rcv_lstrip (l : List Nat) : mthRcv .lstrip (.str l) = true := (rfl)
@[simp] theorem rcv_lindex (l : List D) : mthRcv .lindex (.lst l) = true := (rfl)
@[simp] theorem m_sindex (x y : List Nat) : mthSem .sindex (.str x) (.str y) = (subIdx x y).map fun i => .int (i : Nat) := (rfl)
@[simp] theorem m_scount (x : List Nat) (c : Nat) : mthSem .scount (.str x) (.str [c]) = some (.int (x.count c : Nat)) := (rfl)
@[simp] theorem m_lstrip (x : List Nat) (c : Nat) : mthSem .lstrip (.str x) (.str [c]) = some (.str (x.dropWhile fun k => k == c)) := (rfl)
@[simp] theorem m_join (ls : List (List Nat)) : mthSem .join (.str []) (.lst (ls.map .str)) = if ls.flatten.length ≤ szL then some (.str ls.flatten) else none := by
  show (strsOf (ls.map .str)).bind _ = _
  rw [strsOf_map]
  rfl
theorem m_joinM {α : Type} (l : List α) (f : α → List Nat) : mthSem .join (.str []) (.lst (l.map fun x => .str (f x))) = if (l.map f).flatten.length ≤ szL then some (.str (l.map f).flatten) else none := by
  have e : (l.map fun x => D.str (f x)) = (l.map f).map .str := by simp
  rw [e, m_join]
theorem m_lindex (ds : List D) (x : D) (h : x.flat = true) (h2 : ds.all D.flat = true) : mthSem .lindex (.lst ds) x = (ds.findIdx? fun y => y.eqb x).map fun i => .int (i : Nat) := by
  show (if x.flat && ds.all D.flat then _ else none) = _
  rw [h, h2]
  rfl
@[simp] theorem prt_nil (fns : Fns) (ρ : En) : prt .nil (ev fns .nil) ρ = .ok none := (rfl)
@[simp] theorem prt_fin (fns : Fns) (a : E) (ρ : En) : prt (.fin a) (ev fns (.fin a)) ρ = (ev fns a ρ).bind fun x => (asI x).bind fun i => .ok (some i) := (rfl)
@[simp] theorem onO_some (ρ : En) : onO (some ρ) = .nx ρ := (rfl)
@[simp] theorem onO_none : onO none = .bad := (rfl)
theorem beq_dec (x y : List Nat) : (x == y) = decide (x = y) := by
  by_cases h : x = y
  · simp [h]
  · rw [decide_eq_false h]; exact beq_eq_false_iff_ne.mpr h
section
variable (i j : Int)
@[simp] theorem bs_add : binSem .add (.int i) (.int j) = some (.int (i + j)) := by rw [binSem]
@[simp] theorem bs_sub : binSem .sub (.int i) (.int j) = some (.int (i - j)) := by rw [binSem]
@[simp] theorem bs_mul : binSem .mul (.int i) (.int j) = if mulOk i j then some (.int (i * j)) else none := by rw [binSem]
@[simp] theorem bs_div : binSem .fdiv (.int i) (.int j) = if divOk j then some (.int (i / j)) else none := by rw [binSem]
@[simp] theorem bs_mod : binSem .mod (.int i) (.int j) = if 0 < j then some (.int (i % j)) else none := by rw [binSem]
@[simp] theorem bs_pow : binSem .pow (.int i) (.int j) = if powOk i j then some (.int (i ^ j.toNat)) else none := by rw [binSem]
@[simp] theorem bs_xor : binSem .xor (.int i) (.int j) = some (.int (Builtin.bitXor i j)) := by rw [binSem]
@[simp] theorem bs_addS (x y : List Nat) : binSem .add (.str x) (.str y) = if x.length + y.length ≤ szL then some (.str (x ++ y)) else none := by rw [binSem]
@[simp] theorem bs_addL (x y : List D) : binSem .add (.lst x) (.lst y) = if x.length + y.length ≤ szL then some (.lst (x ++ y)) else none := by rw [binSem]
@[simp] theorem bs_addT (x y : List D) : binSem .add (.tup x) (.tup y) = if x.length + y.length ≤ szL then some (.tup (x ++ y)) else none := by rw [binSem]
@[simp] theorem bs_mulS (x : List Nat) : binSem .mul (.str x) (.int j) = if repOk x.length j then some (.str (List.replicate j.toNat x).flatten) else none := by rw [binSem]
@[simp] theorem bs_mulL (x : List D) : binSem .mul (.lst x) (.int j) = if repOk x.length j then some (.lst (List.replicate j.toNat x).flatten) else none := by rw [binSem]
@[simp] theorem cs_lt : cmpSem .lt (.int i) (.int j) = some (decide (i < j)) := (rfl)
@[simp] theorem cs_le : cmpSem .le (.int i) (.int j) = some (decide (i ≤ j)) := (rfl)
@[simp] theorem cs_gt : cmpSem .gt (.int i) (.int j) = some (decide (j < i)) := (rfl)
@[simp] theorem cs_ge : cmpSem .ge (.int i) (.int j) = some (decide (j ≤ i)) := (rfl)
@[simp] theorem cs_ltS (x y : List Nat) : cmpSem .lt (.str x) (.str y) = some (decide (x < y)) := (rfl)
@[simp] theorem cs_leS (x y : List Nat) : cmpSem .le (.str x) (.str y) = some (!decide (y < x)) := (rfl)
@[simp] theorem cs_gtS (x y : List Nat) : cmpSem .gt (.str x) (.str y) = some (decide (y < x)) := (rfl)
@[simp] theorem cs_geS (x y : List Nat) : cmpSem .ge (.str x) (.str y) = some (!decide (x < y)) := (rfl)
@[simp] theorem cs_ne (x y : D) : cmpSem .ne x y = (cmpSem .eq x y).map not := by
  cases x <;> cases y <;> rfl
@[simp] theorem cs_notin (x y : D) : cmpSem .notin x y = (cmpSem .isin x y).map not := by
  cases x <;> cases y <;> rfl
@[simp] theorem cs_eqI : cmpSem .eq (.int i) (.int j) = some (decide (i = j)) := by
  show (if (D.dep 8 (.int i) && D.dep 8 (.int j)) = true then some (D.eqb (.int i) (.int j)) else none) = _
  simp [D.dep, D.eqb]
  rfl
@[simp] theorem cs_eqS (x y : List Nat) : cmpSem .eq (.str x) (.str y) = some (decide (x = y)) := by
  show (if (D.dep 8 (.str x) && D.dep 8 (.str y)) = true then some (D.eqb (.str x) (.str y)) else none) = _
  simp [D.dep, D.eqb, beq_dec]
@[simp] theorem cs_eqScr (ns : List Int) : cmpSem .eq (.scr ns) (.lst []) = some ns.isEmpty := (rfl)
@[simp] theorem cs_eqB (a b : Bool) : cmpSem .eq (.bl a) (.bl b) = some (a == b) := by
  show (if (D.dep 8 (.bl a) && D.dep 8 (.bl b)) = true then some (D.eqb (.bl a) (.bl b)) else none) = _
  simp [D.dep, D.eqb]
@[simp] theorem eqbs_int (a b : List Int) : D.eqbs (a.map .int) (b.map .int) = decide (a = b) := by
  induction a generalizing b with
  | nil => cases b <;> simp [D.eqbs]
  | cons x a ih =>
    cases b with
    | nil => simp [D.eqbs]
    | cons y b =>
      simp only [List.map_cons, D.eqbs, D.eqb, ih, List.cons.injEq, Bool.decide_and]
      rfl
@[simp] theorem eqbs_str (a b : List (List Nat)) : D.eqbs (a.map .str) (b.map .str) = decide (a = b) := by
  induction a generalizing b with
  | nil => cases b <;> simp [D.eqbs]
  | cons x a ih =>
    cases b with
    | nil => simp [D.eqbs]
    | cons y b =>
      simp only [List.map_cons, D.eqbs, D.eqb, ih, List.cons.injEq, Bool.decide_and, beq_dec]
theorem dep_ints (n : Nat) (a : List Int) : D.dep (n + 1) (.lst (a.map .int)) = true := by
  simp [D.dep]
theorem dep_strs (n : Nat) (a : List (List Nat)) : D.dep (n + 1) (.lst (a.map .str)) = true := by
  simp [D.dep]
@[simp] theorem cs_eqL (a b : List Int) : cmpSem .eq (.lst (a.map .int)) (.lst (b.map .int)) = some (decide (a = b)) := by
  show (if (D.dep 8 _ && D.dep 8 _) = true then some (D.eqb (.lst (a.map .int)) (.lst (b.map .int))) else none) = _
  rw [dep_ints 7, dep_ints 7]
  simp only [D.eqb, eqbs_int]
  rfl
@[simp] theorem cs_eqLS (a b : List (List Nat)) : cmpSem .eq (.lst (a.map .str)) (.lst (b.map .str)) = some (decide (a = b)) := by
  show (if (D.dep 8 _ && D.dep 8 _) = true then some (D.eqb (.lst (a.map .str)) (.lst (b.map .str))) else none) = _
  rw [dep_strs 7, dep_strs 7]
  simp only [D.eqb, eqbs_str]
  rfl
end
@[simp] theorem mulOk_r {i j : Int} (h1 : -18446744073709551616 < j) (h2 : j < 18446744073709551616) : mulOk i j = true := by
  have e1 : decide (-(2 ^ 64) < j) = true := decide_eq_true h1
  have e2 : decide (j < 2 ^ 64) = true := decide_eq_true h2
  unfold mulOk
  rw [e1, e2, Bool.and_self, Bool.or_true, Bool.true_or]
theorem mulOk_l {i j : Int} (h1 : -18446744073709551616 < i) (h2 : i < 18446744073709551616) : mulOk i j = true := by
  have e1 : decide (-(2 ^ 64) < i) = true := decide_eq_true h1
  have e2 : decide (i < 2 ^ 64) = true := decide_eq_true h2
  unfold mulOk
  rw [e1, e2, Bool.and_self, Bool.true_or, Bool.true_or]
theorem mulOk_b {i j : Int} (h1 : i.natAbs < 2 ^ 9000) (h2 : j.natAbs < 2 ^ 9000) : mulOk i j = true := by
  have e1 : decide (i.natAbs < 2 ^ 9000) = true := decide_eq_true h1
  have e2 : decide (j.natAbs < 2 ^ 9000) = true := decide_eq_true h2
  unfold mulOk
  rw [e1, e2, Bool.and_self, Bool.or_true]
theorem big_lt {n : Nat} (h : n < 2 ^ 250) : n < 2 ^ 9000 := Nat.lt_of_lt_of_le h (Nat.pow_le_pow_right (by decide) (by decide))
theorem mulOk_m {i j : Int} (h1 : i.natAbs < 2 ^ 250) (h2 : j.natAbs < 2 ^ 250) : mulOk i j = true := mulOk_b (big_lt h1) (big_lt h2)
theorem divOk_m {j : Int} (h1 : 0 < j) (h2 : j.natAbs < 2 ^ 250) : divOk j = true := by
  have e2 : j < 2 ^ 9000 := by
    have := big_lt h2
    have e : ((2 ^ 9000 : Nat) : Int) = 2 ^ 9000 := by rw [Int.natCast_pow]; rfl
    omega
  unfold divOk
  rw [decide_eq_true h1, decide_eq_true e2, Bool.and_self]
@[simp] theorem divOk_of {j : Int} (h1 : 0 < j) (h2 : j < 18446744073709551616) : divOk j = true := divOk_m h1 (by omega)
theorem repOk_of {n : Nat} {k : Int} (h1 : 0 ≤ k) (h2 : k ≤ 10000) (h3 : n ≤ 1600) : repOk n k = true := by
  have e1 : (-(2 ^ 30) : Int) ≤ k := by omega
  have e2 : k < 2 ^ 30 := by omega
  have e3 : n * k.toNat ≤ szL := Nat.le_trans (Nat.mul_le_mul h3 (show k.toNat ≤ 10000 by omega)) (by decide)
  unfold repOk
  rw [decide_eq_true e1, decide_eq_true e2, decide_eq_true e3]
  rfl
theorem rgOk_of {a b : Int} (h1 : -(2 ^ 60) ≤ a) (h2 : a < 2 ^ 60) (h3 : -(2 ^ 60) ≤ b) (h4 : b < 2 ^ 60) : rgOk a b = true := by
  unfold rgOk
  simp only [decide_eq_true h1, decide_eq_true h2, decide_eq_true h3, decide_eq_true h4, Bool.and_self]
@[simp] theorem ite_and (p : Prop) [Decidable p] (x : Bool) : (if p then (Rs.ok (.bl x) : Rs D) else .ok (.bl false)) = .ok (.bl (decide p && x)) := by
  by_cases h : p <;> simp [h]
@[simp] theorem ite_or (p : Prop) [Decidable p] (x : Bool) : (if p then (Rs.ok (.bl true) : Rs D) else .ok (.bl x)) = .ok (.bl (decide p || x)) := by
  by_cases h : p <;> simp [h]
theorem atI_in {α : Type} {l : List α} {i : Int} (h1 : 0 ≤ i) (h2 : i < l.length) : atI l i = l[i.toNat]? := by
  unfold atI ixN
  rw [if_pos h1, if_pos h2]
  rfl
theorem atI_some {α : Type} {l : List α} {i : Int} (h1 : 0 ≤ i) (h2 : i < l.length) : ∃ x, atI l i = some x ∧ x ∈ l := by
  have h3 : i.toNat < l.length := by omega
  exact ⟨l[i.toNat], by rw [atI_in h1 h2, List.getElem?_eq_getElem h3], List.getElem_mem h3⟩
theorem cs_eqT (a b : List D) : cmpSem .eq (.tup a) (.tup b) = if (D.dep 8 (.tup a) && D.dep 8 (.tup b)) then some (D.eqbs a b) else none := rfl
theorem cs_eqG (a b : List D) : cmpSem .eq (.lst a) (.lst b) = if (D.dep 8 (.lst a) && D.dep 8 (.lst b)) then some (D.eqbs a b) else none := rfl
mutual
theorem eqb_refl : ∀ (d : D) (n : Nat), D.dep n d = true → D.eqb d d = true
  | .non, _, _ => rfl
  | .bl b, _, _ => by simp [D.eqb]
  | .int i, _, _ => by simp [D.eqb]
  | .str l, _, _ => by simp [D.eqb]
  | .lst xs, 0, h => by simp [D.dep] at h
  | .lst xs, n + 1, h => by
    simp only [D.dep] at h
    simpa [D.eqb] using eqbs_refl xs n h
  | .tup xs, 0, h => by simp [D.dep] at h
  | .tup xs, n + 1, h => by
    simp only [D.dep] at h
    simpa [D.eqb] using eqbs_refl xs n h
  | .dct _, n, h => by cases n <;> simp [D.dep] at h
  | .scr _, n, h => by cases n <;> simp [D.dep] at h
theorem eqbs_refl : ∀ (ds : List D) (n : Nat), ds.all (D.dep n) = true → D.eqbs ds ds = true
  | [], _, _ => rfl
  | d :: ds, n, h => by
    simp only [List.all_cons, Bool.and_eq_true] at h
    simp [D.eqbs, eqb_refl d n h.1, eqbs_refl ds n h.2]
end
theorem cs_refl {d : D} (h : D.dep 8 d = true) : cmpSem .eq d d = some true := by
  have e : cmpSem .eq d d = if (d.dep 8 && d.dep 8) = true then some (d.eqb d) else none := by cases d <;> rfl
  rw [e, h, eqb_refl d 8 h]
  rfl
@[simp] theorem dep_i (n : Nat) (i : Int) : D.dep n (.int i) = true := by cases n <;> rfl
@[simp] theorem dep_b (n : Nat) (i : Bool) : D.dep n (.bl i) = true := by cases n <;> rfl
@[simp] theorem dep_s (n : Nat) (i : List Nat) : D.dep n (.str i) = true := by cases n <;> rfl
@[simp] theorem dep_n (n : Nat) : D.dep n .non = true := by cases n <;> rfl
@[simp] theorem dep_l (n : Nat) (l : List D) : D.dep (n + 1) (.lst l) = l.all (D.dep n) := (rfl)
@[simp] theorem dep_t (n : Nat) (l : List D) : D.dep (n + 1) (.tup l) = l.all (D.dep n) := (rfl)
@[simp] theorem zipD_int (a b : List Int) : zipD (a.map .int) (b.map .int) = (a.zip b).map (fun p => .tup [.int p.1, .int p.2]) := by
  induction a generalizing b with
  | nil => cases b <;> rfl
  | cons x a ih =>
    cases b with
    | nil => rfl
    | cons y b => simp [zipD, ih]
/-! ### loops -/
theorem rg_get {a b : Int} {i : Nat} {x : D} (h : (rgL a b)[i]? = some x) : x = .int (a + i) ∧ (i : Int) < b - a := by
  unfold rgL at h
  rw [List.getElem?_map, Option.map_eq_some_iff] at h
  obtain ⟨j, h1, rfl⟩ := h
  obtain ⟨h2, h3⟩ := List.getElem?_eq_some_iff.mp h1
  rw [List.getElem_range] at h3
  subst h3
  rw [List.length_range] at h2
  exact ⟨rfl, by omega⟩
theorem rg_mem {a b : Int} {x : D} (h : x ∈ rgL a b) : ∃ i : Int, x = .int i ∧ a ≤ i ∧ i < b := by
  unfold rgL at h
  obtain ⟨j, h1, rfl⟩ := List.mem_map.mp h
  rw [List.mem_range] at h1
  exact ⟨_, rfl, by omega, by omega⟩
theorem rg_len (a b : Int) : (rgL a b).length = (b - a).toNat := by
  unfold rgL
  simp
theorem forL_ind {g : Tg} {b : En → Out} (P : Nat → En → Prop) : ∀ (xs : List D) (k : Nat) (ρ : En), P k ρ → (∀ i x ρ, xs[i]? = some x → P (k + i) ρ → ∃ ρ1 ρ', putT ρ g x = some ρ1 ∧ (b ρ1 = .nx ρ' ∨ b ρ1 = .ct ρ') ∧ P (k + i + 1) ρ') → ∃ ρ', forL g b xs ρ = .nx ρ' ∧ P (k + xs.length) ρ'
  | [], k, ρ, h0, _ => ⟨ρ, rfl, h0⟩
  | x :: r, k, ρ, h0, hs => by
    obtain ⟨ρ1, ρ', h1, h2, h3⟩ := hs 0 x ρ rfl h0
    obtain ⟨ρ2, h4, h5⟩ := forL_ind P r (k + 1) ρ' h3 (fun i y ρ hy hp => by
      have := hs (i + 1) y ρ (by simpa using hy) (by rw [show k + (i + 1) = k + 1 + i by omega]; exact hp)
      rw [show k + (i + 1) + 1 = k + 1 + i + 1 by omega] at this
      exact this)
    refine ⟨ρ2, ?_, by rw [List.length_cons, show k + (r.length + 1) = k + 1 + r.length by omega]; exact h5⟩
    unfold forL
    rw [h1]
    rcases h2 with h2 | h2 <;> simp only [h2, h4]
theorem compL_map {f : D → Rs (Option D)} {g : D → D} : ∀ (ds acc : List D), (∀ d ∈ ds, f d = .ok (some (g d))) → compL f ds acc = .ok (acc ++ ds.map g)
  | [], acc, _ => by simp [compL]
  | d :: ds, acc, h => by
    unfold compL
    rw [h d (by simp)]
    show compL f ds (acc ++ [g d]) = _
    rw [compL_map ds _ (fun e he => h e (by simp [he]))]
    simp
theorem compL_filter {f : D → Rs (Option D)} {p : D → Bool} {g : D → D} : ∀ (ds acc : List D), (∀ d ∈ ds, f d = .ok (if p d then some (g d) else none)) → compL f ds acc = .ok (acc ++ (ds.filter p).map g)
  | [], acc, _ => by simp [compL]
  | d :: ds, acc, h => by
    unfold compL
    rw [h d (by simp)]
    cases q : p d with
    | true =>
      show compL f ds (acc ++ [g d]) = _
      rw [compL_filter (p := p) (g := g) ds _ (fun e he => h e (by simp [he]))]
      simp [q]
    | false =>
      show compL f ds acc = _
      rw [compL_filter (p := p) (g := g) ds _ (fun e he => h e (by simp [he]))]
      simp [q]
/-! ### comprehensions -/
theorem evc {fns : Fns} {e it : E} {i : Nat} {ρ : En} {ds : List D} (g : D → D) (h1 : ev fns it ρ = .ok (.tup ds)) (h2 : ds.length ≤ szL) (h3 : ∀ d ∈ ds, ev fns e ((ρ.set i .no).set i (.dat d)) = .ok (g d)) : ev fns (.comp e (.nm i) it .nil) ρ = .ok (.lst (ds.map g)) := by
  rw [ev, h1]
  simp only [Rs.bind_ok, asL_s, if_pos h2, slots_nm, wip_c, wip_n, putT_nm]
  rw [compL_map (g := g) ds [] (fun d hd => by rw [h3 d hd]; rfl)]
  rfl
theorem evcT {fns : Fns} {e it : E} {is : List Nat} {ρ : En} {ds : List D} (g : D → D) (h1 : ev fns it ρ = .ok (.tup ds)) (h2 : ds.length ≤ szL) (h3 : ∀ d ∈ ds, ∃ ρ', putT (wip ρ is) (.tp is) d = some ρ' ∧ ev fns e ρ' = .ok (g d)) : ev fns (.comp e (.tp is) it .nil) ρ = .ok (.lst (ds.map g)) := by
  rw [ev, h1]
  simp only [Rs.bind_ok, asL_s, if_pos h2, slots_tp]
  rw [compL_map (g := g) ds [] (fun d hd => by
    obtain ⟨ρ', q1, q2⟩ := h3 d hd
    rw [q1]
    simp only
    rw [q2]; rfl)]
  rfl
theorem evcF {fns : Fns} {e it c : E} {i : Nat} {ρ : En} {ds : List D} (p : D → Bool) (g : D → D) (h1 : ev fns it ρ = .ok (.tup ds)) (h2 : ds.length ≤ szL) (h3 : ∀ d ∈ ds, ev fns c ((ρ.set i .no).set i (.dat d)) = .ok (.bl (p d)) ∧ (p d = true → ev fns e ((ρ.set i .no).set i (.dat d)) = .ok (g d))) :
    ev fns (.comp e (.nm i) it (.fin c)) ρ = .ok (.lst ((ds.filter p).map g)) := by
  rw [ev, h1]
  simp only [Rs.bind_ok, asL_s, if_pos h2, slots_nm, wip_c, wip_n, putT_nm]
  rw [compL_filter (p := p) (g := g) ds [] (fun d hd => by
    obtain ⟨q1, q2⟩ := h3 d hd
    rw [ev_fin_s, q1]
    cases q : p d with
    | true => simp only [Rs.bind_ok, asB_s, if_true, q2 q]
    | false => rfl)]
  rfl
theorem evcTF {fns : Fns} {e it c : E} {is : List Nat} {ρ : En} {ds : List D} (p : D → Bool) (g : D → D) (h1 : ev fns it ρ = .ok (.tup ds)) (h2 : ds.length ≤ szL) (h3 : ∀ d ∈ ds, ∃ ρ', putT (wip ρ is) (.tp is) d = some ρ' ∧ ev fns c ρ' = .ok (.bl (p d)) ∧ (p d = true → ev fns e ρ' = .ok (g d))) :
    ev fns (.comp e (.tp is) it (.fin c)) ρ = .ok (.lst ((ds.filter p).map g)) := by
  rw [ev, h1]
  simp only [Rs.bind_ok, asL_s, if_pos h2, slots_tp]
  rw [compL_filter (p := p) (g := g) ds [] (fun d hd => by
    obtain ⟨ρ', q0, q1, q2⟩ := h3 d hd
    rw [q0]
    simp only
    rw [ev_fin_s, q1]
    cases q : p d with
    | true => simp only [Rs.bind_ok, asB_s, if_true, q2 q]
    | false => rfl)]
  rfl
/-- while, by a measure -/
theorem whlL_ind {c : En → Rs D} {b : En → Out} (P : Nat → En → Prop) (Q : En → Prop) (hs : ∀ m ρ, P m ρ → (c ρ = .ok (.bl false) ∧ Q ρ) ∨ (c ρ = .ok (.bl true) ∧ ∃ ρ' m', m' < m ∧ (b ρ = .nx ρ' ∨ b ρ = .ct ρ') ∧ P m' ρ')) : ∀ (n m : Nat) (ρ : En), P m ρ → m < n → ∃ ρ', whlL c b n ρ = .nx ρ' ∧ Q ρ'
  | 0, m, ρ, _, h => by omega
  | n + 1, m, ρ, hp, h => by
    unfold whlL
    rcases hs m ρ hp with ⟨h1, h2⟩ | ⟨h1, ρ', m', h2, h3, h4⟩
    · rw [h1]
      exact ⟨ρ, rfl, h2⟩
    · rw [h1]
      obtain ⟨ρ2, q1, q2⟩ := whlL_ind P Q hs n m' ρ' h4 (by omega)
      refine ⟨ρ2, ?_, q2⟩
      simp only [Rs.bind_ok, asB_s, onR_ok, if_true]
      rcases h3 with h3 | h3 <;> simp only [h3, q1]
/-! the same over a list that is read as things -/
theorem evm {α : Type} {fns : Fns} {e it : E} {i : Nat} {ρ : En} {xs : List α} (m g : α → D) (h1 : ev fns it ρ = .ok (.tup (xs.map m))) (h2 : xs.length ≤ szL) (h3 : ∀ x ∈ xs, ev fns e ((ρ.set i .no).set i (.dat (m x))) = .ok (g x)) : ev fns (.comp e (.nm i) it .nil) ρ = .ok (.lst (xs.map g)) := by
  rw [ev, h1]
  simp only [Rs.bind_ok, asL_s, List.length_map, if_pos h2, slots_nm, wip_c, wip_n, putT_nm]
  have key : ∀ (ys : List α) (acc : List D), (∀ x ∈ ys, x ∈ xs) → compL (fun d => (ev fns e ((List.set ρ i Sl.no).set i (.dat d))).bind fun y => .ok (some y)) (ys.map m) acc = .ok (acc ++ ys.map g) := by
    intro ys
    induction ys with
    | nil => intro acc _; simp [compL]
    | cons y ys ih =>
      intro acc h
      simp only [List.map_cons, compL, h3 y (h y (by simp)), Rs.bind_ok]
      rw [ih _ (fun x hx => h x (by simp [hx]))]
      simp
  rw [key xs [] (fun _ h => h)]
  rfl
theorem evmT {α : Type} {fns : Fns} {e it : E} {is : List Nat} {ρ : En} {xs : List α} (m g : α → D) (h1 : ev fns it ρ = .ok (.tup (xs.map m))) (h2 : xs.length ≤ szL) (h3 : ∀ x ∈ xs, ∃ ρ', putT (wip ρ is) (.tp is) (m x) = some ρ' ∧ ev fns e ρ' = .ok (g x)) : ev fns (.comp e (.tp is) it .nil) ρ = .ok (.lst (xs.map g)) := by
  rw [ev, h1]
  simp only [Rs.bind_ok, asL_s, List.length_map, if_pos h2, slots_tp]
  have key : ∀ (ys : List α) (acc : List D), (∀ x ∈ ys, x ∈ xs) → compL (fun d => match putT (wip ρ is) (.tp is) d with
      | none => .bad
      | some ρ' => (ev fns e ρ').bind fun y => .ok (some y)) (ys.map m) acc = .ok (acc ++ ys.map g) := by
    intro ys
    induction ys with
    | nil => intro acc _; simp [compL]
    | cons y ys ih =>
      intro acc h
      obtain ⟨ρ', q1, q2⟩ := h3 y (h y (by simp))
      simp only [List.map_cons, compL, q1, q2, Rs.bind_ok]
      rw [ih _ (fun x hx => h x (by simp [hx]))]
      simp
  exact congrArg (fun z : Rs (List D) => z.bind fun ys => Rs.ok (D.lst ys)) (key xs [] (fun _ h => h))
theorem evmF {α : Type} {fns : Fns} {e it c : E} {i : Nat} {ρ : En} {xs : List α} (m : α → D) (p : α → Bool) (g : α → D) (h1 : ev fns it ρ = .ok (.tup (xs.map m))) (h2 : xs.length ≤ szL) (h3 : ∀ x ∈ xs, ev fns c ((ρ.set i .no).set i (.dat (m x))) = .ok (.bl (p x)) ∧ (p x = true → ev fns e ((ρ.set i .no).set i (.dat (m x))) = .ok (g x))) :
    ev fns (.comp e (.nm i) it (.fin c)) ρ = .ok (.lst ((xs.filter p).map g)) := by
  rw [ev, h1]
  simp only [Rs.bind_ok, asL_s, List.length_map, if_pos h2, slots_nm, wip_c, wip_n, putT_nm, ev_fin_s]
  have key : ∀ (ys : List α) (acc : List D), (∀ x ∈ ys, x ∈ xs) → compL (fun d => (ev fns c ((List.set ρ i Sl.no).set i (.dat d))).bind fun x => (asB x).bind fun k => if k = true then (ev fns e ((List.set ρ i Sl.no).set i (.dat d))).bind fun y => .ok (some y) else .ok none) (ys.map m) acc = .ok (acc ++ (ys.filter p).map g) := by
    intro ys
    induction ys with
    | nil => intro acc _; simp [compL]
    | cons y ys ih =>
      intro acc h
      obtain ⟨q1, q2⟩ := h3 y (h y (by simp))
      simp only [List.map_cons, compL, q1, Rs.bind_ok, asB_s]
      cases q : p y with
      | true =>
        simp only [if_true, q2 q, Rs.bind_ok]
        rw [ih _ (fun x hx => h x (by simp [hx]))]
        simp [q]
      | false =>
        simp only [Bool.false_eq_true, if_false]
        rw [ih _ (fun x hx => h x (by simp [hx]))]
        simp [q]
  rw [key xs [] (fun _ h => h)]
  rfl
theorem evmTF {α : Type} {fns : Fns} {e it c : E} {is : List Nat} {ρ : En} {xs : List α} (m : α → D) (p : α → Bool) (g : α → D) (h1 : ev fns it ρ = .ok (.tup (xs.map m))) (h2 : xs.length ≤ szL) (h3 : ∀ x ∈ xs, ∃ ρ', putT (wip ρ is) (.tp is) (m x) = some ρ' ∧ ev fns c ρ' = .ok (.bl (p x)) ∧ (p x = true → ev fns e ρ' = .ok (g x))) :
    ev fns (.comp e (.tp is) it (.fin c)) ρ = .ok (.lst ((xs.filter p).map g)) := by
  rw [ev, h1]
  simp only [Rs.bind_ok, asL_s, List.length_map, if_pos h2, slots_tp, ev_fin_s]
  have key : ∀ (ys : List α) (acc : List D), (∀ x ∈ ys, x ∈ xs) → compL (fun d => match putT (wip ρ is) (.tp is) d with
      | none => .bad
      | some ρ' => (ev fns c ρ').bind fun x => (asB x).bind fun k => if k = true then (ev fns e ρ').bind fun y => .ok (some y) else .ok none) (ys.map m) acc = .ok (acc ++ (ys.filter p).map g) := by
    intro ys
    induction ys with
    | nil => intro acc _; simp [compL]
    | cons y ys ih =>
      intro acc h
      obtain ⟨ρ', q0, q1, q2⟩ := h3 y (h y (by simp))
      simp only [List.map_cons, compL, q0, q1, Rs.bind_ok, asB_s]
      cases q : p y with
      | true =>
        simp only [if_true, q2 q, Rs.bind_ok]
        rw [ih _ (fun x hx => h x (by simp [hx]))]
        simp [q]
      | false =>
        simp only [Bool.false_eq_true, if_false]
        rw [ih _ (fun x hx => h x (by simp [hx]))]
        simp [q]
  exact congrArg (fun z : Rs (List D) => z.bind fun ys => Rs.ok (D.lst ys)) (key xs [] (fun _ h => h))
@[simp] theorem b_allM {α : Type} (l : List α) (f : α → Bool) : bltSem .all [.lst (l.map fun x => .bl (f x))] = some (.bl (l.all f)) := by
  have e : (l.map fun x => D.bl (f x)) = (l.map f).map .bl := by simp
  rw [e, b_all]
  simp
@[simp] theorem b_anyM {α : Type} (l : List α) (f : α → Bool) : bltSem .any [.lst (l.map fun x => .bl (f x))] = some (.bl (l.any f)) := by
  have e : (l.map fun x => D.bl (f x)) = (l.map f).map .bl := by simp
  rw [e, b_any]
  simp
@[simp] theorem b_sumM {α : Type} (l : List α) (f : α → Int) : bltSem .sum [.lst (l.map fun x => .int (f x))] = some (.int (l.map f).sum) := by
  have e : (l.map fun x => D.int (f x)) = (l.map f).map .int := by simp
  rw [e, b_sum]
theorem forL_nx {g : Tg} {b : En → Out} {x : D} {r : List D} {ρ ρ1 ρ2 : En} (h1 : putT ρ g x = some ρ1) (h2 : b ρ1 = .nx ρ2) : forL g b (x :: r) ρ = forL g b r ρ2 := by
  rw [forL, h1]
  simp only [h2]
theorem forL_ct {g : Tg} {b : En → Out} {x : D} {r : List D} {ρ ρ1 ρ2 : En} (h1 : putT ρ g x = some ρ1) (h2 : b ρ1 = .ct ρ2) : forL g b (x :: r) ρ = forL g b r ρ2 := by
  rw [forL, h1]
  simp only [h2]
theorem forL_rt {g : Tg} {b : En → Out} {x : D} {r : List D} {ρ ρ1 : En} {d : D} (h1 : putT ρ g x = some ρ1) (h2 : b ρ1 = .rt d) : forL g b (x :: r) ρ = .rt d := by
  rw [forL, h1]
  simp only [h2]
theorem forL_br {g : Tg} {b : En → Out} {x : D} {r : List D} {ρ ρ1 ρ2 : En} (h1 : putT ρ g x = some ρ1) (h2 : b ρ1 = .br ρ2) : forL g b (x :: r) ρ = .nx ρ2 := by
  rw [forL, h1]
  simp only [h2]
@[simp] theorem forL_nil (g : Tg) (b : En → Out) (ρ : En) : forL g b [] ρ = .nx ρ := (rfl)
/-- a statement behind a known one -/
theorem ex_nx {fns : Fns} {a r : S} {ρ ρ1 : En} (h : exec fns a ρ = .nx ρ1) : exec fns (.cons a r) ρ = exec fns r ρ1 := by
  rw [exec_cons_s, h]
theorem ex_rt {fns : Fns} {a r : S} {ρ : En} {d : D} (h : exec fns a ρ = .rt d) : exec fns (.cons a r) ρ = .rt d := by
  rw [exec_cons_s, h]
/-! ### lambdas that are told -/
@[simp] theorem ev_up_s (fns : Fns) (a : E) (ρ : En) : ev fns (.up a) ρ = ((opd a (ev fns a) ρ).bind fun x => .of (upSem x)) := by rw [ev]
@[simp] theorem opd_up (fns : Fns) (a : E) (ρ : En) : opd (.up a) (ev fns (.up a)) ρ = ev fns (.up a) ρ := (rfl)
@[simp] theorem ev_told_s (fns : Fns) (ws : List Str) (a : E) (ρ : En) : ev fns (.told ws a) ρ = toldR ws (ev fns a ρ) := by rw [ev]
@[simp] theorem opd_told (fns : Fns) (ws : List Str) (a : E) (ρ : En) : opd (.told ws a) (ev fns (.told ws a)) ρ = ev fns (.told ws a) ρ := (rfl)
@[simp] theorem toldR_ok (ws : List Str) (d : D) : toldR ws (.ok d) = .ok d := (rfl)
@[simp] theorem tolds_nil (ws : List Str) (ρ : En) : tolds ws ρ [] = .ok [] := (rfl)
@[simp] theorem tolds_cons (ws : List Str) (ρ : En) (f : En → Rs D) (fs : List (En → Rs D)) : tolds ws ρ (f :: fs) = (toldR ws (f ρ)).bind fun x => (tolds ws ρ fs).bind fun l => .ok (x :: l) := (rfl)
@[simp] theorem evL_cons (fns : Fns) (a r : E) : evL fns (.cons a r) = ev fns a :: evL fns r := (rfl)
@[simp] theorem evL_nil (fns : Fns) : evL fns .nil = [] := (rfl)
abbrev ws4 : List Str := ["BadManner", "BadNumber", "BadNumeral", "BadSigns"]
abbrev ws5 : List Str := ["BadManner", "BadNumber", "BadNumeral", "BadSigns", "Nothing"]
theorem cps_BM : ("BadManner" : Str).cps.toList = [66, 97, 100, 77, 97, 110, 110, 101, 114] := by decide +kernel
theorem cps_BN : ("BadNumber" : Str).cps.toList = [66, 97, 100, 78, 117, 109, 98, 101, 114] := by decide +kernel
theorem cps_BU : ("BadNumeral" : Str).cps.toList = [66, 97, 100, 78, 117, 109, 101, 114, 97, 108] := by decide +kernel
theorem cps_BS : ("BadSigns" : Str).cps.toList = [66, 97, 100, 83, 105, 103, 110, 115] := by decide +kernel
theorem cps_No : ("Nothing" : Str).cps.toList = [78, 111, 116, 104, 105, 110, 103] := by decide +kernel
theorem toldR_in {ws : List Str} {c : Str} {l : List Nat} (h : c ∈ ws) (e : c.cps.toList = l) : toldR ws (.exc c) = .ok (.str l) := by
  show (if c ∈ ws then Rs.ok (D.str c.cps.toList) else Rs.bad) = _
  rw [if_pos h, e]
@[simp] theorem told4_BM : toldR ws4 (.exc "BadManner") = .ok (.str [66, 97, 100, 77, 97, 110, 110, 101, 114]) := toldR_in (by decide) cps_BM
@[simp] theorem told4_BN : toldR ws4 (.exc "BadNumber") = .ok (.str [66, 97, 100, 78, 117, 109, 98, 101, 114]) := toldR_in (by decide) cps_BN
@[simp] theorem told4_BU : toldR ws4 (.exc "BadNumeral") = .ok (.str [66, 97, 100, 78, 117, 109, 101, 114, 97, 108]) := toldR_in (by decide) cps_BU
@[simp] theorem told4_BS : toldR ws4 (.exc "BadSigns") = .ok (.str [66, 97, 100, 83, 105, 103, 110, 115]) := toldR_in (by decide) cps_BS
@[simp] theorem told5_BM : toldR ws5 (.exc "BadManner") = .ok (.str [66, 97, 100, 77, 97, 110, 110, 101, 114]) := toldR_in (by decide) cps_BM
@[simp] theorem told5_BN : toldR ws5 (.exc "BadNumber") = .ok (.str [66, 97, 100, 78, 117, 109, 98, 101, 114]) := toldR_in (by decide) cps_BN
@[simp] theorem told5_BU : toldR ws5 (.exc "BadNumeral") = .ok (.str [66, 97, 100, 78, 117, 109, 101, 114, 97, 108]) := toldR_in (by decide) cps_BU
@[simp] theorem told5_BS : toldR ws5 (.exc "BadSigns") = .ok (.str [66, 97, 100, 83, 105, 103, 110, 115]) := toldR_in (by decide) cps_BS
@[simp] theorem told5_No : toldR ws5 (.exc "Nothing") = .ok (.str [78, 111, 116, 104, 105, 110, 103]) := toldR_in (by decide) cps_No
/-- deeds, none of which tells anything else -/
theorem ex_alls {fns : Fns} {ws : List Str} {i : Nat} {es r : E} {b z : S} {ρ : En} (ds : List D) (h : tolds ws (ρ.set i .no) (evL fns es) = .ok ds) (h2 : ev fns r (ρ.set i .no) = .ok (.lst ds)) (hd : D.dep 8 (.lst ds) = true) (he : D.eqb (.lst ds) (.lst ds) = true) : exec fns (.cons (.alls ws i es r .nil b) z) ρ = exec fns z (ρ.set i .no) := by
  rw [exec_cons, exec_alls]
  unfold seqF allsF dOpt
  rw [h]
  simp only [onR_ok]
  rw [h2]
  simp only [onR_ok]
  have : cmpSem .ne (.lst ds) (.lst ds) = some false := by
    show (eqSem (.lst ds) (.lst ds)).map not = _
    unfold eqSem
    simp [hd, he]
  rw [this]
  rfl
theorem ex_allsT {fns : Fns} {ws : List Str} {i : Nat} {es r t : E} {b z : S} {ρ : En} (ds : List D) (h : tolds ws (ρ.set i .no) (evL fns es) = .ok ds) (h2 : ev fns r (ρ.set i .no) = .ok (.lst ds)) (hd : D.dep 8 (.lst ds) = true) (he : D.eqb (.lst ds) (.lst ds) = true) (ht : t ≠ .nil) (h3 : ev fns t (ρ.set i .no) = .ok (.bl false)) : exec fns (.cons (.alls ws i es r t b) z) ρ = exec fns z (ρ.set i .no) := by
  have dt : dOpt fns t = some (ev fns t) := by
    unfold dOpt
    split
    · exact absurd rfl ht
    · rfl
  rw [exec_cons, exec_alls, dt]
  unfold seqF allsF
  rw [h]
  simp only [onR_ok]
  rw [h2]
  simp only [onR_ok]
  have : cmpSem .ne (.lst ds) (.lst ds) = some false := by
    show (eqSem (.lst ds) (.lst ds)).map not = _
    unfold eqSem
    simp [hd, he]
  rw [this]
  simp only [Rs.of_some, onR_ok]
  rw [h3]
  rfl
end DN

set_option Elab.async false
set_option linter.all false
set_option maxRecDepth 100000
set_option maxHeartbeats 4000000
namespace DN
open PySem PySem.Spec PyProof.Rows L2
/-! ### one statement after the other -/
section
variable {fns : Fns} {ρ ρ' : En} {r a b : S} {e t it : E} {i : Nat} {g : Tg}
theorem ex_set (d : D) (h : ev fns e ρ = .ok d) : exec fns (.cons (.set i e) r) ρ = exec fns r (ρ.set i (.dat d)) := by
  rw [exec_cons_s, exec_set_s, h]
  rfl
theorem ex_setO (ds : List D) (h : ev fns e ρ = .ok (.lst ds)) : exec fns (.cons (.setO i e) r) ρ = exec fns r (ρ.set i (.own (.lst ds))) := by
  rw [exec_cons_s, exec_setO_s, h]
  rfl
theorem ex_par {is : List (Nat × Bool)} (ds : List D) (h : ev fns e ρ = .ok (.tup ds)) (h2 : putPar ρ is ds = some ρ') : exec fns (.cons (.par is e) r) ρ = exec fns r ρ' := by
  rw [exec_cons_s, exec_par_s, h]
  simp only [h2, onO_some]
theorem ex_unp {is : List Nat} (ds : List D) (h : ev fns e ρ = .ok (.tup ds)) (h2 : putAll ρ is ds = some ρ') : exec fns (.cons (.unp is e) r) ρ = exec fns r ρ' := by
  rw [exec_cons_s, exec_unp_s, h]
  simp only [onR_ok, putT, h2, onO_some]
theorem ex_skip (h : ev fns t ρ = .ok (.bl false)) : exec fns (.cons (.ife t a .nil) r) ρ = exec fns r ρ := by
  rw [exec_cons_s, exec_ife_s, h]
  rfl
theorem ex_then (h : ev fns t ρ = .ok (.bl true)) : exec fns (.cons (.ife t a b) r) ρ = exec fns (.cons a r) ρ := by
  rw [exec_cons_s, exec_ife_s, h]
  rw [exec_cons_s]
  rfl
theorem ex_else (h : ev fns t ρ = .ok (.bl false)) : exec fns (.cons (.ife t a b) r) ρ = exec fns (.cons b r) ρ := by
  rw [exec_cons_s, exec_ife_s, h]
  rw [exec_cons_s]
  rfl
theorem ex_in {c : S} : exec fns (.cons (.cons a b) c) ρ = exec fns (.cons a (.cons b c)) ρ := by
  rw [exec_cons_s, exec_cons_s, exec_cons_s]
  cases exec fns a ρ <;> first | rfl | (rw [exec_cons_s])
theorem ex_nil0 : exec fns (.cons .nil r) ρ = exec fns r ρ := by
  rw [exec_cons_s, exec_nil_s]
theorem ex_for (ds : List D) (h : ev fns it ρ = .ok (.tup ds)) (h2 : forL g (exec fns b) ds ρ = .nx ρ') : exec fns (.cons (.forS g it b) r) ρ = exec fns r ρ' := by
  rw [exec_cons_s, exec_forS_s, h]
  simp only [Rs.bind_ok, asL_s, onR_ok, h2]
theorem ex_whl {n : Nat} (h2 : whlL (ev fns t) (exec fns b) n ρ = .nx ρ') : exec fns (.cons (.whl n t b) r) ρ = exec fns r ρ' := by
  rw [exec_cons_s, exec_whl_s, h2]
theorem ex_expr (d : D) (h : ev fns e ρ = .ok d) : exec fns (.cons (.expr e) r) ρ = exec fns r ρ := by
  rw [exec_cons_s, exec_expr_s, h]
  rfl
theorem ex_app (ds : List D) (d : D) (h1 : ρ[i]? = some (.own (.lst ds))) (h : ev fns e ρ = .ok d) (hl : ds.length < szL) : exec fns (.cons (.app i e) r) ρ = exec fns r (ρ.set i (.own (.lst (ds ++ [d])))) := by
  rw [exec_cons_s, exec_app_s, h1]
  simp only [h, onR_ok, if_pos hl]
theorem ex_dis (d : D) (h1 : ρ[i]? = some (.own d)) : exec fns (.cons (.dis i) r) ρ = exec fns r (ρ.set i (.dat d)) := by
  rw [exec_cons_s, exec_dis_s, h1]
  rfl
theorem ex_ret (d : D) (h : ev fns e ρ = .ok d) : exec fns (.cons (.ret e) r) ρ = .rt d := by
  rw [exec_cons_s, exec_ret_s, h]
  rfl
theorem ev_orF {x y : E} (h : ev fns x ρ = .ok (.bl false)) : ev fns (.or x y) ρ = ev fns y ρ := by
  rw [ev_or_s, h]
  rfl
theorem ev_orFF {x y : E} (h : ev fns x ρ = .ok (.bl false)) (h2 : ev fns y ρ = .ok (.bl false)) : ev fns (.or x y) ρ = .ok (.bl false) := by
  rw [ev_orF h, h2]
theorem ev_andF {x y : E} (h : ev fns x ρ = .ok (.bl false)) : ev fns (.and x y) ρ = .ok (.bl false) := by
  rw [ev_and_s, h]
  rfl
theorem ev_andT {x y : E} (h : ev fns x ρ = .ok (.bl true)) : ev fns (.and x y) ρ = ev fns y ρ := by
  rw [ev_and_s, h]
  rfl
theorem opd_ok {x : E} {d : D} (h : ev fns x ρ = .ok d) : opd x (ev fns x) ρ = .ok d := by
  cases x <;> first | exact h | skip
  rename_i i
  rw [ev_var_s] at h
  show getO ρ i = .ok d
  unfold getC at h
  unfold getO
  split at h
  · rename_i q
    rw [q]
    exact h
  · cases h
theorem ev_neS {x y : E} {d : D} (h : ev fns x ρ = .ok d) (h2 : ev fns y ρ = .ok d) (hd : D.dep 8 d = true) : ev fns (.cmp .ne x y) ρ = .ok (.bl false) := by
  rw [ev_cmp_s, opd_ok h, opd_ok h2]
  simp [cs_refl hd]
theorem ev_cmpO {x y : E} {op : Cop} {d d' : D} {k : Bool} (h : ev fns x ρ = .ok d) (h2 : ev fns y ρ = .ok d') (hd : cmpSem op d d' = some k) : ev fns (.cmp op x y) ρ = .ok (.bl k) := by
  rw [ev_cmp_s, opd_ok h, opd_ok h2]
  simp [hd]
theorem ev_notT {x : E} {k : Bool} (h : ev fns x ρ = .ok (.bl k)) : ev fns (.not x) ρ = .ok (.bl (!k)) := by
  rw [ev_not_s, h]
  rfl
theorem ev_fin1 {x : E} {d : Rs D} (h : ev fns x ρ = d) : ev fns (.fin x) ρ = d := by
  rw [ev_fin_s, h]
end
@[simp] theorem outR_bad : outR .bad = .bad := (rfl)
@[simp] theorem atI_zero {α : Type} (c : α) (r : List α) : atI (c :: r) 0 = some c := by
  rw [atI_in (by omega) (by simp)]
  rfl
@[simp] theorem cs_in1 (c : Nat) (y : List Nat) : cmpSem .isin (.str [c]) (.str y) = some (decide (c ∈ y)) := (rfl)
@[simp] theorem dep_ints8 (a : List Int) : D.dep 8 (.lst (a.map .int)) = true := dep_ints 7 a
@[simp] theorem dep_strs8 (a : List (List Nat)) : D.dep 8 (.lst (a.map .str)) = true := dep_strs 7 a
theorem rgL_cons {a b : Int} (h : a < b) : rgL a b = .int a :: rgL (a + 1) b := by
  unfold rgL
  have e : (b - a).toNat = (b - (a + 1)).toNat + 1 := by omega
  rw [e, List.range_succ_eq_map, List.map_cons, List.map_map]
  congr 1
  · simp
  · apply List.map_congr_left
    intro i _
    show D.int (a + ((i + 1 : Nat) : Int)) = D.int (a + 1 + (i : Int))
    congr 1
    omega
theorem rgL_nil {a b : Int} (h : b ≤ a) : rgL a b = [] := by
  unfold rgL
  have e : (b - a).toNat = 0 := by omega
  rw [e]
  rfl
theorem sIx_some {n k : Nat} {i : Int} (h : 0 ≤ i) : HT.sIx n k (some i) = min i.toNat n := by
  unfold HT.sIx
  simp
  omega
theorem cut_to {α : Type} (xs : List α) {i : Int} (h : 0 ≤ i) : cutL xs none (some i) = xs.take i.toNat := by
  unfold cutL
  rw [sIx_some h, show HT.sIx xs.length 0 none = 0 from rfl, Nat.sub_zero, List.drop_zero, List.take_eq_take_iff]
  omega
theorem cut_from {α : Type} (xs : List α) {i : Int} (h : 0 ≤ i) : cutL xs (some i) none = xs.drop i.toNat := by
  unfold cutL
  rw [sIx_some h, show HT.sIx xs.length xs.length none = xs.length from rfl]
  by_cases q : i.toNat ≤ xs.length
  · rw [Nat.min_eq_left q, List.take_of_length_le (by simp)]
  · rw [Nat.min_eq_right (by omega), List.drop_of_length_le (Nat.le_refl _), List.drop_of_length_le (by omega)]
    simp
theorem cut_mid {α : Type} (xs : List α) {i j : Int} (h : 0 ≤ i) (h2 : 0 ≤ j) : cutL xs (some i) (some j) = (xs.take j.toNat).drop i.toNat := by
  unfold cutL
  rw [sIx_some h, sIx_some h2, List.drop_take]
  by_cases q : i.toNat ≤ xs.length
  · rw [Nat.min_eq_left q, List.take_eq_take_iff]
    simp
    omega
  · rw [Nat.min_eq_right (show xs.length ≤ i.toNat by omega), List.drop_of_length_le (Nat.le_refl _), List.drop_of_length_le (show xs.length ≤ i.toNat by omega)]
    simp
theorem atI_last {α : Type} (xs : List α) (h : xs ≠ []) : atI xs (-1) = xs[xs.length - 1]? := by
  have : 0 < xs.length := List.length_pos_iff.mpr h
  unfold atI ixN
  rw [if_neg (by omega), if_pos (by omega)]
  show xs[((-1 : Int) + xs.length).toNat]? = _
  congr 1
  omega
theorem enum_map {α : Type} (m : α → D) : ∀ (xs : List α) (k : Nat), enumD k (xs.map m) = (xs.zipIdx k).map fun p => .tup [.int (p.2 : Nat), m p.1]
  | [], _ => rfl
  | x :: xs, k => by rw [List.map_cons, enumD, enum_map m xs (k + 1), List.zipIdx_cons]; rfl
theorem flat1 {α : Type} (l : List α) (f : α → Nat) : (l.map fun x => [f x]).flatten = l.map f := by
  induction l with
  | nil => rfl
  | cons x l ih => simp [ih]
/-! ### while -/
theorem whl_f {c : En → Rs D} {b : En → Out} {n : Nat} {ρ : En} (h : c ρ = .ok (.bl false)) : whlL c b (n + 1) ρ = .nx ρ := by
  rw [whlL, h]
  rfl
theorem whl_t {c : En → Rs D} {b : En → Out} {n : Nat} {ρ ρ' : En} (h : c ρ = .ok (.bl true)) (h2 : b ρ = .nx ρ') : whlL c b (n + 1) ρ = whlL c b n ρ' := by
  rw [whlL, h]
  simp only [Rs.bind_ok, asB_s, onR_ok, if_true, h2]
/-! ### loops whose turns all go on -/
theorem forL_all {b : En → Out} {g : Tg} {α : Type} (P : En → Prop) (m : α → D) : ∀ (xs : List α) (ρ : En), P ρ → (∀ x ∈ xs, ∀ ρ, P ρ → ∃ ρ1 ρ', putT ρ g (m x) = some ρ1 ∧ (b ρ1 = .nx ρ' ∨ b ρ1 = .ct ρ') ∧ P ρ') → ∃ ρ', forL g b (xs.map m) ρ = .nx ρ' ∧ P ρ'
  | [], ρ, h, _ => ⟨ρ, rfl, h⟩
  | x :: r, ρ, h, hs => by
    obtain ⟨ρ1, ρ', h1, h2, h3⟩ := hs x (by simp) ρ h
    obtain ⟨ρ2, h4, h5⟩ := forL_all P m r ρ' h3 (fun y hy => hs y (by simp [hy]))
    refine ⟨ρ2, ?_, h5⟩
    rw [List.map_cons]
    rcases h2 with h2 | h2
    · rw [forL_nx h1 h2, h4]
    · rw [forL_ct h1 h2, h4]
theorem forL_rg {b : En → Out} {i : Nat} (P : En → Prop) (lo hi : Int) (ρ : En) (h : P ρ) (hs : ∀ k : Int, lo ≤ k → k < hi → ∀ ρ, P ρ → ∃ ρ', (b (ρ.set i (.dat (.int k))) = .nx ρ' ∨ b (ρ.set i (.dat (.int k))) = .ct ρ') ∧ P ρ') : ∃ ρ', forL (.nm i) b (rgL lo hi) ρ = .nx ρ' ∧ P ρ' := by
  unfold rgL
  refine forL_all P (fun j : Nat => .int (lo + j)) (List.range (hi - lo).toNat) ρ h fun j hj ρ hP => ?_
  have hj := List.mem_range.mp hj
  obtain ⟨ρ', h1, h2⟩ := hs (lo + j) (by omega) (by omega) ρ hP
  exact ⟨_, ρ', rfl, h1, h2⟩
end DN

set_option Elab.async false
set_option linter.all false
set_option maxRecDepth 100000
set_option maxHeartbeats 4000000
namespace Q
open PySem PySem.Spec PyProof.Rows L2 DN
/-! numbers_is_count: 0=thing 1=low 2=high -/
def p_numbers_is_count : Fns := []
def s_numbers_is_count : S := (.cons (.ret (.and (.isi (.var 0) .int) (.and (.not (.isi (.var 0) .bool)) (.fin (.chain .le .le (.var 1) (.var 0) (.var 2)))))) .nil)
def F_numbers_is_count : List D → Rs D := fnSem p_numbers_is_count 3 3 s_numbers_is_count
theorem F_numbers_is_count_eq (a0 a1 a2 : D) : F_numbers_is_count [a0, a1, a2] = outR (exec p_numbers_is_count s_numbers_is_count [.dat a0, .dat a1, .dat a2]) := fnSem_eq rfl
/-! numbers_need_number: 0=thing 1=low 2=high -/
def p_numbers_need_number : Fns := [("", F_numbers_is_count)]
def s_numbers_need_number : S := (.cons (.ife (.not (.call 0 (.cons (.var 0) (.cons (.var 1) (.cons (.var 2) .nil))))) (.cons (.rai "BadNumber") .nil) .nil) .nil)
def F_numbers_need_number : List D → Rs D := fnSem p_numbers_need_number 3 3 s_numbers_need_number
theorem F_numbers_need_number_eq (a0 a1 a2 : D) : F_numbers_need_number [a0, a1, a2] = outR (exec p_numbers_need_number s_numbers_need_number [.dat a0, .dat a1, .dat a2]) := fnSem_eq rfl
@[simp] theorem c_numbers_need_number_numbers_is_count (ds : List D) : callF p_numbers_need_number 0 ds = F_numbers_is_count ds := rfl
/-! numbers_are_signs: 0=thing 1=low 2=high 3=sign -/
def p_numbers_are_signs : Fns := []
def s_numbers_are_signs : S := (.cons (.ife (.or (.not (.isi (.var 0) .str)) (.fin (.not (.chain .le .le (.var 1) (.blt1 .len (.var 0)) (.var 2))))) (.cons (.ret (.con (.bl false))) .nil) .nil) (.cons (.ret (.and (.blt1 .all (.comp (.cmp .isin (.var 3) (.bin .add (.glo "" (.str [97, 98, 99, 100, 101, 102, 103, 104, 105, 106, 107, 108, 109, 110, 111, 112, 113, 114, 115, 116, 117, 118, 119, 120, 121, 122])) (.glo "" (.str [48, 49, 50, 51, 52, 53, 54, 55, 56, 57])))) (.nm 3) (.walk (.var 0)) .nil)) (.fin (.cmp .eq (.lset (.var 0)) (.blt1 .len (.var 0)))))) .nil))
def F_numbers_are_signs : List D → Rs D := fnSem p_numbers_are_signs 3 4 s_numbers_are_signs
theorem F_numbers_are_signs_eq (a0 a1 a2 : D) : F_numbers_are_signs [a0, a1, a2] = outR (exec p_numbers_are_signs s_numbers_are_signs [.dat a0, .dat a1, .dat a2, .no]) := fnSem_eq rfl
/-! numbers_need_signs: 0=signs 1=low 2=high -/
def p_numbers_need_signs : Fns := [("", F_numbers_are_signs)]
def s_numbers_need_signs : S := (.cons (.ife (.not (.call 0 (.cons (.var 0) (.cons (.var 1) (.cons (.var 2) .nil))))) (.cons (.rai "BadSigns") .nil) .nil) .nil)
def F_numbers_need_signs : List D → Rs D := fnSem p_numbers_need_signs 3 3 s_numbers_need_signs
theorem F_numbers_need_signs_eq (a0 a1 a2 : D) : F_numbers_need_signs [a0, a1, a2] = outR (exec p_numbers_need_signs s_numbers_need_signs [.dat a0, .dat a1, .dat a2]) := fnSem_eq rfl
@[simp] theorem c_numbers_need_signs_numbers_are_signs (ds : List D) : callF p_numbers_need_signs 0 ds = F_numbers_are_signs ds := rfl
end Q

set_option Elab.async false
set_option linter.all false
set_option maxRecDepth 100000
set_option maxHeartbeats 4000000
namespace Q
open PySem PySem.Spec PyProof.Rows L2 DN
/-! growing_row_to: 0=number 1=found 2=one -/
def p_growing_row_to : Fns := []
def b1_growing_row_to : S := (.cons (.app 1 (.bin .add (.ix (.var 1) (.neg (.con (.int 1)))) (.ix (.var 1) (.neg (.con (.int 2)))))) .nil)
def s_growing_row_to : S := (.cons (.setO 1 (.lst (.cons (.con (.int 1)) (.cons (.con (.int 2)) .nil)))) (.cons (.whl 1000000000 (.cmp .le (.bin .add (.ix (.var 1) (.neg (.con (.int 1)))) (.ix (.var 1) (.neg (.con (.int 2))))) (.var 0)) b1_growing_row_to) (.cons (.dis 1) (.cons (.ret (.comp (.var 2) (.nm 2) (.walk (.var 1)) (.fin (.cmp .le (.var 2) (.var 0))))) .nil))))
def F_growing_row_to : List D → Rs D := fnSem p_growing_row_to 1 3 s_growing_row_to
theorem F_growing_row_to_eq (a0 : D) : F_growing_row_to [a0] = outR (exec p_growing_row_to s_growing_row_to [.dat a0, .no, .no]) := fnSem_eq rfl
/-! growing_numeral_of: 0=number 1=found 2=one -/
def p_growing_numeral_of : Fns := [("", F_growing_row_to)]
def b1_growing_numeral_of : S := (.cons (.set 1 (.bin .add (.var 1) (.ife (.cmp .le (.var 2) (.var 0)) (.con (.str [49])) (.con (.str [48]))))) (.cons (.set 0 (.ife (.cmp .le (.var 2) (.var 0)) (.bin .sub (.var 0) (.var 2)) (.var 0))) .nil))
def s_growing_numeral_of : S := (.cons (.ife (.cmp .eq (.var 0) (.con (.int 0))) (.cons (.ret (.con (.str [48]))) .nil) .nil) (.cons (.set 1 (.con (.str []))) (.cons (.forS (.nm 2) (.walk (.rev (.call 0 (.cons (.var 0) .nil)))) b1_growing_numeral_of) (.cons (.ret (.var 1)) .nil))))
def F_growing_numeral_of : List D → Rs D := fnSem p_growing_numeral_of 1 3 s_growing_numeral_of
theorem F_growing_numeral_of_eq (a0 : D) : F_growing_numeral_of [a0] = outR (exec p_growing_numeral_of s_growing_numeral_of [.dat a0, .no, .no]) := fnSem_eq rfl
@[simp] theorem c_growing_numeral_of_growing_row_to (ds : List D) : callF p_growing_numeral_of 0 ds = F_growing_row_to ds := rfl
/-! growing_write: 0=number -/
def p_growing_write : Fns := [("", F_numbers_need_number), ("", F_growing_numeral_of)]
def s_growing_write : S := (.cons (.expr (.call 0 (.cons (.var 0) (.cons (.con (.int 0)) (.cons (.glo "" (.int 1000000000000)) .nil))))) (.cons (.ret (.call 1 (.cons (.var 0) .nil))) .nil))
def F_growing_write : List D → Rs D := fnSem p_growing_write 1 1 s_growing_write
theorem F_growing_write_eq (a0 : D) : F_growing_write [a0] = outR (exec p_growing_write s_growing_write [.dat a0]) := fnSem_eq rfl
@[simp] theorem c_growing_write_numbers_need_number (ds : List D) : callF p_growing_write 0 ds = F_numbers_need_number ds := rfl
@[simp] theorem c_growing_write_growing_numeral_of (ds : List D) : callF p_growing_write 1 ds = F_growing_numeral_of ds := rfl
/-! growing_worth_of: 0=numeral 1=found 2=one 3=other 4=sign -/
def p_growing_worth_of : Fns := []
def b1_growing_worth_of : S := (.cons (.set 1 (.bin .add (.var 1) (.ife (.cmp .eq (.var 4) (.con (.str [49]))) (.var 2) (.con (.int 0))))) (.cons (.par [(2, false), (3, false)] (.cons (.var 3) (.cons (.bin .add (.var 2) (.var 3)) .nil))) .nil))
def s_growing_worth_of : S := (.cons (.par [(1, false), (2, false), (3, false)] (.cons (.con (.int 0)) (.cons (.con (.int 1)) (.cons (.con (.int 2)) .nil)))) (.cons (.forS (.nm 4) (.walk (.rev (.var 0))) b1_growing_worth_of) (.cons (.ret (.var 1)) .nil)))
def F_growing_worth_of : List D → Rs D := fnSem p_growing_worth_of 1 5 s_growing_worth_of
theorem F_growing_worth_of_eq (a0 : D) : F_growing_worth_of [a0] = outR (exec p_growing_worth_of s_growing_worth_of [.dat a0, .no, .no, .no, .no]) := fnSem_eq rfl
/-! growing_need_figures: 0=numeral 1=sign 2=good -/
def p_growing_need_figures : Fns := [("", F_growing_worth_of)]
def s_growing_need_figures : S := (.cons (.set 2 (.and (.isi (.var 0) .str) (.and (.chain .le .le (.con (.int 1)) (.blt1 .len (.var 0)) (.glo "" (.int 60))) (.fin (.blt1 .all (.comp (.cmp .isin (.var 1) (.con (.str [48, 49]))) (.nm 1) (.walk (.var 0)) .nil)))))) (.cons (.ife (.or (.not (.var 2)) (.fin (.cmp .gt (.call 0 (.cons (.var 0) .nil)) (.glo "" (.int 1000000000000))))) (.cons (.rai "BadNumeral") .nil) .nil) .nil))
def F_growing_need_figures : List D → Rs D := fnSem p_growing_need_figures 1 3 s_growing_need_figures
theorem F_growing_need_figures_eq (a0 : D) : F_growing_need_figures [a0] = outR (exec p_growing_need_figures s_growing_need_figures [.dat a0, .no, .no]) := fnSem_eq rfl
@[simp] theorem c_growing_need_figures_growing_worth_of (ds : List D) : callF p_growing_need_figures 0 ds = F_growing_worth_of ds := rfl
/-! growing_read: 0=numeral -/
def p_growing_read : Fns := [("", F_growing_need_figures), ("", F_growing_numeral_of), ("", F_growing_worth_of)]
def s_growing_read : S := (.cons (.expr (.call 0 (.cons (.var 0) .nil))) (.cons (.ife (.cmp .ne (.call 1 (.cons (.call 2 (.cons (.var 0) .nil)) .nil)) (.var 0)) (.cons (.rai "BadNumeral") .nil) .nil) (.cons (.ret (.call 2 (.cons (.var 0) .nil))) .nil)))
def F_growing_read : List D → Rs D := fnSem p_growing_read 1 1 s_growing_read
theorem F_growing_read_eq (a0 : D) : F_growing_read [a0] = outR (exec p_growing_read s_growing_read [.dat a0]) := fnSem_eq rfl
@[simp] theorem c_growing_read_growing_need_figures (ds : List D) : callF p_growing_read 0 ds = F_growing_need_figures ds := rfl
@[simp] theorem c_growing_read_growing_numeral_of (ds : List D) : callF p_growing_read 1 ds = F_growing_numeral_of ds := rfl
@[simp] theorem c_growing_read_growing_worth_of (ds : List D) : callF p_growing_read 2 ds = F_growing_worth_of ds := rfl
/-! growing_worth: 0=numeral -/
def p_growing_worth : Fns := [("", F_growing_need_figures), ("", F_growing_worth_of)]
def s_growing_worth : S := (.cons (.expr (.call 0 (.cons (.var 0) .nil))) (.cons (.ret (.call 1 (.cons (.var 0) .nil))) .nil))
def F_growing_worth : List D → Rs D := fnSem p_growing_worth 1 1 s_growing_worth
theorem F_growing_worth_eq (a0 : D) : F_growing_worth [a0] = outR (exec p_growing_worth s_growing_worth [.dat a0]) := fnSem_eq rfl
@[simp] theorem c_growing_worth_growing_need_figures (ds : List D) : callF p_growing_worth 0 ds = F_growing_need_figures ds := rfl
@[simp] theorem c_growing_worth_growing_worth_of (ds : List D) : callF p_growing_worth 1 ds = F_growing_worth_of ds := rfl
/-! growing_behind: 0=numeral 1=number -/
def p_growing_behind : Fns := [("", F_growing_read), ("", F_numbers_need_number), ("", F_growing_numeral_of)]
def s_growing_behind : S := (.cons (.set 1 (.call 0 (.cons (.var 0) .nil))) (.cons (.expr (.call 1 (.cons (.bin .add (.var 1) (.con (.int 1))) (.cons (.con (.int 0)) (.cons (.glo "" (.int 1000000000000)) .nil))))) (.cons (.ret (.call 2 (.cons (.bin .add (.var 1) (.con (.int 1))) .nil))) .nil)))
def F_growing_behind : List D → Rs D := fnSem p_growing_behind 1 2 s_growing_behind
theorem F_growing_behind_eq (a0 : D) : F_growing_behind [a0] = outR (exec p_growing_behind s_growing_behind [.dat a0, .no]) := fnSem_eq rfl
@[simp] theorem c_growing_behind_growing_read (ds : List D) : callF p_growing_behind 0 ds = F_growing_read ds := rfl
@[simp] theorem c_growing_behind_numbers_need_number (ds : List D) : callF p_growing_behind 1 ds = F_numbers_need_number ds := rfl
@[simp] theorem c_growing_behind_growing_numeral_of (ds : List D) : callF p_growing_behind 2 ds = F_growing_numeral_of ds := rfl
/-! growing_shaped: 0=numeral 1=found 2=at -/
def p_growing_shaped : Fns := [("", F_growing_need_figures)]
def b1_growing_shaped : S := (.cons (.set 2 (.mth .sindex (.var 1) (.con (.str [48, 49, 49])))) (.cons (.set 1 (.bin .add (.bin .add (.sl (.var 1) .nil (.fin (.var 2))) (.con (.str [49, 48, 48]))) (.sl (.var 1) (.fin (.bin .add (.var 2) (.con (.int 3)))) .nil))) .nil))
def s_growing_shaped : S := (.cons (.expr (.call 0 (.cons (.var 0) .nil))) (.cons (.set 1 (.bin .add (.con (.str [48])) (.var 0))) (.cons (.whl 1000000000 (.cmp .isin (.con (.str [48, 49, 49])) (.var 1)) b1_growing_shaped) (.cons (.set 1 (.mth .lstrip (.var 1) (.con (.str [48])))) (.cons (.ret (.ife (.cmp .ne (.var 1) (.con (.str []))) (.var 1) (.con (.str [48])))) .nil)))))
def F_growing_shaped : List D → Rs D := fnSem p_growing_shaped 1 3 s_growing_shaped
theorem F_growing_shaped_eq (a0 : D) : F_growing_shaped [a0] = outR (exec p_growing_shaped s_growing_shaped [.dat a0, .no, .no]) := fnSem_eq rfl
@[simp] theorem c_growing_shaped_growing_need_figures (ds : List D) : callF p_growing_shaped 0 ds = F_growing_need_figures ds := rfl
/-! growing_steps_of: 0=numeral 1=found 2=count 3=at -/
def p_growing_steps_of : Fns := [("", F_growing_need_figures)]
def b1_growing_steps_of : S := (.cons (.set 3 (.mth .sindex (.var 1) (.con (.str [48, 49, 49])))) (.cons (.set 1 (.bin .add (.bin .add (.sl (.var 1) .nil (.fin (.var 3))) (.con (.str [49, 48, 48]))) (.sl (.var 1) (.fin (.bin .add (.var 3) (.con (.int 3)))) .nil))) (.cons (.set 2 (.bin .add (.var 2) (.con (.int 1)))) .nil)))
def s_growing_steps_of : S := (.cons (.expr (.call 0 (.cons (.var 0) .nil))) (.cons (.par [(1, false), (2, false)] (.cons (.bin .add (.con (.str [48])) (.var 0)) (.cons (.con (.int 0)) .nil))) (.cons (.whl 1000000000 (.cmp .isin (.con (.str [48, 49, 49])) (.var 1)) b1_growing_steps_of) (.cons (.ret (.var 2)) .nil))))
def F_growing_steps_of : List D → Rs D := fnSem p_growing_steps_of 1 4 s_growing_steps_of
theorem F_growing_steps_of_eq (a0 : D) : F_growing_steps_of [a0] = outR (exec p_growing_steps_of s_growing_steps_of [.dat a0, .no, .no, .no]) := fnSem_eq rfl
@[simp] theorem c_growing_steps_of_growing_need_figures (ds : List D) : callF p_growing_steps_of 0 ds = F_growing_need_figures ds := rfl
/-! growing_every_way: 0=number 1=size 2=ends 3=row 4=at 5=later 6=below 7=text 8=rest -/
def p_growing_every_way : Fns := [("", F_numbers_need_number), ("", F_growing_numeral_of), ("", F_growing_row_to)]
def b1_growing_every_way : S := (.cons (.ife (.and (.cmp .ge (.var 8) (.ix (.var 3) (.var 4))) (.fin (.cmp .le (.bin .sub (.var 8) (.ix (.var 3) (.var 4))) (.var 6)))) (.cons (.app 5 (.tup (.cons (.bin .add (.var 7) (.con (.str [49]))) (.cons (.bin .sub (.var 8) (.ix (.var 3) (.var 4))) .nil)))) .nil) .nil) (.cons (.ife (.cmp .le (.var 8) (.var 6)) (.cons (.app 5 (.tup (.cons (.bin .add (.var 7) (.con (.str [48]))) (.cons (.var 8) .nil)))) .nil) .nil) .nil))
def b2_growing_every_way : S := (.cons (.setO 5 (.lst .nil)) (.cons (.set 6 (.blt1 .sum (.sl (.var 3) .nil (.fin (.var 4))))) (.cons (.forS (.tp [7, 8]) (.walk (.var 2)) b1_growing_every_way) (.cons (.dis 5) (.cons (.set 2 (.var 5)) .nil)))))
def s_growing_every_way : S := (.cons (.expr (.call 0 (.cons (.var 0) (.cons (.con (.int 0)) (.cons (.con (.int 2000)) .nil))))) (.cons (.set 1 (.blt1 .len (.call 1 (.cons (.var 0) .nil)))) (.cons (.set 2 (.lst (.cons (.tup (.cons (.con (.str [])) (.cons (.var 0) .nil))) .nil))) (.cons (.set 3 (.call 2 (.cons (.blt2 .max (.con (.int 1)) (.var 0)) .nil))) (.cons (.forS (.nm 4) (.rngd (.bin .sub (.var 1) (.con (.int 1))) (.neg (.con (.int 1))) (.neg (.con (.int 1)))) b2_growing_every_way) (.cons (.ret (.comp (.var 7) (.tp [7, 8]) (.walk (.var 2)) (.fin (.cmp .eq (.var 8) (.con (.int 0)))))) .nil))))))
def F_growing_every_way : List D → Rs D := fnSem p_growing_every_way 1 9 s_growing_every_way
theorem F_growing_every_way_eq (a0 : D) : F_growing_every_way [a0] = outR (exec p_growing_every_way s_growing_every_way [.dat a0, .no, .no, .no, .no, .no, .no, .no, .no]) := fnSem_eq rfl
@[simp] theorem c_growing_every_way_numbers_need_number (ds : List D) : callF p_growing_every_way 0 ds = F_numbers_need_number ds := rfl
@[simp] theorem c_growing_every_way_growing_numeral_of (ds : List D) : callF p_growing_every_way 1 ds = F_growing_numeral_of ds := rfl
@[simp] theorem c_growing_every_way_growing_row_to (ds : List D) : callF p_growing_every_way 2 ds = F_growing_row_to ds := rfl
end Q

set_option Elab.async false
set_option linter.all false
set_option maxRecDepth 100000
set_option maxHeartbeats 4000000
namespace Q
open PySem PySem.Spec PyProof.Rows L2 DN
/-! w_drawn: 0=cell 1=k 2=more -/
def p_w_drawn : Fns := []
def s_w_drawn : S := (.cons (.set 2 (.bin .mod (.bin .add (.bin .mul (.var 0) (.con (.int 6364136223846793005))) (.bin .mul (.bin .add (.var 1) (.con (.int 1))) (.con (.int 1442695040888963407)))) (.con (.int 340282366920938463463374607431768211507)))) (.cons (.set 2 (.bin .mod (.bin .mul (.var 2) (.var 2)) (.con (.int 340282366920938463463374607431768211297)))) (.cons (.set 2 (.bin .mul (.bin .mul (.bin .add (.bin .mod (.var 2) (.con (.int 18446744073709551557))) (.con (.int 1))) (.bin .add (.bin .fdiv (.var 2) (.con (.int 18446744073709551557))) (.con (.int 1)))) (.var 2))) (.cons (.ret (.bin .mod (.var 2) (.con (.int 340282366920938463463374607431768211507)))) .nil))))
def F_w_drawn : List D → Rs D := fnSem p_w_drawn 2 3 s_w_drawn
theorem F_w_drawn_eq (a0 a1 : D) : F_w_drawn [a0, a1] = outR (exec p_w_drawn s_w_drawn [.dat a0, .dat a1, .no]) := fnSem_eq rfl
/-! w_signs: 0=more -/
def p_w_signs : Fns := []
def s_w_signs : S := (.cons (.ret (.ix (.lst (.cons (.con (.str [97, 98])) (.cons (.con (.str [97, 98, 99])) (.cons (.con (.str [48, 49, 50, 51, 52, 53, 54, 55, 56, 57])) (.cons (.con (.str [97, 98, 99, 100, 101, 102, 103, 104, 105, 106, 107, 108, 109, 110, 111, 112, 113, 114, 115, 116, 117, 118, 119, 120, 121, 122])) (.cons (.con (.str [122, 121, 120, 57])) (.cons (.con (.str [49, 48])) .nil))))))) (.bin .mod (.var 0) (.con (.int 6))))) .nil)
def F_w_signs : List D → Rs D := fnSem p_w_signs 1 1 s_w_signs
theorem F_w_signs_eq (a0 : D) : F_w_signs [a0] = outR (exec p_w_signs s_w_signs [.dat a0]) := fnSem_eq rfl
/-! w_cell: 0=script 1=k -/
def p_w_cell : Fns := []
def s_w_cell : S := (.cons (.ife (.cmp .eq (.var 0) (.lst .nil)) (.cons (.ret (.bin .mul (.var 1) (.con (.int 7919)))) .nil) .nil) (.cons (.ret (.bin .add (.ix (.var 0) (.bin .mod (.var 1) (.blt1 .len (.var 0)))) (.bin .mul (.bin .fdiv (.var 1) (.blt1 .len (.var 0))) (.con (.int 104729))))) .nil))
def F_w_cell : List D → Rs D := fnSem p_w_cell 2 2 s_w_cell
theorem F_w_cell_eq (a0 a1 : D) : F_w_cell [a0, a1] = outR (exec p_w_cell s_w_cell [.dat a0, .dat a1]) := fnSem_eq rfl
/-! w_number: 0=more 1=top 2=some -/
def p_w_number : Fns := []
def s_w_number : S := (.cons (.set 1 (.con (.int 1000000000000))) (.cons (.set 2 (.lst (.cons (.bin .mod (.bin .fdiv (.var 0) (.con (.int 8))) (.con (.int 30))) (.cons (.bin .mod (.bin .fdiv (.var 0) (.con (.int 8))) (.con (.int 1000))) (.cons (.bin .mod (.bin .fdiv (.var 0) (.con (.int 8))) (.bin .add (.var 1) (.con (.int 1)))) (.cons (.bin .sub (.var 1) (.bin .mod (.bin .fdiv (.var 0) (.con (.int 8))) (.con (.int 3)))) (.cons (.bin .add (.con (.int 1)) (.bin .mod (.bin .fdiv (.var 0) (.con (.int 8))) (.con (.int 300)))) .nil))))))) (.cons (.ret (.ix (.var 2) (.bin .mod (.var 0) (.con (.int 5))))) .nil)))
def F_w_number : List D → Rs D := fnSem p_w_number 1 3 s_w_number
theorem F_w_number_eq (a0 : D) : F_w_number [a0] = outR (exec p_w_number s_w_number [.dat a0, .no, .no]) := fnSem_eq rfl
/-! w_table: 0=more 1=whole 2=rows 3=worth_here 4=j 5=pairs 6=here 7=low 8=high 9=spot 10=pair -/
def p_w_table : Fns := [("", F_w_drawn)]
def b1_w_table : S := (.cons (.set 3 (.bin .mul (.var 3) (.bin .add (.con (.int 2)) (.bin .mod (.bin .fdiv (.call 0 (.cons (.var 0) (.cons (.var 4) .nil))) (.con (.int 8))) (.ix (.lst (.cons (.con (.int 2)) (.cons (.con (.int 5)) (.cons (.con (.int 8)) .nil)))) (.bin .mod (.var 0) (.con (.int 3)))))))) (.cons (.set 2 (.bin .add (.lst (.cons (.tup (.cons (.ix (.con (.str [98, 99, 100, 101, 102, 103, 104, 105])) (.var 4)) (.cons (.var 3) .nil))) .nil)) (.var 2))) .nil))
def b2_w_table : S := (.cons (.set 6 (.call 0 (.cons (.var 0) (.cons (.bin .add (.con (.int 20)) (.var 4)) .nil)))) (.cons (.set 7 (.bin .add (.con (.int 1)) (.bin .mod (.bin .fdiv (.var 6) (.con (.int 8))) (.bin .sub (.blt1 .len (.var 2)) (.con (.int 1)))))) (.cons (.set 8 (.bin .mod (.bin .fdiv (.var 6) (.con (.int 64))) (.var 7))) (.cons (.app 5 (.bin .add (.ix (.ix (.var 2) (.var 7)) (.con (.int 0))) (.ix (.ix (.var 2) (.var 8)) (.con (.int 0))))) .nil))))
def s_w_table : S := (.cons (.set 1 (.tup (.cons (.tup (.cons (.con (.str [109])) (.cons (.con (.int 1000)) .nil))) (.cons (.tup (.cons (.con (.str [100])) (.cons (.con (.int 500)) .nil))) (.cons (.tup (.cons (.con (.str [99])) (.cons (.con (.int 100)) .nil))) (.cons (.tup (.cons (.con (.str [108])) (.cons (.con (.int 50)) .nil))) (.cons (.tup (.cons (.con (.str [120])) (.cons (.con (.int 10)) .nil))) (.cons (.tup (.cons (.con (.str [118])) (.cons (.con (.int 5)) .nil))) (.cons (.tup (.cons (.con (.str [105])) (.cons (.con (.int 1)) .nil))) .nil))))))))) (.cons (.ife (.cmp .eq (.bin .mod (.var 0) (.con (.int 4))) (.con (.int 0))) (.cons (.ret (.tup (.cons (.var 1) (.cons (.tup (.cons (.con (.str [105, 118])) (.cons (.con (.str [105, 120])) (.cons (.con (.str [120, 108])) (.cons (.con (.str [120, 99])) (.cons (.con (.str [99, 100])) (.cons (.con (.str [99, 109])) .nil))))))) .nil)))) .nil) .nil) (.cons (.ife (.cmp .eq (.bin .mod (.var 0) (.con (.int 4))) (.con (.int 1))) (.cons (.ret (.tup (.cons (.sl (.var 1) (.fin (.bin .mod (.bin .fdiv (.var 0) (.con (.int 8))) (.con (.int 6)))) .nil) (.cons (.tup .nil) .nil)))) .nil) .nil) (.cons (.par [(2, false), (3, false)] (.cons (.lst (.cons (.tup (.cons (.con (.str [97])) (.cons (.con (.int 1)) .nil))) .nil)) (.cons (.con (.int 1)) .nil))) (.cons (.forS (.nm 4) (.rng1 (.bin .mod (.bin .fdiv (.var 0) (.con (.int 8))) (.con (.int 6)))) b1_w_table) (.cons (.setO 5 (.lst .nil)) (.cons (.forS (.nm 4) (.rng1 (.ife (.cmp .gt (.blt1 .len (.var 2)) (.con (.int 1))) (.bin .mod (.bin .fdiv (.var 0) (.con (.int 64))) (.con (.int 5))) (.con (.int 0)))) b2_w_table) (.cons (.dis 5) (.cons (.ret (.tup (.cons (.blt1 .tuple (.var 2)) (.cons (.blt1 .tuple (.comp (.var 10) (.tp [9, 10]) (.enum (.var 5)) (.fin (.cmp .notin (.var 10) (.sl (.var 5) .nil (.fin (.var 9))))))) .nil)))) .nil)))))))))
def F_w_table : List D → Rs D := fnSem p_w_table 1 11 s_w_table
theorem F_w_table_eq (a0 : D) : F_w_table [a0] = outR (exec p_w_table s_w_table [.dat a0, .no, .no, .no, .no, .no, .no, .no, .no, .no, .no]) := fnSem_eq rfl
@[simp] theorem c_w_table_w_drawn (ds : List D) : callF p_w_table 0 ds = F_w_drawn ds := rfl
/-! w_manner: 0=more 1=table 2=taking 3=some -/
def p_w_manner : Fns := [("", F_w_table), ("", F_w_signs)]
def s_w_manner : S := (.cons (.unp [1, 2] (.call 0 (.cons (.bin .fdiv (.var 0) (.con (.int 64))) .nil))) (.cons (.set 3 (.lst (.cons (.tup (.cons (.con (.str [99, 111, 108, 117, 109, 110, 115])) (.cons (.call 1 (.cons (.bin .fdiv (.var 0) (.con (.int 8))) .nil)) .nil))) (.cons (.tup (.cons (.con (.str [97, 100, 100, 105, 110, 103])) (.cons (.var 1) (.cons (.var 2) .nil)))) (.cons (.tup (.cons (.con (.str [101, 118, 101, 110])) (.cons (.ix (.lst (.cons (.con (.int 3)) (.cons (.con (.int 5)) (.cons (.con (.int 7)) (.cons (.con (.int 9)) .nil))))) (.bin .mod (.bin .fdiv (.var 0) (.con (.int 8))) (.con (.int 4)))) .nil))) .nil))))) (.cons (.set 3 (.bin .add (.var 3) (.lst (.cons (.tup (.cons (.con (.str [103, 114, 111, 119, 105, 110, 103])) .nil)) (.cons (.tup (.cons (.con (.str [117, 110, 100, 101, 114])) (.cons (.bin .add (.con (.int 2)) (.bin .mod (.bin .fdiv (.var 0) (.con (.int 8))) (.con (.int 9)))) .nil))) (.cons (.tup (.cons (.con (.str [104, 97, 110, 100, 115])) (.cons (.bin .add (.con (.int 1)) (.bin .mod (.bin .fdiv (.var 0) (.con (.int 8))) (.con (.int 20)))) .nil))) .nil)))))) (.cons (.ret (.ix (.var 3) (.bin .mod (.var 0) (.con (.int 6))))) .nil))))
def F_w_manner : List D → Rs D := fnSem p_w_manner 1 4 s_w_manner
theorem F_w_manner_eq (a0 : D) : F_w_manner [a0] = outR (exec p_w_manner s_w_manner [.dat a0, .no, .no, .no]) := fnSem_eq rfl
@[simp] theorem c_w_manner_w_table (ds : List D) : callF p_w_manner 0 ds = F_w_table ds := rfl
@[simp] theorem c_w_manner_w_signs (ds : List D) : callF p_w_manner 1 ds = F_w_signs ds := rfl
end Q

set_option Elab.async false
set_option linter.all false
set_option maxRecDepth 100000
set_option maxHeartbeats 4000000
namespace Lk50
open PySem PySem.Spec PyProof.Rows L2 DN Q
/-! row: 0=count 1=found -/
def p_row : Fns := []
def b1_row : S := (.cons (.app 1 (.bin .add (.ix (.var 1) (.neg (.con (.int 1)))) (.ix (.var 1) (.neg (.con (.int 2)))))) .nil)
def s_row : S := (.cons (.setO 1 (.lst (.cons (.con (.int 1)) (.cons (.con (.int 2)) .nil)))) (.cons (.whl 1000000000 (.cmp .lt (.blt1 .len (.var 1)) (.var 0)) b1_row) (.cons (.dis 1) (.cons (.ret (.var 1)) .nil))))
def F_row : List D → Rs D := fnSem p_row 1 2 s_row
theorem F_row_eq (a0 : D) : F_row [a0] = outR (exec p_row s_row [.dat a0, .no]) := fnSem_eq rfl
/-! numeral: 0=number 1=found 2=one -/
def p_numeral : Fns := [("", F_row)]
def b1_numeral : S := (.cons (.set 1 (.bin .add (.var 1) (.ife (.cmp .le (.var 2) (.var 0)) (.con (.str [49])) (.con (.str [48]))))) (.cons (.set 0 (.bin .sub (.var 0) (.bin .mul (.var 2) (.blt1 .int (.cmp .le (.var 2) (.var 0)))))) .nil))
def s_numeral : S := (.cons (.set 1 (.con (.str []))) (.cons (.forS (.nm 2) (.walk (.rev (.call 0 (.cons (.con (.int 60)) .nil)))) b1_numeral) (.cons (.ret (.ife (.cmp .isin (.con (.str [49])) (.var 1)) (.mth .lstrip (.var 1) (.con (.str [48]))) (.con (.str [48])))) .nil)))
def F_numeral : List D → Rs D := fnSem p_numeral 1 3 s_numeral
theorem F_numeral_eq (a0 : D) : F_numeral [a0] = outR (exec p_numeral s_numeral [.dat a0, .no, .no]) := fnSem_eq rfl
@[simp] theorem c_numeral_row (ds : List D) : callF p_numeral 0 ds = F_row ds := rfl
/-! worth: 0=text 1=one 2=sign -/
def p_worth : Fns := [("", F_row)]
def s_worth : S := (.cons (.ret (.blt1 .sum (.comp (.var 1) (.tp [1, 2]) (.zip (.call 0 (.cons (.con (.int 60)) .nil)) (.rev (.var 0))) (.fin (.cmp .eq (.var 2) (.con (.str [49]))))))) .nil)
def F_worth : List D → Rs D := fnSem p_worth 1 3 s_worth
theorem F_worth_eq (a0 : D) : F_worth [a0] = outR (exec p_worth s_worth [.dat a0, .no, .no]) := fnSem_eq rfl
@[simp] theorem c_worth_row (ds : List D) : callF p_worth 0 ds = F_row ds := rfl
/-! steps: 0=text 1=row 2=count 3=spot 4=some -/
def p_steps : Fns := []
def b1_steps : S := (.cons (.set 4 (.comp (.var 3) (.nm 3) (.rng1 (.bin .sub (.blt1 .len (.var 1)) (.con (.int 2)))) (.fin (.cmp .eq (.sl (.var 1) (.fin (.var 3)) (.fin (.bin .add (.var 3) (.con (.int 3))))) (.lst (.cons (.con (.str [48])) (.cons (.con (.str [49])) (.cons (.con (.str [49])) .nil)))))))) (.cons (.ife (.cmp .eq (.var 4) (.lst .nil)) (.cons (.ret (.var 2)) .nil) .nil) (.cons (.ssl 1 (.ix (.var 4) (.con (.int 0))) (.bin .add (.ix (.var 4) (.con (.int 0))) (.con (.int 3))) (.lst (.cons (.con (.str [49])) (.cons (.con (.str [48])) (.cons (.con (.str [48])) .nil))))) (.cons (.set 2 (.bin .add (.var 2) (.con (.int 1)))) .nil))))
def s_steps : S := (.cons (.par [(1, true), (2, false)] (.cons (.bin .add (.lst (.cons (.con (.str [48])) .nil)) (.blt1 .list (.var 0))) (.cons (.con (.int 0)) .nil))) (.cons (.whl 1000000000 (.con (.bl true)) b1_steps) .nil))
def F_steps : List D → Rs D := fnSem p_steps 1 5 s_steps
theorem F_steps_eq (a0 : D) : F_steps [a0] = outR (exec p_steps s_steps [.dat a0, .no, .no, .no, .no]) := fnSem_eq rfl
/-! law: 0=script 1=k 2=more 3=j 4=here 5=number 6=text 7=size 8=n 9=signs -/
def p_law : Fns := [("", F_w_drawn), ("", F_w_cell), ("", F_w_number), ("", F_numeral), ("", F_growing_worth), ("", F_growing_read), ("", F_growing_write), ("", F_growing_behind), ("", F_growing_shaped), ("", F_worth), ("", F_growing_steps_of), ("", F_steps)]
def b1_law : S := (.cons (.set 4 (.call 0 (.cons (.var 2) (.cons (.bin .add (.con (.int 10)) (.var 3)) .nil)))) (.cons (.set 5 (.call 2 (.cons (.var 4) .nil))) (.cons (.set 6 (.call 3 (.cons (.var 5) .nil))) (.cons (.ife (.or (.cmp .ne (.call 6 (.cons (.var 5) .nil)) (.var 6)) (.or (.cmp .ne (.call 5 (.cons (.var 6) .nil)) (.var 5)) (.or (.cmp .ne (.call 4 (.cons (.var 6) .nil)) (.var 5)) (.fin (.cmp .isin (.con (.str [49, 49])) (.var 6)))))) (.cons (.ret (.con (.bl false))) .nil) .nil) (.cons (.ife (.and (.cmp .lt (.var 5) (.con (.int 1000000000000))) (.fin (.cmp .ne (.call 7 (.cons (.var 6) .nil)) (.call 3 (.cons (.bin .add (.var 5) (.con (.int 1))) .nil))))) (.cons (.ret (.con (.bl false))) .nil) .nil) (.cons (.set 7 (.bin .add (.con (.int 1)) (.bin .mod (.bin .fdiv (.var 4) (.con (.int 8))) (.con (.int 40))))) (.cons (.set 9 (.mth .join (.con (.str [])) (.comp (.ix (.con (.str [48, 49])) (.bin .mod (.bin .mod (.bin .fdiv (.call 0 (.cons (.var 4) (.cons (.var 8) .nil))) (.con (.int 8))) (.ix (.lst (.cons (.con (.int 2)) (.cons (.con (.int 4)) .nil))) (.bin .mod (.var 4) (.con (.int 2))))) (.con (.int 2)))) (.nm 8) (.rng1 (.var 7)) .nil))) (.cons (.ife (.or (.cmp .ne (.call 4 (.cons (.var 9) .nil)) (.call 9 (.cons (.var 9) .nil))) (.fin (.cmp .ne (.call 8 (.cons (.var 9) .nil)) (.call 3 (.cons (.call 9 (.cons (.var 9) .nil)) .nil))))) (.cons (.ret (.con (.bl false))) .nil) .nil) (.cons (.ife (.or (.cmp .ne (.call 10 (.cons (.var 9) .nil)) (.call 11 (.cons (.var 9) .nil))) (.or (.cmp .ne (.call 10 (.cons (.var 6) .nil)) (.con (.int 0))) (.fin (.cmp .ne (.call 8 (.cons (.var 6) .nil)) (.var 6))))) (.cons (.ret (.con (.bl false))) .nil) .nil) .nil)))))))))
def b2_law : S := (.cons (.set 2 (.call 0 (.cons (.call 1 (.cons (.var 0) (.cons (.var 1) .nil))) (.cons (.var 1) .nil)))) (.cons (.forS (.nm 3) (.rng1 (.con (.int 8))) b1_law) (.cons (.ife (.cmp .ne (.comp (.call 6 (.cons (.var 5) .nil)) (.nm 5) (.rng1 (.con (.int 120))) .nil) (.comp (.call 3 (.cons (.var 5) .nil)) (.nm 5) (.rng1 (.con (.int 120))) .nil)) (.cons (.ret (.con (.bl false))) .nil) .nil) .nil)))
def s_law : S := (.cons (.forS (.nm 1) (.rng1 (.blt2 .max (.con (.int 1)) (.blt2 .min (.con (.int 4)) (.blt1 .len (.var 0))))) b2_law) (.cons (.ret (.con (.bl true))) .nil))
def F_law : List D → Rs D := fnSem p_law 1 10 s_law
theorem F_law_eq (a0 : D) : F_law [a0] = outR (exec p_law s_law [.dat a0, .no, .no, .no, .no, .no, .no, .no, .no, .no]) := fnSem_eq rfl
@[simp] theorem c_law_w_drawn (ds : List D) : callF p_law 0 ds = F_w_drawn ds := rfl
@[simp] theorem c_law_w_cell (ds : List D) : callF p_law 1 ds = F_w_cell ds := rfl
@[simp] theorem c_law_w_number (ds : List D) : callF p_law 2 ds = F_w_number ds := rfl
@[simp] theorem c_law_numeral (ds : List D) : callF p_law 3 ds = F_numeral ds := rfl
@[simp] theorem c_law_growing_worth (ds : List D) : callF p_law 4 ds = F_growing_worth ds := rfl
@[simp] theorem c_law_growing_read (ds : List D) : callF p_law 5 ds = F_growing_read ds := rfl
@[simp] theorem c_law_growing_write (ds : List D) : callF p_law 6 ds = F_growing_write ds := rfl
@[simp] theorem c_law_growing_behind (ds : List D) : callF p_law 7 ds = F_growing_behind ds := rfl
@[simp] theorem c_law_growing_shaped (ds : List D) : callF p_law 8 ds = F_growing_shaped ds := rfl
@[simp] theorem c_law_worth (ds : List D) : callF p_law 9 ds = F_worth ds := rfl
@[simp] theorem c_law_growing_steps_of (ds : List D) : callF p_law 10 ds = F_growing_steps_of ds := rfl
@[simp] theorem c_law_steps (ds : List D) : callF p_law 11 ds = F_steps ds := rfl
end Lk50

set_option Elab.async false
set_option linter.all false
set_option maxRecDepth 100000
set_option maxHeartbeats 4000000
namespace Q
open PySem PySem.Spec PyProof.Rows L2 DN
theorem szL_ge : 1000000 ≤ szL := by decide
theorem drawn_ok (c k : Int) : ∃ r : Int, F_w_drawn [.int c, .int k] = .ok (.int r) ∧ 0 ≤ r ∧ r < 340282366920938463463374607431768211507 := by
  rw [F_w_drawn_eq]
  unfold s_w_drawn
  simp
  have h1 := Int.emod_nonneg (c * 6364136223846793005 + (k + 1) * 1442695040888963407) (show (340282366920938463463374607431768211507 : Int) ≠ 0 by decide)
  have h2 := Int.emod_lt_of_pos (c * 6364136223846793005 + (k + 1) * 1442695040888963407) (show (0 : Int) < 340282366920938463463374607431768211507 by decide)
  generalize (c * 6364136223846793005 + (k + 1) * 1442695040888963407) % 340282366920938463463374607431768211507 = A at h1 h2 ⊢
  rw [mulOk_m (i := A) (j := A) (by omega) (by omega)]
  simp
  have h3 := Int.emod_nonneg (A * A) (show (340282366920938463463374607431768211297 : Int) ≠ 0 by decide)
  have h4 := Int.emod_lt_of_pos (A * A) (show (0 : Int) < 340282366920938463463374607431768211297 by decide)
  generalize A * A % 340282366920938463463374607431768211297 = B at h3 h4 ⊢
  have h5 := Int.emod_nonneg B (show (18446744073709551557 : Int) ≠ 0 by decide)
  have h6 := Int.emod_lt_of_pos B (show (0 : Int) < 18446744073709551557 by decide)
  have h7 : 0 ≤ B / 18446744073709551557 := by omega
  have h8 : B / 18446744073709551557 < 36893488147419103232 := by omega
  rw [mulOk_l (i := B % 18446744073709551557 + 1) (by omega) (by omega)]
  simp
  rw [mulOk_m (j := B) ?_ (by omega)]
  · simp
    exact ⟨Int.emod_nonneg _ (by decide), Int.emod_lt_of_pos _ (by decide)⟩
  · rw [Int.natAbs_mul]
    exact Nat.lt_of_le_of_lt (Nat.mul_le_mul (show _ ≤ 2 ^ 64 by omega) (show _ ≤ 2 ^ 66 by omega)) (by decide)
/-- a drawn number -/
def dr (c k : Int) : Int := match F_w_drawn [.int c, .int k] with
  | .ok (.int r) => r
  | _ => 0
@[simp] theorem dr_ok (c k : Int) : F_w_drawn [.int c, .int k] = .ok (.int (dr c k)) := by
  obtain ⟨r, e, _⟩ := drawn_ok c k
  unfold dr
  rw [e]
theorem dr_b (c k : Int) : 0 ≤ dr c k ∧ dr c k < 340282366920938463463374607431768211507 := by
  obtain ⟨r, e, h⟩ := drawn_ok c k
  unfold dr
  rw [e]
  exact h
theorem cell_ok {ns : List Int} {k : Int} (hn : ns.length ≤ 63) : ∃ r : Int, F_w_cell [.scr ns, .int k] = .ok (.int r) := by
  rw [F_w_cell_eq]
  unfold s_w_cell
  by_cases e : ns = []
  · simp [e]
  · have hl : 0 < ns.length := List.length_pos_iff.mpr e
    obtain ⟨x, hx, _⟩ := atI_some (l := ns) (i := k % ns.length) (Int.emod_nonneg _ (by omega)) (Int.emod_lt_of_pos _ (by omega))
    have hd : divOk (ns.length : Int) = true := divOk_of (by omega) (by omega)
    simp [e, hl, hx, hd]
/-- a number of the law's -/
def nb (m : Int) : Int := ([m / 8 % 30, m / 8 % 1000, m / 8 % 1000000000001, 1000000000000 - m / 8 % 3, 1 + m / 8 % 300] : List Int).getD (m % 5).toNat 0
theorem nb_b (m : Int) : 0 ≤ nb m ∧ nb m ≤ 1000000000000 := by
  unfold nb
  have : (m % 5).toNat = 0 ∨ (m % 5).toNat = 1 ∨ (m % 5).toNat = 2 ∨ (m % 5).toNat = 3 ∨ (m % 5).toNat = 4 := by omega
  rcases this with h | h | h | h | h <;> rw [h] <;> simp <;> omega
@[simp] theorem nb_ok (m : Int) : F_w_number [.int m] = .ok (.int (nb m)) := by
  rw [F_w_number_eq]
  unfold s_w_number
  have hz : 5 ≤ szL := by decide
  have ha : atI [D.int (m / 8 % 30), .int (m / 8 % 1000), .int (m / 8 % 1000000000001), .int (1000000000000 - m / 8 % 3), .int (1 + m / 8 % 300)] (m % 5) = some (.int (nb m)) := by
    rw [atI_in (by omega) (by simp; omega)]
    unfold nb
    have : (m % 5).toNat = 0 ∨ (m % 5).toNat = 1 ∨ (m % 5).toNat = 2 ∨ (m % 5).toNat = 3 ∨ (m % 5).toNat = 4 := by omega
    rcases this with h | h | h | h | h <;> rw [h] <;> rfl
  simp [hz, ha]
/-- how often the law's loop turns -/
theorem turns_ev {p : Fns} {ρ : En} {ns : List Int} {k : Int} (hk : 1 ≤ k) (hk2 : k ≤ 100) (h : ρ[0]? = some (.dat (.scr ns))) :
    ∃ m : Int, 1 ≤ m ∧ m ≤ k ∧ ev p (.rng1 (.blt2 .max (.con (.int 1)) (.blt2 .min (.con (.int k)) (.blt1 .len (.var 0))))) ρ = .ok (.tup (rgL 0 m)) := by
  have e : getO ρ 0 = .ok (.scr ns) := by unfold getO; rw [h]
  refine ⟨if (if (ns.length : Int) < k then (ns.length : Int) else k) > 1 then (if (ns.length : Int) < k then (ns.length : Int) else k) else 1, ?_, ?_, ?_⟩
  · split <;> omega
  · split <;> split <;> omega
  · have hr : rgOk 0 (if (if (ns.length : Int) < k then (ns.length : Int) else k) > 1 then (if (ns.length : Int) < k then (ns.length : Int) else k) else 1) = true := rgOk_of (by omega) (by omega) (by split <;> split <;> omega) (by split <;> split <;> omega)
    have hr' : rgOk 0 (if 1 < (if (ns.length : Int) < k then (ns.length : Int) else k) then (if (ns.length : Int) < k then (ns.length : Int) else k) else 1) = true := hr
    simp [e, hr']
/-- the frame of a law: a loop over cells, then True -/
theorem law_frame {p : Fns} {b : S} {ns : List Int} {k : Int} (hk : 1 ≤ k) (hk2 : k ≤ 100) (n : Nat)
    (hb : ∀ (j : Int) (l : List Sl), 0 ≤ j → j < k → l.length = n → ∃ l' : List Sl, l'.length = n + 1 ∧ (exec p b (.dat (.scr ns) :: .dat (.int j) :: l) = .nx (.dat (.scr ns) :: l') ∨ exec p b (.dat (.scr ns) :: .dat (.int j) :: l) = .ct (.dat (.scr ns) :: l')))
    (l : List Sl) (hl : l.length = n + 1) :
    exec p (.cons (.forS (.nm 1) (.rng1 (.blt2 .max (.con (.int 1)) (.blt2 .min (.con (.int k)) (.blt1 .len (.var 0))))) b) (.cons (.ret (.con (.bl true))) .nil)) (.dat (.scr ns) :: l) = .rt (.bl true) := by
  obtain ⟨m, h1, h2, e⟩ := turns_ev (p := p) (ρ := .dat (.scr ns) :: l) (ns := ns) hk hk2 rfl
  obtain ⟨ρ', e2, _⟩ := forL_rg (b := exec p b) (i := 1) (fun ρ => ∃ l : List Sl, l.length = n + 1 ∧ ρ = .dat (.scr ns) :: l) 0 m (.dat (.scr ns) :: l) ⟨l, hl, rfl⟩ (fun j hj hj2 ρ ⟨l, hl, el⟩ => by
    subst el
    match l, hl with
    | x :: l, hl =>
      obtain ⟨l', hl', e⟩ := hb j l hj (by omega) (by simpa using hl)
      exact ⟨_, e, l', hl', rfl⟩)
  rw [ex_for _ e e2]
  exact ex_ret _ (by simp)
end Q

set_option Elab.async false
set_option linter.all false
set_option maxRecDepth 100000
set_option maxHeartbeats 4000000
namespace Q
open PySem PySem.Spec PyProof.Rows L2 DN
/-- a whole number between two bounds -/
def isCnt (d : D) (a b : Int) : Bool := match d with
  | .int t => decide (a ≤ t ∧ t ≤ b)
  | _ => false
@[simp] theorem isCnt_int (t a b : Int) : isCnt (.int t) a b = decide (a ≤ t ∧ t ≤ b) := (rfl)
@[simp] theorem is_count_ok (d : D) (a b : Int) : F_numbers_is_count [d, .int a, .int b] = .ok (.bl (isCnt d a b)) := by
  rw [F_numbers_is_count_eq]
  unfold s_numbers_is_count
  cases d <;> simp [isiSem, isCnt]
theorem need_number_eq (d : D) (a b : Int) : F_numbers_need_number [d, .int a, .int b] = if isCnt d a b then .ok .non else .exc "BadNumber" := by
  rw [F_numbers_need_number_eq]
  unfold s_numbers_need_number
  by_cases h : isCnt d a b = true
  · simp [h]
  · simp [h]
theorem need_number_ok {t a b : Int} (h : a ≤ t ∧ t ≤ b) : F_numbers_need_number [.int t, .int a, .int b] = .ok .non := by
  rw [need_number_eq]
  simp [h]
end Q

set_option Elab.async false
set_option linter.all false
set_option maxRecDepth 100000
namespace Gr
/-- the row -/
def fb : Nat → Int
  | 0 => 1
  | 1 => 2
  | n + 2 => fb (n + 1) + fb n
theorem fb_add (n : Nat) : fb (n + 2) = fb (n + 1) + fb n := rfl
theorem fb_pos : ∀ n, 0 < fb n
  | 0 => by decide
  | 1 => by decide
  | n + 2 => by rw [fb_add]; have := fb_pos (n + 1); have := fb_pos n; omega
theorem fb_lt : ∀ n, fb n < fb (n + 1)
  | 0 => by decide
  | n + 1 => by rw [fb_add]; have := fb_pos n; omega
theorem fb_dbl : ∀ n, fb (n + 1) ≤ 2 * fb n
  | 0 => by decide
  | n + 1 => by rw [fb_add]; have := fb_lt n; omega
theorem fb_le {a b : Nat} (h : a ≤ b) : fb a ≤ fb b := by
  induction h with
  | refl => exact Int.le_refl _
  | step _ ih => exact Int.le_trans ih (Int.le_of_lt (fb_lt _))
theorem fb_nat : ∀ n : Nat, (n : Int) < fb n
  | 0 => by decide
  | n + 1 => by have := fb_nat n; have := fb_lt n; omega
theorem fb58 : (1000000000001 : Int) < fb 58 := by decide +kernel
/-- what figures come to -/
def wl : List Nat → Int
  | [] => 0
  | c :: l => (if c = 49 then fb l.length else 0) + wl l
def bin (l : List Nat) : Prop := ∀ c ∈ l, c = 48 ∨ c = 49
theorem bin.t {c : Nat} {l : List Nat} (h : bin (c :: l)) : bin l := fun x hx => h x (List.mem_cons_of_mem _ hx)
theorem bin.h {c : Nat} {l : List Nat} (h : bin (c :: l)) : c = 48 ∨ c = 49 := h c List.mem_cons_self
theorem bin.mk {c : Nat} {l : List Nat} (h : c = 48 ∨ c = 49) (h' : bin l) : bin (c :: l) := fun x hx => (List.mem_cons.mp hx).elim (fun e => e ▸ h) (h' x)
theorem wl0 (l : List Nat) : wl (48 :: l) = wl l := by simp [wl]
theorem wl1 (l : List Nat) : wl (49 :: l) = fb l.length + wl l := by simp [wl]
theorem wl_nn : ∀ l, 0 ≤ wl l
  | [] => by simp [wl]
  | c :: l => by
    have := wl_nn l
    have := fb_pos l.length
    simp only [wl]
    split <;> omega
theorem wl_le : ∀ l, wl l ≤ fb (l.length + 1) - 2
  | [] => by decide
  | c :: l => by
    have := wl_le l
    have := fb_pos l.length
    simp only [wl, List.length_cons]
    rw [fb_add]
    split <;> omega
/-- the greatest taken, at so many places -/
def gr : Nat → Int → List Nat
  | 0, _ => []
  | k + 1, n => if fb k ≤ n then 49 :: gr k (n - fb k) else 48 :: gr k n
theorem gr_len : ∀ (k : Nat) (n : Int), (gr k n).length = k
  | 0, _ => rfl
  | k + 1, n => by simp only [gr]; split <;> simp [gr_len k]
theorem gr_bin : ∀ (k : Nat) (n : Int), bin (gr k n)
  | 0, _ => fun _ h => by cases h
  | k + 1, n => by
    simp only [gr]
    split
    · exact bin.mk (.inr rfl) (gr_bin k _)
    · exact bin.mk (.inl rfl) (gr_bin k _)
theorem gr_wl : ∀ (k : Nat) (n : Int), 0 ≤ n → n < fb k → wl (gr k n) = n
  | 0, n, h, h2 => by
    have : fb 0 = 1 := rfl
    simp only [gr, wl]; omega
  | k + 1, n, h, h2 => by
    simp only [gr]
    split
    · rename_i c
      have := fb_dbl k
      rw [wl1, gr_len, gr_wl k _ (by omega) (by omega)]
      omega
    · rename_i c
      rw [wl0, gr_wl k _ h (by omega)]
/-- no two ones side by side -/
def z : List Nat → Prop
  | [] => True
  | [_] => True
  | c :: d :: l => ¬ (c = 49 ∧ d = 49) ∧ z (d :: l)
theorem z.t {c : Nat} {l : List Nat} (h : z (c :: l)) : z l := by
  cases l with
  | nil => trivial
  | cons d l => exact h.2
theorem z_zero {l : List Nat} (h : z l) : z (48 :: l) := by
  cases l with
  | nil => trivial
  | cons d l => exact ⟨fun e => by omega, h⟩
theorem gr_z : ∀ (k : Nat) (n : Int), 0 ≤ n → n < fb k → z (gr k n)
  | 0, n, _, _ => trivial
  | 1, n, _, _ => by simp only [gr]; split <;> trivial
  | k + 2, n, h, h2 => by
    rw [gr]
    split
    · rename_i c
      have e := fb_add k
      have e2 := fb_lt k
      have : gr (k + 1) (n - fb (k + 1)) = 48 :: gr k (n - fb (k + 1)) := by
        rw [gr, if_neg (by omega)]
      have q := gr_z (k + 1) (n - fb (k + 1)) (by omega) (by omega)
      rw [this] at q ⊢
      exact ⟨fun e => by omega, q⟩
    · exact z_zero (gr_z (k + 1) n h (by omega))
theorem z_lt : ∀ l, bin l → z l → wl l < fb l.length
  | [], _, _ => by decide
  | [c], h, _ => by
    rcases h.h with rfl | rfl <;> decide
  | c :: d :: l, h, hz => by
    have i1 := z_lt (d :: l) h.t hz.t
    have i2 := z_lt l h.t.t hz.t.t
    have e : fb (l.length + 1 + 1) = fb (l.length + 1) + fb l.length := rfl
    have e2 := fb_lt (l.length + 1)
    simp only [List.length_cons] at i1 ⊢
    rcases h.h with rfl | rfl
    · rw [wl0]; omega
    · rcases h.t.h with rfl | rfl
      · rw [wl1, wl0]; simp only [List.length_cons]; omega
      · exact absurd ⟨rfl, rfl⟩ hz.1
theorem z_gr : ∀ l, bin l → z l → gr l.length (wl l) = l
  | [], _, _ => rfl
  | c :: l, h, hz => by
    have i := z_gr l h.t hz.t
    have n := wl_nn l
    simp only [List.length_cons, gr]
    rcases h.h with rfl | rfl
    · rw [wl0, if_neg (by have := z_lt l h.t hz.t; omega), i]
    · rw [wl1, if_pos (by omega), show fb l.length + wl l - fb l.length = wl l by omega, i]
theorem gr_pad {k : Nat} {n : Int} (h2 : n < fb k) : ∀ j, gr (k + j) n = List.replicate j 48 ++ gr k n
  | 0 => rfl
  | j + 1 => by
    show gr (k + j + 1) n = _
    have := fb_le (show k ≤ k + j by omega)
    rw [gr, if_neg (by omega), gr_pad h2 j, List.replicate_succ]
    rfl
/-- noughts ahead go -/
def sp (l : List Nat) : List Nat := l.dropWhile fun k => k == 48
def nz (l : List Nat) : List Nat := if sp l = [] then [48] else sp l
theorem sp0 (l : List Nat) : sp (48 :: l) = sp l := by simp [sp]
theorem sp1 (l : List Nat) : sp (49 :: l) = 49 :: l := by simp [sp]
theorem nz0 (l : List Nat) : nz (48 :: l) = nz l := by unfold nz; rw [sp0]
theorem nz1 (l : List Nat) : nz (49 :: l) = 49 :: l := by unfold nz; rw [sp1]; simp
theorem nz_rep (l : List Nat) : ∀ j, nz (List.replicate j 48 ++ l) = nz l
  | 0 => rfl
  | j + 1 => by rw [List.replicate_succ]; exact (nz0 _).trans (nz_rep l j)
theorem nz_gr {a b : Nat} {n : Int} (ha : n < fb a) (hb : n < fb b) : nz (gr a n) = nz (gr b n) := by
  rcases Nat.le_total a b with h | h
  · obtain ⟨j, rfl⟩ := Nat.exists_eq_add_of_le h
    rw [gr_pad ha, nz_rep]
  · obtain ⟨j, rfl⟩ := Nat.exists_eq_add_of_le h
    rw [gr_pad hb, nz_rep]
/-- a number's numeral -/
def nm (n : Int) : List Nat := nz (gr 60 n)
theorem sp_nil : ∀ {l}, bin l → (sp l = [] ↔ 49 ∉ l)
  | [], _ => by simp [sp]
  | c :: l, h => by
    rcases h.h with rfl | rfl
    · rw [sp0, sp_nil h.t]; simp
    · rw [sp1]; simp
theorem nz_prop {l : List Nat} (h : bin l) (hz : z l) : bin (nz l) ∧ z (nz l) ∧ wl (nz l) = wl l ∧ 1 ≤ (nz l).length ∧ ((nz l).length ≤ l.length ∨ (nz l).length = 1) ∧ nz (nz l) = nz l := by
  induction l with
  | nil => exact ⟨fun c hc => by simp [nz, sp] at hc; omega, trivial, by decide, by decide, .inr rfl, by decide⟩
  | cons c l ih =>
    obtain ⟨a1, a2, a3, a4, a5, a6⟩ := ih h.t hz.t
    rcases h.h with rfl | rfl
    · rw [nz0, wl0]
      exact ⟨a1, a2, a3, a4, a5.imp (fun q => by simp; omega) id, a6⟩
    · rw [nz1]
      exact ⟨h, hz, rfl, by simp, .inl (Nat.le_refl _), nz1 l⟩
theorem nm_prop {n : Int} (h : 0 ≤ n) (h2 : n ≤ 1000000000001) : bin (nm n) ∧ z (nm n) ∧ wl (nm n) = n ∧ 1 ≤ (nm n).length ∧ (nm n).length ≤ 60 ∧ nz (nm n) = nm n := by
  have h3 : n < fb 60 := by have := fb58; have := fb_le (show 58 ≤ 60 by omega); omega
  obtain ⟨a1, a2, a3, a4, a5, a6⟩ := nz_prop (gr_bin 60 n) (gr_z 60 n h h3)
  rw [gr_wl 60 n h h3] at a3
  rw [gr_len] at a5
  exact ⟨a1, a2, a3, a4, by unfold nm; omega, a6⟩
theorem nm_lead {n : Int} {m : Nat} (h1 : fb m ≤ n) (h2 : n < fb (m + 1)) (h3 : n < fb 60) : nm n = gr (m + 1) n := by
  unfold nm
  rw [nz_gr h3 h2, gr, if_pos h1, nz1]
theorem nm_zero : nm 0 = [48] := by
  unfold nm
  rw [nz_gr (b := 0) (by have := fb_pos 60; omega) (by decide)]
  rfl
/-- 011 becomes 100, from the left -/
def st : List Nat → Option (List Nat)
  | [] => none
  | c :: l => if (c :: l).take 3 = [48, 49, 49] then some (49 :: 48 :: 48 :: l.drop 2) else (st l).map (c :: ·)
theorem st_at : ∀ (x : List Nat) (i : Nat), (x.drop i).take 3 = [48, 49, 49] → (∀ j < i, (x.drop j).take 3 ≠ [48, 49, 49]) → st x = some (x.take i ++ [49, 48, 48] ++ x.drop (i + 3))
  | [], i, h, _ => by simp at h
  | c :: l, 0, h, _ => by
    rw [st, if_pos (by simpa using h)]
    simp
  | c :: l, i + 1, h, hj => by
    rw [st, if_neg (by simpa using hj 0 (by omega)), st_at l i (by simpa using h) (fun j hj' => by simpa using hj (j + 1) (by omega))]
    simp
theorem st_none : ∀ (x : List Nat), (∀ j, (x.drop j).take 3 ≠ [48, 49, 49]) → st x = none
  | [], _ => rfl
  | c :: l, h => by
    rw [st, if_neg (by simpa using h 0), st_none l fun j => by simpa using h (j + 1)]
    rfl
theorem st_prop : ∀ {x y : List Nat}, st x = some y → y.length = x.length ∧ wl y = wl x ∧ y.count 49 + 1 = x.count 49 ∧ (bin x → bin y)
  | [], y, h => by simp [st] at h
  | c :: l, y, h => by
    rw [st] at h
    split at h
    · rename_i q
      match l, q with
      | d :: e :: l, q =>
        simp at q
        obtain ⟨rfl, rfl, rfl⟩ := q
        cases h
        simp only [List.drop_succ_cons, List.drop_zero]
        refine ⟨rfl, ?_, by simp, fun b => bin.mk (.inr rfl) (bin.mk (.inl rfl) (bin.mk (.inl rfl) b.t.t.t))⟩
        rw [wl1, wl0, wl0, wl0, wl1, wl1]
        have : fb (l.length + 1 + 1) = fb (l.length + 1) + fb l.length := rfl
        simp only [List.length_cons]
        omega
      | [], q => simp at q
      | [d], q => simp at q
    · cases hs : st l with
      | none => rw [hs] at h; cases h
      | some w =>
        rw [hs] at h
        cases h
        obtain ⟨a1, a2, a3, a4⟩ := st_prop hs
        refine ⟨by simp [a1], by simp only [wl, a1, a2], ?_, fun b => bin.mk b.h (a4 b.t)⟩
        rw [List.count_cons, List.count_cons]
        omega
theorem st_z : ∀ {x : List Nat}, bin x → st x = none → x.take 2 ≠ [49, 49] → z x
  | [], _, _, _ => trivial
  | [c], _, _, _ => trivial
  | c :: d :: l, b, h, h2 => by
    rw [st] at h
    split at h
    · cases h
    · rename_i q
      have h' : st (d :: l) = none := by
        cases hs : st (d :: l) with
        | none => rfl
        | some w => rw [hs] at h; cases h
      refine ⟨fun e => h2 (by simp [e]), st_z b.t h' fun e => ?_⟩
      rcases b.h with rfl | rfl
      · apply q
        match l, e with
        | e1 :: l, e =>
          simp at e ⊢
          exact e
        | [], e => simp at e
      · apply h2
        have : d = 49 := by
          match l, e with
          | e1 :: l, e => simp at e; exact e.1
          | [], e => simp at e
        simp [this]
theorem z_st : ∀ {x : List Nat}, z x → st x = none
  | [], _ => rfl
  | c :: l, h => by
    rw [st, if_neg, z_st h.t]
    · rfl
    · intro q
      match l, q, h with
      | d :: e :: l, q, h =>
        simp at q
        exact h.2.1 ⟨q.2.1, q.2.2⟩
      | [], q, _ => simp at q
      | [d], q, _ => simp at q
/-- all steps -/
def fx : Nat → List Nat → List Nat
  | 0, x => x
  | n + 1, x => match st x with
    | none => x
    | some y => fx n y
def cn : Nat → List Nat → Nat
  | 0, _ => 0
  | n + 1, x => match st x with
    | none => 0
    | some y => cn n y + 1
theorem fx_n {n : Nat} {x : List Nat} (h : st x = none) : fx n x = x ∧ cn n x = 0 := by
  cases n with
  | zero => exact ⟨rfl, rfl⟩
  | succ n => simp [fx, cn, h]
theorem fx_s {n : Nat} {x y : List Nat} (h : st x = some y) : fx (n + 1) x = fx n y ∧ cn (n + 1) x = cn n y + 1 := by
  simp [fx, cn, h]
theorem fx_prop : ∀ (n : Nat) (x : List Nat), x.count 49 ≤ n → bin x → st (fx n x) = none ∧ (fx n x).length = x.length ∧ wl (fx n x) = wl x ∧ (fx n x).count 49 + cn n x = x.count 49 ∧ bin (fx n x)
  | 0, x, h, b => by
    have : st x = none := by
      cases hs : st x with
      | none => rfl
      | some y => have := (st_prop hs).2.2.1; omega
    exact ⟨this, rfl, rfl, rfl, b⟩
  | n + 1, x, h, b => by
    cases hs : st x with
    | none =>
      obtain ⟨e1, e2⟩ := fx_n (n := n + 1) hs
      rw [e1, e2]
      exact ⟨hs, rfl, rfl, rfl, b⟩
    | some y =>
      obtain ⟨a1, a2, a3, a4⟩ := st_prop hs
      obtain ⟨e1, e2⟩ := fx_s (n := n) hs
      obtain ⟨b1, b2, b3, b4, b5⟩ := fx_prop n y (by omega) (a4 b)
      rw [e1, e2]
      exact ⟨b1, by omega, by omega, by omega, b5⟩
theorem fx_gr {n : Nat} {s : List Nat} (b : bin s) (h : s.count 49 ≤ n) : fx n (48 :: s) = gr (s.length + 1) (wl s) ∧ wl s < fb (s.length + 1) := by
  obtain ⟨a1, a2, a3, a4, a5⟩ := fx_prop n (48 :: s) (by simpa using h) (bin.mk (.inl rfl) b)
  rw [wl0] at a3
  have hz : z (fx n (48 :: s)) := by
    refine st_z a5 a1 fun e => ?_
    match hx : fx n (48 :: s), e with
    | c :: d :: l, e =>
      simp at e
      obtain ⟨rfl, rfl⟩ := e
      rw [hx] at a2 a3
      rw [wl1, wl1] at a3
      simp only [List.length_cons] at a2 a3
      have := wl_le s
      have := wl_nn l
      have e : fb (l.length + 1 + 1) = fb (l.length + 1) + fb l.length := rfl
      have q : s.length = l.length + 1 := by omega
      have r : fb (s.length + 1) = fb (l.length + 1 + 1) := by rw [q]
      omega
    | [], e => simp at e
    | [c], e => simp at e
  have := z_gr _ a5 hz
  rw [a2, a3] at this
  have l := z_lt _ a5 hz
  rw [a2, a3] at l
  exact ⟨by rw [← this]; rfl, l⟩
/-- shaped: the numeral -/
theorem fx_nm {n : Nat} {s : List Nat} (b : bin s) (h : s.count 49 ≤ n) (h2 : wl s < fb 60) : nz (fx n (48 :: s)) = nm (wl s) := by
  obtain ⟨e, l⟩ := fx_gr b h
  rw [e]
  exact nz_gr l h2
end Gr

set_option Elab.async false
set_option linter.all false
set_option maxRecDepth 100000
set_option maxHeartbeats 4000000
namespace Q
open PySem PySem.Spec PyProof.Rows L2 DN
/-! ### texts within texts -/
theorem in_sub {x y : List Nat} (hx : 2 ≤ x.length) : cmpSem .isin (.str x) (.str y) = some (subIdx y x).isSome := by
  have e : cmpSem .isin (.str x) (.str y) = some (!(Builtin.Str.occurrences ⟨y.toArray⟩ ⟨x.toArray⟩ 0 y.length 1).isEmpty) := by
    match x, hx with
    | a :: b :: x, _ => rfl
  rw [e]
  congr 1
  cases h : subIdx y x with
  | some i =>
    obtain ⟨r, q⟩ := subIdx_occ h
    rw [str_len] at q
    rw [q]
    rfl
  | none =>
    have q : Builtin.Str.occurrences ⟨y.toArray⟩ ⟨x.toArray⟩ 0 y.length 1 = [] := by
      rcases StrLaws.occ_head ⟨y.toArray⟩ ⟨x.toArray⟩ 1 (Nat.le_refl 1) with ⟨q, _⟩ | ⟨j, r, e, ha, hn⟩
      · rw [str_len] at q; exact q
      · exfalso
        obtain ⟨a1, a2⟩ := ha
        rw [subAt_mk] at a2
        rw [str_len, str_len] at a1
        unfold subIdx at h
        rw [List.find?_eq_none] at h
        exact h j (List.mem_range.mpr (by omega)) a2
    rw [q]
    rfl
theorem sub_st {x : List Nat} {i : Nat} (h : subIdx x [48, 49, 49] = some i) : Gr.st x = some (x.take i ++ [49, 48, 48] ++ x.drop (i + 3)) ∧ i + 3 ≤ x.length := by
  unfold subIdx at h
  rw [List.find?_range_eq_some] at h
  obtain ⟨h1, h2, h3⟩ := h
  rw [List.mem_range] at h2
  simp only [List.length_cons, List.length_nil, Nat.zero_add, decide_eq_true_eq, Bool.not_eq_true', decide_eq_false_iff_not] at h1 h2 h3
  exact ⟨Gr.st_at x i h1 h3, by omega⟩
theorem sub_no {x : List Nat} (h : subIdx x [48, 49, 49] = none) : Gr.st x = none := by
  unfold subIdx at h
  rw [List.find?_eq_none] at h
  refine Gr.st_none x fun j q => ?_
  have hl : ((x.drop j).take 3).length = 3 := by rw [q]; rfl
  rw [List.length_take, List.length_drop] at hl
  exact h j (List.mem_range.mpr (by simp; omega)) (by simpa using q)
theorem z_no11 : ∀ {x : List Nat} (i : Nat), Gr.z x → (x.drop i).take 2 ≠ [49, 49]
  | [], i, _ => by simp
  | c :: l, 0, h => by
    intro q
    match l, q, h with
    | d :: l, q, h =>
      simp at q
      exact h.1 q
    | [], q, _ => simp at q
  | c :: l, i + 1, h => by simpa using z_no11 i h.t
theorem z_in11 {x : List Nat} (h : Gr.z x) : subIdx x [49, 49] = none := by
  unfold subIdx
  rw [List.find?_eq_none]
  intro i _ q
  simp only [List.length_cons, List.length_nil, Nat.zero_add, decide_eq_true_eq] at q
  exact z_no11 i h q
/-! ### the row -/
def rowL (m : Nat) : List D := (List.range m).map fun i => .int (Gr.fb i)
theorem rowL_len (m : Nat) : (rowL m).length = m := by simp [rowL]
theorem rowL_get {m i : Nat} (h : i < m) : (rowL m)[i]? = some (.int (Gr.fb i)) := by simp [rowL, h]
theorem rowL_succ (m : Nat) : rowL (m + 1) = rowL m ++ [.int (Gr.fb m)] := by simp [rowL, List.range_succ]
theorem atI_neg {α : Type} (xs : List α) {k : Nat} (h0 : 0 < k) (h : k ≤ xs.length) : atI xs (-(k : Int)) = xs[xs.length - k]? := by
  unfold atI ixN
  rw [if_neg (by omega), if_pos (by omega)]
  show xs[(-(k : Int) + xs.length).toNat]? = _
  congr 1
  omega
theorem row_at1 (m : Nat) : atI (rowL (m + 2)) (-1) = some (.int (Gr.fb (m + 1))) := by
  have := atI_neg (rowL (m + 2)) (k := 1) (by omega) (by rw [rowL_len]; omega)
  rw [show (-1 : Int) = -((1 : Nat) : Int) from rfl, this, rowL_len, show m + 2 - 1 = m + 1 by omega, rowL_get (by omega)]
theorem row_at2 (m : Nat) : atI (rowL (m + 2)) (-2) = some (.int (Gr.fb m)) := by
  have := atI_neg (rowL (m + 2)) (k := 2) (by omega) (by rw [rowL_len]; omega)
  rw [show (-2 : Int) = -((2 : Nat) : Int) from rfl, this, rowL_len, show m + 2 - 2 = m by omega, rowL_get (by omega)]
theorem row_loop (n : Int) (x : Sl) : ∀ (N m : Nat), n < Gr.fb (m + 2 + N) → n < 10000000000000 → m ≤ 70 → ∃ k, n < Gr.fb (k + 2) ∧ k ≤ 70 ∧
    whlL (ev p_growing_row_to (.cmp .le (.bin .add (.ix (.var 1) (.neg (.con (.int 1)))) (.ix (.var 1) (.neg (.con (.int 2))))) (.var 0))) (exec p_growing_row_to b1_growing_row_to) (N + 1) [.dat (.int n), .own (.lst (rowL (m + 2))), x] = .nx [.dat (.int n), .own (.lst (rowL (k + 2))), x]
  | N, m, h, hm, h7 => by
    have e1 := row_at1 m
    have e2 := row_at2 m
    by_cases c : Gr.fb (m + 1) + Gr.fb m ≤ n
    · match N, h with
      | 0, h => rw [Nat.add_zero, Gr.fb_add] at h; omega
      | N + 1, h =>
        have hb : m < 70 := by
          rcases Nat.lt_or_ge m 70 with q | q
          · exact q
          · have := Gr.fb_le q
            have h70 : (10000000000000 : Int) < Gr.fb 70 := by decide +kernel
            have := Gr.fb_pos (m + 1)
            omega
        obtain ⟨k, h1, h2, ih⟩ := row_loop n x N (m + 1) (by rw [show m + 1 + 2 + N = m + 2 + (N + 1) by omega]; exact h) hm (by omega)
        refine ⟨k, h1, h2, ?_⟩
        rw [whl_t (by simp [e1, e2, c]) (show exec _ b1_growing_row_to _ = .nx [.dat (.int n), .own (.lst (rowL (m + 1 + 2))), x] from ?_), ih]
        unfold b1_growing_row_to
        have hz : (rowL (m + 2)).length < szL := by
          have := szL_ge
          rw [rowL_len]
          omega
        rw [ex_app (rowL (m + 2)) (.int (Gr.fb (m + 2))) rfl (by simp [e1, e2, Gr.fb_add]) hz, exec_nil_s]
        simp [rowL_succ (m + 2)]
    · refine ⟨m, by rw [Gr.fb_add]; omega, h7, ?_⟩
      rw [whl_f (by simp [e1, e2, c])]
theorem fb60 : (10000000000000 : Int) < Gr.fb 70 := by decide +kernel
theorem fil_row {n : Int} : ∀ (m k : Nat), (∀ i, i < k → Gr.fb i ≤ n) → n < Gr.fb k → k ≤ m → (List.range m).filter (fun i => decide (Gr.fb i ≤ n)) = List.range k
  | 0, k, _, _, h => by
    have : k = 0 := by omega
    subst this
    rfl
  | m + 1, k, h1, h2, h => by
    rw [List.range_succ, List.filter_append]
    by_cases q : k = m + 1
    · subst q
      rw [List.filter_eq_self.mpr fun i hi => by
        have := List.mem_range.mp hi
        exact decide_eq_true (h1 i (by omega))]
      rw [List.filter_cons_of_pos (by exact decide_eq_true (h1 m (by omega)))]
      simp [List.range_succ]
    · have := Gr.fb_le (show k ≤ m by omega)
      rw [fil_row m k h1 h2 (by omega), List.filter_cons_of_neg (by simp; omega)]
      simp
theorem fb_find {n : Int} (h0 : 0 ≤ n) : ∀ m : Nat, n < Gr.fb m → ∃ k, k ≤ m ∧ (∀ i, i < k → Gr.fb i ≤ n) ∧ n < Gr.fb k
  | 0, h => ⟨0, Nat.le_refl _, fun i hi => by omega, h⟩
  | m + 1, h => by
    by_cases c : n < Gr.fb m
    · obtain ⟨k, h1, h2⟩ := fb_find h0 m c
      exact ⟨k, by omega, h2⟩
    · exact ⟨m + 1, Nat.le_refl _, fun i hi => by have := Gr.fb_le (show i ≤ m by omega); omega, h⟩
theorem row_to_ok {n : Int} (h0 : 0 ≤ n) (h : n ≤ 1000000000001) : ∃ k, k ≤ 58 ∧ (∀ i, i < k → Gr.fb i ≤ n) ∧ n < Gr.fb k ∧ F_growing_row_to [.int n] = .ok (.lst (rowL k)) := by
  have h58 := Gr.fb58
  obtain ⟨k, k1, k2, k3⟩ := fb_find h0 58 (by omega)
  refine ⟨k, k1, k2, k3, ?_⟩
  rw [F_growing_row_to_eq]
  unfold s_growing_row_to
  obtain ⟨m, m1, m2, em⟩ := row_loop n .no 999999999 0 (by have := Gr.fb_le (show 58 ≤ 0 + 2 + 999999999 by omega); omega) (by omega) (by omega)
  have hm : k ≤ m + 2 := by
    rcases Nat.lt_or_ge (m + 2) k with q | q
    · have := k2 _ q; omega
    · exact q
  have h2 : 2 ≤ szL := by decide
  rw [ex_setO (rowL 2) (by simp [h2]; rfl)]
  simp only [List.set_cons_succ, List.set_cons_zero]
  rw [ex_whl em, ex_dis (.lst (rowL (m + 2))) rfl]
  simp only [List.set_cons_succ, List.set_cons_zero]
  rw [ex_ret (.lst (rowL k)) ?_]
  · rfl
  · have hz := szL_ge
    have := evmF (fns := p_growing_row_to) (e := .var 2) (it := .walk (.var 1)) (c := .cmp .le (.var 2) (.var 0)) (i := 2) (ρ := [.dat (.int n), .dat (.lst (rowL (m + 2))), .no]) (xs := List.range (m + 2)) (fun i => .int (Gr.fb i)) (fun i => decide (Gr.fb i ≤ n)) (fun i => .int (Gr.fb i)) (by simp [asItems]; rfl) (by simp; omega) (fun i _ => ⟨by simp, fun _ => by simp⟩)
    rw [this, fil_row _ _ k2 k3 hm]
    rfl
/-! ### a number's numeral -/
theorem numeral_loop (z : List Nat → List D) : ∀ (k : Nat) (n : Int) (acc : List Nat) (x : Sl), acc.length + k ≤ 1000 →
    ∃ y w, forL (.nm 2) (exec p_growing_numeral_of b1_growing_numeral_of) ((rowL k).reverse) [.dat (.int n), .dat (.str acc), x] = .nx [.dat (.int w), .dat (.str (acc ++ Gr.gr k n)), y]
  | 0, n, acc, x, _ => ⟨x, n, by simp [rowL, Gr.gr]⟩
  | k + 1, n, acc, x, h => by
    have hz : acc.length + 1 ≤ szL := by have := szL_ge; omega
    rw [rowL_succ, List.reverse_append, List.reverse_singleton, List.singleton_append]
    by_cases c : Gr.fb k ≤ n
    · obtain ⟨y, w, ih⟩ := numeral_loop z k (n - Gr.fb k) (acc ++ [49]) (.dat (.int (Gr.fb k))) (by simp; omega)
      refine ⟨y, w, ?_⟩
      rw [forL_nx rfl (show exec _ b1_growing_numeral_of _ = .nx [.dat (.int (n - Gr.fb k)), .dat (.str (acc ++ [49])), .dat (.int (Gr.fb k))] by simp [b1_growing_numeral_of, c, hz]), ih]
      simp [Gr.gr, c]
    · obtain ⟨y, w, ih⟩ := numeral_loop z k n (acc ++ [48]) (.dat (.int (Gr.fb k))) (by simp; omega)
      refine ⟨y, w, ?_⟩
      rw [forL_nx rfl (show exec _ b1_growing_numeral_of _ = .nx [.dat (.int n), .dat (.str (acc ++ [48])), .dat (.int (Gr.fb k))] by simp [b1_growing_numeral_of, c, hz]), ih]
      simp [Gr.gr, c]
theorem numeral_ok {n : Int} (h0 : 0 ≤ n) (h : n ≤ 1000000000001) : F_growing_numeral_of [.int n] = .ok (.str (Gr.nm n)) := by
  rw [F_growing_numeral_of_eq]
  unfold s_growing_numeral_of
  by_cases e : n = 0
  · subst e
    simp [Gr.nm_zero]
  · obtain ⟨k, k1, k2, k3, er⟩ := row_to_ok h0 h
    obtain ⟨y, w, el⟩ := numeral_loop (fun _ => []) k n [] .no (by simp; omega)
    have hk : ∃ m, k = m + 1 := by
      cases k with
      | zero => have : Gr.fb 0 = 1 := rfl; omega
      | succ m => exact ⟨m, rfl⟩
    obtain ⟨m, rfl⟩ := hk
    rw [ex_skip (by simp [e]), ex_set (.str []) (by simp)]
    simp only [List.set_cons_succ, List.set_cons_zero]
    rw [ex_for _ (by simp [er]) el, ex_ret (.str (Gr.gr (m + 1) n)) (by simp), Gr.nm_lead (k2 m (by omega)) k3 (by have := Gr.fb58; have := Gr.fb_le (show 58 ≤ 60 by omega); omega)]
    rfl
theorem write_ok {n : Int} (h0 : 0 ≤ n) (h : n ≤ 1000000000000) : F_growing_write [.int n] = .ok (.str (Gr.nm n)) := by
  rw [F_growing_write_eq]
  unfold s_growing_write
  simp [need_number_eq, h0, h, numeral_ok h0 (by omega)]
/-! ### what figures come to -/
theorem worth_loop : ∀ (l : List Nat) (r : List D) (a s : Sl), ∃ s',
    forL (.nm 4) (exec p_growing_worth_of b1_growing_worth_of) ((l.reverse.map fun c => D.str [c]) ++ r) [a, .dat (.int 0), .dat (.int 1), .dat (.int 2), s] = forL (.nm 4) (exec p_growing_worth_of b1_growing_worth_of) r [a, .dat (.int (Gr.wl l)), .dat (.int (Gr.fb l.length)), .dat (.int (Gr.fb (l.length + 1))), s']
  | [], r, a, s => ⟨s, rfl⟩
  | c :: l, r, a, s => by
    obtain ⟨s', ih⟩ := worth_loop l (.str [c] :: r) a s
    refine ⟨.dat (.str [c]), ?_⟩
    rw [List.reverse_cons, List.map_append, List.append_assoc]
    refine ih.trans ?_
    by_cases e : c = 49
    · subst e
      rw [forL_nx rfl (show exec _ b1_growing_worth_of _ = .nx [a, .dat (.int (Gr.wl (49 :: l))), .dat (.int (Gr.fb (l.length + 1))), .dat (.int (Gr.fb (l.length + 1 + 1))), .dat (.str [49])] from ?_)]
      · rfl
      · unfold b1_growing_worth_of
        rw [ex_set (.int (Gr.wl (49 :: l))) (by simp [Gr.wl]; omega)]
        show exec _ _ [a, .dat (.int (Gr.wl (49 :: l))), .dat (.int (Gr.fb l.length)), .dat (.int (Gr.fb (l.length + 1))), .dat (.str [49])] = _
        rw [ex_par (ρ' := [a, .dat (.int (Gr.wl (49 :: l))), .dat (.int (Gr.fb (l.length + 1))), .dat (.int (Gr.fb (l.length + 1 + 1))), .dat (.str [49])]) [.int (Gr.fb (l.length + 1)), .int (Gr.fb (l.length + 1 + 1))] (by simp; rw [Gr.fb_add]; omega) rfl, exec_nil_s]
    · rw [forL_nx rfl (show exec _ b1_growing_worth_of _ = .nx [a, .dat (.int (Gr.wl (c :: l))), .dat (.int (Gr.fb (l.length + 1))), .dat (.int (Gr.fb (l.length + 1 + 1))), .dat (.str [c])] from ?_)]
      · rfl
      · unfold b1_growing_worth_of
        rw [ex_set (.int (Gr.wl (c :: l))) (by simp [Gr.wl, e])]
        show exec _ _ [a, .dat (.int (Gr.wl (c :: l))), .dat (.int (Gr.fb l.length)), .dat (.int (Gr.fb (l.length + 1))), .dat (.str [c])] = _
        rw [ex_par (ρ' := [a, .dat (.int (Gr.wl (c :: l))), .dat (.int (Gr.fb (l.length + 1))), .dat (.int (Gr.fb (l.length + 1 + 1))), .dat (.str [c])]) [.int (Gr.fb (l.length + 1)), .int (Gr.fb (l.length + 1 + 1))] (by simp; rw [Gr.fb_add]; omega) rfl, exec_nil_s]
theorem worth_of_ok (l : List Nat) : F_growing_worth_of [.str l] = .ok (.int (Gr.wl l)) := by
  rw [F_growing_worth_of_eq]
  unfold s_growing_worth_of
  obtain ⟨s', e⟩ := worth_loop l [] (.dat (.str l)) .no
  rw [List.append_nil, forL_nil] at e
  rw [ex_par (ρ' := [.dat (.str l), .dat (.int 0), .dat (.int 1), .dat (.int 2), .no]) [.int 0, .int 1, .int 2] (by simp) rfl, ex_for _ (by simp only [ev_walk_s]; simp [revSem, asItems]) e, ex_ret (.int (Gr.wl l)) (by simp)]
  rfl
/-- right figures -/
structure Fig (l : List Nat) : Prop where
  b : Gr.bin l
  l1 : 1 ≤ l.length
  l2 : l.length ≤ 60
  w : Gr.wl l ≤ 1000000000000
theorem need_fig {l : List Nat} (h : Fig l) : F_growing_need_figures [.str l] = .ok .non := by
  rw [F_growing_need_figures_eq]
  unfold s_growing_need_figures
  have hz := szL_ge
  have hl := h.l2
  have h1 := h.l1
  have hw := h.w
  have e := evm (fns := p_growing_need_figures) (e := .cmp .isin (.var 1) (.con (.str [48, 49]))) (it := .walk (.var 0)) (i := 1) (ρ := [.dat (.str l), .no, .no]) (xs := l) (fun c => .str [c]) (fun c => .bl (decide (c ∈ [48, 49]))) (by simp [asItems]) (by omega) (fun c _ => by simp)
  have ha : (l.all fun c => decide (c ∈ [48, 49])) = true := List.all_eq_true.mpr fun c hc => decide_eq_true (by have := h.b c hc; simp; exact this)
  rw [ex_set (.bl true) ?_]
  · simp only [List.set_cons_succ, List.set_cons_zero]
    rw [ex_skip (by simp [worth_of_ok]; omega), exec_nil_s]
    rfl
  · rw [ev_andT (by simp [isiSem]), ev_andT (by simp; omega), ev_fin_s, ev_blt1_s, opd_comp, e, Rs.bind_ok, b_allM, ha]
    rfl
theorem worth_ok {l : List Nat} (h : Fig l) : F_growing_worth [.str l] = .ok (.int (Gr.wl l)) := by
  rw [F_growing_worth_eq]
  unfold s_growing_worth
  simp [need_fig h, worth_of_ok]
theorem nm_fig {n : Int} (h0 : 0 ≤ n) (h : n ≤ 1000000000000) : Fig (Gr.nm n) := by
  obtain ⟨a1, a2, a3, a4, a5, a6⟩ := Gr.nm_prop h0 (by omega)
  exact ⟨a1, a4, a5, by omega⟩
theorem nm_wl {n : Int} (h0 : 0 ≤ n) (h : n ≤ 1000000000000) : Gr.wl (Gr.nm n) = n := (Gr.nm_prop h0 (by omega)).2.2.1
theorem read_ok {n : Int} (h0 : 0 ≤ n) (h : n ≤ 1000000000000) : F_growing_read [.str (Gr.nm n)] = .ok (.int n) := by
  rw [F_growing_read_eq]
  unfold s_growing_read
  simp [need_fig (nm_fig h0 h), worth_of_ok, nm_wl h0 h, numeral_ok h0 (by omega)]
theorem behind_ok {n : Int} (h0 : 0 ≤ n) (h : n < 1000000000000) : F_growing_behind [.str (Gr.nm n)] = .ok (.str (Gr.nm (n + 1))) := by
  rw [F_growing_behind_eq]
  unfold s_growing_behind
  have h1 : 0 ≤ n + 1 := by omega
  have h2 : n + 1 ≤ 1000000000000 := by omega
  simp [read_ok h0 (by omega), need_number_eq, h1, h2, numeral_ok h1 (by omega)]
end Q

set_option Elab.async false
set_option linter.all false
set_option maxRecDepth 100000
set_option maxHeartbeats 4000000
namespace Q
open PySem PySem.Spec PyProof.Rows L2 DN
theorem st_len {x y : List Nat} (h : Gr.st x = some y) : y.length = x.length := (Gr.st_prop h).1
theorem shaped_loop (o : Sl) : ∀ (N : Nat) (x : List Nat) (a : Sl), x.count 49 ≤ N → x.length ≤ 1000 → ∃ a',
    whlL (ev p_growing_shaped (.cmp .isin (.con (.str [48, 49, 49])) (.var 1))) (exec p_growing_shaped b1_growing_shaped) (N + 1) [o, .dat (.str x), a] = .nx [o, .dat (.str (Gr.fx N x)), a']
  | N, x, a, h, hl => by
    have hi := in_sub (x := [48, 49, 49]) (y := x) (by simp)
    cases hs : subIdx x [48, 49, 49] with
    | none =>
      rw [hs] at hi
      refine ⟨a, ?_⟩
      rw [whl_f (by simp [hi]), (Gr.fx_n (sub_no hs)).1]
    | some i =>
      rw [hs] at hi
      obtain ⟨e, h3⟩ := sub_st hs
      have hp := Gr.st_prop e
      have hc := hp.2.2.1
      match N, h with
      | 0, h => omega
      | N + 1, h =>
        have hz := szL_ge
        obtain ⟨a', ih⟩ := shaped_loop o N (x.take i ++ [49, 48, 48] ++ x.drop (i + 3)) (.dat (.int (i : Nat))) (by omega) (by rw [hp.1]; exact hl)
        refine ⟨a', ?_⟩
        rw [whl_t (by simp [hi]) (show exec _ b1_growing_shaped _ = .nx [o, .dat (.str (x.take i ++ [49, 48, 48] ++ x.drop (i + 3))), .dat (.int (i : Nat))] from ?_), ih, (Gr.fx_s e).1]
        unfold b1_growing_shaped
        rw [ex_set (.int (i : Nat)) (by simp [hs])]
        show exec _ _ [o, .dat (.str x), .dat (.int (i : Nat))] = _
        have c1 : cutL x none (some (i : Int)) = x.take i := by rw [cut_to x (by omega)]; simp
        have c2 : cutL x (some ((i : Int) + 3)) none = x.drop (i + 3) := by rw [cut_from x (by omega)]; congr 1
        have z1 : min i x.length + 3 ≤ szL := by omega
        have z2 : min i x.length + 3 + (x.length - (i + 3)) ≤ szL := by omega
        rw [ex_set (.str (x.take i ++ [49, 48, 48] ++ x.drop (i + 3))) ?_, exec_nil_s]
        · rfl
        · simp [c1, c2, z1, z2]
theorem steps_loop (o : Sl) : ∀ (N : Nat) (x : List Nat) (k : Int) (a : Sl), x.count 49 ≤ N → x.length ≤ 1000 → ∃ a',
    whlL (ev p_growing_steps_of (.cmp .isin (.con (.str [48, 49, 49])) (.var 1))) (exec p_growing_steps_of b1_growing_steps_of) (N + 1) [o, .dat (.str x), .dat (.int k), a] = .nx [o, .dat (.str (Gr.fx N x)), .dat (.int (k + Gr.cn N x)), a']
  | N, x, k, a, h, hl => by
    have hi := in_sub (x := [48, 49, 49]) (y := x) (by simp)
    cases hs : subIdx x [48, 49, 49] with
    | none =>
      rw [hs] at hi
      refine ⟨a, ?_⟩
      rw [whl_f (by simp [hi]), (Gr.fx_n (sub_no hs)).1, (Gr.fx_n (sub_no hs)).2]
      simp
    | some i =>
      rw [hs] at hi
      obtain ⟨e, h3⟩ := sub_st hs
      have hp := Gr.st_prop e
      have hc := hp.2.2.1
      match N, h with
      | 0, h => omega
      | N + 1, h =>
        have hz := szL_ge
        obtain ⟨a', ih⟩ := steps_loop o N (x.take i ++ [49, 48, 48] ++ x.drop (i + 3)) (k + 1) (.dat (.int (i : Nat))) (by omega) (by rw [hp.1]; exact hl)
        refine ⟨a', ?_⟩
        rw [whl_t (by simp [hi]) (show exec _ b1_growing_steps_of _ = .nx [o, .dat (.str (x.take i ++ [49, 48, 48] ++ x.drop (i + 3))), .dat (.int (k + 1)), .dat (.int (i : Nat))] from ?_), ih, (Gr.fx_s e).1, (Gr.fx_s e).2]
        · have q : k + 1 + (Gr.cn N (x.take i ++ [49, 48, 48] ++ x.drop (i + 3)) : Nat) = k + ((Gr.cn N (x.take i ++ [49, 48, 48] ++ x.drop (i + 3)) + 1 : Nat) : Int) := by omega
          rw [q]
        · unfold b1_growing_steps_of
          rw [ex_set (.int (i : Nat)) (by simp [hs])]
          show exec _ _ [o, .dat (.str x), .dat (.int k), .dat (.int (i : Nat))] = _
          have c1 : cutL x none (some (i : Int)) = x.take i := by rw [cut_to x (by omega)]; simp
          have c2 : cutL x (some ((i : Int) + 3)) none = x.drop (i + 3) := by rw [cut_from x (by omega)]; congr 1
          have z1 : min i x.length + 3 ≤ szL := by omega
          have z2 : min i x.length + 3 + (x.length - (i + 3)) ≤ szL := by omega
          rw [ex_set (.str (x.take i ++ [49, 48, 48] ++ x.drop (i + 3))) (by simp [c1, c2, z1, z2])]
          show exec _ _ [o, .dat (.str (x.take i ++ [49, 48, 48] ++ x.drop (i + 3))), .dat (.int k), .dat (.int (i : Nat))] = _
          rw [ex_set (.int (k + 1)) (by simp), exec_nil_s]
          rfl
theorem wl60 {l : List Nat} (h : Fig l) : Gr.wl l < Gr.fb 60 := by
  have := h.w
  have := Gr.fb58
  have := Gr.fb_le (show 58 ≤ 60 by omega)
  omega
theorem shaped_ok {l : List Nat} (h : Fig l) : F_growing_shaped [.str l] = .ok (.str (Gr.nm (Gr.wl l))) := by
  rw [F_growing_shaped_eq]
  unfold s_growing_shaped
  have hl := h.l2
  have hc : l.count 49 ≤ 999999999 := by have := List.count_le_length (a := 49) (l := l); omega
  have hz : 1 + l.length ≤ szL := by have := szL_ge; omega
  obtain ⟨a', e⟩ := shaped_loop (.dat (.str l)) 999999999 (48 :: l) .no (by simpa using hc) (by simp; omega)
  have en := Gr.fx_nm h.b hc (wl60 h)
  rw [ex_expr .non (by simp [need_fig h]), ex_set (.str (48 :: l)) (by simp [hz])]
  show outR (exec _ _ [.dat (.str l), .dat (.str (48 :: l)), .no]) = _
  rw [ex_whl e, ex_set (.str (Gr.sp (Gr.fx 999999999 (48 :: l)))) (by simp [Gr.sp])]
  show outR (exec _ _ [.dat (.str l), .dat (.str (Gr.sp (Gr.fx 999999999 (48 :: l)))), a']) = _
  rw [ex_ret (.str (Gr.nm (Gr.wl l))) ?_]
  · rfl
  · rw [← en]
    unfold Gr.nz
    by_cases q : Gr.sp (Gr.fx 999999999 (48 :: l)) = []
    · simp [q]
    · simp [q]
theorem steps_ok {l : List Nat} (h : Fig l) : F_growing_steps_of [.str l] = .ok (.int (Gr.cn 999999999 (48 :: l) : Nat)) := by
  rw [F_growing_steps_of_eq]
  unfold s_growing_steps_of
  have hl := h.l2
  have hc : l.count 49 ≤ 999999999 := by have := List.count_le_length (a := 49) (l := l); omega
  have hz : 1 + l.length ≤ szL := by have := szL_ge; omega
  obtain ⟨a', e⟩ := steps_loop (.dat (.str l)) 999999999 (48 :: l) 0 .no (by simpa using hc) (by simp; omega)
  rw [ex_expr .non (by simp [need_fig h]), ex_par (ρ' := [.dat (.str l), .dat (.str (48 :: l)), .dat (.int 0), .no]) [.str (48 :: l), .int 0] (by simp [hz]) rfl, ex_whl e, ex_ret (.int (Gr.cn 999999999 (48 :: l) : Nat)) (by simp)]
  rfl
theorem nm_steps {n : Int} (h0 : 0 ≤ n) (h : n ≤ 1000000000000) : Gr.cn 999999999 (48 :: Gr.nm n) = 0 := (Gr.fx_n (Gr.z_st (Gr.z_zero (Gr.nm_prop h0 (by omega)).2.1))).2
end Q

set_option Elab.async false
set_option linter.all false
set_option maxRecDepth 100000
set_option maxHeartbeats 4000000
namespace Lk50
open PySem PySem.Spec PyProof.Rows L2 DN Q
/-! ### the law's own row, numeral, worth -/
theorem rowloop (K : Nat) : ∀ (N m : Nat), m + N = 58 →
    whlL (ev p_row (.cmp .lt (.blt1 .len (.var 1)) (.var 0))) (exec p_row b1_row) (N + K + 1) [.dat (.int 60), .own (.lst (rowL (m + 2)))] = .nx [.dat (.int 60), .own (.lst (rowL 60))]
  | 0, m, h => by
    have : m = 58 := by omega
    subst this
    rw [whl_f (by simp [rowL_len])]
  | N + 1, m, h => by
    have e1 := row_at1 m
    have e2 := row_at2 m
    have hz : (rowL (m + 2)).length < szL := by
      have := szL_ge
      rw [rowL_len]
      omega
    rw [show N + 1 + K + 1 = N + K + 1 + 1 by omega, whl_t (by simp [rowL_len]; omega) (show exec _ b1_row _ = .nx [.dat (.int 60), .own (.lst (rowL (m + 1 + 2)))] from ?_), rowloop K N (m + 1) (by omega)]
    unfold b1_row
    rw [ex_app (rowL (m + 2)) (.int (Gr.fb (m + 2))) rfl (by simp [e1, e2, Gr.fb_add]) hz, exec_nil_s]
    simp [rowL_succ (m + 2)]
theorem row_ok : F_row [.int 60] = .ok (.lst (rowL 60)) := by
  rw [F_row_eq]
  unfold s_row
  have h2 : 2 ≤ szL := by decide
  have e := rowloop 999999941 58 0 rfl
  rw [ex_setO (rowL 2) (by simp [h2]; rfl)]
  simp only [List.set_cons_succ, List.set_cons_zero]
  rw [ex_whl e, ex_dis (.lst (rowL 60)) rfl]
  simp only [List.set_cons_succ, List.set_cons_zero]
  rw [ex_ret (.lst (rowL 60)) (by simp)]
  rfl
theorem num_loop : ∀ (k : Nat) (n : Int) (acc : List Nat) (x : Sl), acc.length + k ≤ 1000 →
    ∃ y w, forL (.nm 2) (exec p_numeral b1_numeral) ((rowL k).reverse) [.dat (.int n), .dat (.str acc), x] = .nx [.dat (.int w), .dat (.str (acc ++ Gr.gr k n)), y]
  | 0, n, acc, x, _ => ⟨x, n, by simp [rowL, Gr.gr]⟩
  | k + 1, n, acc, x, h => by
    have hz : acc.length + 1 ≤ szL := by have := szL_ge; omega
    rw [rowL_succ, List.reverse_append, List.reverse_singleton, List.singleton_append]
    by_cases c : Gr.fb k ≤ n
    · obtain ⟨y, w, ih⟩ := num_loop k (n - Gr.fb k) (acc ++ [49]) (.dat (.int (Gr.fb k))) (by simp; omega)
      refine ⟨y, w, ?_⟩
      rw [forL_nx rfl (show exec _ b1_numeral _ = .nx [.dat (.int (n - Gr.fb k)), .dat (.str (acc ++ [49])), .dat (.int (Gr.fb k))] by simp [b1_numeral, c, hz]), ih]
      simp [Gr.gr, c]
    · obtain ⟨y, w, ih⟩ := num_loop k n (acc ++ [48]) (.dat (.int (Gr.fb k))) (by simp; omega)
      refine ⟨y, w, ?_⟩
      rw [forL_nx rfl (show exec _ b1_numeral _ = .nx [.dat (.int n), .dat (.str (acc ++ [48])), .dat (.int (Gr.fb k))] by simp [b1_numeral, c, hz]), ih]
      simp [Gr.gr, c]
theorem num_ok (n : Int) : F_numeral [.int n] = .ok (.str (Gr.nm n)) := by
  rw [F_numeral_eq]
  unfold s_numeral
  obtain ⟨y, w, el⟩ := num_loop 60 n [] .no (by simp)
  rw [List.nil_append] at el
  rw [ex_set (.str []) (by simp)]
  simp only [List.set_cons_succ, List.set_cons_zero]
  rw [ex_for (rowL 60).reverse (by simp [row_ok]) el, ex_ret (.str (Gr.nm n)) ?_]
  · rfl
  · have hb := Gr.sp_nil (Gr.gr_bin 60 n)
    unfold Gr.nm Gr.nz
    by_cases q : 49 ∈ Gr.gr 60 n
    · have : Gr.sp (Gr.gr 60 n) ≠ [] := fun e => hb.mp e q
      rw [if_neg this]
      simp [q, Gr.sp]
    · rw [if_pos (hb.mpr q)]
      simp [q]
theorem zipD_map {α β : Type} (f : α → D) (g : β → D) : ∀ (a : List α) (b : List β), zipD (a.map f) (b.map g) = (a.zip b).map fun p => .tup [f p.1, g p.2]
  | [], _ => by simp [zipD]
  | _ :: _, [] => by simp [zipD]
  | x :: a, y :: b => by simp [zipD, zipD_map f g a b]
theorem zip_range {k : Nat} (r : List Nat) (h : r.length ≤ k) : (List.range k).zip r = (List.range r.length).map fun i => (i, r.getD i 0) := by
  apply List.ext_getElem
  · simp; omega
  · intro i h1 h2
    have h3 : i < r.length := by simpa using h2
    simp [h3]
theorem sum_wl : ∀ l : List Nat, ((((List.range l.reverse.length).map fun i => (i, l.reverse.getD i 0)).filter fun p => decide (p.2 = 49)).map fun p => Gr.fb p.1).sum = Gr.wl l
  | [] => rfl
  | c :: l => by
    have ih := sum_wl l
    rw [List.reverse_cons, List.length_append, List.length_singleton, List.range_succ, List.map_append, List.filter_append, List.map_append, List.sum_append]
    have e : ((List.range l.reverse.length).map fun i => (i, (l.reverse ++ [c]).getD i 0)) = (List.range l.reverse.length).map fun i => (i, l.reverse.getD i 0) := by
      apply List.map_congr_left
      intro i hi
      have := List.mem_range.mp hi
      simp only [List.getD_eq_getElem?_getD, List.getElem?_append_left this]
    rw [e, ih]
    have e2 : (l.reverse ++ [c]).getD l.reverse.length 0 = c := by simp
    rw [Gr.wl]
    simp only [List.map_cons, List.map_nil, e2]
    by_cases q : c = 49
    · simp [q]; omega
    · simp [q]
theorem wor_ok {l : List Nat} (h : l.length ≤ 60) : F_worth [.str l] = .ok (.int (Gr.wl l)) := by
  rw [F_worth_eq]
  unfold s_worth
  have hz := szL_ge
  have e := evmTF (fns := p_worth) (e := .var 1) (it := .zip (.call 0 (.cons (.con (.int 60)) .nil)) (.rev (.var 0))) (c := .cmp .eq (.var 2) (.con (.str [49]))) (is := [1, 2]) (ρ := [.dat (.str l), .no, .no]) (xs := (List.range l.reverse.length).map fun i => (i, l.reverse.getD i 0)) (fun p => .tup [.int (Gr.fb p.1), .str [p.2]]) (fun p => decide (p.2 = 49)) (fun p => .int (Gr.fb p.1)) (by
    rw [← zip_range (k := 60) _ (by simpa using h), ← zipD_map (fun i : Nat => .int (Gr.fb i)) (fun c : Nat => .str [c])]
    simp only [ev_zip_s, ev_call_s, ev_cons_s, ev_con_s, ev_nil_s, Rs.bind_ok, asL_s, c_worth_row, row_ok, asItems_l, ev_rev_s, opd_s]
    rw [getO_s _ _ (.str l) rfl]
    simp only [Rs.bind_ok, revSem_s, Rs.of_some, asItems_s]
    rfl) (by simp; omega) (fun p _ => ⟨_, rfl, by simp, fun _ => by simp⟩)
  rw [ex_ret (.int (Gr.wl l)) ?_]
  · rfl
  · rw [ev_blt1_s, opd_comp, e, Rs.bind_ok, b_sumM, sum_wl]
    rfl
/-! ### the law's own steps -/
def sg (x : List Nat) : List D := x.map fun c => .str [c]
theorem sg_len (x : List Nat) : (sg x).length = x.length := by simp [sg]
theorem sg_eq (a b : List Nat) : cmpSem .eq (.lst (sg a)) (.lst (sg b)) = some (decide (a = b)) := by
  have e : ∀ x, sg x = (x.map fun c => [c]).map .str := fun x => by simp [sg]
  rw [e, e, cs_eqLS]
  congr 1
  apply decide_eq_decide.mpr
  exact List.map_inj_right (fun a b h => by simpa using h)
theorem sg_cut (x : List Nat) (i : Nat) : cutL (sg x) (some (i : Int)) (some ((i : Int) + 3)) = sg ((x.drop i).take 3) := by
  rw [cut_mid _ (by omega) (by omega)]
  have : ((i : Int) + 3).toNat = i + 3 := by omega
  rw [this, List.drop_take, show i + 3 - (i : Int).toNat = 3 by omega]
  simp [sg]
theorem whl_rt {c : En → Rs D} {b : En → Out} {n : Nat} {ρ : En} {d : D} (h : c ρ = .ok (.bl true)) (h2 : b ρ = .rt d) : whlL c b (n + 1) ρ = .rt d := by
  rw [whlL, h]
  simp only [Rs.bind_ok, asB_s, onR_ok, if_true, h2]
theorem steps_loop (o : Sl) : ∀ (N : Nat) (x : List Nat) (k : Int) (s3 s4 : Sl), x.count 49 ≤ N → x.length ≤ 1000 →
    whlL (ev p_steps (.con (.bl true))) (exec p_steps b1_steps) (N + 1) [o, .own (.lst (sg x)), .dat (.int k), s3, s4] = .rt (.int (k + Gr.cn N x))
  | N, x, k, s3, s4, h, hl => by
    have hz := szL_ge
    have hr : rgOk 0 ((x.length : Int) - 2) = true := rgOk_of (by omega) (by omega) (by omega) (by omega)
    have hc : ev p_steps (.comp (.var 3) (.nm 3) (.rng1 (.bin .sub (.blt1 .len (.var 1)) (.con (.int 2)))) (.fin (.cmp .eq (.sl (.var 1) (.fin (.var 3)) (.fin (.bin .add (.var 3) (.con (.int 3))))) (.lst (.cons (.con (.str [48])) (.cons (.con (.str [49])) (.cons (.con (.str [49])) .nil))))))) [o, .own (.lst (sg x)), .dat (.int k), s3, s4] = .ok (.lst (((List.range (x.length + 1 - 3)).filter fun i => decide ((x.drop i).take 3 = [48, 49, 49])).map fun i : Nat => .int i)) := by
      refine evmF (fun i : Nat => .int i) _ _ ?_ (by simp; omega) ?_
      · simp [sg_len, hr]
        unfold rgL
        rw [show ((x.length : Int) - 2 - 0).toNat = x.length + 1 - 3 by omega]
        simp
      · intro i _
        refine ⟨?_, fun _ => by simp⟩
        have h3 : 3 ≤ szL := by omega
        refine ev_cmpO (d := .lst (sg ((x.drop i).take 3))) (d' := .lst (sg [48, 49, 49])) ?_ ?_ (sg_eq _ _)
        · have := sg_cut x i
          simp [this]
        · simp [h3]; rfl
    cases hs : (List.range (x.length + 1 - 3)).filter fun i => decide ((x.drop i).take 3 = [48, 49, 49]) with
    | nil =>
      rw [hs] at hc
      have hn : subIdx x [48, 49, 49] = none := by
        unfold subIdx
        rw [List.find?_eq_none]
        intro i hi
        exact List.filter_eq_nil_iff.mp hs i hi
      rw [whl_rt (ev_con_s _ _ _) (show exec _ b1_steps _ = .rt (.int k) from ?_), (Gr.fx_n (sub_no hn)).2]
      · simp
      · unfold b1_steps
        rw [ex_set (.lst []) hc]
        simp only [List.set_cons_succ, List.set_cons_zero]
        rw [ex_then (by simp [show cmpSem .eq (.lst []) (.lst []) = some true from rfl]), ex_in]
        exact ex_ret _ (by simp)
    | cons i r =>
      rw [hs] at hc
      have hn : subIdx x [48, 49, 49] = some i := by
        unfold subIdx
        rw [← List.head?_filter]
        show ((List.range (x.length + 1 - 3)).filter fun i => decide ((x.drop i).take 3 = [48, 49, 49])).head? = _
        rw [hs]
        rfl
      obtain ⟨e, h3⟩ := sub_st hn
      have hp := Gr.st_prop e
      have hct := hp.2.2.1
      match N, h with
      | 0, h => omega
      | N + 1, h =>
        have ih := steps_loop o N (x.take i ++ [49, 48, 48] ++ x.drop (i + 3)) (k + 1) s3 (.dat (.lst ((i :: r).map fun i : Nat => .int i))) (by omega) (by rw [hp.1]; exact hl)
        rw [whl_t (ev_con_s _ _ _) (show exec _ b1_steps _ = .nx [o, .own (.lst (sg (x.take i ++ [49, 48, 48] ++ x.drop (i + 3)))), .dat (.int (k + 1)), s3, .dat (.lst ((i :: r).map fun i : Nat => .int i))] from ?_), ih, (Gr.fx_s e).2]
        · congr 2
          omega
        · unfold b1_steps
          rw [ex_set (.lst ((i :: r).map fun i : Nat => .int i)) hc]
          simp only [List.set_cons_succ, List.set_cons_zero]
          rw [ex_skip (ev_cmpO (d := .lst ((i :: r).map fun i : Nat => .int i)) (d' := .lst []) (k := false) (by simp) (by simp) (by rw [cs_eqG]; simp [D.eqbs, D.dep]))]
          have es : exec p_steps (.ssl 1 (.ix (.var 4) (.con (.int 0))) (.bin .add (.ix (.var 4) (.con (.int 0))) (.con (.int 3))) (.lst (.cons (.con (.str [49])) (.cons (.con (.str [48])) (.cons (.con (.str [48])) .nil))))) [o, .own (.lst (sg x)), .dat (.int k), s3, .dat (.lst ((i :: r).map fun i : Nat => .int i))] = .nx [o, .own (.lst (sg (x.take i ++ [49, 48, 48] ++ x.drop (i + 3)))), .dat (.int k), s3, .dat (.lst ((i :: r).map fun i : Nat => .int i))] := by
            have h3' : 3 ≤ szL := by omega
            rw [exec_ssl_s]
            simp [h3']
            unfold sslK
            have c : 0 ≤ (i : Int) ∧ (i : Int) ≤ (i : Int) + 3 ∧ (i : Int) + 3 ≤ ((sg x).length : Int) ∧ (sg x).length + 3 ≤ szL := by
              rw [sg_len]
              omega
            simp only [List.length_cons, List.length_nil, Nat.zero_add]
            rw [if_pos c, show ((i : Int) + 3).toNat = i + 3 by omega]
            simp [sg]
          rw [ex_nx es, ex_set (.int (k + 1)) (by simp), exec_nil_s]
          rfl
theorem steps2_ok {l : List Nat} (h : Fig l) : F_steps [.str l] = .ok (.int (Gr.cn 999999999 (48 :: l) : Nat)) := by
  rw [F_steps_eq]
  unfold s_steps
  have hl := h.l2
  have hc : l.count 49 ≤ 999999999 := by have := List.count_le_length (a := 49) (l := l); omega
  have h1 : 1 ≤ szL := by have := szL_ge; omega
  have hz : 1 + l.length ≤ szL := by have := szL_ge; omega
  have e := steps_loop (.dat (.str l)) 999999999 (48 :: l) 0 .no .no (by simpa using hc) (by simp; omega)
  rw [ex_par (ρ' := [.dat (.str l), .own (.lst (sg (48 :: l))), .dat (.int 0), .no, .no]) [.lst (sg (48 :: l)), .int 0] (by simp [hz, h1, sg]) rfl, exec_cons_s, exec_whl_s, e]
  simp
/-! ### the law -/
theorem fb41 : Gr.fb 41 ≤ 1000000000000 := by decide +kernel
theorem fig_of {l : List Nat} (b : Gr.bin l) (h1 : 1 ≤ l.length) (h2 : l.length ≤ 40) : Fig l :=
  ⟨b, h1, by omega, by have := Gr.wl_le l; have := Gr.fb_le (show l.length + 1 ≤ 41 by omega); have := fb41; omega⟩
theorem signs_ok (here : Int) (x0 x1 x2 x3 x5 x6 x8 x9 : Sl) : ∃ l : List Nat, Fig l ∧
    ev p_law (.mth .join (.con (.str [])) (.comp (.ix (.con (.str [48, 49])) (.bin .mod (.bin .mod (.bin .fdiv (.call 0 (.cons (.var 4) (.cons (.var 8) .nil))) (.con (.int 8))) (.ix (.lst (.cons (.con (.int 2)) (.cons (.con (.int 4)) .nil))) (.bin .mod (.var 4) (.con (.int 2))))) (.con (.int 2)))) (.nm 8) (.rng1 (.var 7)) .nil)) [x0, x1, x2, x3, .dat (.int here), x5, x6, .dat (.int (1 + here / 8 % 40)), x8, x9] = .ok (.str l) := by
  have hz := szL_ge
  have h2 : 2 ≤ szL := by omega
  have hm : ∃ m : Int, (m = 2 ∨ m = 4) ∧ atI [D.int 2, .int 4] (here % 2) = some (.int m) := by
    have : here % 2 = 0 ∨ here % 2 = 1 := by omega
    rcases this with q | q <;> rw [q]
    · exact ⟨2, .inl rfl, rfl⟩
    · exact ⟨4, .inr rfl, rfl⟩
  obtain ⟨m, hm1, hm2⟩ := hm
  have hr : rgOk 0 (1 + here / 8 % 40) = true := rgOk_of (by omega) (by omega) (by omega) (by omega)
  let f : Nat → Nat := fun j => if dr here j / 8 % m % 2 = 0 then 48 else 49
  have hf : ∀ j : Nat, atI [48, 49] (dr here j / 8 % m % 2) = some (f j) := fun j => by
    show _ = some (if _ then _ else _)
    have : dr here j / 8 % m % 2 = 0 ∨ dr here j / 8 % m % 2 = 1 := by omega
    rcases this with q | q <;> rw [q] <;> rfl
  have hm0 : 0 < m := by omega
  refine ⟨(List.range (1 + here / 8 % 40).toNat).map f, fig_of ?_ (by simp; omega) (by simp; omega), ?_⟩
  · intro c hc
    obtain ⟨j, _, rfl⟩ := List.mem_map.mp hc
    show (if _ then _ else _) = 48 ∨ (if _ then _ else _) = 49
    split <;> simp
  · rw [ev_mth_s, opd_comp, evm (fun j : Nat => .int j) (fun j => .str [f j]) (xs := List.range (1 + here / 8 % 40).toNat) (by simp [hr, rgL]) (by simp; omega) (fun j _ => by simp [h2, hm2, hm0, hf])]
    simp only [opd_con, ev_con_s, Rs.bind_ok, rcv_join, if_true]
    rw [m_joinM, flat1, if_pos (by simp; omega)]
    rfl
theorem b1_ok {more j : Int} (x0 x1 x4 x5 x6 x7 x8 x9 : Sl) : ∃ y4 y5 y6 y7 y8 y9 : Sl,
    exec p_law b1_law [x0, x1, .dat (.int more), .dat (.int j), x4, x5, x6, x7, x8, x9] = .nx [x0, x1, .dat (.int more), .dat (.int j), y4, y5, y6, y7, y8, y9] := by
  unfold b1_law
  rw [ex_set (.int (dr more (10 + j))) (by simp)]
  simp only [List.set_cons_succ, List.set_cons_zero]
  generalize dr more (10 + j) = here
  rw [ex_set (.int (nb here)) (by simp)]
  simp only [List.set_cons_succ, List.set_cons_zero]
  obtain ⟨n0, n1⟩ := nb_b here
  generalize nb here = n at n0 n1 ⊢
  rw [ex_set (.str (Gr.nm n)) (by simp [num_ok])]
  simp only [List.set_cons_succ, List.set_cons_zero]
  have fg := nm_fig n0 n1
  have hw := nm_wl n0 n1
  have h11 : cmpSem .isin (.str [49, 49]) (.str (Gr.nm n)) = some false := by
    rw [Q.in_sub (by simp), z_in11 (Gr.nm_prop n0 (by omega)).2.1]
    rfl
  rw [ex_skip (by simp [write_ok n0 n1, read_ok n0 n1, worth_ok fg, hw, h11])]
  rw [ex_skip (by
    by_cases q : n < 1000000000000
    · rw [ev_andT (by simp [q]), ev_fin_s]
      simp [behind_ok n0 q, num_ok]
    · rw [ev_andF (by simp; omega)])]
  rw [ex_set (.int (1 + here / 8 % 40)) (by simp)]
  simp only [List.set_cons_succ, List.set_cons_zero]
  obtain ⟨l, fl, el⟩ := signs_ok here x0 x1 (.dat (.int more)) (.dat (.int j)) (.dat (.int n)) (.dat (.str (Gr.nm n))) x8 x9
  rw [ex_set (.str l) el]
  simp only [List.set_cons_succ, List.set_cons_zero]
  rw [ex_skip (by simp [worth_ok fl, wor_ok fl.l2, shaped_ok fl, num_ok])]
  rw [ex_skip (by simp [steps_ok fl, steps2_ok fl, steps_ok fg, nm_steps n0 n1, shaped_ok fg, hw]), exec_nil_s]
  exact ⟨_, _, _, _, _, _, rfl⟩
theorem b2_ok {ns : List Int} (hns : ns.length ≤ 63) {k : Int} (x2 x3 x4 x5 x6 x7 x8 x9 : Sl) :
    ∃ l : List Sl, l.length = 9 ∧ exec p_law b2_law [.dat (.scr ns), .dat (.int k), x2, x3, x4, x5, x6, x7, x8, x9] = .nx (.dat (.scr ns) :: l) := by
  obtain ⟨c, hc⟩ := cell_ok (k := k) hns
  have hz := szL_ge
  unfold b2_law
  rw [ex_set (.int (dr c k)) (by simp [hc])]
  simp only [List.set_cons_succ, List.set_cons_zero]
  generalize dr c k = more
  have r8 : rgOk 0 8 = true := by decide
  have r120 : rgOk 0 120 = true := by decide
  obtain ⟨ρ1, e1, l1, hl1, rfl⟩ := forL_rg (b := exec p_law b1_law) (i := 3) (fun ρ => ∃ l : List Sl, l.length = 7 ∧ ρ = .dat (.scr ns) :: .dat (.int k) :: .dat (.int more) :: l) 0 8
    [.dat (.scr ns), .dat (.int k), .dat (.int more), x3, x4, x5, x6, x7, x8, x9] ⟨_, rfl, rfl⟩ (fun j _ _ ρ ⟨l, hl, el⟩ => by
      subst el
      match l, hl with
      | [y3, y4, y5, y6, y7, y8, y9], _ =>
        obtain ⟨z4, z5, z6, z7, z8, z9, h2⟩ := b1_ok (more := more) (j := j) (.dat (.scr ns)) (.dat (.int k)) y4 y5 y6 y7 y8 y9
        exact ⟨_, .inl h2, _, rfl, rfl⟩)
  rw [ex_for (rgL 0 8) (by simp [r8]) e1]
  rw [ex_skip (by
    refine ev_neS (d := .lst ((List.range 120).map fun i : Nat => .str (Gr.nm i))) ?_ ?_ (by simp)
    · rw [evm (fun i : Nat => .int i) (fun i : Nat => .str (Gr.nm i)) (xs := List.range 120) (by simp [r120, rgL]) (by simp; omega) (fun i hi => by
        have := List.mem_range.mp hi
        match l1, hl1 with
        | [y3, y4, y5, y6, y7, y8, y9], _ => simp [write_ok (n := i) (by omega) (by omega)])]
    · rw [evm (fun i : Nat => .int i) (fun i : Nat => .str (Gr.nm i)) (xs := List.range 120) (by simp [r120, rgL]) (by simp; omega) (fun i hi => by
        match l1, hl1 with
        | [y3, y4, y5, y6, y7, y8, y9], _ => simp [num_ok])]), exec_nil_s]
  exact ⟨_, by simp [hl1], rfl⟩
theorem math : ∀ ns : List Int, ns.length ≤ 63 → F_law [.scr ns] = .ok (.bl true) := by
  intro ns hns
  rw [F_law_eq]
  unfold s_law
  rw [law_frame (n := 8) (by decide) (by decide) (fun j l h0 h1 hl => by
    match l, hl with
    | [y2, y3, y4, y5, y6, y7, y8, y9], _ =>
      obtain ⟨l', h1, h2⟩ := b2_ok (k := j) hns y2 y3 y4 y5 y6 y7 y8 y9
      exact ⟨l', h1, .inl h2⟩) _ rfl]
  rfl
end Lk50

set_option Elab.async false
set_option linter.all false
set_option maxRecDepth 100000
set_option maxHeartbeats 4000000
namespace Lk50
open PySem PySem.Spec PyProof.Rows L2 DN Q
def exs : List Str := ["NumeralError", "BadNumber", "BadNumeral"]
def glos : List (Str × D) := [("MOST", (.int 1000000000000)), ("MOST_SIGNS", (.int 60))]
theorem k_w_drawn : chkBk (ctxOf ["cell", "k", "more"] (defScope (topAt PySem.Challenge.pw_numeralbook_k50_whole_growing 22)) p_w_drawn [] glos exs) s_w_drawn (defBody (topAt PySem.Challenge.pw_numeralbook_k50_whole_growing 22)) = true := by kernel_rfl
theorem f_w_drawn : fnScB ["cell", "k", "more"] ["cell", "k"] (defScope (topAt PySem.Challenge.pw_numeralbook_k50_whole_growing 22)) = true := by kernel_rfl
theorem k_w_cell : chkBk (ctxOf ["script", "k"] (defScope (topAt PySem.Challenge.pw_numeralbook_k50_whole_growing 21)) p_w_cell [] glos exs) s_w_cell (defBody (topAt PySem.Challenge.pw_numeralbook_k50_whole_growing 21)) = true := by kernel_rfl
theorem f_w_cell : fnScB ["script", "k"] ["script", "k"] (defScope (topAt PySem.Challenge.pw_numeralbook_k50_whole_growing 21)) = true := by kernel_rfl
theorem k_w_number : chkBk (ctxOf ["more", "top", "some"] (defScope (topAt PySem.Challenge.pw_numeralbook_k50_whole_growing 23)) p_w_number [] glos exs) s_w_number (defBody (topAt PySem.Challenge.pw_numeralbook_k50_whole_growing 23)) = true := by kernel_rfl
theorem f_w_number : fnScB ["more", "top", "some"] ["more"] (defScope (topAt PySem.Challenge.pw_numeralbook_k50_whole_growing 23)) = true := by kernel_rfl
theorem k_row : chkBk (ctxOf ["count", "found"] (defScope (topAt PySem.Challenge.pw_numeralbook_k50_whole_growing 24)) p_row [] glos exs) s_row (defBody (topAt PySem.Challenge.pw_numeralbook_k50_whole_growing 24)) = true := by kernel_rfl
theorem f_row : fnScB ["count", "found"] ["count"] (defScope (topAt PySem.Challenge.pw_numeralbook_k50_whole_growing 24)) = true := by kernel_rfl
theorem k_numeral : chkBk (ctxOf ["number", "found", "one"] (defScope (topAt PySem.Challenge.pw_numeralbook_k50_whole_growing 26)) p_numeral ["_law_row"] glos exs) s_numeral (defBody (topAt PySem.Challenge.pw_numeralbook_k50_whole_growing 26)) = true := by kernel_rfl
theorem f_numeral : fnScB ["number", "found", "one"] ["number"] (defScope (topAt PySem.Challenge.pw_numeralbook_k50_whole_growing 26)) = true := by kernel_rfl
theorem k_numbers_is_count : chkBk (ctxOf ["thing", "low", "high"] (defScope (topAt PySem.Challenge.pw_numeralbook_k50_whole_growing 6)) p_numbers_is_count [] glos exs) s_numbers_is_count (defBody (topAt PySem.Challenge.pw_numeralbook_k50_whole_growing 6)) = true := by kernel_rfl
theorem f_numbers_is_count : fnScB ["thing", "low", "high"] ["thing", "low", "high"] (defScope (topAt PySem.Challenge.pw_numeralbook_k50_whole_growing 6)) = true := by kernel_rfl
theorem k_numbers_need_number : chkBk (ctxOf ["thing", "low", "high"] (defScope (topAt PySem.Challenge.pw_numeralbook_k50_whole_growing 7)) p_numbers_need_number ["is_count"] glos exs) s_numbers_need_number (defBody (topAt PySem.Challenge.pw_numeralbook_k50_whole_growing 7)) = true := by kernel_rfl
theorem f_numbers_need_number : fnScB ["thing", "low", "high"] ["thing", "low", "high"] (defScope (topAt PySem.Challenge.pw_numeralbook_k50_whole_growing 7)) = true := by kernel_rfl
theorem k_growing_row_to : chkBk (ctxOf ["number", "found", "one"] (defScope (topAt PySem.Challenge.pw_numeralbook_k50_whole_growing 10)) p_growing_row_to [] glos exs) s_growing_row_to (defBody (topAt PySem.Challenge.pw_numeralbook_k50_whole_growing 10)) = true := by kernel_rfl
theorem f_growing_row_to : fnScB ["number", "found", "one"] ["number"] (defScope (topAt PySem.Challenge.pw_numeralbook_k50_whole_growing 10)) = true := by kernel_rfl
theorem k_growing_numeral_of : chkBk (ctxOf ["number", "found", "one"] (defScope (topAt PySem.Challenge.pw_numeralbook_k50_whole_growing 11)) p_growing_numeral_of ["row_to"] glos exs) s_growing_numeral_of (defBody (topAt PySem.Challenge.pw_numeralbook_k50_whole_growing 11)) = true := by kernel_rfl
theorem f_growing_numeral_of : fnScB ["number", "found", "one"] ["number"] (defScope (topAt PySem.Challenge.pw_numeralbook_k50_whole_growing 11)) = true := by kernel_rfl
theorem k_growing_write : chkBk (ctxOf ["number"] (defScope (topAt PySem.Challenge.pw_numeralbook_k50_whole_growing 12)) p_growing_write ["need_number", "numeral_of"] glos exs) s_growing_write (defBody (topAt PySem.Challenge.pw_numeralbook_k50_whole_growing 12)) = true := by kernel_rfl
theorem f_growing_write : fnScB ["number"] ["number"] (defScope (topAt PySem.Challenge.pw_numeralbook_k50_whole_growing 12)) = true := by kernel_rfl
theorem k_growing_worth_of : chkBk (ctxOf ["numeral", "found", "one", "other", "sign"] (defScope (topAt PySem.Challenge.pw_numeralbook_k50_whole_growing 13)) p_growing_worth_of [] glos exs) s_growing_worth_of (defBody (topAt PySem.Challenge.pw_numeralbook_k50_whole_growing 13)) = true := by kernel_rfl
theorem f_growing_worth_of : fnScB ["numeral", "found", "one", "other", "sign"] ["numeral"] (defScope (topAt PySem.Challenge.pw_numeralbook_k50_whole_growing 13)) = true := by kernel_rfl
theorem k_growing_need_figures : chkBk (ctxOf ["numeral", "sign", "good"] (defScope (topAt PySem.Challenge.pw_numeralbook_k50_whole_growing 14)) p_growing_need_figures ["worth_of"] glos exs) s_growing_need_figures (defBody (topAt PySem.Challenge.pw_numeralbook_k50_whole_growing 14)) = true := by kernel_rfl
theorem f_growing_need_figures : fnScB ["numeral", "sign", "good"] ["numeral"] (defScope (topAt PySem.Challenge.pw_numeralbook_k50_whole_growing 14)) = true := by kernel_rfl
theorem k_growing_read : chkBk (ctxOf ["numeral"] (defScope (topAt PySem.Challenge.pw_numeralbook_k50_whole_growing 16)) p_growing_read ["need_figures", "numeral_of", "worth_of"] glos exs) s_growing_read (defBody (topAt PySem.Challenge.pw_numeralbook_k50_whole_growing 16)) = true := by kernel_rfl
theorem f_growing_read : fnScB ["numeral"] ["numeral"] (defScope (topAt PySem.Challenge.pw_numeralbook_k50_whole_growing 16)) = true := by kernel_rfl
theorem k_growing_worth : chkBk (ctxOf ["numeral"] (defScope (topAt PySem.Challenge.pw_numeralbook_k50_whole_growing 15)) p_growing_worth ["need_figures", "worth_of"] glos exs) s_growing_worth (defBody (topAt PySem.Challenge.pw_numeralbook_k50_whole_growing 15)) = true := by kernel_rfl
theorem f_growing_worth : fnScB ["numeral"] ["numeral"] (defScope (topAt PySem.Challenge.pw_numeralbook_k50_whole_growing 15)) = true := by kernel_rfl
theorem k_growing_behind : chkBk (ctxOf ["numeral", "number"] (defScope (topAt PySem.Challenge.pw_numeralbook_k50_whole_growing 19)) p_growing_behind ["read", "need_number", "numeral_of"] glos exs) s_growing_behind (defBody (topAt PySem.Challenge.pw_numeralbook_k50_whole_growing 19)) = true := by kernel_rfl
theorem f_growing_behind : fnScB ["numeral", "number"] ["numeral"] (defScope (topAt PySem.Challenge.pw_numeralbook_k50_whole_growing 19)) = true := by kernel_rfl
theorem k_worth : chkBk (ctxOf ["text", "one", "sign"] (defScope (topAt PySem.Challenge.pw_numeralbook_k50_whole_growing 25)) p_worth ["_law_row"] glos exs) s_worth (defBody (topAt PySem.Challenge.pw_numeralbook_k50_whole_growing 25)) = true := by kernel_rfl
theorem f_worth : fnScB ["text", "one", "sign"] ["text"] (defScope (topAt PySem.Challenge.pw_numeralbook_k50_whole_growing 25)) = true := by kernel_rfl
theorem k_growing_shaped : chkBk (ctxOf ["numeral", "found", "at"] (defScope (topAt PySem.Challenge.pw_numeralbook_k50_whole_growing 17)) p_growing_shaped ["need_figures"] glos exs) s_growing_shaped (defBody (topAt PySem.Challenge.pw_numeralbook_k50_whole_growing 17)) = true := by kernel_rfl
theorem f_growing_shaped : fnScB ["numeral", "found", "at"] ["numeral"] (defScope (topAt PySem.Challenge.pw_numeralbook_k50_whole_growing 17)) = true := by kernel_rfl
theorem k_growing_steps_of : chkBk (ctxOf ["numeral", "found", "count", "at"] (defScope (topAt PySem.Challenge.pw_numeralbook_k50_whole_growing 18)) p_growing_steps_of ["need_figures"] glos exs) s_growing_steps_of (defBody (topAt PySem.Challenge.pw_numeralbook_k50_whole_growing 18)) = true := by kernel_rfl
theorem f_growing_steps_of : fnScB ["numeral", "found", "count", "at"] ["numeral"] (defScope (topAt PySem.Challenge.pw_numeralbook_k50_whole_growing 18)) = true := by kernel_rfl
theorem k_steps : chkBk (ctxOf ["text", "row", "count", "spot", "some"] (defScope (topAt PySem.Challenge.pw_numeralbook_k50_whole_growing 27)) p_steps [] glos exs) s_steps (defBody (topAt PySem.Challenge.pw_numeralbook_k50_whole_growing 27)) = true := by kernel_rfl
theorem f_steps : fnScB ["text", "row", "count", "spot", "some"] ["text"] (defScope (topAt PySem.Challenge.pw_numeralbook_k50_whole_growing 27)) = true := by kernel_rfl
theorem k_law : chkBk (ctxOf ["script", "k", "more", "j", "here", "number", "text", "size", "n", "signs"] (defScope (topAt PySem.Challenge.pw_numeralbook_k50_whole_growing 28)) p_law ["_law_drawn", "_law_cell", "_law_number", "_law_numeral", "worth", "read", "write", "behind", "shaped", "_law_worth", "steps_of", "_law_steps"] glos exs) s_law (defBody (topAt PySem.Challenge.pw_numeralbook_k50_whole_growing 28)) = true := by kernel_rfl
theorem f_law : fnScB ["script", "k", "more", "j", "here", "number", "text", "size", "n", "signs"] ["script"] (defScope (topAt PySem.Challenge.pw_numeralbook_k50_whole_growing 28)) = true := by kernel_rfl
/-! the head -/
abbrev P0 : Program := PySem.Challenge.pw_numeralbook_k50_whole_growing
def fn : List He.DefD := [defD P0 "_law_drawn" "_law_drawn" 22, defD P0 "_law_cell" "_law_cell" 21, defD P0 "_law_number" "_law_number" 23, defD P0 "_law_row" "_law_row" 24, defD P0 "_law_numeral" "_law_numeral" 26, defD P0 "is_count" "is_count" 6, defD P0 "need_number" "need_number" 7, defD P0 "row_to" "row_to" 10, defD P0 "numeral_of" "numeral_of" 11, defD P0 "write" "write" 12, defD P0 "worth_of" "worth_of" 13, defD P0 "need_figures" "need_figures" 14, defD P0 "read" "read" 16, defD P0 "worth" "worth" 15, defD P0 "behind" "behind" 19, defD P0 "_law_worth" "_law_worth" 25, defD P0 "shaped" "shaped" 17, defD P0 "steps_of" "steps_of" 18, defD P0 "_law_steps" "_law_steps" 27, defD P0 "law" "law" 28]
def fa : List He.Fa := [.glo "_law_drawn", .glo "_law_cell", .glo "_law_number", .glo "_law_row", .glo "_law_numeral", .glo "is_count", .glo "need_number", .glo "row_to", .glo "numeral_of", .glo "write", .glo "worth_of", .glo "need_figures", .glo "read", .glo "worth", .glo "behind", .glo "_law_worth", .glo "shaped", .glo "steps_of", .glo "_law_steps", .glo "law"]
abbrev R : PySem.W.OpenRow := PySem.W.OpenLaw.row PySem.Challenge.rw_numeralbook_k50_whole_growing
abbrev hk : PySem.W.Hook := He.hookX 4 fa fn [] [] (topB exs glos)
def ob (s : PySem.W.SharedT) : He.AlX := He.obsX 4 fa fn [] [] (topB exs glos) (HandSHeadRun.getT s)
theorem ob_eq (s : PySem.W.SharedT) : ob s = hk.obs s.abs := He.obsX_eq (HandSHeadRun.getT_eq s)
def loose0 : List Str := ["NumeralError", "BadNumber", "BadNumeral", "MOST", "is_count", "need_number", "MOST_SIGNS", "row_to", "numeral_of", "write", "worth_of", "need_figures", "worth", "read", "shaped", "steps_of", "behind", "_law_cell", "_law_drawn", "_law_number", "_law_row", "_law_worth", "_law_numeral", "_law_steps"]
abbrev loose : List Str := loose0
theorem run (w : World) : HandSHeadRun.RunEq R (PySem.W.view R.prog [28]) hk ob 3500 loose w := by
  intro os
  kernel_rfl
theorem facts {P : Program} {w : World} {K : PySem.W.Frag} {h : Heap} {mg : Str → Option Value} {f : Addr} (X : K.In h) (G : h.Ns mainGlobals mg) (hf : mg ("law" : Str) = some (.ref f)) (c : He.SaysX fa fn [] [] (topB exs glos) w h K) :
    ∃ fd : FuncData, (∀ (s : Shared) (v : Value), BindsTo s fd ⟨[v], []⟩ [("script", v)]) ∧ ∀ base : Heap, FnOk P w K mg base (L2N.CX P w) 20 f fd ["script"] (spOf K [] F_law) := by
  have d := c.t.d
  have m0 : mg "_law_drawn" = some (.ref (He.ga K "_law_drawn")) := He.glo_ok X G (d.fact 0 (f := .glo "_law_drawn") rfl)
  obtain ⟨fd0, F0⟩ := d.def_ 0 (d := defD P0 "_law_drawn" "_law_drawn" 22) rfl
  have b0 : Binds K fd0 ["cell", "k"] [] := F0.bindsN fun _ _ _ _ _ _ us hl => match us, hl with | [_, _], _ => rfl
  have m1 : mg "_law_cell" = some (.ref (He.ga K "_law_cell")) := He.glo_ok X G (d.fact 1 (f := .glo "_law_cell") rfl)
  obtain ⟨fd1, F1⟩ := d.def_ 1 (d := defD P0 "_law_cell" "_law_cell" 21) rfl
  have b1 : Binds K fd1 ["script", "k"] [] := F1.bindsN fun _ _ _ _ _ _ us hl => match us, hl with | [_, _], _ => rfl
  have m2 : mg "_law_number" = some (.ref (He.ga K "_law_number")) := He.glo_ok X G (d.fact 2 (f := .glo "_law_number") rfl)
  obtain ⟨fd2, F2⟩ := d.def_ 2 (d := defD P0 "_law_number" "_law_number" 23) rfl
  have b2 : Binds K fd2 ["more"] [] := F2.bindsN fun _ _ _ _ _ _ us hl => match us, hl with | [_], _ => rfl
  have m3 : mg "_law_row" = some (.ref (He.ga K "_law_row")) := He.glo_ok X G (d.fact 3 (f := .glo "_law_row") rfl)
  obtain ⟨fd3, F3⟩ := d.def_ 3 (d := defD P0 "_law_row" "_law_row" 24) rfl
  have b3 : Binds K fd3 ["count"] [] := F3.bindsN fun _ _ _ _ _ _ us hl => match us, hl with | [_], _ => rfl
  have m4 : mg "_law_numeral" = some (.ref (He.ga K "_law_numeral")) := He.glo_ok X G (d.fact 4 (f := .glo "_law_numeral") rfl)
  obtain ⟨fd4, F4⟩ := d.def_ 4 (d := defD P0 "_law_numeral" "_law_numeral" 26) rfl
  have b4 : Binds K fd4 ["number"] [] := F4.bindsN fun _ _ _ _ _ _ us hl => match us, hl with | [_], _ => rfl
  have m5 : mg "is_count" = some (.ref (He.ga K "is_count")) := He.glo_ok X G (d.fact 5 (f := .glo "is_count") rfl)
  obtain ⟨fd5, F5⟩ := d.def_ 5 (d := defD P0 "is_count" "is_count" 6) rfl
  have b5 : Binds K fd5 ["thing", "low", "high"] [] := F5.bindsN fun _ _ _ _ _ _ us hl => match us, hl with | [_, _, _], _ => rfl
  have m6 : mg "need_number" = some (.ref (He.ga K "need_number")) := He.glo_ok X G (d.fact 6 (f := .glo "need_number") rfl)
  obtain ⟨fd6, F6⟩ := d.def_ 6 (d := defD P0 "need_number" "need_number" 7) rfl
  have b6 : Binds K fd6 ["thing", "low", "high"] [] := F6.bindsN fun _ _ _ _ _ _ us hl => match us, hl with | [_, _, _], _ => rfl
  have m7 : mg "row_to" = some (.ref (He.ga K "row_to")) := He.glo_ok X G (d.fact 7 (f := .glo "row_to") rfl)
  obtain ⟨fd7, F7⟩ := d.def_ 7 (d := defD P0 "row_to" "row_to" 10) rfl
  have b7 : Binds K fd7 ["number"] [] := F7.bindsN fun _ _ _ _ _ _ us hl => match us, hl with | [_], _ => rfl
  have m8 : mg "numeral_of" = some (.ref (He.ga K "numeral_of")) := He.glo_ok X G (d.fact 8 (f := .glo "numeral_of") rfl)
  obtain ⟨fd8, F8⟩ := d.def_ 8 (d := defD P0 "numeral_of" "numeral_of" 11) rfl
  have b8 : Binds K fd8 ["number"] [] := F8.bindsN fun _ _ _ _ _ _ us hl => match us, hl with | [_], _ => rfl
  have m9 : mg "write" = some (.ref (He.ga K "write")) := He.glo_ok X G (d.fact 9 (f := .glo "write") rfl)
  obtain ⟨fd9, F9⟩ := d.def_ 9 (d := defD P0 "write" "write" 12) rfl
  have b9 : Binds K fd9 ["number"] [] := F9.bindsN fun _ _ _ _ _ _ us hl => match us, hl with | [_], _ => rfl
  have m10 : mg "worth_of" = some (.ref (He.ga K "worth_of")) := He.glo_ok X G (d.fact 10 (f := .glo "worth_of") rfl)
  obtain ⟨fd10, F10⟩ := d.def_ 10 (d := defD P0 "worth_of" "worth_of" 13) rfl
  have b10 : Binds K fd10 ["numeral"] [] := F10.bindsN fun _ _ _ _ _ _ us hl => match us, hl with | [_], _ => rfl
  have m11 : mg "need_figures" = some (.ref (He.ga K "need_figures")) := He.glo_ok X G (d.fact 11 (f := .glo "need_figures") rfl)
  obtain ⟨fd11, F11⟩ := d.def_ 11 (d := defD P0 "need_figures" "need_figures" 14) rfl
  have b11 : Binds K fd11 ["numeral"] [] := F11.bindsN fun _ _ _ _ _ _ us hl => match us, hl with | [_], _ => rfl
  have m12 : mg "read" = some (.ref (He.ga K "read")) := He.glo_ok X G (d.fact 12 (f := .glo "read") rfl)
  obtain ⟨fd12, F12⟩ := d.def_ 12 (d := defD P0 "read" "read" 16) rfl
  have b12 : Binds K fd12 ["numeral"] [] := F12.bindsN fun _ _ _ _ _ _ us hl => match us, hl with | [_], _ => rfl
  have m13 : mg "worth" = some (.ref (He.ga K "worth")) := He.glo_ok X G (d.fact 13 (f := .glo "worth") rfl)
  obtain ⟨fd13, F13⟩ := d.def_ 13 (d := defD P0 "worth" "worth" 15) rfl
  have b13 : Binds K fd13 ["numeral"] [] := F13.bindsN fun _ _ _ _ _ _ us hl => match us, hl with | [_], _ => rfl
  have m14 : mg "behind" = some (.ref (He.ga K "behind")) := He.glo_ok X G (d.fact 14 (f := .glo "behind") rfl)
  obtain ⟨fd14, F14⟩ := d.def_ 14 (d := defD P0 "behind" "behind" 19) rfl
  have b14 : Binds K fd14 ["numeral"] [] := F14.bindsN fun _ _ _ _ _ _ us hl => match us, hl with | [_], _ => rfl
  have m15 : mg "_law_worth" = some (.ref (He.ga K "_law_worth")) := He.glo_ok X G (d.fact 15 (f := .glo "_law_worth") rfl)
  obtain ⟨fd15, F15⟩ := d.def_ 15 (d := defD P0 "_law_worth" "_law_worth" 25) rfl
  have b15 : Binds K fd15 ["text"] [] := F15.bindsN fun _ _ _ _ _ _ us hl => match us, hl with | [_], _ => rfl
  have m16 : mg "shaped" = some (.ref (He.ga K "shaped")) := He.glo_ok X G (d.fact 16 (f := .glo "shaped") rfl)
  obtain ⟨fd16, F16⟩ := d.def_ 16 (d := defD P0 "shaped" "shaped" 17) rfl
  have b16 : Binds K fd16 ["numeral"] [] := F16.bindsN fun _ _ _ _ _ _ us hl => match us, hl with | [_], _ => rfl
  have m17 : mg "steps_of" = some (.ref (He.ga K "steps_of")) := He.glo_ok X G (d.fact 17 (f := .glo "steps_of") rfl)
  obtain ⟨fd17, F17⟩ := d.def_ 17 (d := defD P0 "steps_of" "steps_of" 18) rfl
  have b17 : Binds K fd17 ["numeral"] [] := F17.bindsN fun _ _ _ _ _ _ us hl => match us, hl with | [_], _ => rfl
  have m18 : mg "_law_steps" = some (.ref (He.ga K "_law_steps")) := He.glo_ok X G (d.fact 18 (f := .glo "_law_steps") rfl)
  obtain ⟨fd18, F18⟩ := d.def_ 18 (d := defD P0 "_law_steps" "_law_steps" 27) rfl
  have b18 : Binds K fd18 ["text"] [] := F18.bindsN fun _ _ _ _ _ _ us hl => match us, hl with | [_], _ => rfl
  have m19 : mg "law" = some (.ref (He.ga K "law")) := He.glo_ok X G (d.fact 19 (f := .glo "law") rfl)
  obtain ⟨fd19, F19⟩ := d.def_ 19 (d := defD P0 "law" "law" 28) rfl
  have b19 : Binds K fd19 ["script"] [] := F19.bindsN fun _ _ _ _ _ _ us hl => match us, hl with | [_], _ => rfl
  have e := hf.symm.trans m19
  cases e
  have bA := FunD.bindsA (ps := ["script"]) F19 fun _ _ _ _ _ _ us hl => match us, hl with | [_], _ => rfl
  refine ⟨fd19, fun s v => bA s [v] rfl, fun base => ?_⟩
  have g0 : Gp K mg glos exs := gp0 X G c.more
  have a0 : FnF P w K mg base [] 1 "_law_drawn" F_w_drawn := step (k := 0) g0 .nil F0 m0 f_w_drawn k_w_drawn b0
  have a1 : FnF P w K mg base [] 2 "_law_cell" F_w_cell := step (k := 1) g0 .nil F1 m1 f_w_cell k_w_cell b1
  have a2 : FnF P w K mg base [] 3 "_law_number" F_w_number := step (k := 2) g0 .nil F2 m2 f_w_number k_w_number b2
  have a3 : FnF P w K mg base [] 4 "_law_row" F_row := step (k := 3) g0 .nil F3 m3 f_row k_row b3
  have a4 : FnF P w K mg base [] 5 "_law_numeral" F_numeral := step (k := 4) g0 (.cons a3 (by decide) .nil) F4 m4 f_numeral k_numeral b4
  have a5 : FnF P w K mg base [] 6 "is_count" F_numbers_is_count := step (k := 5) g0 .nil F5 m5 f_numbers_is_count k_numbers_is_count b5
  have a6 : FnF P w K mg base [] 7 "need_number" F_numbers_need_number := step (k := 6) g0 (.cons a5 (by decide) .nil) F6 m6 f_numbers_need_number k_numbers_need_number b6
  have a7 : FnF P w K mg base [] 8 "row_to" F_growing_row_to := step (k := 7) g0 .nil F7 m7 f_growing_row_to k_growing_row_to b7
  have a8 : FnF P w K mg base [] 9 "numeral_of" F_growing_numeral_of := step (k := 8) g0 (.cons a7 (by decide) .nil) F8 m8 f_growing_numeral_of k_growing_numeral_of b8
  have a9 : FnF P w K mg base [] 10 "write" F_growing_write := step (k := 9) g0 (.cons a6 (by decide) (.cons a8 (by decide) .nil)) F9 m9 f_growing_write k_growing_write b9
  have a10 : FnF P w K mg base [] 11 "worth_of" F_growing_worth_of := step (k := 10) g0 .nil F10 m10 f_growing_worth_of k_growing_worth_of b10
  have a11 : FnF P w K mg base [] 12 "need_figures" F_growing_need_figures := step (k := 11) g0 (.cons a10 (by decide) .nil) F11 m11 f_growing_need_figures k_growing_need_figures b11
  have a12 : FnF P w K mg base [] 13 "read" F_growing_read := step (k := 12) g0 (.cons a11 (by decide) (.cons a8 (by decide) (.cons a10 (by decide) .nil))) F12 m12 f_growing_read k_growing_read b12
  have a13 : FnF P w K mg base [] 14 "worth" F_growing_worth := step (k := 13) g0 (.cons a11 (by decide) (.cons a10 (by decide) .nil)) F13 m13 f_growing_worth k_growing_worth b13
  have a14 : FnF P w K mg base [] 15 "behind" F_growing_behind := step (k := 14) g0 (.cons a12 (by decide) (.cons a6 (by decide) (.cons a8 (by decide) .nil))) F14 m14 f_growing_behind k_growing_behind b14
  have a15 : FnF P w K mg base [] 16 "_law_worth" F_worth := step (k := 15) g0 (.cons a3 (by decide) .nil) F15 m15 f_worth k_worth b15
  have a16 : FnF P w K mg base [] 17 "shaped" F_growing_shaped := step (k := 16) g0 (.cons a11 (by decide) .nil) F16 m16 f_growing_shaped k_growing_shaped b16
  have a17 : FnF P w K mg base [] 18 "steps_of" F_growing_steps_of := step (k := 17) g0 (.cons a11 (by decide) .nil) F17 m17 f_growing_steps_of k_growing_steps_of b17
  have a18 : FnF P w K mg base [] 19 "_law_steps" F_steps := step (k := 18) g0 .nil F18 m18 f_steps k_steps b18
  exact fn_ok (k := 19) g0 (.cons a0 (by decide) (.cons a1 (by decide) (.cons a2 (by decide) (.cons a4 (by decide) (.cons a13 (by decide) (.cons a12 (by decide) (.cons a9 (by decide) (.cons a14 (by decide) (.cons a16 (by decide) (.cons a15 (by decide) (.cons a17 (by decide) (.cons a18 (by decide) .nil)))))))))))) F19 (fnSc_by f_law) k_law
end Lk50

open PySem PySem.W PySem.Calls PyProof.Rows
theorem PySem.Challenge.cw_numeralbook_k50_whole_growing_holds : PySem.Challenge.rw_numeralbook_k50_whole_growing.Holds := by
  w_on; o_law
  refine HandSHeadRun.head_any (r := Lk50.R) (q := view Lk50.R.prog [28]) (H := Lk50.hk) (ob := Lk50.ob) (M := 3500) (loose := Lk50.loose) (d := HandSHeadRun.topDef Lk50.R.prog 28) (kwd := []) Lk50.ob_eq
    (by kernel_rfl) (fun s => by kernel_rfl) Lk50.run (by kernel_rfl) (by kernel_rfl) (by kernel_rfl) (by rfl) (by first | assumption | decide +kernel) (by decide +kernel) ⟨rfl, rfl, rfl, rfl, rfl, by decide +kernel⟩ ?hw ?hc
  case hw => w_witness2
  case hc =>
    refine DN.walkD (l := PySem.Challenge.rw_numeralbook_k50_whole_growing) (n := 63) (k := 20) (x := "script") (F := Lk50.F_law) rfl (by decide) (by kernel_rfl) ⟨rfl, by decide, by decide⟩ ?F Lk50.math
    intro w mg fa h Y G hmg0
    obtain ⟨K, KX, c⟩ := Y
    have hmg : mg ("law" : PySem.Str) = some (.ref fa) := by
      have e : (HandSHeadRun.topDef Lk50.R.prog 28).name = ("law" : PySem.Str) := by kernel_rfl
      rw [← e]
      exact hmg0
    obtain ⟨fd, hb, hF⟩ := Lk50.facts (P := PySem.Challenge.rw_numeralbook_k50_whole_growing.prog) (w := w) KX G hmg c
    exact ⟨K, fd, KX, hb, hF⟩
