import PyProof.Rows.All
import Wide.All
import OpenK.AllK
import Wide.FinOn
import HandS.ForMost
import HandS.Wide
import HandS.WideBits
import HandS.Style
import HandS.TupAny
import HandS.IsInst
import HandS.Exc
import HandS.Deep
import HandS.Zip
import KE.GoesMore
import KE.SortKeyHeap
import HandS.SortKw
import HandS.Replace
import HandS.Text
import HandS.Small
import HandS.ExcOwn
import HandS.TryOnly
import HandS.WordsExc
import HandS.Remove
import HandS.TupSets
import KE.KMinKey
import KE.DataAny
import KE.KDictLaws
import HandS.More
import KE.KDictCopyH
import KE.DataFind
import HandS.Flow
import KE.BitLaws
import KE.KBits
import PySem.Challenge.RW_mendedgates_k34_what_can_be_played
set_option Elab.async false
set_option linter.all false
set_option maxRecDepth 100000
set_option maxHeartbeats 4000000
/-! VL: a layer of plain data over HandS. Values are trees; frozen objects stand in F; what a name of the def owns is mutable. -/
namespace VL
open PySem PySem.Spec L2

/-- built-in classes as values -/
inductive Ty where
  | tint | tbool | tstr | ttup | tlst | tdct
def Ty.name : Ty → String
  | .tint => "int"
  | .tbool => "bool"
  | .tstr => "str"
  | .ttup => "tuple"
  | .tlst => "list"
  | .tdct => "dict"
inductive D where
  | non | bl (b : Bool) | int (i : Int) | str (x : Str)
  | tup (ds : List D) | lst (ds : List D) | dct (ks : List Key) (ds : List D) | dcu (ks : List (List Key)) (ds : List D) | obj (a : Addr) | scr (ns : List Int) | ty (t : Ty) | ktp (ds : List D)

mutual
def D.pd : D → PyData
  | .non => .none
  | .bl b => .bool b
  | .int i => .int i
  | .str x => .str x
  | .tup ds => .tuple (D.pds ds)
  | .lst ds => .list (D.pds ds)
  | .dct _ _ => .none
  | .dcu _ _ => .none
  | .obj _ => .none
  | .scr _ => .none
  | .ty _ => .none
  | .ktp _ => .none
def D.pds : List D → List PyData
  | [] => []
  | d :: ds => D.pd d :: D.pds ds
end

/-- plain data of at most that depth -/
def shD : Nat → D → Bool
  | _, .non => true
  | _, .bl _ => true
  | _, .int _ => true
  | _, .str x => PyData.strOk x
  | n + 1, .tup ds => ds.all (shD n)
  | n + 1, .lst ds => ds.all (shD n)
  | _, _ => false

mutual
def eqD : D → D → Bool
  | .non, .non => true
  | .bl a, .bl b => a == b
  | .bl a, .int j => (if a then 1 else 0) == j
  | .int i, .bl b => i == (if b then 1 else 0)
  | .int i, .int j => i == j
  | .str x, .str y => x == y
  | .tup xs, .tup ys => eqDs xs ys
  | .lst xs, .lst ys => eqDs xs ys
  | _, _ => false
def eqDs : List D → List D → Bool
  | [], [] => true
  | x :: xs, y :: ys => eqD x y && eqDs xs ys
  | _, _ => false
end

/-- a value whose tree holds no list, no dict -/
def flD : Nat → D → Bool
  | _, .non => true
  | _, .bl _ => true
  | _, .int _ => true
  | _, .str _ => true
  | _, .obj _ => true
  | n + 1, .tup ds => ds.all (flD n)
  | _, _ => false

/-- a mutable object that has a name of its own -/
inductive Ob where
  | ml (ds : List D)
  | md (ks : List Key) (ds : List D)
  | mu (ks : List (List Key)) (ds : List D)
  | ins (c : Str) (fs : List (Str × D))
  | lk (u : HO) (ks : List Key) (ds : List D)
  | lku (u : HO) (ks : List (List Key)) (ds : List D)

abbrev Oh := Addr → Option Ob
def Oh.put (h : Oh) (a : Addr) (o : Ob) : Oh := fun b => if b = a then some o else h b
theorem Oh.put_same {h : Oh} {a : Addr} {o : Ob} : h.put a o a = some o := by unfold Oh.put; rw [if_pos rfl]
theorem Oh.put_ne {h : Oh} {a b : Addr} {o : Ob} (n : b ≠ a) : h.put a o b = h b := by unfold Oh.put; rw [if_neg n]
theorem Oh.put_put {h : Oh} {a : Addr} {o u : Ob} : (h.put a o).put a u = h.put a u := by
  funext b; unfold Oh.put; split <;> rfl

/-- a slot: unset, a frozen value, a container that the name owns -/
inductive Sl where
  | u | f (d : D) | o (d : D)

structure Sg where
  s : List Sl
  h : Oh

/-! ### what a value is in the frozen part -/
mutual
inductive Rep (K : PySem.W.Frag) (F : Hp) : V → D → Prop
  | non : Rep K F .non .non
  | bl (b : Bool) : Rep K F (.bl b) (.bl b)
  | int (i : Int) : Rep K F (.int i) (.int i)
  | str (x : Str) : Rep K F (.str x) (.str x)
  | tup {a : Addr} {vs : List V} {ds : List D} : SqT K F a vs → Reps K F vs ds → Rep K F (.ref a) (.tup ds)
  | lst {a : Addr} {vs : List V} {ds : List D} : F a = some (.lst vs) → Reps K F vs ds → Rep K F (.ref a) (.lst ds)
  | dct {a : Addr} {kvs : List (Key × V)} {ks : List Key} {ds : List D} : F a = some (.dK kvs) → kvs.map (·.1) = ks → Reps K F (kvs.map (·.2)) ds → Rep K F (.ref a) (.dct ks ds)
  | dcu {a : Addr} {kvs : List (List Key × V)} {ks : List (List Key)} {ds : List D} : F a = some (.dT kvs) → kvs.map (·.1) = ks → Reps K F (kvs.map (·.2)) ds → Rep K F (.ref a) (.dcu ks ds)
  | obj (a : Addr) : Rep K F (.ref a) (.obj a)
  | scr {a : Addr} {ns : List Int} : SqL K F a (ns.map V.int) → Rep K F (.ref a) (.scr ns)
  | ty (t : Ty) : Rep K F (.ty t.name) (.ty t)
  | ktp {a : Addr} {vs : List V} {ds : List D} : F a = some (.tup vs) → Reps K F vs ds → Rep K F (.ref a) (.ktp ds)
inductive Reps (K : PySem.W.Frag) (F : Hp) : List V → List D → Prop
  | nil : Reps K F [] []
  | cons {v : V} {vs : List V} {d : D} {ds : List D} : Rep K F v d → Reps K F vs ds → Reps K F (v :: vs) (d :: ds)
end

def Ext (F F' : Hp) : Prop := ∀ a o, F a = some o → F' a = some o
theorem Ext.refl (F : Hp) : Ext F F := fun _ _ h => h
theorem Ext.trans {F G H : Hp} (a : Ext F G) (b : Ext G H) : Ext F H := fun x o h => b x o (a x o h)
theorem Ext.new {F : Hp} {p : Addr} {o : HO} (h : F p = none) : Ext F (upd F p o) := fun a u e => by
  rw [upd_ne (ne_of_none e h)]
  exact e
theorem Ext.rd {F G : Hp} (e : Ext F G) {a : Addr} {u : HO} (h : Rd F a u) : Rd G a u := by
  rcases h with h | ⟨o, h⟩
  · exact .inl (e _ _ h)
  · exact .inr ⟨o, e _ _ h⟩
theorem Ext.sqL {K : PySem.W.Frag} {F G : Hp} (e : Ext F G) {a : Addr} {xs : List V} (h : SqL K F a xs) : SqL K G a xs := h.elim (fun z => .inl (e.rd z)) .inr
theorem Ext.sqT {K : PySem.W.Frag} {F G : Hp} (e : Ext F G) {a : Addr} {xs : List V} (h : SqT K F a xs) : SqT K G a xs := h.elim (fun z => .inl (e.rd z)) .inr

mutual
theorem Rep.mono {K : PySem.W.Frag} {F G : Hp} (e : Ext F G) : ∀ {v : V} {d : D}, Rep K F v d → Rep K G v d
  | _, _, .non => .non
  | _, _, .bl b => .bl b
  | _, _, .int i => .int i
  | _, _, .str x => .str x
  | _, _, .tup h r => .tup (e.sqT h) (Reps.mono e r)
  | _, _, .lst h r => .lst (e _ _ h) (Reps.mono e r)
  | _, _, .dct h k r => .dct (e _ _ h) k (Reps.mono e r)
  | _, _, .dcu h k r => .dcu (e _ _ h) k (Reps.mono e r)
  | _, _, .obj a => .obj a
  | _, _, .scr h => .scr (e.sqL h)
  | _, _, .ty t => .ty t
  | _, _, .ktp h r => .ktp (e _ _ h) (Reps.mono e r)
theorem Reps.mono {K : PySem.W.Frag} {F G : Hp} (e : Ext F G) : ∀ {vs : List V} {ds : List D}, Reps K F vs ds → Reps K G vs ds
  | _, _, .nil => .nil
  | _, _, .cons h r => .cons (Rep.mono e h) (Reps.mono e r)
end
section
variable {K : PySem.W.Frag} {F G H : Hp}
theorem Reps.length : ∀ {vs : List V} {ds : List D}, Reps K F vs ds → vs.length = ds.length
  | _, _, .nil => rfl
  | _, _, .cons _ r => congrArg (· + 1) (Reps.length r)
theorem Reps.get : ∀ {vs : List V} {ds : List D} {i : Nat} {d : D}, Reps K F vs ds → ds[i]? = some d → ∃ v, vs[i]? = some v ∧ Rep K F v d
  | _, _, _, _, .nil, h => by simp at h
  | _, _, 0, _, .cons r _, h => by
    have e := Option.some.inj h
    subst e
    exact ⟨_, rfl, r⟩
  | _, _, i + 1, _, .cons _ t, h => Reps.get (i := i) t h
theorem Reps.append : ∀ {vs ws : List V} {ds es : List D}, Reps K F vs ds → Reps K F ws es → Reps K F (vs ++ ws) (ds ++ es)
  | _, _, _, _, .nil, s => s
  | _, _, _, _, .cons r t, s => .cons r (Reps.append t s)
theorem Reps.one {v : V} {d : D} (h : Rep K F v d) : Reps K F [v] [d] := .cons h .nil
theorem Reps.set : ∀ {vs : List V} {ds : List D} {v : V} {d : D} (i : Nat), Reps K F vs ds → Rep K F v d → Reps K F (vs.set i v) (ds.set i d)
  | _, _, _, _, _, .nil, _ => .nil
  | _, _, _, _, 0, .cons _ t, r => .cons r t
  | _, _, _, _, i + 1, .cons q t, r => .cons q (Reps.set i t r)
theorem Reps.take : ∀ {vs : List V} {ds : List D} (n : Nat), Reps K F vs ds → Reps K F (vs.take n) (ds.take n)
  | _, _, 0, _ => .nil
  | _, _, _ + 1, .nil => .nil
  | _, _, n + 1, .cons r t => .cons r (Reps.take n t)
theorem Reps.drop : ∀ {vs : List V} {ds : List D} (n : Nat), Reps K F vs ds → Reps K F (vs.drop n) (ds.drop n)
  | _, _, 0, r => r
  | _, _, _ + 1, .nil => .nil
  | _, _, n + 1, .cons _ t => Reps.drop n t
theorem Reps.dropLast {vs : List V} {ds : List D} (h : Reps K F vs ds) : Reps K F vs.dropLast ds.dropLast := by
  rw [List.dropLast_eq_take, List.dropLast_eq_take, h.length]
  exact h.take _
theorem Reps.rep {vs : List V} {ds : List D} (h : Reps K F vs ds) : ∀ k : Nat, Reps K F (List.replicate k vs).flatten (List.replicate k ds).flatten
  | 0 => .nil
  | k + 1 => by
    rw [List.replicate_succ, List.replicate_succ, List.flatten_cons, List.flatten_cons]
    exact h.append (Reps.rep h k)
theorem Reps.rev {vs : List V} {ds : List D} (h : Reps K F vs ds) : Reps K F vs.reverse ds.reverse := by
  induction h using Reps.rec (motive_1 := fun _ _ _ => True) with
  | nil => exact .nil
  | cons a b _ ih =>
    rw [List.reverse_cons, List.reverse_cons]
    exact ih.append (.one a)
  | _ => trivial
theorem Reps.ints : ∀ {vs : List V} {ns : List Int}, Reps K F vs (ns.map D.int) → vs = ns.map V.int
  | _, [], .nil => rfl
  | _, n :: ns, .cons r t => by
    cases r
    rw [List.map_cons, Reps.ints t]
theorem Reps.ofInts : ∀ (ns : List Int), Reps K F (ns.map V.int) (ns.map D.int)
  | [] => .nil
  | n :: ns => .cons (.int n) (Reps.ofInts ns)
theorem Reps.bools : ∀ {vs : List V} {ns : List Bool}, Reps K F vs (ns.map D.bl) → vs = ns.map V.bl
  | _, [], .nil => rfl
  | _, n :: ns, .cons r t => by
    cases r
    rw [List.map_cons, Reps.bools t]
theorem Reps.strs : ∀ {vs : List V} {ns : List Str}, Reps K F vs (ns.map D.str) → vs = ns.map V.str
  | _, [], .nil => rfl
  | _, n :: ns, .cons r t => by
    cases r
    rw [List.map_cons, Reps.strs t]
end

/-! ### plain data as the library's data -/
mutual
theorem Rep.dp {K : PySem.W.Frag} {F H : Hp} (e : Ext F H) : ∀ {n : Nat} {v : V} {d : D}, Rep K F v d → shD n d = true → Dp K H v d.pd
  | _, _, _, .non, _ => .non
  | _, _, _, .bl b, _ => .bl b
  | _, _, _, .int i, _ => .int i
  | _, _, _, .str x, _ => .str x
  | 0, _, _, .tup _ _, s => by simp [shD] at s
  | n + 1, _, _, .tup h r, s => .tup (e.sqT h) (Reps.dp (n := n) e r s)
  | 0, _, _, .lst _ _, s => by simp [shD] at s
  | n + 1, _, _, .lst h r, s => .lst (.of (e _ _ h)) (Reps.dp (n := n) e r s)
  | 0, _, _, .dct _ _ _, s => by simp [shD] at s
  | n + 1, _, _, .dct _ _ _, s => by simp [shD] at s
  | 0, _, _, .dcu _ _ _, s => by simp [shD] at s
  | n + 1, _, _, .dcu _ _ _, s => by simp [shD] at s
  | 0, _, _, .obj _, s => by simp [shD] at s
  | n + 1, _, _, .obj _, s => by simp [shD] at s
  | 0, _, _, .scr _, s => by simp [shD] at s
  | n + 1, _, _, .scr _, s => by simp [shD] at s
  | 0, _, _, .ty _, s => by simp [shD] at s
  | n + 1, _, _, .ty _, s => by simp [shD] at s
  | 0, _, _, .ktp _ _, s => by simp [shD] at s
  | n + 1, _, _, .ktp _ _, s => by simp [shD] at s
theorem Reps.dp {K : PySem.W.Frag} {F H : Hp} (e : Ext F H) : ∀ {n : Nat} {vs : List V} {ds : List D}, Reps K F vs ds → ds.all (shD n) = true → DpAll K H vs (D.pds ds)
  | _, _, _, .nil, _ => .nil
  | n, _, _, .cons r t, s => by
    rw [List.all_cons, Bool.and_eq_true] at s
    exact .cons (Rep.dp e r s.1) (Reps.dp e t s.2)
end
mutual
theorem can_sh : ∀ (n : Nat) (d : D), shD n d = true → d.pd.canLay0 = true
  | _, .non, _ => rfl
  | _, .bl _, _ => rfl
  | _, .int _, _ => rfl
  | 0, .str x, h => h
  | n + 1, .str x, h => h
  | n + 1, .tup ds, h => can_shs n ds h
  | n + 1, .lst ds, h => can_shs n ds h
  | 0, .tup ds, h => by simp [shD] at h
  | 0, .lst ds, h => by simp [shD] at h
  | 0, .dct _ _, h => by simp [shD] at h
  | n + 1, .dct _ _, h => by simp [shD] at h
  | 0, .dcu _ _, h => by simp [shD] at h
  | n + 1, .dcu _ _, h => by simp [shD] at h
  | 0, .obj _, h => by simp [shD] at h
  | n + 1, .obj _, h => by simp [shD] at h
  | 0, .scr _, h => by simp [shD] at h
  | n + 1, .scr _, h => by simp [shD] at h
  | 0, .ty _, h => by simp [shD] at h
  | n + 1, .ty _, h => by simp [shD] at h
  | 0, .ktp _, h => by simp [shD] at h
  | n + 1, .ktp _, h => by simp [shD] at h
theorem can_shs : ∀ (n : Nat) (ds : List D), ds.all (shD n) = true → PyData.canLayAll0 (D.pds ds) = true
  | _, [], _ => rfl
  | n, d :: ds, h => by
    rw [List.all_cons, Bool.and_eq_true] at h
    show (PyData.canLay0 d.pd && PyData.canLayAll0 (D.pds ds)) = true
    rw [can_sh n d h.1, can_shs n ds h.2]
    rfl
end
mutual
theorem depth_sh : ∀ (n : Nat) (d : D), shD n d = true → d.pd.depth ≤ n
  | _, .non, _ => Nat.zero_le _
  | _, .bl _, _ => Nat.zero_le _
  | _, .int _, _ => Nat.zero_le _
  | _, .str x, _ => Nat.zero_le _
  | n + 1, .tup ds, h => Nat.succ_le_succ (depth_shs n ds h)
  | n + 1, .lst ds, h => Nat.succ_le_succ (depth_shs n ds h)
  | 0, .tup ds, h => by simp [shD] at h
  | 0, .lst ds, h => by simp [shD] at h
  | 0, .dct _ _, h => by simp [shD] at h
  | n + 1, .dct _ _, h => by simp [shD] at h
  | 0, .dcu _ _, h => by simp [shD] at h
  | n + 1, .dcu _ _, h => by simp [shD] at h
  | 0, .obj _, h => by simp [shD] at h
  | n + 1, .obj _, h => by simp [shD] at h
  | 0, .scr _, h => by simp [shD] at h
  | n + 1, .scr _, h => by simp [shD] at h
  | 0, .ty _, h => by simp [shD] at h
  | n + 1, .ty _, h => by simp [shD] at h
  | 0, .ktp _, h => by simp [shD] at h
  | n + 1, .ktp _, h => by simp [shD] at h
theorem depth_shs : ∀ (n : Nat) (ds : List D), ds.all (shD n) = true → PyData.depthAll (D.pds ds) ≤ n
  | _, [], _ => Nat.zero_le _
  | n, d :: ds, h => by
    rw [List.all_cons, Bool.and_eq_true] at h
    exact Nat.max_le.mpr ⟨depth_sh n d h.1, depth_shs n ds h.2⟩
end
theorem shaped_sh {n : Nat} {d : D} (h : shD n d = true) (hn : n ≤ 64) : SeqAt.shaped d.pd = true := by
  show (PyData.canLay0 d.pd && decide (PyData.depth d.pd ≤ 64)) = true
  rw [can_sh n d h, decide_eq_true (Nat.le_trans (depth_sh n d h) hn)]
  rfl
mutual
theorem eqD_pd : ∀ (n : Nat) (d e : D), shD n d = true → shD n e = true → PyData.eqv d.pd e.pd = eqD d e
  | _, .non, .non, _, _ => rfl
  | _, .non, .bl _, _, _ => rfl
  | _, .non, .int _, _, _ => rfl
  | _, .non, .str _, _, _ => rfl
  | _, .non, .tup _, _, _ => rfl
  | _, .non, .lst _, _, _ => rfl
  | _, .bl _, .non, _, _ => rfl
  | _, .bl _, .bl _, _, _ => rfl
  | _, .bl _, .int _, _, _ => rfl
  | _, .bl _, .str _, _, _ => rfl
  | _, .bl _, .tup _, _, _ => rfl
  | _, .bl _, .lst _, _, _ => rfl
  | _, .int _, .non, _, _ => rfl
  | _, .int _, .bl _, _, _ => rfl
  | _, .int _, .int _, _, _ => rfl
  | _, .int _, .str _, _, _ => rfl
  | _, .int _, .tup _, _, _ => rfl
  | _, .int _, .lst _, _, _ => rfl
  | _, .str _, .non, _, _ => rfl
  | _, .str _, .bl _, _, _ => rfl
  | _, .str _, .int _, _, _ => rfl
  | _, .str _, .str _, _, _ => rfl
  | _, .str _, .tup _, _, _ => rfl
  | _, .str _, .lst _, _, _ => rfl
  | _, .tup _, .non, _, _ => rfl
  | _, .tup _, .bl _, _, _ => rfl
  | _, .tup _, .int _, _, _ => rfl
  | _, .tup _, .str _, _, _ => rfl
  | n + 1, .tup xs, .tup ys, h, k => by
    show PyData.eqvAll (D.pds xs) (D.pds ys) = eqDs xs ys
    exact eqDs_pd n xs ys h k
  | _, .tup _, .lst _, _, _ => rfl
  | _, .lst _, .non, _, _ => rfl
  | _, .lst _, .bl _, _, _ => rfl
  | _, .lst _, .int _, _, _ => rfl
  | _, .lst _, .str _, _, _ => rfl
  | _, .lst _, .tup _, _, _ => rfl
  | n + 1, .lst xs, .lst ys, h, k => by
    show PyData.eqvAll (D.pds xs) (D.pds ys) = eqDs xs ys
    exact eqDs_pd n xs ys h k
  | 0, .tup _, _, h, _ => by simp [shD] at h
  | 0, .lst _, _, h, _ => by simp [shD] at h
  | n, .dct _ _, _, h, _ => by cases n <;> simp [shD] at h
  | n, .dcu _ _, _, h, _ => by cases n <;> simp [shD] at h
  | n, .obj _, _, h, _ => by cases n <;> simp [shD] at h
  | n, .scr _, _, h, _ => by cases n <;> simp [shD] at h
  | n, .ty _, _, h, _ => by cases n <;> simp [shD] at h
  | n, .ktp _, _, h, _ => by cases n <;> simp [shD] at h
  | n, _, .dct _ _, _, h => by cases n <;> simp [shD] at h
  | n, _, .dcu _ _, _, h => by cases n <;> simp [shD] at h
  | n, _, .obj _, _, h => by cases n <;> simp [shD] at h
  | n, _, .scr _, _, h => by cases n <;> simp [shD] at h
  | n, _, .ty _, _, h => by cases n <;> simp [shD] at h
  | n, _, .ktp _, _, h => by cases n <;> simp [shD] at h
theorem eqDs_pd : ∀ (n : Nat) (ds es : List D), ds.all (shD n) = true → es.all (shD n) = true → PyData.eqvAll (D.pds ds) (D.pds es) = eqDs ds es
  | _, [], [], _, _ => rfl
  | _, [], _ :: _, _, _ => rfl
  | _, _ :: _, [], _, _ => rfl
  | n, d :: ds, e :: es, h, k => by
    rw [List.all_cons, Bool.and_eq_true] at h k
    show (PyData.eqv d.pd e.pd && PyData.eqvAll (D.pds ds) (D.pds es)) = (eqD d e && eqDs ds es)
    rw [eqD_pd n d e h.1 k.1, eqDs_pd n ds es h.2 k.2]
end

/-! ### the state: slots, frozen part, objects -/
/-- the entry of a def (or of a comprehension's turn): frozen part, heap, objects, what its names own -/
structure En where
  F : Hp
  H : Hp
  h : Oh
  ow : Addr → Prop

/-- where the class of that name stands -/
def clsAt (K : PySem.W.Frag) (c : Str) : Addr := match PySem.W.nsIn K mainGlobals c with
  | some (some (.ref C)) => C
  | _ => 0
theorem clsAt_is {K : PySem.W.Frag} {c : Str} {C : Addr} (h : PySem.W.nsIn K mainGlobals c = some (some (.ref C))) : clsAt K c = C := by unfold clsAt; rw [h]
/-- an exception: its class, its fields -/
def XAt (K : PySem.W.Frag) (F : Hp) (c : Str) (fs : List (Str × D)) (cls : Value) (dd : Option Addr) : Prop :=
  cls = .ref (clsAt K c) ∧ ((fs = [] ∧ dd = none) ∨ ∃ d0 vfs, dd = some d0 ∧ F d0 = some (.xd vfs) ∧ vfs.map (·.1) = fs.map (·.1) ∧ Reps K F (vfs.map (·.2)) (fs.map (·.2)))
def ObAt (K : PySem.W.Frag) (F H : Hp) (a : Addr) : Ob → Prop
  | .ml ds => ∃ vs, H a = some (.lst vs) ∧ Reps K F vs ds
  | .md ks ds => ∃ kvs, H a = some (.dK kvs) ∧ kvs.map (·.1) = ks ∧ Reps K F (kvs.map (·.2)) ds
  | .mu ks ds => ∃ kvs, H a = some (.dT kvs) ∧ kvs.map (·.1) = ks ∧ Reps K F (kvs.map (·.2)) ds
  | .ins c fs => ∃ dx vfs, H a = some (.ins (clsAt K c) dx vfs) ∧ vfs.map (·.1) = fs.map (·.1) ∧ Reps K F (vfs.map (·.2)) (fs.map (·.2))
  | .lk u ks ds => H a = some u ∧ ∃ od kvs, u = .frz od (.dK kvs) ∧ kvs.map (·.1) = ks ∧ Reps K F (kvs.map (·.2)) ds
  | .lku u ks ds => H a = some u ∧ ∃ od kvs, u = .frz od (.dT kvs) ∧ kvs.map (·.1) = ks ∧ Reps K F (kvs.map (·.2)) ds
def OwAt (K : PySem.W.Frag) (F H : Hp) (a : Addr) : D → Prop
  | .lst ds => ∃ vs, H a = some (.lst vs) ∧ Reps K F vs ds
  | .dct ks ds => ∃ kvs, H a = some (.dK kvs) ∧ kvs.map (·.1) = ks ∧ Reps K F (kvs.map (·.2)) ds
  | .dcu ks ds => ∃ kvs, H a = some (.dT kvs) ∧ kvs.map (·.1) = ks ∧ Reps K F (kvs.map (·.2)) ds
  | _ => False
section
variable {K : PySem.W.Frag} {F F' H H' : Hp} {a : Addr}
theorem ObAt.there {o : Ob} (h : ObAt K F H a o) : H a ≠ none := by
  cases o with
  | ml ds => obtain ⟨vs, e, _⟩ := h; rw [e]; simp
  | md ks ds => obtain ⟨vs, e, _⟩ := h; rw [e]; simp
  | mu ks ds => obtain ⟨vs, e, _⟩ := h; rw [e]; simp
  | ins C fs => obtain ⟨dx, vs, e, _⟩ := h; rw [e]; simp
  | lk u ks ds => rw [h.1]; simp
  | lku u ks ds => rw [h.1]; simp
theorem ObAt.mono {o : Ob} (h : ObAt K F H a o) (e : Ext F F') (k : H' a = H a) : ObAt K F' H' a o := by
  cases o with
  | ml ds => obtain ⟨vs, q, r⟩ := h; exact ⟨vs, k.trans q, r.mono e⟩
  | md ks ds => obtain ⟨vs, q, z, r⟩ := h; exact ⟨vs, k.trans q, z, r.mono e⟩
  | mu ks ds => obtain ⟨vs, q, z, r⟩ := h; exact ⟨vs, k.trans q, z, r.mono e⟩
  | ins C fs => obtain ⟨dx, vs, q, z, r⟩ := h; exact ⟨dx, vs, k.trans q, z, r.mono e⟩
  | lk u ks ds => obtain ⟨h1, od, kvs, q, z, r⟩ := h; exact ⟨k.trans h1, od, kvs, q, z, r.mono e⟩
  | lku u ks ds => obtain ⟨h1, od, kvs, q, z, r⟩ := h; exact ⟨k.trans h1, od, kvs, q, z, r.mono e⟩
theorem OwAt.there {d : D} (h : OwAt K F H a d) : H a ≠ none := by
  cases d with
  | lst ds => obtain ⟨vs, e, _⟩ := h; rw [e]; simp
  | dct ks ds => obtain ⟨vs, e, _⟩ := h; rw [e]; simp
  | dcu ks ds => obtain ⟨vs, e, _⟩ := h; rw [e]; simp
  | _ => exact h.elim
theorem OwAt.mono {d : D} (h : OwAt K F H a d) (e : Ext F F') (k : H' a = H a) : OwAt K F' H' a d := by
  cases d with
  | lst ds => obtain ⟨vs, q, r⟩ := h; exact ⟨vs, k.trans q, r.mono e⟩
  | dct ks ds => obtain ⟨vs, q, z, r⟩ := h; exact ⟨vs, k.trans q, z, r.mono e⟩
  | dcu ks ds => obtain ⟨vs, q, z, r⟩ := h; exact ⟨vs, k.trans q, z, r.mono e⟩
  | _ => exact h.elim
/-- an owned container, frozen -/
theorem OwAt.rep {d : D} {o : HO} (h : OwAt K F H a d) (ho : H a = some o) (hn : F a = none) : Rep K (upd F a o) (.ref a) d := by
  cases d with
  | lst ds =>
    obtain ⟨vs, q, r⟩ := h
    rw [ho] at q; cases q
    exact .lst upd_same (r.mono (.new hn))
  | dct ks ds =>
    obtain ⟨vs, q, z, r⟩ := h
    rw [ho] at q; cases q
    exact .dct upd_same z (r.mono (.new hn))
  | dcu ks ds =>
    obtain ⟨vs, q, z, r⟩ := h
    rw [ho] at q; cases q
    exact .dcu upd_same z (r.mono (.new hn))
  | _ => exact h.elim
end

def TupO (x : Option HO) : Prop := ∃ vs, x = some (.tup vs)
theorem TupO.upd {H : Hp} {p b : Addr} {o : HO} {F : Hp} (h : F b = none ∨ TupO (H b)) (hp : F p = none) : F b = none ∨ TupO (upd H p o b) := by
  by_cases e : b = p
  · subst e; exact .inl hp
  · rw [upd_ne e]; exact h
theorem TupO.ob {K : PySem.W.Frag} {F H : Hp} {a : Addr} {o : Ob} (h : ObAt K F H a o) : ¬ TupO (H a) := by
  rintro ⟨ws, e⟩
  cases o with
  | ml ds => obtain ⟨vs, q, _⟩ := h; rw [e] at q; cases q
  | md ks ds => obtain ⟨vs, q, _⟩ := h; rw [e] at q; cases q
  | mu ks ds => obtain ⟨vs, q, _⟩ := h; rw [e] at q; cases q
  | ins C fs => obtain ⟨dx, vs, q, _⟩ := h; rw [e] at q; cases q
  | lk u ks ds => obtain ⟨h1, od, kvs, q, _⟩ := h; rw [e, q] at h1; cases h1
  | lku u ks ds => obtain ⟨h1, od, kvs, q, _⟩ := h; rw [e, q] at h1; cases h1
theorem TupO.ow {K : PySem.W.Frag} {F H : Hp} {a : Addr} {d : D} (h : OwAt K F H a d) : ¬ TupO (H a) := by
  rintro ⟨ws, e⟩
  cases d with
  | lst ds => obtain ⟨vs, q, _⟩ := h; rw [e] at q; cases q
  | dct ks ds => obtain ⟨vs, q, _⟩ := h; rw [e] at q; cases q
  | dcu ks ds => obtain ⟨vs, q, _⟩ := h; rw [e] at q; cases q
  | _ => exact h.elim
/-- what has grown since the entry -/
structure Gr (K : PySem.W.Frag) (E : En) (F H : Hp) (h : Oh) : Prop where
  ext : Ext F H
  gF : Ext E.F F
  gN : ∀ b, E.F b = none → E.H b ≠ none → ¬ E.ow b → F b = none ∨ TupO (H b)
  gH : ∀ b o, E.H b = some o → E.h b = none → ¬ E.ow b → H b = some o
  gP : ∀ b, E.H b ≠ none → H b ≠ none
  gO : ∀ a, h a ≠ none → E.h a ≠ none ∨ E.H a = none ∨ E.ow a
  obs : ∀ a ob, h a = some ob → ObAt K F H a ob ∧ F a = none

structure Rel (K : PySem.W.Frag) (E : En) (F H : Hp) (σ : L2.St) (S : Sg) : Prop where
  g : Gr K E F H S.h
  len : S.s.length = σ.length
  frz : ∀ (i : Nat) (d : D), S.s[i]? = some (.f d) → ∃ v, σ[i]? = some (some v) ∧ Rep K F v d
  own : ∀ (i : Nat) (d : D), S.s[i]? = some (.o d) → ∃ p, σ[i]? = some (some (.ref p)) ∧ OwAt K F H p d ∧ F p = none ∧ S.h p = none ∧ (E.H p = none ∨ E.ow p)
  inj : ∀ (i j : Nat) (d e : D) (p : Addr), S.s[i]? = some (.o d) → S.s[j]? = some (.o e) → σ[i]? = some (some (.ref p)) → σ[j]? = some (some (.ref p)) → i = j

/-- a fresh container that no name owns -/
structure Fresh (K : PySem.W.Frag) (E : En) (F H : Hp) (σ : L2.St) (S : Sg) (p : Addr) (d : D) : Prop where
  at_ : OwAt K F H p d
  nF : F p = none
  nh : S.h p = none
  nE : E.H p = none
  no : ∀ (i : Nat) (e : D), S.s[i]? = some (.o e) → σ[i]? ≠ some (some (.ref p))

section
variable {K : PySem.W.Frag} {E : En} {F F' H H' : Hp} {σ : L2.St} {S : Sg} {p : Addr} {o : HO}
theorem Gr.noF (g : Gr K E F H S.h) (hp : H p = none) : F p = none := by
  cases e : F p with
  | none => rfl
  | some x => rw [g.ext _ _ e] at hp; cases hp
theorem Gr.free (g : Gr K E F H S.h) (hp : H p = none) : E.H p = none := by
  cases e : E.H p with
  | none => rfl
  | some x => exact absurd hp (g.gP p (by rw [e]; simp))
theorem Gr.noob (g : Gr K E F H S.h) (hp : H p = none) : S.h p = none := by
  cases e : S.h p with
  | none => rfl
  | some x => exact absurd hp (g.obs _ _ e).1.there
/-- a new frozen object -/
theorem Rel.fz (R : Rel K E F H σ S) (hp : H p = none) : Rel K E (upd F p o) (upd H p o) σ S := by
  have nF : F p = none := R.g.noF hp
  have nE : E.H p = none := R.g.free hp
  have x : Ext F (upd F p o) := .new nF
  have ne : ∀ b, H b ≠ none → b ≠ p := fun b hb z => hb (z ▸ hp)
  refine ⟨⟨fun b u e => ?_, R.g.gF.trans x, fun b h1 h2 h3 => ?_, fun b u h1 h2 h3 => ?_, fun b h1 => ?_, R.g.gO, fun a ob e => ?_⟩, R.len, fun i d e => ?_, fun i d e => ?_, R.inj⟩
  · by_cases hb : b = p
    · subst hb; rw [upd_same] at e ⊢; exact e
    · rw [upd_ne hb] at e ⊢; exact R.g.ext _ _ e
  · have nb := ne b (R.g.gP b h2)
    rw [upd_ne nb, upd_ne nb]; exact R.g.gN b h1 h2 h3
  · have := R.g.gH b u h1 h2 h3
    rw [upd_ne (ne b (by rw [this]; simp))]; exact this
  · by_cases hb : b = p
    · subst hb; rw [upd_same]; simp
    · rw [upd_ne hb]; exact R.g.gP b h1
  · obtain ⟨h1, h2⟩ := R.g.obs a ob e
    have na := ne a h1.there
    exact ⟨h1.mono x (upd_ne na), by rw [upd_ne na]; exact h2⟩
  · obtain ⟨v, h1, h2⟩ := R.frz i d e
    exact ⟨v, h1, h2.mono x⟩
  · obtain ⟨q, h1, h2, h3, h4, h5⟩ := R.own i d e
    have nq := ne q h2.there
    exact ⟨q, h1, h2.mono x (upd_ne nq), by rw [upd_ne nq]; exact h3, h4, h5⟩
/-- a new container that nobody owns -/
theorem Rel.fresh (R : Rel K E F H σ S) (hp : H p = none) : Rel K E F (upd H p o) σ S ∧ F p = none ∧ S.h p = none ∧ E.H p = none ∧ ∀ (i : Nat) (e : D), S.s[i]? = some (.o e) → σ[i]? ≠ some (some (.ref p)) := by
  have nF : F p = none := R.g.noF hp
  have nE : E.H p = none := R.g.free hp
  have ne : ∀ b, H b ≠ none → b ≠ p := fun b hb z => hb (z ▸ hp)
  refine ⟨⟨⟨fun b u e => ?_, R.g.gF, fun b h1 h2 h3 => TupO.upd (R.g.gN b h1 h2 h3) nF, fun b u h1 h2 h3 => ?_, fun b h1 => ?_, R.g.gO, fun a ob e => ?_⟩, R.len, R.frz, fun i d e => ?_, R.inj⟩, nF, R.g.noob hp, nE, fun i e h1 h2 => ?_⟩
  · have := R.g.ext _ _ e
    rw [upd_ne (ne b (by rw [this]; simp))]; exact this
  · have := R.g.gH b u h1 h2 h3
    rw [upd_ne (ne b (by rw [this]; simp))]; exact this
  · by_cases hb : b = p
    · subst hb; rw [upd_same]; simp
    · rw [upd_ne hb]; exact R.g.gP b h1
  · obtain ⟨h1, h2⟩ := R.g.obs a ob e
    have na := ne a h1.there
    exact ⟨h1.mono (.refl _) (upd_ne na), h2⟩
  · obtain ⟨q, h1, h2, h3, h4, h5⟩ := R.own i d e
    have nq := ne q h2.there
    exact ⟨q, h1, h2.mono (.refl _) (upd_ne nq), h3, h4, h5⟩
  · obtain ⟨q, h3, h4, _⟩ := R.own i e h1
    rw [h2] at h3
    cases h3
    exact h4.there hp
/-- a fresh container is frozen -/
theorem Rel.freezeN {d : D} (R : Rel K E F H σ S) (f : Fresh K E F H σ S p d) (ho : H p = some o) : Rel K E (upd F p o) H σ S := by
  have x : Ext F (upd F p o) := .new f.nF
  refine ⟨⟨fun b u e => ?_, R.g.gF.trans x, fun b h1 h2 h3 => ?_, R.g.gH, R.g.gP, R.g.gO, fun a ob e => ?_⟩, R.len, fun i d e => ?_, fun i d e => ?_, R.inj⟩
  · by_cases hb : b = p
    · subst hb; rw [upd_same] at e; cases e; exact ho
    · rw [upd_ne hb] at e; exact R.g.ext _ _ e
  · have : b ≠ p := fun z => h2 (z ▸ f.nE)
    rw [upd_ne this]; exact R.g.gN b h1 h2 h3
  · obtain ⟨h1, h2⟩ := R.g.obs a ob e
    have na : a ≠ p := fun z => by rw [z, f.nh] at e; cases e
    exact ⟨h1.mono x rfl, by rw [upd_ne na]; exact h2⟩
  · obtain ⟨v, h1, h2⟩ := R.frz i d e
    exact ⟨v, h1, h2.mono x⟩
  · obtain ⟨q, h1, h2, h3, h4, h5⟩ := R.own i d e
    have nq : q ≠ p := fun z => f.no i d e (z ▸ h1)
    exact ⟨q, h1, h2.mono x rfl, by rw [upd_ne nq]; exact h3, h4, h5⟩
end

/-- new frozen objects, nothing else -/
structure Al (F H F' H' : Hp) : Prop where
  xF : Ext F F'
  xH : Ext H H'
  new : ∀ b, F b = none → H b ≠ none → F' b = none ∨ TupO (H b)
  ext : Ext F' H'
section
variable {K : PySem.W.Frag} {E : En} {F F' F2 H H' H2 : Hp} {σ σ' : L2.St} {S : Sg} {p : Addr} {o : HO} {d : D} {v : V} {i : Nat}
theorem Al.refl (e : Ext F H) : Al F H F H := ⟨.refl _, .refl _, fun _ h _ => .inl h, e⟩
theorem Al.one (e : Ext F H) (hp : H p = none) : Al F H (upd F p o) (upd H p o) := by
  have nF : F p = none := by
    cases q : F p with
    | none => rfl
    | some x => rw [e _ _ q] at hp; cases hp
  refine ⟨.new nF, .new hp, fun b h1 h2 => ?_, fun b u h => ?_⟩
  · rw [upd_ne (fun z => h2 (by rw [z]; exact hp))]; exact .inl h1
  · by_cases hb : b = p
    · subst hb; rw [upd_same] at h ⊢; exact h
    · rw [upd_ne hb] at h ⊢; exact e _ _ h
theorem Ext.ne {F H : Hp} (e : Ext F H) {b : Addr} (h : F b ≠ none) : H b = F b := by
  cases q : F b with
  | none => exact absurd q h
  | some x => exact e _ _ q
theorem Al.trans (a : Al F H F' H') (b : Al F' H' F2 H2) : Al F H F2 H2 :=
  ⟨a.xF.trans b.xF, a.xH.trans b.xH, fun c h1 h2 => (a.new c h1 h2).elim (fun q => by have z := b.new c q (by rw [a.xH.ne h2]; exact h2); rwa [a.xH.ne h2] at z) .inr, b.ext⟩
theorem Rel.al (R : Rel K E F H σ S) (a : Al F H F' H') : Rel K E F' H' σ S := by
  refine ⟨⟨a.ext, R.g.gF.trans a.xF, fun b h1 h2 h3 => by
    have hb := R.g.gP b h2
    rw [a.xH.ne hb]
    exact (R.g.gN b h1 h2 h3).elim (fun q => a.new b q hb) .inr, fun b u h1 h2 h3 => a.xH _ _ (R.g.gH b u h1 h2 h3), fun b h1 => ?_, R.g.gO, fun q ob e => ?_⟩, R.len, fun i d e => ?_, fun i d e => ?_, R.inj⟩
  · have := R.g.gP b h1
    rw [a.xH.ne this]; exact this
  · obtain ⟨h1, h2⟩ := R.g.obs q ob e
    exact ⟨h1.mono a.xF (a.xH.ne h1.there), (a.new q h2 h1.there).elim id fun z => (TupO.ob h1 z).elim⟩
  · obtain ⟨v, h1, h2⟩ := R.frz i d e
    exact ⟨v, h1, h2.mono a.xF⟩
  · obtain ⟨q, h1, h2, h3, h4, h5⟩ := R.own i d e
    exact ⟨q, h1, h2.mono a.xF (a.xH.ne h2.there), (a.new q h3 h2.there).elim id fun z => (TupO.ow h2 z).elim, h4, h5⟩
def Sg.st (S : Sg) (i : Nat) (x : Sl) : Sg := ⟨S.s.set i x, S.h⟩
theorem ix_lt {α : Type} {l : List α} {i : Nat} {x : α} (h : l[i]? = some x) : i < l.length := (List.getElem?_eq_some_iff.mp h).1
theorem set_get {α : Type} {l : List α} {i j : Nat} {x y : α} (h : (l.set i x)[j]? = some y) : (j = i ∧ x = y ∧ i < l.length) ∨ (j ≠ i ∧ l[j]? = some y) := by
  by_cases e : j = i
  · subst e
    have hl : j < l.length := by simpa using ix_lt h
    rw [List.getElem?_set_self hl] at h
    exact .inl ⟨rfl, Option.some.inj h, hl⟩
  · rw [List.getElem?_set_ne (Ne.symm e)] at h
    exact .inr ⟨e, h⟩
/-- a name gets a frozen value -/
theorem Rel.set (R : Rel K E F H σ S) (r : Rep K F v d) : Rel K E F H (σ.set i (some v)) (S.st i (.f d)) := by
  refine ⟨R.g, by show (S.s.set i _).length = _; rw [List.length_set, List.length_set]; exact R.len, fun j e h => ?_, fun j e h => ?_, fun j l e e' p h1 h2 h3 h4 => ?_⟩
  · rcases set_get h with ⟨rfl, h, hl⟩ | ⟨n, h⟩
    · cases h
      exact ⟨v, List.getElem?_set_self (R.len ▸ hl), r⟩
    · obtain ⟨u, h1, h2⟩ := R.frz j e h
      exact ⟨u, by rw [List.getElem?_set_ne (Ne.symm n)]; exact h1, h2⟩
  · rcases set_get h with ⟨rfl, h, hl⟩ | ⟨n, h⟩
    · cases h
    · obtain ⟨u, h1, h2⟩ := R.own j e h
      exact ⟨u, by rw [List.getElem?_set_ne (Ne.symm n)]; exact h1, h2⟩
  · rcases set_get h1 with ⟨_, h, _⟩ | ⟨n1, g1⟩
    · cases h
    rcases set_get h2 with ⟨_, h, _⟩ | ⟨n2, g2⟩
    · cases h
    rw [List.getElem?_set_ne (Ne.symm n1)] at h3
    rw [List.getElem?_set_ne (Ne.symm n2)] at h4
    exact R.inj j l e e' p g1 g2 h3 h4
/-- a name gets a fresh container -/
theorem Rel.setO (R : Rel K E F H σ S) (f : Fresh K E F H σ S p d) : Rel K E F H (σ.set i (some (.ref p))) (S.st i (.o d)) := by
  refine ⟨R.g, by show (S.s.set i _).length = _; rw [List.length_set, List.length_set]; exact R.len, fun j e h => ?_, fun j e h => ?_, fun j l e e' q h1 h2 h3 h4 => ?_⟩
  · rcases set_get h with ⟨rfl, h, hl⟩ | ⟨n, h⟩
    · cases h
    · obtain ⟨u, h1, h2⟩ := R.frz j e h
      exact ⟨u, by rw [List.getElem?_set_ne (Ne.symm n)]; exact h1, h2⟩
  · rcases set_get h with ⟨rfl, h, hl⟩ | ⟨n, h⟩
    · cases h
      exact ⟨p, List.getElem?_set_self (R.len ▸ hl), f.at_, f.nF, f.nh, .inl f.nE⟩
    · obtain ⟨u, h1, h2⟩ := R.own j e h
      exact ⟨u, by rw [List.getElem?_set_ne (Ne.symm n)]; exact h1, h2⟩
  · rcases set_get h1 with ⟨e1, h, l1⟩ | ⟨n1, g1⟩
    · rcases set_get h2 with ⟨e2, h', _⟩ | ⟨n2, g2⟩
      · exact e1.trans e2.symm
      · subst e1
        rw [List.getElem?_set_self (R.len ▸ l1)] at h3
        rw [List.getElem?_set_ne (Ne.symm n2)] at h4
        cases h3
        exact absurd h4 (f.no l e' g2)
    · rw [List.getElem?_set_ne (Ne.symm n1)] at h3
      rcases set_get h2 with ⟨e2, h', l2⟩ | ⟨n2, g2⟩
      · subst e2
        rw [List.getElem?_set_self (R.len ▸ l2)] at h4
        cases h4
        exact absurd h3 (f.no j e g1)
      · rw [List.getElem?_set_ne (Ne.symm n2)] at h4
        exact R.inj j l e e' q g1 g2 h3 h4
/-- a name's own container is frozen -/
theorem Rel.freeze (R : Rel K E F H σ S) (hi : S.s[i]? = some (.o d)) : ∃ p F', σ[i]? = some (some (.ref p)) ∧ Rep K F' (.ref p) d ∧ Ext F F' ∧ Rel K E F' H σ (S.st i (.f d)) := by
  obtain ⟨p, h1, h2, h3, h4, h5⟩ := R.own i d hi
  obtain ⟨o, ho⟩ := Option.ne_none_iff_exists'.mp h2.there
  have x : Ext F (upd F p o) := .new h3
  have rp := h2.rep ho h3
  refine ⟨p, upd F p o, h1, rp, x, ⟨⟨fun b u e => ?_, R.g.gF.trans x, fun b q1 q2 q3 => ?_, R.g.gH, R.g.gP, R.g.gO, fun a ob e => ?_⟩, by show (S.s.set i _).length = _; rw [List.length_set]; exact R.len, fun j e h => ?_, fun j e h => ?_, fun j l e e' q q1 q2 q3 q4 => ?_⟩⟩
  · by_cases hb : b = p
    · subst hb; rw [upd_same] at e; cases e; exact ho
    · rw [upd_ne hb] at e; exact R.g.ext _ _ e
  · have : b ≠ p := fun z => by
      subst z
      rcases h5 with h5 | h5
      · exact q2 h5
      · exact q3 h5
    rw [upd_ne this]; exact R.g.gN b q1 q2 q3
  · obtain ⟨q1, q2⟩ := R.g.obs a ob e
    have na : a ≠ p := fun z => by have e' : S.h a = some ob := e; rw [z, h4] at e'; cases e'
    exact ⟨q1.mono x rfl, by rw [upd_ne na]; exact q2⟩
  · rcases set_get h with ⟨rfl, h, hl⟩ | ⟨n, h⟩
    · cases h
      exact ⟨_, h1, rp⟩
    · obtain ⟨u, q1, q2⟩ := R.frz j e h
      exact ⟨u, q1, q2.mono x⟩
  · rcases set_get h with ⟨rfl, h, hl⟩ | ⟨n, h⟩
    · cases h
    · obtain ⟨u, q1, q2, q3, q4, q5⟩ := R.own j e h
      have nu : u ≠ p := fun z => n (R.inj j i e d p h hi (z ▸ q1) h1)
      exact ⟨u, q1, q2.mono x rfl, by rw [upd_ne nu]; exact q3, q4, q5⟩
  · rcases set_get q1 with ⟨_, h, _⟩ | ⟨n1, g1⟩
    · cases h
    rcases set_get q2 with ⟨_, h, _⟩ | ⟨n2, g2⟩
    · cases h
    exact R.inj j l e e' q g1 g2 q3 q4
/-- a name's own container changes -/
theorem Rel.mut {e : D} (R : Rel K E F H σ S) (hi : S.s[i]? = some (.o d)) (hp : σ[i]? = some (some (.ref p))) (ha : OwAt K F (upd H p o) p e) : Rel K E F (upd H p o) σ (S.st i (.o e)) := by
  obtain ⟨p', h1, h2, h3, h4, h5⟩ := R.own i d hi
  rw [hp] at h1
  cases h1
  have ne : ∀ b, F b ≠ none → b ≠ p := fun b hb z => hb (z ▸ h3)
  refine ⟨⟨fun b u q => ?_, R.g.gF, fun b q1 q2 q3 => TupO.upd (R.g.gN b q1 q2 q3) h3, fun b u q1 q2 q3 => ?_, fun b q => ?_, R.g.gO, fun a ob q => ?_⟩, by show (S.s.set i _).length = _; rw [List.length_set]; exact R.len, fun j e' h => ?_, fun j e' h => ?_, fun j l x y q q1 q2 q3 q4 => ?_⟩
  · rw [upd_ne (ne b (by rw [q]; simp))]; exact R.g.ext _ _ q
  · have : b ≠ p := fun z => by
      subst z
      rcases h5 with h5 | h5
      · rw [h5] at q1; cases q1
      · exact q3 h5
    rw [upd_ne this]; exact R.g.gH b u q1 q2 q3
  · by_cases hb : b = p
    · subst hb; rw [upd_same]; simp
    · rw [upd_ne hb]; exact R.g.gP b q
  · obtain ⟨q1, q2⟩ := R.g.obs a ob q
    have na : a ≠ p := fun z => by have e' : S.h a = some ob := q; rw [z, h4] at e'; cases e'
    exact ⟨q1.mono (.refl _) (upd_ne na), q2⟩
  · rcases set_get h with ⟨rfl, h, hl⟩ | ⟨n, h⟩
    · cases h
    · exact R.frz j e' h
  · rcases set_get h with ⟨rfl, h, hl⟩ | ⟨n, h⟩
    · cases h
      exact ⟨p, hp, ha, h3, h4, h5⟩
    · obtain ⟨u, q1, q2, q3, q4, q5⟩ := R.own j e' h
      have nu : u ≠ p := fun z => n (R.inj j i e' d p h hi (z ▸ q1) hp)
      exact ⟨u, q1, q2.mono (.refl _) (upd_ne nu), q3, q4, q5⟩
  · have get : ∀ (j : Nat) (x : D), (S.s.set i (.o e))[j]? = some (.o x) → ∃ x', S.s[j]? = some (.o x') := fun j x h => by
      rcases set_get h with ⟨rfl, _, _⟩ | ⟨_, h⟩
      · exact ⟨d, hi⟩
      · exact ⟨x, h⟩
    obtain ⟨x', z1⟩ := get j x q1
    obtain ⟨y', z2⟩ := get l y q2
    exact R.inj j l x' y' q z1 z2 q3 q4
def Sg.ob (S : Sg) (a : Addr) (o : Ob) : Sg := ⟨S.s, S.h.put a o⟩
/-- a known object changes -/
theorem Rel.obput {u : Ob} {a : Addr} (R : Rel K E F H σ S) (hu : S.h a ≠ none) (ha : ObAt K F (upd H a o) a u) : Rel K E F (upd H a o) σ (S.ob a u) := by
  obtain ⟨w, hw⟩ := Option.ne_none_iff_exists'.mp hu
  obtain ⟨h1, h2⟩ := R.g.obs a w hw
  have ne : ∀ b, F b ≠ none → b ≠ a := fun b hb z => hb (z ▸ h2)
  refine ⟨⟨fun b u q => ?_, R.g.gF, fun b q1 q2 q3 => TupO.upd (R.g.gN b q1 q2 q3) h2, fun b u q1 q2 q3 => ?_, fun b q => ?_, fun b q => ?_, fun b ob q => ?_⟩, R.len, R.frz, fun j e' h => ?_, R.inj⟩
  · rw [upd_ne (ne b (by rw [q]; simp))]; exact R.g.ext _ _ q
  · have : b ≠ a := fun z => by
      subst z
      rcases R.g.gO b hu with h | h | h
      · exact h q2
      · rw [h] at q1; cases q1
      · exact q3 h
    rw [upd_ne this]; exact R.g.gH b u q1 q2 q3
  · by_cases hb : b = a
    · subst hb; rw [upd_same]; simp
    · rw [upd_ne hb]; exact R.g.gP b q
  · by_cases hb : b = a
    · subst hb; exact R.g.gO b hu
    · have q' : S.h.put a u b ≠ none := q
      rw [Oh.put_ne hb] at q'; exact R.g.gO b q'
  · by_cases hb : b = a
    · subst hb
      have q' : S.h.put b u b = some ob := q
      rw [Oh.put_same] at q'; cases q'
      exact ⟨ha, h2⟩
    · have q' : S.h.put a u b = some ob := q
      rw [Oh.put_ne hb] at q'
      obtain ⟨q1, q2⟩ := R.g.obs b ob q'
      exact ⟨q1.mono (.refl _) (upd_ne hb), q2⟩
  · obtain ⟨q, q1, q2, q3, q4, q5⟩ := R.own j e' h
    have nq : q ≠ a := fun z => hu (z ▸ q4)
    exact ⟨q, q1, q2.mono (.refl _) (upd_ne nq), q3, by show S.h.put a u q = none; rw [Oh.put_ne nq]; exact q4, q5⟩
/-- a fresh container becomes a known object -/
theorem Rel.obnew {u : Ob} (R : Rel K E F H σ S) (f : Fresh K E F H σ S p d) (ha : ObAt K F H p u) : Rel K E F H σ (S.ob p u) := by
  refine ⟨⟨R.g.ext, R.g.gF, R.g.gN, R.g.gH, R.g.gP, fun b q => ?_, fun b ob q => ?_⟩, R.len, R.frz, fun j e' h => ?_, R.inj⟩
  · by_cases hb : b = p
    · subst hb; exact .inr (.inl f.nE)
    · have q' : S.h.put p u b ≠ none := q
      rw [Oh.put_ne hb] at q'; exact R.g.gO b q'
  · have q' : S.h.put p u b = some ob := q
    by_cases hb : b = p
    · subst hb
      rw [Oh.put_same] at q'; cases q'
      exact ⟨ha, f.nF⟩
    · rw [Oh.put_ne hb] at q'
      exact R.g.obs b ob q'
  · obtain ⟨q, q1, q2, q3, q4, q5⟩ := R.own j e' h
    have nq : q ≠ p := fun z => f.no j e' h (z ▸ q1)
    exact ⟨q, q1, q2, q3, by show S.h.put p u q = none; rw [Oh.put_ne nq]; exact q4, q5⟩
/-- what the names own, as the entry of a part -/
def owns (σ : L2.St) (S : Sg) : Addr → Prop := fun p => ∃ (i : Nat) (d : D), S.s[i]? = some (.o d) ∧ σ[i]? = some (some (.ref p))
theorem Rel.ownE (R : Rel K E F H σ S) {p : Addr} (h : owns σ S p) : E.H p = none ∨ E.ow p := by
  obtain ⟨i, d, h1, h2⟩ := h
  obtain ⟨q, h3, _, _, _, h5⟩ := R.own i d h1
  rw [h2] at h3; cases h3
  exact h5
theorem Gr.then {h h2 : Oh} {ow : Addr → Prop} (g : Gr K E F H h) (ho : ∀ p, ow p → E.H p = none ∨ E.ow p) (g2 : Gr K ⟨F, H, h, ow⟩ F2 H2 h2) : Gr K E F2 H2 h2 := by
  have now : ∀ b, E.H b ≠ none → ¬ E.ow b → ¬ ow b := fun b h1 h2 h3 => (ho b h3).elim h1 h2
  have nh : ∀ b, E.H b ≠ none → E.h b = none → ¬ E.ow b → h b = none := fun b h1 h2 h3 => by
    cases q : h b with
    | none => rfl
    | some x =>
      rcases g.gO b (by rw [q]; simp) with z | z | z
      · exact (z h2).elim
      · exact (h1 z).elim
      · exact (h3 z).elim
  refine ⟨g2.ext, g.gF.trans g2.gF, fun b h1 h2 h3 => (g.gN b h1 h2 h3).elim (fun q => g2.gN b q (g.gP b h2) (now b h2 h3)) fun ⟨vs, q⟩ => .inr ⟨vs, g2.gH b _ q (by
    show h b = none
    cases z : h b with
    | none => rfl
    | some x => exact (TupO.ob (g.obs b x z).1 ⟨vs, q⟩).elim) (now b h2 h3)⟩, fun b o h1 h2 h3 => ?_, fun b h1 => g2.gP b (g.gP b h1), fun a h1 => ?_, g2.obs⟩
  · have hb : E.H b ≠ none := by rw [h1]; simp
    exact g2.gH b o (g.gH b o h1 h2 h3) (nh b hb h2 h3) (now b hb h3)
  · rcases g2.gO a h1 with q | q | q
    · exact g.gO a q
    · refine .inr (.inl ?_)
      cases z : E.H a with
      | none => rfl
      | some x => exact absurd q (g.gP a (by rw [z]; simp))
    · exact .inr (ho a q)
/-- the same state, with itself as the entry -/
theorem Rel.enter (R : Rel K E F H σ S) : Rel K ⟨F, H, S.h, owns σ S⟩ F H σ S :=
  ⟨⟨R.g.ext, .refl _, fun _ h _ _ => .inl h, fun _ _ h _ _ => h, fun _ h => h, fun _ h => .inl h, R.g.obs⟩, R.len, R.frz,
    fun i d h => let ⟨p, h1, h2, h3, h4, _⟩ := R.own i d h; ⟨p, h1, h2, h3, h4, .inr ⟨i, d, h, h1⟩⟩, R.inj⟩
/-- .. and back to the old entry -/
theorem Rel.leave {σ' : L2.St} {S' : Sg} (R : Rel K E F H σ S) (R2 : Rel K ⟨F, H, S.h, owns σ S⟩ F' H' σ' S') : Rel K E F' H' σ' S' :=
  ⟨R.g.then (fun p hp => R.ownE hp) R2.g, R2.len, R2.frz, fun i d h => let ⟨p, h1, h2, h3, h4, h5⟩ := R2.own i d h; ⟨p, h1, h2, h3, h4, h5.elim (fun z => .inl (R.g.free z)) fun z => R.ownE z⟩, R2.inj⟩
end
end VL

set_option Elab.async false
set_option linter.all false
set_option maxRecDepth 100000
set_option maxHeartbeats 4000000
/-! VL2: readings over plain data: expressions, tests, arguments, iterables, targets, statements, defs. -/
namespace VL
open PySem PySem.Spec L2

abbrev WE := Sg → (D → Sg → Prop) → Prop
abbrev WT := Sg → (Bool → Sg → Prop) → Prop
abbrev WA := Sg → (List D → Sg → Prop) → Prop
abbrev WG := D → Sg → (Sg → Prop) → Prop
structure We where
  nx : Sg → Prop
  rt : D → Sg → Prop
  bk : Sg → Prop := fun _ => False
  ct : Sg → Prop := fun _ => False
  xx : Str → List (Str × D) → Sg → Prop := fun _ _ _ => False
abbrev WS := We → Sg → Prop
/-- an exception: the address of its class, its fields; the objects behind it -/
abbrev XC := Str → List (Str × D) → Oh → Prop
abbrev Spc := List D → Oh → (D → Oh → Prop) → XC → Prop

/-- a test: two ways -/
@[irreducible] def Br (b : Bool) (p q : Prop) : Prop := if b = true then p else q
theorem br_t {p q : Prop} (h : Br true p q) : p := by unfold Br at h; exact h
theorem br_f {p q : Prop} (h : Br false p q) : q := by unfold Br at h; exact h
theorem br {b : Bool} {p q : Prop} (h1 : b = true → p) (h2 : b = false → q) : Br b p q := by
  unfold Br
  cases b with
  | true => exact h1 rfl
  | false => exact h2 rfl
theorem brT {b : Bool} {p q : Prop} (e : b = true) (h : p) : Br b p q := by subst e; unfold Br; exact h
theorem brF {b : Bool} {p q : Prop} (e : b = false) (h : q) : Br b p q := by subst e; unfold Br; exact h

section
variable (K : PySem.W.Frag) (E : En)
def LE (w : WE) : TE := fun σ H Q => ∃ S F R, Rel K E F H σ S ∧ w S R ∧ ∀ d S' v F' H', R d S' → Rep K F' v d → Rel K E F' H' σ S' → Ext F F' → Q v H'
/-- .. to a fresh container -/
def LN (w : WE) : TE := fun σ H Q => ∃ S F R, Rel K E F H σ S ∧ w S R ∧ ∀ d S' p F' H', R d S' → Fresh K E F' H' σ S' p d → Rel K E F' H' σ S' → Ext F F' → Q (.ref p) H'
def LT (w : WT) : TT := fun σ H Q => ∃ S F R, Rel K E F H σ S ∧ w S R ∧ ∀ b S' F' H', R b S' → Rel K E F' H' σ S' → Ext F F' → Q b H'
def LA (n : Nat) (w : WA) : TA := fun σ H Q => ∃ S F R, Rel K E F H σ S ∧ w S R ∧ ∀ ds S' vs F' H', R ds S' → ds.length = n → Reps K F' vs ds → Rel K E F' H' σ S' → Ext F F' → Q vs H'
def LG (g : WG) : TG := fun v σ H Q => ∃ S F d R, Rel K E F H σ S ∧ Rep K F v d ∧ g d S R ∧ ∀ S' σ' F' H', R S' → Rel K E F' H' σ' S' → Ext F F' → Q σ' H'
/-- an iterable gives these items -/
def Feeds (J : It) (F : Hp) (ds : List D) : Prop := ∀ F' H', Ext F F' → Ext F' H' →
  (∀ i d, ds[i]? = some d → J.go i H' ∧ ∀ x H3, J.yld i H' x H3 → ∃ F3, Al F' H' F3 H3 ∧ Rep K F3 x d) ∧ ∀ i, ds.length ≤ i → J.stop i H'
def LI (w : WA) : TI := fun σ H Rr => ∃ S F R, Rel K E F H σ S ∧ w S R ∧ ∀ ds S' J F' H', R ds S' → Feeds K J F' ds → Rel K E F' H' σ S' → Ext F F' → Rr J H'
def LS (W : L2.WX) (w : WS) : TS := fun D σ H => ∃ (S : Sg) (F : Hp) (R : We), Rel K E F H σ S ∧ w R S ∧
  (∀ S' σ' F' H', R.nx S' → Rel K E F' H' σ' S' → Ext F F' → D.nx σ' H') ∧ (∀ S' σ' F' H', R.bk S' → Rel K E F' H' σ' S' → Ext F F' → D.bk σ' H') ∧
  (∀ S' σ' F' H', R.ct S' → Rel K E F' H' σ' S' → Ext F F' → D.ct σ' H') ∧ (∀ d S' v σ' F' H', R.rt d S' → Rep K F' v d → Rel K E F' H' σ' S' → Ext F F' → D.rt v H') ∧ (∀ c fs S' cls dd σ' F' H', R.xx c fs S' → XAt K F' c fs cls dd → Rel K E F' H' σ' S' → W cls dd σ' H')
end

def DE (X : Cx) (Φ : En → Prop) (e : Expr) (w : WE) : Prop := ∀ E, Φ E → PE X e (LE X.K E w)
def DN (X : Cx) (Φ : En → Prop) (e : Expr) (w : WE) : Prop := ∀ E, Φ E → PE X e (LN X.K E w)
def DT (X : Cx) (Φ : En → Prop) (e : Expr) (w : WT) : Prop := ∀ E, Φ E → PT X e (LT X.K E w)
def DW (X : Cx) (Φ : En → Prop) (e : Expr) (w : WT) : Prop := ∀ E, Φ E → PW X e (LT X.K E w)
def DA (X : Cx) (Φ : En → Prop) (es : List Expr) (n : Nat) (w : WA) : Prop := ∀ E, Φ E → PA X es (LA X.K E n w)
def DG (X : Cx) (Φ : En → Prop) (e : Expr) (w : WG) : Prop := ∀ E, Φ E → PG X e (LG X.K E w)
def DI (X : Cx) (Φ : En → Prop) (tg e : Expr) (w : WA) : Prop := ∀ E, Φ E → PI X tg e (LI X.K E w)
abbrev Tr : En → Prop := fun _ => True
def DS (X : Cx) (W : L2.WX) (s : Stmt) (w : WS) : Prop := ∀ E, PS X s (LS X.K E W w)
def DSs (X : Cx) (W : L2.WX) (s : List Stmt) (w : WS) : Prop := ∀ E, PSs X s (LS X.K E W w)

/-! ### weakening -/
section
variable {X : Cx} {Φ : En → Prop} {e : Expr} {es : List Expr} {st : Stmt} {sts : List Stmt}
theorem PE.imp {t t' : TE} (h : PE X e t) (hi : ∀ σ H Q, t' σ H Q → t σ H Q) : PE X e t' := ⟨fun pins s σ H Q I q => h.run pins s σ H Q I (hi _ _ _ q)⟩
theorem PT.imp {t t' : TT} (h : PT X e t) (hi : ∀ σ H Q, t' σ H Q → t σ H Q) : PT X e t' := ⟨fun pins s σ H Q I q => h.run pins s σ H Q I (hi _ _ _ q)⟩
theorem PW.imp {t t' : TT} (h : PW X e t) (hi : ∀ σ H Q, t' σ H Q → t σ H Q) : PW X e t' := ⟨fun wh pins s σ H Q I q => h.run wh pins s σ H Q I (hi _ _ _ q)⟩
theorem PA.imp {t t' : TA} (h : PA X es t) (hi : ∀ σ H Q, t' σ H Q → t σ H Q) : PA X es t' := ⟨fun pos pins s σ H Q I q => h.run pos pins s σ H Q I (hi _ _ _ q)⟩
theorem PG.imp {t t' : TG} (h : PG X e t) (hi : ∀ v σ H Q, t' v σ H Q → t v σ H Q) : PG X e t' := ⟨fun pins s σ H v u Q I r q => h.run pins s σ H v u Q I r (hi _ _ _ _ q)⟩
theorem PI.imp {tg : Expr} {t t' : TI} (h : PI X tg e t) (hi : ∀ σ H Q, t' σ H Q → t σ H Q) : PI X tg e t' := ⟨fun pins s σ H Q I q => h.run pins s σ H Q I (hi _ _ _ q)⟩
theorem PS.imp {t t' : TS} (h : PS X st t) (hi : ∀ D σ H, t' D σ H → t D σ H) : PS X st t' := ⟨fun pins s σ H D I q => h.run pins s σ H D I (hi _ _ _ q)⟩
theorem PSs.imp {t t' : TS} (h : PSs X sts t) (hi : ∀ D σ H, t' D σ H → t D σ H) : PSs X sts t' := ⟨fun pins s σ H D I q => h.run pins s σ H D I (hi _ _ _ q)⟩
theorem OpR.any {f : Value → Value → Sem Value} {r : R2} (h : ∀ x y H Q, r x y H Q → ∃ r', OpR X f r' ∧ r' x y H Q) : OpR X f r := fun pins s σ H x y v u Q I rx ry q =>
  let ⟨_, ho, q'⟩ := h x y H Q q
  ho pins s σ H x y v u Q I rx ry q'
theorem CallR.any {f : Value} {r : List V → Hp → VK → Prop} (h : ∀ xs H Q, r xs H Q → ∃ r', CallR X f r' ∧ r' xs H Q) : CallR X f r := fun pins s σ H xs us Q I rx q =>
  let ⟨_, ho, q'⟩ := h xs H Q q
  ho pins s σ H xs us Q I rx q'
theorem IxR.any {r : R2} (h : ∀ x y H Q, r x y H Q → ∃ r', IxR X r' ∧ r' x y H Q) : IxR X r := fun a b pins s σ H x y v u Q I rx ry q e =>
  let ⟨_, ho, q'⟩ := h x y H Q q
  ho a b pins s σ H x y v u Q I rx ry q' e
theorem MtR.any {id : String} {r : V → List V → Hp → VK → Prop} (h : ∀ x xs H Q, r x xs H Q → ∃ r', MtR X id r' ∧ r' x xs H Q) : MtR X id r := fun pins s σ H x xs v us Q I rx rs q =>
  let ⟨_, ho, q'⟩ := h x xs H Q q
  ho pins s σ H x xs v us Q I rx rs q'
theorem UnR.any {f : Value → Sem Value} {r : V → Hp → VK → Prop} (h : ∀ x H Q, r x H Q → ∃ r', UnR X f r' ∧ r' x H Q) : UnR X f r := fun pins s σ H x v Q I rx q =>
  let ⟨_, ho, q'⟩ := h x H Q q
  ho pins s σ H x v Q I rx q'
end

/-! ### names, constants, operators -/
def wVar (i : Nat) : WE := fun S R => match S.s[i]? with
  | some (.f d) => R d S
  | some (.o d) => R d (S.st i (.f d))
  | _ => False
def wC (d : D) : WE := fun S R => R d S
/-- a two-place operation on data: what it asks, what it gives -/
abbrev O2 := D → D → (D → Prop) → Prop
abbrev O1 := D → (D → Prop) → Prop
def wOp (g : O2) (wa wb : WE) : WE := fun S R => wa S fun x S1 => wb S1 fun y S2 => g x y fun z => R z S2
def wUn (g : O1) (wa : WE) : WE := fun S R => wa S fun x S1 => g x fun z => R z S1
def rV (K : PySem.W.Frag) (g : O2) : R2 := fun x y H Q => ∃ F d e R, Ext F H ∧ Rep K F x d ∧ Rep K F y e ∧ g d e R ∧ ∀ z v F' H', R z → Rep K F' v z → Al F H F' H' → Q v H'
def rV1 (K : PySem.W.Frag) (g : O1) : V → Hp → VK → Prop := fun x H Q => ∃ F d R, Ext F H ∧ Rep K F x d ∧ g d R ∧ ∀ z v F' H', R z → Rep K F' v z → Al F H F' H' → Q v H'
abbrev OpV (X : Cx) (f : Value → Value → Sem Value) (g : O2) : Prop := OpR X f (rV X.K g)
abbrev UnV (X : Cx) (f : Value → Sem Value) (g : O1) : Prop := UnR X f (rV1 X.K g)
section
variable {X : Cx} {Φ : En → Prop} {a b c : Expr} {wa wb wc : WE} {pos : Pos}
theorem de_var {x : Str} (i : Nat) (h : PE X (.Name x pos) (tVar i)) : DE X Φ (.Name x pos) (wVar i) := fun E hE => PE.imp h fun σ H Q => by
  rintro ⟨S, F, R, hR, hw, k⟩
  unfold wVar at hw
  split at hw
  · rename_i d hd
    obtain ⟨v, h1, h2⟩ := hR.frz i d hd
    exact ⟨v, h1, k d S v F H hw h2 hR (.refl _)⟩
  · rename_i d hd
    obtain ⟨p, F', h1, h2, h3, h4⟩ := hR.freeze hd
    exact ⟨_, h1, k d _ _ F' H hw h2 h4 h3⟩
  · exact hw.elim
theorem de_c {v : V} {d : D} (h : PE X a (tC v)) (r : ∀ F, Rep X.K F v d) : DE X Φ a (wC d) := fun E hE => PE.imp h fun σ H Q => by
  rintro ⟨S, F, R, hR, hw, k⟩
  exact k d S v F H hw (r F) hR (.refl _)
theorem de_int {i : Int} {j : Nat} : DE X Φ (.Constant (.int i) j pos) (wC (.int i)) := de_c pe_int fun _ => .int _
theorem de_bl {i : Bool} {j : Nat} : DE X Φ (.Constant (.bool i) j pos) (wC (.bl i)) := de_c pe_bl fun _ => .bl _
theorem de_non {j : Nat} : DE X Φ (.Constant .none j pos) (wC .non) := de_c pe_non fun _ => .non
theorem de_str {x : Str} {j : Nat} : DE X Φ (.Constant (.str x) j pos) (wC (.str x)) := de_c pe_str fun _ => .str _
/-- a constant of the module -/
theorem de_glob {x : Str} {v : V} {u : Value} {d : D} (hg : Gl X x) (hm : X.mg x = some u) (r : RelV v u) (rd : ∀ F, Rep X.K F v d) (hd : (x == ("__debug__" : Str)) = false := by decide) : DE X Φ (.Name x pos) (wC d) := de_c (pe_glob hg hm r hd) rd
theorem de_op {op : Operator} {g : O2} (ho : OpV X (binaryOp op) g) (ha : DE X Φ a wa) (hb : DE X Φ b wb) : DE X Φ (.BinOp a op b pos) (wOp g wa wb) := fun E hE => PE.imp (pe_op ho (ha E hE) (hb E hE)) fun σ H Q => by
  rintro ⟨S, F, R, hR, hw, k⟩
  refine ⟨S, F, _, hR, hw, fun x S1 v1 F1 H1 hw1 r1 hR1 x1 => ?_⟩
  refine ⟨S1, F1, _, hR1, hw1, fun y S2 v2 F2 H2 hw2 r2 hR2 x2 => ?_⟩
  exact ⟨F2, x, y, _, hR2.g.ext, r1.mono x2, r2, hw2, fun z v F' H' hz rz al => k z S2 v F' H' hz rz (hR2.al al) ((x1.trans x2).trans al.xF)⟩
theorem de_un {op : UnaryOp} {g : O1} (ho : UnV X (unaryOp op) g) (ha : DE X Φ a wa) : DE X Φ (.UnaryOp op a pos) (wUn g wa) := fun E hE => PE.imp (pe_un ho (ha E hE)) fun σ H Q => by
  rintro ⟨S, F, R, hR, hw, k⟩
  refine ⟨S, F, _, hR, hw, fun x S1 v1 F1 H1 hw1 r1 hR1 x1 => ?_⟩
  exact ⟨F1, x, _, hR1.g.ext, r1, hw1, fun z v F' H' hz rz al => k z S1 v F' H' hz rz (hR1.al al) (x1.trans al.xF)⟩
/-- a fresh container as a value -/
theorem de_new (ha : DN X Φ a wa) : DE X Φ a wa := fun E hE => PE.imp (ha E hE) fun σ H Q => by
  rintro ⟨S, F, R, hR, hw, k⟩
  refine ⟨S, F, _, hR, hw, fun d S1 p F1 H1 hw1 f hR1 x1 => ?_⟩
  obtain ⟨o, ho⟩ := Option.ne_none_iff_exists'.mp f.at_.there
  exact k d S1 _ _ H1 hw1 (f.at_.rep ho f.nF) (hR1.freezeN f ho) (x1.trans (.new f.nF))
end

/-! ### the operators -/
def opAdd : O2
  | .int i, .int j, R => R (.int (i + j))
  | .int i, .bl k, R => R (.int (i + PyProof.Rows.b2i k))
  | .str x, .str y, R => x.length + y.length ≤ sizeLine ∧ R (.str (x ++ y))
  | .tup xs, .tup ys, R => xs.length + ys.length ≤ sizeLine ∧ R (.tup (xs ++ ys))
  | .lst xs, .lst ys, R => xs.length + ys.length ≤ sizeLine ∧ R (.lst (xs ++ ys))
  | _, _, _ => False
def opI (f : Int → Int → Int) : O2
  | .int i, .int j, R => R (.int (f i j))
  | _, _, _ => False
def opIC (C : Int → Int → Prop) (f : Int → Int → Int) : O2
  | .int i, .int j, R => C i j ∧ R (.int (f i j))
  | _, _, _ => False
def opIB (f : Int → Int → Bool) : O2
  | .int i, .int j, R => R (.bl (f i j))
  | _, _, _ => False
def opAddI : O2
  | .int i, .int j, R => R (.int (i + j))
  | _, _, _ => False
def opSub : O2
  | .int i, .int j, R => R (.int (i - j))
  | _, _, _ => False
def opMul : O2
  | .int i, .int j, R => CMulX i j ∧ R (.int (i * j))
  | .lst xs, .int k, R => -(2 ^ 63) ≤ k ∧ k < 2 ^ 63 ∧ xs.length * k.toNat ≤ sizeLine ∧ R (.lst (List.replicate k.toNat xs).flatten)
  | _, _, _ => False
def opDiv : O2
  | .int i, .int j, R => CDivW i j ∧ R (.int (i / j))
  | _, _, _ => False
def opMod : O2
  | .int i, .int j, R => 0 < j ∧ R (.int (i % j))
  | _, _, _ => False
def opPow : O2
  | .int i, .int j, R => CPow i j ∧ R (.int (i ^ j.toNat))
  | _, _, _ => False
def opShl : O2
  | .int i, .int j, R => CShl i j ∧ R (.int (i * 2 ^ j.toNat))
  | _, _, _ => False
def opShr : O2
  | .int i, .int j, R => 0 ≤ j ∧ R (.int (i / 2 ^ j.toNat))
  | _, _, _ => False
def opAnd : O2
  | .int i, .int j, R => R (.int (Builtin.bitAnd i j))
  | _, _, _ => False
def opOr : O2
  | .int i, .int j, R => R (.int (Builtin.bitOr i j))
  | _, _, _ => False
def opXor : O2
  | .int i, .int j, R => R (.int (Builtin.bitXor i j))
  | _, _, _ => False
def opNeg : O1
  | .int i, R => R (.int (-i))
  | _, _ => False
def opInv : O1
  | .int i, R => R (.int (Builtin.bitNot i))
  | _, _ => False
theorem OpV.imp {X : Cx} {f : Value → Value → Sem Value} {g g' : O2} (h : OpV X f g) (hi : ∀ d e R, g' d e R → g d e R) : OpV X f g' := fun pins s σ H x y v u Q I rx ry q =>
  let ⟨F, d, e, R, hx, r1, r2, hg, k⟩ := q
  h pins s σ H x y v u Q I rx ry ⟨F, d, e, R, hx, r1, r2, hi _ _ _ hg, k⟩
/-- ints alone -/
theorem opI_V {X : Cx} {f : Value → Value → Sem Value} {g : Int → Int → Int} (h : OpR X f (rI0 fun i j => .int (g i j))) : OpV X f (opI g) := OpR.any fun x y H Q => by
  rintro ⟨F, d, e, R, hx, r1, r2, hg, k⟩
  refine ⟨_, h, ?_⟩
  cases r1 <;> cases r2 <;> try exact hg.elim
  exact ⟨_, _, rfl, rfl, k _ _ F H hg (.int _) (.refl hx)⟩
theorem opIC_V {X : Cx} {f : Value → Value → Sem Value} {C : Int → Int → Prop} {g : Int → Int → Int} (h : OpR X f (rI C fun i j => .int (g i j))) : OpV X f (opIC C g) := OpR.any fun x y H Q => by
  rintro ⟨F, d, e, R, hx, r1, r2, hg, k⟩
  refine ⟨_, h, ?_⟩
  cases r1 <;> cases r2 <;> try exact hg.elim
  exact ⟨_, _, rfl, rfl, hg.1, k _ _ F H hg.2 (.int _) (.refl hx)⟩
theorem opIB_V {X : Cx} {f : Value → Value → Sem Value} {g : Int → Int → Bool} (h : OpR X f (rI0 fun i j => .bl (g i j))) : OpV X f (opIB g) := OpR.any fun x y H Q => by
  rintro ⟨F, d, e, R, hx, r1, r2, hg, k⟩
  refine ⟨_, h, ?_⟩
  cases r1 <;> cases r2 <;> try exact hg.elim
  exact ⟨_, _, rfl, rfl, k _ _ F H hg (.bl _) (.refl hx)⟩
section
variable {X : Cx} {Φ : En → Prop}
theorem ov_add : OpV X (binaryOp .Add) opAdd := OpR.any fun x y H Q => by
  rintro ⟨F, d, e, R, hx, r1, r2, hg, k⟩
  cases r1 with
  | int i =>
    cases r2 with
    | int j => exact ⟨_, op_add, _, _, rfl, rfl, k _ _ F H hg (.int _) (.refl hx)⟩
    | bl j => exact ⟨_, op_add_ib, _, _, rfl, rfl, k _ _ F H hg (.int _) (.refl hx)⟩
    | _ => exact hg.elim
  | str x =>
    cases r2 with
    | str y => exact ⟨_, op_add_str, _, _, rfl, rfl, hg.1, k _ _ F H hg.2 (.str _) (.refl hx)⟩
    | _ => exact hg.elim
  | tup h1 s1 =>
    cases r2 with
    | tup h2 s2 =>
      have l1 := s1.length
      have l2 := s2.length
      have s12 := s1.append s2
      have q1 := hg.1
      rename_i a1 vs1 ds1 a2 vs2 ds2
      refine ⟨_, op_catA, a1, a2, vs1, vs2, rfl, rfl, hx.sqT h1, hx.sqT h2, by omega, fun z => ?_, fun z1 z2 => ?_, fun z1 z2 p hp => ?_⟩
      · subst z
        cases s1
        exact k _ _ F H hg.2 (.tup h2 s2) (.refl hx)
      · subst z2
        exact k _ _ F H hg.2 (.tup h1 (by rw [List.append_nil] at s12; exact s12)) (.refl hx)
      · have al := Al.one (o := .tup (vs1 ++ vs2)) hx hp
        exact k _ _ _ _ hg.2 (.tup (.of upd_same) (s12.mono al.xF)) al
    | _ => exact hg.elim
  | lst h1 s1 =>
    cases r2 with
    | lst h2 s2 =>
      have l1 := s1.length
      have l2 := s2.length
      have s12 := s1.append s2
      have q1 := hg.1
      rename_i a1 vs1 ds1 a2 vs2 ds2
      refine ⟨_, op_cat, a1, a2, vs1, vs2, rfl, rfl, hx _ _ h1, hx _ _ h2, by omega, fun p hp => ?_⟩
      have al := Al.one (o := .lst (vs1 ++ vs2)) hx hp
      exact k _ _ _ _ hg.2 (.lst upd_same (s12.mono al.xF)) al
    | _ => exact hg.elim
  | _ => exact hg.elim
end

section
variable {X : Cx} {Φ : En → Prop}
theorem ov_sub : OpV X (binaryOp .Sub) opSub := OpV.imp (opI_V op_sub) fun d e R h => by cases d <;> cases e <;> first | exact h | exact h.elim
theorem ov_mul : OpV X (binaryOp .Mult) opMul := OpR.any fun x y H Q => by
  rintro ⟨F, d, e, R, hx, r1, r2, hg, k⟩
  cases r1 with
  | int i =>
    cases r2 with
    | int j => exact ⟨_, op_mulX, _, _, rfl, rfl, hg.1, k _ _ F H hg.2 (.int _) (.refl hx)⟩
    | _ => exact hg.elim
  | lst h1 s1 =>
    cases r2 with
    | int j =>
      have l1 := s1.length
      obtain ⟨q1, q2, q3, q4⟩ := hg
      rename_i a1 vs1 ds1
      refine ⟨_, op_rep, a1, j, vs1, rfl, rfl, hx _ _ h1, q1, q2, by rw [l1]; exact q3, fun p hp => ?_⟩
      have al := Al.one (o := .lst (List.replicate j.toNat vs1).flatten) hx hp
      exact k _ _ _ _ q4 (.lst upd_same ((s1.rep _).mono al.xF)) al
    | _ => exact hg.elim
  | _ => exact hg.elim
theorem ov_div : OpV X (binaryOp .FloorDiv) opDiv := OpV.imp (opIC_V op_fdivW) fun d e R h => by cases d <;> cases e <;> first | exact h | exact h.elim
theorem ov_mod : OpV X (binaryOp .Mod) opMod := OpV.imp (opIC_V op_mod) fun d e R h => by cases d <;> cases e <;> first | exact h | exact h.elim
theorem ov_pow : OpV X (binaryOp .Pow) opPow := OpV.imp (opIC_V op_pow) fun d e R h => by cases d <;> cases e <;> first | exact h | exact h.elim
theorem ov_shl : OpV X (binaryOp .LShift) opShl := OpV.imp (opIC_V op_shlW) fun d e R h => by cases d <;> cases e <;> first | exact h | exact h.elim
theorem ov_shr : OpV X (binaryOp .RShift) opShr := OpV.imp (opIC_V op_shr) fun d e R h => by cases d <;> cases e <;> first | exact h | exact h.elim
theorem ov_and : OpV X (binaryOp .BitAnd) opAnd := OpV.imp (opI_V op_and) fun d e R h => by cases d <;> cases e <;> first | exact h | exact h.elim
theorem ov_or : OpV X (binaryOp .BitOr) opOr := OpV.imp (opI_V op_or) fun d e R h => by cases d <;> cases e <;> first | exact h | exact h.elim
theorem ov_xor : OpV X (binaryOp .BitXor) opXor := OpV.imp (opI_V op_xor) fun d e R h => by cases d <;> cases e <;> first | exact h | exact h.elim
theorem iv_add : OpV X (inplaceOp .Add) opAddI := OpV.imp (opI_V iop_add) fun d e R h => by cases d <;> cases e <;> first | exact h | exact h.elim
theorem iv_sub : OpV X (inplaceOp .Sub) opSub := OpV.imp (opI_V iop_sub) fun d e R h => by cases d <;> cases e <;> first | exact h | exact h.elim
theorem iv_and : OpV X (inplaceOp .BitAnd) opAnd := OpV.imp (opI_V iop_and) fun d e R h => by cases d <;> cases e <;> first | exact h | exact h.elim
theorem iv_or : OpV X (inplaceOp .BitOr) opOr := OpV.imp (opI_V iop_or) fun d e R h => by cases d <;> cases e <;> first | exact h | exact h.elim
theorem iv_xor : OpV X (inplaceOp .BitXor) opXor := OpV.imp (opI_V iop_xor) fun d e R h => by cases d <;> cases e <;> first | exact h | exact h.elim
theorem uv_neg : UnV X (unaryOp .USub) opNeg := UnR.any fun x H Q => by
  rintro ⟨F, d, R, hx, r1, hg, k⟩
  cases r1 with
  | int i => exact ⟨_, un_neg, _, rfl, k _ _ F H hg (.int _) (.refl hx)⟩
  | _ => exact hg.elim
theorem uv_inv : UnV X (unaryOp .Invert) opInv := UnR.any fun x H Q => by
  rintro ⟨F, d, R, hx, r1, hg, k⟩
  cases r1 with
  | int i => exact ⟨_, un_inv, _, rfl, k _ _ F H hg (.int _) (.refl hx)⟩
  | _ => exact hg.elim
end

/-! ### comparisons -/
def opEq : O2
  | .int i, .int j, R => R (.bl (i == j))
  | .str i, .str j, R => R (.bl (i == j))
  | .bl i, .bl j, R => R (.bl (i == j))
  | d, e, R => shD 8 d = true ∧ shD 8 e = true ∧ R (.bl (eqD d e))
def opNe : O2
  | .int i, .int j, R => R (.bl (!(i == j)))
  | .str i, .str j, R => R (.bl (!(i == j)))
  | .bl i, .bl j, R => R (.bl (!(i == j)))
  | d, e, R => shD 8 d = true ∧ shD 8 e = true ∧ R (.bl (!eqD d e))
def opLt : O2
  | .int i, .int j, R => R (.bl (decide (i < j)))
  | _, _, _ => False
def opLe : O2
  | .int i, .int j, R => R (.bl (decide (i ≤ j)))
  | _, _, _ => False
def opGt : O2
  | .int i, .int j, R => R (.bl (decide (j < i)))
  | _, _, _ => False
def opGe : O2
  | .int i, .int j, R => R (.bl (decide (j ≤ i)))
  | _, _, _ => False
/-- tuples of ints in order, too -/
def opLtT : O2
  | .int i, .int j, R => R (.bl (decide (i < j)))
  | .tup ds, .tup es, R => ∃ ns ms, ds = ns.map D.int ∧ es = ms.map D.int ∧ R (.bl (HT.lexLt ns ms))
  | _, _, _ => False
def opIsN : O2
  | d, .non, R => R (.bl (match d with | .non => true | _ => false))
  | _, _, _ => False
def opNotN : O2
  | d, .non, R => R (.bl (match d with | .non => false | _ => true))
  | _, _, _ => False
def flat : D → Bool
  | .non => true
  | .bl _ => true
  | .int _ => true
  | .str _ => true
  | _ => false
def inD (x : D) (ds : List D) : Bool := ds.any fun y => eqD y x
def opIn : O2
  | x, .tup ds, R => flat x = true ∧ ds.all flat = true ∧ R (.bl (inD x ds))
  | x, .lst ds, R => flat x = true ∧ ds.all flat = true ∧ R (.bl (inD x ds))
  | .str x, .str y, R => R (.bl (!(Builtin.Str.occurrences y x 0 y.length 1).isEmpty))
  | _, _, _ => False
def opNotIn : O2
  | x, .tup ds, R => flat x = true ∧ ds.all flat = true ∧ R (.bl (!inD x ds))
  | x, .lst ds, R => flat x = true ∧ ds.all flat = true ∧ R (.bl (!inD x ds))
  | .str x, .str y, R => R (.bl (!(!(Builtin.Str.occurrences y x 0 y.length 1).isEmpty)))
  | _, _, _ => False
section
variable {X : Cx} {Φ : En → Prop} {K : PySem.W.Frag} {F H : Hp}
theorem Rep.flat {v : V} {d : D} (r : Rep K F v d) (h : flat d = true) : flatV v = true := by
  cases r <;> first | rfl | exact nomatch h
theorem Reps.flat : ∀ {vs : List V} {ds : List D}, Reps K F vs ds → ds.all VL.flat = true → vs.all flatV = true
  | _, _, .nil, _ => rfl
  | _, _, .cons r t, h => by
    rw [List.all_cons, Bool.and_eq_true] at h ⊢
    exact ⟨r.flat h.1, Reps.flat t h.2⟩
theorem Rep.eqV {v u : V} {d e : D} (r : Rep K F v d) (s : Rep K F u e) (h : VL.flat d = true) (h' : VL.flat e = true) : L2.eqV v u = eqD d e := by
  cases r <;> cases s <;> first | rfl | exact nomatch h | exact nomatch h'
theorem Rep.inV {v : V} {x : D} (r : Rep K F v x) (h : VL.flat x = true) : ∀ {vs : List V} {ds : List D}, Reps K F vs ds → ds.all VL.flat = true → L2.inV v vs = inD x ds
  | _, _, .nil, _ => rfl
  | _, _, .cons s t, h' => by
    rw [List.all_cons, Bool.and_eq_true] at h'
    show (L2.eqV _ v || L2.inV v _) = (eqD _ x || inD x _)
    rw [s.eqV r h'.1 h, Rep.inV r h t h'.2]
theorem ov_eq (hu : X.A.units + 64 < cLine) : OpV X (compareOp .Eq) opEq := OpR.any fun x y H Q => by
  rintro ⟨F, d, e, R, hx, r1, r2, hg, k⟩
  unfold opEq at hg
  split at hg
  · cases r1; cases r2
    refine ⟨_, op_eq, rfl, ?_⟩
    rw [dec_int]
    exact k _ _ F H hg (.bl _) (.refl hx)
  · cases r1; cases r2
    refine ⟨_, op_eq, rfl, ?_⟩
    rw [dec_str]
    exact k _ _ F H hg (.bl _) (.refl hx)
  · cases r1; cases r2
    refine ⟨_, op_eq, rfl, ?_⟩
    rw [dec_bl]
    exact k _ _ F H hg (.bl _) (.refl hx)
  · obtain ⟨s1, s2, q⟩ := hg
    refine ⟨_, op_eqD hu, d.pd, e.pd, r1.dp hx s1, r2.dp hx s2, shaped_sh s1 (by decide), shaped_sh s2 (by decide), ?_⟩
    rw [eqD_pd 8 d e s1 s2]
    exact k _ _ F H q (.bl _) (.refl hx)
theorem ov_ne (hu : X.A.units + 64 < cLine) : OpV X (compareOp .NotEq) opNe := OpR.any fun x y H Q => by
  rintro ⟨F, d, e, R, hx, r1, r2, hg, k⟩
  unfold opNe at hg
  split at hg
  · cases r1; cases r2
    refine ⟨_, op_ne, rfl, ?_⟩
    rw [dec_int]
    exact k _ _ F H hg (.bl _) (.refl hx)
  · cases r1; cases r2
    refine ⟨_, op_ne, rfl, ?_⟩
    rw [dec_str]
    exact k _ _ F H hg (.bl _) (.refl hx)
  · cases r1; cases r2
    refine ⟨_, op_ne, rfl, ?_⟩
    rw [dec_bl]
    exact k _ _ F H hg (.bl _) (.refl hx)
  · obtain ⟨s1, s2, q⟩ := hg
    refine ⟨_, op_neD hu, d.pd, e.pd, r1.dp hx s1, r2.dp hx s2, shaped_sh s1 (by decide), shaped_sh s2 (by decide), ?_⟩
    rw [eqD_pd 8 d e s1 s2]
    exact k _ _ F H q (.bl _) (.refl hx)
theorem ov_lt : OpV X (compareOp .Lt) opLt := OpV.imp (opIB_V op_lt) fun d e R h => by cases d <;> cases e <;> first | exact h | exact h.elim
theorem ov_le : OpV X (compareOp .LtE) opLe := OpV.imp (opIB_V op_le) fun d e R h => by cases d <;> cases e <;> first | exact h | exact h.elim
theorem ov_gt : OpV X (compareOp .Gt) opGt := OpV.imp (opIB_V op_gt) fun d e R h => by cases d <;> cases e <;> first | exact h | exact h.elim
theorem ov_ge : OpV X (compareOp .GtE) opGe := OpV.imp (opIB_V op_ge) fun d e R h => by cases d <;> cases e <;> first | exact h | exact h.elim
theorem ov_ltT (hu : X.A.units + 64 < cLine) : OpV X (compareOp .Lt) opLtT := OpR.any fun x y H Q => by
  rintro ⟨F, d, e, R, hx, r1, r2, hg, k⟩
  unfold opLtT at hg
  split at hg
  · cases r1; cases r2
    exact ⟨_, op_lt, _, _, rfl, rfl, k _ _ F H hg (.bl _) (.refl hx)⟩
  · obtain ⟨ns, ms, rfl, rfl, q⟩ := hg
    cases r1 with
    | tup h1 s1 =>
      cases r2 with
      | tup h2 s2 =>
        have e1 := s1.ints
        have e2 := s2.ints
        subst e1
        subst e2
        exact ⟨_, op_ltT (by omega), _, _, ns, ms, rfl, rfl, hx.sqT h1, hx.sqT h2, k _ _ F H q (.bl _) (.refl hx)⟩
  · exact hg.elim
theorem ov_isN : OpV X (compareOp .Is) opIsN := OpR.any fun x y H Q => by
  rintro ⟨F, d, e, R, hx, r1, r2, hg, k⟩
  refine ⟨_, op_isN, ?_⟩
  unfold opIsN at hg
  split at hg
  · cases r2
    refine ⟨rfl, ?_⟩
    cases r1 <;> exact k _ _ F H hg (.bl _) (.refl hx)
  · exact hg.elim
theorem ov_notN : OpV X (compareOp .IsNot) opNotN := OpR.any fun x y H Q => by
  rintro ⟨F, d, e, R, hx, r1, r2, hg, k⟩
  refine ⟨_, op_notN, ?_⟩
  unfold opNotN at hg
  split at hg
  · cases r2
    refine ⟨rfl, ?_⟩
    cases r1 <;> exact k _ _ F H hg (.bl _) (.refl hx)
  · exact hg.elim
theorem ov_in : OpV X (compareOp .In) opIn := OpR.any fun x y H Q => by
  rintro ⟨F, d, e, R, hx, r1, r2, hg, k⟩
  unfold opIn at hg
  split at hg
  · obtain ⟨f1, f2, q⟩ := hg
    cases r2 with
    | tup h s =>
      refine ⟨_, op_in_seq, _, _, rfl, .inr (hx.sqT h), r1.flat f1, s.flat f2, ?_⟩
      rw [if_neg (by simp), r1.inV f1 s f2]
      exact k _ _ F H q (.bl _) (.refl hx)
  · obtain ⟨f1, f2, q⟩ := hg
    cases r2 with
    | lst h s =>
      refine ⟨_, op_in_seq, _, _, rfl, .inl (.of (hx _ _ h)), r1.flat f1, s.flat f2, ?_⟩
      rw [if_neg (by simp), r1.inV f1 s f2]
      exact k _ _ F H q (.bl _) (.refl hx)
  · cases r1; cases r2
    exact ⟨_, op_in_str, _, _, rfl, rfl, k _ _ F H hg (.bl _) (.refl hx)⟩
  · exact hg.elim
theorem ov_notIn : OpV X (compareOp .NotIn) opNotIn := OpR.any fun x y H Q => by
  rintro ⟨F, d, e, R, hx, r1, r2, hg, k⟩
  unfold opNotIn at hg
  split at hg
  · obtain ⟨f1, f2, q⟩ := hg
    cases r2 with
    | tup h s =>
      refine ⟨_, op_notIn_seq, _, _, rfl, .inr (hx.sqT h), r1.flat f1, s.flat f2, ?_⟩
      rw [if_pos rfl, r1.inV f1 s f2]
      exact k _ _ F H q (.bl _) (.refl hx)
  · obtain ⟨f1, f2, q⟩ := hg
    cases r2 with
    | lst h s =>
      refine ⟨_, op_notIn_seq, _, _, rfl, .inl (.of (hx _ _ h)), r1.flat f1, s.flat f2, ?_⟩
      rw [if_pos rfl, r1.inV f1 s f2]
      exact k _ _ F H q (.bl _) (.refl hx)
  · cases r1; cases r2
    exact ⟨_, op_notIn_str, _, _, rfl, rfl, k _ _ F H hg (.bl _) (.refl hx)⟩
  · exact hg.elim
end
/-- a test of a value -/
def tru : D → (Bool → Prop) → Prop
  | .non, R => R false
  | .bl b, R => R b
  | .int i, R => R (i != 0)
  | .str x, R => x.length ≤ sizeLine ∧ R ((x.length : Int) != 0)
  | .tup ds, R => R (!ds.isEmpty)
  | .lst ds, R => R (!ds.isEmpty)
  | .dct ks _, R => R (!ks.isEmpty)
  | _, _ => False
def wB (w : WE) : WT := fun S R => w S fun d S1 => tru d fun b => R b S1
/-- a value that is a bool, as a test -/
def wBb (w : WE) : WT := fun S R => w S fun d S1 => match d with
  | .bl b => R b S1
  | _ => False
def wAnd (t u : WT) : WT := fun S R => t S fun b S1 => Br b (u S1 R) (R false S1)
def wOr (t u : WT) : WT := fun S R => t S fun b S1 => Br b (R true S1) (u S1 R)
def wNot (t : WT) : WT := fun S R => t S fun b S1 => R (!b) S1
def wIf (t : WT) (u v : WE) : WE := fun S R => t S fun b S1 => Br b (u S1 R) (v S1 R)
/-- and, or, not as values: all but the last of them bools -/
def wAndV (u v : WE) : WE := fun S R => u S fun d S1 => match d with
  | .bl b => Br b (v S1 R) (R (.bl false) S1)
  | _ => False
def wOrV (u v : WE) : WE := fun S R => u S fun d S1 => match d with
  | .bl b => Br b (R (.bl true) S1) (v S1 R)
  | _ => False
def wNotV (u : WE) : WE := fun S R => u S fun d S1 => match d with
  | .bl b => R (.bl (!b)) S1
  | _ => False
def wChain (g g' : O2) (wa wb wc : WE) : WE := fun S R => wa S fun x S1 => wb S1 fun y S2 => g x y fun z => match z with
  | .bl b => Br b (wc S2 fun w S3 => g' y w fun r => R r S3) (R (.bl false) S2)
  | _ => False
section
variable {X : Cx} {Φ : En → Prop} {a b c : Expr} {wa wb wc : WE} {pos : Pos} {t u : WT}
theorem Rep.tru {K : PySem.W.Frag} {F H : Hp} (x : Ext F H) {v : V} {d : D} {R : Bool → Prop} (r : Rep K F v d) (h : tru d R) : ∃ k, TruV K v H k ∧ R k := by
  cases r with
  | non => exact ⟨_, rfl, h⟩
  | bl b => exact ⟨_, rfl, h⟩
  | int i => exact ⟨_, rfl, h⟩
  | str y => exact ⟨_, ⟨h.1, rfl⟩, h.2⟩
  | tup h1 s =>
    refine ⟨_, .inr (.inl ⟨_, x.sqT h1, rfl⟩), ?_⟩
    have l := s.length
    rename_i a vs ds
    have e : vs.isEmpty = ds.isEmpty := by
      cases s <;> rfl
    rw [e]
    exact h
  | lst h1 s =>
    refine ⟨_, .inl ⟨_, .of (x _ _ h1), rfl⟩, ?_⟩
    rename_i a vs ds
    have e : vs.isEmpty = ds.isEmpty := by
      cases s <;> rfl
    rw [e]
    exact h
  | dct h1 z s =>
    refine ⟨_, .inr (.inr ⟨_, x _ _ h1, rfl⟩), ?_⟩
    rename_i a kvs ks ds
    have e : kvs.isEmpty = ks.isEmpty := by
      subst z
      cases kvs <;> rfl
    rw [e]
    exact h
  | dcu _ _ _ => exact h.elim
  | obj a => exact h.elim
  | scr h1 => exact h.elim
  | ty t => exact h.elim
  | ktp _ _ => exact h.elim
theorem dt_tru (ha : DE X Φ a wa) (he : ∀ whole, isTrue a X.env whole = (do let v ← whole; standAt a.pos; holding [v] (truthy v)) := by intro _; rfl) : DT X Φ a (wB wa) := fun E hE => PT.imp (pt_truth (ha E hE) he) fun σ H Q => by
  rintro ⟨S, F, R, hR, hw, k⟩
  refine ⟨S, F, _, hR, hw, fun d S1 v F1 H1 hw1 r1 hR1 x1 => ?_⟩
  obtain ⟨b, h1, h2⟩ := r1.tru hR1.g.ext hw1
  exact ⟨b, h1, k b S1 F1 H1 h2 hR1 x1⟩
theorem dt_cmp {op : CmpOp} {g : O2} (ho : OpV X (compareOp op) g) (ha : DE X Φ a wa) (hb : DE X Φ b wb) (hm : behindInMarks op b = false) : DT X Φ (.Compare a [op] [b] pos) (wBb (wOp g wa wb)) := fun E hE => PT.imp (pt_cmpR ho (ha E hE) (hb E hE) hm) fun σ H Q => by
  rintro ⟨S, F, R, hR, hw, k⟩
  refine ⟨S, F, _, hR, hw, fun x S1 v1 F1 H1 hw1 r1 hR1 x1 => ?_⟩
  refine ⟨S1, F1, _, hR1, hw1, fun y S2 v2 F2 H2 hw2 r2 hR2 x2 => ?_⟩
  refine ⟨F2, x, y, _, hR2.g.ext, r1.mono x2, r2, hw2, fun z v F' H' hz rz al => ?_⟩
  cases rz with
  | bl b => exact ⟨b, rfl, k b S2 F' H' hz (hR2.al al) ((x1.trans x2).trans al.xF)⟩
  | _ => exact hz.elim
theorem de_cmp {op : CmpOp} {g : O2} (ho : OpV X (compareOp op) g) (ha : DE X Φ a wa) (hb : DE X Φ b wb) (hm : behindInMarks op b = false) : DE X Φ (.Compare a [op] [b] pos) (wOp g wa wb) := fun E hE => PE.imp (pe_cmpR ho (ha E hE) (hb E hE) hm) fun σ H Q => by
  rintro ⟨S, F, R, hR, hw, k⟩
  refine ⟨S, F, _, hR, hw, fun x S1 v1 F1 H1 hw1 r1 hR1 x1 => ?_⟩
  refine ⟨S1, F1, _, hR1, hw1, fun y S2 v2 F2 H2 hw2 r2 hR2 x2 => ?_⟩
  exact ⟨F2, x, y, _, hR2.g.ext, r1.mono x2, r2, hw2, fun z v F' H' hz rz al => k z S2 v F' H' hz rz (hR2.al al) ((x1.trans x2).trans al.xF)⟩
theorem de_chain {op op' : CmpOp} {g g' : O2} (ho : OpV X (compareOp op) g) (ho' : OpV X (compareOp op') g') (ha : DE X Φ a wa) (hb : DE X Φ b wb) (hc : DE X Φ c wc) (hm : lastMarks [op, op'] [b, c] = false) : DE X Φ (.Compare a [op, op'] [b, c] pos) (wChain g g' wa wb wc) := fun E hE => PE.imp (pe_chain ho ho' (ha E hE) (hb E hE) (hc E hE) hm) fun σ H Q => by
  rintro ⟨S, F, R, hR, hw, k⟩
  refine ⟨S, F, _, hR, hw, fun x S1 v1 F1 H1 hw1 r1 hR1 x1 => ?_⟩
  refine ⟨S1, F1, _, hR1, hw1, fun y S2 v2 F2 H2 hw2 r2 hR2 x2 => ?_⟩
  refine ⟨F2, x, y, _, hR2.g.ext, r1.mono x2, r2, hw2, fun z v F' H' hz rz al => ?_⟩
  cases rz with
  | bl b =>
    refine ⟨b, rfl, ?_⟩
    cases b with
    | true =>
      refine ⟨S2, F', _, hR2.al al, br_t hz, fun w S3 v3 F3 H3 hw3 r3 hR3 x3 => ?_⟩
      exact ⟨F3, y, w, _, hR3.g.ext, (r2.mono al.xF).mono x3, r3, hw3, fun q v F4 H4 hq rq al2 => k q S3 v F4 H4 hq rq (hR3.al al2) ((((x1.trans x2).trans al.xF).trans x3).trans al2.xF)⟩
    | false => exact k _ S2 _ F' H' (br_f hz) (.bl _) (hR2.al al) ((x1.trans x2).trans al.xF)
  | _ => exact hz.elim
theorem dt_chain {op op' : CmpOp} {g g' : O2} (ho : OpV X (compareOp op) g) (ho' : OpV X (compareOp op') g') (ha : DE X Φ a wa) (hb : DE X Φ b wb) (hc : DE X Φ c wc) (hm : lastMarks [op, op'] [b, c] = false) : DT X Φ (.Compare a [op, op'] [b, c] pos) (wBb (wChain g g' wa wb wc)) := fun E hE => PT.imp (pt_chain ho ho' (ha E hE) (hb E hE) (hc E hE) hm) fun σ H Q => by
  rintro ⟨S, F, R, hR, hw, k⟩
  refine ⟨S, F, _, hR, hw, fun x S1 v1 F1 H1 hw1 r1 hR1 x1 => ?_⟩
  refine ⟨S1, F1, _, hR1, hw1, fun y S2 v2 F2 H2 hw2 r2 hR2 x2 => ?_⟩
  refine ⟨F2, x, y, _, hR2.g.ext, r1.mono x2, r2, hw2, fun z v F' H' hz rz al => ?_⟩
  cases rz with
  | bl b =>
    refine ⟨b, rfl, ?_⟩
    cases b with
    | true =>
      refine ⟨S2, F', _, hR2.al al, br_t hz, fun w S3 v3 F3 H3 hw3 r3 hR3 x3 => ?_⟩
      refine ⟨F3, y, w, _, hR3.g.ext, (r2.mono al.xF).mono x3, r3, hw3, fun q v F4 H4 hq rq al2 => ?_⟩
      cases rq with
      | bl c => exact ⟨c, rfl, k c S3 F4 H4 hq (hR3.al al2) ((((x1.trans x2).trans al.xF).trans x3).trans al2.xF)⟩
      | _ => exact hq.elim
    | false => exact ⟨false, rfl, k _ S2 F' H' (br_f hz) (hR2.al al) ((x1.trans x2).trans al.xF)⟩
  | _ => exact hz.elim
theorem DW.pt (h : DW X Φ a t) : DT X Φ a t := fun E hE => (h E hE).pt
variable {rest : List Expr}
theorem dw_and1 (ha : DT X Φ a t) : DW X Φ (.BoolOp .And [a] pos) t := fun E hE => pw_and1 (ha E hE)
theorem dw_or1 (ha : DT X Φ a t) : DW X Φ (.BoolOp .Or [a] pos) t := fun E hE => pw_or1 (ha E hE)
theorem dw_and (ha : DT X Φ a t) (hb : DW X Φ (.BoolOp .And (b :: rest) pos) u) : DW X Φ (.BoolOp .And (a :: b :: rest) pos) (wAnd t u) := fun E hE => PW.imp (pw_and (ha E hE) (hb E hE)) fun σ H Q => by
  rintro ⟨S, F, R, hR, hw, k⟩
  refine ⟨S, F, _, hR, hw, fun b S1 F1 H1 hw1 hR1 x1 => ?_⟩
  cases b with
  | true => exact ⟨S1, F1, R, hR1, br_t hw1, fun b S' F' H' hb hR' x' => k b S' F' H' hb hR' (x1.trans x')⟩
  | false => exact k false S1 F1 H1 (br_f hw1) hR1 x1
theorem dw_or (ha : DT X Φ a t) (hb : DW X Φ (.BoolOp .Or (b :: rest) pos) u) : DW X Φ (.BoolOp .Or (a :: b :: rest) pos) (wOr t u) := fun E hE => PW.imp (pw_or (ha E hE) (hb E hE)) fun σ H Q => by
  rintro ⟨S, F, R, hR, hw, k⟩
  refine ⟨S, F, _, hR, hw, fun b S1 F1 H1 hw1 hR1 x1 => ?_⟩
  cases b with
  | false => exact ⟨S1, F1, R, hR1, br_f hw1, fun b S' F' H' hb hR' x' => k b S' F' H' hb hR' (x1.trans x')⟩
  | true => exact k true S1 F1 H1 (br_t hw1) hR1 x1
theorem dt_not (ha : DT X Φ a t) : DT X Φ (.UnaryOp .Not a pos) (wNot t) := fun E hE => PT.imp (pt_not (ha E hE)) fun σ H Q => by
  rintro ⟨S, F, R, hR, hw, k⟩
  exact ⟨S, F, _, hR, hw, fun b S1 F1 H1 hw1 hR1 x1 => k (!b) S1 F1 H1 hw1 hR1 x1⟩
theorem de_if (hc : DT X Φ c t) (ha : DE X Φ a wa) (hb : DE X Φ b wb) : DE X Φ (.IfExp c a b pos) (wIf t wa wb) := fun E hE => PE.imp (pe_ifExp (hc E hE) (ha E hE) (hb E hE)) fun σ H Q => by
  rintro ⟨S, F, R, hR, hw, k⟩
  refine ⟨S, F, _, hR, hw, fun b S1 F1 H1 hw1 hR1 x1 => ?_⟩
  cases b with
  | true => exact ⟨S1, F1, R, hR1, br_t hw1, fun d S' v F' H' hb r hR' x' => k d S' v F' H' hb r hR' (x1.trans x')⟩
  | false => exact ⟨S1, F1, R, hR1, br_f hw1, fun d S' v F' H' hb r hR' x' => k d S' v F' H' hb r hR' (x1.trans x')⟩
theorem de_one {op : BoolOp} (h : DE X Φ a wa) : DE X Φ (.BoolOp op [a] pos) wa := fun E hE => pe_one (h E hE)
theorem de_and (ha : DE X Φ a wa) (hb : DE X Φ (.BoolOp .And (b :: rest) pos) wb) : DE X Φ (.BoolOp .And (a :: b :: rest) pos) (wAndV wa wb) := fun E hE => PE.imp (pe_and (ha E hE) (hb E hE)) fun σ H Q => by
  rintro ⟨S, F, R, hR, hw, k⟩
  refine ⟨S, F, _, hR, hw, fun d S1 v F1 H1 hw1 r1 hR1 x1 => ?_⟩
  cases r1 with
  | bl b =>
    refine ⟨b, rfl, ?_⟩
    cases b with
    | true => exact ⟨S1, F1, R, hR1, br_t hw1, fun d S' v F' H' hb r hR' x' => k d S' v F' H' hb r hR' (x1.trans x')⟩
    | false => exact k _ S1 _ F1 H1 (br_f hw1) (.bl _) hR1 x1
  | _ => exact hw1.elim
theorem de_or (ha : DE X Φ a wa) (hb : DE X Φ (.BoolOp .Or (b :: rest) pos) wb) : DE X Φ (.BoolOp .Or (a :: b :: rest) pos) (wOrV wa wb) := fun E hE => PE.imp (pe_or (ha E hE) (hb E hE)) fun σ H Q => by
  rintro ⟨S, F, R, hR, hw, k⟩
  refine ⟨S, F, _, hR, hw, fun d S1 v F1 H1 hw1 r1 hR1 x1 => ?_⟩
  cases r1 with
  | bl b =>
    refine ⟨b, rfl, ?_⟩
    cases b with
    | false => exact ⟨S1, F1, R, hR1, br_f hw1, fun d S' v F' H' hb r hR' x' => k d S' v F' H' hb r hR' (x1.trans x')⟩
    | true => exact k _ S1 _ F1 H1 (br_t hw1) (.bl _) hR1 x1
  | _ => exact hw1.elim
theorem de_not (ha : DE X Φ a wa) : DE X Φ (.UnaryOp .Not a pos) (wNotV wa) := fun E hE => PE.imp (pe_not (ha E hE)) fun σ H Q => by
  rintro ⟨S, F, R, hR, hw, k⟩
  refine ⟨S, F, _, hR, hw, fun d S1 v F1 H1 hw1 r1 hR1 x1 => ?_⟩
  cases r1 with
  | bl b => exact ⟨b, rfl, k _ S1 _ F1 H1 hw1 (.bl _) hR1 x1⟩
  | _ => exact hw1.elim
end
end VL

set_option Elab.async false
set_option linter.all false
set_option maxRecDepth 100000
set_option maxHeartbeats 4000000
/-! VL3: arguments, displays, calls of built-ins, subscripts, iterables, targets, statements. -/
namespace VL
open PySem PySem.Spec L2
/-! ### arguments -/
def wNil : WA := fun S R => R [] S
def wCons (w : WE) (ws : WA) : WA := fun S R => w S fun d S1 => ws S1 fun ds S2 => R (d :: ds) S2
def wTup (ws : WA) : WE := fun S R => ws S fun ds S1 => R (.tup ds) S1
def wLst (ws : WA) : WE := fun S R => ws S fun ds S1 => R (.lst ds) S1
/-- a call of a built-in on data -/
abbrev OC := List D → (D → Prop) → Prop
def wCB (g : OC) (ws : WA) : WE := fun S R => ws S fun ds S1 => g ds fun d => R d S1
def rVc (K : PySem.W.Frag) (g : OC) : List V → Hp → VK → Prop := fun xs H Q => ∃ F ds R, Ext F H ∧ Reps K F xs ds ∧ g ds R ∧ ∀ z v F' H', R z → Rep K F' v z → Al F H F' H' → Q v H'
/-- .. that gives a fresh list -/
def rVn (K : PySem.W.Frag) (g : OC) : List V → Hp → VK → Prop := fun xs H Q => ∃ F ds R, Ext F H ∧ Reps K F xs ds ∧ g ds R ∧ ∀ es vs p, R (.lst es) → Reps K F vs es → H p = none → Q (.ref p) (upd H p (.lst vs))
abbrev CallV (X : Cx) (f : Value) (g : OC) : Prop := CallR X f (rVc X.K g)
abbrev CallN (X : Cx) (f : Value) (g : OC) : Prop := CallR X f (rVn X.K g)
section
variable {X : Cx} {Φ : En → Prop} {a b e : Expr} {es : List Expr} {w wa wb : WE} {ws : WA} {n : Nat} {pos p : Pos}
theorem da_nil : DA X Φ [] 0 wNil := fun E hE => PA.imp pa_nil fun σ H Q => by
  rintro ⟨S, F, R, hR, hw, k⟩
  exact k [] S [] F H hw rfl .nil hR (.refl _)
theorem da_cons (ha : DE X Φ e w) (hs : DA X Φ es n ws) (h : starEach (e :: es) X.env = (false, eval e X.env) :: starEach es X.env := by rfl) : DA X Φ (e :: es) (n + 1) (wCons w ws) := fun E hE => PA.imp (pa_cons (ha E hE) (hs E hE) h) fun σ H Q => by
  rintro ⟨S, F, R, hR, hw, k⟩
  refine ⟨S, F, _, hR, hw, fun d S1 v F1 H1 hw1 r1 hR1 x1 => ?_⟩
  refine ⟨S1, F1, _, hR1, hw1, fun ds S2 vs F2 H2 hw2 l2 r2 hR2 x2 => ?_⟩
  exact k _ S2 _ F2 H2 hw2 (by rw [List.length_cons, l2]) (.cons (r1.mono x2) r2) hR2 (x1.trans x2)
theorem le_line {n : Nat} (h : n ≤ 1000) : n ≤ sizeLine := Nat.le_trans h (by decide)
theorem de_tup {x1} (h : DA X Φ es n ws) (hn : n ≤ 1000 := by decide) : DE X Φ (.Tuple es x1 pos) (wTup ws) := fun E hE => PE.imp (pe_tup (h E hE)) fun σ H Q => by
  rintro ⟨S, F, R, hR, hw, k⟩
  refine ⟨S, F, _, hR, hw, fun ds S1 vs F1 H1 hw1 l1 r1 hR1 x1 => ⟨le_line (by rw [r1.length, l1]; exact hn), fun p hp => ?_⟩⟩
  have al := Al.one (o := .tup vs) hR1.g.ext hp
  exact k _ S1 _ _ _ hw1 (.tup (.of upd_same) (r1.mono al.xF)) (hR1.al al) (x1.trans al.xF)
theorem fresh_of {K : PySem.W.Frag} {E : En} {F H : Hp} {σ : L2.St} {S : Sg} {p : Addr} {vs : List V} {ds : List D} (R : Rel K E F H σ S) (hp : H p = none) (r : Reps K F vs ds) : Fresh K E F (upd H p (.lst vs)) σ S p (.lst ds) ∧ Rel K E F (upd H p (.lst vs)) σ S :=
  let ⟨h1, h2, h3, h4, h5⟩ := R.fresh (o := .lst vs) hp
  ⟨⟨⟨vs, upd_same, r⟩, h2, h3, h4, h5⟩, h1⟩
theorem dn_lst (h : DA X Φ es n ws) (hn : n ≤ 1000 := by decide) : DN X Φ (.List es pos) (wLst ws) := fun E hE => PE.imp (pe_lst (h E hE)) fun σ H Q => by
  rintro ⟨S, F, R, hR, hw, k⟩
  refine ⟨S, F, _, hR, hw, fun ds S1 vs F1 H1 hw1 l1 r1 hR1 x1 => ⟨le_line (by rw [r1.length, l1]; exact hn), fun p hp => ?_⟩⟩
  obtain ⟨f, hR'⟩ := fresh_of hR1 hp r1
  exact k _ S1 p F1 _ hw1 f hR' x1
theorem de_lst (h : DA X Φ es n ws) (hn : n ≤ 1000 := by decide) : DE X Φ (.List es pos) (wLst ws) := de_new (dn_lst h hn)
theorem vn_vc {f : Value} {g : OC} (hc : CallN X f g) (hl : ∀ ds R, g ds R → g ds fun d => R d ∧ ∃ es, d = .lst es) : CallV X f g := CallR.any fun xs H Q => by
  rintro ⟨F, ds, R, hx, r, hg, k⟩
  refine ⟨_, hc, F, ds, _, hx, r, hl ds R hg, fun es vs p hR rs hp => ?_⟩
  have al := Al.one (o := .lst vs) hx hp
  exact k _ _ _ _ hR.1 (.lst upd_same (rs.mono al.xF)) al
theorem de_cb {id : String} {x : Str} {g : OC} (hc : CallV X (.builtin id) g) (hg : Gl X x) (hm : X.mg x = none) (hv : bootBuiltins x = some (.builtin id)) (ha : DA X Φ (e :: es) n ws) (hn : x ≠ "__name__" := by decide) (hdb : (x == ("__debug__" : Str)) = false := by decide)
    (he : starEach (e :: es) X.env = (false, eval e X.env) :: starEach es X.env := by rfl) (hpl : (backTo pos (starEach es X.env)).any (·.1) = false := by rfl) : DE X Φ (.Call (.Name x p) (e :: es) [] pos) (wCB g ws) := fun E hE => PE.imp (pe_callB hc hg hm hv (ha E hE) hn hdb he hpl) fun σ H Q => by
  rintro ⟨S, F, R, hR, hw, k⟩
  refine ⟨S, F, _, hR, hw, fun ds S1 vs F1 H1 hw1 l1 r1 hR1 x1 => ?_⟩
  exact ⟨F1, ds, _, hR1.g.ext, r1, hw1, fun z v F' H' hz rz al => k z S1 v F' H' hz rz (hR1.al al) (x1.trans al.xF)⟩
theorem de_cty {T : String} {x : Str} {g : OC} (hc : CallV X (.type T) g) (hg : Gl X x) (hm : X.mg x = none) (hv : bootBuiltins x = some (.type T)) (ha : DA X Φ (e :: es) n ws) (hn : x ≠ "__name__" := by decide) (hdb : (x == ("__debug__" : Str)) = false := by decide)
    (he : starEach (e :: es) X.env = (false, eval e X.env) :: starEach es X.env := by rfl) (hpl : (backTo pos (starEach es X.env)).any (·.1) = false := by rfl) : DE X Φ (.Call (.Name x p) (e :: es) [] pos) (wCB g ws) := fun E hE => PE.imp (pe_callTy hc hg hm hv (ha E hE) hn hdb he hpl) fun σ H Q => by
  rintro ⟨S, F, R, hR, hw, k⟩
  refine ⟨S, F, _, hR, hw, fun ds S1 vs F1 H1 hw1 l1 r1 hR1 x1 => ?_⟩
  exact ⟨F1, ds, _, hR1.g.ext, r1, hw1, fun z v F' H' hz rz al => k z S1 v F' H' hz rz (hR1.al al) (x1.trans al.xF)⟩
theorem dn_cty {T : String} {x : Str} {g : OC} (hc : CallN X (.type T) g) (hl : ∀ ds R, g ds R → g ds fun d => R d ∧ ∃ es, d = .lst es) (hg : Gl X x) (hm : X.mg x = none) (hv : bootBuiltins x = some (.type T)) (ha : DA X Φ (e :: es) n ws) (hn : x ≠ "__name__" := by decide) (hdb : (x == ("__debug__" : Str)) = false := by decide)
    (he : starEach (e :: es) X.env = (false, eval e X.env) :: starEach es X.env := by rfl) (hpl : (backTo pos (starEach es X.env)).any (·.1) = false := by rfl) : DN X Φ (.Call (.Name x p) (e :: es) [] pos) (wCB g ws) := fun E hE => PE.imp (pe_callTy hc hg hm hv (ha E hE) hn hdb he hpl) fun σ H Q => by
  rintro ⟨S, F, R, hR, hw, k⟩
  refine ⟨S, F, _, hR, hw, fun ds S1 vs F1 H1 hw1 l1 r1 hR1 x1 => ?_⟩
  refine ⟨F1, ds, _, hR1.g.ext, r1, hw1, fun es vs p hz rz hp => ?_⟩
  obtain ⟨f, hR'⟩ := fresh_of hR1 hp rz
  exact k _ S1 p F1 _ hz f hR' x1
theorem dn_cb {id : String} {x : Str} {g : OC} (hc : CallN X (.builtin id) g) (hg : Gl X x) (hm : X.mg x = none) (hv : bootBuiltins x = some (.builtin id)) (ha : DA X Φ (e :: es) n ws) (hn : x ≠ "__name__" := by decide) (hdb : (x == ("__debug__" : Str)) = false := by decide)
    (he : starEach (e :: es) X.env = (false, eval e X.env) :: starEach es X.env := by rfl) (hpl : (backTo pos (starEach es X.env)).any (·.1) = false := by rfl) (hl : ∀ ds R, g ds R → g ds fun d => R d ∧ ∃ es, d = .lst es) : DN X Φ (.Call (.Name x p) (e :: es) [] pos) (wCB g ws) := fun E hE => PE.imp (pe_callB hc hg hm hv (ha E hE) hn hdb he hpl) fun σ H Q => by
  rintro ⟨S, F, R, hR, hw, k⟩
  refine ⟨S, F, _, hR, hw, fun ds S1 vs F1 H1 hw1 l1 r1 hR1 x1 => ?_⟩
  refine ⟨F1, ds, _, hR1.g.ext, r1, hw1, fun es vs p hz rz hp => ?_⟩
  obtain ⟨f, hR'⟩ := fresh_of hR1 hp rz
  exact k _ S1 p F1 _ hz f hR' x1
end
/-! ### built-ins -/
def bLen : OC
  | [.str x], R => x.length ≤ sizeLine ∧ R (.int x.length)
  | [.tup ds], R => R (.int ds.length)
  | [.lst ds], R => R (.int ds.length)
  | _, _ => False
def bAbs : OC
  | [.int i], R => R (.int (if i < 0 then -i else i))
  | _, _ => False
def bMax : OC
  | [.int i, .int j], R => R (.int (if j > i then j else i))
  | _, _ => False
def bMin : OC
  | [.int i, .int j], R => R (.int (if j < i then j else i))
  | _, _ => False
def bInt : OC
  | [.int i], R => R (.int i)
  | [.bl k], R => R (.int (if k then 1 else 0))
  | _, _ => False
/-- sum of a list of ints -/
def bSum : OC
  | [.lst ds], R => ∃ ns : List Int, ds = ns.map D.int ∧ R (.int ns.sum)
  | _, _ => False
def bAll : OC
  | [.lst ds], R => ∃ bs : List Bool, ds = bs.map D.bl ∧ R (.bl (bs.all id))
  | _, _ => False
def bAny : OC
  | [.lst ds], R => ∃ bs : List Bool, ds = bs.map D.bl ∧ R (.bl (bs.any id))
  | _, _ => False
def bTup : OC
  | [.lst ds], R => R (.tup ds)
  | [.tup ds], R => R (.tup ds)
  | _, _ => False
def bLst : OC
  | [.lst ds], R => R (.lst ds)
  | [.tup ds], R => R (.lst ds)
  | [.scr ns], R => R (.lst (ns.map D.int))
  | _, _ => False
def isi : D → Ty → Option Bool
  | .non, _ => some false
  | .bl _, .tint => some true
  | .bl _, .tbool => some true
  | .bl _, _ => some false
  | .int _, .tint => some true
  | .int _, _ => some false
  | .str _, .tstr => some true
  | .str _, _ => some false
  | .tup _, .ttup => some true
  | .tup _, _ => some false
  | .lst _, .tlst => some true
  | .lst _, _ => some false
  | .dct _ _, .tdct => some true
  | .dct _ _, _ => some false
  | _, _ => none
def bIsi : OC
  | [d, .ty t], R => ∃ b, isi d t = some b ∧ R (.bl b)
  | _, _ => False
section
variable {X : Cx} {Φ : En → Prop}
theorem Reps.nil_of {K : PySem.W.Frag} {F : Hp} {vs : List V} (r : Reps K F vs []) : vs = [] := by cases r; rfl
theorem Reps.one_of {K : PySem.W.Frag} {F : Hp} {vs : List V} {d : D} (r : Reps K F vs [d]) : ∃ v, vs = [v] ∧ Rep K F v d := by
  cases r with
  | cons a b => cases b; exact ⟨_, rfl, a⟩
theorem Reps.two_of {K : PySem.W.Frag} {F : Hp} {vs : List V} {d e : D} (r : Reps K F vs [d, e]) : ∃ v u, vs = [v, u] ∧ Rep K F v d ∧ Rep K F u e := by
  cases r with
  | cons a b =>
    obtain ⟨u, rfl, q⟩ := b.one_of
    exact ⟨_, _, rfl, a, q⟩
theorem cv_len : CallV X (.builtin "len") bLen := CallR.any fun xs H Q => by
  rintro ⟨F, ds, R, hx, r, hg, k⟩
  refine ⟨_, call_len, ?_⟩
  unfold bLen at hg
  split at hg
  · obtain ⟨v, rfl, q⟩ := r.one_of
    cases q
    exact ⟨_, _, rfl, ⟨hg.1, rfl⟩, k _ _ F H hg.2 (.int _) (.refl hx)⟩
  · obtain ⟨v, rfl, q⟩ := r.one_of
    cases q with
    | tup h s => exact ⟨_, _, rfl, .inr ⟨_, hx.sqT h, rfl⟩, by rw [s.length]; exact k _ _ F H hg (.int _) (.refl hx)⟩
  · obtain ⟨v, rfl, q⟩ := r.one_of
    cases q with
    | lst h s => exact ⟨_, _, rfl, .inl ⟨_, .of (hx _ _ h), rfl⟩, by rw [s.length]; exact k _ _ F H hg (.int _) (.refl hx)⟩
  · exact hg.elim
theorem cv_abs : CallV X (.builtin "abs") bAbs := CallR.any fun xs H Q => by
  rintro ⟨F, ds, R, hx, r, hg, k⟩
  refine ⟨_, call_abs, ?_⟩
  unfold bAbs at hg
  split at hg
  · obtain ⟨v, rfl, q⟩ := r.one_of
    cases q
    exact ⟨_, rfl, k _ _ F H hg (.int _) (.refl hx)⟩
  · exact hg.elim
theorem cv_max (hc : X.calm = true) : CallV X (.builtin "max") bMax := CallR.any fun xs H Q => by
  rintro ⟨F, ds, R, hx, r, hg, k⟩
  refine ⟨_, call_max2 hc, ?_⟩
  unfold bMax at hg
  split at hg
  · obtain ⟨v, u, rfl, q, q2⟩ := r.two_of
    cases q; cases q2
    exact ⟨_, _, rfl, k _ _ F H hg (.int _) (.refl hx)⟩
  · exact hg.elim
theorem cv_min (hc : X.calm = true) : CallV X (.builtin "min") bMin := CallR.any fun xs H Q => by
  rintro ⟨F, ds, R, hx, r, hg, k⟩
  refine ⟨_, call_min2 hc, ?_⟩
  unfold bMin at hg
  split at hg
  · obtain ⟨v, u, rfl, q, q2⟩ := r.two_of
    cases q; cases q2
    exact ⟨_, _, rfl, k _ _ F H hg (.int _) (.refl hx)⟩
  · exact hg.elim
theorem cv_int : CallV X (.type "int") bInt := CallR.any fun xs H Q => by
  rintro ⟨F, ds, R, hx, r, hg, k⟩
  refine ⟨_, call_int1, ?_⟩
  unfold bInt at hg
  split at hg
  · obtain ⟨v, rfl, q⟩ := r.one_of
    cases q
    exact .inl ⟨_, rfl, k _ _ F H hg (.int _) (.refl hx)⟩
  · obtain ⟨v, rfl, q⟩ := r.one_of
    cases q
    exact .inr ⟨_, rfl, k _ _ F H hg (.int _) (.refl hx)⟩
  · exact hg.elim
theorem cv_sum (hc : X.calm = true) : CallV X (.builtin "sum") bSum := CallR.any fun xs H Q => by
  rintro ⟨F, ds, R, hx, r, hg, k⟩
  refine ⟨_, cr_sum hc, ?_⟩
  unfold bSum at hg
  split at hg
  · obtain ⟨v, rfl, q⟩ := r.one_of
    obtain ⟨ns, rfl, q2⟩ := hg
    cases q with
    | lst h s =>
      have e := s.ints
      subst e
      exact ⟨_, ns, rfl, .of (hx _ _ h), k _ _ F H q2 (.int _) (.refl hx)⟩
  · exact hg.elim
theorem cv_all (hc : X.calm = true) : CallV X (.builtin "all") bAll := CallR.any fun xs H Q => by
  rintro ⟨F, ds, R, hx, r, hg, k⟩
  refine ⟨_, cr_all hc, ?_⟩
  unfold bAll at hg
  split at hg
  · obtain ⟨v, rfl, q⟩ := r.one_of
    obtain ⟨ns, rfl, q2⟩ := hg
    cases q with
    | lst h s =>
      have e := s.bools
      subst e
      exact ⟨_, ns, rfl, .of (hx _ _ h), k _ _ F H q2 (.bl _) (.refl hx)⟩
  · exact hg.elim
theorem cv_any (hc : X.calm = true) : CallV X (.builtin "any") bAny := CallR.any fun xs H Q => by
  rintro ⟨F, ds, R, hx, r, hg, k⟩
  refine ⟨_, cr_any hc, ?_⟩
  unfold bAny at hg
  split at hg
  · obtain ⟨v, rfl, q⟩ := r.one_of
    obtain ⟨ns, rfl, q2⟩ := hg
    cases q with
    | lst h s =>
      have e := s.bools
      subst e
      exact ⟨_, ns, rfl, .of (hx _ _ h), k _ _ F H q2 (.bl _) (.refl hx)⟩
  · exact hg.elim
theorem cv_tup : CallV X (.type "tuple") bTup := CallR.any fun xs H Q => by
  rintro ⟨F, ds, R, hx, r, hg, k⟩
  refine ⟨_, call_tuple_of, ?_⟩
  unfold bTup at hg
  split at hg
  · obtain ⟨v, rfl, q⟩ := r.one_of
    cases q with
    | lst h s =>
      rename_i a vs
      refine ⟨_, _, rfl, .inl ⟨.of (hx _ _ h), fun l hl => ?_⟩⟩
      have al := Al.one (o := .tup vs) hx hl
      exact k _ _ _ _ hg (.tup (.of upd_same) (s.mono al.xF)) al
  · obtain ⟨v, rfl, q⟩ := r.one_of
    cases q with
    | tup h s => exact ⟨_, _, rfl, .inr ⟨hx.sqT h, k _ _ F H hg (.tup h s) (.refl hx)⟩⟩
  · exact hg.elim
theorem cn_lst : CallN X (.type "list") bLst := CallR.any fun xs H Q => by
  rintro ⟨F, ds, R, hx, r, hg, k⟩
  refine ⟨_, call_list_of, ?_⟩
  unfold bLst at hg
  split at hg
  · obtain ⟨v, rfl, q⟩ := r.one_of
    cases q with
    | lst h s => exact ⟨_, _, rfl, .inl (.of (hx _ _ h)), fun l hl => k _ _ _ hg s hl⟩
  · obtain ⟨v, rfl, q⟩ := r.one_of
    cases q with
    | tup h s => exact ⟨_, _, rfl, .inr (hx.sqT h), fun l hl => k _ _ _ hg s hl⟩
  · obtain ⟨v, rfl, q⟩ := r.one_of
    cases q with
    | scr h => exact ⟨_, _, rfl, .inl (hx.sqL h), fun l hl => k _ _ _ hg (Reps.ofInts _) hl⟩
  · exact hg.elim
theorem bLst_l : ∀ ds R, bLst ds R → bLst ds fun d => R d ∧ ∃ es, d = .lst es := fun ds R h => by
  unfold bLst at h ⊢
  split at h
  · exact ⟨h, _, rfl⟩
  · exact ⟨h, _, rfl⟩
  · exact ⟨h, _, rfl⟩
  · exact h.elim
theorem cv_lst : CallV X (.type "list") bLst := vn_vc cn_lst bLst_l
/-- a built-in class as a value -/
theorem de_ty {x : Str} {pos : Pos} (t : Ty) (hg : Gl X x) (hm : X.mg x = none) (hv : bootBuiltins x = some (.type t.name)) (hn : x ≠ "__name__" := by decide) (hd : (x == ("__debug__" : Str)) = false := by decide) : DE X Φ (.Name x pos) (wC (.ty t)) :=
  de_c (pe_bltn (v := .ty t.name) hg hm hv rfl hn hd) fun _ => .ty t
theorem kit_tag {K : PySem.W.Frag} {F H : Hp} (hx : Ext F H) {v : V} {d : D} {t : Ty} {b : Bool} (r : Rep K F v d) (h : isi d t = some b) : ∃ n : String, TyX K H v (.type n) ∧ kitB n t.name = some b := by
  cases r with
  | non =>
    refine ⟨"NoneType", .base .non, ?_⟩
    cases t <;> (cases h; decide +kernel)
  | bl k =>
    refine ⟨"bool", .base (.bl k), ?_⟩
    cases t <;> (cases h; decide +kernel)
  | int k =>
    refine ⟨"int", .base (.int k), ?_⟩
    cases t <;> (cases h; decide +kernel)
  | str k =>
    refine ⟨"str", .base (.str k), ?_⟩
    cases t <;> (cases h; decide +kernel)
  | tup q s =>
    refine ⟨"tuple", ?_, ?_⟩
    · rcases hx.sqT q with (q | ⟨o, q⟩) | ⟨o, its, n, q, c, _⟩
      · exact .base (.tup q)
      · exact .fTuple q
      · exact .kTuple q c
    · cases t <;> (cases h; decide +kernel)
  | lst q s =>
    refine ⟨"list", .base (.lst (hx _ _ q)), ?_⟩
    cases t <;> (cases h; decide +kernel)
  | dct q z s =>
    refine ⟨"dict", .base (.dK (hx _ _ q)), ?_⟩
    cases t <;> (cases h; decide +kernel)
  | _ => cases h
theorem cv_isi : CallV X (.builtin "isinstance") bIsi := CallR.any fun xs H Q => by
  rintro ⟨F, ds, R, hx, r, hg, k⟩
  refine ⟨_, call_isi, ?_⟩
  unfold bIsi at hg
  split at hg
  · obtain ⟨v, u, rfl, q, q2⟩ := r.two_of
    cases q2
    obtain ⟨b, hb, h⟩ := hg
    obtain ⟨n, h1, h2⟩ := kit_tag hx q hb
    exact ⟨_, _, _, _, b, rfl, .ty _, h1, kit_ty h2, k _ _ F H h (.bl _) (.refl hx)⟩
  · exact hg.elim
end
end VL

set_option Elab.async false
set_option linter.all false
set_option maxRecDepth 100000
set_option maxHeartbeats 4000000
/-! VL4: subscripts, slices, targets, iterables, statements, comprehensions. -/
namespace VL
open PySem PySem.Spec L2
/-! ### subscripts -/
def ixD (h : Oh) : O2
  | .tup ds, .int i, R => ∃ d, atI ds i = some d ∧ R d
  | .lst ds, .int i, R => ∃ d, atI ds i = some d ∧ R d
  | .str x, .int i, R => x.length ≤ sizeLine ∧ ∃ c, atI x.cps.toList i = some c ∧ R (.str ⟨#[c]⟩)
  | .obj a, .int i, R => ∃ ds d, h a = some (.ml ds) ∧ atI ds i = some d ∧ R d
  | _, _, _ => False
def wIx (wa wb : WE) : WE := fun S R => wa S fun x S1 => wb S1 fun y S2 => ixD S2.h x y fun z => R z S2
def slv : Sl → Option D
  | .f d => some d
  | .o d => some d
  | .u => none
/-- x[..] of a name that may own its list -/
def wIxO (i : Nat) (wb : WE) : WE := fun S R => (∃ e, (S.s[i]?).bind slv = some e) ∧ wb S fun y S1 => ∃ d, (S1.s[i]?).bind slv = some d ∧ ixD S1.h d y fun z => R z S1
/-- len of a name that may own its list -/
def wLenO (i : Nat) : WE := fun S R => ∃ ds, (S.s[i]?).bind slv = some (.lst ds) ∧ R (.int ds.length) S
def rVo (K : PySem.W.Frag) : R2 := fun x y H Q => ∃ F h d e R, Ext F H ∧ (∀ a ob, h a = some ob → ObAt K F H a ob) ∧ Rep K F x d ∧ Rep K F y e ∧ ixD h d e R ∧ ∀ z v, R z → Rep K F v z → Q v H
section
variable {X : Cx} {Φ : En → Prop} {a b e : Expr} {es : List Expr} {w wa wb : WE} {ws : WA} {n : Nat} {pos p : Pos} {K : PySem.W.Frag} {F H : Hp}
theorem Reps.at {vs : List V} {ds : List D} {i : Int} {d : D} (r : Reps K F vs ds) (h : atI ds i = some d) : ∃ v, atI vs i = some v ∧ Rep K F v d := by
  unfold atI at h ⊢
  rw [r.length]
  cases e : ixN ds.length i with
  | none => rw [e] at h; cases h
  | some j =>
    rw [e] at h
    exact r.get h
theorem ix_v : IxR X (rVo X.K) := IxR.any fun x y H Q => by
  rintro ⟨F, h, d, e, R, hx, ho, r1, r2, hg, k⟩
  refine ⟨_, ix_seq, ?_⟩
  unfold ixD at hg
  split at hg
  · cases r2
    obtain ⟨d, h1, h2⟩ := hg
    cases r1 with
    | tup q s =>
      obtain ⟨v, h3, h4⟩ := s.at h1
      exact .inr (.inl ⟨_, _, _, v, rfl, rfl, hx.sqT q, h3, k _ _ h2 h4⟩)
  · cases r2
    obtain ⟨d, h1, h2⟩ := hg
    cases r1 with
    | lst q s =>
      obtain ⟨v, h3, h4⟩ := s.at h1
      exact .inl ⟨_, _, _, v, rfl, rfl, .of (hx _ _ q), h3, k _ _ h2 h4⟩
  · cases r2
    cases r1
    obtain ⟨hl, c, h1, h2⟩ := hg
    exact .inr (.inr ⟨_, _, c, rfl, rfl, hl, h1, k _ _ h2 (.str _)⟩)
  · cases r2
    obtain ⟨ds, d, h0, h1, h2⟩ := hg
    cases r1 with
    | obj =>
      obtain ⟨vs, q, s⟩ := ho _ _ h0
      obtain ⟨v, h3, h4⟩ := s.at h1
      exact .inl ⟨_, _, _, v, rfl, rfl, .of q, h3, k _ _ h2 h4⟩
  · exact hg.elim
theorem de_ix (ha : DE X Φ a wa) (hb : DE X Φ b wb) (hs : PlainIx b) : DE X Φ (.Subscript a b pos) (wIx wa wb) := fun E hE => PE.imp (pe_ix ix_v (ha E hE) (hb E hE) hs) fun σ H Q => by
  rintro ⟨S, F, R, hR, hw, k⟩
  refine ⟨S, F, _, hR, hw, fun x S1 v1 F1 H1 hw1 r1 hR1 x1 => ?_⟩
  refine ⟨S1, F1, _, hR1, hw1, fun y S2 v2 F2 H2 hw2 r2 hR2 x2 => ?_⟩
  exact ⟨F2, S2.h, x, y, _, hR2.g.ext, fun a ob q => (hR2.g.obs a ob q).1, r1.mono x2, r2, hw2, fun z v hz rz => k z S2 v F2 H2 hz rz hR2 (x1.trans x2)⟩
theorem Rel.slot {E : En} {σ : L2.St} {S : Sg} {i : Nat} {e : D} (hR : Rel K E F H σ S) (h : (S.s[i]?).bind slv = some e) : ∃ v, σ[i]? = some (some v) ∧ ((S.s[i]? = some (.f e) ∧ Rep K F v e) ∨ (S.s[i]? = some (.o e) ∧ ∃ p, v = .ref p ∧ OwAt K F H p e)) := by
  cases q : S.s[i]? with
  | none => rw [q] at h; cases h
  | some x =>
    rw [q] at h
    cases x with
    | u => cases h
    | f d =>
      cases h
      obtain ⟨v, h1, h2⟩ := hR.frz i _ q
      exact ⟨v, h1, .inl ⟨rfl, h2⟩⟩
    | o d =>
      cases h
      obtain ⟨p, h1, h2, _⟩ := hR.own i _ q
      exact ⟨_, h1, .inr ⟨rfl, p, rfl, h2⟩⟩
theorem de_ixO {x : Str} (i : Nat) (h : PE X (.Name x p) (tVar i)) (hb : DE X Φ b wb) (hs : PlainIx b) : DE X Φ (.Subscript (.Name x p) b pos) (wIxO i wb) := fun E hE => PE.imp (pe_ix (IxR.or ix_v ix_list) h (hb E hE) hs) fun σ H Q => by
  rintro ⟨S, F, R, hR, ⟨⟨e, he⟩, hw⟩, k⟩
  obtain ⟨v, h1, _⟩ := hR.slot he
  refine ⟨_, h1, ?_⟩
  refine ⟨S, F, _, hR, hw, fun y S1 v1 F1 H1 hw1 r1 hR1 x1 => ?_⟩
  obtain ⟨d, g1, g2⟩ := hw1
  obtain ⟨v', h2, h3⟩ := hR1.slot g1
  rw [h1] at h2
  cases h2
  rcases h3 with ⟨_, rd⟩ | ⟨_, q, rfl, ho⟩
  · exact .inl ⟨F1, S1.h, d, y, _, hR1.g.ext, fun a ob q => (hR1.g.obs a ob q).1, rd, r1, g2, fun z v hz rz => k z S1 v F1 H1 hz rz hR1 x1⟩
  · cases d with
    | lst ds =>
      obtain ⟨vs, q, s⟩ := ho
      cases r1 with
      | int i =>
        obtain ⟨d, g3, g4⟩ := g2
        obtain ⟨v, h3, h4⟩ := s.at g3
        exact .inr ⟨_, _, _, v, rfl, rfl, .of q, h3, k d S1 v F1 H1 g4 h4 hR1 x1⟩
      | _ => exact g2.elim
    | dct => cases r1 <;> exact g2.elim
    | dcu => cases r1 <;> exact g2.elim
    | _ => exact ho.elim
theorem de_lenO {x y : Str} {p2 : Pos} (i : Nat) (h : PE X (.Name x p) (tVar i)) (hg : Gl X y) (hm : X.mg y = none) (hv : bootBuiltins y = some (.builtin "len")) (hn : y ≠ "__name__" := by decide) (hdb : (y == ("__debug__" : Str)) = false := by decide)
    (he : starEach [.Name x p] X.env = (false, eval (.Name x p) X.env) :: starEach [] X.env := by rfl) (hpl : (backTo pos (starEach [] X.env)).any (·.1) = false := by rfl) : DE X Φ (.Call (.Name y p2) [.Name x p] [] pos) (wLenO i) := fun E hE => PE.imp (pe_callB call_len hg hm hv (pa_cons h pa_nil he) hn hdb he hpl) fun σ H Q => by
  rintro ⟨S, F, R, hR, ⟨ds, hd, hw⟩, k⟩
  obtain ⟨v, h1, h2⟩ := hR.slot hd
  have hl : ∃ a vs, v = .ref a ∧ H a = some (.lst vs) ∧ vs.length = ds.length := by
    rcases h2 with ⟨_, r⟩ | ⟨_, q, rfl, vs, q1, s⟩
    · cases r with
      | lst q s => exact ⟨_, _, rfl, hR.g.ext _ _ q, s.length⟩
    · exact ⟨_, _, rfl, q1, s.length⟩
  obtain ⟨a, vs, rfl, q, l⟩ := hl
  refine ⟨_, h1, _, _, rfl, .inl ⟨vs, .of q, rfl⟩, ?_⟩
  rw [l]
  exact k _ S _ F H hw (.int _) hR (.refl _)
end

/-! ### slices -/
def cutD {α : Type} (xs : List α) (lo hi : Option Int) : List α := (xs.drop (HT.sIx xs.length 0 lo)).take (HT.sIx xs.length xs.length hi - HT.sIx xs.length 0 lo)
abbrev WO := Sg → (Option Int → Sg → Prop) → Prop
def wNoPart : WO := fun S R => R none S
def wPart (w : WE) : WO := fun S R => w S fun d S1 => match d with
  | .int i => R (some i) S1
  | _ => False
def slD : D → Option Int → Option Int → (D → Prop) → Prop
  | .tup ds, lo, hi, R => R (.tup (cutD ds lo hi))
  | .lst ds, lo, hi, R => R (.lst (cutD ds lo hi))
  | .str x, lo, hi, R => x.length ≤ sizeLine ∧ R (.str (cutS x lo hi))
  | _, _, _, _ => False
def wSl (w : WE) (lo hi : WO) : WE := fun S R => w S fun d S1 => lo S1 fun l S2 => hi S2 fun u S3 => slD d l u fun z => R z S3
def LO (K : PySem.W.Frag) (E : En) (w : WO) : TO := fun σ H Q => ∃ S F R, Rel K E F H σ S ∧ w S R ∧ ∀ o S' F' H', R o S' → Rel K E F' H' σ S' → Ext F F' → Q o H'
def DO (X : Cx) (Φ : En → Prop) (e : Option Expr) (w : WO) : Prop := ∀ E, Φ E → PO X e (LO X.K E w)
section
variable {X : Cx} {Φ : En → Prop} {a b e : Expr} {es : List Expr} {w wa wb : WE} {lo hi : Option Expr} {wl wh : WO} {pos p : Pos} {K : PySem.W.Frag} {F H : Hp}
theorem PO.imp {X : Cx} {e : Option Expr} {t t' : TO} (h : PO X e t) (hi : ∀ σ H Q, t' σ H Q → t σ H Q) : PO X e t' := ⟨fun pins s σ H Q I q => h.run pins s σ H Q I (hi _ _ _ q)⟩
theorem do_none : DO X Φ none wNoPart := fun E hE => PO.imp po_none fun σ H Q => by
  rintro ⟨S, F, R, hR, hw, k⟩
  exact k none S F H hw hR (.refl _)
theorem do_some (h : DE X Φ e w) : DO X Φ (some e) (wPart w) := fun E hE => PO.imp (po_some (h E hE)) fun σ H Q => by
  rintro ⟨S, F, R, hR, hw, k⟩
  refine ⟨S, F, _, hR, hw, fun x S1 v1 F1 H1 hw1 r1 hR1 x1 => ?_⟩
  cases r1 with
  | int i => exact ⟨i, rfl, k _ S1 F1 H1 hw1 hR1 x1⟩
  | _ => exact hw1.elim
theorem Reps.cut {vs : List V} {ds : List D} (r : Reps K F vs ds) (lo hi : Option Int) : Reps K F (cutV vs lo hi) (cutD ds lo hi) := by
  unfold cutV cutD
  rw [r.length]
  exact (r.drop _).take _
theorem SlR.any {r : V → Option Int → Option Int → Hp → VK → Prop} (h : ∀ x lo hi H Q, r x lo hi H Q → ∃ r', SlR X r' ∧ r' x lo hi H Q) : SlR X r := fun pins s σ H x v vl vu lo hi sl Q I rx h1 h2 h3 q =>
  let ⟨_, ho, q'⟩ := h x lo hi H Q q
  ho pins s σ H x v vl vu lo hi sl Q I rx h1 h2 h3 q'
theorem sl_v : SlR X fun x lo hi H Q => ∃ F d R, Ext F H ∧ Rep X.K F x d ∧ slD d lo hi R ∧ ∀ z v F' H', R z → Rep X.K F' v z → Al F H F' H' → Q v H' := SlR.any fun x lo hi H Q => by
  rintro ⟨F, d, R, hx, r1, hg, k⟩
  unfold slD at hg
  split at hg
  · cases r1 with
    | tup q s =>
      rename_i a vs
      refine ⟨_, sl_tupA, a, vs, rfl, hx.sqT q, fun z => ?_, fun z p hp => ?_⟩
      · have e : cutV vs lo hi = vs := by
          unfold cutV
          rw [z.1, z.2]
          simp
        have sc := s.cut lo hi
        rw [e] at sc
        exact k _ _ F H hg (.tup q sc) (.refl hx)
      · have al := Al.one (o := .tup (cutV vs lo hi)) hx hp
        exact k _ _ _ _ hg (.tup (.of upd_same) ((s.cut lo hi).mono al.xF)) al
  · cases r1 with
    | lst q s =>
      rename_i a vs
      refine ⟨_, sl_list, a, vs, rfl, .of (hx _ _ q), fun p hp => ?_⟩
      have al := Al.one (o := .lst (cutV vs lo hi)) hx hp
      exact k _ _ _ _ hg (.lst upd_same ((s.cut lo hi).mono al.xF)) al
  · cases r1
    exact ⟨_, sl_str, _, rfl, hg.1, k _ _ F H hg.2 (.str _) (.refl hx)⟩
  · exact hg.elim
theorem de_sl {p2 : Pos} (he : DE X Φ e w) (hl : DO X Φ lo wl) (hu : DO X Φ hi wh) : DE X Φ (.Subscript e (.Slice lo hi none p2) pos) (wSl w wl wh) := fun E hE => PE.imp (pe_slice sl_v (he E hE) (hl E hE) (hu E hE)) fun σ H Q => by
  rintro ⟨S, F, R, hR, hw, k⟩
  refine ⟨S, F, _, hR, hw, fun x S1 v1 F1 H1 hw1 r1 hR1 x1 => ?_⟩
  refine ⟨S1, F1, _, hR1, hw1, fun l S2 F2 H2 hw2 hR2 x2 => ?_⟩
  refine ⟨S2, F2, _, hR2, hw2, fun u S3 F3 H3 hw3 hR3 x3 => ?_⟩
  exact ⟨F3, x, _, hR3.g.ext, (r1.mono x2).mono x3, hw3, fun z v F' H' hz rz al => k z S3 v F' H' hz rz (hR3.al al) (((x1.trans x2).trans x3).trans al.xF)⟩
end

/-! ### targets -/
def gVar (i : Nat) : WG := fun d S R => R (S.st i (.f d))
abbrev WGs := List D → Sg → (Sg → Prop) → Prop
def gsNil : WGs := fun ds S R => match ds with
  | [] => R S
  | _ => False
def gsCons (g : WG) (gs : WGs) : WGs := fun ds S R => match ds with
  | d :: r => g d S fun S1 => gs r S1 R
  | [] => False
def gTp (n : Nat) (gs : WGs) : WG := fun d S R => match d with
  | .tup ds => ds.length = n ∧ gs ds S R
  | _ => False
/-- o[i] = .., o a known list -/
def gIxM (wo wi : WE) : WG := fun d S R => wo S fun x S1 => wi S1 fun y S2 => ∃ a ds j k, x = .obj a ∧ y = .int j ∧ S2.h a = some (.ml ds) ∧ ixN ds.length j = some k ∧ R (S2.ob a (.ml (ds.set k d)))
/-- x[i] = .., x owns its list -/
def gIxO (i : Nat) (wi : WE) : WG := fun d S R => (∃ e, S.s[i]? = some (.o e)) ∧ wi S fun y S1 => ∃ ds j k, S1.s[i]? = some (.o (.lst ds)) ∧ y = .int j ∧ ixN ds.length j = some k ∧ R (S1.st i (.o (.lst (ds.set k d))))
def LGs (K : PySem.W.Frag) (E : En) (g : WGs) : TGs := fun vs σ H Q => ∃ S F ds R, Rel K E F H σ S ∧ Reps K F vs ds ∧ g ds S R ∧ ∀ S' σ' F' H', R S' → Rel K E F' H' σ' S' → Ext F F' → Q σ' H'
def DGs (X : Cx) (Φ : En → Prop) (es : List Expr) (g : WGs) : Prop := ∀ E, Φ E → PGs X es (LGs X.K E g)
section
variable {X : Cx} {Φ : En → Prop} {a b e o i : Expr} {es : List Expr} {w wo wi : WE} {g : WG} {gs : WGs} {pos p : Pos}
theorem PGs.imp {t t' : TGs} (h : PGs X es t) (hi : ∀ v σ H Q, t' v σ H Q → t v σ H Q) : PGs X es t' := ⟨fun pins s σ H v u Q I r q => h.run pins s σ H v u Q I r (hi _ _ _ _ q)⟩
theorem dg_var {x : Str} (i : Nat) (h : PG X (.Name x pos) (gName i)) : DG X Φ (.Name x pos) (gVar i) := fun E hE => PG.imp h fun v σ H Q => by
  rintro ⟨S, F, d, R, hR, r, hg, k⟩
  exact k _ _ F H hg (hR.set r) (.refl _)
theorem dgs_nil : DGs X Φ [] gsNil := fun E hE => PGs.imp pgs_nil fun v σ H Q => by
  rintro ⟨S, F, d, R, hR, r, hg, k⟩
  cases r with
  | nil => exact ⟨rfl, k S σ F H hg hR (.refl _)⟩
  | cons => exact hg.elim
theorem dgs_cons (h : DG X Φ e g) (hs : DGs X Φ es gs) (hh : (assignEach (e :: es) X.env).map (·.2) = assign e X.env :: (assignEach es X.env).map (·.2) := by rfl) : DGs X Φ (e :: es) (gsCons g gs) := fun E hE => PGs.imp (pgs_cons (h E hE) (hs E hE) hh) fun v σ H Q => by
  rintro ⟨S, F, ds, R, hR, r, hg, k⟩
  cases r with
  | nil => exact hg.elim
  | cons r1 r2 =>
    refine ⟨_, _, rfl, S, F, _, _, hR, r1, hg, fun S1 σ1 F1 H1 hg1 hR1 x1 => ?_⟩
    exact ⟨S1, F1, _, R, hR1, r2.mono x1, hg1, fun S2 σ2 F2 H2 h2 hR2 x2 => k S2 σ2 F2 H2 h2 hR2 (x1.trans x2)⟩
theorem dg_tup {k n : Nat} (hc : X.calm = true) (h : DGs X Φ es gs) (hn : (assignEach es X.env).length = n := by rfl) (hst : (assignEach es X.env).findIdx? (·.1) = none := by rfl) : DG X Φ (.Tuple es k pos) (gTp n gs) := fun E hE => PG.imp (pg_tup hc (h E hE) hn hst) fun v σ H Q => by
  rintro ⟨S, F, d, R, hR, r, hg, k⟩
  cases r with
  | tup q s => exact ⟨_, _, rfl, hR.g.ext.sqT q, s.length.trans hg.1, S, F, _, R, hR, s, hg.2, k⟩
  | _ => exact hg.elim
theorem dg_ixM (ho : DE X Φ o wo) (hi : DE X Φ i wi) (ha : ∀ v, assign (.Subscript o i pos) X.env v = (do
      let ov ← holding [v] (eval o X.env)
      let iv ← holding [v, ov] (eval i X.env)
      standAt pos
      holding [v, ov, iv] (setItem ov iv v)
      release [v, ov, iv] []) := by intro _; rfl) : DG X Φ (.Subscript o i pos) (gIxM wo wi) := fun E hE => PG.imp (pg_sub (ho E hE) (hi E hE) set_list ha) fun v σ H Q => by
  rintro ⟨S, F, d, R, hR, r, hg, k⟩
  refine ⟨S, F, _, hR, hg, fun x S1 v1 F1 H1 hw1 r1 hR1 x1 => ?_⟩
  refine ⟨S1, F1, _, hR1, hw1, fun y S2 v2 F2 H2 hw2 r2 hR2 x2 => ?_⟩
  obtain ⟨a, ds, j, m, rfl, rfl, h1, h2, h3⟩ := hw2
  cases r1; cases r2
  obtain ⟨vs, q, s⟩ := (hR2.g.obs _ _ h1).1
  refine ⟨a, vs, j, m, rfl, rfl, q, by rw [s.length]; exact h2, ?_⟩
  exact k _ _ F2 _ h3 (hR2.obput (by rw [h1]; simp) ⟨_, upd_same, s.set m ((r.mono x1).mono x2)⟩) (x1.trans x2)
theorem dg_ixO {x : Str} {px : Pos} (j : Nat) (h : PE X (.Name x px) (tVar j)) (hi : DE X Φ i wi) (ha : ∀ v, assign (.Subscript (.Name x px) i pos) X.env v = (do
      let ov ← holding [v] (eval (.Name x px) X.env)
      let iv ← holding [v, ov] (eval i X.env)
      standAt pos
      holding [v, ov, iv] (setItem ov iv v)
      release [v, ov, iv] []) := by intro _; rfl) : DG X Φ (.Subscript (.Name x px) i pos) (gIxO j wi) := fun E hE => PG.imp (pg_sub h (hi E hE) set_list ha) fun v σ H Q => by
  rintro ⟨S, F, d, R, hR, r, ⟨⟨e, he⟩, hg⟩, k⟩
  obtain ⟨p, h1, _⟩ := hR.own j e he
  refine ⟨_, h1, S, F, _, hR, hg, fun y S1 v1 F1 H1 hw1 r1 hR1 x1 => ?_⟩
  obtain ⟨ds, z, m, g1, rfl, g2, g3⟩ := hw1
  obtain ⟨p', h2, ⟨vs, q, s⟩, _⟩ := hR1.own j _ g1
  rw [h1] at h2
  cases h2
  cases r1
  refine ⟨_, vs, z, m, rfl, rfl, q, by rw [s.length]; exact g2, ?_⟩
  exact k _ _ F1 _ g3 (hR1.mut g1 h1 ⟨_, upd_same, s.set m (r.mono x1)⟩) x1
end

/-! ### iterables -/
def wRng1 (w : WA) : WA := fun S R => w S fun ds S1 => match ds with
  | [.int j] => (-(2 ^ 62) ≤ j ∧ j < 2 ^ 62) ∧ R ((List.range j.toNat).map fun i => .int (i : Nat)) S1
  | _ => False
def wRng2 (w : WA) : WA := fun S R => w S fun ds S1 => match ds with
  | [.int i, .int j] => (-(2 ^ 62) ≤ i ∧ i < 2 ^ 62 ∧ -(2 ^ 62) ≤ j ∧ j < 2 ^ 62) ∧ R ((List.range (j - i).toNat).map fun k => .int (i + (k : Nat))) S1
  | _ => False
def wItL (w : WE) : WA := fun S R => w S fun d S1 => match d with
  | .lst ds => R ds S1
  | _ => False
def wItT (w : WE) : WA := fun S R => w S fun d S1 => match d with
  | .tup ds => R ds S1
  | _ => False
def chars (x : Str) : List D := x.cps.toList.map fun c => .str ⟨#[c]⟩
def wItS (w : WE) : WA := fun S R => w S fun d S1 => match d with
  | .str x => R (chars x) S1
  | _ => False
def wZip (w : WA) : WA := fun S R => w S fun ds S1 => match ds with
  | [.lst xs, .lst ys] => R (List.zipWith (fun x y => .tup [x, y]) xs ys) S1
  | _ => False
def wEnum (w : WA) : WA := fun S R => w S fun ds S1 => match ds with
  | [.lst xs] => R (xs.zipIdx.map fun p => .tup [.int (p.2 : Nat), p.1]) S1
  | _ => False
section
variable {X : Cx} {Φ : En → Prop} {a b e tg : Expr} {es : List Expr} {w : WE} {ws : WA} {n : Nat} {pos p : Pos} {K : PySem.W.Frag} {F H : Hp}
theorem feeds_list {c : Addr} {vs : List V} {ds : List D} (h : F c = some (.lst vs)) (s : Reps K F vs ds) : Feeds K (Itl K c) F ds := fun F' H' x1 x2 =>
  ⟨fun i d hd => by
    obtain ⟨v, h1, h2⟩ := s.get hd
    have hq : SqL K H' c vs := .of (x2 _ _ (x1 _ _ h))
    refine ⟨⟨vs, v, hq, h1⟩, fun x H3 hy => ?_⟩
    obtain ⟨rfl, hy⟩ := hy
    have e : x = v := Option.some.inj ((hy _ hq).symm.trans h1)
    subst e
    exact ⟨F', .refl x2, h2.mono x1⟩, fun i hi => ⟨vs, .of (x2 _ _ (x1 _ _ h)), by rw [s.length]; exact hi⟩⟩
theorem feeds_tup {c : Addr} {vs : List V} {ds : List D} (h : SqT K F c vs) (s : Reps K F vs ds) : Feeds K (Itt K c) F ds := fun F' H' x1 x2 =>
  ⟨fun i d hd => by
    obtain ⟨v, h1, h2⟩ := s.get hd
    have hq : SqT K H' c vs := x2.sqT (x1.sqT h)
    refine ⟨⟨vs, v, hq, h1⟩, fun x H3 hy => ?_⟩
    obtain ⟨rfl, hy⟩ := hy
    have e : x = v := Option.some.inj ((hy _ hq).symm.trans h1)
    subst e
    exact ⟨F', .refl x2, h2.mono x1⟩, fun i hi => ⟨vs, x2.sqT (x1.sqT h), by rw [s.length]; exact hi⟩⟩
theorem feeds_rng {lo : Int} {n : Nat} : Feeds K (Itr lo n) F ((List.range n).map fun k => .int (lo + (k : Nat))) := fun F' H' x1 x2 =>
  ⟨fun i d hd => by
    rw [List.getElem?_map] at hd
    cases e : (List.range n)[i]? with
    | none => rw [e] at hd; cases hd
    | some j =>
      rw [e] at hd
      have hi : i < n := by simpa using ix_lt e
      rw [List.getElem?_range hi] at e
      cases e
      cases hd
      refine ⟨hi, fun x H3 hy => ?_⟩
      obtain ⟨rfl, rfl⟩ := hy
      exact ⟨F', .refl x2, .int _⟩, fun i hi => (by simpa using hi : n ≤ i)⟩
theorem feeds_str {x : Str} : Feeds K (Its x) F (chars x) := fun F' H' x1 x2 =>
  ⟨fun i d hd => by
    unfold chars at hd
    rw [List.getElem?_map] at hd
    cases e : x.cps.toList[i]? with
    | none => rw [e] at hd; cases hd
    | some j =>
      rw [e] at hd
      cases hd
      have hi : i < x.cps.size := by simpa using ix_lt e
      refine ⟨hi, fun y H3 hy => ?_⟩
      obtain ⟨rfl, c, h1, rfl⟩ := hy
      have : x.cps[i]? = some j := by simpa using e
      rw [this] at h1
      cases h1
      exact ⟨F', .refl x2, .str _⟩, fun i hi => by
    have : x.cps.size ≤ i := by simpa [chars] using hi
    exact this⟩
theorem feeds_zip {a b : Addr} {vs us : List V} {ds es : List D} (h : F a = some (.lst vs)) (s : Reps K F vs ds) (h' : F b = some (.lst us)) (s' : Reps K F us es) : Feeds K (Itz K a b) F (List.zipWith (fun x y => .tup [x, y]) ds es) := fun F' H' x1 x2 => by
  have hq : SqL K H' a vs := .of (x2 _ _ (x1 _ _ h))
  have hq' : SqL K H' b us := .of (x2 _ _ (x1 _ _ h'))
  refine ⟨fun i d hd => ?_, fun i hi => ?_⟩
  · rw [List.getElem?_zipWith] at hd
    cases e1 : ds[i]? with
    | none => rw [e1] at hd; cases hd
    | some y =>
      cases e2 : es[i]? with
      | none => rw [e1, e2] at hd; cases hd
      | some z =>
        rw [e1, e2] at hd
        cases hd
        obtain ⟨v, h1, h2⟩ := s.get e1
        obtain ⟨u, h3, h4⟩ := s'.get e2
        refine ⟨⟨vs, us, v, u, hq, hq', h1, h3⟩, fun x H3 hy => ?_⟩
        obtain ⟨T, q, r, rfl, hT, rfl, f1, f2⟩ := hy
        have e1 : q = v := Option.some.inj ((f1 _ hq).symm.trans h1)
        have e2 : r = u := Option.some.inj ((f2 _ hq').symm.trans h3)
        subst e1
        subst e2
        have al := Al.one (o := .tup [q, r]) x2 hT
        exact ⟨_, al, .tup (.of upd_same) (((Reps.cons h2 (.one h4)).mono x1).mono al.xF)⟩
  · rw [List.length_zipWith] at hi
    refine ⟨vs, us, hq, hq', ?_⟩
    rw [s.length, s'.length]
    omega
theorem feeds_enum {a : Addr} {vs : List V} {ds : List D} (h : F a = some (.lst vs)) (s : Reps K F vs ds) : Feeds K (Ite K a) F (ds.zipIdx.map fun p => .tup [.int (p.2 : Nat), p.1]) := fun F' H' x1 x2 => by
  have hq : SqL K H' a vs := .of (x2 _ _ (x1 _ _ h))
  refine ⟨fun i d hd => ?_, fun i hi => ?_⟩
  · rw [List.getElem?_map, List.getElem?_zipIdx] at hd
    cases e1 : ds[i]? with
    | none => rw [e1] at hd; cases hd
    | some y =>
      rw [e1] at hd
      cases hd
      obtain ⟨v, h1, h2⟩ := s.get e1
      refine ⟨⟨vs, v, hq, h1⟩, fun x H3 hy => ?_⟩
      obtain ⟨T, q, rfl, hT, rfl, f1⟩ := hy
      have e1 : q = v := Option.some.inj ((f1 _ hq).symm.trans h1)
      subst e1
      have al := Al.one (o := .tup [.int (i : Nat), q]) x2 hT
      have z : 0 + i = i := Nat.zero_add i
      refine ⟨_, al, .tup (.of upd_same) (((Reps.cons ?_ (.one h2)).mono x1).mono al.xF)⟩
      show Rep K F (.int (i : Nat)) (.int ((0 + i : Nat) : Int))
      rw [z]
      exact .int _
  · rw [List.length_map, List.length_zipIdx] at hi
    exact ⟨vs, hq, by rw [s.length]; exact hi⟩
theorem di_list (he : DE X Φ e w) : DI X Φ tg e (wItL w) := fun E hE => PI.imp (pi_list (he E hE)) fun σ H Q => by
  rintro ⟨S, F, R, hR, hw, k⟩
  refine ⟨S, F, _, hR, hw, fun d S1 v F1 H1 hw1 r hR1 x1 => ?_⟩
  cases r with
  | lst q s => exact ⟨_, rfl, ⟨_, .of (hR1.g.ext _ _ q)⟩, k _ S1 _ F1 H1 hw1 (feeds_list q s) hR1 x1⟩
  | _ => exact hw1.elim
theorem di_tup (he : DE X Φ e w) : DI X Φ tg e (wItT w) := fun E hE => PI.imp (pi_tup (he E hE)) fun σ H Q => by
  rintro ⟨S, F, R, hR, hw, k⟩
  refine ⟨S, F, _, hR, hw, fun d S1 v F1 H1 hw1 r hR1 x1 => ?_⟩
  cases r with
  | tup q s => exact ⟨_, rfl, ⟨_, hR1.g.ext.sqT q⟩, k _ S1 _ F1 H1 hw1 (feeds_tup q s) hR1 x1⟩
  | _ => exact hw1.elim
theorem di_str (he : DE X Φ e w) : DI X Φ tg e (wItS w) := fun E hE => PI.imp (pi_str (he E hE)) fun σ H Q => by
  rintro ⟨S, F, R, hR, hw, k⟩
  refine ⟨S, F, _, hR, hw, fun d S1 v F1 H1 hw1 r hR1 x1 => ?_⟩
  cases r with
  | str => exact ⟨_, rfl, k _ S1 _ F1 H1 hw1 feeds_str hR1 x1⟩
  | _ => exact hw1.elim
theorem di_rng1 (hg : Gl X "range") (hm : X.mg "range" = none) (ha : DA X Φ [a] n ws) (hs : starEach [a] X.env = [(false, eval a X.env)] := by rfl) : DI X Φ tg (.Call (.Name "range" p) [a] [] pos) (wRng1 ws) := fun E hE => PI.imp (pi_range1 hg hm (ha E hE) hs) fun σ H Q => by
  rintro ⟨S, F, R, hR, hw, k⟩
  refine ⟨S, F, _, hR, hw, fun ds S1 vs F1 H1 hw1 l1 r1 hR1 x1 => ?_⟩
  split at hw1
  · obtain ⟨v, rfl, q⟩ := r1.one_of
    cases q
    rename_i j
    refine ⟨j, rfl, hw1.1.1, hw1.1.2, k _ S1 _ F1 H1 hw1.2 ?_ hR1 x1⟩
    have h := feeds_rng (K := X.K) (F := F1) (lo := 0) (n := j.toNat)
    simp only [Int.zero_add] at h
    exact h
  · exact hw1.elim
theorem di_rng2 (hg : Gl X "range") (hm : X.mg "range" = none) (ha : DA X Φ [a, b] n ws) (hs : starEach [a, b] X.env = [(false, eval a X.env), (false, eval b X.env)] := by rfl) (hs2 : starEach [b] X.env = [(false, eval b X.env)] := by rfl) : DI X Φ tg (.Call (.Name "range" p) [a, b] [] pos) (wRng2 ws) := fun E hE => PI.imp (pi_range2 hg hm (ha E hE) hs hs2) fun σ H Q => by
  rintro ⟨S, F, R, hR, hw, k⟩
  refine ⟨S, F, _, hR, hw, fun ds S1 vs F1 H1 hw1 l1 r1 hR1 x1 => ?_⟩
  split at hw1
  · obtain ⟨v, u, rfl, q, q2⟩ := r1.two_of
    cases q; cases q2
    exact ⟨_, _, rfl, hw1.1, k _ S1 _ F1 H1 hw1.2 feeds_rng hR1 x1⟩
  · exact hw1.elim
theorem di_zip {tpos : Pos} {elts : List Expr} {kk : Nat} (hg : Gl X "zip") (hm : X.mg "zip" = none) (ha : DA X Φ [a, b] n ws) (hp : ∀ t, PA X [a, b] t → PI X (.Tuple elts kk tpos) (.Call (.Name "zip" p) [a, b] [] pos) (iZip X.K t)) : DI X Φ (.Tuple elts kk tpos) (.Call (.Name "zip" p) [a, b] [] pos) (wZip ws) := fun E hE => PI.imp (hp _ (ha E hE)) fun σ H Q => by
  rintro ⟨S, F, R, hR, hw, k⟩
  refine ⟨S, F, _, hR, hw, fun ds S1 vs F1 H1 hw1 l1 r1 hR1 x1 => ?_⟩
  split at hw1
  · obtain ⟨v, u, rfl, q, q2⟩ := r1.two_of
    cases q with
    | lst h s =>
      cases q2 with
      | lst h' s' => exact ⟨_, _, _, _, rfl, .of (hR1.g.ext _ _ h), .of (hR1.g.ext _ _ h'), k _ S1 _ F1 H1 hw1 (feeds_zip h s h' s') hR1 x1⟩
  · exact hw1.elim
end
end VL

set_option Elab.async false
set_option linter.all false
set_option maxRecDepth 100000
set_option maxHeartbeats 4000000
/-! VL5: statements, comprehensions, defs. -/
namespace VL
open PySem PySem.Spec L2
/-! ### statements -/
def wNext : WS := fun D S => D.nx S
def wSeq (t u : WS) : WS := fun D S => t { D with nx := u D } S
def wBreak : WS := fun D S => D.bk S
def wCont : WS := fun D S => D.ct S
def wDrop (w : WE) : WS := fun D S => w S fun _ S1 => D.nx S1
def wRet (w : WE) : WS := fun D S => w S D.rt
def wRetN : WS := fun D S => D.rt .non S
def wIfS (t : WT) (u v : WS) : WS := fun D S => t S fun b S1 => Br b (u D S1) (v D S1)
def wAsg (w : WE) (g : WG) : WS := fun D S => w S fun d S1 => g d S1 D.nx
/-- x = a fresh container that the name owns -/
def wSetO (i : Nat) (w : WE) : WS := fun D S => w S fun d S1 => D.nx (S1.st i (.o d))
def obOf : D → Ob
  | .lst ds => .ml ds
  | .dct ks ds => .md ks ds
  | .dcu ks ds => .mu ks ds
  | _ => .ml []
/-- x = a fresh container that becomes a known object -/
def wSetM (i : Nat) (w : WE) : WS := fun D S => w S fun d S1 => ∀ a, S1.h a = none → D.nx ((S1.ob a (obOf d)).st i (.f (.obj a)))
def wPar (i j : Nat) (w : WA) : WS := fun D S => w S fun ds S1 => match ds with
  | [d, e] => D.nx ((S1.st i (.f d)).st j (.f e))
  | _ => False
def wPar3 (i j l : Nat) (w : WA) : WS := fun D S => w S fun ds S1 => match ds with
  | [d, e, f] => D.nx (((S1.st i (.f d)).st j (.f e)).st l (.f f))
  | _ => False
/-- x op= e -/
def wAug (i : Nat) (g : O2) (w : WE) : WS := fun D S => match S.s[i]? with
  | some (.f d) => w S fun e S1 => g d e fun z => D.nx (S1.st i (.f z))
  | _ => False
/-- o[i] op= e, o a known list -/
def wAugM (wo wi : WE) (g : O2) (w : WE) : WS := fun D S => wo S fun x S1 => wi S1 fun y S2 => ∃ a ds j d, x = .obj a ∧ y = .int j ∧ S2.h a = some (.ml ds) ∧ atI ds j = some d ∧
  w S2 fun e S3 => g d e fun z => ∃ ds' k, S3.h a = some (.ml ds') ∧ ixN ds'.length j = some k ∧ D.nx (S3.ob a (.ml (ds'.set k z)))
/-- x[i] op= e, x owns its list -/
def wAugO (i : Nat) (wi : WE) (g : O2) (w : WE) : WS := fun D S => (∃ e, S.s[i]? = some (.o e)) ∧ wi S fun y S2 => ∃ ds j d, S2.s[i]? = some (.o (.lst ds)) ∧ y = .int j ∧ atI ds j = some d ∧
  w S2 fun e S3 => g d e fun z => ∃ ds' k, S3.s[i]? = some (.o (.lst ds')) ∧ ixN ds'.length j = some k ∧ D.nx (S3.st i (.o (.lst (ds'.set k z))))
/-- x.append(e), x owns its list -/
def wApp (i : Nat) (w : WE) : WS := fun D S => (∃ es, S.s[i]? = some (.o (.lst es))) ∧ w S fun d S1 => ∃ ds, S1.s[i]? = some (.o (.lst ds)) ∧ ds.length < sizeLine ∧ D.nx (S1.st i (.o (.lst (ds ++ [d]))))
def wForL (g : WG) (tb : WS) (T : We) : List D → Sg → Prop
  | [], S => T.nx S
  | x :: xs, S => g x S fun S1 => tb { T with nx := wForL g tb T xs, ct := wForL g tb T xs, bk := T.nx } S1
def wFor (wi : WA) (g : WG) (tb : WS) : WS := fun D S => wi S fun ds S1 => wForL g tb D ds S1
def wWhM (t : WT) (tb : WS) (T : We) : Nat → Sg → Prop
  | 0, _ => False
  | n + 1, S => t S fun b S1 => Br b (tb { T with nx := wWhM t tb T n, ct := wWhM t tb T n, bk := T.nx } S1) (T.nx S1)
@[irreducible] def wWhN (t : WT) (tb : WS) (T : We) : Nat → Sg → Prop := wWhM t tb T
theorem whn_eq (t : WT) (tb : WS) (T : We) : wWhN t tb T = wWhM t tb T := by unfold wWhN; rfl
theorem whn {t : WT} {tb : WS} {T : We} {n : Nat} {S : Sg} (h : t S fun b S1 => Br b (tb { T with nx := wWhN t tb T n, ct := wWhN t tb T n, bk := T.nx } S1) (T.nx S1)) : wWhN t tb T (n + 1) S := by
  simp only [whn_eq] at h ⊢
  exact h
theorem whn_out {t : WT} {tb : WS} {T : We} {n : Nat} {S : Sg} (h : wWhN t tb T (n + 1) S) : t S fun b S1 => Br b (tb { T with nx := wWhN t tb T n, ct := wWhN t tb T n, bk := T.nx } S1) (T.nx S1) := by
  simp only [whn_eq] at h ⊢
  exact h
theorem whn_no {t : WT} {tb : WS} {T : We} {S : Sg} (h : wWhN t tb T 0 S) : False := by
  simp only [whn_eq] at h
  exact h
def wWhile (t : WT) (tb : WS) : WS := fun D S => ∃ n, wWhN t tb D n S
section
variable {W : L2.WX} {X : Cx} {a b c e o i : Expr} {es : List Expr} {st : Stmt} {sts body els : List Stmt} {w wo wi : WE} {ws : WA} {wt : WT} {t u tb : WS} {g : WG} {n : Nat} {pos p : Pos}
theorem dss_nil : DSs X W [] wNext := fun E => PSs.imp pss_nil fun D σ H => by
  rintro ⟨S, F, R, hR, hw, k1, k2, k3, k4, k5⟩
  exact k1 S σ F H hw hR (.refl _)
theorem LS.weak {K : PySem.W.Frag} {E : En} {w : WS} {σ : L2.St} {H F0 F : Hp} {S : Sg} {R : We} {D : Ends} (x0 : Ext F0 F) (hR : Rel K E F H σ S) (hw : w R S)
    (k1 : ∀ S' σ' F' H', R.nx S' → Rel K E F' H' σ' S' → Ext F F' → D.nx σ' H')
    (k2 : ∀ S' σ' F' H', R.bk S' → Rel K E F' H' σ' S' → Ext F0 F' → D.bk σ' H') (k3 : ∀ S' σ' F' H', R.ct S' → Rel K E F' H' σ' S' → Ext F0 F' → D.ct σ' H')
    (k4 : ∀ d S' v σ' F' H', R.rt d S' → Rep K F' v d → Rel K E F' H' σ' S' → Ext F0 F' → D.rt v H') (k5 : ∀ c fs S' cls dd σ' F' H', R.xx c fs S' → XAt K F' c fs cls dd → Rel K E F' H' σ' S' → W cls dd σ' H') : LS K E W w D σ H :=
  ⟨S, F, R, hR, hw, k1, fun S' σ' F' H' q r x => k2 S' σ' F' H' q r (x0.trans x), fun S' σ' F' H' q r x => k3 S' σ' F' H' q r (x0.trans x), fun d S' v σ' F' H' q r r' x => k4 d S' v σ' F' H' q r r' (x0.trans x), k5⟩
theorem dss_cons (h1 : DS X W st t) (h2 : DSs X W sts u) : DSs X W (st :: sts) (wSeq t u) := fun E => PSs.imp (pss_cons (h1 E) (h2 E)) fun D σ H => by
  rintro ⟨S, F, R, hR, hw, k1, k2, k3, k4, k5⟩
  refine ⟨S, F, _, hR, hw, fun S1 σ1 F1 H1 hw1 hR1 x1 => ?_, k2, k3, k4, k5⟩
  exact LS.weak x1 hR1 hw1 (fun S' σ' F' H' q r x => k1 S' σ' F' H' q r (x1.trans x)) k2 k3 k4 k5
theorem dss_one (h1 : DS X W st t) : DSs X W [st] t := fun E => pss_one (h1 E)
theorem ds_pass : DS X W (.Pass pos) wNext := fun E => PS.imp ps_pass fun D σ H => by
  rintro ⟨S, F, R, hR, hw, k1, k2, k3, k4, k5⟩
  exact k1 S σ F H hw hR (.refl _)
theorem ds_break : DS X W (.Break pos) wBreak := fun E => PS.imp ps_break fun D σ H => by
  rintro ⟨S, F, R, hR, hw, k1, k2, k3, k4, k5⟩
  exact k2 S σ F H hw hR (.refl _)
theorem ds_cont : DS X W (.Continue pos) wCont := fun E => PS.imp ps_continue fun D σ H => by
  rintro ⟨S, F, R, hR, hw, k1, k2, k3, k4, k5⟩
  exact k3 S σ F H hw hR (.refl _)
theorem ds_expr (he : DE X Tr e w) (hs : swapsWith e none pos.line X.env = pure false := by rfl) : DS X W (.Expr e pos) (wDrop w) := fun E => PS.imp (ps_expr (he E trivial) hs) fun D σ H => by
  rintro ⟨S, F, R, hR, hw, k1, k2, k3, k4, k5⟩
  exact ⟨S, F, _, hR, hw, fun d S1 v F1 H1 hw1 r1 hR1 x1 => k1 S1 σ F1 H1 hw1 hR1 x1⟩
theorem ds_ret (he : DE X Tr e w) : DS X W (.Return (some e) pos) (wRet w) := fun E => PS.imp (ps_ret (he E trivial)) fun D σ H => by
  rintro ⟨S, F, R, hR, hw, k1, k2, k3, k4, k5⟩
  exact ⟨S, F, _, hR, hw, fun d S1 v F1 H1 hw1 r1 hR1 x1 => k4 d S1 v σ F1 H1 hw1 r1 hR1 x1⟩
theorem ds_retN : DS X W (.Return none pos) wRetN := fun E => PS.imp ps_retN fun D σ H => by
  rintro ⟨S, F, R, hR, hw, k1, k2, k3, k4, k5⟩
  exact k4 _ S _ σ F H hw .non hR (.refl _)
theorem ds_if (hc : DT X Tr c wt) (ha : DSs X W body t) (hb : DSs X W els u) : DS X W (.If c body els pos) (wIfS wt t u) := fun E => PS.imp (ps_if (hc E trivial) (ha E) (hb E)) fun D σ H => by
  rintro ⟨S, F, R, hR, hw, k1, k2, k3, k4, k5⟩
  refine ⟨S, F, _, hR, hw, fun b S1 F1 H1 hw1 hR1 x1 => ?_⟩
  cases b with
  | true => exact LS.weak x1 hR1 (br_t hw1) (fun S' σ' F' H' q r x => k1 S' σ' F' H' q r (x1.trans x)) k2 k3 k4 k5
  | false => exact LS.weak x1 hR1 (br_f hw1) (fun S' σ' F' H' q r x => k1 S' σ' F' H' q r (x1.trans x)) k2 k3 k4 k5
theorem ds_asg {tg : Expr} (he : DE X Tr e w) (hg : DG X Tr tg g) (hs : swapsWithSole [tg] e pos.line X.env = pure false := by rfl) (hw : swappedStores [tg] e X.env = pure none := by rfl)
    (h1 : (assignEach [tg] X.env).map (·.2) = [assign tg X.env] := by rfl) : DS X W (.Assign [tg] e pos) (wAsg w g) := fun E => PS.imp (ps_asg (he E trivial) (hg E trivial) hs hw h1) fun D σ H => by
  rintro ⟨S, F, R, hR, hw, k1, k2, k3, k4, k5⟩
  refine ⟨S, F, _, hR, hw, fun d S1 v F1 H1 hw1 r1 hR1 x1 => ?_⟩
  exact ⟨S1, F1, d, _, hR1, r1, hw1, fun S2 σ2 F2 H2 q r x2 => k1 S2 σ2 F2 H2 q r (x1.trans x2)⟩
/-- x = e by the rule ps_set -/
theorem ds_set {x : Str} {pos' : Pos} (i : Nat) (he : DE X Tr e w) (h : ∀ te, PE X e te → PS X (.Assign [.Name x pos'] e pos) (tAsg te (L2.gName i))) : DS X W (.Assign [.Name x pos'] e pos) (wAsg w (gVar i)) := fun E => PS.imp (h _ (he E trivial)) fun D σ H => by
  rintro ⟨S, F, R, hR, hw, k1, k2, k3, k4, k5⟩
  refine ⟨S, F, _, hR, hw, fun d S1 v F1 H1 hw1 r1 hR1 x1 => ?_⟩
  exact k1 _ _ F1 H1 hw1 (hR1.set r1) x1
theorem ds_setO {x : Str} {pos' : Pos} (i : Nat) (he : DN X Tr e w) (h : ∀ te, PE X e te → PS X (.Assign [.Name x pos'] e pos) (tAsg te (L2.gName i))) : DS X W (.Assign [.Name x pos'] e pos) (wSetO i w) := fun E => PS.imp (h _ (he E trivial)) fun D σ H => by
  rintro ⟨S, F, R, hR, hw, k1, k2, k3, k4, k5⟩
  refine ⟨S, F, _, hR, hw, fun d S1 q F1 H1 hw1 f hR1 x1 => ?_⟩
  exact k1 _ _ F1 H1 hw1 (hR1.setO f) x1
theorem ds_setM {x : Str} {pos' : Pos} (i : Nat) (he : DN X Tr e w) (h : ∀ te, PE X e te → PS X (.Assign [.Name x pos'] e pos) (tAsg te (L2.gName i))) : DS X W (.Assign [.Name x pos'] e pos) (wSetM i w) := fun E => PS.imp (h _ (he E trivial)) fun D σ H => by
  rintro ⟨S, F, R, hR, hw, k1, k2, k3, k4, k5⟩
  refine ⟨S, F, _, hR, hw, fun d S1 q F1 H1 hw1 f hR1 x1 => ?_⟩
  have ha : ObAt X.K F1 H1 q (obOf d) := by
    have z := f.at_
    cases d <;> first | exact z | exact z.elim
  exact k1 _ _ F1 H1 (hw1 q f.nh) ((hR1.obnew f ha).set (.obj q)) x1
theorem Reps.three_of {K : PySem.W.Frag} {F : Hp} {vs : List V} {d e f : D} (r : Reps K F vs [d, e, f]) : ∃ v u w, vs = [v, u, w] ∧ Rep K F v d ∧ Rep K F u e ∧ Rep K F w f := by
  cases r with
  | cons a b =>
    obtain ⟨u, w, rfl, q⟩ := b.two_of
    exact ⟨_, _, _, rfl, a, q⟩
theorem ds_par {x y : Str} {px py pt : Pos} {kt k2 : Nat} {pt2 : Pos} (i j : Nat) (ha : DA X Tr [a, b] n ws) (h : ∀ ta, PA X [a, b] ta → PS X (.Assign [.Tuple [.Name x px, .Name y py] kt pt] (.Tuple [a, b] k2 pt2) pos) (tPar i j ta)) :
    DS X W (.Assign [.Tuple [.Name x px, .Name y py] kt pt] (.Tuple [a, b] k2 pt2) pos) (wPar i j ws) := fun E => PS.imp (h _ (ha E trivial)) fun D σ H => by
  rintro ⟨S, F, R, hR, hw, k1, k2, k3, k4, k5⟩
  refine ⟨S, F, _, hR, hw, fun ds S1 vs F1 H1 hw1 l1 r1 hR1 x1 => ?_⟩
  split at hw1
  · obtain ⟨v, u, rfl, q1, q2⟩ := r1.two_of
    exact ⟨v, u, rfl, k1 _ _ F1 H1 hw1 ((hR1.set q1).set q2) x1⟩
  · exact hw1.elim
theorem ds_par3 {x y z : Str} {px py pz pt : Pos} {kt k2 : Nat} {pt2 : Pos} (i j l : Nat) (ha : DA X Tr [a, b, c] n ws) (h : ∀ ta, PA X [a, b, c] ta → PS X (.Assign [.Tuple [.Name x px, .Name y py, .Name z pz] kt pt] (.Tuple [a, b, c] k2 pt2) pos) (tPar3 i j l ta)) :
    DS X W (.Assign [.Tuple [.Name x px, .Name y py, .Name z pz] kt pt] (.Tuple [a, b, c] k2 pt2) pos) (wPar3 i j l ws) := fun E => PS.imp (h _ (ha E trivial)) fun D σ H => by
  rintro ⟨S, F, R, hR, hw, k1, k2, k3, k4, k5⟩
  refine ⟨S, F, _, hR, hw, fun ds S1 vs F1 H1 hw1 l1 r1 hR1 x1 => ?_⟩
  split at hw1
  · obtain ⟨v, u, w, rfl, q1, q2, q3⟩ := r1.three_of
    exact ⟨v, u, w, rfl, k1 _ _ F1 H1 hw1 (((hR1.set q1).set q2).set q3) x1⟩
  · exact hw1.elim
theorem ds_aug {x : Str} {pos' : Pos} {op : Operator} {g : O2} (i : Nat) (ho : OpV X (inplaceOp op) g) (he : DE X Tr e w) (h : ∀ te ti, PE X e te → PIp X op ti → PS X (.AugAssign (.Name x pos') op e pos) (tAug i te ti)) : DS X W (.AugAssign (.Name x pos') op e pos) (wAug i g w) := fun E => PS.imp (h _ _ (he E trivial) ho) fun D σ H => by
  rintro ⟨S, F, R, hR, hw, k1, k2, k3, k4, k5⟩
  unfold wAug at hw
  split at hw
  · rename_i d hd
    obtain ⟨v, h1, h2⟩ := hR.frz i d hd
    refine ⟨v, h1, S, F, _, hR, hw, fun e S1 v1 F1 H1 hw1 r1 hR1 x1 => ?_⟩
    exact ⟨F1, d, e, _, hR1.g.ext, h2.mono x1, r1, hw1, fun z v F' H' hz rz al => k1 _ _ F' H' hz ((hR1.al al).set rz) (x1.trans al.xF)⟩
  · exact hw.elim
theorem pget_list : PGet X (rIxL X.K) := fun pins s σ H o i ov iv Q I ro ri h => by
  obtain ⟨p, xs, j, v, rfl, rfl, hq, he, q⟩ := h
  cases ro
  obtain ⟨t, rfl⟩ := ri
  obtain ⟨its, r, pl, hz⟩ := I.list hq
  obtain ⟨m, h1, h2, h3, h4, h5⟩ := atI_get he
  obtain ⟨u, eu, ru⟩ := r.get h2
  have hl := r.length
  have hn := line63
  have fin : EP X pins σ Q u s := ⟨v, H, I, ru, q⟩
  have isl : s.heap.IsList p its.toArray := by
    obtain ⟨ob, n, e1, e2, e3, e4⟩ := pl
    exact ⟨ob, e1, e2, n, e4⟩
  by_cases h0 : 0 ≤ j
  · have hj : j.toNat = m := by
      rw [seqIndex_of h0 h5] at h1
      exact Option.some.inj h1
    exact wpAny_getItem_list isl h0 (by omega) (by rw [hj]; simpa using eu) fin
  · have hj : (j + (its.toArray.size : Int)).toNat = m := by
      rw [seqIndex_neg (by omega) h4] at h1
      rw [List.size_toArray, ← hl]
      exact Option.some.inj h1
    exact wpAny_getItem_list_neg isl (by omega) (by rw [List.size_toArray] <;> omega) (by omega) (by rw [hj]; simpa using eu) fin
theorem ds_augM {op : Operator} {g : O2} {tpos : Pos} (hp : OpV X (inplaceOp op) g) (ho : DE X Tr o wo) (hi : DE X Tr i wi) (he : DE X Tr e w)
    (ha : ∀ ov iv new, augStore i ov iv new = (do holding [new, ov, iv] (setItem ov iv new); release [new, ov, iv] []; pure .next) := by intros; rfl) : DS X W (.AugAssign (.Subscript o i tpos) op e pos) (wAugM wo wi g w) := fun E => PS.imp (ps_augS (ho E trivial) (hi E trivial) pget_list (he E trivial) hp set_list ha) fun D σ H => by
  rintro ⟨S, F, R, hR, hw, k1, k2, k3, k4, k5⟩
  refine ⟨S, F, _, hR, hw, fun x S1 v1 F1 H1 hw1 r1 hR1 x1 => ?_⟩
  refine ⟨S1, F1, _, hR1, hw1, fun y S2 v2 F2 H2 hw2 r2 hR2 x2 => ?_⟩
  obtain ⟨a, ds, j, d, rfl, rfl, h1, h2, hw2⟩ := hw2
  cases r1; cases r2
  obtain ⟨vs, q, s⟩ := (hR2.g.obs _ _ h1).1
  obtain ⟨v, h3, h4⟩ := s.at h2
  refine ⟨a, vs, j, v, rfl, rfl, .of q, h3, ?_⟩
  refine ⟨S2, F2, _, hR2, hw2, fun e S3 v3 F3 H3 hw3 r3 hR3 x3 => ?_⟩
  refine ⟨F3, d, e, _, hR3.g.ext, h4.mono x3, r3, hw3, fun z v F' H' hz rz al => ?_⟩
  obtain ⟨ds', k, g1, g2, g3⟩ := hz
  have hR4 := hR3.al al
  obtain ⟨us, q', s'⟩ := (hR4.g.obs _ _ g1).1
  refine ⟨a, us, j, k, rfl, rfl, q', by rw [s'.length]; exact g2, ?_⟩
  exact k1 _ _ F' _ g3 (hR4.obput (by rw [g1]; simp) ⟨_, upd_same, s'.set k rz⟩) (((x1.trans x2).trans x3).trans al.xF)
theorem ds_augO {op : Operator} {g : O2} {x : Str} {px tpos : Pos} (l : Nat) (hx : PE X (.Name x px) (tVar l)) (hp : OpV X (inplaceOp op) g) (hi : DE X Tr i wi) (he : DE X Tr e w)
    (ha : ∀ ov iv new, augStore i ov iv new = (do holding [new, ov, iv] (setItem ov iv new); release [new, ov, iv] []; pure .next) := by intros; rfl) : DS X W (.AugAssign (.Subscript (.Name x px) i tpos) op e pos) (wAugO l wi g w) := fun E => PS.imp (ps_augS hx (hi E trivial) pget_list (he E trivial) hp set_list ha) fun D σ H => by
  rintro ⟨S, F, R, hR, ⟨⟨e0, he0⟩, hw⟩, k1, k2, k3, k4, k5⟩
  obtain ⟨p, h0, _⟩ := hR.own l e0 he0
  refine ⟨_, h0, ?_⟩
  refine ⟨S, F, _, hR, hw, fun y S2 v2 F2 H2 hw2 r2 hR2 x2 => ?_⟩
  obtain ⟨ds, j, d, h1, rfl, h2, hw2⟩ := hw2
  cases r2
  obtain ⟨p', h0', ⟨vs, q, s⟩, _⟩ := hR2.own l _ h1
  rw [h0] at h0'
  cases h0'
  obtain ⟨v, h3, h4⟩ := s.at h2
  refine ⟨p, vs, j, v, rfl, rfl, .of q, h3, ?_⟩
  refine ⟨S2, F2, _, hR2, hw2, fun e S3 v3 F3 H3 hw3 r3 hR3 x3 => ?_⟩
  refine ⟨F3, d, e, _, hR3.g.ext, h4.mono x3, r3, hw3, fun z v F' H' hz rz al => ?_⟩
  obtain ⟨ds', k, g1, g2, g3⟩ := hz
  have hR4 := hR3.al al
  obtain ⟨p', h0', ⟨us, q', s'⟩, _⟩ := hR4.own l _ g1
  rw [h0] at h0'
  cases h0'
  refine ⟨p, us, j, k, rfl, rfl, q', by rw [s'.length]; exact g2, ?_⟩
  exact k1 _ _ F' _ g3 (hR4.mut g1 h0 ⟨_, upd_same, s'.set k rz⟩) ((x2.trans x3).trans al.xF)
/-- x.append(e) as a statement -/
theorem ds_app {x : Str} {px apos cpos : Pos} (l : Nat) (hx : PE X (.Name x px) (tVar l)) (he : DE X Tr e w)
    (h : ∀ to t, PE X (.Name x px) to → PE X e t → PE X (.Call (.Attribute (.Name x px) "append" apos) [e] [] cpos) (tBM X.K "list" rAppend to (tCons t tNil)))
    (hs : swapsWith (.Call (.Attribute (.Name x px) "append" apos) [e] [] cpos) none pos.line X.env = pure false := by rfl) : DS X W (.Expr (.Call (.Attribute (.Name x px) "append" apos) [e] [] cpos) pos) (wApp l w) := fun E => PS.imp (ps_expr (h _ _ hx (he E trivial)) hs) fun D σ H => by
  rintro ⟨S, F, R, hR, ⟨⟨ds0, he0⟩, hw⟩, k1, k2, k3, k4, k5⟩
  obtain ⟨p, h0, ⟨vs0, q0, _⟩, _⟩ := hR.own l _ he0
  refine ⟨_, h0, .inl ⟨rfl, _, .of q0⟩, ?_⟩
  refine ⟨S, F, _, hR, hw, fun d S1 v F1 H1 hw1 r1 hR1 x1 => ?_⟩
  obtain ⟨ds, g1, g2, g3⟩ := hw1
  obtain ⟨p', h0', ⟨vs, q, s⟩, _⟩ := hR1.own l _ g1
  rw [h0] at h0'
  cases h0'
  refine ⟨p, vs, v, rfl, rfl, q, by rw [s.length]; exact g2, ?_⟩
  exact k1 _ _ F1 _ g3 (hR1.mut g1 h0 ⟨_, upd_same, s.append (.one r1)⟩) x1
/-! ### loops -/
theorem ds_for {tg iter : Expr} (hp : PassesOwn (model X.prog X.w) X.A X.env X.xe) (hc : X.calm = true) (hi : DI X Tr tg iter ws) (hg : DG X Tr tg g) (hb : DSs X W body tb)
    (hs : ∀ x, foldedSetIterable iter X.env x = pure x := by intro _; rfl) : DS X W (.For tg iter body [] pos) (wFor ws g tb) := fun E => PS.imp (ps_for hp hc (hi E trivial) (hg E trivial) (hb E) hs) fun D σ H => by
  rintro ⟨S, F, R, hR, hw, k1, k2, k3, k4, k5⟩
  refine ⟨S, F, _, hR, hw, fun ds S1 J F1 H1 hw1 fd hR1 x1 => ?_⟩
  refine ⟨fun i m σ H => m + i = ds.length ∧ ∃ F2 S2, Rel X.K E F2 H σ S2 ∧ Ext F1 F2 ∧ wForL g tb R (ds.drop i) S2, ⟨ds.length, rfl, F1, S1, hR1, .refl _, hw1⟩, fun i m σ2 H2 hW => ?_⟩
  obtain ⟨hm, F2, S2, hR2, x2, hw2⟩ := hW
  obtain ⟨go, stop⟩ := fd F2 H2 x2 hR2.g.ext
  by_cases hi : i < ds.length
  · have hd : ds[i]? = some ds[i] := List.getElem?_eq_getElem hi
    obtain ⟨h1, h2⟩ := go i _ hd
    rw [List.drop_eq_getElem_cons hi] at hw2
    refine .inr ⟨h1, fun σ' H' => ∃ F3 S3, Rel X.K E F3 H' σ' S3 ∧ Ext F1 F3 ∧ wForL g tb R (ds.drop (i + 1)) S3, fun σ' H' hN => ⟨m - 1, by omega, by omega, hN⟩, fun x H3 hy => ?_⟩
    obtain ⟨F3, al, rx⟩ := h2 x H3 hy
    refine ⟨S2, F3, _, _, hR2.al al, rx, hw2, fun S4 σ4 F4 H4 hw4 hR4 x4 => ?_⟩
    have x14 : Ext F1 F4 := (x2.trans al.xF).trans x4
    refine ⟨S4, F4, _, hR4, hw4, fun S' σ' F' H' q r x => ⟨F', S', r, x14.trans x, q⟩, fun S' σ' F' H' q r x => k1 S' σ' F' H' q r ((x1.trans x14).trans x), fun S' σ' F' H' q r x => ⟨F', S', r, x14.trans x, q⟩, fun d S' v σ' F' H' q r r' x => k4 d S' v σ' F' H' q r r' ((x1.trans x14).trans x), k5⟩
  · refine .inl ⟨stop i (by omega), ?_⟩
    rw [List.drop_eq_nil_of_le (by omega)] at hw2
    exact k1 S2 σ2 F2 H2 hw2 hR2 (x1.trans x2)
theorem ds_while (hp : PassesOwn (model X.prog X.w) X.A X.env X.xe) (hc : DT X Tr c wt) (hb : DSs X W body tb) : DS X W (.While c body [] pos) (wWhile wt tb) := fun E => PS.imp (ps_while hp (hc E trivial) (hb E)) fun D σ H => by
  rintro ⟨S, F, R, hR, ⟨n, hw⟩, k1, k2, k3, k4, k5⟩
  refine ⟨fun m σ H => ∃ F2 S2, Rel X.K E F2 H σ S2 ∧ Ext F F2 ∧ wWhN wt tb R m S2, ⟨n, F, S, hR, .refl _, hw⟩, fun m σ2 H2 hW => ?_⟩
  obtain ⟨F2, S2, hR2, x2, hw2⟩ := hW
  cases m with
  | zero => exact (whn_no hw2).elim
  | succ m =>
    refine ⟨S2, F2, _, hR2, whn_out hw2, fun b S3 F3 H3 hw3 hR3 x3 => ?_⟩
    cases b with
    | true =>
      refine ⟨fun σ' H' => ∃ F4 S4, Rel X.K E F4 H' σ' S4 ∧ Ext F F4 ∧ wWhN wt tb R m S4, fun σ' H' hN => ⟨m, Nat.lt_succ_self m, hN⟩, ?_⟩
      have x13 : Ext F F3 := x2.trans x3
      exact ⟨S3, F3, _, hR3, br_t hw3, fun S' σ' F' H' q r x => ⟨F', S', r, x13.trans x, q⟩, fun S' σ' F' H' q r x => k1 S' σ' F' H' q r (x13.trans x), fun S' σ' F' H' q r x => ⟨F', S', r, x13.trans x, q⟩, fun d S' v σ' F' H' q r r' x => k4 d S' v σ' F' H' q r r' (x13.trans x), k5⟩
    | false => exact k1 S3 σ2 F3 H3 (br_f hw3) hR3 (x2.trans x3)
end

end VL

set_option Elab.async false
set_option linter.all false
set_option maxRecDepth 100000
set_option maxHeartbeats 4000000
/-! VL6: comprehensions, calls of defs, defs. -/
namespace VL
open PySem PySem.Spec L2
/-! ### comprehensions -/
def wipeS (s : List Sl) : List Nat → List Sl
  | [] => s
  | v :: vs => (wipeS s vs).set v .u
def noOwn (s : List Sl) (vs : List Nat) : Bool := vs.all fun v => match s[v]? with
  | some (.o _) => false
  | _ => true
def wYes : WT := fun S R => R true S
def wLcL (g : WG) (tt : WT) (te : WE) (vs : List Nat) (s0 : List Sl) (R : List D → Oh → Prop) : List D → Oh → List D → Prop
  | [], h, acc => R acc h
  | x :: xs, h, acc => g x ⟨wipeS s0 vs, h⟩ fun S1 => tt S1 fun b S2 => Br b
      (te S2 fun d S3 => wipeS S3.s vs = wipeS s0 vs ∧ wLcL g tt te vs s0 R xs S3.h (acc ++ [d])) (wipeS S2.s vs = wipeS s0 vs ∧ wLcL g tt te vs s0 R xs S2.h acc)
def wLc (wi : WA) (g : WG) (tt : WT) (te : WE) (vs : List Nat) : WE := fun S R => wi S fun ds S1 => noOwn S1.s vs = true ∧ ds.length ≤ 1000000 ∧ wLcL g tt te vs S1.s (fun acc h => R (.lst acc) ⟨S1.s, h⟩) ds S1.h []
theorem wipe_get {σ : L2.St} {vs : List Nat} {i : Nat} (h : i ∉ vs) : (wipe σ vs)[i]? = σ[i]? := by
  induction vs with
  | nil => rfl
  | cons v vs ih =>
    have h1 : v ≠ i := fun z => h (by rw [z]; exact List.mem_cons_self)
    show ((wipe σ vs).set v none)[i]? = _
    rw [List.getElem?_set_ne h1]
    exact ih fun z => h (List.mem_cons_of_mem _ z)
theorem wipeS_get {s : List Sl} {vs : List Nat} {i : Nat} (h : i ∉ vs) : (wipeS s vs)[i]? = s[i]? := by
  induction vs with
  | nil => rfl
  | cons v vs ih =>
    have h1 : v ≠ i := fun z => h (by rw [z]; exact List.mem_cons_self)
    show ((wipeS s vs).set v .u)[i]? = _
    rw [List.getElem?_set_ne h1]
    exact ih fun z => h (List.mem_cons_of_mem _ z)
theorem wipeS_len (s : List Sl) : ∀ vs, (wipeS s vs).length = s.length
  | [] => rfl
  | v :: vs => by
    show ((wipeS s vs).set v .u).length = _
    rw [List.length_set, wipeS_len s vs]
theorem wipeS_in {s : List Sl} {vs : List Nat} {i : Nat} {x : Sl} (h : i ∈ vs) (e : (wipeS s vs)[i]? = some x) : x = .u := by
  induction vs with
  | nil => cases h
  | cons v vs ih =>
    have e' : ((wipeS s vs).set v .u)[i]? = some x := e
    rcases set_get e' with ⟨_, q, _⟩ | ⟨n, q⟩
    · exact q.symm
    · rcases List.mem_cons.mp h with z | z
      · exact absurd z n
      · exact ih z q
theorem wipe_in {σ : L2.St} {vs : List Nat} {i : Nat} {x : V} (h : i ∈ vs) : (wipe σ vs)[i]? ≠ some (some x) := fun e => (wipe_some e).2 h
theorem wipe_set {σ : L2.St} {vs : List Nat} {i : Nat} {x : Option V} (h : i ∈ vs) : wipe (σ.set i x) vs = wipe σ vs := by
  induction vs with
  | nil => cases h
  | cons v vs ih =>
    show (wipe (σ.set i x) vs).set v none = (wipe σ vs).set v none
    by_cases e : i = v
    · subst e
      by_cases hi : i ∈ vs
      · rw [ih hi]
      · apply List.ext_getElem?
        intro j
        by_cases hj : j = i
        · subst hj
          by_cases hl : j < σ.length
          · rw [List.getElem?_set_self (by rw [wipe_length, List.length_set]; exact hl), List.getElem?_set_self (by rw [wipe_length]; exact hl)]
          · rw [List.getElem?_eq_none (by rw [List.length_set, wipe_length, List.length_set]; omega), List.getElem?_eq_none (by rw [List.length_set, wipe_length]; omega)]
        · rw [List.getElem?_set_ne (Ne.symm hj), List.getElem?_set_ne (Ne.symm hj)]
          by_cases hv : j ∈ vs
          · have key : ∀ (τ : L2.St) (vs : List Nat), j ∈ vs → (wipe τ vs)[j]? = if j < τ.length then some none else none := by
              intro τ vs
              induction vs with
              | nil => intro h; cases h
              | cons u us ihu =>
                intro h
                show ((wipe τ us).set u none)[j]? = _
                by_cases hju : j = u
                · subst hju
                  by_cases hl : j < τ.length
                  · rw [List.getElem?_set_self (by rw [wipe_length]; exact hl), if_pos hl]
                  · rw [List.getElem?_eq_none (by rw [List.length_set, wipe_length]; omega), if_neg hl]
                · rw [List.getElem?_set_ne (Ne.symm hju)]
                  exact ihu ((List.mem_cons.mp h).resolve_left hju)
            rw [key _ _ hv, key _ _ hv, List.length_set]
          · rw [wipe_get hv, wipe_get hv, List.getElem?_set_ne (Ne.symm hj)]
    · rw [ih ((List.mem_cons.mp h).resolve_left e)]
theorem wipe_wipe {σ : L2.St} : ∀ {vs us : List Nat}, (∀ v ∈ vs, v ∈ us) → wipe (wipe σ vs) us = wipe σ us
  | [], _, _ => rfl
  | v :: vs, us, h => by
    show wipe ((wipe σ vs).set v none) us = _
    rw [wipe_set (h v List.mem_cons_self)]
    exact wipe_wipe fun x hx => h x (List.mem_cons_of_mem _ hx)
section
variable {X : Cx} {Φ : En → Prop} {K : PySem.W.Frag} {E : En} {F F' F2 H H' H2 : Hp} {σ σ' : L2.St} {S : Sg} {p : Addr} {o : HO} {d : D} {v : V} {i : Nat} {vs : List Nat}
/-- within a block: its own names are unset -/
theorem Rel.wipe (R : Rel K E F H σ S) (vs : List Nat) : Rel K E F H (wipe σ vs) ⟨wipeS S.s vs, S.h⟩ := by
  have at_ : ∀ (i : Nat) (x : Sl), x ≠ .u → (wipeS S.s vs)[i]? = some x → S.s[i]? = some x ∧ i ∉ vs := fun i x nu h => by
    by_cases hi : i ∈ vs
    · exact absurd (wipeS_in hi h) nu
    · rw [wipeS_get hi] at h
      exact ⟨h, hi⟩
  refine ⟨R.g, by show (wipeS S.s vs).length = _; rw [wipeS_len, wipe_length]; exact R.len, fun i d h => ?_, fun i d h => ?_, fun i j d e p h1 h2 h3 h4 => ?_⟩
  · obtain ⟨h, hi⟩ := at_ i (.f d) (fun z => nomatch z) h
    rw [wipe_get hi]
    exact R.frz i d h
  · obtain ⟨h, hi⟩ := at_ i (.o d) (fun z => nomatch z) h
    rw [wipe_get hi]
    exact R.own i d h
  · obtain ⟨h1, i1⟩ := at_ i (.o d) (fun z => nomatch z) h1
    obtain ⟨h2, i2⟩ := at_ j (.o e) (fun z => nomatch z) h2
    rw [wipe_get i1] at h3
    rw [wipe_get i2] at h4
    exact R.inj i j d e p h1 h2 h3 h4
/-- behind a block's turn -/
theorem Rel.back {S3 : Sg} (R : Rel K E F H σ S) (ho : noOwn S.s vs = true) (hs : wipeS S3.s vs = wipeS S.s vs) (hσ : L2.wipe σ' vs = L2.wipe σ vs)
    (xF : Ext F F') (R3 : Rel K ⟨F2, H2, S.h, owns (L2.wipe σ vs) ⟨wipeS S.s vs, S.h⟩⟩ F' H' σ' S3) (gr : Gr K E F2 H2 S.h) : Rel K E F' H' σ ⟨S.s, S3.h⟩ := by
  have eqs : ∀ i, i ∉ vs → S3.s[i]? = S.s[i]? := fun i hi => by
    have := congrArg (fun l : List Sl => l[i]?) hs
    simp only [wipeS_get hi] at this
    exact this
  have eqσ : ∀ i, i ∉ vs → σ'[i]? = σ[i]? := fun i hi => by
    have := congrArg (fun l : L2.St => l[i]?) hσ
    simp only [wipe_get hi] at this
    exact this
  have now : ∀ (i : Nat) (d : D), S.s[i]? = some (.o d) → i ∉ vs := fun i d h hi => by
    have := List.all_eq_true.mp ho i hi
    rw [h] at this
    cases this
  refine ⟨Gr.then gr (fun p hp => ?_) R3.g, R.len, fun i d h => ?_, fun i d h => ?_, R.inj⟩
  · obtain ⟨j, e, h1, h2⟩ := hp
    have hj : j ∉ vs := fun z => by
      have := wipeS_in z h1
      cases this
    have h1' : S.s[j]? = some (.o e) := by rw [← wipeS_get hj]; exact h1
    have h2' : σ[j]? = some (some (.ref p)) := by rw [← wipe_get hj]; exact h2
    exact R.ownE ⟨j, e, h1', h2'⟩
  · by_cases hi : i ∈ vs
    · obtain ⟨v, h1, h2⟩ := R.frz i d h
      exact ⟨v, h1, h2.mono xF⟩
    · obtain ⟨v, h1, h2⟩ := R3.frz i d (by rw [eqs i hi]; exact h)
      rw [eqσ i hi] at h1
      exact ⟨v, h1, h2⟩
  · have hi := now i d h
    obtain ⟨q, h1, h2, h3, h4, _⟩ := R3.own i d (by rw [eqs i hi]; exact h)
    rw [eqσ i hi] at h1
    exact ⟨q, h1, h2, h3, h4, R.ownE ⟨i, d, h, h1⟩⟩
/-- a fresh container changes -/
theorem Rel.mutN {e : D} (R : Rel K E F H σ S) (f : Fresh K E F H σ S p d) (ha : OwAt K F (upd H p o) p e) : Rel K E F (upd H p o) σ S ∧ Fresh K E F (upd H p o) σ S p e := by
  have ne : ∀ b, F b ≠ none → b ≠ p := fun b hb z => hb (z ▸ f.nF)
  refine ⟨⟨⟨fun b u q => ?_, R.g.gF, fun b q1 q2 q3 => TupO.upd (R.g.gN b q1 q2 q3) f.nF, fun b u q1 q2 q3 => ?_, fun b q => ?_, R.g.gO, fun a ob q => ?_⟩, R.len, R.frz, fun j e' h => ?_, R.inj⟩, ⟨ha, f.nF, f.nh, f.nE, f.no⟩⟩
  · rw [upd_ne (ne b (by rw [q]; simp))]; exact R.g.ext _ _ q
  · have : b ≠ p := fun z => by rw [z, f.nE] at q1; cases q1
    rw [upd_ne this]; exact R.g.gH b u q1 q2 q3
  · by_cases hb : b = p
    · subst hb; rw [upd_same]; simp
    · rw [upd_ne hb]; exact R.g.gP b q
  · obtain ⟨q1, q2⟩ := R.g.obs a ob q
    have na : a ≠ p := fun z => by rw [z, f.nh] at q; cases q
    exact ⟨q1.mono (.refl _) (upd_ne na), q2⟩
  · obtain ⟨u, q1, q2, q3, q4, q5⟩ := R.own j e' h
    have nu : u ≠ p := fun z => f.no j e' h (z ▸ q1)
    exact ⟨u, q1, q2.mono (.refl _) (upd_ne nu), q3, q4, q5⟩
/-- a target of plain names of a block -/
def TgN (K : PySem.W.Frag) (gt : TG) (g : WG) (vs : List Nat) : Prop := ∀ (E : En) (v : V) (σ : L2.St) (S : Sg) (F H : Hp) (d : D) (R : Sg → Prop) (Q : L2.St → Hp → Prop), Rel K E F H σ S → Rep K F v d → g d S R →
  (∀ σ' S', Rel K E F H σ' S' → L2.wipe σ' vs = L2.wipe σ vs → R S' → Q σ' H) → gt v σ H Q
theorem tg_one (hi : i ∈ vs) : TgN K (L2.gName i) (gVar i) vs := fun E v σ S F H d R Q hR r hg k => k _ _ (hR.set r) (wipe_set hi) hg
def namesG : List Nat → TGs
  | [] => gNil
  | i :: is => gCons (L2.gName i) (namesG is)
def namesW : List Nat → WGs
  | [] => gsNil
  | i :: is => gsCons (gVar i) (namesW is)
theorem tg_names : ∀ (is : List Nat), (∀ i ∈ is, i ∈ vs) → ∀ (E : En) (us : List V) (σ : L2.St) (S : Sg) (F H : Hp) (ds : List D) (R : Sg → Prop) (Q : L2.St → Hp → Prop), Rel K E F H σ S → Reps K F us ds → namesW is ds S R →
    (∀ σ' S', Rel K E F H σ' S' → L2.wipe σ' vs = L2.wipe σ vs → R S' → Q σ' H) → namesG is us σ H Q
  | [], _, E, us, σ, S, F, H, ds, R, Q, hR, r, hg, k => by
    cases r with
    | nil => exact ⟨rfl, k σ S hR rfl hg⟩
    | cons => exact hg.elim
  | i :: is, hi, E, us, σ, S, F, H, ds, R, Q, hR, r, hg, k => by
    cases r with
    | nil => exact hg.elim
    | cons r1 r2 =>
      refine ⟨_, _, rfl, ?_⟩
      exact tg_names is (fun j hj => hi j (List.mem_cons_of_mem _ hj)) E _ _ _ F H _ R Q (hR.set r1) r2 hg fun σ' S' hR' hw hr => k σ' S' hR' (hw.trans (wipe_set (hi i List.mem_cons_self))) hr
theorem tg_tup {n : Nat} (is : List Nat) (hi : ∀ i ∈ is, i ∈ vs) : TgN K (gTup K n (namesG is)) (gTp n (namesW is)) vs := fun E v σ S F H d R Q hR r hg k => by
  cases r with
  | tup q s => exact ⟨_, _, rfl, hR.g.ext.sqT q, s.length.trans hg.1, tg_names is hi E _ σ S F H _ R Q hR s hg.2 k⟩
  | _ => exact hg.elim
def LTx (K : PySem.W.Frag) (w : WT) : TT := fun σ H Q => ∃ E, LT K E w σ H Q
def LEx (K : PySem.W.Frag) (w : WE) : TE := fun σ H Q => ∃ E, LE K E w σ H Q
theorem pt_x {a : Expr} {w : WT} (h : DT X Tr a w) : PT X a (LTx X.K w) := ⟨fun pins s σ H Q I q => let ⟨E, q⟩ := q; (h E trivial).run pins s σ H Q I q⟩
theorem pe_x {a : Expr} {w : WE} (h : DE X Tr a w) : PE X a (LEx X.K w) := ⟨fun pins s σ H Q I q => let ⟨E, q⟩ := q; (h E trivial).run pins s σ H Q I q⟩
theorem pts_x0 : PTs X [] (LTx X.K wYes) := ⟨fun pins s σ H Q I q => by
  obtain ⟨E, S, F, R, hR, hw, k⟩ := q
  exact pts_nil.run pins s σ H Q I (k true S F H hw hR (.refl _))⟩
theorem pts_x1 {a : Expr} {w : WT} (h : DT X Tr a w) : PTs X [a] (LTx X.K w) := pts_one (pt_x h)
theorem lc_read {wi : WA} {gt : TG} {g : WG} {tt : WT} {te : WE} {Q : VK} (ht : TgN K gt g vs) (hq : LN K E (wLc wi g tt te vs) σ H Q) : tLc (LI K E wi) gt (LTx K tt) (LEx K te) vs σ H Q := by
  obtain ⟨S, F, R, hR, hw, k⟩ := hq
  refine ⟨S, F, _, hR, hw, fun ds S1 J F1 H1 hw1 fd hR1 x1 D0 hD => ?_⟩
  obtain ⟨no, hl, hw1⟩ := hw1
  obtain ⟨f0, hR1'⟩ := fresh_of hR1 hD (K := K) (E := E) (F := F1) (vs := []) (ds := []) .nil
  refine ⟨fun i m H => m + i = ds.length ∧ ∃ F2 h2 acc, Rel K E F2 H σ ⟨S1.s, h2⟩ ∧ Ext F1 F2 ∧ Fresh K E F2 H σ ⟨S1.s, h2⟩ D0 (.lst acc) ∧ acc.length ≤ i ∧ wLcL g tt te vs S1.s (fun acc h => R (.lst acc) ⟨S1.s, h⟩) (ds.drop i) h2 acc,
    ⟨ds.length, rfl, F1, S1.h, [], hR1', .refl _, f0, Nat.le_refl _, hw1⟩, fun i m H2 hW => ?_⟩
  obtain ⟨hm, F2, h2, acc, hR2, x2, f2, la, hw2⟩ := hW
  obtain ⟨go, stop⟩ := fd F2 H2 x2 hR2.g.ext
  by_cases hi : i < ds.length
  · have hd : ds[i]? = some ds[i] := List.getElem?_eq_getElem hi
    obtain ⟨g1, g2⟩ := go i _ hd
    rw [List.drop_eq_getElem_cons hi] at hw2
    refine .inr ⟨g1, fun H' => ∃ F3 h3 acc', Rel K E F3 H' σ ⟨S1.s, h3⟩ ∧ Ext F1 F3 ∧ Fresh K E F3 H' σ ⟨S1.s, h3⟩ D0 (.lst acc') ∧ acc'.length ≤ i + 1 ∧ wLcL g tt te vs S1.s (fun acc h => R (.lst acc) ⟨S1.s, h⟩) (ds.drop (i + 1)) h3 acc', fun H' hN => ⟨m - 1, by omega, by omega, hN⟩, fun x H3 hy => ?_⟩
    obtain ⟨F3, al, rx⟩ := g2 x H3 hy
    have hR3 := hR2.al al
    have hRw := (hR3.wipe vs).enter
    refine ht _ x (L2.wipe σ vs) _ F3 H3 _ _ _ hRw rx hw2 fun σ4 S4 hR4 hσ4 hw4 => ?_
    have hσ4' : L2.wipe σ4 vs = L2.wipe σ vs := hσ4.trans (wipe_wipe fun _ h => h)
    refine ⟨hσ4', _, S4, F3, _, hR4, hw4, fun b S5 F5 H5 hw5 hR5 x5 => ?_⟩
    have nown : ¬ owns (L2.wipe σ vs) ⟨wipeS S1.s vs, h2⟩ D0 := fun ⟨j, e, q1, q2⟩ => by
      have hj : j ∉ vs := fun z => by cases wipeS_in z q1
      have q1' : (wipeS S1.s vs)[j]? = some (.o e) := q1
      rw [wipeS_get hj] at q1'
      rw [wipe_get hj] at q2
      exact f2.no j e q1' q2
    have hD3 : ∃ u, H3 D0 = some u := Option.ne_none_iff_exists'.mp (by rw [al.xH.ne f2.at_.there]; exact f2.at_.there)
    obtain ⟨u, hu⟩ := hD3
    have fin : ∀ F6 H6 S6, Rel K ⟨F3, H3, h2, owns (L2.wipe σ vs) ⟨wipeS S1.s vs, h2⟩⟩ F6 H6 σ4 S6 → Ext F3 F6 → wipeS S6.s vs = wipeS S1.s vs → Rel K E F6 H6 σ ⟨S1.s, S6.h⟩ ∧ Fresh K E F6 H6 σ ⟨S1.s, S6.h⟩ D0 (.lst acc) := fun F6 H6 S6 hR6 x6 hs6 => by
      have hR7 := hR3.back (S3 := S6) no hs6 hσ4' x6 hR6 hR3.g
      have e6 : H6 D0 = some u := hR6.g.gH D0 u hu f2.nh nown
      have n3 : F3 D0 = none := (al.new D0 f2.nF f2.at_.there).elim id fun z => (TupO.ow f2.at_ z).elim
      have n6 : F6 D0 = none := (hR6.g.gN D0 n3 (by show H3 D0 ≠ none; rw [hu]; simp) nown).elim id fun z => (TupO.ow f2.at_ (by rw [e6, ← hu, al.xH.ne f2.at_.there] at z; exact z)).elim
      have h6 : S6.h D0 = none := by
        cases q : S6.h D0 with
        | none => rfl
        | some y =>
          rcases hR6.g.gO D0 (by rw [q]; simp) with z | z | z
          · exact absurd f2.nh z
          · have z' : H3 D0 = none := z
            rw [hu] at z'; cases z'
          · exact absurd z nown
      exact ⟨hR7, f2.at_.mono (al.xF.trans x6) (by rw [e6, ← hu]; exact al.xH.ne f2.at_.there), n6, h6, f2.nE, f2.no⟩
    cases b with
    | true =>
      refine L2.iteT ?_
      refine ⟨_, S5, F5, _, hR5, br_t hw5, fun d S6 y F6 H6 hw6 r6 hR6 x6 => ?_⟩
      obtain ⟨hs6, hw6⟩ := hw6
      obtain ⟨hR7, f7⟩ := fin F6 H6 S6 hR6 (x5.trans x6) hs6
      obtain ⟨avs, ea, ra⟩ := f7.at_
      refine ⟨avs, ea, ?_, ?_⟩
      · have := ra.length
        have hz : (1000000 : Nat) < sizeLine := by decide
        omega
      · obtain ⟨hR8, f8⟩ := hR7.mutN (o := .lst (avs ++ [y])) (e := .lst (acc ++ [d])) f7 ⟨_, upd_same, ra.append (.one r6)⟩
        exact ⟨F6, S6.h, _, hR8, ((x2.trans al.xF).trans x5).trans x6, f8, by rw [List.length_append]; exact Nat.succ_le_succ la, hw6⟩
    | false =>
      refine L2.iteF ?_
      obtain ⟨hs6, hw6⟩ := br_f hw5
      obtain ⟨hR7, f7⟩ := fin F5 H5 S5 hR5 x5 hs6
      exact ⟨F5, S5.h, acc, hR7, (x2.trans al.xF).trans x5, f7, Nat.le_succ_of_le la, hw6⟩
  · refine .inl ⟨stop i (by omega), ?_⟩
    rw [List.drop_eq_nil_of_le (by omega)] at hw2
    exact k _ _ D0 F2 H2 hw2 f2 hR2 (x1.trans x2)
theorem dn_lc {gt : TG} {elt tg iter : Expr} {ifs : List Expr} {scope : Scope} {own : List (Str × Nat)} {pos : Pos} {wi : WA} {g : WG} {tt : WT} {te : WE} (hc : X.calm = true) (hN : X.N.Nodup) (hi : DI X Φ tg iter wi) (ok : BlkOk X.N X.env.scope scope own)
    (hT : TgN X.K gt g (own.map (·.2)))
    (hg : ∀ (s : Shared) (H : Hp) (C : Addr) (cl : List (Str × Addr)) (fp : List Addr), PG (X.blk s H scope (compEnvC scope cl C X.env) fp) tg gt) (ht : ∀ (s : Shared) (H : Hp) (C : Addr) (cl : List (Str × Addr)) (fp : List Addr), PTs (X.blk s H scope (compEnvC scope cl C X.env) fp) ifs (LTx X.K tt))
    (he : ∀ (s : Shared) (H : Hp) (C : Addr) (cl : List (Str × Addr)) (fp : List Addr), DE (X.blk s H scope (compEnvC scope cl C X.env) fp) Tr elt te) (hs : ∀ x, foldedSetIterable iter X.env x = pure x := by intro _; rfl) :
    DN X Φ (.ListComp elt [⟨tg, iter, ifs, 0⟩] scope pos) (wLc wi g tt te (own.map (·.2))) := fun E hE => PE.imp (pe_lc hc hN (hi E hE) ok hg ht (fun s H C cl fp => pe_x (he s H C cl fp)) hs) fun σ H Q => lc_read hT
/-- y = [..] on one line, y a local -/
theorem ds_setLc {gt : TG} {i : Nat} {y : Str} {py : Pos} {elt tg iter : Expr} {ifs : List Expr} {scope : Scope} {own : List (Str × Nat)} {pos spos : Pos} {wi : WA} {g : WG} {tt : WT} {te : WE} (hc : X.calm = true) (hN : X.N.Nodup) (hy : X.N[i]? = some y) (hyl : X.env.scope.names.lookup y = some .local)
    (hsw : swapsWith (.ListComp elt [⟨tg, iter, ifs, 0⟩] scope pos) (some (.Name y py)) spos.line X.env = pure true) (hi : DI X Tr tg iter wi) (ok : BlkOk X.N X.env.scope scope own)
    (hT : TgN X.K gt g (own.map (·.2)))
    (hg : ∀ (s : Shared) (H : Hp) (C : Addr) (cl : List (Str × Addr)) (fp : List Addr), PG (X.blk s H scope (compEnvC scope cl C X.env) fp) tg gt) (ht : ∀ (s : Shared) (H : Hp) (C : Addr) (cl : List (Str × Addr)) (fp : List Addr), PTs (X.blk s H scope (compEnvC scope cl C X.env) fp) ifs (LTx X.K tt))
    (he : ∀ (s : Shared) (H : Hp) (C : Addr) (cl : List (Str × Addr)) (fp : List Addr), DE (X.blk s H scope (compEnvC scope cl C X.env) fp) Tr elt te) (hs : ∀ x, foldedSetIterable iter X.env x = pure x := by intro _; rfl) :
    DS X W (.Assign [.Name y py] (.ListComp elt [⟨tg, iter, ifs, 0⟩] scope pos) spos) (wSetO i (wLc wi g tt te (own.map (·.2)))) := fun E => PS.imp (ps_setLc hc hN hy hyl hsw (hi E trivial) ok hg ht (fun s H C cl fp => pe_x (he s H C cl fp)) hs) fun D σ H => by
  rintro ⟨S, F, R, hR, hw, k1, k2, k3, k4, k5⟩
  refine lc_read (E := E) hT ⟨S, F, _, hR, hw, fun d S1 q F1 H1 hw1 f hR1 x1 => ?_⟩
  exact k1 _ _ F1 H1 hw1 (hR1.setO f) x1
/-- .. frozen at once -/
theorem ds_setLcF {gt : TG} {i : Nat} {y : Str} {py : Pos} {elt tg iter : Expr} {ifs : List Expr} {scope : Scope} {own : List (Str × Nat)} {pos spos : Pos} {wi : WA} {g : WG} {tt : WT} {te : WE} (hc : X.calm = true) (hN : X.N.Nodup) (hy : X.N[i]? = some y) (hyl : X.env.scope.names.lookup y = some .local)
    (hsw : swapsWith (.ListComp elt [⟨tg, iter, ifs, 0⟩] scope pos) (some (.Name y py)) spos.line X.env = pure true) (hi : DI X Tr tg iter wi) (ok : BlkOk X.N X.env.scope scope own)
    (hT : TgN X.K gt g (own.map (·.2)))
    (hg : ∀ (s : Shared) (H : Hp) (C : Addr) (cl : List (Str × Addr)) (fp : List Addr), PG (X.blk s H scope (compEnvC scope cl C X.env) fp) tg gt) (ht : ∀ (s : Shared) (H : Hp) (C : Addr) (cl : List (Str × Addr)) (fp : List Addr), PTs (X.blk s H scope (compEnvC scope cl C X.env) fp) ifs (LTx X.K tt))
    (he : ∀ (s : Shared) (H : Hp) (C : Addr) (cl : List (Str × Addr)) (fp : List Addr), DE (X.blk s H scope (compEnvC scope cl C X.env) fp) Tr elt te) (hs : ∀ x, foldedSetIterable iter X.env x = pure x := by intro _; rfl) :
    DS X W (.Assign [.Name y py] (.ListComp elt [⟨tg, iter, ifs, 0⟩] scope pos) spos) (wAsg (wLc wi g tt te (own.map (·.2))) (gVar i)) := fun E => PS.imp (ps_setLc hc hN hy hyl hsw (hi E trivial) ok hg ht (fun s H C cl fp => pe_x (he s H C cl fp)) hs) fun D σ H => by
  rintro ⟨S, F, R, hR, hw, k1, k2, k3, k4, k5⟩
  refine lc_read (E := E) hT ⟨S, F, _, hR, hw, fun d S1 q F1 H1 hw1 f hR1 x1 => ?_⟩
  obtain ⟨o, ho⟩ := Option.ne_none_iff_exists'.mp f.at_.there
  exact k1 _ _ _ H1 hw1 ((hR1.freezeN f ho).set (f.at_.rep ho f.nF)) (x1.trans (.new f.nF))
end

/-! ### defs and their calls -/
def NX : XC := fun _ _ _ => False
/-- a promise about data, as a promise about values -/
def spOf (K : PySem.W.Frag) (n : Nat) (sp : Spc) : Sp := fun vs H Q _ => ∃ F ds h R, ds.length = n ∧ Ext F H ∧ Reps K F vs ds ∧ (∀ a ob, h a = some ob → ObAt K F H a ob ∧ F a = none) ∧ sp ds h R NX ∧
  ∀ r h' v F' H', R r h' → Rep K F' v r → Gr K ⟨F, H, h, fun _ => False⟩ F' H' h' → Q v H'
def wCall (sp : Spc) (ws : WA) : WE := fun S R => ws S fun ds S1 => sp ds S1.h (fun r h' => R r ⟨S1.s, h'⟩) NX
theorem Rel.after {K : PySem.W.Frag} {E : En} {F F' H H' : Hp} {σ : L2.St} {S : Sg} {h' : Oh} (R : Rel K E F H σ S) (g : Gr K ⟨F, H, S.h, fun _ => False⟩ F' H' h') : Rel K E F' H' σ ⟨S.s, h'⟩ := by
  refine ⟨R.g.then (fun p hp => hp.elim) g, R.len, fun i d h => ?_, fun i d h => ?_, R.inj⟩
  · obtain ⟨v, h1, h2⟩ := R.frz i d h
    exact ⟨v, h1, h2.mono g.gF⟩
  · obtain ⟨p, h1, h2, h3, h4, h5⟩ := R.own i d h
    obtain ⟨u, hu⟩ := Option.ne_none_iff_exists'.mp h2.there
    have e : H' p = some u := g.gH p u hu h4 id
    refine ⟨p, h1, h2.mono g.gF (by rw [e, hu]), (g.gN p h3 h2.there id).elim id (fun z => (TupO.ow h2 (by rw [e, ← hu] at z; exact z)).elim), ?_, h5⟩
    show h' p = none
    cases q : h' p with
    | none => rfl
    | some y =>
      rcases g.gO p (by rw [q]; simp) with z | z | z
      · exact absurd h4 z
      · have z' : H p = none := z
        rw [hu] at z'; cases z'
      · exact z.elim
section
variable {X : Cx} {Φ : En → Prop} {k n : Nat} {f : Addr} {fd : FuncData} {ps : List Str} {spc : Spc} {x : Str} {p pos : Pos} {e : Expr} {es : List Expr} {ws : WA}
theorem de_call (F : FnOk X.prog X.w X.K X.mg X.base CX0 k f fd ps (spOf X.K n spc)) (hr : Room k X.A) (hg : Gl X x) (hm : X.mg x = some (.ref f)) (hk : PySem.W.keepIn X.K (.ref f) = true) (hb : Binds X.K fd ps []) (ha : DA X Φ (e :: es) n ws)
    (hdb : (x == ("__debug__" : Str)) = false := by decide) (he : starEach (e :: es) X.env = (false, eval e X.env) :: starEach es X.env := by rfl) (hpl : (backTo pos (starEach es X.env)).any (·.1) = false := by rfl) :
    DE X Φ (.Call (.Name x p) (e :: es) [] pos) (wCall spc ws) := fun E hE => PE.imp (pe_call F hr hg hm hk hb .nil pass0 (ha E hE) hdb he hpl) fun σ H Q => by
  rintro ⟨S, F, R, hR, hw, k⟩
  refine ⟨S, F, _, hR, hw, fun ds S1 vs F1 H1 hw1 l1 r1 hR1 x1 => ?_⟩
  show spOf X.K n spc (vs ++ []) H1 Q E0
  rw [List.append_nil]
  exact ⟨F1, ds, S1.h, _, l1, hR1.g.ext, r1, hR1.g.obs, hw1, fun r h' v F' H' hr rv g => k r _ v F' H' hr rv (hR1.after g) (x1.trans g.gF)⟩
theorem de_call0 (F : FnOk X.prog X.w X.K X.mg X.base CX0 k f fd ps (spOf X.K 0 spc)) (hr : Room k X.A) (hg : Gl X x) (hm : X.mg x = some (.ref f)) (hk : PySem.W.keepIn X.K (.ref f) = true) (hb : Binds X.K fd ps [])
    (hdb : (x == ("__debug__" : Str)) = false := by decide) : DE X Φ (.Call (.Name x p) [] [] pos) (wCall spc wNil) := fun E hE => PE.imp (pe_call0 F hr hg hm hk hb .nil pass0 hdb) fun σ H Q => by
  rintro ⟨S, F, R, hR, hw, k⟩
  exact ⟨F, [], S.h, _, rfl, hR.g.ext, .nil, hR.g.obs, hw, fun r h' v F' H' hr rv g => k r _ v F' H' hr rv (hR.after g) g.gF⟩
end
theorem start_get {N : List Str} {vs : List V} {i : Nat} {v : V} (h : vs[i]? = some v) : (L2.start N vs)[i]? = some (some v) := by
  unfold L2.start
  have hl : i < (vs.map some).length := by rw [List.length_map]; exact ix_lt h
  rw [List.getElem?_append_left hl, List.getElem?_map, h]
  rfl
/-- what is wanted behind a body -/
def Fi (R : D → Oh → Prop) : We := ⟨fun S => R .non S.h, fun d S => R d S.h, fun _ => False, fun _ => False, fun _ _ _ => False⟩
/-- the body w keeps the promise sp: n arguments, u other names -/
def Pk (n u : Nat) (sp : Spc) (w : WS) : Prop := ∀ ds h R, ds.length = n → sp ds h R NX → w (Fi R) ⟨ds.map .f ++ List.replicate u .u, h⟩
/-- a def keeps a promise about data, by its body -/
theorem fn_ok {P : Program} {w : World} {K : PySem.W.Frag} {mg : Str → Option Value} {base : Heap} {x qual : Str} {st : Stmt} {f : Addr} {fd : FuncData} {N ps : List Str} {k n : Nat} {ws : WS} {spc : Spc} (F : Fun K x qual st f fd) (S : FnScope N ps (defScope st)) (hn : ps.length = n)
    (hb : ∀ (cdv : Value) (A : Around) (outer : List Env) (s : Shared) (H : Hp) (E : XK), Room k (A.deeper (PyProof.Rows.envOfC qual (defScope st) s.heap.objs.size f cdv)) → DSs (cxOf CX0 P w K mg base N qual (defScope st) f cdv A outer s H E).nox (fun _ _ _ _ => False) (defBody st) ws)
    (hw : Pk n (N.length - n) spc ws) : FnOk P w K mg base CX0 (k + 1) f fd ps (spOf K n spc) := by
  refine F.ok S (fun vs H Q E h => ?_) (fun cdv A outer s H vs Q E hr h => ?_)
  · obtain ⟨F, ds, h, R, h1, _, h2, _⟩ := h
    rw [h2.length, h1, hn]
  · obtain ⟨F, ds, h, R, h1, h2, h3, h4, h5, h6⟩ := h
    refine ⟨_, hb cdv A outer s H E hr ⟨F, H, h, fun _ => False⟩, _, F, _, ?_, hw ds h R h1 h5, fun S' σ' F' H' q r x => h6 _ _ _ F' H' q .non r.g, fun _ _ _ _ q => q.elim, fun _ _ _ _ q => q.elim, fun d S' v σ' F' H' q r' r x => h6 d _ v F' H' q r' r.g, fun _ _ _ _ _ _ _ _ q => q.elim⟩
    have nof : ∀ (i : Nat) (d : D), (ds.map Sl.f ++ List.replicate (N.length - n) Sl.u)[i]? ≠ some (.o d) := fun i d e => by
      rcases Nat.lt_or_ge i (ds.map Sl.f).length with hl | hl
      · rw [List.getElem?_append_left hl, List.getElem?_map] at e
        cases q : ds[i]? with
        | none => rw [q] at e; cases e
        | some y => rw [q] at e; cases e
      · rw [List.getElem?_append_right hl] at e
        have := List.mem_of_getElem? e
        have := List.eq_of_mem_replicate this
        cases this
    refine ⟨⟨h2, .refl _, fun _ q _ _ => .inl q, fun _ _ q _ _ => q, fun _ q => q, fun _ q => .inl q, h4⟩, ?_, fun i d e => ?_, fun i d e => absurd e (nof i d), fun i j d e p q => absurd q (nof i d)⟩
    · unfold L2.start
      rw [List.length_append, List.length_append, List.length_map, List.length_map, List.length_replicate, List.length_replicate, h3.length, h1]
    · rcases Nat.lt_or_ge i (ds.map Sl.f).length with hl | hl
      · rw [List.getElem?_append_left hl, List.getElem?_map] at e
        cases q : ds[i]? with
        | none => rw [q] at e; cases e
        | some y =>
          rw [q] at e
          cases e
          obtain ⟨v, q1, q2⟩ := h3.get q
          exact ⟨v, start_get q1, q2⟩
      · rw [List.getElem?_append_right hl] at e
        have := List.eq_of_mem_replicate (List.mem_of_getElem? e)
        cases this
end VL
namespace VL
open PySem PySem.Spec L2
/-- a def of the text as the top has left it -/
structure DefAt (K : PySem.W.Frag) (mg : Str → Option Value) (x : Str) (st : Stmt) (ps : List Str) (f : Addr) (fd : FuncData) : Prop where
  fn : Fun K x x st f fd
  bd : Binds K fd ps []
  gl : mg x = some (.ref f)
/-- a constant of the text -/
def Cst (K : PySem.W.Frag) (mg : Str → Option Value) (x : Str) (d : D) : Prop := ∃ v u, mg x = some u ∧ RelV v u ∧ ∀ F, Rep K F v d
theorem Cst.de {X : Cx} {Φ : En → Prop} {x : Str} {d : D} {pos : Pos} (c : Cst X.K X.mg x d) (hg : Gl X x) (hd : (x == ("__debug__" : Str)) = false := by decide) : DE X Φ (.Name x pos) (wC d) :=
  let ⟨_, _, h1, h2, h3⟩ := c
  de_glob hg h1 h2 h3 hd
theorem law_in {K : PySem.W.Frag} {H : Hp} {a : Addr} {ns : List Int} {sp : Spc} (hS : SqL K H a (ns.map V.int)) (h : sp [.scr ns] (fun _ => none) (fun d _ => d = .bl true) NX) : spOf K 1 sp [.ref a] H (fun v _ => v = .bl true) fun _ _ _ => False :=
  ⟨H, [.scr ns], fun _ => none, fun d _ => d = .bl true, rfl, .refl _, .cons (.scr hS) .nil, (fun _ _ q => nomatch q), h, fun r h' v F' H' hr rv _ => by
    subst hr
    cases rv
    rfl⟩
theorem rv_int {i : Int} {t : Tok} : RelV (.int i) (.int i t) := ⟨_, rfl⟩
theorem rv_str {i : Str} {t : Tok} : RelV (.str i) (.str i t) := ⟨_, rfl⟩
/-! ### fresh lists by operators -/
def opRep : O2
  | .lst xs, .int k, R => -(2 ^ 63) ≤ k ∧ k < 2 ^ 63 ∧ xs.length * k.toNat ≤ sizeLine ∧ R (.lst (List.replicate k.toNat xs).flatten)
  | _, _, _ => False
def opCat : O2
  | .lst xs, .lst ys, R => xs.length + ys.length ≤ sizeLine ∧ R (.lst (xs ++ ys))
  | _, _, _ => False
def rVN2 (K : PySem.W.Frag) (g : O2) : R2 := fun x y H Q => ∃ F d e R, Ext F H ∧ Rep K F x d ∧ Rep K F y e ∧ g d e R ∧ ∀ es vs p, R (.lst es) → Reps K F vs es → H p = none → Q (.ref p) (upd H p (.lst vs))
section
variable {X : Cx} {Φ : En → Prop} {a b : Expr} {wa wb : WE} {pos : Pos}
theorem on_rep : OpR X (binaryOp .Mult) (rVN2 X.K opRep) := OpR.any fun x y H Q => by
  rintro ⟨F, d, e, R, hx, r1, r2, hg, k⟩
  cases r1 with
  | lst h1 s1 =>
    cases r2 with
    | int j =>
      have l1 := s1.length
      obtain ⟨q1, q2, q3, q4⟩ := hg
      rename_i a1 vs1 ds1
      exact ⟨_, op_rep, a1, j, vs1, rfl, rfl, hx _ _ h1, q1, q2, by rw [l1]; exact q3, fun p hp => k _ _ p q4 (s1.rep _) hp⟩
    | _ => exact hg.elim
  | _ => cases r2 <;> exact hg.elim
theorem on_cat : OpR X (binaryOp .Add) (rVN2 X.K opCat) := OpR.any fun x y H Q => by
  rintro ⟨F, d, e, R, hx, r1, r2, hg, k⟩
  cases r1 with
  | lst h1 s1 =>
    cases r2 with
    | lst h2 s2 =>
      have l1 := s1.length
      have l2 := s2.length
      have q1 := hg.1
      rename_i a1 vs1 ds1 a2 vs2 ds2
      exact ⟨_, op_cat, a1, a2, vs1, vs2, rfl, rfl, hx _ _ h1, hx _ _ h2, by omega, fun p hp => k _ _ p hg.2 (s1.append s2) hp⟩
    | _ => exact hg.elim
  | _ => cases r2 <;> exact hg.elim
theorem dn_op {op : Operator} {g : O2} (ho : OpR X (binaryOp op) (rVN2 X.K g)) (ha : DE X Φ a wa) (hb : DE X Φ b wb) : DN X Φ (.BinOp a op b pos) (wOp g wa wb) := fun E hE => PE.imp (pe_op ho (ha E hE) (hb E hE)) fun σ H Q => by
  rintro ⟨S, F, R, hR, hw, k⟩
  refine ⟨S, F, _, hR, hw, fun x S1 v1 F1 H1 hw1 r1 hR1 x1 => ?_⟩
  refine ⟨S1, F1, _, hR1, hw1, fun y S2 v2 F2 H2 hw2 r2 hR2 x2 => ?_⟩
  refine ⟨F2, x, y, _, hR2.g.ext, r1.mono x2, r2, hw2, fun es vs p hz rz hp => ?_⟩
  obtain ⟨f, hR'⟩ := fresh_of hR2 hp rz
  exact k _ S2 p F2 _ hz f hR' (x1.trans x2)
end
end VL

set_option Elab.async false
set_option linter.all false
set_option maxRecDepth 100000
/-! VL7: x in data of any depth; zip of a tuple and a str. -/
namespace VL
open PySem PySem.Spec L2

theorem Room65 {k : Nat} {A : Around} (r : Room k A) : A.units + 65 < cLine := by have := r.un; omega

def rInDT (K : PySem.W.Frag) : R2 := fun x y H Q => ∃ d ds, Dp K H x d ∧ Dp K H y (.tuple ds) ∧ SeqAt.shaped d = true ∧ SeqAt.shaped (.tuple ds) = true ∧ Q (.bl (ds.any fun z => PyData.eqv z d)) H
def rNotInDT (K : PySem.W.Frag) : R2 := fun x y H Q => ∃ d ds, Dp K H x d ∧ Dp K H y (.tuple ds) ∧ SeqAt.shaped d = true ∧ SeqAt.shaped (.tuple ds) = true ∧ Q (.bl (!ds.any fun z => PyData.eqv z d)) H
section
variable {X : Cx} {Φ : En → Prop}
theorem op_inDT (hu : X.A.units + 65 < cLine) : OpR X (compareOp .In) (rInDT X.K) := by
  intro pins s σ H x y v u Q I rx ry h
  obtain ⟨d, ds, hd, he, sd, se, q⟩ := h
  obtain ⟨as, r1⟩ := Dp.reads I d x v hd rx
  obtain ⟨bs, r2⟩ := Dp.reads I (.tuple ds) y u he ry
  exact SeqAt.in_tuple_reads r2 r1 (SeqAt.canLay_of_shaped se) (SeqAt.canLay_of_shaped sd) (PyProof.Rows.room_in_shaped sd hu) ⟨.bl _, H, I, rfl, q⟩
theorem op_notInDT (hu : X.A.units + 65 < cLine) : OpR X (compareOp .NotIn) (rNotInDT X.K) := by
  intro pins s σ H x y v u Q I rx ry h
  obtain ⟨d, ds, hd, he, sd, se, q⟩ := h
  obtain ⟨as, r1⟩ := Dp.reads I d x v hd rx
  obtain ⟨bs, r2⟩ := Dp.reads I (.tuple ds) y u he ry
  exact SeqAt.notIn_tuple_reads r2 r1 (SeqAt.canLay_of_shaped se) (SeqAt.canLay_of_shaped sd) (PyProof.Rows.room_in_shaped sd hu) ⟨.bl _, H, I, rfl, q⟩
end
def inOk (x : D) (ds : List D) : Bool := (flat x && ds.all flat) || (shD 7 x && ds.all (shD 7))
/-- x in a list or tuple, data of any depth -/
def opInD : O2
  | x, .tup ds, R => inOk x ds = true ∧ R (.bl (inD x ds))
  | x, .lst ds, R => inOk x ds = true ∧ R (.bl (inD x ds))
  | .str x, .str y, R => R (.bl (!(Builtin.Str.occurrences y x 0 y.length 1).isEmpty))
  | _, _, _ => False
def opNotInD : O2
  | x, .tup ds, R => inOk x ds = true ∧ R (.bl (!inD x ds))
  | x, .lst ds, R => inOk x ds = true ∧ R (.bl (!inD x ds))
  | .str x, .str y, R => R (.bl (!(!(Builtin.Str.occurrences y x 0 y.length 1).isEmpty)))
  | _, _, _ => False
theorem inD_pd {x : D} (h : shD 7 x = true) : ∀ {ds : List D}, ds.all (shD 7) = true → ((D.pds ds).any fun z => PyData.eqv z x.pd) = inD x ds
  | [], _ => rfl
  | d :: ds, h' => by
    rw [List.all_cons, Bool.and_eq_true] at h'
    show (PyData.eqv d.pd x.pd || (D.pds ds).any fun z => PyData.eqv z x.pd) = (eqD d x || inD x ds)
    rw [eqD_pd 7 d x h'.1 h, inD_pd h h'.2]
section
variable {X : Cx} {Φ : En → Prop}
theorem ov_inD (hu : X.A.units + 65 < cLine) : OpV X (compareOp .In) opInD := OpR.any fun x y H Q => by
  rintro ⟨F, d, e, R, hx, r1, r2, hg, k⟩
  unfold opInD at hg
  split at hg
  · obtain ⟨f, q⟩ := hg
    rcases (Bool.or_eq_true _ _).mp f with f | f
    · rw [Bool.and_eq_true] at f
      exact ⟨_, ov_in, F, _, _, R, hx, r1, r2, ⟨f.1, f.2, q⟩, k⟩
    · rw [Bool.and_eq_true] at f
      refine ⟨_, op_inDT hu, _, _, r1.dp hx f.1, r2.dp (n := 8) hx f.2, shaped_sh f.1 (by decide), shaped_sh (n := 8) (d := .tup _) f.2 (by decide), ?_⟩
      rw [inD_pd f.1 f.2]
      exact k _ _ F H q (.bl _) (.refl hx)
  · obtain ⟨f, q⟩ := hg
    rcases (Bool.or_eq_true _ _).mp f with f | f
    · rw [Bool.and_eq_true] at f
      exact ⟨_, ov_in, F, _, _, R, hx, r1, r2, ⟨f.1, f.2, q⟩, k⟩
    · rw [Bool.and_eq_true] at f
      refine ⟨_, op_inD hu, _, _, r1.dp hx f.1, r2.dp (n := 8) hx f.2, shaped_sh f.1 (by decide), shaped_sh (n := 8) (d := .lst _) f.2 (by decide), ?_⟩
      rw [inD_pd f.1 f.2]
      exact k _ _ F H q (.bl _) (.refl hx)
  · exact ⟨_, ov_in, F, _, _, R, hx, r1, r2, hg, k⟩
  · exact hg.elim
theorem ov_notInD (hu : X.A.units + 65 < cLine) : OpV X (compareOp .NotIn) opNotInD := OpR.any fun x y H Q => by
  rintro ⟨F, d, e, R, hx, r1, r2, hg, k⟩
  unfold opNotInD at hg
  split at hg
  · obtain ⟨f, q⟩ := hg
    rcases (Bool.or_eq_true _ _).mp f with f | f
    · rw [Bool.and_eq_true] at f
      exact ⟨_, ov_notIn, F, _, _, R, hx, r1, r2, ⟨f.1, f.2, q⟩, k⟩
    · rw [Bool.and_eq_true] at f
      refine ⟨_, op_notInDT hu, _, _, r1.dp hx f.1, r2.dp (n := 8) hx f.2, shaped_sh f.1 (by decide), shaped_sh (n := 8) (d := .tup _) f.2 (by decide), ?_⟩
      rw [inD_pd f.1 f.2]
      exact k _ _ F H q (.bl _) (.refl hx)
  · obtain ⟨f, q⟩ := hg
    rcases (Bool.or_eq_true _ _).mp f with f | f
    · rw [Bool.and_eq_true] at f
      exact ⟨_, ov_notIn, F, _, _, R, hx, r1, r2, ⟨f.1, f.2, q⟩, k⟩
    · rw [Bool.and_eq_true] at f
      refine ⟨_, op_notInD hu, _, _, r1.dp hx f.1, r2.dp (n := 8) hx f.2, shaped_sh f.1 (by decide), shaped_sh (n := 8) (d := .lst _) f.2 (by decide), ?_⟩
      rw [inD_pd f.1 f.2]
      exact k _ _ F H q (.bl _) (.refl hx)
  · exact ⟨_, ov_notIn, F, _, _, R, hx, r1, r2, hg, k⟩
  · exact hg.elim
end

/-! ### zip of a tuple and a str -/
def ItZts (K : PySem.W.Frag) (a : Addr) (xs : List V) (x : Str) : It :=
  ⟨fun i H => SqT K H a xs ∧ i < xs.length ∧ i < x.cps.size,
    fun i H v H' => ∃ T y c, v = .ref T ∧ H T = none ∧ H' = upd H T (.tup [y, .str ⟨#[c]⟩]) ∧ xs[i]? = some y ∧ x.cps[i]? = some c,
    fun i H => SqT K H a xs ∧ (xs.length ≤ i ∨ x.cps.size ≤ i)⟩
theorem sep_zts {z TI TO i1 i2 a : Addr} (D : ZipApart z TI TO i1 i2 a a) : ZipSep2 z TI TO i1 i2 [i1, a] [i2] where
  TIz := D.TIz
  TOz := D.TOz
  TITO := D.TITO
  TIi1 := D.TIi1
  mem1 := by simp
  zf1 := by simpa using ⟨D.i1z.symm, D.l1z.symm⟩
  Tf1 := by simpa using ⟨D.TOi1, D.l1TO.symm⟩
  TIi2 := D.TIi2
  mem2 := by simp
  zf2 := by simpa using D.i2z.symm
  Tf2 := by simpa using D.TOi2
  sep1_2 := by simpa using D.i12
  sep2_1 := by simpa using ⟨D.i12.symm, D.l1i2.symm⟩
theorem turn_zts {P : Program} {w : World} {K : PySem.W.Frag} {elts : List Expr} {kk : Nat} {tpos : Pos} {a z TI TO i1 i2 : Addr} {xs : List V} {x : Str} {t : Tok} (D : ZipApart z TI TO i1 i2 a a) :
    Turn P w K (.Tuple elts kk tpos) (ItZts K a xs x) [z, TI, TO, i1, i2] z (fun i h => (i ≤ xs.length ∧ i ≤ x.cps.size) ∧ IsZip h z TI TO .none ∧ IsTupOf2 h TI (.ref i1) (.ref i2) ∧ (∃ x y, IsTupOf2 h TO x y) ∧ h.IsTupleIter i1 a i ∧ h.IsStrIter i2 (strIterType x) x t i) where
  mem := by simp
  obj := fun i h st c hc => by
    obtain ⟨_, hz, hTI, ⟨x, y, hTO⟩, ⟨o1, e1, _, d1⟩, ⟨o2, e2, _, d2⟩⟩ := st
    have e' : c = z ∨ c = TI ∨ c = TO ∨ c = i1 ∨ c = i2 := by simpa using hc
    rcases e' with q | q | q | q | q
    · rw [q]; exact ⟨_, hz, fun v q => nomatch q⟩
    · rw [q]; exact ⟨_, hTI, fun v q => nomatch q⟩
    · rw [q]; exact ⟨_, hTO, fun v q => nomatch q⟩
    · rw [q]; exact ⟨o1, e1, fun v q => by rw [d1] at q; cases q⟩
    · rw [q]; exact ⟨o2, e2, fun v q => by rw [d2] at q; cases q⟩
  keep := fun i h h' st k => by
    obtain ⟨hi, hz, hTI, ⟨x, y, hTO⟩, h1, h2⟩ := st
    exact ⟨hi, k z (by simp) _ hz, k TI (by simp) _ hTI, ⟨x, y, k TO (by simp) _ hTO⟩, h1.at fun o q => k i1 (by simp) o q, let ⟨o, ho, r⟩ := h2; ⟨o, k i2 (by simp) o ho, r⟩⟩
  item := by
    intro X hP hw hK hc i pins s σ H E I hf st hg
    subst hP hw hK
    obtain ⟨hi, hz, hTI, ⟨x0, y0, hTO⟩, h1, h2⟩ := st
    obtain ⟨hq, l1, l2⟩ := hg
    obtain ⟨its, rv, p, _⟩ := I.tuple hq
    have hzl : z < s.heap.objs.size := Heap.lt_size hz
    have ll : its.toArray.size = xs.length := by rw [List.size_toArray]; exact rv.length.symm
    refine wpAny_pyNext_zipD2_item (sep_zts D) (Draws.tuple (show X.A.in1.handled = none from I.ok.hd hc) i1 a D.l1i1 its.toArray) (Draws.text (show X.A.in1.handled = none from I.ok.hd hc) i2 x t) hz hTI hTO ⟨h1, p⟩ h2 (by omega) l2 fun x1 x2 h' tk y1 y2 z' TO' h1' h2' hT hsz hk => ?_
    obtain ⟨c, u, hcx, rfl⟩ := y2
    have hx : xs[i]? = some xs[i] := List.getElem?_eq_getElem l1
    obtain ⟨u1, hu1, ru1⟩ := rv.get hx
    have e1 : x1 = u1 := by
      have q : its.toArray[i]? = some x1 := y1
      rw [List.getElem?_toArray] at q
      exact Option.some.inj (q.symm.trans hu1)
    subst e1
    refine ⟨_, rfl, wpAny_letOwnedTupleGo_zip (s := { s with heap := h', toks := tk }) z' fun h'' z'' sb => ?_⟩
    have hT2 : h''.get? s.heap.objs.size = some { cls := .type "tuple", data := .seq #[x1, .str ⟨#[c]⟩ u] } := (sb.2 _ (Nat.ne_of_gt hzl)).trans hT
    have new : ObjOk X.prog X.w (upd H s.heap.objs.size (.tup [xs[i], .str ⟨#[c]⟩])) h'' s.heap.objs.size (.tup [xs[i], .str ⟨#[c]⟩]) :=
      ⟨by show 2 ≤ sizeLine; decide, [x1, .str ⟨#[c]⟩ u], .cons ru1 (.cons ⟨u, rfl⟩ .nil), ⟨_, hT2, rfl, _, rfl⟩⟩
    have I1 : Inv X pins σ (upd H s.heap.objs.size (.tup [xs[i], .str ⟨#[c]⟩])) { s with heap := h'', toks := tk } :=
      I.turnedNew (t' := tk) (ch := [z, TI, TO, i1, i2]) (fun c o hb q => (sb.2 c (fun q' => hb (by simp [q']))).trans (hk c o (fun q' => hb (by simp [q'])) (fun q' => hb (by simp [q'])) (fun q' => hb (by simp [q'])) (fun q' => hb (by simp [q'])) q)) hf (Nat.le_refl _) new
    refine ⟨.ref s.heap.objs.size, _, I1, rfl, ⟨_, xs[i], c, rfl, I.hok.fresh (Nat.le_refl _), rfl, hx, hcx⟩, ⟨⟨l1, l2⟩, z'', ?_, ⟨x1, .str ⟨#[c]⟩ u, ?_⟩, ?_, ?_⟩, fun b hcm => ?_⟩
    · exact (sb.2 _ D.TIz).trans (hk _ _ D.TIz D.TITO D.TIi1 D.TIi2 hTI)
    · exact (sb.2 _ D.TOz).trans TO'
    · exact h1'.1.at fun o q => (sb.2 _ D.i1z).trans q
    · exact let ⟨o, ho, r⟩ := h2'; ⟨o, (sb.2 _ D.i2z).trans ho, r⟩
    · have hlt : b < s.heap.objs.size := by
        have e' : b = z ∨ b = TI ∨ b = TO ∨ b = i1 ∨ b = i2 := by simpa using hcm
        rcases e' with q | q | q | q | q
        · rw [q]; exact hzl
        · rw [q]; exact Heap.lt_size hTI
        · rw [q]; exact Heap.lt_size hTO
        · rw [q]; obtain ⟨_, e1, _⟩ := h1; exact Heap.lt_size e1
        · rw [q]; obtain ⟨_, e2, _⟩ := h2; exact Heap.lt_size e2
      rw [upd_ne (Nat.ne_of_lt hlt)]
      exact (hf b hcm).1
  done := by
    intro X hP hw hK hc i pins s σ H E I hf st hg
    subst hP hw hK
    obtain ⟨hi, hz, hTI, ⟨x0, y0, hTO⟩, h1, h2⟩ := st
    obtain ⟨hq, hend⟩ := hg
    obtain ⟨its, rv, p, _⟩ := I.tuple hq
    have ll : its.toArray.size = xs.length := by rw [List.size_toArray]; exact rv.length.symm
    exact wpAny_pyNext_zipD2_end (sep_zts D) (Draws.tuple (show X.A.in1.handled = none from I.ok.hd hc) i1 a D.l1i1 its.toArray) (Draws.text (show X.A.in1.handled = none from I.ok.hd hc) i2 x t) hz hTI hTO ⟨h1, p⟩ h2 (by omega) hi.2 (by omega) fun h' tk hk => ⟨rfl, I.turnedL (t' := tk) (ch := [z, TI, TO, i1, i2]) (fun c o hb q =>
      hk c o (fun q' => hb (by simp [q'])) (fun q' => hb (by simp [q'])) (fun q' => hb (by simp [q'])) (fun q' => hb (by simp [q'])) q) hf⟩
  self := fun A i s Q E st h => wpAny_pyIter_zip st.2.1 h
def iZts (K : PySem.W.Frag) (ta : TA) : TI := fun σ H R => ta σ H fun vs H1 => ∃ a xs x, vs = [.ref a, .str x] ∧ SqT K H1 a xs ∧ R (ItZts K a xs x) H1
theorem pi_zts {X : Cx} {e e2 : Expr} {ta : TA} {p pos tpos : Pos} {elts : List Expr} {kk : Nat} (hg : Gl X "zip") (hm : X.mg "zip" = none) (ha : PA X [e, e2] ta)
    (hs : starEach [e, e2] X.env = (false, eval e X.env) :: starEach [e2] X.env := by rfl) (hpl : (backTo pos (starEach [e2] X.env)).any (·.1) = false := by rfl) :
    PI X (.Tuple elts kk tpos) (.Call (.Name "zip" p) [e, e2] [] pos) (iZts X.K ta) := by
  refine ⟨fun pins s σ H R I h => ?_⟩
  refine PyProof.Rows.Call_ (ld_blt I hg hm PyProof.Rows.boot_zip (PyProof.Rows.callWith_type1 (thn (ha.run pos pins s σ H _ I h) fun us s1 ⟨vs, H1, I1, r1, q1⟩ => ?_) hs hpl))
  obtain ⟨a, xs, x, ex, hq, q⟩ := q1
  subst ex
  cases r1 with
  | cons r rr =>
    cases rr with
    | cons r' rr =>
      cases rr
      cases r
      obtain ⟨t, rfl⟩ := r'
      have fresh5 : ∀ c, c ∈ [s1.heap.objs.size + 4, s1.heap.objs.size + 2, s1.heap.objs.size + 3, s1.heap.objs.size, s1.heap.objs.size + 1] → FpOk X pins H1 c := fun c hcm => by
        have e' : c = s1.heap.objs.size + 4 ∨ c = s1.heap.objs.size + 2 ∨ c = s1.heap.objs.size + 3 ∨ c = s1.heap.objs.size ∨ c = s1.heap.objs.size + 1 := by simpa using hcm
        have hle : s1.heap.objs.size ≤ c := by
          rcases e' with z | z | z | z | z
          · rw [z]; exact Nat.le_add_right _ _
          · rw [z]; exact Nat.le_add_right _ _
          · rw [z]; exact Nat.le_add_right _ _
          · rw [z]; exact Nat.le_refl _
          · rw [z]; exact Nat.le_add_right _ _
        exact I1.fpOk hle (I1.hok.fresh hle)
      obtain ⟨its, rv, p1, _⟩ := I1.tuple hq
      obtain ⟨o1, ho1, _⟩ := id p1
      refine zip_begins2 (begins_tuple a its.toArray) (begins_text x t) p1 trivial fun h' hz hTI hTO h1 h2 hsz hk => wpAny_pyIter_zip hz ?_
      have I2 : Inv X pins σ H1 { s1 with heap := h' } := I1.kept (t' := s1.toks) hk
      exact ⟨s1.heap.objs.size + 4, [s1.heap.objs.size + 4, s1.heap.objs.size + 2, s1.heap.objs.size + 3, s1.heap.objs.size, s1.heap.objs.size + 1], _, _, H1, rfl, I2, turn_zts (t := t) (PySem.W.ktu_apart s1.heap.objs.size a a (Heap.lt_size ho1) (Heap.lt_size ho1)), ⟨⟨Nat.zero_le _, Nat.zero_le _⟩, hz, hTI, ⟨_, _, hTO⟩, ⟨_, h1, rfl, rfl⟩, ⟨_, h2, rfl, rfl⟩⟩, fresh5, q⟩
/-- a tuple beside a text -/
def wZts (w : WA) : WA := fun S R => w S fun ds S1 => match ds with
  | [.tup xs, .str x] => R (List.zipWith (fun x y => .tup [x, y]) xs (chars x)) S1
  | _ => False
section
variable {X : Cx} {Φ : En → Prop} {a b e tg : Expr} {es : List Expr} {w : WE} {ws : WA} {n : Nat} {pos p : Pos} {K : PySem.W.Frag} {F H : Hp}
theorem feeds_zts {a : Addr} {vs : List V} {ds : List D} {x : Str} (h : SqT K F a vs) (s : Reps K F vs ds) : Feeds K (ItZts K a vs x) F (List.zipWith (fun x y => .tup [x, y]) ds (chars x)) := fun F' H' x1 x2 => by
  have hq : SqT K H' a vs := x2.sqT (x1.sqT h)
  have lc : (chars x).length = x.cps.size := by simp [chars]
  refine ⟨fun i d hd => ?_, fun i hi => ?_⟩
  · rw [List.getElem?_zipWith] at hd
    cases e1 : ds[i]? with
    | none => rw [e1] at hd; cases hd
    | some y =>
      cases e2 : (chars x)[i]? with
      | none => rw [e1, e2] at hd; cases hd
      | some z =>
        rw [e1, e2] at hd
        cases hd
        obtain ⟨v, h1, h2⟩ := s.get e1
        obtain ⟨k1, _⟩ := List.getElem?_eq_some_iff.mp h1
        obtain ⟨k2, _⟩ := List.getElem?_eq_some_iff.mp e2
        refine ⟨⟨hq, k1, by omega⟩, fun u H3 hy => ?_⟩
        obtain ⟨T, q, c, rfl, hT, rfl, f1, f2⟩ := hy
        have e3 : q = v := Option.some.inj (f1.symm.trans h1)
        subst e3
        have e4 : z = .str ⟨#[c]⟩ := by
          have e5 : x.cps.toList[i]? = some c := by rw [Array.getElem?_toList]; exact f2
          have e6 : (chars x)[i]? = some (.str ⟨#[c]⟩) := by unfold chars; rw [List.getElem?_map, e5]; rfl
          exact Option.some.inj (e2.symm.trans e6)
        subst e4
        have al := Al.one (o := .tup [q, .str ⟨#[c]⟩]) x2 hT
        exact ⟨_, al, .tup (.of upd_same) (((Reps.cons h2 (.one (.str _))).mono x1).mono al.xF)⟩
  · rw [List.length_zipWith] at hi
    refine ⟨hq, ?_⟩
    rw [s.length]
    omega
theorem di_zts {tpos : Pos} {elts : List Expr} {kk : Nat} (hg : Gl X "zip") (hm : X.mg "zip" = none) (ha : DA X Φ [a, b] n ws) (hp : ∀ t, PA X [a, b] t → PI X (.Tuple elts kk tpos) (.Call (.Name "zip" p) [a, b] [] pos) (iZts X.K t)) : DI X Φ (.Tuple elts kk tpos) (.Call (.Name "zip" p) [a, b] [] pos) (wZts ws) := fun E hE => PI.imp (hp _ (ha E hE)) fun σ H Q => by
  rintro ⟨S, F, R, hR, hw, k⟩
  refine ⟨S, F, _, hR, hw, fun ds S1 vs F1 H1 hw1 l1 r1 hR1 x1 => ?_⟩
  split at hw1
  · obtain ⟨v, u, rfl, q, q2⟩ := r1.two_of
    cases q with
    | tup h s =>
      cases q2 with
      | str => exact ⟨_, _, _, rfl, hR1.g.ext.sqT h, k _ S1 _ F1 H1 hw1 (feeds_zts h s) hR1 x1⟩
  · exact hw1.elim
end
end VL

set_option Elab.async false
set_option linter.all false
set_option maxRecDepth 100000
set_option maxHeartbeats 4000000
/-! VL8: sorted(xs, key=f), f a def of the text. -/
namespace VL
open PySem PySem.Spec PyProof.Rows L2
open PySem.Calls
open PySem.W (keyH_end KeepsBut EachIs AllAlike Sortable SortsAt KeyedOut keyedOut_each each_snoc dataLe dataKind sorted_of_sort copyHeap copyHeap_at copyHeap_old sortingHeap_old sortingHeap sortVals)

theorem in2 {k : Nat} {A : Around} (r : Room (k + 1) A) : Room k A.in1.in1 :=
  ⟨r.hd, by have := r.dp; show A.depth + 3 * k + 5 < _; omega, by have := r.un; show A.units + 1 + 1 + 16 * k + 200 < _; omega⟩

section
variable {X : Cx} {Φ : En → Prop} {pins : List (Addr × Obj)} {σ : L2.St} {H : Hp} {s : Shared} {h' : Heap}
/-- records of ours have turned, one of them is tracked from now on -/
theorem turnedAt {t' : Nat} {ch : List Addr} {T : Addr} {ob : HO} (I : Inv X pins σ H s) (k : ∀ b o, b ∉ ch → s.heap.get? b = some o → h'.get? b = some o) (hf : ∀ b ∈ ch, FpOk X pins H b) (hT : T ∈ ch)
    (new : ObjOk X.prog X.w (upd H T ob) h' T ob) : Inv X pins σ (upd H T ob) { s with heap := h', toks := t' } := by
  have hn : H T = none := (hf T hT).1
  have out : ∀ c v, H c = some v → c ∉ ch := fun c v e z => by rw [(hf c z).1] at e; cases e
  refine I.step (g' := s.gens) (d' := s.drawn) (ch := ch) (fun b hb => let ⟨_, a2, _, a4, a5, a6⟩ := hf b hb; ⟨a4, a2, a5, a6⟩) (fun b o _ _ hc e _ => k b o hc e) (fun b o _ _ hc e _ => ⟨o.slots, k b o hc e⟩)
    (fun b o hc _ n => ?f) (fun b o hc e => ⟨o, k b o hc e⟩) (fun b xs e => ?t) (fun b o u e => ?z) (fun b ps e => ⟨#[], ?l⟩) (fun m hm => ?n) (fun b u e => ?h) I.bare
  case f => rw [upd_ne (fun z => hc (by rw [z]; exact hT))]; exact n
  case t => rw [upd_ne (ne_of_none e hn)]; exact e
  case z => rw [upd_ne (ne_of_none e hn)]; exact e
  case l => rw [upd_ne (ne_of_none e hn), e]; simp
  case n =>
    obtain ⟨o, es, ep, ho, r⟩ := hm
    exact ⟨o, es, ep, k _ o (fun z => (hf _ z).2.1 rfl) ho, r⟩
  case h =>
    by_cases hb : b = T
    · subst hb
      rw [upd_same] at e
      cases e
      exact new
    · rw [upd_ne hb] at e
      refine (I.hok b u e).stay (fun c v hc q => k c v ?_ q) (fun c q => by rw [upd_ne (ne_of_none q hn)]; exact q) fun c xs q => by rw [upd_ne (ne_of_none q hn)]; exact q
      rcases hc with z | z
      · rw [z]; exact out b u e
      · exact out c _ z
end

/-- f's key of x is k, and nothing else happens -/
def KeyOf (spc : Spc) (h : Oh) (x k : D) : Prop := spc [x] h (fun r h' => r = k ∧ h' = h) NX
section
variable {X : Cx} {Φ : En → Prop} {pins : List (Addr × Obj)} {σ : L2.St} {H : Hp} {s : Shared} {n : Nat} {f : Addr} {fd : FuncData} {ps : List Str} {spc : Spc}
/-- a key is asked for, inside a sort -/
theorem key_call {A : Around} (G : FnOk X.prog X.w X.K X.mg X.base CX0 n f fd ps (spOf X.K 1 spc)) (hb : Binds X.K fd ps []) (hr : Room n A) (hA : A.frames = X.A.frames) {F : Hp} {h : Oh} {v : V} {u : Value} {x k : D} (I : Inv X pins σ H s) (g : Ext F H)
    (ob : ∀ a o, h a = some o → ObAt X.K F H a o ∧ F a = none) (rv : RelV v u) (r : Rep X.K F v x) (hk : KeyOf spc h x k) {E : Value → Shared → Prop} :
    wpAny (model X.prog X.w) A (call (.ref f) [u]) (fun v' s' => ∃ (kv : V) (F' H' : Hp), Inv X pins σ H' s' ∧ Un (frs X.stack) [] H H' s.heap s'.heap ∧ RelV kv v' ∧ Rep X.K F' kv k ∧ Gr X.K ⟨F, H, h, fun _ => False⟩ F' H' h) E s := by
  have q : spOf X.K 1 spc [v] H (fun kv H' => ∃ F', Rep X.K F' kv k ∧ Gr X.K ⟨F, H, h, fun _ => False⟩ F' H' h) E0 :=
    ⟨F, [x], h, _, rfl, g, .cons r .nil, ob, hk, fun r h' v' F' H' hr rv gr => by
      obtain ⟨rfl, rfl⟩ := hr
      exact ⟨F', rv, gr⟩⟩
  have hl : [u].length = ps.length := by rw [show [u].length = [v].length from rfl]; exact G.len _ _ _ _ q
  have e0 := I.env0
  refine wpAny_call (codeAny_mono (G.run A X.stack s H ⟨[u], []⟩ [u] [v] _ E0 hr ⟨hA.trans e0.frames, e0.mod, e0.bs, e0.bsz, e0.funs, e0.frf, e0.hok, e0.bare⟩ (by have := hb s [u] I.kIn (by simpa using hl); simpa using this) (.cons rv .nil) q) fun r s' hq => ?_)
  cases r with
  | error e => exact (show False from hq).elim
  | ok fl =>
    cases fl with
    | ret u' =>
      obtain ⟨kv, H', h1, h2, un, h4, h5, F', h6, h7⟩ := hq
      exact ⟨kv, F', H', I.call' (ch := []) h1 un h4 h2 (fun b z => absurd z (by simp)), un, h5, h6, h7⟩
    | next => exact False.elim hq
    | brk => exact False.elim hq
    | cont => exact False.elim hq
end
theorem FpOk.to {X : Cx} {pins : List (Addr × Obj)} {H H' : Hp} {b : Addr} (f : FpOk X pins H b) (h : H' b = none) : FpOk X pins H' b := ⟨h, f.2⟩
theorem FpOk.nostk {X : Cx} {pins : List (Addr × Obj)} {σ : L2.St} {H H1 : Hp} {s : Shared} {b : Addr} (f : FpOk X pins H b) (I : Inv X pins σ H1 s) : b ∉ frs X.stack := fun z => by
  rcases List.mem_cons.mp (I.stkSub b z) with e | e
  · exact f.2.1 e
  · exact f.2.2.1 e
theorem each_reads {X : Cx} {pins : List (Addr × Obj)} {σ : L2.St} {F H : Hp} {s : Shared} (I : Inv X pins σ H s) (e : Ext F H) : ∀ {kvs : List V} {us : List Value} {ks : List D}, Vals kvs us → Reps X.K F kvs ks → ks.all (shD 8) = true →
    EachIs (fun v k => ∃ as, Reads s.heap v k as) us (ks.map D.pd)
  | _, _, _, .nil, .nil, _ => .nil
  | _, _, _, .cons r t, .cons q q', h => by
    rw [List.all_cons, Bool.and_eq_true] at h
    exact .cons (Dp.reads I _ _ _ (q.dp e h.1) r) (each_reads I e t q' h.2)
theorem each_rel {K : PySem.W.Frag} {F : Hp} : ∀ {xs : List V} {us : List Value} {ds : List D}, Vals xs us → Reps K F xs ds → EachIs (fun v d => ∃ x, RelV x v ∧ Rep K F x d) us ds
  | _, _, _, .nil, .nil => .nil
  | _, _, _, .cons r t, .cons q q' => .cons ⟨_, r, q⟩ (each_rel t q')
theorem rel_each {K : PySem.W.Frag} {F : Hp} : ∀ {us : List Value} {ds : List D}, EachIs (fun v d => ∃ x, RelV x v ∧ Rep K F x d) us ds → ∃ xs, Vals xs us ∧ Reps K F xs ds
  | _, _, .nil => ⟨[], .nil, .nil⟩
  | _, _, .cons ⟨x, h1, h2⟩ t => let ⟨xs, h3, h4⟩ := rel_each t; ⟨x :: xs, .cons h1 h3, .cons h2 h4⟩
theorem vals_snoc {xs : List V} {us : List Value} {x : V} {u : Value} (h : Vals xs us) (r : RelV x u) : Vals (xs ++ [x]) (us ++ [u]) := h.append (.cons r .nil)
section
variable {X : Cx} {Φ : En → Prop} {pins : List (Addr × Obj)} {σ : L2.St} {H : Hp} {s : Shared} {n : Nat} {f : Addr} {fd : FuncData} {ps : List Str} {spc : Spc}
/-- what is known ahead of a sort by keys -/
structure KeyB (X : Cx) (n : Nat) (f : Addr) (fd : FuncData) (ps : List Str) (spc : Spc) (A : Around) (F H : Hp) (h : Oh) (xs : List V) (ds : List D) (kf : D → D) : Prop where
  G : FnOk X.prog X.w X.K X.mg X.base CX0 n f fd ps (spOf X.K 1 spc)
  hb : Binds X.K fd ps []
  hr : Room n A
  hA : A.frames = X.A.frames
  hx : Ext F H
  ob : ∀ a o, h a = some o → ObAt X.K F H a o ∧ F a = none
  it : Reps X.K F xs ds
  key : ∀ x ∈ ds, KeyOf spc h x (kf x)
  sh : ∀ x ∈ ds, shD 8 (kf x) = true
  al : AllAlike (ds.map fun x => (kf x).pd)
  so : Sortable (ds.map fun x => (kf x).pd)
  ln : ds.length ≤ sizeLine
theorem sort_rest {A : Around} {F : Hp} {h : Oh} {xs : List V} {ds : List D} {kf : D → D} {vs : List Value} {b : Bool} {a kS : Addr} {e1 : Nat} {P : PySem.Fin → Shared → Prop} {E : Value → Shared → Prop} (B : KeyB X n f fd ps spc A F H h xs ds kf) (I : Inv X pins σ H s) (rv : Vals xs vs)
    (fk : FpOk X pins H kS) (fa : FpOk X pins H a) (hka : kS ≠ a) (nk : s.heap.get? kS = some (seqObj "list" #[] 0)) (na : s.heap.get? a = some (seqObj "list" #[] e1))
    (k : ∀ s' ys F' H', Inv X pins σ (upd H' a (.lst ys)) s' → Reps X.K F' ys (ds.mergeSort (dataLe b fun x => (kf x).pd)) → Gr X.K ⟨F, H, h, fun _ => False⟩ F' H' h → H' a = none → P (.done (.ret .none)) s') :
    wpAny (model X.prog X.w) A (ksk_rest a (.ref f) b vs.toArray e1 (.ref kS)) P E s := by
  have l1 := rv.length
  have l2 := B.it.length
  have l3 := B.ln
  unfold ksk_rest
  refine wpAny_bind (wpAny_rule ?_)
  first
    | rw [List.forIn_toArray]
    | (rw [← Array.forIn_toList]; simp only [List.toList_toArray])
    | rw [← Array.forIn_toList]
  refine wpAny_bind (ksk_fold (fun i s' => ∃ (Fj Hj : Hp) (kA : Array Value) (e : Nat) (kvs : List V), s'.heap.get? kS = some (seqObj "list" kA e) ∧ s'.heap.get? a = some (seqObj "list" #[] e1) ∧ Inv X pins σ Hj s' ∧ Hj kS = none ∧ Hj a = none ∧
    Gr X.K ⟨F, H, h, fun _ => False⟩ Fj Hj h ∧ Vals kvs kA.toList ∧ Reps X.K Fj kvs ((ds.map kf).take i)) vs 0 s
    ⟨F, H, #[], 0, [], nk, na, I, fk.1, fa.1, ⟨B.hx, .refl _, fun _ q _ _ => .inl q, fun _ _ q _ _ => q, fun _ q => q, fun _ q => .inl q, B.ob⟩, .nil, by rw [List.take_zero]; exact .nil⟩ ?step ?done)
  case step =>
    rintro j u s' hu ⟨Fj, Hj, kA, e, kvs, nk', na', I', hk0, ha0, g, rk, rp⟩
    simp only [Nat.zero_add] at rp ⊢
    have hj : j < vs.length := (List.getElem?_eq_some_iff.mp hu).1
    have hjd : j < ds.length := by omega
    have hd : ds[j]? = some ds[j] := List.getElem?_eq_getElem hjd
    obtain ⟨x, hx, rx⟩ := B.it.get hd
    obtain ⟨u', hu', ru⟩ := rv.get hx
    have eu : u' = u := Option.some.inj (hu'.symm.trans hu)
    subst eu
    have hz : kA.size ≤ sizeLine := by
      have q1 : kvs.length = kA.size := by rw [rk.length, Array.length_toList]
      have q2 := rp.length
      rw [List.length_take, List.length_map] at q2
      omega
    have hz1 : kA.size + 1 ≤ sizeLine + 1 := Nat.succ_le_succ hz
    refine wpAny_bind (wpAny_attempt (wpAny_mono (key_call (E := fun _ _ => False) B.G B.hb B.hr B.hA I' g.ext g.obs ru (rx.mono g.gF) (B.key _ (List.getElem_mem hjd))) (fun v s'' he => ?_) fun _ _ hF => hF.elim))
    obtain ⟨kv, F', H', I'', un, rkv, rep, g'⟩ := he
    try dsimp only
    have nk2 : s''.heap.get? kS = some (seqObj "list" kA e) := un.keep _ _ nk' hk0 (FpOk.nostk fk I') (by simp)
    have na2 : s''.heap.get? a = some (seqObj "list" #[] e1) := un.keep _ _ na' ha0 (FpOk.nostk fa I') (by simp)
    have hk2 : H' kS = none := un.free _ _ nk' hk0 (by simp)
    have ha2 : H' a = none := un.free _ _ na' ha0 (by simp)
    have s1 := Heap.SameBut.update s''.heap kS (Obj.mapSeq (·.push v))
    obtain ⟨c2, hc2⟩ : ∃ c2, (s''.heap.update kS (Obj.mapSeq (·.push v))).get? kS = some (seqObj "list" (kA.push v) c2) := ⟨_, get?_update_seq nk2 (·.push v)⟩
    refine wpAny_bind (listUpdate_at nk2 rfl ?_ hz (by rw [Array.size_push]; exact hz1))
    refine wpAny_pure ⟨rfl, F', H', kA.push v, c2, kvs ++ [kv], hc2, (s1.2 a hka.symm).trans na2, I''.turnedL (t' := s''.toks) (ch := [kS]) (fun b o hb q => (s1.2 b (by simpa using hb)).trans q) (fun b hb => by rw [List.mem_singleton.mp hb]; exact FpOk.to fk hk2), hk2, ha2, g.then (fun p hp => hp.elim) g', ?_, ?_⟩
    · rw [Array.toList_push]
      exact vals_snoc rk rkv
    · have ek : (ds.map kf).take (j + 1) = (ds.map kf).take j ++ [kf ds[j]] := by rw [List.take_add_one, List.getElem?_map, hd]; rfl
      rw [ek]
      exact (rp.mono g'.gF).append (.one rep)
  case done =>
    rintro s' ⟨Fj, Hj, kA, e, kvs, nk', na', I', hk0, ha0, g, rk, rp⟩
    rw [List.take_of_length_le (by rw [List.length_map]; omega)] at rp
    have hal : (ds.map kf).all (shD 8) = true := by
      rw [List.all_eq_true]
      intro y hy
      obtain ⟨x, hx, rfl⟩ := List.mem_map.mp hy
      exact B.sh x hx
    have hk' := each_reads I' g.ext rk rp hal
    rw [List.map_map] at hk'
    have hsz : kA.size = vs.length := by
      have q1 : kvs.length = kA.size := by rw [rk.length, Array.length_toList]
      have q2 := rp.length
      rw [List.length_map] at q2
      omega
    try dsimp only
    refine wpAny_bind (listItems_at nk' rfl ?_)
    obtain ⟨W, w1, w2⟩ := restrict s'.heap fun c => decide (c ≠ kS ∧ c ≠ a)
    have w3 : ∀ c o, c ≠ kS → c ≠ a → s'.heap.get? c = some o → W.get? c = some o := fun c o q1 q2 q => (w1 c (decide_eq_true ⟨q1, q2⟩)).trans q
    have hu : ∀ d, d ∈ ds.map (fun x => (kf x).pd) → A.units + d.depth < cLine := fun d hd => by
      obtain ⟨x, hx, rfl⟩ := List.mem_map.mp hd
      have q1 := depth_sh 8 _ (B.sh x hx)
      have q2 := B.hr.un
      omega
    refine keyH_end (κ := dataKind s'.heap (ds.map fun x => (kf x).pd)) (h₁ := W) (fun c o hc q => ?_) (w2 kS (decide_eq_false (fun z => z.1 rfl))) nk' na' hka (SortsAt.data (s := s') hk' B.al B.so hu) hsz (by omega) fun h3 tk3 c3 k3 n3 => ?_
    · have hck : c ≠ kS := fun z => by
        subst z
        rw [w2 c (decide_eq_false (fun z => z.1 rfl))] at q
        cases q
      exact (w1 c (decide_eq_true ⟨hck, hc⟩)).symm.trans q
    · have ko : KeyedOut b (ds.map fun x => (kf x).pd) vs _ := ⟨s'.heap, kA.toList, B.al, rfl, hk'⟩
      obtain ⟨ys, y1, y2⟩ := rel_each (keyedOut_each (bs := ds) (fun x => (kf x).pd) ko (each_rel rv (B.it.mono g.gF)))
      have ly : ys.length ≤ sizeLine := by
        rw [y2.length, List.length_mergeSort]
        exact l3
      refine k _ ys Fj Hj (turnedAt (t' := tk3) (ch := [kS, a]) (T := a) I' (fun c o hc q => ?_) (fun c hc => ?_) (by simp) ⟨ly, _, c3, y1, n3⟩) y2 g ha0
      · have q1 : c ≠ kS ∧ c ≠ a := by simpa using hc
        exact k3 c o q1.2 (w3 c o q1.1 q1.2 q)
      · have q1 : c = kS ∨ c = a := by simpa using hc
        rcases q1 with rfl | rfl
        · exact FpOk.to fk hk0
        · exact FpOk.to fa ha0
end
section
variable {X : Cx} {Φ : En → Prop} {n : Nat} {f : Addr} {fd : FuncData} {ps : List Str} {spc : Spc}
/-- what sorted(l, key=f) wants and gives -/
def rSortF (X : Cx) (n : Nat) (f : Addr) (fd : FuncData) (ps : List Str) (spc : Spc) : List V → List V → Hp → VK → Prop := fun vs zs H Q => ∃ (a : Addr) (F : Hp) (h : Oh) (xs : List V) (ds : List D) (kf : D → D), vs = [.ref a] ∧ zs = [.ref f] ∧ SqL X.K H a xs ∧
  KeyB X n f fd ps spc X.A.in1.in1 F H h xs ds kf ∧ ∀ ys F' H' p, Reps X.K F' ys (ds.mergeSort (dataLe false fun x => (kf x).pd)) → Gr X.K ⟨F, H, h, fun _ => False⟩ F' H' h → H' p = none → Q (.ref p) (upd H' p (.lst ys))
theorem cr_sortF : CallRK X (.builtin "sorted") [Str.ofString "key"] (rSortF X n f fd ps spc) := by
  intro pins s σ H vs zs us ws Q I r rz hq
  obtain ⟨l, F, h, xs, ds, kf, rfl, rfl, hl, B, k⟩ := hq
  obtain rfl := Vals.ref1 r
  obtain ⟨w1, rfl, e1⟩ := vals1 rz
  obtain rfl : w1 = Value.ref f := e1
  obtain ⟨its, rv, p, hz⟩ := I.list hl
  have l1 := rv.length
  have l2 := B.it.length
  have l3 := B.ln
  have a_lt : s.heap.objs.size ≤ s.heap.objs.size + 1 := Nat.le_succ _
  have fa : FpOk X pins H (s.heap.objs.size + 1) := I.fpOk a_lt (I.hok.fresh a_lt)
  refine sorted_of_sort (s := s) p.isList (by omega) (ksk_s1 _ _) (fun _ => ksk_l1 _ _) fun E' => ?_
  rw [show [Str.ofString "key"].zip [Value.ref f] = [(Str.ofString "key", Value.ref f)] from rfl, ksk_t1]
  have ho := copyHeap_at s.heap its
  have ha : s.heap.objs.size + 1 < (copyHeap s.heap its).objs.size := Heap.lt_size ho
  obtain ⟨e1, ho1⟩ : ∃ e1, ((copyHeap s.heap its).update (s.heap.objs.size + 1) (Obj.mapSeq fun _ => (#[] : Array Value))).get? (s.heap.objs.size + 1) = some (seqObj "list" #[] e1) := ⟨_, get?_update_seq ho fun _ => #[]⟩
  have hkS : (((copyHeap s.heap its).update (s.heap.objs.size + 1) (Obj.mapSeq fun _ => (#[] : Array Value))).push (seqObj "tuple" its.toArray 0)).objs.size = (copyHeap s.heap its).objs.size + 1 := by rw [size_push', Heap.size_update]
  have hle : s.heap.objs.size ≤ (copyHeap s.heap its).objs.size + 1 := by omega
  unfold ksk_tree
  refine wpAny_bind (listItems_at ho rfl ?_)
  refine wpAny_bind (listUpdate_at ho rfl ?_ (by rw [List.size_toArray]; omega) (Nat.zero_le _))
  refine wpAny_bind (seqEpoch_at ho1 rfl ?_)
  refine wpAny_bind (wpAny_newTuple ?_ (by show its.length ≤ _; omega))
  refine wpAny_bind (wpAny_newList ?_ (Nat.zero_le _))
  refine wpAny_holding ?_
  have keep : ∀ b o, s.heap.get? b = some o → (sortingHeap (copyHeap s.heap its) (s.heap.objs.size + 1) its).get? b = some o := fun b o q =>
    sortingHeap_old (Nat.ne_of_lt (Nat.lt_succ_of_lt (Heap.lt_size q))) (copyHeap_old q)
  have I2 : Inv X pins σ H { s with heap := sortingHeap (copyHeap s.heap its) (s.heap.objs.size + 1) its } := I.kept (t' := s.toks) keep
  refine sort_rest (b := false) B I2 rv (kS := (((copyHeap s.heap its).update (s.heap.objs.size + 1) (Obj.mapSeq fun _ => (#[] : Array Value))).push (seqObj "tuple" its.toArray 0)).objs.size) ?_ fa ?_ ?_ ?_ fun s' ys F' H' I' ry g ha' => ⟨rfl, .ref _, _, I', rfl, k ys F' H' _ ry g ha'⟩
  · rw [hkS]
    exact I.fpOk hle (I.hok.fresh hle)
  · rw [hkS]
    exact Nat.ne_of_gt (Nat.lt_succ_of_lt ha)
  · exact Heap.get?_push_size _ rfl
  · exact Heap.get?_push_of_some _ (Heap.get?_push_of_some _ ho1)
/-- sorted(e, key=f) -/
def wSortF (spc : Spc) (w : WE) : WE := fun S R => w S fun d S1 => match d with
  | .lst ds => ∃ kf : D → D, (∀ x ∈ ds, KeyOf spc S1.h x (kf x)) ∧ (∀ x ∈ ds, shD 8 (kf x) = true) ∧ AllAlike (ds.map fun x => (kf x).pd) ∧ Sortable (ds.map fun x => (kf x).pd) ∧ ds.length ≤ sizeLine ∧ R (.lst (ds.mergeSort (dataLe false fun x => (kf x).pd))) S1
  | _ => False
theorem dn_sortF {e : Expr} {x : Str} {p px kp pos : Pos} {w : WE} (G : FnOk X.prog X.w X.K X.mg X.base CX0 n f fd ps (spOf X.K 1 spc)) (hr : Room (n + 1) X.A) (hg : Gl X "sorted") (hm : X.mg "sorted" = none) (hgf : Gl X x) (hmf : X.mg x = some (.ref f)) (hb : Binds X.K fd ps []) (he : DE X Φ e w)
    (h1 : starEach [e] X.env = [(false, eval e X.env)] := by rfl) (hdb : (x == ("__debug__" : Str)) = false := by decide) : DN X Φ (.Call (.Name "sorted" p) [e] [⟨some "key", .Name x px, kp⟩] pos) (wSortF spc w) := fun E hE => PE.imp (pe_callBK cr_sortF hg hm (by rfl) (pa_cons (he E hE) pa_nil h1) (pk_cons (pe_glob hgf hmf (v := .ref f) rfl hdb) pk_nil) (he := by rw [h1]; rfl) (hpl := by rw [h1]; rfl)) fun σ H Q => by
  rintro ⟨S, F, R, hR, hw, k⟩
  refine ⟨S, F, _, hR, hw, fun d S1 v F1 H1 hw1 r1 hR1 x1 => ?_⟩
  split at hw1
  · obtain ⟨kf, k1, k2, k3, k4, k5, q⟩ := hw1
    cases r1 with
    | lst ha hs =>
      refine ⟨_, F1, S1.h, _, _, kf, rfl, rfl, .of (hR1.g.ext _ _ ha), ⟨G, hb, in2 hr, rfl, hR1.g.ext, hR1.g.obs, hs, k1, k2, k3, k4, k5⟩, fun ys F' H' p' ry g hp => ?_⟩
      obtain ⟨fr, hR'⟩ := fresh_of (hR1.after g) hp ry
      exact k _ _ p' F' _ q fr hR' (x1.trans g.gF)
  · exact hw1.elim
end
end VL

set_option Elab.async false
set_option linter.all false
set_option maxRecDepth 100000
set_option maxHeartbeats 4000000
/-! VL9: methods of ints and texts; a text times an int; list of a text. -/
namespace VL
open PySem PySem.Spec PyProof.Rows L2
/-- x.bit_length() -/
def wBits (w : WE) : WE := fun S R => w S fun d S1 => match d with
  | .int i => R (.int (Builtin.Int.intBits i : Nat)) S1
  | _ => False
abbrev OM1 := Str → D → (D → Prop) → Prop
def wM1 (g : OM1) (w we : WE) : WE := fun S R => w S fun d S1 => match d with
  | .str a => we S1 fun e S2 => g a e fun z => R z S2
  | _ => False
def wM0 (g : Str → (D → Prop) → Prop) (w : WE) : WE := fun S R => w S fun d S1 => match d with
  | .str a => g a fun z => R z S1
  | _ => False
/-- s.index(t), found -/
def mIndex : OM1 := fun a e R => match e with
  | .str b => ∃ i rest, Builtin.Str.occurrences a b 0 a.length 1 = i :: rest ∧ R (.int (i : Nat))
  | _ => False
/-- s.join(texts) -/
def mJoin : OM1 := fun a e R => match e with
  | .lst ds => ∃ ys : List Str, ds = ys.map D.str ∧ (ys.map (·.length)).sum + ys.length * a.length ≤ 16777216 ∧ R (.str (Txt.join a ys))
  | .tup ds => ∃ ys : List Str, ds = ys.map D.str ∧ (ys.map (·.length)).sum + ys.length * a.length ≤ 16777216 ∧ R (.str (Txt.join a ys))
  | _ => False
def mUpper (a : Str) (R : D → Prop) : Prop := a.length ≤ 5592405 ∧ R (.str (Txt.upper a))
def rM1 (K : PySem.W.Frag) (g : OM1) : V → List V → Hp → VK → Prop := fun x xs H Q => ∃ F a v e R, x = .str a ∧ xs = [v] ∧ Ext F H ∧ Rep K F v e ∧ g a e R ∧ ∀ z v', R z → Rep K F v' z → Q v' H
section
variable {X : Cx} {Φ : En → Prop} {o e : Expr} {wo we : WE} {apos cpos pos : Pos} {name : Str} {id : String}
theorem de_bits (ho : DE X Φ o wo) (hbase : attributeBase o "bit_length" X.env (eval o X.env) = eval o X.env := by rfl) (hline : (apos.endLine == pos.line) = true := by rfl) : DE X Φ (.Call (.Attribute o "bit_length" apos) [] [] pos) (wBits wo) := fun E hE => PE.imp (pe_bits (ho E hE) hbase hline) fun σ H Q => by
  rintro ⟨S, F, R, hR, hw, k⟩
  refine ⟨S, F, _, hR, hw, fun d S1 v F1 H1 hw1 r1 hR1 x1 => ?_⟩
  split at hw1
  · cases r1
    exact ⟨_, rfl, k _ S1 _ F1 H1 hw1 (.int _) hR1 x1⟩
  · exact hw1.elim
theorem mv_index : MtR X "str.index" (rM1 X.K mIndex) := MtR.any fun x xs H Q => by
  rintro ⟨F, a, v, e, R, rfl, rfl, hx, r, hg, k⟩
  refine ⟨_, mt_sindex, ?_⟩
  unfold mIndex at hg
  split at hg
  · obtain ⟨i, rest, h1, h2⟩ := hg
    cases r
    exact ⟨_, _, i, rest, rfl, rfl, h1, k _ _ h2 (.int _)⟩
  · exact hg.elim
theorem mv_join : MtR X "str.join" (rM1 X.K mJoin) := MtR.any fun x xs H Q => by
  rintro ⟨F, a, v, e, R, rfl, rfl, hx, r, hg, k⟩
  refine ⟨_, mt_join, ?_⟩
  unfold mJoin at hg
  split at hg
  · obtain ⟨ys, rfl, h1, h2⟩ := hg
    cases r with
    | lst h s =>
      have e1 := s.strs
      subst e1
      exact ⟨_, _, ys, rfl, rfl, .inl (.of (hx _ _ h)), h1, k _ _ h2 (.str _)⟩
  · obtain ⟨ys, rfl, h1, h2⟩ := hg
    cases r with
    | tup h s =>
      have e1 := s.strs
      subst e1
      exact ⟨_, _, ys, rfl, rfl, .inr (hx.sqT h), h1, k _ _ h2 (.str _)⟩
  · exact hg.elim
theorem de_m1 {g : OM1} (slot : Slot "str" name id) (ty : typeOf (.builtin id) = pure (.type "method_descriptor")) (rule : MtR X id (rM1 X.K g)) (ho : DE X Φ o wo) (he : DE X Φ e we)
    (hs : starEach [e] X.env = [(false, eval e X.env)] := by rfl) (hbase : attributeBase o name X.env (eval o X.env) = eval o X.env := by rfl) (hline : (apos.endLine == pos.line) = true := by rfl) :
    DE X Φ (.Call (.Attribute o name apos) [e] [] pos) (wM1 g wo we) := fun E hE => PE.imp (pe_m1 slot ty rule (ho E hE) (he E hE) hs hbase hline) fun σ H Q => by
  rintro ⟨S, F, R, hR, hw, k⟩
  refine ⟨S, F, _, hR, hw, fun d S1 v F1 H1 hw1 r1 hR1 x1 => ?_⟩
  split at hw1
  · cases r1
    refine ⟨⟨_, rfl⟩, S1, F1, _, hR1, hw1, fun e S2 u F2 H2 hw2 r2 hR2 x2 => ?_⟩
    exact ⟨F2, _, u, e, _, rfl, rfl, hR2.g.ext, r2, hw2, fun z v' hz rz => k z S2 v' F2 H2 hz rz hR2 (x1.trans x2)⟩
  · exact hw1.elim
theorem de_index (ho : DE X Φ o wo) (he : DE X Φ e we) (hs : starEach [e] X.env = [(false, eval e X.env)] := by rfl) (hbase : attributeBase o "index" X.env (eval o X.env) = eval o X.env := by rfl) (hline : (apos.endLine == pos.line) = true := by rfl) :
    DE X Φ (.Call (.Attribute o "index" apos) [e] [] pos) (wM1 mIndex wo we) := de_m1 PySem.F.slot_str_index PySem.F.type_str_index mv_index ho he hs hbase hline
theorem de_join (ho : DE X Φ o wo) (he : DE X Φ e we) (hs : starEach [e] X.env = [(false, eval e X.env)] := by rfl) (hbase : attributeBase o "join" X.env (eval o X.env) = eval o X.env := by rfl) (hline : (apos.endLine == pos.line) = true := by rfl) :
    DE X Φ (.Call (.Attribute o "join" apos) [e] [] pos) (wM1 mJoin wo we) := de_m1 PySem.F.slot_str_join PySem.F.type_str_join mv_join ho he hs hbase hline
theorem de_upper (ho : DE X Φ o wo) (hbase : attributeBase o "upper" X.env (eval o X.env) = eval o X.env := by rfl) (hline : (apos.endLine == pos.line) = true := by rfl) :
    DE X Φ (.Call (.Attribute o "upper" apos) [] [] pos) (wM0 mUpper wo) := fun E hE => PE.imp (pe_upper (ho E hE) hbase hline) fun σ H Q => by
  rintro ⟨S, F, R, hR, hw, k⟩
  refine ⟨S, F, _, hR, hw, fun d S1 v F1 H1 hw1 r1 hR1 x1 => ?_⟩
  split at hw1
  · cases r1
    exact ⟨⟨_, rfl⟩, _, rfl, rfl, hw1.1, k _ S1 _ F1 H1 hw1.2 (.str _) hR1 x1⟩
  · exact hw1.elim
end
/-! ### a text times an int; list of a text -/
def opMulS : O2
  | .str x, .int n, R => MulOk x n ∧ R (.str (Txt.mul x n))
  | d, e, R => opMul d e R
def bLstS : OC
  | [.str x], R => x.length ≤ sizeLine ∧ R (.lst (chars x))
  | ds, R => bLst ds R
section
variable {X : Cx} {Φ : En → Prop}
theorem op_mul_s : OpR X (binaryOp .Mult) (fun x y H Q => ∃ a n, x = .str a ∧ y = .int n ∧ MulOk a n ∧ Q (.str (Txt.mul a n)) H) := by
  intro pins s σ H x y v u Q I rx ry h
  obtain ⟨a, n, rfl, rfl, hm, q⟩ := h
  obtain ⟨t, rfl⟩ := rx
  obtain ⟨t2, rfl⟩ := ry
  exact SB.mul hm fun t' k => ⟨.str _, H, I.tok k, ⟨t', rfl⟩, q⟩
theorem ov_mulS : OpV X (binaryOp .Mult) opMulS := OpR.any fun x y H Q => by
  rintro ⟨F, d, e, R, hx, r1, r2, hg, k⟩
  unfold opMulS at hg
  split at hg
  · cases r1; cases r2
    exact ⟨_, op_mul_s, _, _, rfl, rfl, hg.1, k _ _ F H hg.2 (.str _) (.refl hx)⟩
  · exact ⟨_, ov_mul, F, d, e, R, hx, r1, r2, hg, k⟩
theorem vals_get : ∀ {xs : List V} {us : List Value}, xs.length = us.length → (∀ (j : Nat) (u : Value), us[j]? = some u → ∃ x : V, xs[j]? = some x ∧ RelV x u) → Vals xs us
  | [], [], _, _ => .nil
  | [], _ :: _, h, _ => by simp at h
  | _ :: _, [], h, _ => by simp at h
  | x :: xs, u :: us, h, k => by
    obtain ⟨y, h1, h2⟩ := k 0 u rfl
    cases h1
    exact .cons h2 (vals_get (by simpa using h) fun j v hv => k (j + 1) v hv)
theorem reps_signs {K : PySem.W.Frag} {F : Hp} : ∀ cs : List Nat, Reps K F (cs.map fun c => .str ⟨#[c]⟩) (cs.map fun c => .str ⟨#[c]⟩)
  | [] => .nil
  | _ :: cs => .cons (.str _) (reps_signs cs)
theorem call_list_s (hc : X.calm = true) : CallR X (.type "list") (fun xs H Q => ∃ a : Str, xs = [.str a] ∧ a.length ≤ sizeLine ∧ ∀ l, H l = none → Q (.ref l) (upd H l (.lst (a.cps.toList.map fun c => .str ⟨#[c]⟩)))) := by
  intro pins s σ H xs us Q I rx h
  obtain ⟨a, rfl, hz, q⟩ := h
  cases rx with
  | cons r rr =>
    cases rr
    obtain ⟨t, rfl⟩ := r
    refine PySem.call_list_str (I.ok.hd hc) a t (hn := hz) fun h' tk acc c hk hS hacc => ?_
    have hn : H s.heap.objs.size = none := I.hok.fresh (Nat.le_refl _)
    have vs : Vals (a.cps.toList.map fun c => V.str ⟨#[c]⟩) acc.toList := vals_get (by rw [List.length_map, Array.length_toList, Array.length_toList]; exact hacc.1.symm) fun j u hu => by
      obtain ⟨c, t', h1, rfl⟩ := hacc.2 j u (by rw [← Array.getElem?_toList]; exact hu)
      exact ⟨.str ⟨#[c]⟩, by rw [List.getElem?_map, Array.getElem?_toList, h1]; rfl, ⟨t', rfl⟩⟩
    refine ⟨.ref _, _, I.laid (t' := tk) (o := .lst (a.cps.toList.map fun c => V.str ⟨#[c]⟩)) hk (Nat.le_refl _) ⟨?_, acc.toList, c, vs, ?_⟩, rfl, q _ hn⟩
    · rw [List.length_map]
      exact hz
    · simpa using hS
theorem cn_lstS (hc : X.calm = true) : CallN X (.type "list") bLstS := CallR.any fun xs H Q => by
  rintro ⟨F, ds, R, hx, r, hg, k⟩
  unfold bLstS at hg
  split at hg
  · obtain ⟨v, rfl, q⟩ := r.one_of
    cases q
    exact ⟨_, call_list_s hc, _, rfl, hg.1, fun l hl => k _ _ _ hg.2 (reps_signs _) hl⟩
  · exact ⟨_, cn_lst, F, ds, R, hx, r, hg, k⟩
theorem bLstS_l : ∀ ds R, bLstS ds R → bLstS ds fun d => R d ∧ ∃ es, d = .lst es := fun ds R h => by
  unfold bLstS at h ⊢
  split at h
  · exact ⟨h.1, h.2, _, rfl⟩
  · exact bLst_l _ _ h
theorem cv_lstS (hc : X.calm = true) : CallV X (.type "list") bLstS := vn_vc (cn_lstS hc) bLstS_l
end
/-- a block without free names fits any outer scope -/
theorem blk_any {N : List Str} {sc sc2 scope : Scope} {own : List (Str × Nat)} (h : BlkOk N sc scope own) (hf : scope.names.all (fun y => y.2 != .free) = true) : BlkOk N sc2 scope own := ⟨h.kind, h.uniq, h.ix, fun y hy e => by
  have := List.all_eq_true.mp hf y hy
  rw [e] at this
  exact absurd this (by decide), h.own⟩
end VL

set_option Elab.async false
set_option linter.all false
set_option maxRecDepth 100000
set_option maxHeartbeats 400000
/-! VL10: exceptions of own classes; classes and their instances. -/
namespace VL
open PySem PySem.Spec PyProof.Rows L2
/-! ### exceptions -/
section
variable {X : Cx} {C : Addr} {bmB : List Value} {B newId initId : String}
/-- X() -/
theorem pmk_own0 {x : Str} {p pos : Pos} (F : ExcBaseFacts B newId initId bmB) (q : PySem.W.excIn X.K C bmB newId = true) (gC : X.mg x = some (.ref C)) (kC : PySem.W.keepIn X.K (.ref C) = true) (r : Raises X (.ref C)) (hg : Gl X x)
    (hdb : (x == ("__debug__" : Str)) = false := by decide) : PMk X (.Call (.Name x p) [] [] pos) (fun _ H Q => Q (.ref C) none H) := by
  intro pins s σ H Q I h
  refine PySem.wpAny_Call_Name_kw (ld_glob I hg gC ?_ hdb)
  refine PySem.W.callWith_K0 I.kIn kC ?_
  obtain ⟨bm, N, nm, qn, bs, hdct, sn, sub, ab, col, dd, k0, k1, k2, k3, k5, mN, hC, hN, hni, T⟩ := exc_obj I.kIn q
  refine wpAny_call_exc_subT F T hC hN hni (fun h' e hm => ?_) (Nat.zero_le _)
  exact mk_of I hm r h (I.hok.gone hm.new)
end
/-- what an expression that raises must show -/
def Px (K : PySem.W.Frag) (W : L2.WX) (xx : Str → List (Str × D) → Sg → Prop) : En → Prop := fun E => ∀ c fs S' cls dd σ' F' H', xx c fs S' → XAt K F' c fs cls dd → Rel K E F' H' σ' S' → W cls dd σ' H'
/-- raise, an own class without fields -/
def wRaise (c : Str) : WS := fun T S => T.xx c [] S
theorem ds_raise {X : Cx} {c : Str} {e : Expr} {pos : Pos} {W : L2.WX} (hc : X.calm = true) (tk : Takes X W) (he : PMk X e (fun _ H Q => Q (.ref (clsAt X.K c)) none H)) : DS X W (.Raise (some e) none pos) (wRaise c) := fun E => PS.imp (ps_raise hc tk he) fun D σ H => by
  rintro ⟨S, F, R, hR, hw, k1, k2, k3, k4, k5⟩
  exact k5 c [] S _ _ σ F H hw ⟨rfl, .inl ⟨rfl, rfl⟩⟩ hR
/-- what is wanted behind a body that may raise -/
def FiX (R : D → Oh → Prop) (Y : XC) : We := ⟨fun S => R .non S.h, fun d S => R d S.h, fun _ => False, fun _ => False, fun c fs S => Y c fs S.h⟩
/-- a promise that may raise -/
def spOfX (K : PySem.W.Frag) (n : Nat) (sp : Spc) : Sp := fun vs H Q E => ∃ F ds h R Y, ds.length = n ∧ Ext F H ∧ Reps K F vs ds ∧ (∀ a ob, h a = some ob → ObAt K F H a ob ∧ F a = none) ∧ sp ds h R Y ∧
  (∀ r h' v F' H', R r h' → Rep K F' v r → Gr K ⟨F, H, h, fun _ => False⟩ F' H' h' → Q v H') ∧ ∀ c fs h' F' H' cls dd, Y c fs h' → XAt K F' c fs cls dd → Gr K ⟨F, H, h, fun _ => False⟩ F' H' h' → E cls dd H'
def PkX (n u : Nat) (sp : Spc) (w : WS) : Prop := ∀ ds h R Y, ds.length = n → sp ds h R Y → w (FiX R Y) ⟨ds.map .f ++ List.replicate u .u, h⟩
/-- a def that may raise keeps its promise, by its body -/
theorem fn_okX {P : Program} {w : World} {K : PySem.W.Frag} {mg : Str → Option Value} {base : Heap} {x qual : Str} {st : Stmt} {f : Addr} {fd : FuncData} {N ps : List Str} {k n : Nat} {ws : WS} {spc : Spc} (F : Fun K x qual st f fd) (S : FnScope N ps (defScope st)) (hn : ps.length = n)
    (hb : ∀ (cdv : Value) (A : Around) (outer : List Env) (s : Shared) (H : Hp) (E : XK), Room k (A.deeper (PyProof.Rows.envOfC qual (defScope st) s.heap.objs.size f cdv)) → DSs (cxOf (L2.CX P w) P w K mg base N qual (defScope st) f cdv A outer s H E) (fun cls dd _ H' => E cls dd H') (defBody st) ws)
    (hw : PkX n (N.length - n) spc ws) : FnOk P w K mg base (L2.CX P w) (k + 1) f fd ps (spOfX K n spc) := by
  refine F.okX S (fun vs H Q E h => ?_) (fun cdv A outer s H vs Q E hr h => ?_)
  · obtain ⟨F, ds, h, R, Y, h1, _, h2, _⟩ := h
    rw [h2.length, h1, hn]
  · obtain ⟨F, ds, h, R, Y, h1, h2, h3, h4, h5, h6, h7⟩ := h
    refine ⟨_, hb cdv A outer s H E hr ⟨F, H, h, fun _ => False⟩, _, F, _, ?_, hw ds h R Y h1 h5, fun S' σ' F' H' q r x => h6 _ _ _ F' H' q .non r.g, fun _ _ _ _ q => q.elim, fun _ _ _ _ q => q.elim, fun d S' v σ' F' H' q r' r x => h6 d _ v F' H' q r' r.g, fun c fs S' cls dd σ' F' H' q ax r => h7 c fs _ F' H' cls dd q ax r.g⟩
    have nof : ∀ (i : Nat) (d : D), (ds.map Sl.f ++ List.replicate (N.length - n) Sl.u)[i]? ≠ some (.o d) := fun i d e => by
      rcases Nat.lt_or_ge i (ds.map Sl.f).length with hl | hl
      · rw [List.getElem?_append_left hl, List.getElem?_map] at e
        cases q : ds[i]? with
        | none => rw [q] at e; cases e
        | some y => rw [q] at e; cases e
      · rw [List.getElem?_append_right hl] at e
        have := List.mem_of_getElem? e
        have := List.eq_of_mem_replicate this
        cases this
    refine ⟨⟨h2, .refl _, fun _ q _ _ => .inl q, fun _ _ q _ _ => q, fun _ q => q, fun _ q => .inl q, h4⟩, ?_, fun i d e => ?_, fun i d e => absurd e (nof i d), fun i j d e p q => absurd q (nof i d)⟩
    · unfold L2.start
      rw [List.length_append, List.length_append, List.length_map, List.length_map, List.length_replicate, List.length_replicate, h3.length, h1]
    · rcases Nat.lt_or_ge i (ds.map Sl.f).length with hl | hl
      · rw [List.getElem?_append_left hl, List.getElem?_map] at e
        cases q : ds[i]? with
        | none => rw [q] at e; cases e
        | some y =>
          rw [q] at e
          cases e
          obtain ⟨v, q1, q2⟩ := h3.get q
          exact ⟨v, start_get q1, q2⟩
      · rw [List.getElem?_append_right hl] at e
        have := List.eq_of_mem_replicate (List.mem_of_getElem? e)
        cases this
/-- a promise is handed on -/
def wCallX (sp : Spc) (ws : WA) (xx : Str → List (Str × D) → Sg → Prop) : WE := fun S R => ws S fun ds S1 => sp ds S1.h (fun r h' => R r ⟨S1.s, h'⟩) (fun c fs h' => xx c fs ⟨S1.s, h'⟩)
section
variable {X : Cx} {Φ : En → Prop} {k n : Nat} {f : Addr} {fd : FuncData} {ps : List Str} {spc : Spc} {x : Str} {p pos : Pos} {e : Expr} {es : List Expr} {ws : WA} {W : L2.WX} {xx : Str → List (Str × D) → Sg → Prop}
theorem de_callX (F : FnOk X.prog X.w X.K X.mg X.base (L2.CX X.prog X.w) k f fd ps (spOfX X.K n spc)) (tk : Takes X W) (hx : ∀ E, Φ E → Px X.K W xx E) (hr : Room k X.A) (hg : Gl X x) (hm : X.mg x = some (.ref f)) (hk : PySem.W.keepIn X.K (.ref f) = true) (hb : Binds X.K fd ps []) (ha : DA X Φ (e :: es) n ws)
    (hdb : (x == ("__debug__" : Str)) = false := by decide) (he : starEach (e :: es) X.env = (false, eval e X.env) :: starEach es X.env := by rfl) (hpl : (backTo pos (starEach es X.env)).any (·.1) = false := by rfl) :
    DE X Φ (.Call (.Name x p) (e :: es) [] pos) (wCallX spc ws xx) := fun E hE => PE.imp (pe_callS F hr hg hm hk hb (fun σ => passAt tk σ) (ha E hE) hdb he hpl) fun σ H Q => by
  rintro ⟨S, F, R, hR, hw, k⟩
  refine ⟨S, F, _, hR, hw, fun ds S1 vs F1 H1 hw1 l1 r1 hR1 x1 => ?_⟩
  exact ⟨F1, ds, S1.h, _, _, l1, hR1.g.ext, r1, hR1.g.obs, hw1, fun r h' v F' H' hr rv g => k r _ v F' H' hr rv (hR1.after g) (x1.trans g.gF), fun c fs h' F' H' cls dd hy ax g => hx E hE c fs _ cls dd σ F' H' hy ax (hR1.after g)⟩
/-- .. where nothing is raised -/
theorem de_callL (F : FnOk X.prog X.w X.K X.mg X.base (L2.CX X.prog X.w) k f fd ps (spOfX X.K n spc)) (hr : Room k X.A) (hg : Gl X x) (hm : X.mg x = some (.ref f)) (hk : PySem.W.keepIn X.K (.ref f) = true) (hb : Binds X.K fd ps []) (ha : DA X Φ (e :: es) n ws)
    (hdb : (x == ("__debug__" : Str)) = false := by decide) (he : starEach (e :: es) X.env = (false, eval e X.env) :: starEach es X.env := by rfl) (hpl : (backTo pos (starEach es X.env)).any (·.1) = false := by rfl) :
    DE X Φ (.Call (.Name x p) (e :: es) [] pos) (wCall spc ws) := fun E hE => PE.imp (pe_call F hr hg hm hk hb .nil passL (ha E hE) hdb he hpl) fun σ H Q => by
  rintro ⟨S, F, R, hR, hw, k⟩
  refine ⟨S, F, _, hR, hw, fun ds S1 vs F1 H1 hw1 l1 r1 hR1 x1 => ?_⟩
  show spOfX X.K n spc (vs ++ []) H1 Q E0
  rw [List.append_nil]
  exact ⟨F1, ds, S1.h, _, NX, l1, hR1.g.ext, r1, hR1.g.obs, hw1, fun r h' v F' H' hr rv g => k r _ v F' H' hr rv (hR1.after g) (x1.trans g.gF), fun c fs h' F' H' cls dd hy => hy.elim⟩
end

/-! ### statements with parts that raise -/
section
variable {X : Cx} {W : L2.WX} {e : Expr} {pos : Pos} {w : (Str → List (Str × D) → Sg → Prop) → WE} {g : WG}
/-- the family of readings of an expression that may raise -/
def LEX (K : PySem.W.Frag) (E : En) (W : L2.WX) (w : (Str → List (Str × D) → Sg → Prop) → WE) : TE := fun σ H Q => ∃ xx, Px K W xx E ∧ LE K E (w xx) σ H Q
def DEX (X : Cx) (W : L2.WX) (e : Expr) (w : (Str → List (Str × D) → Sg → Prop) → WE) : Prop := ∀ xx, DE X (Px X.K W xx) e (w xx)
theorem DEX.pe (h : DEX X W e w) (E : En) : PE X e (LEX X.K E W w) := ⟨fun pins s σ H Q I q => let ⟨xx, hx, q⟩ := q; (h xx E hx).run pins s σ H Q I q⟩
def LTX (K : PySem.W.Frag) (E : En) (W : L2.WX) (w : (Str → List (Str × D) → Sg → Prop) → WT) : TT := fun σ H Q => ∃ xx, Px K W xx E ∧ LT K E (w xx) σ H Q
def DTX (X : Cx) (W : L2.WX) (e : Expr) (w : (Str → List (Str × D) → Sg → Prop) → WT) : Prop := ∀ xx, DT X (Px X.K W xx) e (w xx)
theorem DTX.pt {w : (Str → List (Str × D) → Sg → Prop) → WT} (h : DTX X W e w) (E : En) : PT X e (LTX X.K E W w) := ⟨fun pins s σ H Q I q => let ⟨xx, hx, q⟩ := q; (h xx E hx).run pins s σ H Q I q⟩
theorem ds_asgX {tg : Expr} (he : DEX X W e w) (hg : DG X Tr tg g) (hs : swapsWithSole [tg] e pos.line X.env = pure false := by rfl) (hw : swappedStores [tg] e X.env = pure none := by rfl)
    (h1 : (assignEach [tg] X.env).map (·.2) = [assign tg X.env] := by rfl) : DS X W (.Assign [tg] e pos) (fun T => wAsg (w T.xx) g T) := fun E => PS.imp (ps_asg (he.pe E) (hg E trivial) hs hw h1) fun D σ H => by
  rintro ⟨S, F, R, hR, hw, k1, k2, k3, k4, k5⟩
  refine ⟨R.xx, k5, S, F, _, hR, hw, fun d S1 v F1 H1 hw1 r1 hR1 x1 => ?_⟩
  exact ⟨S1, F1, d, _, hR1, r1, hw1, fun S2 σ2 F2 H2 q r x2 => k1 S2 σ2 F2 H2 q r (x1.trans x2)⟩
theorem ds_setX {x : Str} {pos' : Pos} (i : Nat) (he : DEX X W e w) (h : ∀ te, PE X e te → PS X (.Assign [.Name x pos'] e pos) (tAsg te (L2.gName i))) : DS X W (.Assign [.Name x pos'] e pos) (fun T => wAsg (w T.xx) (gVar i) T) := fun E => PS.imp (h _ (he.pe E)) fun D σ H => by
  rintro ⟨S, F, R, hR, hw, k1, k2, k3, k4, k5⟩
  refine ⟨R.xx, k5, S, F, _, hR, hw, fun d S1 v F1 H1 hw1 r1 hR1 x1 => ?_⟩
  exact k1 _ _ F1 H1 hw1 (hR1.set r1) x1
theorem ds_exprX (he : DEX X W e w) (hs : swapsWith e none pos.line X.env = pure false := by rfl) : DS X W (.Expr e pos) (fun T => wDrop (w T.xx) T) := fun E => PS.imp (ps_expr (he.pe E) hs) fun D σ H => by
  rintro ⟨S, F, R, hR, hw, k1, k2, k3, k4, k5⟩
  exact ⟨R.xx, k5, S, F, _, hR, hw, fun d S1 v F1 H1 hw1 r1 hR1 x1 => k1 S1 σ F1 H1 hw1 hR1 x1⟩
theorem ds_retX (he : DEX X W e w) : DS X W (.Return (some e) pos) (fun T => wRet (w T.xx) T) := fun E => PS.imp (ps_ret (he.pe E)) fun D σ H => by
  rintro ⟨S, F, R, hR, hw, k1, k2, k3, k4, k5⟩
  exact ⟨R.xx, k5, S, F, _, hR, hw, fun d S1 v F1 H1 hw1 r1 hR1 x1 => k4 d S1 v σ F1 H1 hw1 r1 hR1 x1⟩
theorem ds_ifX {wt : (Str → List (Str × D) → Sg → Prop) → WT} {t u : WS} {c : Expr} {body els : List Stmt} (hc : DTX X W c wt) (ha : DSs X W body t) (hb : DSs X W els u) : DS X W (.If c body els pos) (fun T => wIfS (wt T.xx) t u T) := fun E => PS.imp (ps_if (hc.pt E) (ha E) (hb E)) fun D σ H => by
  rintro ⟨S, F, R, hR, hw, k1, k2, k3, k4, k5⟩
  refine ⟨R.xx, k5, S, F, _, hR, hw, fun b S1 F1 H1 hw1 hR1 x1 => ?_⟩
  cases b with
  | true => exact LS.weak x1 hR1 (br_t hw1) (fun S' σ' F' H' q r x => k1 S' σ' F' H' q r (x1.trans x)) k2 k3 k4 k5
  | false => exact LS.weak x1 hR1 (br_f hw1) (fun S' σ' F' H' q r x => k1 S' σ' F' H' q r (x1.trans x)) k2 k3 k4 k5
end

/-! ### try: body, except C: suite -/
/-- the class caught is c, the one that the body raises -/
def wTry (c : Str) (body suite : WS) : WS := fun T S => body { T with xx := fun c' fs S' => c' = c ∧ suite { T with xx := fun _ _ _ => False } S' } S
section
variable {X : Cx} {W : L2.WX} {x c : Str} {C : Addr} {body suite : List Stmt} {b₀ : Stmt} {np pos pos' : Pos} {tb ts : WS}
theorem ds_try (hs : X.stack = X.env :: X.outer) (hf : X.env.frame = some X.env.locals) (hc : Names X x (.ref (clsAt X.K c))) (he : PySem.W.exmOne X.K (.ref (clsAt X.K c)) (.ref (clsAt X.K c)) = some true) (tk : Takes X W)
    (hb : ∀ (W' : L2.WX) (pn : List (Addr × Obj)) (xe : Value → Shared → Prop), Takes (X.tr pn xe) W' → PassesOwn (model X.prog X.w) X.A X.env xe → DSs (X.tr pn xe) W' body tb)
    (hsu : ∀ (W' : L2.WX) (a : Addr) (oe : Obj) (pn : List (Addr × Obj)), DSs (X.suite a ((a, oe) :: pn)) W' (b₀ :: suite) ts) :
    DS X W (.Try body [.ExceptHandler (some (.Name x np)) none (b₀ :: suite) pos'] [] [] pos) (wTry c tb ts) := fun E => PS.imp
    (ps_try_only (tb := fun W' D σ H => ∃ E', LS X.K E' W' tb D σ H) (ts := fun _ _ _ D σ H => ∃ E', LS X.K E' (fun _ _ _ _ => False) ts D σ H) hs hf hc tk
      (fun W' pn xe tk' hp => ⟨fun pins s σ H D I q => let ⟨E', q⟩ := q; ((hb W' pn xe tk' hp) E').run pins s σ H D I q⟩)
      (fun a oe cls d pn _ _ => ⟨fun pins s σ H D I q => let ⟨E', q⟩ := q; ((hsu _ a oe pn) E').run pins s σ H D I q⟩)) fun D σ H => by
  rintro ⟨S, F, R, hR, hw, k1, k2, k3, k4, k5⟩
  refine ⟨_, S, F, _, hR.enter, hw, fun S' σ' F' H' q r x => k1 S' σ' F' H' q (hR.leave r) x, fun S' σ' F' H' q r x => k2 S' σ' F' H' q (hR.leave r) x, fun S' σ' F' H' q r x => k3 S' σ' F' H' q (hR.leave r) x, fun d S' v σ' F' H' q rv r x => k4 d S' v σ' F' H' q rv (hR.leave r) x, fun c' fs S' cls dd σ' F' H' q ax r => ?_⟩
  obtain ⟨rfl, q⟩ := q
  obtain ⟨rfl, _⟩ := ax
  have x0 : Ext F F' := r.g.gF
  refine ⟨true, he, fun _ a ha => ⟨E, S', F', { R with xx := fun _ _ _ => False }, hR.leave r, ?_, fun S2 σ2 F2 H2 q r x => k1 S2 σ2 F2 H2 q r (x0.trans x), fun S2 σ2 F2 H2 q r x => k2 S2 σ2 F2 H2 q r (x0.trans x), fun S2 σ2 F2 H2 q r x => k3 S2 σ2 F2 H2 q r (x0.trans x), fun d S2 v σ2 F2 H2 q rv r x => k4 d S2 v σ2 F2 H2 q rv r (x0.trans x), fun _ _ _ _ _ _ _ _ z => z.elim⟩, fun z => nomatch z⟩
  exact q
end
end VL

set_option Elab.async false
set_option linter.all false
set_option maxRecDepth 100000
set_option maxHeartbeats 400000
/-! VL11: classes and their instances; a list sorted downwards; len(set(..)). -/
namespace VL
open PySem PySem.Spec PyProof.Rows L2
abbrev XX := Str → List (Str × D) → Sg → Prop
/-! ### fields -/
def putD (f : Str) (d : D) : List (Str × D) → List (Str × D)
  | [] => [(f, d)]
  | (g, x) :: r => if g = f then (g, d) :: r else (g, x) :: putD f d r
section
variable {K : PySem.W.Frag} {F H : Hp}
theorem fs_lookup : ∀ {vfs : List (Str × V)} {fs : List (Str × D)} {f : Str} {d : D}, vfs.map (·.1) = fs.map (·.1) → Reps K F (vfs.map (·.2)) (fs.map (·.2)) → fs.lookup f = some d → ∃ v, vfs.lookup f = some v ∧ Rep K F v d
  | [], [], _, _, _, _, h => nomatch h
  | [], _ :: _, _, _, e, _, _ => nomatch e
  | _ :: _, [], _, _, e, _, _ => nomatch e
  | (g, v) :: vfs, (g', x) :: fs, f, d, e, r, h => by
    rw [List.map_cons, List.map_cons] at e
    injection e with e1 e2
    have e1' : g = g' := e1
    subst e1'
    cases r with
    | cons r1 r2 =>
      rw [List.lookup_cons] at h ⊢
      cases q : (f == g) with
      | true =>
        rw [q] at h
        cases h
        exact ⟨v, rfl, r1⟩
      | false =>
        rw [q] at h
        exact fs_lookup e2 r2 h
theorem fs_none : ∀ {vfs : List (Str × V)} {fs : List (Str × D)} {f : Str}, vfs.map (·.1) = fs.map (·.1) → fs.lookup f = none → vfs.lookup f = none
  | [], [], _, _, _ => rfl
  | [], _ :: _, _, e, _ => nomatch e
  | _ :: _, [], _, e, _ => nomatch e
  | (g, v) :: vfs, (g', x) :: fs, f, e, h => by
    rw [List.map_cons, List.map_cons] at e
    injection e with e1 e2
    have e1' : g = g' := e1
    subst e1'
    rw [List.lookup_cons] at h ⊢
    cases q : (f == g) with
    | true =>
      rw [q] at h
      cases h
    | false =>
      rw [q] at h
      exact fs_none e2 h
theorem fs_put {f : Str} {v : V} {d : D} (rv : Rep K F v d) : ∀ {vfs : List (Str × V)} {fs : List (Str × D)}, vfs.map (·.1) = fs.map (·.1) → Reps K F (vfs.map (·.2)) (fs.map (·.2)) →
    (putF f v vfs).map (·.1) = (putD f d fs).map (·.1) ∧ Reps K F ((putF f v vfs).map (·.2)) ((putD f d fs).map (·.2))
  | [], [], _, _ => ⟨rfl, .one rv⟩
  | [], _ :: _, e, _ => nomatch e
  | _ :: _, [], e, _ => nomatch e
  | (g, u) :: vfs, (g', x) :: fs, e, r => by
    rw [List.map_cons, List.map_cons] at e
    injection e with e1 e2
    have e1' : g = g' := e1
    subst e1'
    cases r with
    | cons r1 r2 =>
      unfold putF putD
      by_cases q : g = f
      · rw [if_pos q, if_pos q]
        exact ⟨by rw [List.map_cons, List.map_cons, e2], .cons rv r2⟩
      · rw [if_neg q, if_neg q]
        obtain ⟨h1, h2⟩ := fs_put rv e2 r2
        exact ⟨by rw [List.map_cons, List.map_cons, h1], .cons r1 h2⟩
end
/-- e.f -/
def wFld (c f : Str) (w : WE) : WE := fun S R => w S fun x S1 => ∃ a fs d, x = .obj a ∧ S1.h a = some (.ins c fs) ∧ fs.lookup f = some d ∧ R d S1
/-- e.f = .. -/
def wSetF (c f : Str) (w we : WE) : WS := fun D S => we S fun d S1 => w S1 fun x S2 => ∃ a fs, x = .obj a ∧ S2.h a = some (.ins c fs) ∧ fs.length < 1000 ∧ D.nx (S2.ob a (.ins c (putD f d fs)))
/-- .. a fresh container that becomes a known object -/
def wSetFM (c f : Str) (w we : WE) : WS := fun D S => we S fun d S1 => ∀ q, S1.h q = none → w (S1.ob q (obOf d)) fun x S2 => ∃ a fs, x = .obj a ∧ S2.h a = some (.ins c fs) ∧ fs.length < 1000 ∧ D.nx (S2.ob a (.ins c (putD f (.obj q) fs)))
/-- e.f op= .. -/
def wAugF (c f : Str) (g : O2) (w we : WE) : WS := fun D S => w S fun x S1 => ∃ a fs d, x = .obj a ∧ S1.h a = some (.ins c fs) ∧ fs.lookup f = some d ∧
  we S1 fun e S2 => g d e fun z => ∃ fs', S2.h a = some (.ins c fs') ∧ fs'.length < 1000 ∧ D.nx (S2.ob a (.ins c (putD f z fs')))
/-- what is known of a class of the text: f no attribute of it -/
structure ClsT (K : PySem.W.Frag) (c : Str) : Prop where
  cls : Cls K (clsAt K c)
def NoF (K : PySem.W.Frag) (c f : Str) : Prop := NoAttr K (clsAt K c) f
section
variable {X : Cx} {Φ : En → Prop} {W : L2.WX} {o e value : Expr} {c f : Str} {pos pos' tpos : Pos} {w we : WE}
theorem de_fld (he : DE X Φ e w) (T : ClsT X.K c) (n : NoF X.K c f) (hb : attributeBase e f X.env (eval e X.env) = eval e X.env := by rfl) : DE X Φ (.Attribute e f pos) (wFld c f w) := fun E hE => PE.imp (pe_fld (he E hE) hb) fun σ H Q => by
  rintro ⟨S, F, R, hR, hw, k⟩
  refine ⟨S, F, _, hR, hw, fun x S1 v1 F1 H1 hw1 r1 hR1 x1 => ?_⟩
  obtain ⟨a, fs, d, rfl, h1, h2, q⟩ := hw1
  cases r1
  obtain ⟨dx, vfs, g1, g2, g3⟩ := (hR1.g.obs _ _ h1).1
  obtain ⟨v, q1, q2⟩ := fs_lookup g2 g3 h2
  exact ⟨a, _, dx, vfs, v, rfl, g1, T.cls, n, q1, k d S1 v F1 H1 q q2 hR1 x1⟩
theorem vlen {K : PySem.W.Frag} {F : Hp} {vfs : List (Str × V)} {fs : List (Str × D)} (e : vfs.map (·.1) = fs.map (·.1)) : vfs.length = fs.length := by
  have := congrArg List.length e
  rwa [List.length_map, List.length_map] at this
theorem ds_fld (ho : DE X Tr o w) (hv : DE X Tr value we) (T : ClsT X.K c) (n : NoF X.K c f) (hs : swapsWith value (some (.Attribute o f pos')) pos.line X.env = pure false := by rfl) : DS X W (.Assign [.Attribute o f pos'] value pos) (wSetF c f w we) := fun E => PS.imp (ps_fld (ho E trivial) (hv E trivial) hs) fun D σ H => by
  rintro ⟨S, F, R, hR, hw, k1, k2, k3, k4, k5⟩
  refine ⟨S, F, _, hR, hw, fun d S1 v1 F1 H1 hw1 r1 hR1 x1 => ?_⟩
  refine ⟨S1, F1, _, hR1, hw1, fun x S2 v2 F2 H2 hw2 r2 hR2 x2 => ?_⟩
  obtain ⟨a, fs, rfl, h1, h2, q⟩ := hw2
  cases r2
  obtain ⟨dx, vfs, g1, g2, g3⟩ := (hR2.g.obs _ _ h1).1
  obtain ⟨p1, p2⟩ := fs_put (f := f) (r1.mono x2) g2 g3
  exact ⟨a, _, dx, vfs, rfl, g1, T.cls, n, by rw [vlen (K := X.K) (F := F2) g2]; exact h2, k1 _ σ F2 _ q (hR2.obput (by rw [h1]; simp) ⟨dx, _, upd_same, p1, p2⟩) (x1.trans x2)⟩
theorem ds_fldM (ho : DE X Tr o w) (hv : DN X Tr value we) (T : ClsT X.K c) (n : NoF X.K c f) (hs : swapsWith value (some (.Attribute o f pos')) pos.line X.env = pure false := by rfl) : DS X W (.Assign [.Attribute o f pos'] value pos) (wSetFM c f w we) := fun E => PS.imp (ps_fld (ho E trivial) (hv E trivial) hs) fun D σ H => by
  rintro ⟨S, F, R, hR, hw, k1, k2, k3, k4, k5⟩
  refine ⟨S, F, _, hR, hw, fun d S1 p F1 H1 hw1 fr hR1 x1 => ?_⟩
  have ha : ObAt X.K F1 H1 p (obOf d) := by
    have z := fr.at_
    cases d <;> first | exact z | exact z.elim
  refine ⟨_, F1, _, hR1.obnew fr ha, hw1 p fr.nh, fun x S2 v2 F2 H2 hw2 r2 hR2 x2 => ?_⟩
  obtain ⟨a, fs, rfl, h1, h2, q⟩ := hw2
  cases r2
  obtain ⟨dx, vfs, g1, g2, g3⟩ := (hR2.g.obs _ _ h1).1
  obtain ⟨p1, p2⟩ := fs_put (f := f) (v := .ref p) (d := .obj p) (.obj p) g2 g3
  exact ⟨a, _, dx, vfs, rfl, g1, T.cls, n, by rw [vlen (K := X.K) (F := F2) g2]; exact h2, k1 _ σ F2 _ q (hR2.obput (by rw [h1]; simp) ⟨dx, _, upd_same, p1, p2⟩) (x1.trans x2)⟩
theorem ds_augF {op : Operator} {g : O2} (hp : OpV X (inplaceOp op) g) (ho : DE X Tr o w) (hv : DE X Tr value we) (T : ClsT X.K c) (n : NoF X.K c f) : DS X W (.AugAssign (.Attribute o f tpos) op value pos) (wAugF c f g w we) := fun E => PS.imp (ps_fldaug (ho E trivial) (hv E trivial) hp) fun D σ H => by
  rintro ⟨S, F, R, hR, hw, k1, k2, k3, k4, k5⟩
  refine ⟨S, F, _, hR, hw, fun x S1 v1 F1 H1 hw1 r1 hR1 x1 => ?_⟩
  obtain ⟨a, fs, d, rfl, h1, h2, hw1⟩ := hw1
  cases r1
  obtain ⟨dx, vfs, g1, g2, g3⟩ := (hR1.g.obs _ _ h1).1
  obtain ⟨v, q1, q2⟩ := fs_lookup g2 g3 h2
  refine ⟨a, _, dx, vfs, v, rfl, g1, T.cls, n, q1, S1, F1, _, hR1, hw1, fun e S2 v2 F2 H2 hw2 r2 hR2 x2 => ?_⟩
  refine ⟨F2, d, e, _, hR2.g.ext, q2.mono x2, r2, hw2, fun z u F' H' hz rz al => ?_⟩
  obtain ⟨fs', h3, h4, q⟩ := hz
  have hR3 := hR2.al al
  obtain ⟨dx', vfs', g1', g2', g3'⟩ := (hR3.g.obs _ _ h3).1
  obtain ⟨p1, p2⟩ := fs_put (f := f) rz g2' g3'
  exact ⟨dx', vfs', g1', by rw [vlen (K := X.K) (F := F') g2']; exact h4, k1 _ σ F' _ q (hR3.obput (by rw [h3]; simp) ⟨dx', _, upd_same, p1, p2⟩) ((x1.trans x2).trans al.xF)⟩
end

/-! ### new instances -/
/-- a new instance becomes a known object -/
theorem Rel.obmake {K : PySem.W.Frag} {E : En} {F H : Hp} {σ : L2.St} {S : Sg} {c : Str} {x dx : Addr} (R : Rel K E F H σ S) (hx : H x = none) (hd : H dx = none) (ne : dx ≠ x) :
    Rel K E F (upd (upd H dx (.own x)) x (.ins (clsAt K c) dx [])) σ (S.ob x (.ins c [])) := by
  have R1 := (R.fresh (o := .own x) hd).1
  have hx1 : (upd H dx (.own x)) x = none := by rw [upd_ne (Ne.symm ne)]; exact hx
  obtain ⟨R2, nF, nh, nE, no⟩ := R1.fresh (o := .ins (clsAt K c) dx []) hx1
  refine ⟨⟨R2.g.ext, R2.g.gF, R2.g.gN, R2.g.gH, R2.g.gP, fun b q => ?_, fun b ob q => ?_⟩, R2.len, R2.frz, fun j e' h => ?_, R2.inj⟩
  · by_cases hb : b = x
    · subst hb; exact .inr (.inl nE)
    · have q' : S.h.put x _ b ≠ none := q
      rw [Oh.put_ne hb] at q'; exact R2.g.gO b q'
  · have q' : S.h.put x _ b = some ob := q
    by_cases hb : b = x
    · subst hb
      rw [Oh.put_same] at q'; cases q'
      exact ⟨⟨dx, [], upd_same, rfl, .nil⟩, nF⟩
    · rw [Oh.put_ne hb] at q'
      exact R2.g.obs b ob q'
  · obtain ⟨q, q1, q2, q3, q4, q5⟩ := R2.own j e' h
    have nq : q ≠ x := fun z => no j e' h (z ▸ q1)
    exact ⟨q, q1, q2, q3, by show S.h.put x _ q = none; rw [Oh.put_ne nq]; exact q4, q5⟩
def wMake (c : Str) (sp : Spc) (ws : WA) : WE := fun S R => ws S fun ds S1 => ∀ a, S1.h a = none → sp (.obj a :: ds) (S1.h.put a (.ins c [])) (fun r h' => r = .non ∧ R (.obj a) ⟨S1.s, h'⟩) NX
def wMakeX (c : Str) (sp : Spc) (ws : WA) (xx : XX) : WE := fun S R => ws S fun ds S1 => ∀ a, S1.h a = none → sp (.obj a :: ds) (S1.h.put a (.ins c [])) (fun r h' => r = .non ∧ R (.obj a) ⟨S1.s, h'⟩) (fun c' fs h' => xx c' fs ⟨S1.s, h'⟩)
/-- o.m(..) -/
def wMeth (c m : Str) (sp : Spc) (w : WE) (ws : WA) : WE := fun S R => w S fun x S1 => ∃ a fs, x = .obj a ∧ S1.h a = some (.ins c fs) ∧ fs.lookup m = none ∧ ws S1 fun ds S2 => sp (.obj a :: ds) S2.h (fun r h' => R r ⟨S2.s, h'⟩) NX
def wMethX (c m : Str) (sp : Spc) (w : WE) (ws : WA) (xx : XX) : WE := fun S R => w S fun x S1 => ∃ a fs, x = .obj a ∧ S1.h a = some (.ins c fs) ∧ fs.lookup m = none ∧ ws S1 fun ds S2 => sp (.obj a :: ds) S2.h (fun r h' => R r ⟨S2.s, h'⟩) (fun c' fs h' => xx c' fs ⟨S2.s, h'⟩)
section
variable {X : Cx} {CX : CXT} {k : Nat} {f C : Addr} {fd : FuncData} {ps : List Str} {sp : Sp} {E : L2.St → XK} {x m : Str} {p pos apos : Pos} {e o : Expr} {es : List Expr} {ta : TE} {t : TA}
/-- C(..) that may raise -/
def tMakeE (C : Addr) (sp : Sp) (E : L2.St → XK) (t : TA) : TE := fun σ H Q => t σ H fun vs H1 => ∀ x dx, H1 x = none → H1 dx = none → dx ≠ x →
  sp (.ref x :: vs) (upd (upd H1 dx (.own x)) x (.ins C dx [])) (fun v H2 => v = .non ∧ Q (.ref x) H2) (E σ)
theorem run_makeE {pins : List (Addr × Obj)} {σ : L2.St} {H : Hp} {s : Shared} {Q : VK} {us : List Value} {vs : List V} (M : Mk X.K C f) (F : FnOk X.prog X.w X.K X.mg X.base CX k f fd ps sp) (hr : Room (k + 1) X.A) (hb : Binds X.K fd ps [])
    (hx : PassesAt CX X σ (E σ)) (I : Inv X pins σ H s) (r : Vals vs us)
    (h : ∀ x dx, H x = none → H dx = none → dx ≠ x → sp (.ref x :: vs) (upd (upd H dx (.own x)) x (.ins C dx [])) (fun v H2 => v = .non ∧ Q (.ref x) H2) (E σ)) :
    wpAny (model X.prog X.w) X.A (call (.ref C) us) (EP X pins σ Q) X.xe s := by
  have hq := h (s.heap.objs.size + 1) s.heap.objs.size (I.hok.fresh (Nat.le_succ _)) (I.hok.fresh (Nat.le_refl _)) (Nat.ne_of_lt (Nat.lt_succ_self _))
  have I2 := Inv.made (C := C) I
  have r2 : Vals (V.ref (s.heap.objs.size + 1) :: vs) (Value.ref (s.heap.objs.size + 1) :: us) := .cons rfl r
  have hl : (Value.ref (s.heap.objs.size + 1) :: us ++ []).length = ps.length := by
    have e := r2.length
    rw [F.len _ _ _ _ hq] at e
    rw [List.append_nil]
    exact e.symm
  have hbb := hb _ (Value.ref (s.heap.objs.size + 1) :: us) I2.kIn hl
  rw [List.append_nil] at hbb
  refine wpAny_call (make_map (f := f) I.kIn M.makes M.init (beq_iff_eq.mp M.fn) (codeAny_mono (F.run _ X.stack _ _ ⟨Value.ref (s.heap.objs.size + 1) :: us, []⟩ (Value.ref (s.heap.objs.size + 1) :: us) _ _ (E σ) (hr.make C us [])
    (I2.env0.make C us []) hbb r2 hq) fun r s' hq' => ?_))
  cases r with
  | error e => exact hx pins _ _ e s' I2 hq'
  | ok fl =>
    cases fl with
    | ret u =>
      obtain ⟨v, H', I3, rv, ev, q3⟩ := I2.after hq'
      subst ev
      exact ⟨rv, ⟨V.ref (s.heap.objs.size + 1), H', I3, rfl, q3⟩⟩
    | next => exact False.elim hq'
    | brk => exact False.elim hq'
    | cont => exact False.elim hq'
theorem pe_makeE (M : Mk X.K C f) (F : FnOk X.prog X.w X.K X.mg X.base CX k f fd ps sp) (hr : Room (k + 1) X.A) (hg : Gl X x) (hm : X.mg x = some (.ref C)) (hb : Binds X.K fd ps []) (hx : ∀ σ, PassesAt CX X σ (E σ))
    (ha : PA X (e :: es) t) (hdb : (x == ("__debug__" : Str)) = false := by decide) (he : starEach (e :: es) X.env = (false, eval e X.env) :: starEach es X.env := by rfl) (hpl : (backTo pos (starEach es X.env)).any (·.1) = false := by rfl) :
    PE X (.Call (.Name x p) (e :: es) [] pos) (tMakeE C sp E t) := by
  refine ⟨fun pins s σ H Q I h => ?_⟩
  refine wpAny_Call_Name_kw (ld_glob I hg hm ?_ hdb)
  refine PySem.W.callWith_K (h₀ := X.base) I.ok.mod.kin M.kp (thn (ha.run pos pins s σ H _ I h) fun us s1 ⟨vs, H1, I1, r, q⟩ => ⟨I1.kIn, ?_⟩) he hpl
  exact run_makeE M F hr hb (hx σ) I1 r q
theorem pe_makeE0 (M : Mk X.K C f) (F : FnOk X.prog X.w X.K X.mg X.base CX k f fd ps sp) (hr : Room (k + 1) X.A) (hg : Gl X x) (hm : X.mg x = some (.ref C)) (hb : Binds X.K fd ps []) (hx : ∀ σ, PassesAt CX X σ (E σ))
    (hdb : (x == ("__debug__" : Str)) = false := by decide) : PE X (.Call (.Name x p) [] [] pos) (tMakeE C sp E tNil) := by
  refine ⟨fun pins s σ H Q I h => ?_⟩
  refine wpAny_Call_Name_kw (ld_glob I hg hm ?_ hdb)
  exact PySem.W.callWith_K0 I.kIn M.kp (run_makeE (us := []) M F hr hb (hx σ) I .nil h)
def tMethE (C : Addr) (m : Str) (sp : Sp) (E : L2.St → XK) (ta : TE) (t : TA) : TE := fun σ H Q => ta σ H fun x H1 => ∃ a dx fs, x = .ref a ∧ H1 a = some (.ins C dx fs) ∧ fs.lookup m = none ∧
  t σ H1 fun vs H2 => sp (x :: vs) H2 Q (E σ)
theorem pe_methE {pl : Sem Bool} (he : PE X o ta) (c : Cls X.K C) (hm : Meth X.K C m f) (F : FnOk X.prog X.w X.K X.mg X.base CX k f fd ps sp) (hr : Room k X.A) (hb : Binds X.K fd ps []) (hx : ∀ σ, PassesAt CX X σ (E σ)) (ha : PA X (e :: es) t)
    (hst : starEach (e :: es) X.env = (false, eval e X.env) :: starEach es X.env := by rfl) (hpl : (backTo pos (starEach es X.env)).any (·.1) = false := by rfl)
    (ht : eval (.Call (.Attribute o m apos) (e :: es) [] pos) X.env = (do
      let ov ← eval o X.env
      standAt apos.atName
      let (f, first) ← holding [ov] (getMethod ov m pl)
      callWith pos f first (backTo pos (starEach (e :: es) X.env)) (backToKw pos (keywordEach [] X.env))) := by rfl) :
    PE X (.Call (.Attribute o m apos) (e :: es) [] pos) (tMethE C m sp E ta t) := by
  refine ⟨fun pins s σ H Q I h => ?_⟩
  refine PySem.W.methodCall_KW (pl := pl) (thn (he.run pins s σ H _ I h) fun u s1 ⟨x, H1, I1, rx, a, dx, fs, ex, ea, l, q⟩ => ?_) ht
  subst ex
  obtain rfl : u = Value.ref a := rx
  refine getmeth_ok I1 ea c hm l ?_
  refine PySem.W.callWith_K (first := [.ref a]) (h₀ := X.base) I.ok.mod.kin hm.kp (thn (ha.run pos pins s1 σ H1 _ I1 q) fun us s2 ⟨vs, H2, I2, r, q2⟩ => ⟨I2.kIn, ?_⟩) hst hpl
  exact run_fnS (us := .ref a :: us) (vs := .ref a :: vs) F hr hb (hx σ) I2 (.cons rfl r) q2
theorem pe_methE0 {pl : Sem Bool} (he : PE X o ta) (c : Cls X.K C) (hm : Meth X.K C m f) (F : FnOk X.prog X.w X.K X.mg X.base CX k f fd ps sp) (hr : Room k X.A) (hb : Binds X.K fd ps []) (hx : ∀ σ, PassesAt CX X σ (E σ))
    (ht : eval (.Call (.Attribute o m apos) [] [] pos) X.env = (do
      let ov ← eval o X.env
      standAt apos.atName
      let (f, first) ← holding [ov] (getMethod ov m pl)
      callWith pos f first (backTo pos (starEach [] X.env)) (backToKw pos (keywordEach [] X.env))) := by rfl) :
    PE X (.Call (.Attribute o m apos) [] [] pos) (tMethE C m sp E ta tNil) := by
  refine ⟨fun pins s σ H Q I h => ?_⟩
  refine PySem.W.methodCall_KW (pl := pl) (thn (he.run pins s σ H _ I h) fun u s1 ⟨x, H1, I1, rx, a, dx, fs, ex, ea, l, q⟩ => ?_) ht
  subst ex
  obtain rfl : u = Value.ref a := rx
  refine getmeth_ok I1 ea c hm l ?_
  exact PySem.W.callWith_K0 (first := [.ref a]) I1.kIn hm.kp (run_fnS (us := [.ref a]) (vs := [.ref a]) F hr hb (hx σ) I1 (.cons rfl .nil) q)
end
theorem pass0S {X : Cx} (σ : L2.St) : PassesAt CX0 X σ E0 := fun _ _ _ _ _ _ h => h.elim
theorem passLS {X : Cx} (σ : L2.St) : PassesAt (L2.CX X.prog X.w) X σ E0 := fun pins H s e s' I c => passL pins σ H s e s' I c
section
variable {X : Cx} {Φ : En → Prop} {CX : CXT} {k n : Nat} {f : Addr} {fd : FuncData} {ps : List Str} {spc : Spc} {x c m : Str} {p pos apos : Pos} {e o : Expr} {es : List Expr} {w : WE} {ws : WA} {W : L2.WX} {xx : XX}
theorem make_read {K : PySem.W.Frag} {E : En} {σ : L2.St} {H : Hp} {Q : VK} {sp : Spc} {EE : L2.St → XK} (sq : Sp) (hsq : ∀ vs H Q (E2 : XK) F ds h R Y, ds.length = n + 1 → Ext F H → Reps K F vs ds → (∀ a ob, h a = some ob → ObAt K F H a ob ∧ F a = none) → sp ds h R Y →
      (∀ r h' v F' H', R r h' → Rep K F' v r → Gr K ⟨F, H, h, fun _ => False⟩ F' H' h' → Q v H') → (∀ c fs h' F' H' cls dd, Y c fs h' → XAt K F' c fs cls dd → Gr K ⟨F, H, h, fun _ => False⟩ F' H' h' → E2 cls dd H') → sq vs H Q E2)
    (Y : XX) (hy : ∀ c fs S' cls dd F' H', Y c fs S' → XAt K F' c fs cls dd → Rel K E F' H' σ S' → EE σ cls dd H')
    (hq : LE K E (fun S R => ws S fun ds S1 => ∀ a, S1.h a = none → sp (.obj a :: ds) (S1.h.put a (.ins c [])) (fun r h' => r = .non ∧ R (.obj a) ⟨S1.s, h'⟩) (fun c' fs h' => Y c' fs ⟨S1.s, h'⟩)) σ H Q) :
    tMakeE (clsAt K c) sq EE (LA K E n ws) σ H Q := by
  obtain ⟨S, F, R, hR, hw, k⟩ := hq
  refine ⟨S, F, _, hR, hw, fun ds S1 vs F1 H1 hw1 l1 r1 hR1 x1 => fun x dx hx hd ne => ?_⟩
  have hR2 := hR1.obmake (c := c) hx hd ne
  refine hsq _ _ _ _ F1 (.obj x :: ds) _ _ _ (by rw [List.length_cons, l1]) hR2.g.ext (.cons (.obj x) r1) hR2.g.obs (hw1 x (hR1.g.noob hx)) (fun r h' v F' H' hr rv g => ?_) fun c fs h' F' H' cls dd q ax g => hy c fs _ cls dd F' H' q ax (hR2.after g)
  obtain ⟨rfl, hr⟩ := hr
  cases rv
  exact ⟨rfl, k (.obj x) ⟨S1.s, h'⟩ _ F' H' hr (.obj x) (hR2.after g) (x1.trans g.gF)⟩
theorem de_make (M : Mk X.K (clsAt X.K c) f) (F : FnOk X.prog X.w X.K X.mg X.base CX0 k f fd ps (spOf X.K (n + 1) spc)) (hr : Room (k + 1) X.A) (hg : Gl X x) (hm : X.mg x = some (.ref (clsAt X.K c))) (hb : Binds X.K fd ps []) (ha : DA X Φ (e :: es) n ws)
    (hdb : (x == ("__debug__" : Str)) = false := by decide) (he : starEach (e :: es) X.env = (false, eval e X.env) :: starEach es X.env := by rfl) (hpl : (backTo pos (starEach es X.env)).any (·.1) = false := by rfl) :
    DE X Φ (.Call (.Name x p) (e :: es) [] pos) (wMake c spc ws) := fun E hE => PE.imp (pe_makeE M F hr hg hm hb (fun σ => pass0S σ) (ha E hE) hdb he hpl) fun σ H Q hq =>
  make_read (Y := fun _ _ _ => False) (EE := fun _ => E0) (spOf X.K (n + 1) spc) (fun vs H Q E2 F ds h R Y a1 a2 a3 a4 a5 a6 a7 => ⟨F, ds, h, R, a1, a2, a3, a4, a5, a6⟩) (fun _ _ _ _ _ _ _ z => z.elim) hq
theorem de_make0 (M : Mk X.K (clsAt X.K c) f) (F : FnOk X.prog X.w X.K X.mg X.base CX0 k f fd ps (spOf X.K 1 spc)) (hr : Room (k + 1) X.A) (hg : Gl X x) (hm : X.mg x = some (.ref (clsAt X.K c))) (hb : Binds X.K fd ps [])
    (hdb : (x == ("__debug__" : Str)) = false := by decide) :
    DE X Φ (.Call (.Name x p) [] [] pos) (wMake c spc wNil) := fun E hE => PE.imp (pe_makeE0 M F hr hg hm hb (fun σ => pass0S σ) hdb) fun σ H Q hq => by
  have z := make_read (n := 0) (Y := fun _ _ _ => False) (EE := fun _ => E0) (spOf X.K 1 spc) (fun vs H Q E2 F ds h R Y a1 a2 a3 a4 a5 a6 a7 => ⟨F, ds, h, R, a1, a2, a3, a4, a5, a6⟩) (fun _ _ _ _ _ _ _ z => z.elim) hq
  obtain ⟨S, F, R, hR, hw, k⟩ := z
  exact k [] S [] F H hw rfl .nil hR (.refl _)
/-- a class whose __init__ may raise, where it does not -/
theorem de_makeL (M : Mk X.K (clsAt X.K c) f) (F : FnOk X.prog X.w X.K X.mg X.base (L2.CX X.prog X.w) k f fd ps (spOfX X.K (n + 1) spc)) (hr : Room (k + 1) X.A) (hg : Gl X x) (hm : X.mg x = some (.ref (clsAt X.K c))) (hb : Binds X.K fd ps []) (ha : DA X Φ (e :: es) n ws)
    (hdb : (x == ("__debug__" : Str)) = false := by decide) (he : starEach (e :: es) X.env = (false, eval e X.env) :: starEach es X.env := by rfl) (hpl : (backTo pos (starEach es X.env)).any (·.1) = false := by rfl) :
    DE X Φ (.Call (.Name x p) (e :: es) [] pos) (wMake c spc ws) := fun E hE => PE.imp (pe_makeE M F hr hg hm hb (fun σ => passLS σ) (ha E hE) hdb he hpl) fun σ H Q hq =>
  make_read (sp := spc) (Y := fun _ _ _ => False) (EE := fun _ => E0) (spOfX X.K (n + 1) spc) (fun vs H Q E2 F ds h R Y a1 a2 a3 a4 a5 a6 a7 => ⟨F, ds, h, R, Y, a1, a2, a3, a4, a5, a6, a7⟩) (fun _ _ _ _ _ _ _ z => z.elim) hq
theorem de_makeX (M : Mk X.K (clsAt X.K c) f) (F : FnOk X.prog X.w X.K X.mg X.base (L2.CX X.prog X.w) k f fd ps (spOfX X.K (n + 1) spc)) (tk : Takes X W) (hx : ∀ E, Φ E → Px X.K W xx E) (hr : Room (k + 1) X.A) (hg : Gl X x) (hm : X.mg x = some (.ref (clsAt X.K c))) (hb : Binds X.K fd ps []) (ha : DA X Φ (e :: es) n ws)
    (hdb : (x == ("__debug__" : Str)) = false := by decide) (he : starEach (e :: es) X.env = (false, eval e X.env) :: starEach es X.env := by rfl) (hpl : (backTo pos (starEach es X.env)).any (·.1) = false := by rfl) :
    DE X Φ (.Call (.Name x p) (e :: es) [] pos) (wMakeX c spc ws xx) := fun E hE => PE.imp (pe_makeE M F hr hg hm hb (fun σ => passAt tk σ) (ha E hE) hdb he hpl) fun σ H Q hq =>
  make_read (sp := spc) (Y := xx) (EE := L2.WE W) (spOfX X.K (n + 1) spc) (fun vs H Q E2 F ds h R Y a1 a2 a3 a4 a5 a6 a7 => ⟨F, ds, h, R, Y, a1, a2, a3, a4, a5, a6, a7⟩) (fun c' fs S' cls dd F' H' q ax r => hx E hE c' fs S' cls dd σ F' H' q ax r) hq
theorem meth_read {K : PySem.W.Frag} {E : En} {σ : L2.St} {H : Hp} {Q : VK} {sp : Spc} {EE : L2.St → XK} (sq : Sp) (hsq : ∀ vs H Q (E2 : XK) F ds h R Y, ds.length = n + 1 → Ext F H → Reps K F vs ds → (∀ a ob, h a = some ob → ObAt K F H a ob ∧ F a = none) → sp ds h R Y →
      (∀ r h' v F' H', R r h' → Rep K F' v r → Gr K ⟨F, H, h, fun _ => False⟩ F' H' h' → Q v H') → (∀ c fs h' F' H' cls dd, Y c fs h' → XAt K F' c fs cls dd → Gr K ⟨F, H, h, fun _ => False⟩ F' H' h' → E2 cls dd H') → sq vs H Q E2)
    (Y : XX) (hy : ∀ c fs S' cls dd F' H', Y c fs S' → XAt K F' c fs cls dd → Rel K E F' H' σ S' → EE σ cls dd H')
    (hq : LE K E (fun S R => w S fun x S1 => ∃ a fs, x = .obj a ∧ S1.h a = some (.ins c fs) ∧ fs.lookup m = none ∧ ws S1 fun ds S2 => sp (.obj a :: ds) S2.h (fun r h' => R r ⟨S2.s, h'⟩) (fun c' fs h' => Y c' fs ⟨S2.s, h'⟩)) σ H Q) :
    tMethE (clsAt K c) m sq EE (LE K E w) (LA K E n ws) σ H Q := by
  obtain ⟨S, F, R, hR, hw, k⟩ := hq
  refine ⟨S, F, _, hR, hw, fun x S1 v F1 H1 hw1 r1 hR1 x1 => ?_⟩
  obtain ⟨a, fs, rfl, h1, h2, hw1⟩ := hw1
  cases r1
  obtain ⟨dx, vfs, g1, g2, g3⟩ := (hR1.g.obs _ _ h1).1
  refine ⟨a, dx, vfs, rfl, g1, fs_none g2 h2, S1, F1, _, hR1, hw1, fun ds S2 vs F2 H2 hw2 l2 r2 hR2 x2 => ?_⟩
  exact hsq _ _ _ _ F2 (.obj a :: ds) _ _ _ (by rw [List.length_cons, l2]) hR2.g.ext (.cons (.obj a) r2) hR2.g.obs hw2 (fun r h' v F' H' hr rv g => k r _ v F' H' hr rv (hR2.after g) ((x1.trans x2).trans g.gF)) fun c fs h' F' H' cls dd q ax g => hy c fs _ cls dd F' H' q ax (hR2.after g)
theorem meth_read0 {K : PySem.W.Frag} {C : Addr} {E : En} {EE : L2.St → XK} {σ : L2.St} {H : Hp} {Q : VK} {sq : Sp} (h : tMethE C m sq EE (LE K E w) (LA K E 0 wNil) σ H Q) : tMethE C m sq EE (LE K E w) tNil σ H Q := by
  obtain ⟨S, F, R, hR, hw, k⟩ := h
  refine ⟨S, F, R, hR, hw, fun d S' v F' H' q r hR' x => ?_⟩
  obtain ⟨a, dx, fs, h1, h2, h3, S2, F2, R2, hR2, hw2, k2⟩ := k d S' v F' H' q r hR' x
  exact ⟨a, dx, fs, h1, h2, h3, k2 [] S2 [] F2 H' hw2 rfl .nil hR2 (.refl _)⟩
theorem de_meth (he : DE X Φ o w) (T : ClsT X.K c) (hm : Meth X.K (clsAt X.K c) m f) (F : FnOk X.prog X.w X.K X.mg X.base CX0 k f fd ps (spOf X.K (n + 1) spc)) (hr : Room k X.A) (hb : Binds X.K fd ps []) (ha : DA X Φ (e :: es) n ws) {pl : Sem Bool}
    (hst : starEach (e :: es) X.env = (false, eval e X.env) :: starEach es X.env := by rfl) (hpl : (backTo pos (starEach es X.env)).any (·.1) = false := by rfl)
    (ht : eval (.Call (.Attribute o m apos) (e :: es) [] pos) X.env = (do
      let ov ← eval o X.env
      standAt apos.atName
      let (f, first) ← holding [ov] (getMethod ov m pl)
      callWith pos f first (backTo pos (starEach (e :: es) X.env)) (backToKw pos (keywordEach [] X.env))) := by rfl) :
    DE X Φ (.Call (.Attribute o m apos) (e :: es) [] pos) (wMeth c m spc w ws) := fun E hE => PE.imp (pe_methE (he E hE) T.cls hm F hr hb (fun σ => pass0S σ) (ha E hE) hst hpl ht) fun σ H Q hq =>
  meth_read (sp := fun ds h R _ => spc ds h R NX) (Y := fun _ _ _ => False) (EE := fun _ => E0) (spOf X.K (n + 1) spc) (fun vs H Q E2 F ds h R Y a1 a2 a3 a4 a5 a6 a7 => ⟨F, ds, h, R, a1, a2, a3, a4, a5, a6⟩) (fun _ _ _ _ _ _ _ z => z.elim) hq
theorem de_methL (he : DE X Φ o w) (T : ClsT X.K c) (hm : Meth X.K (clsAt X.K c) m f) (F : FnOk X.prog X.w X.K X.mg X.base (L2.CX X.prog X.w) k f fd ps (spOfX X.K (n + 1) spc)) (hr : Room k X.A) (hb : Binds X.K fd ps []) (ha : DA X Φ (e :: es) n ws) {pl : Sem Bool}
    (hst : starEach (e :: es) X.env = (false, eval e X.env) :: starEach es X.env := by rfl) (hpl : (backTo pos (starEach es X.env)).any (·.1) = false := by rfl)
    (ht : eval (.Call (.Attribute o m apos) (e :: es) [] pos) X.env = (do
      let ov ← eval o X.env
      standAt apos.atName
      let (f, first) ← holding [ov] (getMethod ov m pl)
      callWith pos f first (backTo pos (starEach (e :: es) X.env)) (backToKw pos (keywordEach [] X.env))) := by rfl) :
    DE X Φ (.Call (.Attribute o m apos) (e :: es) [] pos) (wMeth c m spc w ws) := fun E hE => PE.imp (pe_methE (he E hE) T.cls hm F hr hb (fun σ => passLS σ) (ha E hE) hst hpl ht) fun σ H Q hq =>
  meth_read (sp := spc) (Y := fun _ _ _ => False) (EE := fun _ => E0) (spOfX X.K (n + 1) spc) (fun vs H Q E2 F ds h R Y a1 a2 a3 a4 a5 a6 a7 => ⟨F, ds, h, R, Y, a1, a2, a3, a4, a5, a6, a7⟩) (fun _ _ _ _ _ _ _ z => z.elim) hq
theorem de_methX (he : DE X Φ o w) (T : ClsT X.K c) (hm : Meth X.K (clsAt X.K c) m f) (F : FnOk X.prog X.w X.K X.mg X.base (L2.CX X.prog X.w) k f fd ps (spOfX X.K (n + 1) spc)) (tk : Takes X W) (hx : ∀ E, Φ E → Px X.K W xx E) (hr : Room k X.A) (hb : Binds X.K fd ps []) (ha : DA X Φ (e :: es) n ws) {pl : Sem Bool}
    (hst : starEach (e :: es) X.env = (false, eval e X.env) :: starEach es X.env := by rfl) (hpl : (backTo pos (starEach es X.env)).any (·.1) = false := by rfl)
    (ht : eval (.Call (.Attribute o m apos) (e :: es) [] pos) X.env = (do
      let ov ← eval o X.env
      standAt apos.atName
      let (f, first) ← holding [ov] (getMethod ov m pl)
      callWith pos f first (backTo pos (starEach (e :: es) X.env)) (backToKw pos (keywordEach [] X.env))) := by rfl) :
    DE X Φ (.Call (.Attribute o m apos) (e :: es) [] pos) (wMethX c m spc w ws xx) := fun E hE => PE.imp (pe_methE (he E hE) T.cls hm F hr hb (fun σ => passAt tk σ) (ha E hE) hst hpl ht) fun σ H Q hq =>
  meth_read (sp := spc) (Y := xx) (EE := L2.WE W) (spOfX X.K (n + 1) spc) (fun vs H Q E2 F ds h R Y a1 a2 a3 a4 a5 a6 a7 => ⟨F, ds, h, R, Y, a1, a2, a3, a4, a5, a6, a7⟩) (fun c' fs S' cls dd F' H' q ax r => hx E hE c' fs S' cls dd σ F' H' q ax r) hq
theorem de_meth0 (he : DE X Φ o w) (T : ClsT X.K c) (hm : Meth X.K (clsAt X.K c) m f) (F : FnOk X.prog X.w X.K X.mg X.base CX0 k f fd ps (spOf X.K 1 spc)) (hr : Room k X.A) (hb : Binds X.K fd ps []) {pl : Sem Bool}
    (ht : eval (.Call (.Attribute o m apos) [] [] pos) X.env = (do
      let ov ← eval o X.env
      standAt apos.atName
      let (f, first) ← holding [ov] (getMethod ov m pl)
      callWith pos f first (backTo pos (starEach [] X.env)) (backToKw pos (keywordEach [] X.env))) := by rfl) :
    DE X Φ (.Call (.Attribute o m apos) [] [] pos) (wMeth c m spc w wNil) := fun E hE => PE.imp (pe_methE0 (he E hE) T.cls hm F hr hb (fun σ => pass0S σ) ht) fun σ H Q hq =>
  meth_read0 (meth_read (sp := fun ds h R _ => spc ds h R NX) (Y := fun _ _ _ => False) (EE := fun _ => E0) (spOf X.K 1 spc) (fun vs H Q E2 F ds h R Y a1 a2 a3 a4 a5 a6 a7 => ⟨F, ds, h, R, a1, a2, a3, a4, a5, a6⟩) (fun _ _ _ _ _ _ _ z => z.elim) hq)
theorem de_methL0 (he : DE X Φ o w) (T : ClsT X.K c) (hm : Meth X.K (clsAt X.K c) m f) (F : FnOk X.prog X.w X.K X.mg X.base (L2.CX X.prog X.w) k f fd ps (spOfX X.K 1 spc)) (hr : Room k X.A) (hb : Binds X.K fd ps []) {pl : Sem Bool}
    (ht : eval (.Call (.Attribute o m apos) [] [] pos) X.env = (do
      let ov ← eval o X.env
      standAt apos.atName
      let (f, first) ← holding [ov] (getMethod ov m pl)
      callWith pos f first (backTo pos (starEach [] X.env)) (backToKw pos (keywordEach [] X.env))) := by rfl) :
    DE X Φ (.Call (.Attribute o m apos) [] [] pos) (wMeth c m spc w wNil) := fun E hE => PE.imp (pe_methE0 (he E hE) T.cls hm F hr hb (fun σ => passLS σ) ht) fun σ H Q hq =>
  meth_read0 (meth_read (sp := spc) (Y := fun _ _ _ => False) (EE := fun _ => E0) (spOfX X.K 1 spc) (fun vs H Q E2 F ds h R Y a1 a2 a3 a4 a5 a6 a7 => ⟨F, ds, h, R, Y, a1, a2, a3, a4, a5, a6, a7⟩) (fun _ _ _ _ _ _ _ z => z.elim) hq)
theorem de_methX0 (he : DE X Φ o w) (T : ClsT X.K c) (hm : Meth X.K (clsAt X.K c) m f) (F : FnOk X.prog X.w X.K X.mg X.base (L2.CX X.prog X.w) k f fd ps (spOfX X.K 1 spc)) (tk : Takes X W) (hx : ∀ E, Φ E → Px X.K W xx E) (hr : Room k X.A) (hb : Binds X.K fd ps []) {pl : Sem Bool}
    (ht : eval (.Call (.Attribute o m apos) [] [] pos) X.env = (do
      let ov ← eval o X.env
      standAt apos.atName
      let (f, first) ← holding [ov] (getMethod ov m pl)
      callWith pos f first (backTo pos (starEach [] X.env)) (backToKw pos (keywordEach [] X.env))) := by rfl) :
    DE X Φ (.Call (.Attribute o m apos) [] [] pos) (wMethX c m spc w wNil xx) := fun E hE => PE.imp (pe_methE0 (he E hE) T.cls hm F hr hb (fun σ => passAt tk σ) ht) fun σ H Q hq =>
  meth_read0 (meth_read (sp := spc) (Y := xx) (EE := L2.WE W) (spOfX X.K 1 spc) (fun vs H Q E2 F ds h R Y a1 a2 a3 a4 a5 a6 a7 => ⟨F, ds, h, R, Y, a1, a2, a3, a4, a5, a6, a7⟩) (fun c' fs S' cls dd F' H' q ax r => hx E hE c' fs S' cls dd σ F' H' q ax r) hq)
end
/-! ### x.sort(reverse=True), x owns its list of ints -/
def rSortR : V → List V → Hp → VK → Prop := fun x zs H Q => ∃ (a : Addr) (ns : List Int), x = V.ref a ∧ zs = [.bl true] ∧ H a = some (.lst (ns.map V.int)) ∧ ∀ ns' : List Int, ns'.Perm ns → ns'.Pairwise (· ≥ ·) → Q .non (upd H a (.lst (ns'.map V.int)))
theorem mt_sortR {X : Cx} : MtK0 X "list.sort" [Str.ofString "reverse"] rSortR := by
  intro pins s σ H x zs v ws Q I rx rz h
  obtain ⟨a, ns, rfl, rfl, ha, q⟩ := h
  cases rx
  obtain ⟨w1, rfl, e1⟩ := vals1 rz
  obtain rfl : w1 = Value.bool true := e1
  obtain ⟨hz, its, n, rv, hob⟩ := I.hok a _ ha
  have hi := rv.ints
  refine PyProof.Rows.wpAny_call_entry_kw PyProof.Rows.slot_list_sort ⟨_, hob, rfl⟩ PyProof.Rows.entry_list_sort
    (SrtR.list_sort_ordR (b := true) SrtO.swo_int hob (by rw [← rv.length]; exact hz) (fun h2 => SrtO.ints_sortable hi h2) fun out h1 h2 => ⟨.none, rfl, ?_⟩) (PyProof.Rows.args_list_sort_rev _ _)
  obtain ⟨ns', k1, k2, k3⟩ := SrtR.ints_outR hi h1 h2
  obtain ⟨ep, he'⟩ := PyProof.Rows.sortedHeap_at (vs := its) (out := out.toArray.reverse) hob
  have hlen : (ns'.map V.int).length ≤ sizeLine := by
    rw [List.length_map, k2.length_eq]
    rw [List.length_map] at hz
    exact hz
  refine ⟨.non, upd H a (.lst (ns'.map V.int)), I.write (e := a) (t' := s.toks) (by rw [ha]; trivial) (.inl rfl) (fun b u hb hu => ?_) ⟨_, he'⟩ ⟨hlen, _, ep, vals_of_ints k1, ?_⟩, rfl, q ns' k2 k3⟩
  · rw [PyProof.Rows.sortedHeap_old hb (Heap.lt_size hu)]; exact hu
  · have : ((if true = true then out.toArray.reverse else out.toArray).toList).toArray = out.toArray.reverse := by simp
    rw [this]
    exact he'
def wSortR (i : Nat) : WS := fun D S => ∃ ns : List Int, S.s[i]? = some (.o (.lst (ns.map .int))) ∧ ∀ ns' : List Int, ns'.Perm ns → ns'.Pairwise (· ≥ ·) → D.nx (S.st i (.o (.lst (ns'.map .int))))
theorem ds_sortR {X : Cx} {W : L2.WX} {x : Str} {px apos cpos pos kp cp : Pos} {j : Nat} (l : Nat) (hx : PE X (.Name x px) (tVar l))
    (h : ∀ to tk, PE X (.Name x px) to → PK X [⟨some "reverse", .Constant (.bool true) j cp, kp⟩] tk → PE X (.Call (.Attribute (.Name x px) "sort" apos) [] [⟨some "reverse", .Constant (.bool true) j cp, kp⟩] cpos) (tBMK0 X.K "list" rSortR to tk))
    (hs : swapsWith (.Call (.Attribute (.Name x px) "sort" apos) [] [⟨some "reverse", .Constant (.bool true) j cp, kp⟩] cpos) none pos.line X.env = pure false := by rfl) :
    DS X W (.Expr (.Call (.Attribute (.Name x px) "sort" apos) [] [⟨some "reverse", .Constant (.bool true) j cp, kp⟩] cpos) pos) (wSortR l) := fun E => PS.imp (ps_expr (h _ _ hx (pk_cons pe_bl pk_nil)) hs) fun D σ H => by
  rintro ⟨S, F, R, hR, ⟨ns, he, hw⟩, k1, k2, k3, k4, k5⟩
  obtain ⟨p, h0, ⟨vs0, q0, r0⟩, _⟩ := hR.own l _ he
  have e := r0.ints
  subst e
  refine ⟨_, h0, .inl ⟨rfl, _, .of q0⟩, p, ns, rfl, rfl, q0, fun ns' h1 h2 => ?_⟩
  exact k1 _ _ F _ (hw ns' h1 h2) (hR.mut he h0 ⟨_, upd_same, Reps.ofInts _⟩) (.refl _)
end VL

set_option Elab.async false
set_option linter.all false
set_option maxRecDepth 100000
set_option maxHeartbeats 400000
/-! VL12: len(set(a list of tuples of ints)). -/
namespace VL
open PySem PySem.Spec PyProof.Rows L2
def tupI (ns : List Int) : D := .tup (ns.map .int)
theorem reps_tups {K : PySem.W.Frag} {F : Hp} : ∀ {vs : List V} {ks : List (List Int)}, Reps K F vs (ks.map tupI) → ∃ as : List (Addr × List Int), vs = as.map (fun p => V.ref p.1) ∧ as.map (·.2) = ks ∧ ∀ p ∈ as, SqT K F p.1 (p.2.map V.int)
  | _, [], .nil => ⟨[], rfl, rfl, fun _ h => nomatch h⟩
  | _, k :: ks, .cons r t => by
    obtain ⟨as, h1, h2, h3⟩ := reps_tups t
    cases r with
    | tup q s =>
      rename_i a vs
      have e := s.ints
      subst e
      refine ⟨(a, k) :: as, by rw [h1]; rfl, by rw [List.map_cons, h2], fun p hp => ?_⟩
      rcases List.mem_cons.mp hp with rfl | hp
      · exact q
      · exact h3 p hp
/-- len(set(e)) -/
def wLenSet (w : WE) : WE := fun S R => w S fun d S1 => ∃ ks : List (List Int), d = .lst (ks.map tupI) ∧ ks.length < 64 ∧ ∀ L : List (List Int), L.Nodup → (∀ x, x ∈ L ↔ x ∈ ks) → R (.int (L.length : Nat)) S1
def tLenSetT (K : PySem.W.Frag) (ta : TE) : TE := fun σ H Q => ta σ H fun x H1 => ∃ (l : Addr) (ks : List (Addr × List Int)), x = V.ref l ∧ SqL K H1 l (ks.map fun p => V.ref p.1) ∧ (∀ p ∈ ks, SqT K H1 p.1 (p.2.map V.int)) ∧ ks.length < 64 ∧
  ∀ L : List (List Int), L.Nodup → (∀ y, y ∈ L ↔ y ∈ ks.map (·.2)) → Q (.int (L.length : Nat)) H1
theorem pe_lenSetT {X : Cx} {a : Expr} {ta : TE} {p p2 q pos : Pos} (hu : X.A.units + 64 < cLine) (hg : Gl X "len") (hm : X.mg "len" = none) (hg2 : Gl X "set") (hm2 : X.mg "set" = none) (ha : PE X a ta) (hc : X.calm = true := by rfl)
    (na : starEach [a] X.env = (false, eval a X.env) :: starEach [] X.env := by rfl) : PE X (.Call (.Name "len" p) [.Call (.Name "set" p2) [a] [] q] [] pos) (tLenSetT X.K ta) := by
  refine ⟨fun pins s σ H Q I h => ?_⟩
  refine Call_ (ld_blt I hg hm boot_len ?_)
  refine PyProof.Rows.callWith_builtin1 (PyProof.Rows.args_cons ?_ rfl) rfl rfl
  refine Call_ (ld_blt I hg2 hm2 boot_set ?_)
  refine PyProof.Rows.callWith_type1 (PyProof.Rows.args_cons (thn (ha.run pins s σ H _ I h) fun v s1 ⟨x, H1, I1, r1, q1⟩ => PyProof.Rows.args_nil ?_) na) na rfl
  obtain ⟨l, ks, rfl, hq, hk, hf, q1⟩ := q1
  cases r1
  obtain ⟨its, rv, pl, hz⟩ := I1.list hq
  refine call_set_tups (P := X.prog) (w := X.w) ks (I1.ok.hd hc) pl.isList (by simpa using refs_of_vals rv) (fun p hp => I1.isT (hk p hp)) hf (by omega) fun h' tk L es ep t R g k => ?_
  refine PyProof.Rows.args_nil ?_
  obtain ⟨o, ho, hex, hd⟩ := R.ob
  have hs : es.size = L.length := R.size (s := { s1 with heap := h', toks := tk })
  have I2 : Inv X pins σ H1 { s1 with heap := h', toks := tk } := I1.kept fun b o e => k b o e
  refine call_len_set ho hex hd (R.fits (s := { s1 with heap := h', toks := tk })) (by have := R.few; omega) ⟨.int (L.length : Nat), H1, I2.tok _, ⟨_, by rw [hs]⟩, ?_⟩
  have := q1 (L.map (·.2)) R.nd fun y => ⟨fun hy => ?_, fun hy => ?_⟩
  · rwa [List.length_map] at this
  · obtain ⟨p, hp, rfl⟩ := List.mem_map.mp hy
    exact List.mem_map.mpr ⟨p, List.mem_of_mem_take (g.sub p hp), rfl⟩
  · obtain ⟨p, hp, rfl⟩ := List.mem_map.mp hy
    exact g.all p (by rw [List.take_length]; exact hp)
theorem de_lenSet {X : Cx} {Φ : En → Prop} {a : Expr} {w : WE} {p p2 q pos : Pos} (hu : X.A.units + 64 < cLine) (hg : Gl X "len") (hm : X.mg "len" = none) (hg2 : Gl X "set") (hm2 : X.mg "set" = none) (ha : DE X Φ a w) (hc : X.calm = true := by rfl)
    (na : starEach [a] X.env = (false, eval a X.env) :: starEach [] X.env := by rfl) : DE X Φ (.Call (.Name "len" p) [.Call (.Name "set" p2) [a] [] q] [] pos) (wLenSet w) := fun E hE => PE.imp (pe_lenSetT hu hg hm hg2 hm2 (ha E hE) hc na) fun σ H Q => by
  rintro ⟨S, F, R, hR, hw, k⟩
  refine ⟨S, F, _, hR, hw, fun d S1 v F1 H1 hw1 r1 hR1 x1 => ?_⟩
  obtain ⟨ks, rfl, h1, h2⟩ := hw1
  cases r1 with
  | lst q s =>
    obtain ⟨as, rfl, rfl, h3⟩ := reps_tups s
    refine ⟨_, as, rfl, .of (hR1.g.ext _ _ q), fun p hp => hR1.g.ext.sqT (h3 p hp), by rw [List.length_map] at h1; exact h1, fun L n1 n2 => ?_⟩
    exact k _ S1 _ F1 H1 (h2 L n1 n2) (.int _) hR1 x1
/-! ### what the top has written of classes -/
structure MethAt (K : PySem.W.Frag) (c m qual : Str) (st : Stmt) (ps : List Str) (f : Addr) (fd : FuncData) : Prop where
  fn : Fun K m qual st f fd
  bd : Binds K fd ps []
  mt : Meth K (clsAt K c) m f
structure InitAt (K : PySem.W.Frag) (mg : Str → Option Value) (c qual : Str) (st : Stmt) (ps : List Str) (f : Addr) (fd : FuncData) : Prop where
  fn : Fun K "__init__" qual st f fd
  bd : Binds K fd ps []
  mkr : Mk K (clsAt K c) f
  gl : mg c = some (.ref (clsAt K c))
/-- an own class of exceptions over ValueError -/
structure ExcT (K : PySem.W.Frag) (mg : Str → Option Value) (c : Str) : Prop where
  gC : mg c = some (.ref (clsAt K c))
  xP : PySem.W.excIn K (clsAt K c) [.type "ValueError", .type "Exception", .type "BaseException", .type "object"] "ValueError.__new__" = true
  kP : PySem.W.keepIn K (.ref (clsAt K c)) = true
  bP : PySem.W.subIn K (.ref (clsAt K c)) (.type "BaseException") = some true
  tP : PySem.W.typeIn K (.ref (clsAt K c)) = some (.type "type")
  te : PySem.W.exmOne K (.ref (clsAt K c)) (.ref (clsAt K c)) = some true
theorem exm_self {K : PySem.W.Frag} {S : Addr} (h1 : PySem.W.subIn K (.ref S) (.type "BaseException") = some true) (h2 : PySem.W.isClsIn K S = true) (h3 : PySem.W.typeIn K (.ref S) = some (.type "type")) (h4 : PySem.W.subIn K (.ref S) (.ref S) = some true) :
    PySem.W.exmOne K (.ref S) (.ref S) = some true := by
  have e1 : (PySem.W.subIn K (.ref S) (.type "BaseException") == some true) = true := by rw [h1] <;> rfl
  have e2 : ((PySem.W.clsIn K S).isSome && PySem.W.typeIn K (.ref S) == some (.type "type")) = true := by
    have h2' : (PySem.W.clsIn K S).isSome = true := h2
    rw [h2', h3] <;> rfl
  show (if (PySem.W.subIn K (.ref S) (.type "BaseException") == some true) = true then (if ((PySem.W.clsIn K S).isSome && PySem.W.typeIn K (.ref S) == some (.type "type")) = true then PySem.W.subIn K (.ref S) (.ref S) else none) else none) = some true
  rw [if_pos e1, if_pos e2]
  exact h4
end VL

set_option Elab.async false
set_option linter.all false
set_option maxRecDepth 100000
set_option maxHeartbeats 400000
/-! VL13: a list that a name owns is lent to a call; loops over known lists. -/
namespace VL
open PySem PySem.Spec PyProof.Rows L2
def Oh.del (h : Oh) (a : Addr) : Oh := fun b => if b = a then none else h b
theorem Oh.del_same {h : Oh} {a : Addr} : h.del a a = none := by unfold Oh.del; rw [if_pos rfl]
theorem Oh.del_ne {h : Oh} {a b : Addr} (n : b ≠ a) : h.del a b = h b := by unfold Oh.del; rw [if_neg n]
theorem Oh.del_put {h : Oh} {a : Addr} {o : Ob} (e : h a = none) : (h.put a o).del a = h := by
  funext b
  by_cases q : b = a
  · subst q; rw [Oh.del_same, e]
  · rw [Oh.del_ne q, Oh.put_ne q]
section
variable {K : PySem.W.Frag} {E : En} {F H : Hp} {σ : L2.St} {S : Sg}
/-- a name's own container becomes a known object -/
theorem Rel.promote {i : Nat} {d : D} (R : Rel K E F H σ S) (hi : S.s[i]? = some (.o d)) : ∃ p, σ[i]? = some (some (.ref p)) ∧ S.h p = none ∧ (E.H p = none ∨ E.ow p) ∧ Rel K E F H σ ((S.ob p (obOf d)).st i (.f (.obj p))) := by
  obtain ⟨p, h1, h2, h3, h4, h5⟩ := R.own i d hi
  have ha : ObAt K F H p (obOf d) := by
    cases d <;> first | exact h2 | exact h2.elim
  refine ⟨p, h1, h4, h5, ⟨⟨R.g.ext, R.g.gF, R.g.gN, R.g.gH, R.g.gP, fun b q => ?_, fun b ob q => ?_⟩, by show (S.s.set i _).length = _; rw [List.length_set]; exact R.len, fun j e h => ?_, fun j e h => ?_, fun j l e e' q q1 q2 q3 q4 => ?_⟩⟩
  · by_cases hb : b = p
    · subst hb; exact .inr h5
    · have q' : S.h.put p (obOf d) b ≠ none := q
      rw [Oh.put_ne hb] at q'; exact R.g.gO b q'
  · have q' : S.h.put p (obOf d) b = some ob := q
    by_cases hb : b = p
    · subst hb
      rw [Oh.put_same] at q'; cases q'
      exact ⟨ha, h3⟩
    · rw [Oh.put_ne hb] at q'
      exact R.g.obs b ob q'
  · rcases set_get h with ⟨rfl, h, hl⟩ | ⟨n, h⟩
    · cases h
      exact ⟨_, h1, .obj p⟩
    · exact R.frz j e h
  · rcases set_get h with ⟨rfl, h, hl⟩ | ⟨n, h⟩
    · cases h
    · obtain ⟨q, q1, q2, q3, q4, q5⟩ := R.own j e h
      have nq : q ≠ p := fun z => n (R.inj j i e d p h hi (z ▸ q1) h1)
      exact ⟨q, q1, q2, q3, by show S.h.put p (obOf d) q = none; rw [Oh.put_ne nq]; exact q4, q5⟩
  · rcases set_get q1 with ⟨_, h, _⟩ | ⟨n1, g1⟩
    · cases h
    rcases set_get q2 with ⟨_, h, _⟩ | ⟨n2, g2⟩
    · cases h
    exact R.inj j l e e' q g1 g2 q3 q4
/-- .. and the name's own again -/
theorem Rel.demote {i : Nat} {p : Addr} {ds : List D} (R : Rel K E F H σ S) (hi : i < S.s.length) (h1 : σ[i]? = some (some (.ref p))) (hp : S.h p = some (.ml ds)) (h5 : E.H p = none ∨ E.ow p) : Rel K E F H σ ⟨S.s.set i (.o (.lst ds)), S.h.del p⟩ := by
  obtain ⟨h2, h3⟩ := R.g.obs p _ hp
  refine ⟨⟨R.g.ext, R.g.gF, R.g.gN, R.g.gH, R.g.gP, fun b q => ?_, fun b ob q => ?_⟩, by show (S.s.set i _).length = _; rw [List.length_set]; exact R.len, fun j e h => ?_, fun j e h => ?_, fun j l e e' q q1 q2 q3 q4 => ?_⟩
  · refine R.g.gO b fun z => q ?_
    show S.h.del p b = none
    unfold Oh.del
    split
    · rfl
    · exact z
  · have q' : S.h.del p b = some ob := q
    by_cases hb : b = p
    · subst hb; rw [Oh.del_same] at q'; cases q'
    · rw [Oh.del_ne hb] at q'
      exact R.g.obs b ob q'
  · rcases set_get h with ⟨rfl, h, hl⟩ | ⟨n, h⟩
    · cases h
    · exact R.frz j e h
  · rcases set_get h with ⟨rfl, h, hl⟩ | ⟨n, h⟩
    · cases h
      exact ⟨p, h1, h2, h3, Oh.del_same, h5⟩
    · obtain ⟨q, q1, q2, q3, q4, q5⟩ := R.own j e h
      have nq : q ≠ p := fun z => by rw [z, hp] at q4; cases q4
      exact ⟨q, q1, q2, q3, by show S.h.del p q = none; rw [Oh.del_ne nq]; exact q4, q5⟩
  · have own : ∀ (j : Nat) (e : D), (S.s.set i (.o (.lst ds)))[j]? = some (.o e) → σ[j]? = some (some (.ref q)) → (j = i ∧ q = p) ∨ (j ≠ i ∧ S.s[j]? = some (.o e) ∧ q ≠ p) := fun j e g1 g2 => by
      rcases set_get g1 with ⟨rfl, _, _⟩ | ⟨n, g⟩
      · rw [h1] at g2; cases g2
        exact .inl ⟨rfl, rfl⟩
      · obtain ⟨q', r1, _, _, r4, _⟩ := R.own j e g
        rw [g2] at r1; cases r1
        exact .inr ⟨n, g, fun z => by rw [z, hp] at r4; cases r4⟩
    rcases own j e q1 q3 with ⟨a1, a2⟩ | ⟨a1, a2, a3⟩
    · rcases own l e' q2 q4 with ⟨b1, b2⟩ | ⟨b1, b2, b3⟩
      · exact a1.trans b1.symm
      · exact absurd a2 b3
    · rcases own l e' q2 q4 with ⟨b1, b2⟩ | ⟨b1, b2, b3⟩
      · exact absurd b2 a3
      · exact R.inj j l e e' q a2 b2 q3 q4
end
/-- the name's own list, as a known object -/
def wObj (i : Nat) : WE := fun S R => ∃ d, S.s[i]? = some (.o d) ∧ ∀ p, S.h p = none → R (.obj p) ((S.ob p (obOf d)).st i (.f (.obj p)))
/-- .. lent for an expression -/
def wLend (i : Nat) (w : WE) : WE := fun S R => (∃ d, S.s[i]? = some (.o d)) ∧ w S fun r S1 => ∃ p ds, S1.s[i]? = some (.f (.obj p)) ∧ S1.h p = some (.ml ds) ∧ R r ⟨S1.s.set i (.o (.lst ds)), S1.h.del p⟩
/-- for over a known list, which stays as it is -/
def wForOL (a : Addr) (ds : List D) (g : WG) (tb : WS) (T : We) : List D → Sg → Prop
  | [], S => S.h a = some (.ml ds) ∧ T.nx S
  | x :: xs, S => S.h a = some (.ml ds) ∧ g x S fun S1 => tb { T with nx := wForOL a ds g tb T xs, ct := wForOL a ds g tb T xs, bk := T.nx } S1
def wForO (w : WE) (g : WG) (tb : WS) : WS := fun D S => w S fun d S1 => ∃ a ds, d = .obj a ∧ S1.h a = some (.ml ds) ∧ wForOL a ds g tb D ds S1
section
variable {X : Cx} {Φ : En → Prop} {W : L2.WX} {e : Expr} {w : WE} {pos : Pos}
theorem de_obj {x : Str} (i : Nat) (h : PE X (.Name x pos) (tVar i)) : DE X Φ (.Name x pos) (wObj i) := fun E hE => PE.imp h fun σ H Q => by
  rintro ⟨S, F, R, hR, ⟨d, hd, hw⟩, k⟩
  obtain ⟨p, h1, h2, _, h4⟩ := hR.promote hd
  exact ⟨_, h1, k _ _ _ F H (hw p h2) (.obj p) h4 (.refl _)⟩
theorem de_lend (i : Nat) (h : DE X Φ e w) : DE X Φ e (wLend i w) := fun E hE => PE.imp (h E hE) fun σ H Q => by
  rintro ⟨S, F, R, hR, ⟨⟨d, hd⟩, hw⟩, k⟩
  obtain ⟨p0, h1, _, _, _, h5⟩ := hR.own i d hd
  refine ⟨S, F, _, hR, hw, fun r S1 v F1 H1 hw1 r1 hR1 x1 => ?_⟩
  obtain ⟨p, ds, q1, q2, q3⟩ := hw1
  obtain ⟨u, u1, u2⟩ := hR1.frz i _ q1
  cases u2
  rw [h1] at u1
  cases u1
  exact k r _ v F1 H1 q3 r1 (hR1.demote (ix_lt q1) h1 q2 h5) x1
theorem ds_forO {g : WG} {tg iter : Expr} {body : List Stmt} {tb : WS} (hp : PassesOwn (model X.prog X.w) X.A X.env X.xe) (hc : X.calm = true) (hi : DE X Tr iter w) (hg : DG X Tr tg g) (hb : DSs X W body tb)
    (hs : ∀ x, foldedSetIterable iter X.env x = pure x := by intro _; rfl) : DS X W (.For tg iter body [] pos) (wForO w g tb) := fun E => PS.imp (ps_for hp hc (pi_list (hi E trivial)) (hg E trivial) (hb E) hs) fun D σ H => by
  rintro ⟨S, F, R, hR, hw, k1, k2, k3, k4, k5⟩
  refine ⟨S, F, _, hR, hw, fun d S1 v F1 H1 hw1 r1 hR1 x1 => ?_⟩
  obtain ⟨a, ds, rfl, ha, hw1⟩ := hw1
  cases r1
  obtain ⟨vs1, q1, _⟩ := (hR1.g.obs _ _ ha).1
  refine ⟨a, rfl, ⟨vs1, .of q1⟩, ?_⟩
  refine ⟨fun i m σ H => m + i = ds.length ∧ ∃ F2 S2, Rel X.K E F2 H σ S2 ∧ Ext F1 F2 ∧ wForOL a ds g tb R (ds.drop i) S2, ⟨ds.length, rfl, F1, S1, hR1, .refl _, hw1⟩, fun i m σ2 H2 hW => ?_⟩
  obtain ⟨hm, F2, S2, hR2, x2, hw2⟩ := hW
  by_cases hi : i < ds.length
  · have hd : ds[i]? = some ds[i] := List.getElem?_eq_getElem hi
    rw [List.drop_eq_getElem_cons hi] at hw2
    obtain ⟨ha2, hw2⟩ := hw2
    obtain ⟨vs, q, s⟩ := (hR2.g.obs _ _ ha2).1
    obtain ⟨v, h1, h2⟩ := s.get hd
    have hq : SqL X.K H2 a vs := .of q
    refine .inr ⟨⟨vs, v, hq, h1⟩, fun σ' H' => ∃ F3 S3, Rel X.K E F3 H' σ' S3 ∧ Ext F1 F3 ∧ wForOL a ds g tb R (ds.drop (i + 1)) S3, fun σ' H' hN => ⟨m - 1, by omega, by omega, hN⟩, fun x H3 hy => ?_⟩
    obtain ⟨rfl, hy⟩ := hy
    have e : x = v := Option.some.inj ((hy _ hq).symm.trans h1)
    subst e
    refine ⟨S2, F2, _, _, hR2, h2, hw2, fun S4 σ4 F4 H4 hw4 hR4 x4 => ?_⟩
    have x14 : Ext F1 F4 := x2.trans x4
    exact ⟨S4, F4, _, hR4, hw4, fun S' σ' F' H' q r x => ⟨F', S', r, x14.trans x, q⟩, fun S' σ' F' H' q r x => k1 S' σ' F' H' q r ((x1.trans x14).trans x), fun S' σ' F' H' q r x => ⟨F', S', r, x14.trans x, q⟩, fun d S' v σ' F' H' q r r' x => k4 d S' v σ' F' H' q r r' ((x1.trans x14).trans x), k5⟩
  · rw [List.drop_eq_nil_of_le (by omega)] at hw2
    obtain ⟨ha2, hw2⟩ := hw2
    obtain ⟨vs, q, s⟩ := (hR2.g.obs _ _ ha2).1
    exact .inl ⟨⟨vs, .of q, by rw [s.length]; omega⟩, k1 S2 σ2 F2 H2 hw2 hR2 (x1.trans x2)⟩
end
theorem foroc {a : Addr} {ds : List D} {g : WG} {tb : WS} {T : We} {x : D} {xs : List D} {S : Sg} (ha : S.h a = some (.ml ds)) (h : g x S fun S1 => tb { T with nx := wForOL a ds g tb T xs, ct := wForOL a ds g tb T xs, bk := T.nx } S1) : wForOL a ds g tb T (x :: xs) S := ⟨ha, h⟩
end VL

set_option Elab.async false
set_option linter.all false
set_option maxRecDepth 100000
set_option maxHeartbeats 4000000
/-! VL14: min(xs, key=f), f a def of the text; any(tuple of ints). -/
namespace VL
open PySem PySem.Spec PyProof.Rows L2
open PySem.Calls
open PySem.W (AllAlike Sortable)
/-- the first of the least -/
def argMin (k : D → PyData) : List D → D → D
  | [], b => b
  | x :: xs, b => argMin k xs (if PySem.W.dataLt (k x) (k b) = true then x else b)
theorem argMin_cons {k : D → PyData} {x b : D} {xs : List D} : argMin k (x :: xs) b = argMin k xs (if PySem.W.dataLt (k x) (k b) = true then x else b) := rfl
theorem in1R {k : Nat} {A : Around} (r : Room (k + 1) A) : Room k A.in1 :=
  ⟨r.hd, by have := r.dp; show A.depth + 3 * k + 5 < _; omega, by have := r.un; show A.units + 1 + 16 * k + 200 < _; omega⟩
section
variable {X : Cx} {Φ : En → Prop} {pins : List (Addr × Obj)} {σ : L2.St} {s : Shared} {n : Nat} {f : Addr} {fd : FuncData} {ps : List Str} {spc : Spc}
theorem min_loop {F H : Hp} {h : Oh} {xs : List V} {ds : List D} {kf : D → D} {l I S : Addr} {R : Result → Shared → Prop} (hh : X.A.handled = none) (B : KeyB X n f fd ps spc X.A.in1 F H h xs ds kf) (hl : F l = some (.lst xs)) (hSI : S ≠ I)
    (hR : ∀ s' F' H' v u, Inv X pins σ H' s' → Gr X.K ⟨F, H, h, fun _ => False⟩ F' H' h → RelV v u → ∀ b, Rep X.K F' v b → b = argMin (fun x => (kf x).pd) ds.tail (ds.headD .non) → R (.ok (.ret u)) s') :
    ∀ (r j : Nat) (s : Shared) (Fj Hj : Hp) (ub uk : Value) (vb vk : V) (b : D) (c : Nat), ds.length - (j + 1) = r → j + 1 ≤ ds.length → Inv X pins σ Hj s → Gr X.K ⟨F, H, h, fun _ => False⟩ Fj Hj h → FpOk X pins Hj I → FpOk X pins Hj S →
      s.heap.IsListIter I l (j + 1) → s.heap.get? S = some (seqObj "list" #[ub, uk] c) → RelV vb ub → Rep X.K Fj vb b → RelV vk uk → Rep X.K Fj vk (kf b) → b ∈ ds → argMin (fun x => (kf x).pd) (ds.drop (j + 1)) b = argMin (fun x => (kf x).pd) ds.tail (ds.headD .non) →
      codeAny (model X.prog X.w) X.A (.builtin "min.loop" ⟨[.ref I, .ref f, .ref S], []⟩) R s := by
  have nm : (toString "min" ++ toString ".loop" : String) = "min.loop" := by decide
  have l2 := B.it.length
  intro r
  induction r with
  | zero =>
    intro j s Fj Hj ub uk vb vk b c hr hj I0 g fI fS hit hS rb qb rk qk mb ha
    have hin : j + 1 = ds.length := by omega
    have hlj : Hj l = some (.lst xs) := g.ext _ _ (g.gF _ _ hl)
    obtain ⟨its, rv, p, hz⟩ := I0.list (.of hlj)
    have l1 := rv.length
    have hlI : l ≠ I := fun z => by rw [z, fI.1] at hlj; cases hlj
    have W := Walks.list (prog := X.prog) (w := X.w) (A := X.A.in1) hh I l hlI its.toArray
    have hsz : its.toArray.size = its.length := List.size_toArray ..
    refine codeAny_builtin PySem.F.entry_min_loop ?_
    rw [Around.under_plainId PySem.F.plain_min_loop _]
    show wpAny _ X.A.in1 (seqItems? (.ref S) >>= _) _ _ _
    refine wpAny_bind (wpAny_seqItems hS rfl ?_)
    show wpAny _ X.A.in1 (tryCatch (pyNext (.ref I)) _ >>= _) _ _ _
    refine wpAny_bind (wpAny_tryCatch (W.done _ _ _ ⟨by rw [hsz, ← l1, l2, ← hin]; exact hit, p.isList⟩ fun h' tk' hk' => ?_))
    have hS' := hk' S _ (by simpa using hSI) hS
    show wpAny _ X.A.in1 (updateSeq S (fun _ => #[]) >>= _) _ _ _
    refine wpAny_bind (wpAny_updateSeq hS' rfl (wpAny_bind (wpAny_letGo (wpAny_pure ?_))))
    have s1 := Heap.SameBut.update h' S (Obj.mapSeq fun _ => (#[] : Array Value))
    refine hR _ Fj Hj vb ub ?_ g rb b qb (by rw [← ha, List.drop_of_length_le (by omega)]; rfl)
    have I1 : Inv X pins σ Hj { s with heap := h', toks := tk' } := I0.turnedL (t' := tk') (ch := [I]) (fun b o hb e => hk' b o hb e) fun b hb => by rw [List.mem_singleton.mp hb]; exact fI
    exact I1.turnedL (t' := tk') (ch := [S]) (fun b o hb e => (s1.2 b (by simpa using hb)).trans e) fun b hb => by rw [List.mem_singleton.mp hb]; exact fS
  | succ r ih =>
    intro j s Fj Hj ub uk vb vk b c hr hj I0 g fI fS hit hS rb qb rk qk mb ha
    have hlt : j + 1 < ds.length := by omega
    have hlj : Hj l = some (.lst xs) := g.ext _ _ (g.gF _ _ hl)
    obtain ⟨its, rv, p, hz⟩ := I0.list (.of hlj)
    have l1 := rv.length
    have hlI : l ≠ I := fun z => by rw [z, fI.1] at hlj; cases hlj
    have W := Walks.list (prog := X.prog) (w := X.w) (A := X.A.in1) hh I l hlI its.toArray
    have hsz : its.toArray.size = its.length := List.size_toArray ..
    refine codeAny_builtin PySem.F.entry_min_loop ?_
    rw [Around.under_plainId PySem.F.plain_min_loop _]
    show wpAny _ X.A.in1 (seqItems? (.ref S) >>= _) _ _ _
    refine wpAny_bind (wpAny_seqItems hS rfl ?_)
    show wpAny _ X.A.in1 (tryCatch (pyNext (.ref I)) _ >>= _) _ _ _
    refine wpAny_bind (wpAny_tryCatch (W.item (j + 1) _ _ _ (by omega) ⟨hit, p.isList⟩ fun u h' tk' hP hst' hk' => ?_))
    have hu : its[j + 1]? = some u := by simpa using hP
    have hd : ds[j + 1]? = some ds[j + 1] := List.getElem?_eq_getElem hlt
    obtain ⟨x, hx, rx⟩ := B.it.get hd
    obtain ⟨u', hu', ru⟩ := rv.get hx
    have eu : u' = u := Option.some.inj (hu'.symm.trans hu)
    subst eu
    have hS' := hk' S _ (by simpa using hSI) hS
    have I1 : Inv X pins σ Hj { s with heap := h', toks := tk' } := I0.turnedL (t' := tk') (ch := [I]) (fun b o hb e => hk' b o hb e) fun b hb => by rw [List.mem_singleton.mp hb]; exact fI
    obtain ⟨oI, hoI, hoc, hod⟩ := id hst'.1
    have md : ds[j + 1] ∈ ds := List.getElem_mem hlt
    show wpAny _ X.A.in1 (tryCatch (holding [u'] (call (.ref f) [u'])) _ >>= _) _ _ _
    refine wpAny_bind (wpAny_tryCatch (wpAny_holding (wpAny_mono (key_call (E := fun _ _ => False) B.G B.hb B.hr B.hA I1 g.ext g.obs ru (rx.mono g.gF) (B.key _ md)) (fun v s'' he => ?_) fun _ _ hF => hF.elim)))
    obtain ⟨kv, F', H', I2, un, rkv, rep, g'⟩ := he
    have g2 := g.then (fun p hp => hp.elim) g'
    have hS2 : s''.heap.get? S = some (seqObj "list" #[ub, uk] c) := un.keep _ _ hS' fS.1 (FpOk.nostk fS I1) (by simp)
    have hI2 : s''.heap.get? I = some oI := un.keep _ _ hoI fI.1 (FpOk.nostk fI I1) (by simp)
    have fI2 : FpOk X pins H' I := FpOk.to fI (un.free _ _ hoI fI.1 (by simp))
    have fS2 : FpOk X pins H' S := FpOk.to fS (un.free _ _ hS' fS.1 (by simp))
    have it2 : s''.heap.IsListIter I l (j + 1 + 1) := ⟨oI, hI2, hoc, hod⟩
    obtain ⟨as1, rd1⟩ := Dp.reads I2 _ _ _ (rep.dp g2.ext (B.sh _ md)) rkv
    obtain ⟨as2, rd2⟩ := Dp.reads I2 _ _ _ ((qk.mono g'.gF).dp g2.ext (B.sh _ mb)) rk
    have m1 : (kf ds[j + 1]).pd ∈ ds.map (fun x => (kf x).pd) := List.mem_map.mpr ⟨_, md, rfl⟩
    have m2 : (kf b).pd ∈ ds.map (fun x => (kf x).pd) := List.mem_map.mpr ⟨_, mb, rfl⟩
    have nn : (kf ds[j + 1]).pd ≠ .none := by
      rcases B.so with z | z
      · obtain ⟨q, t, e⟩ := z _ m1
        rw [e]
        exact fun z => by cases z
      · exact (z _ m1).1
    show wpAny _ X.A.in1 (tryCatch (holding [u', v] (richCompare .Lt v uk >>= _)) _ >>= _) _ _ _
    refine wpAny_bind (wpAny_tryCatch (wpAny_holding (wpAny_bind (PySem.W.rcLt_alike _ _ X.A.in1 s'' v uk as1 as2 rd1 rd2 (B.al _ m1 _ m2) nn ?_ X.prog X.w _ _ ?_))))
    · have q1 := depth_sh 8 _ (B.sh _ md)
      have q2 := B.hr.un
      have := Nat.min_le_left (kf ds[j + 1]).pd.depth (kf b).pd.depth
      omega
    refine wpAny_bind (wpAny_holding (wpAny_truthy_bool ?_))
    refine wpAny_bind (wpAny_letGo (wpAny_pure ?_))
    have hdr : ds.drop (j + 1) = ds[j + 1] :: ds.drop (j + 1 + 1) := List.drop_eq_getElem_cons hlt
    rw [hdr] at ha
    rw [argMin_cons] at ha
    cases hb' : PySem.W.dataLt (kf ds[j + 1]).pd (kf b).pd with
    | true =>
      rw [if_pos (by exact hb')] at ha
      have s1 := Heap.SameBut.update s''.heap S (Obj.mapSeq fun _ => #[u', v])
      obtain ⟨c2, hc2⟩ : ∃ c2, (s''.heap.update S (Obj.mapSeq fun _ => #[u', v])).get? S = some (seqObj "list" #[u', v] c2) := ⟨_, get?_update_seq hS2 fun _ => #[u', v]⟩
      simp only [if_true]
      refine wpAny_bind (wpAny_updateSeq hS2 rfl (wpAny_bind (wpAny_letGo ?_)))
      rw [nm]
      refine wpAny_pure ⟨plainId_quiet PySem.F.plain_min_loop _, ih (j + 1) _ F' H' u' v x kv _ c2 (by omega) hlt (I2.turnedL (t' := s''.toks) (ch := [S]) (fun b o hb e => (s1.2 b (by simpa using hb)).trans e) fun b hb => by rw [List.mem_singleton.mp hb]; exact fS2) g2 fI2 fS2 ⟨oI, (s1.2 I hSI.symm).trans hI2, hoc, hod⟩ hc2 ru (rx.mono g2.gF) rkv rep md ha⟩
    | false =>
      rw [if_neg (by rw [hb']; decide)] at ha
      simp only [Bool.false_eq_true, if_false]
      refine wpAny_bind (wpAny_letGo ?_)
      rw [nm]
      refine wpAny_pure ⟨plainId_quiet PySem.F.plain_min_loop _, ih (j + 1) _ F' H' ub uk vb vk b c (by omega) hlt I2 g2 fI2 fS2 it2 hS2 rb (qb.mono g'.gF) rk (qk.mono g'.gF) mb ha⟩
/-- what min(l, key=f) wants and gives -/
def rMinF (X : Cx) (n : Nat) (f : Addr) (fd : FuncData) (ps : List Str) (spc : Spc) : List V → List V → Hp → VK → Prop := fun vs zs H Q => ∃ (a : Addr) (F : Hp) (h : Oh) (xs : List V) (ds : List D) (kf : D → D), vs = [.ref a] ∧ zs = [.ref f] ∧ F a = some (.lst xs) ∧ ds ≠ [] ∧
  KeyB X n f fd ps spc X.A.in1 F H h xs ds kf ∧ ∀ v F' H', Rep X.K F' v (argMin (fun x => (kf x).pd) ds.tail (ds.headD .non)) → Gr X.K ⟨F, H, h, fun _ => False⟩ F' H' h → Q v H'
theorem cr_minF : CallRK X (.builtin "min") [Str.ofString "key"] (rMinF X n f fd ps spc) := by
  intro pins s σ H vs zs us ws Q I0 r rz hq
  obtain ⟨l, F, h, xs, ds, kf, rfl, rfl, hl, hne, B, k⟩ := hq
  have nm : (toString "min" ++ toString ".loop" : String) = "min.loop" := by decide
  obtain rfl := Vals.ref1 r
  obtain ⟨w1, rfl, e1⟩ := vals1 rz
  obtain rfl : w1 = Value.ref f := e1
  have l2 := B.it.length
  have hpos : 0 < ds.length := List.length_pos_iff.mpr hne
  have hlH : H l = some (.lst xs) := B.hx _ _ hl
  obtain ⟨its, rv, p, hz⟩ := I0.list (.of hlH)
  have l1 := rv.length
  refine kmk_tree PySem.F.kind_min PySem.F.plain_min PySem.F.entry_min (kmk_min_key _ _) ?_
  show wpAny _ X.A.in1 (Builtin.Builtins.bindParams "min" ["key", "default"] 0 ⟨[], [(Str.ofString "key", .ref f)]⟩ >>= _) _ _ s
  refine wpAny_bind (wpAny_of_eq (show Builtin.Builtins.bindParams "min" ["key", "default"] 0 ⟨[], [(Str.ofString "key", .ref f)]⟩ = pure [some (.ref f), none] from rfl) (wpAny_bind (wpAny_pure ?_)))
  refine wpAny_bind (wpAny_pyIter_list p.isList (wpAny_bind (wpAny_newList ?_ (Nat.zero_le _))))
  rw [nm]
  have zS := size_push' s.heap { cls := .type "list_iterator", data := .fields #[.ref l, .int 0 0] }
  have gI : ((s.heap.push { cls := .type "list_iterator", data := .fields #[.ref l, .int 0 0] }).push (seqObj "list" #[] 0)).get? s.heap.objs.size = some { cls := .type "list_iterator", data := .fields #[.ref l, .int 0 0] } := Heap.get?_push_of_some _ (Heap.get?_push_size _ rfl)
  have gS : ((s.heap.push { cls := .type "list_iterator", data := .fields #[.ref l, .int 0 0] }).push (seqObj "list" #[] 0)).get? (s.heap.push { cls := .type "list_iterator", data := .fields #[.ref l, .int 0 0] }).objs.size = some (seqObj "list" #[] 0) := Heap.get?_push_size _ rfl
  have I3 : Inv X pins σ H { s with heap := (s.heap.push { cls := .type "list_iterator", data := .fields #[.ref l, .int 0 0] }).push (seqObj "list" #[] 0) } := I0.kept (t' := s.toks) fun b u q => Heap.get?_push_of_some _ (Heap.get?_push_of_some _ q)
  generalize (s.heap.push { cls := .type "list_iterator", data := .fields #[.ref l, .int 0 0] }).push (seqObj "list" #[] 0) = h2 at *
  generalize (s.heap.push { cls := .type "list_iterator", data := .fields #[.ref l, .int 0 0] }).objs.size = S at *
  have fI : FpOk X pins H s.heap.objs.size := I0.fpOk (Nat.le_refl _) (I0.hok.fresh (Nat.le_refl _))
  have leS : s.heap.objs.size ≤ S := by omega
  have fS : FpOk X pins H S := I0.fpOk leS (I0.hok.fresh leS)
  have hSI : S ≠ s.heap.objs.size := by omega
  generalize s.heap.objs.size = J at *
  refine wpAny_pure ⟨plainId_quiet PySem.F.plain_min_loop _, ?_⟩
  have hlI : l ≠ J := fun z => by rw [z, fI.1] at hlH; cases hlH
  obtain ⟨its3, rv3, p3, hz3⟩ := I3.list (.of hlH)
  have l3 := rv3.length
  have W := Walks.list (prog := X.prog) (w := X.w) (A := X.A.in1) B.hr.hd J l hlI its3.toArray
  have hsz : its3.toArray.size = its3.length := List.size_toArray ..
  refine codeAny_builtin PySem.F.entry_min_loop ?_
  rw [Around.under_plainId PySem.F.plain_min_loop _]
  show wpAny _ X.A.in1 (seqItems? (.ref S) >>= _) _ _ _
  refine wpAny_bind (wpAny_seqItems gS rfl ?_)
  show wpAny _ X.A.in1 (tryCatch (pyNext (.ref J)) _ >>= _) _ _ _
  refine wpAny_bind (wpAny_tryCatch (W.item 0 _ _ _ (by omega) ⟨⟨_, gI, rfl, rfl⟩, p3.isList⟩ fun u h' tk' hP hst' hk' => ?_))
  have hu : its3[0]? = some u := by simpa using hP
  obtain ⟨d0, dr, rfl⟩ : ∃ d0 dr, ds = d0 :: dr := by
    cases ds with
    | nil => exact absurd rfl hne
    | cons a b => exact ⟨a, b, rfl⟩
  obtain ⟨x, hx, rx⟩ := B.it.get (i := 0) (d := d0) rfl
  obtain ⟨u', hu', ru⟩ := rv3.get hx
  have eu : u' = u := Option.some.inj (hu'.symm.trans hu)
  subst eu
  have hS' := hk' S _ (by simpa using hSI) gS
  have I4 : Inv X pins σ H { s with heap := h', toks := tk' } := Inv.turnedL (s := { s with heap := h2 }) I3 (t' := tk') (ch := [J]) (fun b o hb e => hk' b o hb e) fun b hb => by rw [List.mem_singleton.mp hb]; exact fI
  obtain ⟨oI, hoI, hoc, hod⟩ := id hst'.1
  have md : d0 ∈ d0 :: dr := .head _
  have g0 : Gr X.K ⟨F, H, h, fun _ => False⟩ F H h := ⟨B.hx, .refl _, fun _ q _ _ => .inl q, fun _ _ q _ _ => q, fun _ q => q, fun _ q => .inl q, B.ob⟩
  show wpAny _ X.A.in1 (tryCatch (holding [u'] (call (.ref f) [u'])) _ >>= _) _ _ _
  refine wpAny_bind (wpAny_tryCatch (wpAny_holding (wpAny_mono (key_call (E := fun _ _ => False) B.G B.hb B.hr B.hA I4 g0.ext g0.obs ru rx (B.key _ md)) (fun v s'' he => ?_) fun _ _ hF => hF.elim)))
  obtain ⟨kv, F', H', I5, un, rkv, rep, g'⟩ := he
  have hS2 : s''.heap.get? S = some (seqObj "list" #[] 0) := un.keep _ _ hS' fS.1 (FpOk.nostk fS I4) (by simp)
  have hI2 : s''.heap.get? J = some oI := un.keep _ _ hoI fI.1 (FpOk.nostk fI I4) (by simp)
  have fI2 : FpOk X pins H' J := FpOk.to fI (un.free _ _ hoI fI.1 (by simp))
  have fS2 : FpOk X pins H' S := FpOk.to fS (un.free _ _ hS' fS.1 (by simp))
  have s1 := Heap.SameBut.update s''.heap S (Obj.mapSeq fun _ => #[u', v])
  obtain ⟨c2, hc2⟩ : ∃ c2, (s''.heap.update S (Obj.mapSeq fun _ => #[u', v])).get? S = some (seqObj "list" #[u', v] c2) := ⟨_, get?_update_seq hS2 fun _ => #[u', v]⟩
  show wpAny _ X.A.in1 (updateSeq S (fun _ => #[u', v]) >>= _) _ _ _
  refine wpAny_bind (wpAny_updateSeq hS2 rfl ?_)
  rw [nm]
  refine wpAny_pure ⟨plainId_quiet PySem.F.plain_min_loop _, min_loop (I := J) B.hr.hd B hl hSI (fun s3 F3 H3 v3 u3 i3 g3 r3 b3 q3 e3 => ?_) _ 0 _ F' H' u' v x kv d0 c2 rfl (by show 1 ≤ dr.length + 1; omega) (I5.turnedL (t' := s''.toks) (ch := [S]) (fun b o hb e => (s1.2 b (by simpa using hb)).trans e) fun b hb => by rw [List.mem_singleton.mp hb]; exact fS2) g' fI2 fS2 ⟨oI, (s1.2 J hSI.symm).trans hI2, hoc, hod⟩ hc2 ru (rx.mono g'.gF) rkv rep md rfl⟩
  subst e3
  exact ⟨v3, H3, i3, r3, k v3 F3 H3 q3 g3⟩
/-- min(e, key=f) -/
def wMinF (spc : Spc) (w : WE) : WE := fun S R => w S fun d S1 => match d with
  | .lst ds => ds ≠ [] ∧ ∃ kf : D → D, (∀ x ∈ ds, KeyOf spc S1.h x (kf x)) ∧ (∀ x ∈ ds, shD 8 (kf x) = true) ∧ AllAlike (ds.map fun x => (kf x).pd) ∧ Sortable (ds.map fun x => (kf x).pd) ∧ ds.length ≤ sizeLine ∧ R (argMin (fun x => (kf x).pd) ds.tail (ds.headD .non)) S1
  | _ => False
theorem de_minF {e : Expr} {x : Str} {p px kp pos : Pos} {w : WE} (G : FnOk X.prog X.w X.K X.mg X.base CX0 n f fd ps (spOf X.K 1 spc)) (hr : Room (n + 1) X.A) (hg : Gl X "min") (hm : X.mg "min" = none) (hgf : Gl X x) (hmf : X.mg x = some (.ref f)) (hb : Binds X.K fd ps []) (he : DE X Φ e w)
    (h1 : starEach [e] X.env = [(false, eval e X.env)] := by rfl) (hdb : (x == ("__debug__" : Str)) = false := by decide) : DE X Φ (.Call (.Name "min" p) [e] [⟨some "key", .Name x px, kp⟩] pos) (wMinF spc w) := fun E hE => PE.imp (pe_callBK cr_minF hg hm (by rfl) (pa_cons (he E hE) pa_nil h1) (pk_cons (pe_glob hgf hmf (v := .ref f) rfl hdb) pk_nil) (he := by rw [h1]; rfl) (hpl := by rw [h1]; rfl)) fun σ H Q => by
  rintro ⟨S, F, R, hR, hw, k⟩
  refine ⟨S, F, _, hR, hw, fun d S1 v F1 H1 hw1 r1 hR1 x1 => ?_⟩
  split at hw1
  · obtain ⟨k0, kf, k1, k2, k3, k4, k5, q⟩ := hw1
    cases r1 with
    | lst ha hs =>
      refine ⟨_, F1, S1.h, _, _, kf, rfl, rfl, ha, k0, ⟨G, hb, in1R hr, rfl, hR1.g.ext, hR1.g.obs, hs, k1, k2, k3, k4, k5⟩, fun v' F' H' rv g => ?_⟩
      exact k _ _ v' F' H' q rv (hR1.after g) (x1.trans g.gF)
  · exact hw1.elim
/-! ### any(e), e a tuple of ints -/
def wAnyT (w : WE) : WE := fun S R => w S fun d S1 => ∃ ns : List Int, d = .tup (ns.map .int) ∧ R (.bl (ns.any fun i => i != 0)) S1
def rAnyT (K : PySem.W.Frag) : List V → Hp → VK → Prop := fun vs H Q => ∃ (a : Addr) (ns : List Int), vs = [.ref a] ∧ SqT K H a (ns.map V.int) ∧ Q (.bl (ns.any fun i => i != 0)) H
theorem any_pd : ∀ ns : List Int, (ns.map PyData.int).any PyData.truthy = ns.any fun i => i != 0
  | [] => rfl
  | i :: ns => by rw [List.map_cons, List.any_cons, List.any_cons, any_pd ns]; rfl
theorem reads_ints {h : Heap} : ∀ {ns : List Int} {us : List Value}, Vals (ns.map V.int) us → ∃ as, ReadsAll h us (ns.map PyData.int) as
  | [], [], .nil => ⟨_, .nil⟩
  | i :: ns, _ :: us, .cons r t => by
    obtain ⟨tk, rfl⟩ := r
    obtain ⟨as, q⟩ := reads_ints (h := h) t
    exact ⟨_, .cons (.int i tk) q⟩
theorem plain_ints : ∀ ns : List Int, PyData.plainAll (ns.map PyData.int) = true
  | [] => rfl
  | i :: ns => by
    show (PyData.plain (.int i) && PyData.plainAll (ns.map PyData.int)) = true
    rw [plain_ints ns]; rfl
theorem cr_anyT (hc : X.calm = true) : CallR X (.builtin "any") (rAnyT X.K) := by
  intro pins s σ H vs us Q I0 r hq
  obtain ⟨a, ns, rfl, ha, q⟩ := hq
  obtain rfl := Vals.ref1 r
  obtain ⟨its, rv, p, hz⟩ := I0.tuple ha
  obtain ⟨as, hr⟩ := reads_ints (h := s.heap) rv
  refine PySem.W.any_tuple_data (vs := its.toArray) (I0.ok.hd hc) p (by simpa using hr) (plain_ints ns) (fun x hx => ?_) fun h' tk hk => ?_
  · obtain ⟨i, _, rfl⟩ := List.mem_map.mp hx
    exact trivial
  · rw [any_pd]
    exact ⟨.bl _, H, I0.kept hk, rfl, q⟩
theorem de_anyT {e : Expr} {p pos : Pos} {w : WE} (hc : X.calm = true) (hg : Gl X "any") (hm : X.mg "any" = none) (he : DE X Φ e w)
    (h1 : starEach [e] X.env = [(false, eval e X.env)] := by rfl) : DE X Φ (.Call (.Name "any" p) [e] [] pos) (wAnyT w) := fun E hE => PE.imp (pe_callB (cr_anyT hc) hg hm (by rfl) (pa_cons (he E hE) pa_nil h1) (he := h1) (hpl := by rfl)) fun σ H Q => by
  rintro ⟨S, F, R, hR, hw, k⟩
  refine ⟨S, F, _, hR, hw, fun d S1 v F1 H1 hw1 r1 hR1 x1 => ?_⟩
  obtain ⟨ns, rfl, q⟩ := hw1
  cases r1 with
  | tup ha hs =>
    have e := hs.ints
    subst e
    exact ⟨_, ns, rfl, hR1.g.ext.sqT ha, k _ _ _ F1 H1 q (.bl _) hR1 x1⟩
end
end VL

set_option Elab.async false
set_option linter.all false
set_option maxRecDepth 100000
set_option maxHeartbeats 400000
/-! VL15: dicts whose keys are ints and texts. -/
namespace VL
open PySem PySem.Spec PyProof.Rows L2
section
variable {κ : Type} [DecidableEq κ]
def look (l : List (κ × D)) (k : κ) : Option D := (l.find? fun kv => decide (kv.1 = k)).map (·.2)
def putP (l : List (κ × D)) (k : κ) (d : D) : List (κ × D) :=
  if (l.any fun kv => decide (kv.1 = k)) = true then l.map (fun kv => if kv.1 = k then (kv.1, d) else kv) else l ++ [(k, d)]
theorem look_nil {k : κ} : look [] k = none := rfl
theorem look_pos {p : κ × D} {r : List (κ × D)} {k : κ} (e : p.1 = k) : look (p :: r) k = some p.2 := by simp [look, List.find?_cons, e]
theorem look_neg {p : κ × D} {r : List (κ × D)} {k : κ} (e : ¬ p.1 = k) : look (p :: r) k = look r k := by simp [look, List.find?_cons, e]
theorem look_any (k : κ) : ∀ l : List (κ × D), (l.any fun kv => decide (kv.1 = k)) = (look l k).isSome
  | [] => rfl
  | p :: r => by
    rw [List.any_cons]
    by_cases e : p.1 = k
    · simp only [look_pos e, decide_eq_true e, Bool.true_or, Option.isSome_some]
    · rw [look_neg e, decide_eq_false e, Bool.false_or]; exact look_any k r
theorem look_map (k j : κ) (y : D) : ∀ l : List (κ × D), look (l.map fun kv => if kv.1 = k then (kv.1, y) else kv) j = (look l j).map fun x => if j = k then y else x
  | [] => rfl
  | p :: r => by
    have ih := look_map k j y r
    rw [List.map_cons]
    by_cases h : p.1 = k
    · rw [if_pos h]
      by_cases e : p.1 = j
      · rw [look_pos (p := (p.1, y)) e, look_pos e, Option.map_some, if_pos (e.symm.trans h)]
      · rw [look_neg (p := (p.1, y)) e, look_neg e, ih]
    · rw [if_neg h]
      by_cases e : p.1 = j
      · rw [look_pos (p := p) e, look_pos e, Option.map_some, if_neg (fun z => h (e.trans z))]
      · rw [look_neg (p := p) e, look_neg e, ih]
theorem look_snoc (k j : κ) (y : D) : ∀ l : List (κ × D), look l k = none → look (l ++ [(k, y)]) j = if j = k then some y else look l j
  | [], _ => by
    by_cases e : k = j
    · rw [if_pos e.symm]; exact look_pos (p := (k, y)) e
    · rw [if_neg (fun z => e z.symm)]; exact look_neg (p := (k, y)) e
  | p :: r, hn => by
    rw [List.cons_append]
    have hk : ¬ p.1 = k := fun z => by rw [look_pos z] at hn; cases hn
    rw [look_neg hk] at hn
    have ih := look_snoc k j y r hn
    by_cases e : p.1 = j
    · rw [look_pos e, look_pos e, if_neg (fun z => hk (e.trans z))]
    · rw [look_neg e, look_neg e, ih]
theorem look_put (l : List (κ × D)) (k j : κ) (y : D) : look (putP l k y) j = if j = k then some y else look l j := by
  unfold putP
  by_cases a : (l.any fun kv => decide (kv.1 = k)) = true
  · rw [if_pos a, look_map]
    rw [look_any] at a
    by_cases e : j = k
    · obtain ⟨x, hx⟩ := Option.isSome_iff_exists.mp a
      rw [if_pos e, e, hx, Option.map_some, if_pos rfl]
    · rw [if_neg e]
      cases look l j with
      | none => rfl
      | some x => rw [Option.map_some, if_neg e]
  · rw [if_neg a]
    refine look_snoc k j y l ?_
    rw [look_any] at a
    cases q : look l k with
    | none => rfl
    | some x => rw [q] at a; exact (a rfl).elim
theorem putP_new {l : List (κ × D)} {k : κ} (y : D) (h : look l k = none) : putP l k y = l ++ [(k, y)] := by
  unfold putP
  rw [look_any, h]
  exact if_neg (by decide)
/-- the table in the heap is that of the data -/
def RepT (K : PySem.W.Frag) (F : Hp) (kvs : List (κ × V)) (l : List (κ × D)) : Prop := kvs.map (·.1) = l.map (·.1) ∧ Reps K F (kvs.map (·.2)) (l.map (·.2))
variable {K : PySem.W.Frag} {F : Hp}
theorem RepT.nil : RepT K F ([] : List (κ × V)) [] := And.intro rfl .nil
theorem RepT.length {kvs : List (κ × V)} {l : List (κ × D)} (r : RepT K F kvs l) : kvs.length = l.length := by
  have := congrArg List.length r.1
  rwa [List.length_map, List.length_map] at this
theorem RepT.lk : ∀ {kvs : List (κ × V)} {l : List (κ × D)}, RepT K F kvs l → ∀ k, (∀ d, look l k = some d → ∃ v, valV kvs k = some v ∧ Rep K F v d) ∧ (look l k = none → valV kvs k = none)
  | [], [], _, k => And.intro (fun d h => by cases h) fun _ => rfl
  | [], _ :: _, r, _ => nomatch r.1
  | _ :: _, [], r, _ => nomatch r.1
  | (g, v) :: kvs, (g', x) :: l, ⟨e, r⟩, k => by
    rw [List.map_cons, List.map_cons] at e
    injection e with e1 e2
    have e1' : g = g' := e1
    subst e1'
    cases r with
    | cons r1 r2 =>
      by_cases q : g = k
      · rw [look_pos (p := (g, x)) q, valV_pos (p := (g, v)) q]
        exact ⟨fun d h => by cases h; exact ⟨v, rfl, r1⟩, fun h => nomatch h⟩
      · rw [look_neg (p := (g, x)) q, valV_neg (p := (g, v)) q]
        exact RepT.lk ⟨e2, r2⟩ k
theorem RepT.some_eq {kvs : List (κ × V)} {l : List (κ × D)} (r : RepT K F kvs l) {k : κ} : (valV kvs k).isSome = (look l k).isSome := by
  cases z : look l k with
  | none => rw [(r.lk k).2 z]; rfl
  | some d =>
    obtain ⟨u, h6, _⟩ := (r.lk k).1 d z
    rw [h6]; rfl
theorem RepT.put {kvs : List (κ × V)} {l : List (κ × D)} (r : RepT K F kvs l) (k : κ) {v : V} {d : D} (rv : Rep K F v d) : RepT K F (putK kvs k v) (putP l k d) := by
  have ea : (kvs.any fun kv => decide (kv.1 = k)) = (l.any fun kv => decide (kv.1 = k)) := by
    rw [valV_any, look_any]
    cases q : VL.look l k with
    | none => rw [(r.lk k).2 q]; rfl
    | some d =>
      obtain ⟨u, h, _⟩ := (r.lk k).1 d q
      rw [h]; rfl
  unfold putK putP
  rw [ea]
  split
  · have go : ∀ {kvs : List (κ × V)} {l : List (κ × D)}, RepT K F kvs l → RepT K F (kvs.map fun kv => if kv.1 = k then (kv.1, v) else kv) (l.map fun kv => if kv.1 = k then (kv.1, d) else kv) := by
      intro kvs
      induction kvs with
      | nil =>
        intro l r
        cases l with
        | nil => exact r
        | cons a b => exact nomatch r.1
      | cons p kvs ih =>
        intro l r
        cases l with
        | nil => exact nomatch r.1
        | cons a l =>
          obtain ⟨e, r⟩ := r
          rw [List.map_cons, List.map_cons] at e
          injection e with e1 e2
          cases r with
          | cons r1 r2 =>
            obtain ⟨h1, h2⟩ := ih ⟨e2, r2⟩
            rw [List.map_cons, List.map_cons]
            by_cases q : p.1 = k
            · rw [if_pos q, if_pos (e1.symm.trans q)]
              exact ⟨by rw [List.map_cons, List.map_cons, h1]; exact congrArg (· :: _) e1, .cons rv h2⟩
            · rw [if_neg q, if_neg (fun z => q (e1.trans z))]
              exact ⟨by rw [List.map_cons, List.map_cons, h1]; exact congrArg (· :: _) e1, .cons r1 h2⟩
    exact go r
  · exact ⟨by rw [List.map_append, List.map_append, r.1]; rfl, by rw [List.map_append, List.map_append]; exact r.2.append (.one rv)⟩
end
def keyD : D → Option Key
  | .int i => some (.inl i)
  | .str x => some (.inr x)
  | _ => none
/-- a dict as data -/
abbrev dcP (l : List (Key × D)) : D := .dct (l.map (·.1)) (l.map (·.2))
abbrev mdP (l : List (Key × D)) : Ob := .md (l.map (·.1)) (l.map (·.2))
section
variable {K : PySem.W.Frag} {E : En} {F F' H H' : Hp} {σ : L2.St} {S : Sg} {p a : Addr} {o : HO} {v : V} {d : D} {l : List (Key × D)}
theorem keyD_V {y : V} {k : Key} (r : Rep K F y d) (h : keyD d = some k) : y = kV k := by
  cases r <;> first | (cases h; rfl) | cases h
theorem Rep.dcP (r : Rep K F v (dcP l)) : ∃ a kvs, v = .ref a ∧ F a = some (.dK kvs) ∧ RepT K F kvs l := by
  cases r with
  | dct h1 h2 h3 => exact ⟨_, _, rfl, h1, h2, h3⟩
/-- a container that nobody owns changes -/
theorem Rel.over (R : Rel K E F H σ S) (nF : F p = none) (nh : S.h p = none) (nE : E.H p = none) (no : ∀ (i : Nat) (e : D), S.s[i]? = some (.o e) → σ[i]? ≠ some (some (.ref p))) : Rel K E F (upd H p o) σ S := by
  refine ⟨⟨fun b u e => ?_, R.g.gF, fun b h1 h2 h3 => TupO.upd (R.g.gN b h1 h2 h3) nF, fun b u h1 h2 h3 => ?_, fun b h1 => ?_, R.g.gO, fun a ob e => ?_⟩, R.len, R.frz, fun i d e => ?_, R.inj⟩
  · rw [upd_ne (fun z => by rw [z, nF] at e; cases e)]; exact R.g.ext _ _ e
  · rw [upd_ne (fun z => by rw [z, nE] at h1; cases h1)]; exact R.g.gH b u h1 h2 h3
  · by_cases hb : b = p
    · subst hb; rw [upd_same]; simp
    · rw [upd_ne hb]; exact R.g.gP b h1
  · obtain ⟨h1, h2⟩ := R.g.obs a ob e
    exact ⟨h1.mono (.refl _) (upd_ne fun z => by rw [z, nh] at e; cases e), h2⟩
  · obtain ⟨q, h1, h2, h3, h4, h5⟩ := R.own i d e
    exact ⟨q, h1, h2.mono (.refl _) (upd_ne fun z => no i d e (z ▸ h1)), h3, h4, h5⟩
/-- a fresh object stands aside while other things run -/
theorem Rel.aside (R : Rel K E F H σ S) (hp : H p = none) (hot : ∀ vs, o ≠ .tup vs) : Rel K ⟨F, upd H p o, S.h, owns σ S⟩ F (upd H p o) σ S ∧
    ∀ {F2 H2 σ2 S2}, Rel K ⟨F, upd H p o, S.h, owns σ S⟩ F2 H2 σ2 S2 → H2 p = some o ∧ F2 p = none ∧ S2.h p = none ∧ E.H p = none ∧ (∀ (i : Nat) (e : D), S2.s[i]? = some (.o e) → σ2[i]? ≠ some (some (.ref p))) ∧ Rel K E F2 H2 σ2 S2 := by
  obtain ⟨R1, nF, nh, nE, no⟩ := R.fresh (o := o) hp
  have now : ¬ owns σ S p := fun ⟨i, d, h1, h2⟩ => no i d h1 h2
  refine ⟨R1.enter, fun {F2 H2 σ2 S2} R2 => ⟨R2.g.gH p o upd_same nh now, (R2.g.gN p nF (by show upd H p o p ≠ none; rw [upd_same]; simp) now).elim id fun ⟨vs, z⟩ => by
    rw [show H2 p = some o from R2.g.gH p o upd_same nh now] at z
    exact (hot vs (Option.some.inj z)).elim, ?_, nE, fun i e h1 h2 => ?_, R1.leave R2⟩⟩
  · cases q : S2.h p with
    | none => rfl
    | some x =>
      rcases R2.g.gO p (by rw [q]; simp) with z | z | z
      · exact absurd nh z
      · rw [show (⟨F, upd H p o, S.h, owns σ S⟩ : En).H p = some o from upd_same] at z; cases z
      · exact absurd z now
  · obtain ⟨q, q1, q2, q3, q4, q5⟩ := R2.own i e h1
    rw [h2] at q1
    cases q1
    rcases q5 with z | z
    · rw [show (⟨F, upd H p o, S.h, owns σ S⟩ : En).H p = some o from upd_same] at z; cases z
    · exact absurd z now
end
theorem pe_ex {X : Cx} {e : Expr} {w : WE} (h : DE X Tr e w) : PE X e (fun σ H Q => ∃ E, LE X.K E w σ H Q) := ⟨fun pins s σ H Q I ⟨E, q⟩ => (h E trivial).run pins s σ H Q I q⟩
theorem u64 {n : Nat} (h : n + 64 < cLine) : n + 1 < cLine := by omega
/-! ### reads -/
def wDGet (wd wi : WE) : WE := fun S R => wd S fun x S1 => wi S1 fun y S2 => ∃ l k d, keyD y = some k ∧ (x = dcP l ∨ ∃ a, x = .obj a ∧ S2.h a = some (mdP l)) ∧ look l k = some d ∧ R d S2
/-- .. a name that owns the dict -/
def wDGetO (i : Nat) (wi : WE) : WE := fun S R => (∃ e, S.s[i]? = some (.o e)) ∧ wi S fun y S1 => ∃ l k d, keyD y = some k ∧ S1.s[i]? = some (.o (dcP l)) ∧ look l k = some d ∧ R d S1
/-- y in d -/
def wDIn (b : Bool) (wi wd : WE) : WE := fun S R => wi S fun y S1 => wd S1 fun x S2 => ∃ l k, keyD y = some k ∧ (x = dcP l ∨ ∃ a, x = .obj a ∧ S2.h a = some (mdP l)) ∧ R (.bl ((look l k).isSome == b)) S2
def wDInO (b : Bool) (wi : WE) (i : Nat) : WE := fun S R => wi S fun y S1 => ∃ l k, keyD y = some k ∧ S1.s[i]? = some (.o (dcP l)) ∧ R (.bl ((look l k).isSome == b)) S1
/-- {}, {k: v} -/
def wDNew : WE := fun S R => R (dcP []) S
def wDOne (wk wv : WE) : WE := fun S R => wk S fun x S1 => wv S1 fun d S2 => ∃ k, keyD x = some k ∧ R (dcP [(k, d)]) S2
/-- d[i] = v -/
def wDPut (wd wi wv : WE) : WS := fun D S => wv S fun d S1 => wd S1 fun x S2 => wi S2 fun y S3 => ∃ a l k, x = .obj a ∧ keyD y = some k ∧ S3.h a = some (mdP l) ∧ l.length < sizeLine ∧ D.nx (S3.ob a (mdP (putP l k d)))
def wDPutO (j : Nat) (wi wv : WE) : WS := fun D S => (∃ e, S.s[j]? = some (.o e)) ∧ wv S fun d S1 => (∃ e, S1.s[j]? = some (.o e)) ∧ wi S1 fun y S2 => ∃ l k, keyD y = some k ∧ S2.s[j]? = some (.o (dcP l)) ∧ l.length < sizeLine ∧ D.nx (S2.st j (.o (dcP (putP l k d))))
section
variable {X : Cx} {Φ : En → Prop} {W : L2.WX} {o e i value : Expr} {pos pos' p : Pos} {w wd wi wk wv : WE}
theorem ob_md {K : PySem.W.Frag} {F H : Hp} {a : Addr} {l : List (Key × D)} (h : ObAt K F H a (mdP l)) : ∃ kvs, H a = some (.dK kvs) ∧ RepT K F kvs l := let ⟨kvs, h1, h2, h3⟩ := h; ⟨kvs, h1, h2, h3⟩
theorem ow_md {K : PySem.W.Frag} {F H : Hp} {a : Addr} {l : List (Key × D)} (h : OwAt K F H a (dcP l)) : ∃ kvs, H a = some (.dK kvs) ∧ RepT K F kvs l := let ⟨kvs, h1, h2, h3⟩ := h; ⟨kvs, h1, h2, h3⟩
theorem dd_at {K : PySem.W.Frag} {E : En} {F1 F H : Hp} {σ : L2.St} {S : Sg} {x : D} {v : V} {l : List (Key × D)} (R : Rel K E F H σ S) (r : Rep K F1 v x) (e : Ext F1 F) (h : x = dcP l ∨ ∃ a, x = .obj a ∧ S.h a = some (mdP l)) : ∃ a kvs, v = .ref a ∧ H a = some (.dK kvs) ∧ RepT K F kvs l := by
  rcases h with rfl | ⟨a, rfl, h⟩
  · obtain ⟨a, kvs, h1, h2, h3⟩ := (r.mono e).dcP
    exact ⟨a, kvs, h1, R.g.ext _ _ h2, h3⟩
  · cases r
    obtain ⟨kvs, h1, h2⟩ := ob_md (R.g.obs _ _ h).1
    exact ⟨a, kvs, rfl, h1, h2⟩
theorem de_dget (hu : X.A.units + 64 < cLine) (ho : DE X Φ o wd) (hi : DE X Φ i wi) (hs : NoSl i) : DE X Φ (.Subscript o i pos) (wDGet wd wi) := fun E hE => PE.imp (pe_dget (u64 hu) (ho E hE) (hi E hE) hs) fun σ H Q => by
  rintro ⟨S, F, R, hR, hw, k⟩
  refine ⟨S, F, _, hR, hw, fun x S1 v1 F1 H1 hw1 r1 hR1 x1 => ⟨S1, F1, _, hR1, hw1, fun y S2 v2 F2 H2 hw2 r2 hR2 x2 => ?_⟩⟩
  obtain ⟨l, kk, d, h1, h2, h3, q⟩ := hw2
  obtain ⟨a, kvs, rfl, h4, h5⟩ := dd_at hR2 r1 x2 h2
  obtain ⟨u, h6, h7⟩ := (h5.lk kk).1 d h3
  rw [keyD_V r2 h1]
  refine ⟨a, u, rfl, ?_, k d S2 u F2 H2 q h7 hR2 (x1.trans x2)⟩
  rw [← h6]
  exact .k h4
theorem de_dgetO {x : Str} (j : Nat) (h : PE X (.Name x p) (tVar j)) (hu : X.A.units + 64 < cLine) (hi : DE X Φ i wi) (hs : NoSl i) : DE X Φ (.Subscript (.Name x p) i pos) (wDGetO j wi) := fun E hE => PE.imp (pe_dget (u64 hu) h (hi E hE) hs) fun σ H Q => by
  rintro ⟨S, F, R, hR, ⟨⟨e, he⟩, hw⟩, k⟩
  obtain ⟨q0, h0, _⟩ := hR.own j e he
  refine ⟨_, h0, S, F, _, hR, hw, fun y S1 v1 F1 H1 hw1 r1 hR1 x1 => ?_⟩
  obtain ⟨l, kk, d, h1, h2, h3, q⟩ := hw1
  obtain ⟨q1, g1, g2, _⟩ := hR1.own j _ h2
  rw [h0] at g1
  cases g1
  obtain ⟨kvs, h4, h5⟩ := ow_md g2
  obtain ⟨u, h6, h7⟩ := (h5.lk kk).1 d h3
  rw [keyD_V r1 h1]
  refine ⟨_, u, rfl, ?_, k d S1 u F1 H1 q h7 hR1 x1⟩
  rw [← h6]
  exact .k h4
theorem dn_dnew : DN X Φ (.Dict [] [] pos) wDNew := fun E hE => PE.imp pe_dnewK fun σ H Q => by
  rintro ⟨S, F, R, hR, hw, k⟩
  intro q hq
  obtain ⟨h1, h2, h3, h4, h5⟩ := hR.fresh (o := .dK []) hq
  exact k _ S q F _ hw ⟨⟨[], upd_same, rfl, .nil⟩, h2, h3, h4, h5⟩ h1 (.refl _)
theorem dn_done {kx vx : Expr} (hk : DE X Tr kx wk) (hv : DE X Tr vx wv) : DN X Φ (.Dict [some kx] [vx] pos) (wDOne wk wv) := fun E hE => PE.imp (pe_disp (pps_cons (pe_ex hk) (pe_ex hv) pps_nil) rfl rfl (by simp) (by simp)) fun σ H Q => by
  rintro ⟨S, F, R, hR, hw, k⟩
  intro q hq
  obtain ⟨R1, back⟩ := hR.aside (o := .dK []) hq (fun _ z => nomatch z)
  refine ⟨_, S, F, _, R1, hw, fun x S1 v1 F1 H1 hw1 r1 hR1 x1 => ⟨_, S1, F1, _, hR1, hw1, fun d S2 v2 F2 H2 hw2 r2 hR2 x2 => ?_⟩⟩
  obtain ⟨kk, h1, q2⟩ := hw2
  obtain ⟨b1, b2, b3, b4, b5, b6⟩ := back hR2
  refine ⟨b1, [(kk, v2)], by rw [keyD_V r1 h1]; rfl, by simp, ?_⟩
  exact k _ S2 q F2 _ q2 ⟨⟨_, upd_same, rfl, .one r2⟩, b2, b3, b4, b5⟩ (b6.over b2 b3 b4 b5) (x1.trans x2)
theorem din_go {E : En} {y x : Expr} (hi : PE X i (LE X.K E wi)) (b : Bool) {σ : L2.St} {H : Hp} {Q : V → Hp → Prop} (h : LE X.K E (wDIn b wi wd) σ H Q) : LE X.K E wi σ H fun y H1 => LE X.K E wd σ H1 fun x H2 => ∃ a o, x = .ref a ∧ DGet H2 a y o ∧ Q (.bl (o.isSome == b)) H2 := by
  obtain ⟨S, F, R, hR, hw, k⟩ := h
  refine ⟨S, F, _, hR, hw, fun y S1 v1 F1 H1 hw1 r1 hR1 x1 => ⟨S1, F1, _, hR1, hw1, fun x S2 v2 F2 H2 hw2 r2 hR2 x2 => ?_⟩⟩
  obtain ⟨l, kk, h1, h2, q⟩ := hw2
  obtain ⟨a, kvs, rfl, h4, h5⟩ := dd_at hR2 r2 (.refl _) h2
  rw [keyD_V r1 h1]
  refine ⟨a, _, rfl, .k h4, ?_⟩
  rw [h5.some_eq]
  exact k _ S2 _ F2 H2 q (.bl _) hR2 (x1.trans x2)
theorem eqT (b : Bool) : (b == true) = b := by cases b <;> rfl
theorem eqF (b : Bool) : (b == false) = !b := by cases b <;> rfl
theorem de_din (hu : X.A.units + 64 < cLine) (hi : DE X Φ i wi) (ho : DE X Φ o wd) (hm : behindInMarks .In o = false := by rfl) : DE X Φ (.Compare i [.In] [o] pos) (wDIn true wi wd) := fun E hE => PE.imp (pe_cmp (pc_din (u64 hu) (hi E hE) (ho E hE)) hm) fun σ H Q h => by
  have q := din_go (y := i) (x := o) (hi E hE) true h
  simp only [eqT] at q
  exact q
theorem de_dnotin (hu : X.A.units + 64 < cLine) (hi : DE X Φ i wi) (ho : DE X Φ o wd) (hm : behindInMarks .NotIn o = false := by rfl) : DE X Φ (.Compare i [.NotIn] [o] pos) (wDIn false wi wd) := fun E hE => PE.imp (pe_cmp (pc_dnotin (u64 hu) (hi E hE) (ho E hE)) hm) fun σ H Q h => by
  have q := din_go (y := i) (x := o) (hi E hE) false h
  simp only [eqF] at q
  exact q
theorem lt_bb {E : En} {w : WE} {σ : L2.St} {H : Hp} {Q : Bool → Hp → Prop} (h : LT X.K E (wBb w) σ H Q) : LE X.K E w σ H fun v H1 => ∃ b, v = .bl b ∧ Q b H1 := by
  obtain ⟨S, F, R, hR, hw, k⟩ := h
  refine ⟨S, F, _, hR, hw, fun d S1 v F1 H1 hw1 r1 hR1 x1 => ?_⟩
  split at hw1
  · cases r1
    exact ⟨_, rfl, k _ S1 F1 H1 hw1 hR1 x1⟩
  · exact hw1.elim
theorem dt_din (hu : X.A.units + 64 < cLine) (hi : DE X Φ i wi) (ho : DE X Φ o wd) (hm : behindInMarks .In o = false := by rfl) : DT X Φ (.Compare i [.In] [o] pos) (wBb (wDIn true wi wd)) := fun E hE => PT.imp (pt_cmp (pc_din (u64 hu) (hi E hE) (ho E hE)) hm) fun σ H Q h => by
  have q := din_go (y := i) (x := o) (hi E hE) true (lt_bb h)
  simp only [eqT] at q
  exact q
theorem dt_dnotin (hu : X.A.units + 64 < cLine) (hi : DE X Φ i wi) (ho : DE X Φ o wd) (hm : behindInMarks .NotIn o = false := by rfl) : DT X Φ (.Compare i [.NotIn] [o] pos) (wBb (wDIn false wi wd)) := fun E hE => PT.imp (pt_cmp (pc_dnotin (u64 hu) (hi E hE) (ho E hE)) hm) fun σ H Q h => by
  have q := din_go (y := i) (x := o) (hi E hE) false (lt_bb h)
  simp only [eqF] at q
  exact q
theorem dinO_go {E : En} {j : Nat} {v0 : Expr} (b : Bool) {σ : L2.St} {H : Hp} {Q : V → Hp → Prop} (h : LE X.K E (wDInO b wi j) σ H Q) : LE X.K E wi σ H fun y H1 => tVar j σ H1 fun x H2 => ∃ a o, x = .ref a ∧ DGet H2 a y o ∧ Q (.bl (o.isSome == b)) H2 := by
  obtain ⟨S, F, R, hR, hw, k⟩ := h
  refine ⟨S, F, _, hR, hw, fun y S1 v1 F1 H1 hw1 r1 hR1 x1 => ?_⟩
  obtain ⟨l, kk, h1, h2, q⟩ := hw1
  obtain ⟨q1, g1, g2, _⟩ := hR1.own j _ h2
  obtain ⟨kvs, h4, h5⟩ := ow_md g2
  rw [keyD_V r1 h1]
  refine ⟨_, g1, q1, _, rfl, .k h4, ?_⟩
  rw [h5.some_eq]
  exact k _ S1 _ F1 H1 q (.bl _) hR1 x1
theorem de_dinO {x : Str} (j : Nat) (h : PE X (.Name x p) (tVar j)) (hu : X.A.units + 64 < cLine) (hi : DE X Φ i wi) (hm : behindInMarks .In (.Name x p) = false := by rfl) : DE X Φ (.Compare i [.In] [.Name x p] pos) (wDInO true wi j) := fun E hE => PE.imp (pe_cmp (pc_din (u64 hu) (hi E hE) h) hm) fun σ H Q hh => by
  have q := dinO_go (v0 := i) true hh
  simp only [eqT] at q
  exact q
theorem de_dnotinO {x : Str} (j : Nat) (h : PE X (.Name x p) (tVar j)) (hu : X.A.units + 64 < cLine) (hi : DE X Φ i wi) (hm : behindInMarks .NotIn (.Name x p) = false := by rfl) : DE X Φ (.Compare i [.NotIn] [.Name x p] pos) (wDInO false wi j) := fun E hE => PE.imp (pe_cmp (pc_dnotin (u64 hu) (hi E hE) h) hm) fun σ H Q hh => by
  have q := dinO_go (v0 := i) false hh
  simp only [eqF] at q
  exact q
theorem dt_dinO {x : Str} (j : Nat) (h : PE X (.Name x p) (tVar j)) (hu : X.A.units + 64 < cLine) (hi : DE X Φ i wi) (hm : behindInMarks .In (.Name x p) = false := by rfl) : DT X Φ (.Compare i [.In] [.Name x p] pos) (wBb (wDInO true wi j)) := fun E hE => PT.imp (pt_cmp (pc_din (u64 hu) (hi E hE) h) hm) fun σ H Q hh => by
  have q := dinO_go (v0 := i) true (lt_bb hh)
  simp only [eqT] at q
  exact q
theorem dt_dnotinO {x : Str} (j : Nat) (h : PE X (.Name x p) (tVar j)) (hu : X.A.units + 64 < cLine) (hi : DE X Φ i wi) (hm : behindInMarks .NotIn (.Name x p) = false := by rfl) : DT X Φ (.Compare i [.NotIn] [.Name x p] pos) (wBb (wDInO false wi j)) := fun E hE => PT.imp (pt_cmp (pc_dnotin (u64 hu) (hi E hE) h) hm) fun σ H Q hh => by
  have q := dinO_go (v0 := i) false (lt_bb hh)
  simp only [eqF] at q
  exact q
theorem ds_dput (hu : X.A.units + 64 < cLine) (ho : DE X Tr o wd) (hi : DE X Tr i wi) (hv : DE X Tr value wv) (hs : swapsWith value (some (.Subscript o i pos')) pos.line X.env = pure false := by rfl) : DS X W (.Assign [.Subscript o i pos'] value pos) (wDPut wd wi wv) := fun E => PS.imp (ps_dput (u64 hu) (ho E trivial) (hi E trivial) (hv E trivial) hs) fun D σ H => by
  rintro ⟨S, F, R, hR, hw, k1, k2, k3, k4, k5⟩
  refine ⟨S, F, _, hR, hw, fun d S1 v1 F1 H1 hw1 r1 hR1 x1 => ⟨S1, F1, _, hR1, hw1, fun x S2 v2 F2 H2 hw2 r2 hR2 x2 => ⟨S2, F2, _, hR2, hw2, fun y S3 v3 F3 H3 hw3 r3 hR3 x3 => ?_⟩⟩⟩
  obtain ⟨a, l, kk, rfl, h1, h2, h3, q⟩ := hw3
  cases r2
  obtain ⟨kvs, g1, g2⟩ := ob_md (hR3.g.obs _ _ h2).1
  rw [keyD_V r3 h1]
  refine ⟨a, _, rfl, .k g1 (by rw [g2.length]; exact h3), k1 _ σ F3 _ q (hR3.obput (by rw [h2]; simp) ?_) ((x1.trans x2).trans x3)⟩
  obtain ⟨p1, p2⟩ := g2.put kk ((r1.mono x2).mono x3)
  exact ⟨_, upd_same, p1, p2⟩
theorem ds_dputO {x : Str} (j : Nat) (h : PE X (.Name x p) (tVar j)) (hu : X.A.units + 64 < cLine) (hi : DE X Tr i wi) (hv : DE X Tr value wv) (hs : swapsWith value (some (.Subscript (.Name x p) i pos')) pos.line X.env = pure false := by rfl) : DS X W (.Assign [.Subscript (.Name x p) i pos'] value pos) (wDPutO j wi wv) := fun E => PS.imp (ps_dput (u64 hu) h (hi E trivial) (hv E trivial) hs) fun D σ H => by
  rintro ⟨S, F, R, hR, ⟨⟨e, he⟩, hw⟩, k1, k2, k3, k4, k5⟩
  refine ⟨S, F, _, hR, hw, fun d S1 v1 F1 H1 hw1 r1 hR1 x1 => ?_⟩
  obtain ⟨⟨e1, he1⟩, hw1⟩ := hw1
  obtain ⟨q0, h0, _⟩ := hR1.own j e1 he1
  refine ⟨_, h0, S1, F1, _, hR1, hw1, fun y S2 v2 F2 H2 hw2 r2 hR2 x2 => ?_⟩
  obtain ⟨l, kk, h1, h2, h3, q⟩ := hw2
  obtain ⟨q1, g1, g2, _⟩ := hR2.own j _ h2
  rw [h0] at g1
  cases g1
  obtain ⟨kvs, h4, h5⟩ := ow_md g2
  rw [keyD_V r2 h1]
  refine ⟨_, _, rfl, .k h4 (by rw [h5.length]; exact h3), k1 _ σ F2 _ q (hR2.mut h2 h0 ?_) (x1.trans x2)⟩
  obtain ⟨p1, p2⟩ := h5.put kk (r1.mono x2)
  exact ⟨_, upd_same, p1, p2⟩
end
end VL

set_option Elab.async false
set_option linter.all false
set_option maxRecDepth 100000
set_option maxHeartbeats 400000
/-! VL16: d.update(e), list(d); dicts with tuple keys. -/
namespace VL
open PySem PySem.Spec PyProof.Rows L2
/-! ### d.update(e), both dicts of names of ours -/
def mrgP {κ : Type} [DecidableEq κ] (l m : List (κ × D)) : List (κ × D) := m.foldl (fun acc kv => putP acc kv.1 kv.2) l
theorem RepT.merge {K : PySem.W.Frag} {F : Hp} : ∀ {more : List (Key × V)} {m : List (Key × D)} {kvs : List (Key × V)} {l : List (Key × D)}, RepT K F more m → RepT K F kvs l → RepT K F (mergeK kvs more) (mrgP l m)
  | [], [], _, _, _, r => r
  | [], _ :: _, _, _, q, _ => nomatch q.1
  | _ :: _, [], _, _, q, _ => nomatch q.1
  | (g, v) :: more, (g', x) :: m, kvs, l, ⟨e, r⟩, q => by
    rw [List.map_cons, List.map_cons] at e
    injection e with e1 e2
    have e1' : g = g' := e1
    subst e1'
    cases r with
    | cons r1 r2 => exact RepT.merge (more := more) (m := m) (And.intro e2 r2) (q.put g r1)
def rUpdK : V → List V → Hp → VK → Prop := fun x xs H Q => ∃ (a b : Addr) (kvs more : List (Key × V)), x = .ref a ∧ xs = [.ref b] ∧ a ≠ b ∧ H a = some (.dK kvs) ∧ H b = some (.dK more) ∧ kvs.length + more.length ≤ sizeLine ∧ Q .non (upd H a (.dK (mergeK kvs more)))
theorem mt_updK {X : Cx} : MtR X "dict.update" rUpdK := by
  intro pins s σ H x xs v us Q I rx rs q
  obtain ⟨a, b, kvs, more, rfl, rfl, ne, ha, hb, hl, q⟩ := q
  cases rx
  obtain rfl := Vals.ref1 rs
  obtain ⟨z1, d1, vs1, r1, dd1⟩ := dk_of I.hok ha
  obtain ⟨z2, d2, vs2, r2, dd2⟩ := dk_of I.hok hb
  have l1 := r1.length
  have l2 := r2.length
  refine call_meetsIn PySem.F.slot_dict_update dd1.typeIs PySem.F.entry_dict_update (PySem.F.args_dict_update_2 _ _) (PySem.meets_dict_update (mixKind X.prog X.w) a b ne d2) ⟨vs1, vs2, dd1, dd2, by rw [← l1, ← l2]; exact hl, fun h' hmm _ hs => ?_⟩
  have hz := length_mergeK more kvs
  have he : ∃ q, h'.get? a = some q := let ⟨q, _, _, hq, _⟩ := hmm; ⟨q, hq⟩
  exact ⟨.non, _, d_write (t' := s.toks) I (by rw [ha]; exact True.intro) hs he (dk_new (by omega) d1 (r2.merge r1) hmm), rfl, q⟩
def wUpdO (i j : Nat) : WS := fun D S => ∃ l m, i ≠ j ∧ S.s[i]? = some (.o (dcP l)) ∧ S.s[j]? = some (.o (dcP m)) ∧ l.length + m.length ≤ sizeLine ∧ D.nx (S.st i (.o (dcP (mrgP l m))))
def kD : Key → D
  | .inl i => .int i
  | .inr x => .str x
theorem kD_rep {K : PySem.W.Frag} {F : Hp} : ∀ k : Key, Rep K F (kV k) (kD k)
  | .inl i => .int i
  | .inr x => .str x
/-- list(d), d a dict of a name of ours -/
def wKeysO (j : Nat) : WE := fun S R => ∃ l : List (Key × D), S.s[j]? = some (.o (dcP l)) ∧ R (.lst (l.map fun kv => kD kv.1)) S
section
variable {X : Cx} {Φ : En → Prop} {W : L2.WX} {x y : Str} {px py apos cpos pos p : Pos}
theorem ds_updO (i j : Nat) (hx : PE X (.Name x px) (tVar i)) (hy : PE X (.Name y py) (tVar j))
    (h : ∀ to te, PE X (.Name x px) to → PE X (.Name y py) te → PE X (.Call (.Attribute (.Name x px) "update" apos) [.Name y py] [] cpos) (tBM X.K "dict" rUpdK to (tCons te tNil)))
    (hs : swapsWith (.Call (.Attribute (.Name x px) "update" apos) [.Name y py] [] cpos) none pos.line X.env = pure false := by rfl) :
    DS X W (.Expr (.Call (.Attribute (.Name x px) "update" apos) [.Name y py] [] cpos) pos) (wUpdO i j) := fun E => PS.imp (ps_expr (h _ _ hx hy) hs) fun D σ H => by
  rintro ⟨S, F, R, hR, ⟨l, m, ne, hi, hj, hl, hw⟩, k1, k2, k3, k4, k5⟩
  obtain ⟨a, a1, a2, _⟩ := hR.own i _ hi
  obtain ⟨b, b1, b2, _⟩ := hR.own j _ hj
  obtain ⟨kvs, ha, ra⟩ := ow_md a2
  obtain ⟨more, hb, rb⟩ := ow_md b2
  have nab : a ≠ b := fun z => ne (hR.inj i j _ _ a hi hj a1 (z ▸ b1))
  refine ⟨_, a1, .inr (.inr (.inl ⟨rfl, .inl ⟨_, ha⟩⟩)), _, b1, a, b, kvs, more, rfl, rfl, nab, ha, hb, by rw [ra.length, rb.length]; exact hl, ?_⟩
  obtain ⟨p1, p2⟩ := rb.merge ra
  exact k1 _ _ F _ hw (hR.mut hi a1 ⟨_, upd_same, p1, p2⟩) (.refl _)
theorem dn_keysO (j : Nat) (hc : X.calm = true) (hx : PE X (.Name x px) (tVar j)) (hg : Gl X "list") (hm : X.mg "list" = none) (he : starEach [.Name x px] X.env = (false, eval (.Name x px) X.env) :: starEach [] X.env := by rfl) (hpl : (backTo pos (starEach [] X.env)).any (·.1) = false := by rfl) :
    DN X Φ (.Call (.Name "list" p) [.Name x px] [] pos) (wKeysO j) := fun E hE => PE.imp (pe_callTy (T := "list") (call_listD hc) hg hm (by decide +kernel) (pa_cons hx pa_nil he) (he := he) (hpl := hpl)) fun σ H Q => by
  rintro ⟨S, F, R, hR, ⟨l, hj, hw⟩, k⟩
  obtain ⟨b, b1, b2, _⟩ := hR.own j _ hj
  obtain ⟨kvs, hb, rb⟩ := ow_md b2
  refine ⟨_, b1, b, kvs, rfl, .inl hb, fun q hq => ?_⟩
  have rr : Reps X.K F (kvs.map fun kv => kV kv.1) (l.map fun kv => kD kv.1) := by
    have e1 : (kvs.map fun kv => kV kv.1) = (kvs.map (·.1)).map kV := by rw [List.map_map]; rfl
    have e2 : (l.map fun kv => kD kv.1) = (l.map (·.1)).map kD := by rw [List.map_map]; rfl
    rw [e1, e2, rb.1]
    generalize l.map (·.1) = ks
    induction ks with
    | nil => exact .nil
    | cons a ks ih => exact .cons (kD_rep a) ih
  obtain ⟨fr, hR'⟩ := fresh_of hR hq rr
  exact k _ S q F _ hw fr hR' (.refl _)
end
/-! ### dicts with tuple keys -/
abbrev dcuP (l : List (List Key × D)) : D := .dcu (l.map (·.1)) (l.map (·.2))
abbrev muP (l : List (List Key × D)) : Ob := .mu (l.map (·.1)) (l.map (·.2))
abbrev lkuP (u : HO) (l : List (List Key × D)) : Ob := .lku u (l.map (·.1)) (l.map (·.2))
def KeyU (y : D) (k : List Key) : Prop := y = .tup (k.map kD) ∨ y = .ktp (k.map kD)
theorem reps_keys {K : PySem.W.Frag} {F : Hp} : ∀ {k : List Key} {vs : List V}, Reps K F vs (k.map kD) → vs = k.map kV
  | [], _, .nil => rfl
  | a :: k, _, .cons r t => by
    rw [List.map_cons, reps_keys t]
    congr 1
    cases a with
    | inl i => cases r; rfl
    | inr x => cases r; rfl
theorem KeyU.at_ {K : PySem.W.Frag} {F : Hp} {v : V} {y : D} {k : List Key} (h : KeyU y k) (r : Rep K F v y) : ∃ b, v = .ref b ∧ SqT K F b (k.map kV) := by
  rcases h with rfl | rfl
  · cases r with
    | tup q s => rw [reps_keys s] at q; exact ⟨_, rfl, q⟩
  · cases r with
    | ktp q s => rw [reps_keys s] at q; exact ⟨_, rfl, .of q⟩
section
variable {X : Cx} {pins : List (Addr × Obj)} {σ : L2.St} {H : Hp} {s : Shared} {a b : Addr} {A : Around} {E : Value → Shared → Prop} {kvs : List (List Key × V)} {k : List Key}
theorem key_sq (I : Inv X pins σ H s) (h : SqT X.K H b (k.map kV)) : (tupleKind (mixKind X.prog X.w)).is s.heap k b := by
  obtain ⟨its, r, ⟨o, h1, h2, n, h3⟩, _⟩ := I.tuple h
  exact ⟨o, its.toArray, n, h1, h2, h3, by simpa using items_are r⟩
theorem u_getItem {v : V} {Q : Value → Shared → Prop} (hu : A.units + 1 < cLine) (I : Inv X pins σ H s) (e : Rd H a (.dT kvs)) (eb : SqT X.K H b (k.map kV)) (l : valV kvs k = some v) (h : ∀ w' s', Inv X pins σ H s' → RelV v w' → Q w' s') :
    wpAny (model X.prog X.w) A (getItem (.ref a) (.ref b)) Q E s := by
  obtain ⟨z, hd, xs, rel, dd⟩ := dt_rd I.hok e
  obtain ⟨w', hw, rw'⟩ := RelO.some_of (v := v) (o := (atKey xs k).map (·.2)) (by rw [← l]; exact rel.val k)
  obtain ⟨p, hp, hp2⟩ := Option.map_eq_some_iff.mp hw
  refine wpAny_getItem_heap (tupleKind_room_in1 hu) (key_sq I eb) dd hp ?_
  rw [hp2]
  exact h w' _ (I.tok _) rw'
theorem u_in {Q : Value → Shared → Prop} (hu : A.units + 1 < cLine) (I : Inv X pins σ H s) (e : Rd H a (.dT kvs)) (eb : SqT X.K H b (k.map kV)) (h : ∀ s', Inv X pins σ H s' → Q (.bool (valV kvs k).isSome) s') :
    wpAny (model X.prog X.w) A (compareOp .In (.ref b) (.ref a)) Q E s := by
  obtain ⟨z, hd, xs, rel, dd⟩ := dt_rd I.hok e
  refine wpAny_in_heap (tupleKind_room_in1 hu) (key_sq I eb) hd dd ?_
  have q := (rel.val k).isSome_eq
  rw [Option.isSome_map] at q
  rw [← q]
  exact h _ (I.tok _)
theorem u_notIn {Q : Value → Shared → Prop} (hu : A.units + 1 < cLine) (I : Inv X pins σ H s) (e : Rd H a (.dT kvs)) (eb : SqT X.K H b (k.map kV)) (h : ∀ s', Inv X pins σ H s' → Q (.bool (!(valV kvs k).isSome)) s') :
    wpAny (model X.prog X.w) A (compareOp .NotIn (.ref b) (.ref a)) Q E s := by
  obtain ⟨z, hd, xs, rel, dd⟩ := dt_rd I.hok e
  refine wpAny_notIn_heap (tupleKind_room_in1 hu) (key_sq I eb) hd dd ?_
  have q := (rel.val k).isSome_eq
  rw [Option.isSome_map] at q
  rw [← q]
  exact h _ (I.tok _)
end
def tUGet (K : PySem.W.Frag) (td ty : TE) : TE := fun σ H Q => td σ H fun x H1 => ty σ H1 fun y H2 => ∃ a b kvs k v, x = .ref a ∧ y = .ref b ∧ Rd H2 a (.dT kvs) ∧ SqT K H2 b (k.map kV) ∧ valV kvs k = some v ∧ Q v H2
def tUIn (K : PySem.W.Frag) (c : Bool) (ty td : TE) : TE := fun σ H Q => ty σ H fun y H1 => td σ H1 fun x H2 => ∃ a b kvs k, x = .ref a ∧ y = .ref b ∧ Rd H2 a (.dT kvs) ∧ SqT K H2 b (k.map kV) ∧ Q (.bl ((valV kvs k).isSome == c)) H2
section
variable {X : Cx} {o i : Expr} {td ty : TE} {pos : Pos}
theorem pe_uget (hu : X.A.units + 1 < cLine) (ho : PE X o td) (hi : PE X i ty) (hs : NoSl i) : PE X (.Subscript o i pos) (tUGet X.K td ty) := by
  refine ⟨fun pins s σ H Q I h => ?_⟩
  refine subD_of PySem.F.slot_dict_getitem.lookup hs (thn (ho.run pins s σ H _ I h) fun u s1 ⟨x, H1, I1, rx, q1⟩ => thn (hi.run pins s1 σ H1 _ I1 q1) fun iv s2 ⟨y, H2, I2, ry, a, b, kvs, k, v, ex, ey, g, gb, l, q2⟩ => ?_)
  subst ex ey
  obtain rfl : u = Value.ref a := rx
  obtain rfl : iv = Value.ref b := ry
  exact ⟨(let ⟨_, _, xs, _, dd⟩ := dt_rd I2.hok g; dd.typeIs), u_getItem hu I2 g gb l fun w' s3 I3 rw' => ⟨v, H2, I3, rw', q2⟩⟩
theorem pc_uin (hu : X.A.units + 1 < cLine) (hi : PE X i ty) (ho : PE X o td) : PC X .In i o (tUIn X.K true ty td) := by
  refine ⟨fun pins s σ H Q I h => ?_⟩
  refine thn (hi.run pins s σ H _ I h) fun iv s1 ⟨y, H1, I1, ry, q1⟩ => thn (ho.run pins s1 σ H1 _ I1 q1) fun u s2 ⟨x, H2, I2, rx, a, b, kvs, k, ex, ey, g, gb, q2⟩ => ?_
  subst ex ey
  obtain rfl : u = Value.ref a := rx
  obtain rfl : iv = Value.ref b := ry
  rw [eqT] at q2
  exact u_in hu I2 g gb fun s3 I3 => ⟨.bl _, H2, I3, rfl, q2⟩
theorem pc_unotin (hu : X.A.units + 1 < cLine) (hi : PE X i ty) (ho : PE X o td) : PC X .NotIn i o (tUIn X.K false ty td) := by
  refine ⟨fun pins s σ H Q I h => ?_⟩
  refine thn (hi.run pins s σ H _ I h) fun iv s1 ⟨y, H1, I1, ry, q1⟩ => thn (ho.run pins s1 σ H1 _ I1 q1) fun u s2 ⟨x, H2, I2, rx, a, b, kvs, k, ex, ey, g, gb, q2⟩ => ?_
  subst ex ey
  obtain rfl : u = Value.ref a := rx
  obtain rfl : iv = Value.ref b := ry
  rw [eqF] at q2
  exact u_notIn hu I2 g gb fun s3 I3 => ⟨.bl _, H2, I3, rfl, q2⟩
end
/-- the table of a dict with tuple keys, by what the value is -/
def UDict (x : D) (h : Oh) (l : List (List Key × D)) : Prop := x = dcuP l ∨ ∃ a, x = .obj a ∧ (h a = some (muP l) ∨ ∃ u, h a = some (lkuP u l))
def wUGet (wd wi : WE) : WE := fun S R => wd S fun x S1 => wi S1 fun y S2 => ∃ l k d, KeyU y k ∧ UDict x S2.h l ∧ look l k = some d ∧ R d S2
def wUGetO (j : Nat) (wi : WE) : WE := fun S R => (∃ e, S.s[j]? = some (.o e)) ∧ wi S fun y S1 => ∃ l k d, KeyU y k ∧ S1.s[j]? = some (.o (dcuP l)) ∧ look l k = some d ∧ R d S1
def wUIn (b : Bool) (wi wd : WE) : WE := fun S R => wi S fun y S1 => wd S1 fun x S2 => ∃ l k, KeyU y k ∧ UDict x S2.h l ∧ R (.bl ((look l k).isSome == b)) S2
def wUInO (b : Bool) (wi : WE) (j : Nat) : WE := fun S R => wi S fun y S1 => ∃ l k, KeyU y k ∧ S1.s[j]? = some (.o (dcuP l)) ∧ R (.bl ((look l k).isSome == b)) S1
def wUNew : WE := fun S R => R (dcuP []) S
/-- d[k] = v; k a tuple that is known to be one of ours -/
def wUPut (wd wi wv : WE) : WS := fun D S => wv S fun d S1 => wd S1 fun x S2 => wi S2 fun y S3 => ∃ a l k, x = .obj a ∧ y = .ktp (k.map kD) ∧ S3.h a = some (muP l) ∧ l.length < sizeLine ∧ D.nx (S3.ob a (muP (putP l k d)))
def wUPutO (j : Nat) (wi wv : WE) : WS := fun D S => (∃ e, S.s[j]? = some (.o e)) ∧ wv S fun d S1 => (∃ e, S1.s[j]? = some (.o e)) ∧ wi S1 fun y S2 => ∃ l k, y = .ktp (k.map kD) ∧ S2.s[j]? = some (.o (dcuP l)) ∧ l.length < sizeLine ∧ D.nx (S2.st j (.o (dcuP (putP l k d))))
/-- tuple(e), e a list: one of ours -/
def wKtp (w : WE) : WE := fun S R => w S fun d S1 => ∃ ds, d = .lst ds ∧ R (.ktp ds) S1
/-- .. as any tuple -/
def wUnk (w : WE) : WE := fun S R => w S fun d S1 => match d with
  | .ktp ds => R (.tup ds) S1
  | d => R d S1
section
variable {X : Cx} {Φ : En → Prop} {W : L2.WX} {o e i value : Expr} {pos pos' p : Pos} {w wd wi wk wv : WE}
theorem ob_mu {K : PySem.W.Frag} {F H : Hp} {a : Addr} {l : List (List Key × D)} (h : ObAt K F H a (muP l)) : ∃ kvs, H a = some (.dT kvs) ∧ RepT K F kvs l := let ⟨kvs, h1, h2, h3⟩ := h; ⟨kvs, h1, h2, h3⟩
theorem ob_lku {K : PySem.W.Frag} {F H : Hp} {a : Addr} {l : List (List Key × D)} {u : HO} (h : ObAt K F H a (lkuP u l)) : ∃ od kvs, H a = some (.frz od (.dT kvs)) ∧ RepT K F kvs l := let ⟨h0, od, kvs, h1, h2, h3⟩ := h; ⟨od, kvs, by rw [h0, h1], h2, h3⟩
theorem ow_mu {K : PySem.W.Frag} {F H : Hp} {a : Addr} {l : List (List Key × D)} (h : OwAt K F H a (dcuP l)) : ∃ kvs, H a = some (.dT kvs) ∧ RepT K F kvs l := let ⟨kvs, h1, h2, h3⟩ := h; ⟨kvs, h1, h2, h3⟩
theorem UDict.at_ {K : PySem.W.Frag} {E : En} {F1 F H : Hp} {σ : L2.St} {S : Sg} {x : D} {v : V} {l : List (List Key × D)} (R : Rel K E F H σ S) (r : Rep K F1 v x) (e : Ext F1 F) (h : UDict x S.h l) : ∃ a kvs, v = .ref a ∧ Rd H a (.dT kvs) ∧ RepT K F kvs l := by
  rcases h with rfl | ⟨a, rfl, h | ⟨u, h⟩⟩
  · cases r with
    | dcu h1 h2 h3 => exact ⟨_, _, rfl, .inl (R.g.ext _ _ (e _ _ h1)), h2, h3.mono e⟩
  · cases r
    obtain ⟨kvs, h1, h2⟩ := ob_mu (R.g.obs _ _ h).1
    exact ⟨a, kvs, rfl, .inl h1, h2⟩
  · cases r
    obtain ⟨od, kvs, h1, h2⟩ := ob_lku (R.g.obs _ _ h).1
    exact ⟨a, kvs, rfl, .inr ⟨od, h1⟩, h2⟩
theorem de_uget (hu : X.A.units + 64 < cLine) (ho : DE X Φ o wd) (hi : DE X Φ i wi) (hs : NoSl i) : DE X Φ (.Subscript o i pos) (wUGet wd wi) := fun E hE => PE.imp (pe_uget (u64 hu) (ho E hE) (hi E hE) hs) fun σ H Q => by
  rintro ⟨S, F, R, hR, hw, k⟩
  refine ⟨S, F, _, hR, hw, fun x S1 v1 F1 H1 hw1 r1 hR1 x1 => ⟨S1, F1, _, hR1, hw1, fun y S2 v2 F2 H2 hw2 r2 hR2 x2 => ?_⟩⟩
  obtain ⟨l, kk, d, h1, h2, h3, q⟩ := hw2
  obtain ⟨a, kvs, rfl, h4, h5⟩ := h2.at_ hR2 r1 x2
  obtain ⟨b, rfl, sb⟩ := h1.at_ r2
  obtain ⟨u, h6, h7⟩ := (h5.lk kk).1 d h3
  exact ⟨a, b, kvs, kk, u, rfl, rfl, h4, hR2.g.ext.sqT sb, h6, k d S2 u F2 H2 q h7 hR2 (x1.trans x2)⟩
theorem de_ugetO {x : Str} (j : Nat) (h : PE X (.Name x p) (tVar j)) (hu : X.A.units + 64 < cLine) (hi : DE X Φ i wi) (hs : NoSl i) : DE X Φ (.Subscript (.Name x p) i pos) (wUGetO j wi) := fun E hE => PE.imp (pe_uget (u64 hu) h (hi E hE) hs) fun σ H Q => by
  rintro ⟨S, F, R, hR, ⟨⟨e, he⟩, hw⟩, k⟩
  obtain ⟨q0, h0, _⟩ := hR.own j e he
  refine ⟨_, h0, S, F, _, hR, hw, fun y S1 v1 F1 H1 hw1 r1 hR1 x1 => ?_⟩
  obtain ⟨l, kk, d, h1, h2, h3, q⟩ := hw1
  obtain ⟨q1, g1, g2, _⟩ := hR1.own j _ h2
  rw [h0] at g1
  cases g1
  obtain ⟨kvs, h4, h5⟩ := ow_mu g2
  obtain ⟨b, rfl, sb⟩ := h1.at_ r1
  obtain ⟨u, h6, h7⟩ := (h5.lk kk).1 d h3
  exact ⟨_, b, kvs, kk, u, rfl, rfl, .inl h4, hR1.g.ext.sqT sb, h6, k d S1 u F1 H1 q h7 hR1 x1⟩
theorem uin_go {E : En} (b : Bool) {σ : L2.St} {H : Hp} {Q : V → Hp → Prop} (h : LE X.K E (wUIn b wi wd) σ H Q) : tUIn X.K b (LE X.K E wi) (LE X.K E wd) σ H Q := by
  obtain ⟨S, F, R, hR, hw, k⟩ := h
  refine ⟨S, F, _, hR, hw, fun y S1 v1 F1 H1 hw1 r1 hR1 x1 => ⟨S1, F1, _, hR1, hw1, fun x S2 v2 F2 H2 hw2 r2 hR2 x2 => ?_⟩⟩
  obtain ⟨l, kk, h1, h2, q⟩ := hw2
  obtain ⟨a, kvs, rfl, h4, h5⟩ := h2.at_ hR2 r2 (.refl _)
  obtain ⟨c, rfl, sb⟩ := h1.at_ r1
  refine ⟨a, c, kvs, kk, rfl, rfl, h4, hR2.g.ext.sqT (x2.sqT sb), ?_⟩
  rw [h5.some_eq]
  exact k _ S2 _ F2 H2 q (.bl _) hR2 (x1.trans x2)
theorem uinO_go {E : En} (j : Nat) (b : Bool) {σ : L2.St} {H : Hp} {Q : V → Hp → Prop} (h : LE X.K E (wUInO b wi j) σ H Q) : tUIn X.K b (LE X.K E wi) (tVar j) σ H Q := by
  obtain ⟨S, F, R, hR, hw, k⟩ := h
  refine ⟨S, F, _, hR, hw, fun y S1 v1 F1 H1 hw1 r1 hR1 x1 => ?_⟩
  obtain ⟨l, kk, h1, h2, q⟩ := hw1
  obtain ⟨q1, g1, g2, _⟩ := hR1.own j _ h2
  obtain ⟨kvs, h4, h5⟩ := ow_mu g2
  obtain ⟨c, rfl, sb⟩ := h1.at_ r1
  refine ⟨_, g1, q1, c, kvs, kk, rfl, rfl, .inl h4, hR1.g.ext.sqT sb, ?_⟩
  rw [h5.some_eq]
  exact k _ S1 _ F1 H1 q (.bl _) hR1 x1
theorem de_uin (hu : X.A.units + 64 < cLine) (hi : DE X Φ i wi) (ho : DE X Φ o wd) (hm : behindInMarks .In o = false := by rfl) : DE X Φ (.Compare i [.In] [o] pos) (wUIn true wi wd) := fun E hE => PE.imp (pe_cmp (pc_uin (u64 hu) (hi E hE) (ho E hE)) hm) fun σ H Q h => uin_go true h
theorem de_unotin (hu : X.A.units + 64 < cLine) (hi : DE X Φ i wi) (ho : DE X Φ o wd) (hm : behindInMarks .NotIn o = false := by rfl) : DE X Φ (.Compare i [.NotIn] [o] pos) (wUIn false wi wd) := fun E hE => PE.imp (pe_cmp (pc_unotin (u64 hu) (hi E hE) (ho E hE)) hm) fun σ H Q h => uin_go false h
theorem dt_uin (hu : X.A.units + 64 < cLine) (hi : DE X Φ i wi) (ho : DE X Φ o wd) (hm : behindInMarks .In o = false := by rfl) : DT X Φ (.Compare i [.In] [o] pos) (wBb (wUIn true wi wd)) := fun E hE => PT.imp (pt_cmp (pc_uin (u64 hu) (hi E hE) (ho E hE)) hm) fun σ H Q h => uin_go true (lt_bb h)
theorem dt_unotin (hu : X.A.units + 64 < cLine) (hi : DE X Φ i wi) (ho : DE X Φ o wd) (hm : behindInMarks .NotIn o = false := by rfl) : DT X Φ (.Compare i [.NotIn] [o] pos) (wBb (wUIn false wi wd)) := fun E hE => PT.imp (pt_cmp (pc_unotin (u64 hu) (hi E hE) (ho E hE)) hm) fun σ H Q h => uin_go false (lt_bb h)
theorem dt_uinO {x : Str} (j : Nat) (h : PE X (.Name x p) (tVar j)) (hu : X.A.units + 64 < cLine) (hi : DE X Φ i wi) (hm : behindInMarks .In (.Name x p) = false := by rfl) : DT X Φ (.Compare i [.In] [.Name x p] pos) (wBb (wUInO true wi j)) := fun E hE => PT.imp (pt_cmp (pc_uin (u64 hu) (hi E hE) h) hm) fun σ H Q hh => uinO_go j true (lt_bb hh)
theorem dt_unotinO {x : Str} (j : Nat) (h : PE X (.Name x p) (tVar j)) (hu : X.A.units + 64 < cLine) (hi : DE X Φ i wi) (hm : behindInMarks .NotIn (.Name x p) = false := by rfl) : DT X Φ (.Compare i [.NotIn] [.Name x p] pos) (wBb (wUInO false wi j)) := fun E hE => PT.imp (pt_cmp (pc_unotin (u64 hu) (hi E hE) h) hm) fun σ H Q hh => uinO_go j false (lt_bb hh)
theorem dn_unew : DN X Φ (.Dict [] [] pos) wUNew := fun E hE => PE.imp pe_dnewT fun σ H Q => by
  rintro ⟨S, F, R, hR, hw, k⟩
  intro q hq
  obtain ⟨h1, h2, h3, h4, h5⟩ := hR.fresh (o := .dT []) hq
  exact k _ S q F _ hw ⟨⟨[], upd_same, rfl, .nil⟩, h2, h3, h4, h5⟩ h1 (.refl _)
theorem ds_uput (hu : X.A.units + 64 < cLine) (ho : DE X Tr o wd) (hi : DE X Tr i wi) (hv : DE X Tr value wv) (hs : swapsWith value (some (.Subscript o i pos')) pos.line X.env = pure false := by rfl) : DS X W (.Assign [.Subscript o i pos'] value pos) (wUPut wd wi wv) := fun E => PS.imp (ps_dput (u64 hu) (ho E trivial) (hi E trivial) (hv E trivial) hs) fun D σ H => by
  rintro ⟨S, F, R, hR, hw, k1, k2, k3, k4, k5⟩
  refine ⟨S, F, _, hR, hw, fun d S1 v1 F1 H1 hw1 r1 hR1 x1 => ⟨S1, F1, _, hR1, hw1, fun x S2 v2 F2 H2 hw2 r2 hR2 x2 => ⟨S2, F2, _, hR2, hw2, fun y S3 v3 F3 H3 hw3 r3 hR3 x3 => ?_⟩⟩⟩
  obtain ⟨a, l, kk, rfl, rfl, h2, h3, q⟩ := hw3
  cases r2
  obtain ⟨kvs, g1, g2⟩ := ob_mu (hR3.g.obs _ _ h2).1
  cases r3 with
  | ktp fb sb =>
    rw [reps_keys sb] at fb
    refine ⟨a, _, rfl, .t g1 (hR3.g.ext _ _ fb) (by rw [g2.length]; exact h3), k1 _ σ F3 _ q (hR3.obput (by rw [h2]; simp) ?_) ((x1.trans x2).trans x3)⟩
    obtain ⟨p1, p2⟩ := g2.put kk ((r1.mono x2).mono x3)
    exact ⟨_, upd_same, p1, p2⟩
theorem ds_uputO {x : Str} (j : Nat) (h : PE X (.Name x p) (tVar j)) (hu : X.A.units + 64 < cLine) (hi : DE X Tr i wi) (hv : DE X Tr value wv) (hs : swapsWith value (some (.Subscript (.Name x p) i pos')) pos.line X.env = pure false := by rfl) : DS X W (.Assign [.Subscript (.Name x p) i pos'] value pos) (wUPutO j wi wv) := fun E => PS.imp (ps_dput (u64 hu) h (hi E trivial) (hv E trivial) hs) fun D σ H => by
  rintro ⟨S, F, R, hR, ⟨⟨e, he⟩, hw⟩, k1, k2, k3, k4, k5⟩
  refine ⟨S, F, _, hR, hw, fun d S1 v1 F1 H1 hw1 r1 hR1 x1 => ?_⟩
  obtain ⟨⟨e1, he1⟩, hw1⟩ := hw1
  obtain ⟨q0, h0, _⟩ := hR1.own j e1 he1
  refine ⟨_, h0, S1, F1, _, hR1, hw1, fun y S2 v2 F2 H2 hw2 r2 hR2 x2 => ?_⟩
  obtain ⟨l, kk, rfl, h2, h3, q⟩ := hw2
  obtain ⟨q1, g1, g2, _⟩ := hR2.own j _ h2
  rw [h0] at g1
  cases g1
  obtain ⟨kvs, h4, h5⟩ := ow_mu g2
  cases r2 with
  | ktp fb sb =>
    rw [reps_keys sb] at fb
    refine ⟨_, _, rfl, .t h4 (hR2.g.ext _ _ fb) (by rw [h5.length]; exact h3), k1 _ σ F2 _ q (hR2.mut h2 h0 ?_) (x1.trans x2)⟩
    obtain ⟨p1, p2⟩ := h5.put kk (r1.mono x2)
    exact ⟨_, upd_same, p1, p2⟩
theorem de_unk (h : DE X Φ e w) : DE X Φ e (wUnk w) := fun E hE => PE.imp (h E hE) fun σ H Q => by
  rintro ⟨S, F, R, hR, hw, k⟩
  refine ⟨S, F, _, hR, hw, fun d S1 v F1 H1 hw1 r1 hR1 x1 => ?_⟩
  split at hw1
  · cases r1 with
    | ktp fb sb => exact k _ S1 _ F1 H1 hw1 (.tup (.of fb) sb) hR1 x1
  · exact k _ S1 _ F1 H1 hw1 r1 hR1 x1
end
section
variable {K : PySem.W.Frag} {E : En} {F H : Hp} {σ : L2.St} {S : Sg} {q : Addr} {vs : List V}
/-- a tuple is frozen, whoever made it -/
theorem Rel.addTup (R : Rel K E F H σ S) (hF : F q = none) (hq : H q = some (.tup vs)) : Rel K E (upd F q (.tup vs)) H σ S := by
  have x : Ext F (upd F q (.tup vs)) := .new hF
  refine ⟨⟨fun b u e => ?_, R.g.gF.trans x, fun b h1 h2 h3 => ?_, R.g.gH, R.g.gP, R.g.gO, fun a ob e => ?_⟩, R.len, fun i d e => ?_, fun i d e => ?_, R.inj⟩
  · by_cases hb : b = q
    · subst hb; rw [upd_same] at e; cases e; exact hq
    · rw [upd_ne hb] at e; exact R.g.ext _ _ e
  · by_cases hb : b = q
    · subst hb; exact .inr ⟨vs, hq⟩
    · rw [upd_ne hb]; exact R.g.gN b h1 h2 h3
  · obtain ⟨h1, h2⟩ := R.g.obs a ob e
    have na : a ≠ q := fun z => TupO.ob h1 ⟨vs, by rw [z]; exact hq⟩
    exact ⟨h1.mono x rfl, by rw [upd_ne na]; exact h2⟩
  · obtain ⟨v, h1, h2⟩ := R.frz i d e
    exact ⟨v, h1, h2.mono x⟩
  · obtain ⟨p, h1, h2, h3, h4, h5⟩ := R.own i d e
    have np : p ≠ q := fun z => TupO.ow h2 ⟨vs, by rw [z]; exact hq⟩
    exact ⟨p, h1, h2.mono x rfl, by rw [upd_ne np]; exact h3, h4, h5⟩
theorem Rel.tupAt (R : Rel K E F H σ S) (hq : H q = some (.tup vs)) : ∃ F', Rel K E F' H σ S ∧ Ext F F' ∧ F' q = some (.tup vs) := by
  cases e : F q with
  | none => exact ⟨_, R.addTup e hq, .new e, upd_same⟩
  | some o =>
    have := R.g.ext _ _ e
    rw [hq] at this
    cases this
    exact ⟨F, R, .refl _, e⟩
end
theorem reps_ofkeys {K : PySem.W.Frag} {F : Hp} : ∀ k : List Key, Reps K F (k.map kV) (k.map kD)
  | [] => .nil
  | a :: k => .cons (kD_rep a) (reps_ofkeys k)
/-- the dict is locked while the loop runs -/
def unl (a : Addr) (u : HO) (l : List (List Key × D)) (D : We) : We :=
  { nx := fun S => S.h a = some (lkuP u l) ∧ D.nx (S.ob a (muP l)), rt := fun d S => S.h a = some (lkuP u l) ∧ D.rt d (S.ob a (muP l)), bk := fun S => S.h a = some (lkuP u l) ∧ D.bk (S.ob a (muP l)), ct := fun S => S.h a = some (lkuP u l) ∧ D.ct (S.ob a (muP l)) }
def wForUL (a : Addr) (u : HO) (l : List (List Key × D)) (g : WG) (tb : WS) (T : We) : List (List Key) → Sg → Prop
  | [], S => S.h a = some (lkuP u l) ∧ T.nx S
  | k :: ks, S => S.h a = some (lkuP u l) ∧ g (.ktp (k.map kD)) S fun S1 => tb { T with nx := wForUL a u l g tb T ks, ct := wForUL a u l g tb T ks, bk := T.nx } S1
def wForU (j : Nat) (g : WG) (tb : WS) : WS := fun D S => ∃ a l, S.s[j]? = some (.f (.obj a)) ∧ S.h a = some (muP l) ∧ ∀ u, wForUL a u l g tb (unl a u l D) (l.map (·.1)) (S.ob a (lkuP u l))
section
variable {X : Cx} {Φ : En → Prop} {W : L2.WX} {e : Expr} {w : WE} {pos p : Pos}
theorem ds_forU {x : Str} {g : WG} {tg : Expr} {body : List Stmt} {tb : WS} (j : Nat) (h : PE X (.Name x p) (tVar j)) (hp : PassesOwn (model X.prog X.w) X.A X.env X.xe) (hc : X.calm = true) (hg : DG X Tr tg g) (hb : DSs X W body tb)
    (hs : ∀ y, foldedSetIterable (.Name x p) X.env y = pure y := by intro _; rfl) : DS X W (.For tg (.Name x p) body [] pos) (wForU j g tb) := fun E => PS.imp (ps_lock (ps_for hp hc (pi_keys h) (hg E trivial) (hb E) hs)) fun D σ H => by
  rintro ⟨S, F, R, hR, ⟨a, l, hj, ha, hw⟩, k1, k2, k3, k4, k5⟩
  obtain ⟨v0, h0, r0⟩ := hR.frz j _ hj
  cases r0
  obtain ⟨kvs, g1, g2⟩ := ob_mu (hR.g.obs _ _ ha).1
  refine ⟨a, .dT kvs, g1, True.intro, fun od => ?_⟩
  have len : kvs.length = l.length := g2.length
  replace hw := hw (.frz od (.dT kvs))
  have hR0 : Rel X.K E F (upd H a (.frz od (.dT kvs))) σ (S.ob a (lkuP (.frz od (.dT kvs)) l)) := hR.obput (by rw [ha]; simp) ⟨upd_same, od, kvs, rfl, g2.1, g2.2⟩
  have back : ∀ {S' F' H' σ'}, Rel X.K E F' H' σ' S' → Ext F F' → S'.h a = some (lkuP (.frz od (.dT kvs)) l) → H' a = some (.frz od (.dT kvs)) ∧ Rel X.K E F' (upd H' a (.dT kvs)) σ' (S'.ob a (muP l)) := fun R' x' h' => ⟨(R'.g.obs _ _ h').1.1, R'.obput (by rw [h']; simp) ⟨kvs, upd_same, g2.1, g2.2.mono x'⟩⟩
  refine ⟨_, h0, a, od, rfl, .inr ⟨kvs, upd_same, ?_⟩⟩
  obtain ⟨ks, hks⟩ : ∃ ks, ks = l.map (·.1) := ⟨_, rfl⟩
  have g21 : kvs.map (·.1) = ks := by rw [hks]; exact g2.1
  rw [← hks] at hw
  have lk : ks.length = kvs.length := by rw [hks, List.length_map, len]
  refine ⟨fun i m σ H => m + i = kvs.length ∧ ∃ F2 S2, Rel X.K E F2 H σ S2 ∧ Ext F F2 ∧ wForUL a (.frz od (.dT kvs)) l g tb (unl a (.frz od (.dT kvs)) l R) (ks.drop i) S2, ⟨kvs.length, rfl, F, _, hR0, .refl _, hw⟩, fun i m σ2 H2 hW => ?_⟩
  obtain ⟨hm, F2, S2, hR2, x2, hw2⟩ := hW
  by_cases hi : i < kvs.length
  · have hi' : i < ks.length := by omega
    rw [List.drop_eq_getElem_cons hi'] at hw2
    obtain ⟨ha2, hw2⟩ := hw2
    obtain ⟨q1, _⟩ := back hR2 x2 ha2
    refine .inr ⟨⟨q1, hi⟩, fun σ' H' => ∃ F3 S3, Rel X.K E F3 H' σ' S3 ∧ Ext F F3 ∧ wForUL a (.frz od (.dT kvs)) l g tb (unl a (.frz od (.dT kvs)) l R) (ks.drop (i + 1)) S3, fun σ' H' hN => ⟨m - 1, by omega, by omega, hN⟩, fun x H3 hy => ?_⟩
    obtain ⟨rfl, k, v, q, e1, rfl, e3⟩ := hy
    have ek : ks[i]'hi' = k := by
      have z : (kvs.map (·.1))[i]? = some k := by rw [List.getElem?_map, e1]; rfl
      rw [g21, List.getElem?_eq_getElem hi'] at z
      exact Option.some.inj z
    obtain ⟨F3, hR3, x3, f3⟩ := hR2.tupAt e3
    rw [ek] at hw2
    refine ⟨S2, F3, _, _, hR3, .ktp f3 (reps_ofkeys k), hw2, fun S4 σ4 F4 H4 hw4 hR4 x4 => ?_⟩
    have x14 : Ext F F4 := (x2.trans x3).trans x4
    refine ⟨S4, F4, _, hR4, hw4, fun S' σ' F' H' q r x => ⟨F', S', r, x14.trans x, q⟩, fun S' σ' F' H' q r x => ?_, fun S' σ' F' H' q r x => ⟨F', S', r, x14.trans x, q⟩, fun d S' v σ' F' H' q rv r' x => ?_, fun c fs S' cls dd σ' F' H' q _ _ => q.elim⟩
    · obtain ⟨z1, z2⟩ := back r (x14.trans x) q.1
      exact ⟨z1, k1 _ σ' F' _ q.2 z2 (x14.trans x)⟩
    · obtain ⟨z1, z2⟩ := back r' (x14.trans x) q.1
      exact ⟨z1, k4 d _ v σ' F' _ q.2 rv z2 (x14.trans x)⟩
  · rw [List.drop_eq_nil_of_le (by omega)] at hw2
    obtain ⟨ha2, hw2⟩ := hw2
    obtain ⟨q1, q2⟩ := back hR2 x2 ha2
    exact .inl ⟨⟨q1, by omega⟩, q1, k1 _ σ2 F2 _ hw2.2 q2 x2⟩
theorem call_tupK (X : Cx) : CallR X (.type "tuple") (fun xs H Q => ∃ p ys, xs = [.ref p] ∧ SqL X.K H p ys ∧ ∀ l, H l = none → Q (.ref l) (upd H l (.tup ys))) := CallR.any fun xs H Q => by
  rintro ⟨p, ys, e, h, k⟩
  exact ⟨_, call_tuple_of, p, ys, e, .inl ⟨h, k⟩⟩
theorem de_ktp (hg : Gl X "tuple") (hm : X.mg "tuple" = none) (he : DE X Φ e w) (h1 : starEach [e] X.env = [(false, eval e X.env)] := by rfl) : DE X Φ (.Call (.Name "tuple" p) [e] [] pos) (wKtp w) := fun E hE => PE.imp (pe_callTy (T := "tuple") (call_tupK X) hg hm (by decide +kernel) (pa_cons (he E hE) pa_nil h1) (he := h1) (hpl := by rfl)) fun σ H Q => by
  rintro ⟨S, F, R, hR, hw, k⟩
  refine ⟨S, F, _, hR, hw, fun d S1 v F1 H1 hw1 r1 hR1 x1 => ?_⟩
  obtain ⟨ds, rfl, q⟩ := hw1
  cases r1 with
  | lst ha hs =>
    rename_i a vs
    refine ⟨_, _, rfl, .of (hR1.g.ext _ _ ha), fun t ht => ?_⟩
    have al := Al.one (o := .tup vs) hR1.g.ext ht
    exact k _ S1 _ _ _ q (.ktp upd_same (hs.mono al.xF)) (hR1.al al) (x1.trans al.xF)
end
/-! ### len(d), d a dict with tuple keys -/
section
variable {X : Cx} {pins : List (Addr × Obj)} {σ : L2.St} {H : Hp} {s : Shared} {a : Addr} {A : Around} {E : Value → Shared → Prop} {kvs : List (List Key × V)}
theorem u_len {Q : Value → Shared → Prop} (I : Inv X pins σ H s) (e : Rd H a (.dT kvs)) (h : ∀ t s', Inv X pins σ H s' → Q (.int kvs.length t) s') : wpAny (model X.prog X.w) A (call (.builtin "len") [.ref a]) Q E s := by
  obtain ⟨z, hd, xs, rel, o, es, ep, h1, h2, h3, h4, h5⟩ := dt_rd I.hok e
  have hm : s.heap.DictRaw a es ep := ⟨o, h1, h2, h3⟩
  have hn : es.size = kvs.length := by
    have l1 : kvs.length = xs.length := Paired.length rel
    rw [← Array.length_toList, h4, List.length_map, l1]
  have hz : ((es.size : Nat) : Int) < 2 ^ 63 := by rw [hn]; rw [sizeLine_eq] at z; omega
  refine Calls.call_function_entry kind_len plain_len entry_len (args_len1 _) ?_
  unfold Builtin.«len»
  refine wpAny_bind (m := oneArg "len" _) (wpAny_pure ?_)
  refine wpAny_bind (m := callSpecial? (.ref a) (Str.ofString "__len__")) (wpAny_callSpecial?_slot (name := Str.ofString "__len__") hm.typeIs PySem.F.slot_dict_len (call_len_raw hd hm ?_))
  refine wpAny_bind (wpAny_holding (wpAny_pure (wpAny_bind (wpAny_letGo ?_))))
  show wpAny _ _ (if ((es.size : Nat) : Int) < 0 then _ else _) _ _ _
  rw [if_neg (by omega)]
  show wpAny _ _ (if ((es.size : Nat) : Int) ≥ 2 ^ 63 then _ else _) _ _ _
  rw [if_neg (by omega)]
  rw [hn]
  exact wpAny_bind (wpAny_mkInt (wpAny_pure ⟨_, rfl, h _ _ (I.tok _)⟩))
theorem cr_ulen : CallR X (.builtin "len") (fun vs H Q => ∃ (a : Addr) (kvs : List (List Key × V)), vs = [.ref a] ∧ Rd H a (.dT kvs) ∧ Q (.int kvs.length) H) := by
  intro pins s σ H vs us Q I r hq
  obtain ⟨a, kvs, rfl, ha, q⟩ := hq
  obtain rfl := Vals.ref1 r
  exact u_len I ha fun t s' I' => ⟨.int _, H, I', ⟨t, rfl⟩, q⟩
def wULen (w : WE) : WE := fun S R => w S fun x S1 => ∃ l, UDict x S1.h l ∧ R (.int l.length) S1
theorem de_ulen {Φ : En → Prop} {e : Expr} {p pos : Pos} {w : WE} (hg : Gl X "len") (hm : X.mg "len" = none) (he : DE X Φ e w) (h1 : starEach [e] X.env = [(false, eval e X.env)] := by rfl) : DE X Φ (.Call (.Name "len" p) [e] [] pos) (wULen w) := fun E hE => PE.imp (pe_callB cr_ulen hg hm (by decide +kernel) (pa_cons (he E hE) pa_nil h1) (he := h1) (hpl := by rfl)) fun σ H Q => by
  rintro ⟨S, F, R, hR, hw, k⟩
  refine ⟨S, F, _, hR, hw, fun x S1 v F1 H1 hw1 r1 hR1 x1 => ?_⟩
  obtain ⟨l, h2, q⟩ := hw1
  obtain ⟨a, kvs, rfl, h4, h5⟩ := h2.at_ hR1 r1 (.refl _)
  exact ⟨a, kvs, rfl, h4, k _ S1 _ F1 H1 (by rw [h5.length]; exact q) (.int _) hR1 x1⟩
end
end VL

set_option Elab.async false
set_option linter.all false
set_option maxRecDepth 100000
set_option maxHeartbeats 4000000
/-! VL17: a comprehension whose step may raise. -/
namespace VL
open PySem PySem.Spec PyProof.Rows L2
/-! ### the frames that are looked at are those of the def -/
theorem note_of {x : Value} {e f : Env} (h : e.frame = f.frame) : noteFrame x e = noteFrame x f := by
  unfold noteFrame PySem.frameOf
  rw [h]
/-- what a comprehension's block ends in; an exception passes on over the def's frame -/
def BlkEnd (Mo : Model) (Ar : Around) (Ex : Value → Shared → Prop) (Qv : Value → Shared → Prop) (w : Value) (ce : Env) (r : Result) (t : Shared) : Prop :=
  match r with
  | .ok _ => ∃ m, t.heap.Ns ce.locals m ∧ ∀ g, Heap.SameBut ce.locals t.heap g → Qv w { t with heap := g }
  | .error x => ∃ m, t.heap.Ns ce.locals m ∧ ∀ g, Heap.SameBut ce.locals t.heap g → ∀ f : Env, f.frame = ce.frame → wpAny Mo Ar (passOn "comprehension.variables-let-go" x f : Sem Value) (fun _ _ => False) Ex { t with heap := g }
theorem comp_rule {Mo : Model} {Ar : Around} {Ex : Value → Shared → Prop} {t : Shared} {en : Env} {ex : Expr} {sc : Scope} {ps : Pos} {mk fst : Sem Value} {gn : Comprehension} {rs : List Comprehension} {cs : List (Str × Addr)} {Qv : Value → Shared → Prop}
    (h1 : clausesOf ex = gn :: rs) (h2 : ∀ x, foldedSetIterable gn.iter en x = pure x) (h3 : closureFor sc en = pure cs)
    (h4 : sc.kind = .function) (h5 : ∀ y ∈ sc.names, y.2 = .local → sc.names.lookup y.1 = some .local)
    (hb : wpAny Mo Ar fst (fun x t1 => wpAny Mo Ar (pyIter x) (fun i t2 => wpAny Mo Ar mk (fun w t3 =>
      wpAny Mo Ar (newFunctionEnv sc en.globals cs [] en.qual none .none (some en)) (fun ce t4 =>
        codeAny Mo Ar (.compStart ex 0 i w { ce with scope := relabel sc en }) (BlkEnd Mo Ar Ex Qv w { ce with scope := relabel sc en }) t4) Ex t3) Ex t2) Ex t1) Ex t) :
    wpAny Mo Ar (comprehension ex sc en ps mk false fst none) Qv Ex t := by
  unfold comprehension
  rw [h3, h1]
  refine wpAny_bind (wpAny_mono hb (fun x t1 q1 => ?_) fun _ _ z => z)
  refine wpAny_bind (wpAny_standAt (wpAny_bind (wpAny_of_eq (h2 x) (wpAny_bind (wpAny_holding (wpAny_mono q1 (fun i t2 q2 => ?_) fun _ _ z => z))))))
  refine wpAny_standIf (wpAny_bind (wpAny_mono q2 (fun w t3 q3 => ?_) fun _ _ z => z))
  refine wpAny_bind (wpAny_pure (wpAny_bind (wpAny_mono q3 (fun ce t4 q4 => ?_) fun _ _ z => z)))
  dsimp only
  have own : ∀ y ∈ (sc.names.filter fun y => (y.2 == .local || y.2 == .cell) && y.1 != (".0" : Str)).reverse, y.2 = .local → Env.kindOf { ce with scope := relabel sc en } y.1 = some .local := fun y hy hl =>
    lookup_relabel_local (h5 y (List.mem_filter.mp (List.mem_reverse.mp hy)).1 hl)
  refine wpAny_holding (wpAny_bind (wpAny_attempt (wpAny_holding (wpAny_run (codeAny_mono q4 fun r t5 hr => ?_)))))
  cases r with
  | ok f =>
    obtain ⟨m, k1, k2⟩ := hr
    refine wpAny_bind (wpAny_holding ?_)
    exact wpAny_comp_letGo (cenv := { ce with scope := relabel sc en }) h4 _ t5 m own k1 fun g m' _ hg => wpAny_pure (k2 g hg)
  | error x =>
    obtain ⟨m, k1, k2⟩ := hr
    refine wpAny_bind (wpAny_holding ?_)
    exact wpAny_comp_letGo (cenv := { ce with scope := relabel sc en }) h4 _ t5 m own k1 fun g m' _ hg => wpAny_mono (k2 g hg _ rfl) (fun _ _ z => z.elim) fun _ _ z => z
/-! ### an exception that comes out of a call within the block -/
/-- what a call lets out is taken -/
def TakesF (X : Cx) (W : L2.WX) : Prop := ∀ (pins : List (Addr × Obj)) (σ : L2.St) (H : Hp) (s : Shared) (E : XK) (u : Value) (s' : Shared), Inv X pins σ H s → (∀ cls d H', E cls d H' → W cls d σ H') → CX X.prog X.w X.stack H s E u s' → X.xe u s'
/-- a block's context, with a wish about exceptions -/
abbrev blkX (X : Cx) (s : Shared) (H : Hp) (scope : Scope) (ce : Env) (fp : List Addr) (xe : Value → Shared → Prop) : Cx := { X.blk s H scope ce fp with xe := xe }
theorem ok_xe {X : Cx} {xe : Value → Shared → Prop} (o : X.Ok) : Cx.Ok { X with xe := xe } := by
  obtain ⟨a1, a2, a3, a4, a5, a6, a7, a8, a9, b1, b2, b3, b4, b5, b6, b7, b8, b9⟩ := o
  exact ⟨a1, a2, a3, a4, a5, a6, a7, a8, a9, b1, b2, b3, b4, b5, b6, b7, b8, b9⟩
theorem inv_xe {X : Cx} {xe : Value → Shared → Prop} {pins : List (Addr × Obj)} {σ : L2.St} {H : Hp} {s : Shared} (I : Inv X pins σ H s) : Inv { X with xe := xe } pins σ H s := by
  obtain ⟨a1, a2, a3, a4, a5, a6, a7, a8, a9, b1, b2⟩ := I
  exact ⟨ok_xe a1, a2, a3, a4, a5, a6, a7, a8, a9, b1, b2⟩
theorem inv_blk {X : Cx} {s0 : Shared} {H0 : Hp} {scope : Scope} {ce : Env} {fp : List Addr} {xe : Value → Shared → Prop} {pins : List (Addr × Obj)} {σ : L2.St} {H : Hp} {s : Shared} (I : Inv (blkX X s0 H0 scope ce fp xe) pins σ H s) : Inv (X.blk s0 H0 scope ce fp) pins σ H s := by
  obtain ⟨⟨c1, c2, c3, c4, c5, c6, c7, c8, c9, d1, d2, d3, d4, d5, d6, d7, d8, d9⟩, a2, a3, a4, a5, a6, a7, a8, a9, b1, b2⟩ := I
  exact ⟨⟨c1, c2, c3, c4, c5, c6, c7, c8, c9, d1, d2, d3, d4, d5, d6, d7, d8, d9⟩, a2, a3, a4, a5, a6, a7, a8, a9, b1, b2⟩
/-- in the air of X: it flies -/
theorem fly_of {X : Cx} {pins : List (Addr × Obj)} {σ : L2.St} {H : Hp} {s s' : Shared} {E : XK} {u : Value} (I : Inv X pins σ H s) (c : CX X.prog X.w X.stack H s E u s') :
    ∃ (a : Addr) (B : Heap) (sI : Shared) (pins' : List (Addr × Obj)) (σ' : L2.St) (H' : Hp) (cls : Value) (d : Option Addr), u = .ref a ∧ Inv X pins' σ' H' sI ∧ (∀ b o, sI.heap.get? b = some o → b ∉ frs X.stack → B.get? b = some o) ∧ sI.heap.UpToSlots s'.heap ∧
      HandSPX.FlyingZ B X.stack a (Zc cls d) s'.heap ∧ H' a = none ∧ s'.os = sI.os ∧ AllBare s'.gens ∧ E cls d H' := by
  obtain ⟨a, B, sI, pins', σ', H', cls, d, e, I', nb, up, sky, na, os, ag, w⟩ := XE.of_call (W := fun cls d _ H' => E cls d H') I (fun _ _ _ h => h) c
  obtain ⟨a0, B0, H0, cls0, d0, e0, fl, _⟩ := c
  rw [e] at e0
  cases e0
  refine ⟨a, B, sI, pins', σ', H', cls, d, e, I', nb, up, ?_, na, os, ag, w⟩
  obtain ⟨_, _, _, oe, vs, T, oT, ts, he, hz, hd, h1, hnT, hTe, hT, hdT, h3⟩ := fl
  rcases sky with ⟨_, _, _, oe', vs', he', _, hd', h1'⟩ | z | ⟨_, _, _, oe', vs', T', oT', ts', he', _, hd', h1', _, _, hT', hdT', h3'⟩
  · rw [he] at he'; cases he'
    rw [hd] at hd'; cases hd'
    rw [h1] at h1'; cases h1'
  · exact z
  · rw [he] at he'; cases he'
    rw [hd] at hd'; cases hd'
    rw [h1] at h1'; cases h1'
    rw [hT] at hT'; cases hT'
    rw [hdT] at hdT'; cases hdT'
    rw [h3] at h3'; cases h3'
/-- the ground without the block's names -/
theorem held_less {B h g : Heap} {l : List Env} {a C : Addr} {Z : Obj → Prop} {fl : Value} {m : Str → Option Value} (st : B.StaysIn h) (fr : h.FunFrames B l) (tz : HandSPX.TracedZ h B a Z fl) (hC : h.Ns C m) (hl : C ∉ frs l) (sb : Heap.SameBut C h g) :
    (PySem.W.hideAll B [C]).StaysIn g ∧ g.FunFrames (PySem.W.hideAll B [C]) l ∧ HandSPX.TracedZ g (PySem.W.hideAll B [C]) a Z fl := by
  have less : ∀ b o, (PySem.W.hideAll B [C]).get? b = some o → B.get? b = some o ∧ b ≠ C := fun b o e => by
    refine ⟨PySem.W.of_hideAll _ e, fun z => ?_⟩
    rw [PySem.W.hideAll_none [C] (by rw [z]; exact List.mem_cons_self)] at e
    cases e
  obtain ⟨oC, es, ep, eC, dC, _⟩ := hC
  obtain ⟨oe, vs, T, oT, ts, he, hz, hd, h1, hnT, hTe, hT, hdT, h3⟩ := tz
  have na : a ≠ C := fun z => by
    rw [z, eC] at he; cases he
    rw [dC] at hd; cases hd
  have nT : T ≠ C := fun z => by
    rw [z, eC] at hT; cases hT
    rw [dC] at hdT; cases hdT
  have none_of : ∀ b, B.get? b = none → (PySem.W.hideAll B [C]).get? b = none := fun b e => by
    cases q : (PySem.W.hideAll B [C]).get? b with
    | none => rfl
    | some o => rw [(less b o q).1] at e; cases e
  refine ⟨fun b o e => ?_, ?_, oe, vs, T, oT, ts, (sb.2 a na).trans he, hz, hd, h1, none_of T hnT, hTe, (sb.2 T nT).trans hT, hdT, h3⟩
  · obtain ⟨e1, e2⟩ := less b o e
    exact (sb.2 b e2).trans (st b o e1)
  · have go : ∀ l : List Env, h.FunFrames B l → C ∉ frs l → g.FunFrames (PySem.W.hideAll B [C]) l := by
      intro l
      induction l with
      | nil => intro _ _; trivial
      | cons en r ih =>
        rintro ⟨k1, ⟨L, o, k2, k3, k4, k5⟩, k6⟩ hn
        have nL : L ≠ C := fun z => hn (List.mem_filterMap.mpr ⟨en, List.mem_cons_self, z ▸ k2⟩)
        refine ⟨k1, ⟨L, o, k2, none_of L k3, (sb.2 L nL).trans k4, k5⟩, ih k6 fun z => hn ?_⟩
        obtain ⟨e', h', q'⟩ := List.mem_filterMap.mp z
        exact List.mem_filterMap.mpr ⟨e', List.mem_cons_of_mem _ h', q'⟩
    exact go l fr hl
/-- it leaves the block, and is in the air of the def -/
theorem blk_out {X : Cx} {s0 : Shared} {H0 : Hp} {scope : Scope} {cl : List (Str × Addr)} {C : Addr} {fp : List Addr} {xe : Value → Shared → Prop} {W : L2.WX} {pins p0 : List (Addr × Obj)} {σ σ1 : L2.St} {H1 : Hp} {s1 s2 : Shared} {E : XK} {u w : Value} {Qv : Value → Shared → Prop}
    (hs : X.stack = X.env :: X.outer) (hf : X.env.frame = some X.env.locals) (tk : Takes X W) (I0 : Inv X pins σ H0 s0) (hC : C = s0.heap.objs.size)
    (hfp : ∀ b ∈ fp, FpOk X pins H0 b)
    (J : Inv (blkX X s0 H0 scope (compEnvC scope cl C X.env) fp xe) p0 σ1 H1 s1) (hE : ∀ cls d H', E cls d H' → W cls d σ H')
    (c : CX X.prog X.w X.stack H1 s1 E u s2) :
    notedBy (model X.prog X.w) X.A (compEnvC scope cl C X.env) (fun e t => BlkEnd (model X.prog X.w) X.A X.xe Qv w (compEnvC scope cl C X.env) (.error e) t) u s2 := by
  obtain ⟨a, B, sI, p1, σI, H2, cls, d, rfl, II, nb, up, fl, na, os, ag, w1⟩ := fly_of J c
  have II := inv_blk II
  have hst : X.stack = X.env :: X.outer := hs
  have nC : H2 C = none := II.free
  obtain ⟨mC, NC, _⟩ := II.loc
  have NC : sI.heap.Ns C mC := NC
  have I7 : Inv X pins σ H2 sI := I0.call' (ch := fp) II.os II.base II.hok II.bare fun b hb => ⟨(hfp b hb).2.2.2.1, (hfp b hb).2.1, (hfp b hb).2.2.2.2.1, (hfp b hb).2.2.2.2.2⟩
  have fC : FpOk X pins H2 C := I0.fpOk (Nat.le_of_eq hC.symm) nC
  have Cst : C ∉ frs X.stack := fun hm => by
    rw [hs] at hm
    rcases List.mem_cons.mp (show C ∈ X.env.locals :: frs X.outer from by unfold frs at hm ⊢; rw [List.filterMap_cons, hf] at hm; exact hm) with z | z
    · exact fC.2.1 z
    · exact fC.2.2.1 z
  have gone : ∀ b o, (PySem.W.hideAll sI.heap [C]).get? b = some o → sI.heap.get? b = some o ∧ b ≠ C := fun b o e => by
    refine ⟨PySem.W.of_hideAll _ e, fun z => ?_⟩
    rw [PySem.W.hideAll_none [C] (by rw [z]; exact List.mem_cons_self)] at e
    cases e
  have I8 : Inv X pins σ H2 { sI with heap := PySem.W.hideAll sI.heap [C], toks := sI.toks } :=
    I7.turned (t' := sI.toks) (fun b o hb e => PySem.W.hideAll_get [C] e (by simpa using hb)) fC.1 fC.2.1 fC.2.2.2.1 fC.2.2.2.2.1 fC.2.2.2.2.2
  unfold notedBy
  rw [note_of (f := X.env) (show (compEnvC scope cl C X.env).frame = X.env.frame from rfl)]
  have hfr : X.A.frames = some (X.env :: X.outer) := by rw [I0.ok.frames, hs]
  rw [hs] at fl
  refine HandSPX.looks_onZ Zc.steady hfr hf fl fun h3 hh up3 => ?_
  obtain ⟨z1, z2, z3, z4⟩ := hh
  have NC3 : h3.Ns C mC := up3.ns (up.ns NC)
  refine ⟨mC, NC3, fun g sb f hff => ?_⟩
  obtain ⟨y1, y2, y3⟩ := held_less z1 z3 z4 NC3 (by rw [← hs]; exact Cst) sb
  have hff : f.frame = some X.env.locals := hff.trans hf
  obtain ⟨oe, vs, T, oT, ts, he, hz, hd, h1, _⟩ := id y3
  unfold PySem.passOn
  refine wpAny_bind (wpAny_field he hd h1 ?_)
  rw [if_neg (show ¬ ((Value.ref T == Value.none) = true) from by simp)]
  have fin : wpAny (model X.prog X.w) X.A (setFlight (.ref a) f.frame) (fun _ t4 => wpAny (model X.prog X.w) X.A (throw (.ref a) : Sem Value) (fun _ _ => False) X.xe t4) X.xe { s2 with heap := g } := by
    refine HandSPX.setFlight_anyZ (s := { s2 with heap := g }) y1 y2 y3 fun h5 k1 k2 k3 k4 => wpAny_throw (tk _ _ ?_)
    refine ⟨a, PySem.W.hideAll B [C], { sI with heap := PySem.W.hideAll sI.heap [C], toks := sI.toks }, pins, σ, H2, cls, d, rfl, I8, fun b o e hb => ?_, fun b o e hn => ?_, .inr (.inr ?_), na, os, ag, hE _ _ _ w1⟩
    · obtain ⟨e1, e2⟩ := gone b o e
      exact PySem.W.hideAll_get [C] (nb b o e1 hb) (by simpa using e2)
    · obtain ⟨e1, e2⟩ := gone b o e
      obtain ⟨sl, q⟩ := (up.trans up3) b o e1 hn
      obtain ⟨sl2, q2⟩ := k4 b _ ((sb.2 b e2).trans q) hn
      exact ⟨sl2, q2⟩
    · rw [hs]
      refine ⟨k1, ?_, k2, by rw [hff] at k3; exact k3⟩
      cases q : (PySem.W.hideAll B [C]).get? a with
      | none => rfl
      | some o => rw [PySem.W.of_hideAll _ q] at z2; cases z2
  first
    | exact wpAny_bind (wpAny_pure (wpAny_bind fin))
    | exact wpAny_bind fin

section
variable {X : Cx} {pins : List (Addr × Obj)} {σ : L2.St} {H : Hp} {Q : VK} {elt tg iter : Expr} {ifs : List Expr} {scope : Scope} {own : List (Str × Nat)} {pos pos' : Pos} {wi : TI} {g : TG} {tt : TT} {te : L2.WX → TE} {W : L2.WX}
/-- the comprehension, its step may raise -/
theorem pe_lcX (calm : X.calm = true) (nd : X.N.Nodup) (hs0 : X.stack = X.env :: X.outer) (hf0 : X.env.frame = some X.env.locals) (tk : Takes X W) (pi : PI X tg iter wi) (ok : BlkOk X.N X.env.scope scope own)
    (pg : ∀ (s : Shared) (H : Hp) (C : Addr) (cl : List (Str × Addr)) (fp : List Addr), PG (X.blk s H scope (compEnvC scope cl C X.env) fp) tg g) (pt : ∀ (s : Shared) (H : Hp) (C : Addr) (cl : List (Str × Addr)) (fp : List Addr), PTs (X.blk s H scope (compEnvC scope cl C X.env) fp) ifs tt)
    (pe : ∀ (s : Shared) (H : Hp) (C : Addr) (cl : List (Str × Addr)) (fp : List Addr) (xe : Value → Shared → Prop) (W' : L2.WX), TakesF (blkX X s H scope (compEnvC scope cl C X.env) fp xe) W' → PE (blkX X s H scope (compEnvC scope cl C X.env) fp xe) elt (te W'))
    (fs : ∀ x, foldedSetIterable iter X.env x = pure x := by intro _; rfl) :
    PE X (.ListComp elt [⟨tg, iter, ifs, 0⟩] scope pos) (fun σ H Q => tLc wi g tt (te fun c d _ H' => W c d σ H') (own.map (·.2)) σ H Q) := by
  refine ⟨fun pins s σ H Q I tl => ?_⟩
  rw [eval_ListComp]
  have caps : ∀ y ∈ scope.names, y.2 = .free → ∃ c, X.env.cells.lookup y.1 = some c := fun y hy e => I.ok.has _ (ok.free y hy e)
  refine comp_rule rfl fs (closure_ok caps) ok.kind (fun y hy e => (ok.uniq y hy).trans (by rw [e])) ?_
  refine thn (pi.run pins s σ H _ I tl) fun xv s1 hx => thn hx fun itv s2 h2 => ?_
  obtain ⟨it, fp, tn, J, Hi, eit, Ii, Tn, sti, fpi, rest⟩ := h2
  subst eit
  refine wpAny_newObj_type (newEnv_comp ?_) (by show (0 : Nat) ≤ sizeLine; decide)
  generalize eD : s2.heap.objs.size = D
  have freeD : Hi D = none := Ii.hok.fresh (Nat.le_of_eq eD)
  obtain ⟨Wv, ⟨m0, w0⟩, turn⟩ := rest D freeD
  generalize es3 : ({ s2 with heap := s2.heap.push { cls := .type "list", data := .seq ([] : List Value).toArray } } : Shared) = s3
  have hp3 : s3.heap = s2.heap.push { cls := .type "list", data := .seq ([] : List Value).toArray } := by rw [← es3]
  have Il : Inv X pins σ (upd Hi D (.lst [])) s3 := by
    rw [← es3]
    refine Ii.laid (t' := s2.toks) (fun b o q => Heap.get?_push_of_some _ q) (Nat.le_of_eq eD) ⟨Nat.zero_le _, [], 0, .nil, ?_⟩
    rw [← eD]
    exact Heap.get?_push_size _ rfl
  have fpl : ∀ b ∈ fp, FpOk X pins (upd Hi D (.lst [])) b ∧ b < s3.heap.objs.size := fun b hb => by
    obtain ⟨o, q, _⟩ := Tn.obj _ _ sti b hb
    have lt := Heap.lt_size q
    have ne : b ≠ D := fun z => by rw [z, ← eD] at lt; exact Nat.lt_irrefl _ lt
    refine ⟨⟨(upd_ne ne).trans (fpi b hb).1, (fpi b hb).2⟩, ?_⟩
    rw [hp3, Heap.size_push]
    exact Nat.lt_succ_of_lt lt
  have stl : tn 0 s3.heap := Tn.keep _ _ _ sti fun b _ o q => by rw [hp3]; exact Heap.get?_push_of_some _ q
  have Ib := block_start Il ok nd fpl
  have pgB := pg s3 (upd Hi D (.lst [])) s3.heap.objs.size (cellsFrom (s3.heap.objs.size + 1) scope.names (cloFrom X.env.cells scope.names [])) fp
  have ptB := pt s3 (upd Hi D (.lst [])) s3.heap.objs.size (cellsFrom (s3.heap.objs.size + 1) scope.names (cloFrom X.env.cells scope.names [])) fp
  have peB := pe s3 (upd Hi D (.lst [])) s3.heap.objs.size (cellsFrom (s3.heap.objs.size + 1) scope.names (cloFrom X.env.cells scope.names [])) fp
    (notedBy (model X.prog X.w) X.A (compEnvC scope (cellsFrom (s3.heap.objs.size + 1) scope.names (cloFrom X.env.cells scope.names [])) s3.heap.objs.size X.env) (fun e t => BlkEnd (model X.prog X.w) X.A X.xe (EP X pins σ Q) (.ref D) (compEnvC scope (cellsFrom (s3.heap.objs.size + 1) scope.names (cloFrom X.env.cells scope.names [])) s3.heap.objs.size X.env) (.error e) t))
    (fun c d _ H' => W c d σ H')
    (fun p1 σ1 H1 s1 E u s2 J1 hE c => blk_out (pins := pins) (σ := σ) hs0 hf0 tk Il rfl (fun b hb => (fpl b hb).1) J1 hE c)
  show codeAny _ _ (.compStart (.ListComp elt [⟨tg, iter, ifs, 0⟩] scope pos) 0 (.ref it) (.ref D) (compEnvC scope (cellsFrom (s3.heap.objs.size + 1) scope.names (cloFrom X.env.cells scope.names [])) s3.heap.objs.size X.env))
    (BlkEnd (model X.prog X.w) X.A X.xe (EP X pins σ Q) (.ref D) (compEnvC scope (cellsFrom (s3.heap.objs.size + 1) scope.names (cloFrom X.env.cells scope.names [])) s3.heap.objs.size X.env)) { s3 with heap := pushCells (s3.heap.push { cls := .type "dict", data := .dict #[] }) scope.names }
  have nofp : ∀ b ∈ fp, (upd Hi D (.lst [])) b = none := fun b hb => (fpl b hb).1.1
  generalize ece : compEnvC scope (cellsFrom (s3.heap.objs.size + 1) scope.names (cloFrom X.env.cells scope.names [])) s3.heap.objs.size X.env = ce at Ib pgB ptB peB ⊢
  have lC : ce.locals = s3.heap.objs.size := by subst ece; rfl
  generalize eH3 : upd Hi D (.lst []) = H3 at Il Ib pgB ptB peB w0 nofp fpl
  generalize es4 : ({ s3 with heap := pushCells (s3.heap.push { cls := .type "dict", data := .dict #[] }) scope.names } : Shared) = s4 at Ib ⊢
  have st4 : tn 0 s4.heap := Tn.keep _ _ _ stl fun b _ o q => by rw [← es4]; exact pushCells_keeps _ _ _ _ (Heap.get?_push_of_some _ q)
  have still : ∀ {τ : L2.St} {K' : Hp} {r' : Shared}, Inv (X.blk s3 H3 scope ce fp) [] τ K' r' → (∀ b ∈ fp, K' b = none) → ∀ b ∈ fp, FpOk (X.blk s3 H3 scope ce fp) [] K' b := fun {τ K' r'} Iz nz b hb =>
    ⟨nz b hb, (Iz.ok.exf b hb).1, Iz.ok.exfs b hb, .inl hb, fun x c q => (Iz.ok.exf b hb).2 x c q, fun p hp => absurd (show p ∈ ([] : List (Addr × Obj)) ++ [] from hp) (by simp)⟩
  have loop : codeAny (model X.prog X.w) X.A (.compLoop (.ListComp elt [⟨tg, iter, ifs, 0⟩] scope pos) 0 (.ref it) (.ref D) ce) (BlkEnd (model X.prog X.w) X.A X.xe (EP X pins σ Q) (.ref D) ce) s4 := by
    refine compLoop_any (fun n t => ∃ i K', Inv (X.blk s3 H3 scope ce fp) [] (L2.wipe σ (own.map (·.2))) K' t ∧ tn i t.heap ∧ (∀ b ∈ fp, K' b = none) ∧ Wv i n K') ?_ m0 ⟨0, H3, Ib, st4, nofp, w0⟩
    rintro n s5 ⟨i, H5, I5, st5, n5, w5⟩
    rcases turn i n H5 w5 with ⟨stop, fin⟩ | ⟨go, Nx, hNx, step⟩
    · refine thnF (Tn.done (X.blk s3 H3 scope ce fp) rfl rfl rfl calm i [] s5 _ H5 (fun _ _ => False) I5 (still I5 n5) st5 stop) fun r s6 hr => ?_
      obtain ⟨er, I6⟩ := hr
      subst er
      have back : Inv X pins σ H5 s6 := Il.call' (ch := fp) I6.os I6.base I6.hok I6.bare fun b hb => ⟨(fpl b hb).1.2.2.2.1, (fpl b hb).1.2.1, (fpl b hb).1.2.2.2.2.1, (fpl b hb).1.2.2.2.2.2⟩
      have noC : H5 s3.heap.objs.size = none := by
        have z : H5 ce.locals = none := I6.free
        rwa [lC] at z
      obtain ⟨m, nsC, _⟩ := I6.loc
      obtain ⟨f0, f1, f2, f3, f4, f5⟩ := Il.fpOk (Nat.le_refl _) noC
      refine ⟨m, nsC, fun hg sb => ⟨.ref D, H5, ?_, rfl, fin⟩⟩
      rw [lC] at sb
      exact back.turned (t' := s6.toks) (fun b o hb q => (sb.2 b hb).trans q) f0 f1 f3 f4 f5
    · refine thnF (Tn.item (X.blk s3 H3 scope ce fp) rfl rfl rfl calm i [] s5 _ H5 (fun _ _ => False) I5 (still I5 n5) st5 go) fun r s6 hr => ?_
      obtain ⟨u, er, h6⟩ := hr
      subst er
      refine thnF h6 fun _ s7 h7 => ?_
      obtain ⟨x, H7, I7, r7, y7, st7, n7⟩ := h7
      have I7p := I7.pinned (still I7 n7) (Tn.obj _ _ st7)
      refine thnF (pgB.run _ s7 _ H7 x u _ I7p r7 (step x H7 y7)) fun _ s8 h8 => ?_
      obtain ⟨σ8, H8, I8, hw8, q8⟩ := h8
      refine thnF (ptB.run _ s8 σ8 H8 _ I8 q8) fun b s9 h9 => ?_
      obtain ⟨H9, I9, q9⟩ := h9
      have next : ∀ {t : Shared} {K' : Hp}, Inv (X.blk s3 H3 scope ce fp) ([] ++ pinsAt fp s7.heap) σ8 K' t → Nx K' → ∃ m, m < n ∧ ∃ i K', Inv (X.blk s3 H3 scope ce fp) [] (L2.wipe σ (own.map (·.2))) K' t ∧ tn i t.heap ∧ (∀ b ∈ fp, K' b = none) ∧ Wv i m K' := fun {t K'} It nx => by
        obtain ⟨m', lt, w'⟩ := hNx K' nx
        have held : ∀ b ∈ fp, ∀ o, s7.heap.get? b = some o → t.heap.get? b = some o ∧ K' b = none := fun b hb o q =>
          let z := It.pin (b, o) (List.mem_append_right _ (List.mem_append_right _ (mem_pinsAt hb q)))
          ⟨z.1, z.2.1⟩
        refine ⟨m', lt, i + 1, K', (It.unpinned (pins := [])).weak (by rw [← hw8, L2.wipe_length]) (fun j v q => ?_), Tn.keep _ _ _ st7 fun b hb o q => (held b hb o q).1, fun b hb => ?_, w'⟩
        · rw [← hw8] at q
          exact (L2.wipe_some q).1
        · obtain ⟨o, q, _⟩ := Tn.obj _ _ st7 b hb
          exact (held b hb o q).2
      cases b with
      | false =>
        simp only [Bool.false_eq_true, if_false] at q9 ⊢
        exact next I9 q9
      | true =>
        simp only [if_true] at q9 ⊢
        refine thn (peB.run _ s9 σ8 H9 _ (inv_xe I9) q9) fun z s10 h10 => ?_
        obtain ⟨yv, H10, I10, r10, acc, hD10, hz10, nx⟩ := h10
        exact app_ok (X := X.blk s3 H3 scope ce fp) (inv_blk I10) hD10 hz10 r10 fun s11 I11 => next I11 nx
  exact codeAny_compStart_list loop (Tn.self X.A 0 _ _ _ st4 loop)
end

/-! ### over plain data -/
section
variable {X : Cx} {Φ : En → Prop} {k n : Nat} {f : Addr} {fd : FuncData} {ps : List Str} {spc : Spc} {x : Str} {p pos : Pos} {e : Expr} {es : List Expr} {ws : WA} {W : L2.WX} {xx : Str → List (Str × D) → Sg → Prop}
/-- a call that may raise, within a block -/
theorem de_callF (F : FnOk X.prog X.w X.K X.mg X.base (L2.CX X.prog X.w) k f fd ps (spOfX X.K n spc)) (tk : TakesF X W) (hx : ∀ E, Φ E → Px X.K W xx E) (hr : Room k X.A) (hg : Gl X x) (hm : X.mg x = some (.ref f)) (hk : PySem.W.keepIn X.K (.ref f) = true) (hb : Binds X.K fd ps []) (ha : DA X Φ (e :: es) n ws)
    (hdb : (x == ("__debug__" : Str)) = false := by decide) (he : starEach (e :: es) X.env = (false, eval e X.env) :: starEach es X.env := by rfl) (hpl : (backTo pos (starEach es X.env)).any (·.1) = false := by rfl) :
    DE X Φ (.Call (.Name x p) (e :: es) [] pos) (wCallX spc ws xx) := fun E hE => PE.imp (pe_callS F hr hg hm hk hb (fun σ => fun pins H s e' s' I c => tk pins σ H s (L2.WE W σ) e' s' I (fun _ _ _ h => h) c) (ha E hE) hdb he hpl) fun σ H Q => by
  rintro ⟨S, F, R, hR, hw, k⟩
  refine ⟨S, F, _, hR, hw, fun ds S1 vs F1 H1 hw1 l1 r1 hR1 x1 => ?_⟩
  exact ⟨F1, ds, S1.h, _, _, l1, hR1.g.ext, r1, hR1.g.obs, hw1, fun r h' v F' H' hr rv g => k r _ v F' H' hr rv (hR1.after g) (x1.trans g.gF), fun c fs h' F' H' cls dd hy ax g => hx E hE c fs _ cls dd σ F' H' hy ax (hR1.after g)⟩
end
def noOwnA (s : List Sl) : Bool := s.all fun v => match v with
  | .o _ => false
  | _ => true
theorem noOwnA_get {s : List Sl} (h : noOwnA s = true) {i : Nat} {d : D} : s[i]? ≠ some (.o d) := fun e => by
  have := List.all_eq_true.mp h _ (List.mem_of_getElem? e)
  cases this
theorem noOwnA_vs {s : List Sl} (h : noOwnA s = true) (vs : List Nat) : noOwn s vs = true := by
  refine List.all_eq_true.mpr fun v _ => ?_
  cases e : s[v]? with
  | none => rfl
  | some x => cases x with
    | o d => exact absurd e (noOwnA_get h)
    | f d => rfl
    | u => rfl
/-- a comprehension whose step may raise -/
def wLcX (wi : WA) (g : WG) (tt : WT) (te : (Str → List (Str × D) → Sg → Prop) → WE) (vs : List Nat) (xx : Str → List (Str × D) → Sg → Prop) : WE := fun S R => wi S fun ds S1 => noOwnA S1.s = true ∧ ds.length ≤ 1000000 ∧
  wLcL g tt (te fun c fs S3 => xx c fs ⟨S1.s, S3.h⟩) vs S1.s (fun acc h => R (.lst acc) ⟨S1.s, h⟩) ds S1.h []
section
variable {X : Cx} {K : PySem.W.Frag} {E : En} {F F' F2 H H' H2 : Hp} {σ σ' : L2.St} {S : Sg} {vs : List Nat}
/-- behind a block that an exception leaves -/
theorem Rel.backX {S3 : Sg} {E' : En} (R : Rel K E F H σ S) (no : noOwnA S.s = true) (xF : Ext F F') (hE : E'.h = S.h) (ho : ∀ q, ¬ E'.ow q) (hF : E'.F = F2) (hH : E'.H = H2) (R3 : Rel K E' F' H' σ' S3) (gr : Gr K E F2 H2 S.h) : Rel K E F' H' σ ⟨S.s, S3.h⟩ := by
  obtain ⟨EF, EH, Eh, Eo⟩ := E'
  cases hF; cases hH; cases hE
  refine ⟨Gr.then gr (fun p hp => absurd hp (ho p)) R3.g, R.len, fun i d h => ?_, fun i d h => absurd h (noOwnA_get no), fun i j d e p h1 _ _ _ => absurd h1 (noOwnA_get no)⟩
  obtain ⟨v, h1, h2⟩ := R.frz i d h
  exact ⟨v, h1, h2.mono xF⟩
def LEXx (K : PySem.W.Frag) (W : L2.WX) (te : (Str → List (Str × D) → Sg → Prop) → WE) : TE := fun σ H Q => ∃ E xx, Px K W xx E ∧ LE K E (te xx) σ H Q
variable {p : Addr} {o : HO} {d : D} {v : V} {i : Nat}
theorem lcx_read {wi : WA} {gt : TG} {g : WG} {tt : WT} {te : (Str → List (Str × D) → Sg → Prop) → WE} {xx : Str → List (Str × D) → Sg → Prop} {W : L2.WX} {Q : VK} (ht : TgN K gt g vs) (hx : Px K W xx E) (hq : LN K E (wLcX wi g tt te vs xx) σ H Q) : tLc (LI K E wi) gt (LTx K tt) (LEXx K (fun c d _ H' => W c d σ H') te) vs σ H Q := by
  obtain ⟨S, F, R, hR, hw, k⟩ := hq
  refine ⟨S, F, _, hR, hw, fun ds S1 J F1 H1 hw1 fd hR1 x1 D0 hD => ?_⟩
  obtain ⟨noA, hl, hw1⟩ := hw1
  have no := noOwnA_vs noA vs
  obtain ⟨f0, hR1'⟩ := fresh_of hR1 hD (K := K) (E := E) (F := F1) (vs := []) (ds := []) .nil
  refine ⟨fun i m H => m + i = ds.length ∧ ∃ F2 h2 acc, Rel K E F2 H σ ⟨S1.s, h2⟩ ∧ Ext F1 F2 ∧ Fresh K E F2 H σ ⟨S1.s, h2⟩ D0 (.lst acc) ∧ acc.length ≤ i ∧ wLcL g tt (te fun c fs S3 => xx c fs ⟨S1.s, S3.h⟩) vs S1.s (fun acc h => R (.lst acc) ⟨S1.s, h⟩) (ds.drop i) h2 acc,
    ⟨ds.length, rfl, F1, S1.h, [], hR1', .refl _, f0, Nat.le_refl _, hw1⟩, fun i m H2 hW => ?_⟩
  obtain ⟨hm, F2, h2, acc, hR2, x2, f2, la, hw2⟩ := hW
  obtain ⟨go, stop⟩ := fd F2 H2 x2 hR2.g.ext
  by_cases hi : i < ds.length
  · have hd : ds[i]? = some ds[i] := List.getElem?_eq_getElem hi
    obtain ⟨g1, g2⟩ := go i _ hd
    rw [List.drop_eq_getElem_cons hi] at hw2
    refine .inr ⟨g1, fun H' => ∃ F3 h3 acc', Rel K E F3 H' σ ⟨S1.s, h3⟩ ∧ Ext F1 F3 ∧ Fresh K E F3 H' σ ⟨S1.s, h3⟩ D0 (.lst acc') ∧ acc'.length ≤ i + 1 ∧ wLcL g tt (te fun c fs S3 => xx c fs ⟨S1.s, S3.h⟩) vs S1.s (fun acc h => R (.lst acc) ⟨S1.s, h⟩) (ds.drop (i + 1)) h3 acc', fun H' hN => ⟨m - 1, by omega, by omega, hN⟩, fun x H3 hy => ?_⟩
    obtain ⟨F3, al, rx⟩ := g2 x H3 hy
    have hR3 := hR2.al al
    have hRw := (hR3.wipe vs).enter
    refine ht _ x (L2.wipe σ vs) _ F3 H3 _ _ _ hRw rx hw2 fun σ4 S4 hR4 hσ4 hw4 => ?_
    have hσ4' : L2.wipe σ4 vs = L2.wipe σ vs := hσ4.trans (wipe_wipe fun _ h => h)
    refine ⟨hσ4', _, S4, F3, _, hR4, hw4, fun b S5 F5 H5 hw5 hR5 x5 => ?_⟩
    have nown : ¬ owns (L2.wipe σ vs) ⟨wipeS S1.s vs, h2⟩ D0 := fun ⟨j, e, q1, q2⟩ => by
      have hj : j ∉ vs := fun z => by cases wipeS_in z q1
      have q1' : (wipeS S1.s vs)[j]? = some (.o e) := q1
      rw [wipeS_get hj] at q1'
      rw [wipe_get hj] at q2
      exact f2.no j e q1' q2
    have hD3 : ∃ u, H3 D0 = some u := Option.ne_none_iff_exists'.mp (by rw [al.xH.ne f2.at_.there]; exact f2.at_.there)
    obtain ⟨u, hu⟩ := hD3
    have fin : ∀ F6 H6 S6, Rel K ⟨F3, H3, h2, owns (L2.wipe σ vs) ⟨wipeS S1.s vs, h2⟩⟩ F6 H6 σ4 S6 → Ext F3 F6 → wipeS S6.s vs = wipeS S1.s vs → Rel K E F6 H6 σ ⟨S1.s, S6.h⟩ ∧ Fresh K E F6 H6 σ ⟨S1.s, S6.h⟩ D0 (.lst acc) := fun F6 H6 S6 hR6 x6 hs6 => by
      have hR7 := hR3.back (S3 := S6) no hs6 hσ4' x6 hR6 hR3.g
      have e6 : H6 D0 = some u := hR6.g.gH D0 u hu f2.nh nown
      have n3 : F3 D0 = none := (al.new D0 f2.nF f2.at_.there).elim id fun z => (TupO.ow f2.at_ z).elim
      have n6 : F6 D0 = none := (hR6.g.gN D0 n3 (by show H3 D0 ≠ none; rw [hu]; simp) nown).elim id fun z => (TupO.ow f2.at_ (by rw [e6, ← hu, al.xH.ne f2.at_.there] at z; exact z)).elim
      have h6 : S6.h D0 = none := by
        cases q : S6.h D0 with
        | none => rfl
        | some y =>
          rcases hR6.g.gO D0 (by rw [q]; simp) with z | z | z
          · exact absurd f2.nh z
          · have z' : H3 D0 = none := z
            rw [hu] at z'; cases z'
          · exact absurd z nown
      exact ⟨hR7, f2.at_.mono (al.xF.trans x6) (by rw [e6, ← hu]; exact al.xH.ne f2.at_.there), n6, h6, f2.nE, f2.no⟩
    cases b with
    | true =>
      refine L2.iteT ?_
      have px : Px K (fun c d _ H' => W c d σ H') (fun c fs S3 => xx c fs ⟨S1.s, S3.h⟩) ⟨F3, H3, h2, owns (L2.wipe σ vs) ⟨wipeS S1.s vs, h2⟩⟩ := fun c fs S' cls dd σ' F' H' q ax rr =>
        hx c fs ⟨S1.s, S'.h⟩ cls dd σ F' H' q ax (Rel.backX (S := ⟨S1.s, h2⟩) (E' := ⟨F3, H3, h2, owns (L2.wipe σ vs) ⟨wipeS S1.s vs, h2⟩⟩) (F := F3) (H := H3) (F2 := F3) (H2 := H3) hR3 noA rr.g.gF rfl (fun q ⟨j, e, q1, _⟩ => by
          have q1' : (wipeS S1.s vs)[j]? = some (.o e) := q1
          have hj : j ∉ vs := fun z => by cases wipeS_in z q1'
          rw [wipeS_get hj] at q1'
          exact noOwnA_get noA q1') rfl rfl rr hR3.g)
      refine ⟨_, _, px, S5, F5, _, hR5, br_t hw5, fun d S6 y F6 H6 hw6 r6 hR6 x6 => ?_⟩
      obtain ⟨hs6, hw6⟩ := hw6
      obtain ⟨hR7, f7⟩ := fin F6 H6 S6 hR6 (x5.trans x6) hs6
      obtain ⟨avs, ea, ra⟩ := f7.at_
      refine ⟨avs, ea, ?_, ?_⟩
      · have := ra.length
        have hz : (1000000 : Nat) < sizeLine := by decide
        omega
      · obtain ⟨hR8, f8⟩ := hR7.mutN (o := .lst (avs ++ [y])) (e := .lst (acc ++ [d])) f7 ⟨_, upd_same, ra.append (.one r6)⟩
        exact ⟨F6, S6.h, _, hR8, ((x2.trans al.xF).trans x5).trans x6, f8, by rw [List.length_append]; exact Nat.succ_le_succ la, hw6⟩
    | false =>
      refine L2.iteF ?_
      obtain ⟨hs6, hw6⟩ := br_f hw5
      obtain ⟨hR7, f7⟩ := fin F5 H5 S5 hR5 x5 hs6
      exact ⟨F5, S5.h, acc, hR7, (x2.trans al.xF).trans x5, f7, Nat.le_succ_of_le la, hw6⟩
  · refine .inl ⟨stop i (by omega), ?_⟩
    rw [List.drop_eq_nil_of_le (by omega)] at hw2
    exact k _ _ D0 F2 H2 hw2 f2 hR2 (x1.trans x2)
theorem dn_lcX {X : Cx} {W : L2.WX} {xx : Str → List (Str × D) → Sg → Prop} {gt : TG} {elt tg iter : Expr} {ifs : List Expr} {scope : Scope} {own : List (Str × Nat)} {pos : Pos} {wi : WA} {g : WG} {tt : WT} {te : (Str → List (Str × D) → Sg → Prop) → WE} (hc : X.calm = true) (hs0 : X.stack = X.env :: X.outer) (hf0 : X.env.frame = some X.env.locals) (tk : Takes X W) (hN : X.N.Nodup)
    (hi : DI X (Px X.K W xx) tg iter wi) (ok : BlkOk X.N X.env.scope scope own) (hT : TgN X.K gt g (own.map (·.2)))
    (hg : ∀ (s : Shared) (H : Hp) (C : Addr) (cl : List (Str × Addr)) (fp : List Addr), PG (X.blk s H scope (compEnvC scope cl C X.env) fp) tg gt) (ht : ∀ (s : Shared) (H : Hp) (C : Addr) (cl : List (Str × Addr)) (fp : List Addr), PTs (X.blk s H scope (compEnvC scope cl C X.env) fp) ifs (LTx X.K tt))
    (he : ∀ (s : Shared) (H : Hp) (C : Addr) (cl : List (Str × Addr)) (fp : List Addr) (xe : Value → Shared → Prop) (W' : L2.WX), TakesF (blkX X s H scope (compEnvC scope cl C X.env) fp xe) W' → ∀ xx', DE (blkX X s H scope (compEnvC scope cl C X.env) fp xe) (Px X.K W' xx') elt (te xx')) (hs : ∀ x, foldedSetIterable iter X.env x = pure x := by intro _; rfl) :
    DN X (Px X.K W xx) (.ListComp elt [⟨tg, iter, ifs, 0⟩] scope pos) (wLcX wi g tt te (own.map (·.2)) xx) := fun E hE =>
  PE.imp (pe_lcX (te := fun W' => LEXx X.K W' te) hc hN hs0 hf0 tk (hi E hE) ok hg ht (fun s H C cl fp xe W' tkF => ⟨fun pins s1 σ1 H1 Q1 I1 q1 => by
    obtain ⟨E1, xx1, px1, q1⟩ := q1
    exact (he s H C cl fp xe W' tkF xx1 E1 px1).run pins s1 σ1 H1 Q1 I1 q1⟩) hs) fun σ H Q q => lcx_read hT hE q
end
end VL

set_option Elab.async false
set_option linter.all false
set_option maxRecDepth 100000
set_option maxHeartbeats 4000000
/-! VL18: texts: split, str(int), int(text); a dict of the module's top with text keys. -/
namespace VL
open PySem PySem.Spec PyProof.Rows L2
theorem reps_strs {K : PySem.W.Frag} {F : Hp} : ∀ ys : List Str, Reps K F (ys.map V.str) (ys.map D.str)
  | [] => .nil
  | y :: ys => .cons (.str y) (reps_strs ys)
/-- s.split(t) -/
def wSplit (w we : WE) : WE := fun S R => w S fun d S1 => match d with
  | .str a => we S1 fun e S2 => match e with
    | .str b => (b.length == 0) = false ∧ a.length + 2 ≤ sizeLine ∧ R (.lst ((Txt.split a b).map D.str)) S2
    | _ => False
  | _ => False
def bStr : OC
  | [.int i], R => i.natAbs.log2 < 1920 ∧ R (.str (toString i))
  | _, _ => False
def bIntS : OC
  | [.str a], R => ∃ n, PySem.intText? a = some n ∧ a.length ≤ 640 ∧ R (.int n)
  | _, _ => False
section
variable {X : Cx} {Φ : En → Prop} {o e : Expr} {wo we : WE} {apos pos : Pos}
theorem de_split (ho : DE X Φ o wo) (he : DE X Φ e we) (hs : starEach [e] X.env = [(false, eval e X.env)] := by rfl) (hbase : attributeBase o "split" X.env (eval o X.env) = eval o X.env := by rfl) (hline : (apos.endLine == pos.line) = true := by rfl) :
    DE X Φ (.Call (.Attribute o "split" apos) [e] [] pos) (wSplit wo we) := fun E hE => PE.imp (pe_split (ho E hE) (he E hE) hs hbase hline) fun σ H Q => by
  rintro ⟨S, F, R, hR, hw, k⟩
  refine ⟨S, F, _, hR, hw, fun d S1 v F1 H1 hw1 r1 hR1 x1 => ?_⟩
  split at hw1
  · cases r1
    refine ⟨⟨_, rfl⟩, S1, F1, _, hR1, hw1, fun e S2 u F2 H2 hw2 r2 hR2 x2 => ?_⟩
    split at hw2
    · cases r2
      refine ⟨_, _, rfl, rfl, hw2.1, hw2.2.1, fun p hp => ?_⟩
      rename_i a _ b
      have al := Al.one (o := .lst ((Txt.split a b).map V.str)) hR2.g.ext hp
      exact k _ S2 _ _ _ hw2.2.2 (.lst upd_same (reps_strs _)) (hR2.al al) ((x1.trans x2).trans al.xF)
    · exact hw2.elim
  · exact hw1.elim
theorem cv_str : CallV X (.type "str") bStr := CallR.any fun xs H Q => by
  rintro ⟨F, ds, R, hx, r, hg, k⟩
  refine ⟨_, call_str_int, ?_⟩
  unfold bStr at hg
  split at hg
  · obtain ⟨v, rfl, q⟩ := r.one_of
    cases q
    exact ⟨_, rfl, hg.1, k _ _ F H hg.2 (.str _) (.refl hx)⟩
  · exact hg.elim
theorem cv_intS : CallV X (.type "int") bIntS := CallR.any fun xs H Q => by
  rintro ⟨F, ds, R, hx, r, hg, k⟩
  refine ⟨_, call_int_str, ?_⟩
  unfold bIntS at hg
  split at hg
  · obtain ⟨v, rfl, q⟩ := r.one_of
    cases q
    obtain ⟨n, h1, h2, h3⟩ := hg
    exact ⟨_, n, rfl, h1, h2, k _ _ F H h3 (.int _) (.refl hx)⟩
  · exact hg.elim
end
/-! ### a table of the top -/
def lookS (tab : List (Str × D)) (z : Str) : Option D := tab.lookup z
structure CTab (K : PySem.W.Frag) (w : World) (mg : Str → Option Value) (x : Str) (tab : List (Str × D)) : Prop where
  ex : ∃ d es n, KDict K w d es n ∧ mg x = some (.ref d) ∧ ∀ z e, lookS tab z = some e → ∃ u v, PySem.W.nsIn K d z = some (some u) ∧ RelV v u ∧ ∀ F, Rep K F v e
def wTab (tab : List (Str × D)) (we : WE) : WE := fun S R => we S fun d S1 => match d with
  | .str z => ∃ e, lookS tab z = some e ∧ R e S1
  | _ => False

section
variable {X : Cx} {Φ : En → Prop} {e : Expr} {we : WE} {x : Str} {p pos : Pos}
theorem ix_tab {d : Addr} {es : Array DictEntry} {n : Nat} (D : KDict X.K X.w d es n) : IxR X (fun x y H Q => ∃ (z : Str) (u0 : Value) (v0 : V), x = .ref d ∧ y = .str z ∧ PySem.W.nsIn X.K d z = some (some u0) ∧ RelV v0 u0 ∧ Q v0 H) := by
  intro value slice pins s σ H x y v u Q I rx ry h hs
  have ty : ∀ z : Unit, True := fun _ => trivial
  obtain ⟨z, u0, v0, rfl, rfl, e, r, q⟩ := h
  have tI := kd_type D I
  have run := op_item_kd D pins s σ H (.ref d) (.str z) v u Q I rx ry ⟨z, u0, v0, rfl, rfl, e, r, q⟩
  cases rx
  obtain ⟨t, rfl⟩ := ry
  exact tail_any tI PySem.F.slot_dict_getitem.lookup run hs
theorem CTab.de {tab : List (Str × D)} (c : CTab X.K X.w X.mg x tab) (hg : Gl X x) (he : DE X Φ e we) (hs : PlainIx e) (hd : (x == ("__debug__" : Str)) = false := by decide) : DE X Φ (.Subscript (.Name x p) e pos) (wTab tab we) := fun E hE => by
  obtain ⟨d, es, n, KD, hm, hl⟩ := c.ex
  refine PE.imp (pe_ix (ix_tab KD) (pe_glob (v := .ref d) hg hm rfl hd) (he E hE) hs) fun σ H Q => ?_
  rintro ⟨S, F, R, hR, hw, k⟩
  refine ⟨S, F, _, hR, hw, fun y S1 v1 F1 H1 hw1 r1 hR1 x1 => ?_⟩
  split at hw1
  · cases r1
    obtain ⟨e1, h1, h2⟩ := hw1
    obtain ⟨u, v, h3, h4, h5⟩ := hl _ _ h1
    exact ⟨_, u, v, rfl, rfl, h3, h4, k _ S1 _ F1 H1 h2 (h5 F1) hR1 x1⟩
  · exact hw1.elim
end

theorem tab_cons {k : Str} {d : D} {r : List (Str × D)} {P : Str → D → Prop} (h0 : P k d) (hr : ∀ z e, lookS r z = some e → P z e) : ∀ z e, lookS ((k, d) :: r) z = some e → P z e := fun z e h => by
  unfold lookS at h
  rw [List.lookup_cons] at h
  by_cases q : (z == k) = true
  · rw [q] at h
    cases h
    rw [eq_of_beq q]
    exact h0
  · have q : (z == k) = false := by simpa using q
    rw [q] at h
    exact hr z e h
theorem tab_nil {P : Str → D → Prop} : ∀ z e, lookS [] z = some e → P z e := fun z e h => by cases h
theorem rv_ref {p : Addr} : RelV (V.ref p) (Value.ref p) := rfl
end VL

set_option Elab.async false
set_option linter.all false
set_option maxRecDepth 100000
set_option maxHeartbeats 4000000
/-! VL19: known lists read by operations, given to calls, changed; two fresh lists at once; `or` over texts; sorted texts; extend. -/
namespace VL
open PySem PySem.Spec PyProof.Rows L2
/-! ### a known list, as it stands -/
def SnapD (h : Oh) (d d' : D) : Prop := d' = d ∨ ∃ a ds, d = .obj a ∧ h a = some (.ml ds) ∧ d' = .lst ds
theorem SnapD.of {h : Oh} {d : D} : SnapD h d d := .inl rfl
theorem SnapD.ob {h : Oh} {a : Addr} {ds : List D} (q : h a = some (.ml ds)) : SnapD h (.obj a) (.lst ds) := .inr ⟨a, ds, rfl, q, rfl⟩
theorem Rel.snap {K : PySem.W.Frag} {E : En} {F H : Hp} {σ : L2.St} {S : Sg} {v : V} {d d' : D} (R : Rel K E F H σ S) (r : Rep K F v d) (s : SnapD S.h d d') : Rep K H v d' := by
  rcases s with rfl | ⟨a, ds, rfl, q, rfl⟩
  · exact r.mono R.g.ext
  · cases r
    obtain ⟨vs, h1, h2⟩ := (R.g.obs _ _ q).1
    exact .lst h1 (h2.mono R.g.ext)
theorem flat_rep {K : PySem.W.Frag} {F G : Hp} {v : V} {d : D} (r : Rep K F v d) (f : flat d = true) : Rep K G v d := by
  cases r <;> first | exact .non | exact .bl _ | exact .int _ | exact .str _ | cases f
theorem Al.back {F H F' H' : Hp} (x : Ext F H) (a : Al H H F' H') : Al F H F H' := ⟨.refl _, a.xH, fun b h _ => .inl h, x.trans a.xH⟩
/-- an operation whose operands may be known lists; a plain value comes out -/
def wOpM (g : O2) (wa wb : WE) : WE := fun S R => wa S fun x S1 => wb S1 fun y S2 => ∃ x' y', SnapD S2.h x x' ∧ SnapD S2.h y y' ∧ g x' y' fun z => flat z = true ∧ R z S2
def wLenM (w : WE) : WE := fun S R => w S fun x S1 => ∃ a ds, x = .obj a ∧ S1.h a = some (.ml ds) ∧ R (.int ds.length) S1
def wBM (w : WE) : WT := fun S R => w S fun x S1 => ∃ a ds, x = .obj a ∧ S1.h a = some (.ml ds) ∧ R (!ds.isEmpty) S1
/-- a fresh list that becomes a known one, as an argument -/
def wMut (w : WE) : WE := fun S R => w S fun d S1 => ∀ q, S1.h q = none → R (.obj q) (S1.ob q (obOf d))
section
variable {X : Cx} {Φ : En → Prop} {a b e : Expr} {wa wb w : WE} {pos p : Pos}
theorem de_cmpM {op : CmpOp} {g : O2} (ho : OpV X (compareOp op) g) (ha : DE X Φ a wa) (hb : DE X Φ b wb) (hm : behindInMarks op b = false) : DE X Φ (.Compare a [op] [b] pos) (wOpM g wa wb) := fun E hE => PE.imp (pe_cmpR ho (ha E hE) (hb E hE) hm) fun σ H Q => by
  rintro ⟨S, F, R, hR, hw, k⟩
  refine ⟨S, F, _, hR, hw, fun x S1 v1 F1 H1 hw1 r1 hR1 x1 => ?_⟩
  refine ⟨S1, F1, _, hR1, hw1, fun y S2 v2 F2 H2 hw2 r2 hR2 x2 => ?_⟩
  obtain ⟨x', y', s1, s2, hg⟩ := hw2
  refine ⟨H2, x', y', _, .refl _, hR2.snap (r1.mono x2) s1, hR2.snap r2 s2, hg, fun z v F' H' hz rz al => ?_⟩
  have al' := Al.back hR2.g.ext al
  exact k z S2 v F2 H' hz.2 (flat_rep rz hz.1) (hR2.al al') (x1.trans x2)
theorem dt_cmpM {op : CmpOp} {g : O2} (ho : OpV X (compareOp op) g) (ha : DE X Φ a wa) (hb : DE X Φ b wb) (hm : behindInMarks op b = false) : DT X Φ (.Compare a [op] [b] pos) (wBb (wOpM g wa wb)) := fun E hE => PT.imp (pt_cmpR ho (ha E hE) (hb E hE) hm) fun σ H Q => by
  rintro ⟨S, F, R, hR, hw, k⟩
  refine ⟨S, F, _, hR, hw, fun x S1 v1 F1 H1 hw1 r1 hR1 x1 => ?_⟩
  refine ⟨S1, F1, _, hR1, hw1, fun y S2 v2 F2 H2 hw2 r2 hR2 x2 => ?_⟩
  obtain ⟨x', y', s1, s2, hg⟩ := hw2
  refine ⟨H2, x', y', _, .refl _, hR2.snap (r1.mono x2) s1, hR2.snap r2 s2, hg, fun z v F' H' hz rz al => ?_⟩
  have al' := Al.back hR2.g.ext al
  obtain ⟨_, hz⟩ := hz
  cases rz with
  | bl b => exact ⟨b, rfl, k b S2 F2 H' hz (hR2.al al') (x1.trans x2)⟩
  | _ => exact hz.elim
theorem de_lenM {x : Str} (hg : Gl X x) (hm : X.mg x = none) (hv : bootBuiltins x = some (.builtin "len")) (ha : DE X Φ a wa) (hn : x ≠ "__name__" := by decide) (hdb : (x == ("__debug__" : Str)) = false := by decide)
    (he : starEach [a] X.env = (false, eval a X.env) :: starEach [] X.env := by rfl) (hpl : (backTo pos (starEach [] X.env)).any (·.1) = false := by rfl) : DE X Φ (.Call (.Name x p) [a] [] pos) (wLenM wa) := fun E hE => PE.imp (pe_callB call_len hg hm hv (pa_cons (ha E hE) pa_nil he) hn hdb he hpl) fun σ H Q => by
  rintro ⟨S, F, R, hR, hw, k⟩
  refine ⟨S, F, _, hR, hw, fun d S1 v F1 H1 hw1 r1 hR1 x1 => ?_⟩
  obtain ⟨q, ds, rfl, hq, hw1⟩ := hw1
  cases r1
  obtain ⟨vs, h1, h2⟩ := (hR1.g.obs _ _ hq).1
  refine ⟨_, _, rfl, .inl ⟨vs, .of h1, rfl⟩, ?_⟩
  rw [h2.length]
  exact k _ S1 _ F1 H1 hw1 (.int _) hR1 x1
theorem dt_truM (ha : DE X Φ a wa) (he : ∀ whole, isTrue a X.env whole = (do let v ← whole; standAt a.pos; holding [v] (truthy v)) := by intro _; rfl) : DT X Φ a (wBM wa) := fun E hE => PT.imp (pt_truth (ha E hE) he) fun σ H Q => by
  rintro ⟨S, F, R, hR, hw, k⟩
  refine ⟨S, F, _, hR, hw, fun d S1 v F1 H1 hw1 r1 hR1 x1 => ?_⟩
  obtain ⟨q, ds, rfl, hq, hw1⟩ := hw1
  have r2 := hR1.snap r1 (.ob hq)
  obtain ⟨b, h1, h2⟩ := r2.tru (R := fun b => b = !ds.isEmpty) (.refl _) rfl
  subst h2
  exact ⟨_, h1, k _ S1 F1 H1 hw1 hR1 x1⟩
theorem de_mut (he : DN X Φ e w) : DE X Φ e (wMut w) := fun E hE => PE.imp (he E hE) fun σ H Q => by
  rintro ⟨S, F, R, hR, hw, k⟩
  refine ⟨S, F, _, hR, hw, fun d S1 q F1 H1 hw1 f hR1 x1 => ?_⟩
  have ha : ObAt X.K F1 H1 q (obOf d) := by
    have z := f.at_
    cases d <;> first | exact z | exact z.elim
  exact k (.obj q) _ _ F1 H1 (hw1 q f.nh) (.obj q) (hR1.obnew f ha) x1
end
/-! ### append, remove -/
def wAppM (wo w : WE) : WS := fun T S => wo S fun x S1 => ∃ a, x = .obj a ∧ (∃ ds, S1.h a = some (.ml ds)) ∧ w S1 fun d S2 => ∃ ds, S2.h a = some (.ml ds) ∧ ds.length < 1000000 ∧ T.nx (S2.ob a (.ml (ds ++ [d])))
/-- o.remove(t), o a known list of texts -/
def wRemM (wo w : WE) : WS := fun T S => wo S fun x S1 => ∃ a, x = .obj a ∧ (∃ ds, S1.h a = some (.ml ds)) ∧ w S1 fun d S2 => ∃ (ss : List Str) (s : Str) (j : Nat), d = .str s ∧ S2.h a = some (.ml (ss.map D.str)) ∧ ss[j]? = some s ∧ (∀ m : Nat, m < j → ss[m]? ≠ some s) ∧
  T.nx (S2.ob a (.ml ((ss.eraseIdx j).map D.str)))
def eqs (k : Str) (v : Value) : Bool := match v with
  | .str n _ => n == k
  | _ => false
theorem eqs_at {k : Str} {t : Tok} {A : Around} {s : Shared} : ∀ {us : List Value} {ns : List Str}, StrsAre us ns → ∀ y ∈ us, SeqAt.EqAt A s y (.str k t) (eqs k y)
  | _, _, .nil => fun y hy => by cases hy
  | _, _, .cons n t' h => fun y hy => by
    rcases List.mem_cons.mp hy with rfl | hy
    · exact SeqAt.EqAt.str_str n t' k t
    · exact eqs_at h y hy
theorem strs_get : ∀ {us : List Value} {ns : List Str}, StrsAre us ns → us.length = ns.length ∧ ∀ (j : Nat) (n : Str), ns[j]? = some n → ∃ t, us[j]? = some (Value.str n t)
  | _, _, .nil => ⟨rfl, fun j n h => by simp at h⟩
  | _, _, .cons n t h => by
    obtain ⟨h1, h2⟩ := strs_get h
    refine ⟨by rw [List.length_cons, List.length_cons, h1], fun j m hj => ?_⟩
    cases j with
    | zero =>
      cases hj
      exact ⟨t, rfl⟩
    | succ j => exact h2 j m hj
theorem erase_map {α β : Type} (f : α → β) : ∀ (l : List α) (j : Nat), (l.map f).eraseIdx j = (l.eraseIdx j).map f
  | [], j => by simp
  | a :: r, 0 => by simp
  | a :: r, j + 1 => by
    have ih := erase_map f r j
    simp [ih]
theorem Vals.eraseI {xs : List V} {us : List Value} (r : Vals xs us) (j : Nat) : Vals (xs.eraseIdx j) (us.eraseIdx j) := r.eraseIdx j
section
variable {X : Cx}
def rRemS : V → List V → Hp → VK → Prop := fun x xs H Q => ∃ (l : Addr) (ns : List Str) (k : Str) (j : Nat), x = .ref l ∧ xs = [.str k] ∧ H l = some (.lst (ns.map V.str)) ∧ ns[j]? = some k ∧ (∀ m : Nat, m < j → ns[m]? ≠ some k) ∧ Q .non (upd H l (.lst ((ns.eraseIdx j).map V.str)))
theorem mt_removeS : MtM X "list.remove" rRemS := by
  intro pins s σ H x xs v us Q I rx rxs h
  obtain ⟨l, ns, k, j, rfl, rfl, hH, hj, hno, q⟩ := h
  cases rx
  obtain ⟨u, rfl, ru⟩ := rxs.one
  obtain ⟨t, rfl⟩ := ru
  obtain ⟨z, its, n, r, hl, e⟩ := I.lstM hH
  have hi := L2.Vals.strs r
  obtain ⟨hlen, hget⟩ := strs_get hi
  rw [List.length_map] at hl z
  have hjn : j < ns.length := (List.getElem?_eq_some_iff.mp hj).1
  have hjl : j < its.toArray.size := by rw [List.size_toArray]; omega
  refine call_meets PySem.F.slot_list_remove ⟨_, e, rfl⟩ PySem.F.entry_list_remove (PySem.F.args_list_remove_2 _ _)
    (SeqAt.list_removeAt l its.toArray n none #[] (.str k t) (eqs k) j hjl ?_ ?_ (by rw [List.size_toArray]; omega)) ⟨e, (fun y hy => eqs_at hi y (by simpa using hy)), ?_⟩
  · obtain ⟨tj, hjt⟩ := hget j k hj
    obtain ⟨h1, h2⟩ := List.getElem?_eq_some_iff.mp hjt
    have e1 : its.toArray[j] = .str k tj := by simpa using h2
    rw [e1]
    exact beq_self_eq_true k
  · intro m hm hmj
    have hmn : m < ns.length := by omega
    obtain ⟨tm, hmt⟩ := hget m _ (List.getElem?_eq_getElem hmn)
    obtain ⟨h1, h2⟩ := List.getElem?_eq_some_iff.mp hmt
    have e1 : its.toArray[m] = .str ns[m] tm := by simpa using h2
    rw [e1]
    refine beq_eq_false_iff_ne.mpr fun e2 => hno m hmj ?_
    rw [List.getElem?_eq_getElem hmn, e2]
  · have rr := r.eraseIdx j
    rw [erase_map] at rr
    refine ⟨.non, _, I.lset (its' := its.eraseIdx j) (t' := s.toks) hH e ?_ rr ?_, rfl, q⟩
    · show its.toArray.eraseIdxIfInBounds j = (its.eraseIdx j).toArray
      rw [List.eraseIdxIfInBounds_toArray]
    · rw [List.length_map, List.length_eraseIdx_of_lt hjn]
      omega
end
section
variable {X : Cx} {W : L2.WX} {o e : Expr} {wo w : WE} {apos cpos pos : Pos}
theorem ds_appM (ho : DE X Tr o wo) (he : DE X Tr e w)
    (h : ∀ to t, PE X o to → PE X e t → PE X (.Call (.Attribute o "append" apos) [e] [] cpos) (tBM X.K "list" rAppend to (tCons t tNil)))
    (hs : swapsWith (.Call (.Attribute o "append" apos) [e] [] cpos) none pos.line X.env = pure false := by rfl) : DS X W (.Expr (.Call (.Attribute o "append" apos) [e] [] cpos) pos) (wAppM wo w) := fun E => PS.imp (ps_expr (h _ _ (ho E trivial) (he E trivial)) hs) fun D σ H => by
  rintro ⟨S, F, R, hR, hw, k1, k2, k3, k4, k5⟩
  refine ⟨S, F, _, hR, hw, fun x S1 v F1 H1 hw1 r1 hR1 x1 => ?_⟩
  obtain ⟨a, rfl, ⟨ds0, hq0⟩, hw1⟩ := hw1
  cases r1
  obtain ⟨vs0, q0, _⟩ := (hR1.g.obs _ _ hq0).1
  refine ⟨.inl ⟨rfl, _, .of q0⟩, ?_⟩
  refine ⟨S1, F1, _, hR1, hw1, fun d S2 u F2 H2 hw2 r2 hR2 x2 => ?_⟩
  obtain ⟨ds, hq, hl, hn⟩ := hw2
  obtain ⟨vs, q, s⟩ := (hR2.g.obs _ _ hq).1
  refine ⟨a, vs, u, rfl, rfl, q, ?_, ?_⟩
  · have hz : (1000000 : Nat) < sizeLine := by decide
    rw [s.length]
    omega
  · exact k1 _ σ F2 _ hn (hR2.obput (by rw [hq]; simp) ⟨_, upd_same, s.append (.one r2)⟩) (x1.trans x2)
theorem ds_remM (ho : DE X Tr o wo) (he : DE X Tr e w)
    (h : ∀ to t, PE X o to → PE X e t → PE X (.Call (.Attribute o "remove" apos) [e] [] cpos) (tBM X.K "list" rRemS to (tCons t tNil)))
    (hs : swapsWith (.Call (.Attribute o "remove" apos) [e] [] cpos) none pos.line X.env = pure false := by rfl) : DS X W (.Expr (.Call (.Attribute o "remove" apos) [e] [] cpos) pos) (wRemM wo w) := fun E => PS.imp (ps_expr (h _ _ (ho E trivial) (he E trivial)) hs) fun D σ H => by
  rintro ⟨S, F, R, hR, hw, k1, k2, k3, k4, k5⟩
  refine ⟨S, F, _, hR, hw, fun x S1 v F1 H1 hw1 r1 hR1 x1 => ?_⟩
  obtain ⟨a, rfl, ⟨ds0, hq0⟩, hw1⟩ := hw1
  cases r1
  obtain ⟨vs0, q0, _⟩ := (hR1.g.obs _ _ hq0).1
  refine ⟨.inl ⟨rfl, _, .of q0⟩, ?_⟩
  refine ⟨S1, F1, _, hR1, hw1, fun d S2 u F2 H2 hw2 r2 hR2 x2 => ?_⟩
  obtain ⟨ss, t, j, rfl, hq, hj, hno, hn⟩ := hw2
  obtain ⟨vs, q, s⟩ := (hR2.g.obs _ _ hq).1
  have e1 := s.strs
  subst e1
  cases r2
  refine ⟨a, ss, t, j, rfl, rfl, q, hj, hno, ?_⟩
  exact k1 _ σ F2 _ hn (hR2.obput (by rw [hq]; simp) ⟨_, upd_same, reps_strs _⟩) (x1.trans x2)
end
/-! ### x = y = two fresh empty lists at once -/
def wParE (i j : Nat) : WS := fun T S => T.nx ((S.st i (.o (.lst []))).st j (.o (.lst [])))
/-! ### or, over texts -/
def wOrS (wa wb : WE) : WE := fun S R => wa S fun x S1 => ∃ a : Str, x = .str a ∧ a.length ≤ sizeLine ∧ Br ((a.length : Int) != 0) (R (.str a) S1) (wb S1 R)
section
variable {X : Cx} {Φ : En → Prop} {W : L2.WX} {a b e : Expr} {rest : List Expr} {wa wb w : WE} {pos p : Pos}
theorem de_orS (ha : DE X Φ a wa) (hb : DE X Φ (.BoolOp .Or [b] pos) wb) : DE X Φ (.BoolOp .Or [a, b] pos) (wOrS wa wb) := fun E hE => PE.imp (pe_orT (ha E hE) (hb E hE)) fun σ H Q => by
  rintro ⟨S, F, R, hR, hw, k⟩
  refine ⟨S, F, _, hR, hw, fun x S1 v F1 H1 hw1 r1 hR1 x1 => ?_⟩
  obtain ⟨s, rfl, hl, hw1⟩ := hw1
  cases r1
  refine ⟨_, ⟨hl, rfl⟩, ?_⟩
  cases q : ((s.length : Int) != 0) with
  | true =>
    rw [q] at hw1
    refine L2.iteT ?_
    exact k _ S1 _ F1 H1 (br_t hw1) (.str _) hR1 x1
  | false =>
    rw [q] at hw1
    refine L2.iteF ?_
    exact ⟨S1, F1, _, hR1, br_f hw1, fun d S' v F' H' hd rd hR' x' => k d S' v F' H' hd rd hR' (x1.trans x')⟩
end
/-! ### sorted texts -/
def bSortS : OC
  | [.lst ds], R => ∃ xs : List Str, ds = xs.map D.str ∧ xs.length < 64 ∧ ∀ ys : List Str, ys.Perm xs → sortedS ys = true → R (.lst (ys.map D.str))
  | _, _ => False
section
variable {X : Cx} {Φ : En → Prop} {W : L2.WX} {e o : Expr} {w : WE} {pos p apos cpos : Pos}
theorem cv_sortS : CallV X (.builtin "sorted") bSortS := CallR.any fun xs H Q => by
  rintro ⟨F, ds, R, hx, r, hg, k⟩
  refine ⟨_, cr_sortedS, ?_⟩
  unfold bSortS at hg
  split at hg
  · obtain ⟨v, rfl, q⟩ := r.one_of
    obtain ⟨ys, rfl, h64, hR⟩ := hg
    cases q with
    | lst h s =>
      have e1 := s.strs
      subst e1
      refine ⟨_, ys, rfl, .of (hx _ _ h), h64, fun zs p hp hs hn => ?_⟩
      have al := Al.one (o := .lst (zs.map V.str)) hx hn
      exact k _ _ _ _ (hR zs hp hs) (.lst upd_same (reps_strs _)) al
  · exact hg.elim
/-- x.extend(e), x owns its list -/
def wExt (l : Nat) (w : WE) : WS := fun T S => (∃ ds, S.s[l]? = some (.o (.lst ds))) ∧ w S fun d S1 => ∃ ds es, d = .lst es ∧ S1.s[l]? = some (.o (.lst ds)) ∧ ds.length + es.length ≤ 1000000 ∧ T.nx (S1.st l (.o (.lst (ds ++ es))))
theorem ds_ext {x : Str} {px : Pos} (l : Nat) (hx : PE X (.Name x px) (tVar l)) (he : DE X Tr e w)
    (h : ∀ to t, PE X (.Name x px) to → PE X e t → PE X (.Call (.Attribute (.Name x px) "extend" apos) [e] [] cpos) (tBM X.K "list" rExtend to (tCons t tNil)))
    (hs : swapsWith (.Call (.Attribute (.Name x px) "extend" apos) [e] [] cpos) none pos.line X.env = pure false := by rfl) : DS X W (.Expr (.Call (.Attribute (.Name x px) "extend" apos) [e] [] cpos) pos) (wExt l w) := fun E => PS.imp (ps_expr (h _ _ hx (he E trivial)) hs) fun D σ H => by
  rintro ⟨S, F, R, hR, ⟨⟨ds0, he0⟩, hw⟩, k1, k2, k3, k4, k5⟩
  obtain ⟨p, h0, ⟨vs0, q0, _⟩, _⟩ := hR.own l _ he0
  refine ⟨_, h0, .inl ⟨rfl, _, .of q0⟩, ?_⟩
  refine ⟨S, F, _, hR, hw, fun d S1 v F1 H1 hw1 r1 hR1 x1 => ?_⟩
  obtain ⟨ds, es, rfl, g1, g2, g3⟩ := hw1
  obtain ⟨p', h0', ⟨vs, q, s⟩, _⟩ := hR1.own l _ g1
  rw [h0] at h0'
  cases h0'
  cases r1 with
  | lst hb sb =>
    refine ⟨p, _, vs, _, rfl, rfl, q, hR1.g.ext _ _ hb, ?_, ?_⟩
    · have hz : (1000000 : Nat) < sizeLine := by decide
      rw [s.length, sb.length]
      omega
    · exact k1 _ _ F1 _ g3 (hR1.mut g1 h0 ⟨_, upd_same, s.append sb⟩) x1
end
section
variable {X : Cx} {Φ : En → Prop} {W : L2.WX} {a b : Expr} {w : WE} {pos : Pos}
theorem ds_parE {x y : Str} {px py pt : Pos} {kt k2 : Nat} {pt2 p1 p2 : Pos} (i j : Nat) (hij : i ≠ j) (h : ∀ ta, PA X [.List [] p1, .List [] p2] ta → PS X (.Assign [.Tuple [.Name x px, .Name y py] kt pt] (.Tuple [.List [] p1, .List [] p2] k2 pt2) pos) (tPar i j ta)) :
    DS X W (.Assign [.Tuple [.Name x px, .Name y py] kt pt] (.Tuple [.List [] p1, .List [] p2] k2 pt2) pos) (wParE i j) := fun E => PS.imp (h _ (pa_cons (pe_lst pa_nil) (pa_cons (pe_lst pa_nil) pa_nil))) fun D σ H => by
  rintro ⟨S, F, R, hR, hw, k1, k2, k3, k4, k5⟩
  refine ⟨Nat.zero_le _, fun p hp => ⟨Nat.zero_le _, fun q hq => ⟨.ref p, .ref q, rfl, ?_⟩⟩⟩
  obtain ⟨f1, hR1⟩ := fresh_of hR hp (ds := []) .nil
  obtain ⟨f2, hR2⟩ := fresh_of hR1 hq (ds := []) .nil
  have npq : p ≠ q := fun z => by
    rw [z, upd_same] at hq
    cases hq
  have f1' : Fresh X.K E F (upd (upd H p (.lst [])) q (.lst [])) σ S p (.lst []) := ⟨⟨[], (upd_ne npq).trans upd_same, .nil⟩, f1.nF, f1.nh, f1.nE, f1.no⟩
  have hR3 := hR2.setO (i := i) f1'
  have f2' : Fresh X.K E F (upd (upd H p (.lst [])) q (.lst [])) (σ.set i (some (.ref p))) (S.st i (.o (.lst []))) q (.lst []) := ⟨f2.at_, f2.nF, f2.nh, f2.nE, fun l d e => by
    rcases set_get e with ⟨rfl, _, _⟩ | ⟨n, e'⟩
    · intro z
      by_cases hl : l < σ.length
      · rw [List.getElem?_set_self hl] at z
        cases z
        exact npq rfl
      · rw [List.getElem?_eq_none (by rw [List.length_set]; omega)] at z
        cases z
    · rw [List.getElem?_set_ne (Ne.symm n)]
      exact f2.no l d e'⟩
  exact k1 _ _ F _ hw (hR3.setO (i := j) f2') (.refl _)
end
/-! ### a comprehension over a known list, which stays as it is -/
def wLcOL (a : Addr) (ds : List D) (g : WG) (tt : WT) (te : WE) (vs : List Nat) (s0 : List Sl) (R : List D → Oh → Prop) : List D → Oh → List D → Prop
  | [], h, acc => h a = some (.ml ds) ∧ R acc h
  | x :: xs, h, acc => h a = some (.ml ds) ∧ g x ⟨wipeS s0 vs, h⟩ fun S1 => tt S1 fun b S2 => Br b
      (te S2 fun d S3 => wipeS S3.s vs = wipeS s0 vs ∧ wLcOL a ds g tt te vs s0 R xs S3.h (acc ++ [d])) (wipeS S2.s vs = wipeS s0 vs ∧ wLcOL a ds g tt te vs s0 R xs S2.h acc)
def wLcO (w : WE) (g : WG) (tt : WT) (te : WE) (vs : List Nat) : WE := fun S R => w S fun d S1 => ∃ a ds, d = .obj a ∧ S1.h a = some (.ml ds) ∧ noOwn S1.s vs = true ∧ ds.length ≤ 1000000 ∧ wLcOL a ds g tt te vs S1.s (fun acc h => R (.lst acc) ⟨S1.s, h⟩) ds S1.h []
section
variable {X : Cx} {Φ : En → Prop} {K : PySem.W.Frag} {E : En} {F F' F2 H H' H2 : Hp} {σ σ' : L2.St} {S : Sg} {p : Addr} {o : HO} {d : D} {v : V} {i : Nat} {vs : List Nat}
theorem lcO_read {w : WE} {gt : TG} {g : WG} {tt : WT} {te : WE} {Q : VK} (ht : TgN K gt g vs) (hq : LN K E (wLcO w g tt te vs) σ H Q) : tLc (iList K (LE K E w)) gt (LTx K tt) (LEx K te) vs σ H Q := by
  obtain ⟨S, F, R, hR, hw, k⟩ := hq
  refine ⟨S, F, _, hR, hw, fun d0 S1 v0 F1 H1 hw1 r0 hR1 x1 => ?_⟩
  obtain ⟨ao, ds, rfl, hao, no, hl, hw1⟩ := hw1
  cases r0
  obtain ⟨vs1, q1, _⟩ := (hR1.g.obs _ _ hao).1
  refine ⟨ao, rfl, ⟨vs1, .of q1⟩, fun D0 hD => ?_⟩
  obtain ⟨f0, hR1'⟩ := fresh_of hR1 hD (K := K) (E := E) (F := F1) (vs := []) (ds := []) .nil
  refine ⟨fun i m H => m + i = ds.length ∧ ∃ F2 h2 acc, Rel K E F2 H σ ⟨S1.s, h2⟩ ∧ Ext F1 F2 ∧ Fresh K E F2 H σ ⟨S1.s, h2⟩ D0 (.lst acc) ∧ acc.length ≤ i ∧ wLcOL ao ds g tt te vs S1.s (fun acc h => R (.lst acc) ⟨S1.s, h⟩) (ds.drop i) h2 acc,
    ⟨ds.length, rfl, F1, S1.h, [], hR1', .refl _, f0, Nat.le_refl _, hw1⟩, fun i m H2 hW => ?_⟩
  obtain ⟨hm, F2, h2, acc, hR2, x2, f2, la, hw2⟩ := hW
  by_cases hi : i < ds.length
  · have hd : ds[i]? = some ds[i] := List.getElem?_eq_getElem hi
    rw [List.drop_eq_getElem_cons hi] at hw2
    obtain ⟨ha2, hw2⟩ := hw2
    obtain ⟨us, qu, su⟩ := (hR2.g.obs _ _ ha2).1
    obtain ⟨uv, u1, u2⟩ := su.get hd
    have hqu : SqL K H2 ao us := .of qu
    refine .inr ⟨⟨us, uv, hqu, u1⟩, fun H' => ∃ F2 h3 acc', Rel K E F2 H' σ ⟨S1.s, h3⟩ ∧ Ext F1 F2 ∧ Fresh K E F2 H' σ ⟨S1.s, h3⟩ D0 (.lst acc') ∧ acc'.length ≤ i + 1 ∧ wLcOL ao ds g tt te vs S1.s (fun acc h => R (.lst acc) ⟨S1.s, h⟩) (ds.drop (i + 1)) h3 acc', fun H' hN => ⟨m - 1, by omega, by omega, hN⟩, fun x H3 hy => ?_⟩
    obtain ⟨rfl, hy⟩ := hy
    have ex : x = uv := Option.some.inj ((hy _ hqu).symm.trans u1)
    subst ex
    have rx := u2
    have al : Al F2 H3 F2 H3 := .refl hR2.g.ext
    have hR3 := hR2
    have hRw := (hR3.wipe vs).enter
    refine ht _ x (L2.wipe σ vs) _ F2 H3 _ _ _ hRw rx hw2 fun σ4 S4 hR4 hσ4 hw4 => ?_
    have hσ4' : L2.wipe σ4 vs = L2.wipe σ vs := hσ4.trans (wipe_wipe fun _ h => h)
    refine ⟨hσ4', _, S4, F2, _, hR4, hw4, fun b S5 F5 H5 hw5 hR5 x5 => ?_⟩
    have nown : ¬ owns (L2.wipe σ vs) ⟨wipeS S1.s vs, h2⟩ D0 := fun ⟨j, e, q1, q2⟩ => by
      have hj : j ∉ vs := fun z => by cases wipeS_in z q1
      have q1' : (wipeS S1.s vs)[j]? = some (.o e) := q1
      rw [wipeS_get hj] at q1'
      rw [wipe_get hj] at q2
      exact f2.no j e q1' q2
    have hD3 : ∃ u, H3 D0 = some u := Option.ne_none_iff_exists'.mp (by rw [al.xH.ne f2.at_.there]; exact f2.at_.there)
    obtain ⟨u, hu⟩ := hD3
    have fin : ∀ F6 H6 S6, Rel K ⟨F2, H3, h2, owns (L2.wipe σ vs) ⟨wipeS S1.s vs, h2⟩⟩ F6 H6 σ4 S6 → Ext F2 F6 → wipeS S6.s vs = wipeS S1.s vs → Rel K E F6 H6 σ ⟨S1.s, S6.h⟩ ∧ Fresh K E F6 H6 σ ⟨S1.s, S6.h⟩ D0 (.lst acc) := fun F6 H6 S6 hR6 x6 hs6 => by
      have hR7 := hR3.back (S3 := S6) no hs6 hσ4' x6 hR6 hR3.g
      have e6 : H6 D0 = some u := hR6.g.gH D0 u hu f2.nh nown
      have n3 : F2 D0 = none := (al.new D0 f2.nF f2.at_.there).elim id fun z => (TupO.ow f2.at_ z).elim
      have n6 : F6 D0 = none := (hR6.g.gN D0 n3 (by show H3 D0 ≠ none; rw [hu]; simp) nown).elim id fun z => (TupO.ow f2.at_ (by rw [e6, ← hu] at z; exact z)).elim
      have h6 : S6.h D0 = none := by
        cases q : S6.h D0 with
        | none => rfl
        | some y =>
          rcases hR6.g.gO D0 (by rw [q]; simp) with z | z | z
          · exact absurd f2.nh z
          · have z' : H3 D0 = none := z
            rw [hu] at z'; cases z'
          · exact absurd z nown
      exact ⟨hR7, f2.at_.mono (al.xF.trans x6) (by rw [e6, ← hu]), n6, h6, f2.nE, f2.no⟩
    cases b with
    | true =>
      refine L2.iteT ?_
      refine ⟨_, S5, F5, _, hR5, br_t hw5, fun d S6 y F6 H6 hw6 r6 hR6 x6 => ?_⟩
      obtain ⟨hs6, hw6⟩ := hw6
      obtain ⟨hR7, f7⟩ := fin F6 H6 S6 hR6 (x5.trans x6) hs6
      obtain ⟨avs, ea, ra⟩ := f7.at_
      refine ⟨avs, ea, ?_, ?_⟩
      · have := ra.length
        have hz : (1000000 : Nat) < sizeLine := by decide
        omega
      · obtain ⟨hR8, f8⟩ := hR7.mutN (o := .lst (avs ++ [y])) (e := .lst (acc ++ [d])) f7 ⟨_, upd_same, ra.append (.one r6)⟩
        exact ⟨F6, S6.h, _, hR8, ((x2.trans al.xF).trans x5).trans x6, f8, by rw [List.length_append]; exact Nat.succ_le_succ la, hw6⟩
    | false =>
      refine L2.iteF ?_
      obtain ⟨hs6, hw6⟩ := br_f hw5
      obtain ⟨hR7, f7⟩ := fin F5 H5 S5 hR5 x5 hs6
      exact ⟨F5, S5.h, acc, hR7, (x2.trans al.xF).trans x5, f7, Nat.le_succ_of_le la, hw6⟩
  · rw [List.drop_eq_nil_of_le (by omega)] at hw2
    obtain ⟨ha2, hw2⟩ := hw2
    obtain ⟨us, qu, su⟩ := (hR2.g.obs _ _ ha2).1
    refine .inl ⟨⟨us, .of qu, by rw [su.length]; omega⟩, ?_⟩
    exact k _ _ D0 F2 H2 hw2 f2 hR2 (x1.trans x2)
theorem dn_lcO {gt : TG} {elt tg iter : Expr} {ifs : List Expr} {scope : Scope} {own : List (Str × Nat)} {pos : Pos} {w : WE} {g : WG} {tt : WT} {te : WE} (hc : X.calm = true) (hN : X.N.Nodup) (hi : DE X Φ iter w) (ok : BlkOk X.N X.env.scope scope own)
    (hT : TgN X.K gt g (own.map (·.2)))
    (hg : ∀ (s : Shared) (H : Hp) (C : Addr) (cl : List (Str × Addr)) (fp : List Addr), PG (X.blk s H scope (compEnvC scope cl C X.env) fp) tg gt) (ht : ∀ (s : Shared) (H : Hp) (C : Addr) (cl : List (Str × Addr)) (fp : List Addr), PTs (X.blk s H scope (compEnvC scope cl C X.env) fp) ifs (LTx X.K tt))
    (he : ∀ (s : Shared) (H : Hp) (C : Addr) (cl : List (Str × Addr)) (fp : List Addr), DE (X.blk s H scope (compEnvC scope cl C X.env) fp) Tr elt te) (hs : ∀ x, foldedSetIterable iter X.env x = pure x := by intro _; rfl) :
    DN X Φ (.ListComp elt [⟨tg, iter, ifs, 0⟩] scope pos) (wLcO w g tt te (own.map (·.2))) := fun E hE => PE.imp (pe_lc hc hN (pi_list (hi E hE)) ok hg ht (fun s H C cl fp => pe_x (he s H C cl fp)) hs) fun σ H Q => lcO_read hT
end
/-! ### a walk over a list or a tuple; a def that calls itself -/
def wItV (i : Nat) : WA := fun S R => match S.s[i]? with
  | some (.f (.lst ds)) => R ds S
  | some (.f (.tup ds)) => R ds S
  | _ => False
section
variable {X : Cx} {Φ : En → Prop} {tg e : Expr} {p : Pos} {x : Str}
theorem pi_or {t u : TI} (h1 : PI X tg e t) (h2 : PI X tg e u) : PI X tg e (fun σ H R => t σ H R ∨ u σ H R) := ⟨fun pins s σ H R I h => h.elim (h1.run pins s σ H R I) (h2.run pins s σ H R I)⟩
theorem di_seq (i : Nat) (h : PE X (.Name x p) (tVar i)) : DI X Φ tg (.Name x p) (wItV i) := fun E hE => PI.imp (pi_or (di_list (de_var i h) E hE) (di_tup (de_var i h) E hE)) fun σ H Q => by
  rintro ⟨S, F, R, hR, hw, k⟩
  unfold wItV at hw
  split at hw
  · rename_i ds q
    refine .inl ⟨S, F, R, hR, ?_, k⟩
    show wItL (wVar i) S R
    unfold wItL wVar
    rw [q]
    exact hw
  · rename_i ds q
    refine .inr ⟨S, F, R, hR, ?_, k⟩
    show wItT (wVar i) S R
    unfold wItT wVar
    rw [q]
    exact hw
  · exact hw.elim
theorem fn_none {P : Program} {w : World} {K : PySem.W.Frag} {mg : Str → Option Value} {base : Heap} {CX : CXT} {k n : Nat} {f : Addr} {fd : FuncData} {ps : List Str} : FnOk P w K mg base CX k f fd ps (spOf K n fun _ _ _ _ => False) :=
  ⟨fun vs H Q E h => by
    obtain ⟨_, _, _, _, _, _, _, _, z, _⟩ := h
    exact z.elim, fun A outer s H args us vs Q E _ _ _ _ h => by
    obtain ⟨_, _, _, _, _, _, _, _, z, _⟩ := h
    exact z.elim⟩
end
theorem le_rec {j l n : Nat} (h : Nat.ble j l = true) : j ≤ Nat.add l n := Nat.le_trans (Nat.le_of_ble_eq_true h) (Nat.le_add_right l n)
end VL

set_option Elab.async false
set_option linter.all false
set_option maxRecDepth 100000
set_option maxHeartbeats 4000000
/-! VT: the tape, and what all laws share -/
namespace VL
open PySem PySem.Spec L2
/-- a tape: the script's numbers, the next place, what is left of a great number, the state of the drawing -/
def Tp (h : Oh) (a : Addr) : Prop := ∃ (ns : List Int) (i r s : Int), h a = some (.ml [.lst (ns.map .int), .int i, .int r, .int s]) ∧ ns.length ≤ 63 ∧ 0 ≤ i ∧ 0 ≤ r ∧ 0 ≤ s ∧ s < 2147483647
/-- nothing but the tape has changed -/
def But (a : Addr) (h h' : Oh) : Prop := ∀ b, b ≠ a → h' b = h b
theorem But.refl (a : Addr) (h : Oh) : But a h h := fun _ _ => rfl
theorem But.trans {a : Addr} {h h1 h2 : Oh} (x : But a h h1) (y : But a h1 h2) : But a h h2 := fun b n => (y b n).trans (x b n)
theorem But.put (a : Addr) (h : Oh) (o : Ob) : But a h (h.put a o) := fun b n => Oh.put_ne n
@[irreducible] def sp_next : Spc := fun ds h R _ => ∃ a m, ds = [.obj a, .int m] ∧ Tp h a ∧ 0 < m ∧ m < 2 ^ 60 ∧ ∀ v h', 0 ≤ v → v < m → Tp h' a → But a h h' → R (.int v) h'
theorem sp_next_out {ds : List D} {h : Oh} {R : D → Oh → Prop} {E : XC} (q : sp_next ds h R E) : ∃ a m, ds = [.obj a, .int m] ∧ Tp h a ∧ 0 < m ∧ m < 2 ^ 60 ∧ ∀ v h', 0 ≤ v → v < m → Tp h' a → But a h h' → R (.int v) h' := by
  unfold sp_next at q
  exact q
theorem draw {h : Oh} {a : Addr} {m : Int} {R : D → Oh → Prop} {E : XC} (hT : Tp h a) (h1 : 0 < m) (h2 : m < 2 ^ 60) (k : ∀ v h', 0 ≤ v → v < m → Tp h' a → But a h h' → R (.int v) h') : sp_next [.obj a, .int m] h R E := by
  unfold sp_next
  exact ⟨a, m, rfl, hT, h1, h2, k⟩
/-- law: the script goes in, True comes out -/
def sp_true : Spc := fun ds h R _ => ∃ ns : List Int, ds = [.scr ns] ∧ ns.length ≤ 63 ∧ ∀ h', R (.bl true) h'
theorem atI_map {α β : Type} {f : α → β} {xs : List α} {i : Int} (h0 : 0 ≤ i) (h : i < xs.length) : ∃ x, xs[i.toNat]? = some x ∧ atI (xs.map f) i = some (f x) := by
  have hi : i.toNat < xs.length := by omega
  refine ⟨xs[i.toNat], List.getElem?_eq_getElem hi, ?_⟩
  unfold atI ixN
  rw [if_pos h0, if_pos (by rw [List.length_map]; exact h)]
  show (xs.map f)[i.toNat]? = _
  rw [List.getElem?_map, List.getElem?_eq_getElem hi]
  rfl
theorem cdiv {i j : Int} (h : 0 < j) (h2 : j < 2 ^ 60) : CDivW i j := wide_div h (b := 60) (by omega) (by decide) (by decide)
theorem cdiv2 {i : Int} : CDivW i 2 := cdiv (by decide) (by decide)
theorem cmul {i j : Int} (a b : Nat) (ha : i.natAbs < 2 ^ a) (hb : j.natAbs < 2 ^ b) (h : a + b ≤ 134217728) : CMulX i j := mulx_ok ha hb h
theorem forc {g : WG} {tb : WS} {T : We} {x : D} {xs : List D} {S : Sg} (h : g x S fun S1 => tb { T with nx := wForL g tb T xs, ct := wForL g tb T xs, bk := T.nx } S1) : wForL g tb T (x :: xs) S := h
theorem forv {i : Nat} {tb : WS} {T : We} {x : D} {xs : List D} {S : Sg} (h : tb { T with nx := wForL (gVar i) tb T xs, ct := wForL (gVar i) tb T xs, bk := T.nx } (S.st i (.f x))) : wForL (gVar i) tb T (x :: xs) S := h
open PyProof.Rows
def w_next_6 : WS :=
  (wRet (wOp opMod (wCB bInt (wCons (wOp opDiv (wOp opMod (wOp opMul (wIx (wVar 0) (wC (.int 3))) (wC (.int 16807))) (wC (.int 2147483647))) (wC (.int 7))) wNil)) (wVar 1)))
def w_next_5 : WS :=
  (wSeq (wAsg (wOp opMod (wCB bInt (wCons (wOp opAdd (wOp opAdd (wOp opMul (wIx (wVar 0) (wC (.int 3))) (wC (.int 48271))) (wOp opMul (wVar 3) (wC (.int 69621)))) (wC (.int 11))) wNil)) (wC (.int 2147483647))) (gIxM (wVar 0) (wC (.int 3))))
  w_next_6)
def w_next_4 : WS :=
  (wSeq (wIfS (wBb (wOp opGe (wVar 3) (wOp opPow (wC (.int 10)) (wC (.int 18))))) (wSeq (wAsg (wOp opDiv (wVar 3) (wVar 1)) (gIxM (wVar 0) (wC (.int 2))))
  (wRet (wOp opMod (wCB bInt (wCons (wVar 3) wNil)) (wVar 1)))) wNext)
  w_next_5)
def w_next_3 : WS :=
  (wSeq (wIfS (wBb (wOp opLt (wIx (wVar 0) (wC (.int 1))) (wCB bLen (wCons (wIx (wVar 0) (wC (.int 0))) wNil)))) (wSeq (wAsg (wCB bAbs (wCons (wIx (wIx (wVar 0) (wC (.int 0))) (wIx (wVar 0) (wC (.int 1)))) wNil)) (gVar 3))
  (wAugM (wVar 0) (wC (.int 1)) opAddI (wC (.int 1)))) wNext)
  w_next_4)
def w_next_2 : WS :=
  (wSeq (wAsg (wC (.int 0)) (gVar 3))
  w_next_3)
def w_next_1 : WS :=
  (wSeq (wIfS (wBb (wOp opGt (wVar 2) (wC (.int 0)))) (wSeq (wAsg (wOp opDiv (wVar 2) (wVar 1)) (gIxM (wVar 0) (wC (.int 2))))
  (wRet (wOp opMod (wCB bInt (wCons (wVar 2) wNil)) (wVar 1)))) wNext)
  w_next_2)
def w_next : WS :=
  (wSeq (wAsg (wIx (wVar 0) (wC (.int 2))) (gVar 2))
  w_next_1)
theorem pk_next : Pk 2 2 sp_next w_next := by
  intro ds h R _ q
  obtain ⟨a, m, rfl, ⟨ns, i, r, s, hT, hn, hi, hr, hs, hs2⟩, hm, hm2, hR⟩ := sp_next_out q
  refine ⟨_, _, hT, rfl, ?_⟩
  refine br (fun e => ?_) (fun e => ?_)
  · refine ⟨cdiv hm hm2, a, _, 2, 2, rfl, rfl, hT, rfl, hm, ?_⟩
    refine hR _ _ (Int.emod_nonneg _ (by omega)) (Int.emod_lt_of_pos _ hm) ⟨ns, i, r / m, s, Oh.put_same, hn, hi, Int.ediv_nonneg hr (by omega), hs, hs2⟩ (But.put _ _ _)
  -- the rest, from any cell
  have rest : ∀ (h1 : Oh) (i1 c : Int), 0 ≤ c → h1 a = some (.ml [.lst (ns.map .int), .int i1, .int r, .int s]) → 0 ≤ i1 → But a h h1 →
      w_next_4 (Fi R) ⟨[.f (.obj a), .f (.int m), .f (.int r), .f (.int c)], h1⟩ := fun h1 i1 c hc hT1 hi1 hb => by
    refine ⟨⟨by decide, by decide, by decide⟩, ?_⟩
    refine br (fun e2 => ?_) (fun e2 => ?_)
    · refine ⟨cdiv hm hm2, a, _, 2, 2, rfl, rfl, hT1, rfl, hm, ?_⟩
      refine hR _ _ (Int.emod_nonneg _ (by omega)) (Int.emod_lt_of_pos _ hm) ⟨ns, i1, c / m, s, Oh.put_same, hn, hi1, Int.ediv_nonneg hc (by omega), hs, hs2⟩ (hb.trans (But.put _ _ _))
    · have hc2 : c < 10 ^ 18 := by
        have := of_decide_eq_false e2
        have e3 : ((10 : Int) ^ (18 : Int).toNat) = 10 ^ 18 := rfl
        rw [e3] at this
        omega
      refine ⟨_, _, hT1, rfl, cmul 32 17 (by omega) (by decide) (by decide), cmul 60 18 (by omega) (by decide) (by decide), ?_⟩
      refine ⟨(by decide : (0 : Int) < 2147483647), a, _, 3, 3, rfl, rfl, hT1, rfl, ?_⟩
      have b1 : 0 ≤ (s * 48271 + c * 69621 + 11) % 2147483647 := Int.emod_nonneg _ (by decide)
      have b2 : (s * 48271 + c * 69621 + 11) % 2147483647 < 2147483647 := Int.emod_lt_of_pos _ (by decide)
      refine ⟨_, _, Oh.put_same, rfl, cmul 32 17 (by omega) (by decide) (by decide), (by decide : (0 : Int) < 2147483647), wide_div (b := 4) (by decide) (by decide) (by decide) (by decide), hm, ?_⟩
      exact hR _ _ (Int.emod_nonneg _ (by omega)) (Int.emod_lt_of_pos _ hm) ⟨ns, i1, r, _, Oh.put_same, hn, hi1, hr, b1, b2⟩ (hb.trans (But.put _ _ _))
  refine ⟨_, _, hT, rfl, _, _, hT, rfl, ?_⟩
  refine br (fun e2 => ?_) (fun e2 => ?_)
  · have e3 : i < ns.length := by
      have := of_decide_eq_true e2
      rw [List.length_map] at this
      exact this
    obtain ⟨x, hx, ha⟩ := atI_map (f := D.int) hi e3
    refine ⟨_, _, hT, rfl, _, _, hT, rfl, _, ha, ?_⟩
    refine ⟨a, _, 1, _, rfl, rfl, hT, rfl, _, 1, hT, rfl, ?_⟩
    exact rest _ (i + 1) _ (by split <;> omega) Oh.put_same (by omega) (But.put _ _ _)
  · exact rest h i 0 (by decide) hT hi (But.refl _ _)
end VL

set_option Elab.async false
set_option linter.all false
set_option maxRecDepth 100000
set_option maxHeartbeats 400000
/-! VTs: the tape's step, where * serves texts too -/
namespace VL
open PySem PySem.Spec PyProof.Rows L2
def w_nextS_6 : WS :=
  (wRet (wOp opMod (wCB bInt (wCons (wOp opDiv (wOp opMod (wOp opMulS (wIx (wVar 0) (wC (.int 3))) (wC (.int 16807))) (wC (.int 2147483647))) (wC (.int 7))) wNil)) (wVar 1)))
def w_nextS_5 : WS :=
  (wSeq (wAsg (wOp opMod (wCB bInt (wCons (wOp opAdd (wOp opAdd (wOp opMulS (wIx (wVar 0) (wC (.int 3))) (wC (.int 48271))) (wOp opMulS (wVar 3) (wC (.int 69621)))) (wC (.int 11))) wNil)) (wC (.int 2147483647))) (gIxM (wVar 0) (wC (.int 3))))
  w_nextS_6)
def w_nextS_4 : WS :=
  (wSeq (wIfS (wBb (wOp opGe (wVar 3) (wOp opPow (wC (.int 10)) (wC (.int 18))))) (wSeq (wAsg (wOp opDiv (wVar 3) (wVar 1)) (gIxM (wVar 0) (wC (.int 2))))
  (wRet (wOp opMod (wCB bInt (wCons (wVar 3) wNil)) (wVar 1)))) wNext)
  w_nextS_5)
def w_nextS_3 : WS :=
  (wSeq (wIfS (wBb (wOp opLt (wIx (wVar 0) (wC (.int 1))) (wCB bLen (wCons (wIx (wVar 0) (wC (.int 0))) wNil)))) (wSeq (wAsg (wCB bAbs (wCons (wIx (wIx (wVar 0) (wC (.int 0))) (wIx (wVar 0) (wC (.int 1)))) wNil)) (gVar 3))
  (wAugM (wVar 0) (wC (.int 1)) opAddI (wC (.int 1)))) wNext)
  w_nextS_4)
def w_nextS_2 : WS :=
  (wSeq (wAsg (wC (.int 0)) (gVar 3))
  w_nextS_3)
def w_nextS_1 : WS :=
  (wSeq (wIfS (wBb (wOp opGt (wVar 2) (wC (.int 0)))) (wSeq (wAsg (wOp opDiv (wVar 2) (wVar 1)) (gIxM (wVar 0) (wC (.int 2))))
  (wRet (wOp opMod (wCB bInt (wCons (wVar 2) wNil)) (wVar 1)))) wNext)
  w_nextS_2)
def w_nextS : WS :=
  (wSeq (wAsg (wIx (wVar 0) (wC (.int 2))) (gVar 2))
  w_nextS_1)
theorem pk_nextS : Pk 2 2 sp_next w_nextS := by
  intro ds h R _ q
  obtain ⟨a, m, rfl, ⟨ns, i, r, s, hT, hn, hi, hr, hs, hs2⟩, hm, hm2, hR⟩ := sp_next_out q
  refine ⟨_, _, hT, rfl, ?_⟩
  refine br (fun e => ?_) (fun e => ?_)
  · refine ⟨cdiv hm hm2, a, _, 2, 2, rfl, rfl, hT, rfl, hm, ?_⟩
    refine hR _ _ (Int.emod_nonneg _ (by omega)) (Int.emod_lt_of_pos _ hm) ⟨ns, i, r / m, s, Oh.put_same, hn, hi, Int.ediv_nonneg hr (by omega), hs, hs2⟩ (But.put _ _ _)
  -- the rest, from any cell
  have rest : ∀ (h1 : Oh) (i1 c : Int), 0 ≤ c → h1 a = some (.ml [.lst (ns.map .int), .int i1, .int r, .int s]) → 0 ≤ i1 → But a h h1 →
      w_nextS_4 (Fi R) ⟨[.f (.obj a), .f (.int m), .f (.int r), .f (.int c)], h1⟩ := fun h1 i1 c hc hT1 hi1 hb => by
    refine ⟨⟨by decide, by decide, by decide⟩, ?_⟩
    refine br (fun e2 => ?_) (fun e2 => ?_)
    · refine ⟨cdiv hm hm2, a, _, 2, 2, rfl, rfl, hT1, rfl, hm, ?_⟩
      refine hR _ _ (Int.emod_nonneg _ (by omega)) (Int.emod_lt_of_pos _ hm) ⟨ns, i1, c / m, s, Oh.put_same, hn, hi1, Int.ediv_nonneg hc (by omega), hs, hs2⟩ (hb.trans (But.put _ _ _))
    · have hc2 : c < 10 ^ 18 := by
        have := of_decide_eq_false e2
        have e3 : ((10 : Int) ^ (18 : Int).toNat) = 10 ^ 18 := rfl
        rw [e3] at this
        omega
      refine ⟨_, _, hT1, rfl, cmul 32 17 (by omega) (by decide) (by decide), cmul 60 18 (by omega) (by decide) (by decide), ?_⟩
      refine ⟨(by decide : (0 : Int) < 2147483647), a, _, 3, 3, rfl, rfl, hT1, rfl, ?_⟩
      have b1 : 0 ≤ (s * 48271 + c * 69621 + 11) % 2147483647 := Int.emod_nonneg _ (by decide)
      have b2 : (s * 48271 + c * 69621 + 11) % 2147483647 < 2147483647 := Int.emod_lt_of_pos _ (by decide)
      refine ⟨_, _, Oh.put_same, rfl, cmul 32 17 (by omega) (by decide) (by decide), (by decide : (0 : Int) < 2147483647), wide_div (b := 4) (by decide) (by decide) (by decide) (by decide), hm, ?_⟩
      exact hR _ _ (Int.emod_nonneg _ (by omega)) (Int.emod_lt_of_pos _ hm) ⟨ns, i1, r, _, Oh.put_same, hn, hi1, hr, b1, b2⟩ (hb.trans (But.put _ _ _))
  refine ⟨_, _, hT, rfl, _, _, hT, rfl, ?_⟩
  refine br (fun e2 => ?_) (fun e2 => ?_)
  · have e3 : i < ns.length := by
      have := of_decide_eq_true e2
      rw [List.length_map] at this
      exact this
    obtain ⟨x, hx, ha⟩ := atI_map (f := D.int) hi e3
    refine ⟨_, _, hT, rfl, _, _, hT, rfl, _, ha, ?_⟩
    refine ⟨a, _, 1, _, rfl, rfl, hT, rfl, _, 1, hT, rfl, ?_⟩
    exact rest _ (i + 1) _ (by split <;> omega) Oh.put_same (by omega) (But.put _ _ _)
  · exact rest h i 0 (by decide) hT hi (But.refl _ _)
end VL

set_option Elab.async false
set_option linter.all false
set_option maxRecDepth 100000
set_option maxHeartbeats 400000
/-! S_k34: what can be played: what the defs promise -/
namespace K34
open PySem PySem.Spec PyProof.Rows L2 VL
def k_MOST_QUBITS : D := (.int 3)
/-! ### programs -/
inductive Cn where
  | bit (s : Str)
  | val (v : Nat)
  | nt (c : Cn)
  | bin (w : Str) (c d : Cn)
def Cn.d : Cn → D
  | .bit s => .tup [.str "bit", .str s]
  | .val v => .tup [.str "value", .int (v : Nat)]
  | .nt c => .tup [.str "not", c.d]
  | .bin w c e => .tup [.str w, c.d, e.d]
def Cn.bs : Cn → List Str
  | .bit s => [s]
  | .val _ => []
  | .nt c => c.bs
  | .bin _ c e => c.bs ++ e.bs
def Cn.ht : Cn → Nat
  | .bit _ => 1
  | .val _ => 1
  | .nt c => c.ht + 1
  | .bin _ c e => max c.ht e.ht + 1
def Cn.okw : Cn → Bool
  | .bit s => PyData.strOk s
  | .val _ => true
  | .nt c => c.okw
  | .bin w c e => !(w == "bit") && !(w == "value") && c.okw && e.okw
def Cn.wf (c : Cn) : Bool := c.okw && Nat.ble c.ht 4 && Nat.ble c.bs.length 8
inductive Sm where
  | gate (w : Str) (ns : List Str)
  | new (a : Str)
  | meas (a b : Str)
  | free (a : Str)
  | give (c : Cn)
def sD (l : List Str) : List D := l.map D.str
def Sm.d : Sm → D
  | .gate w ns => .tup [.str "gate", .str w, .tup (sD ns)]
  | .new a => .tup [.str "new", .str a]
  | .meas a b => .tup [.str "measure", .str a, .str b]
  | .free a => .tup [.str "free", .str a]
  | .give c => .tup [.str "give", c.d]
def Sm.wf : Sm → Bool
  | .gate _ ns => ns.all PyData.strOk && Nat.ble ns.length 10
  | .new a => PyData.strOk a
  | .meas a b => PyData.strOk a && PyData.strOk b
  | .free a => PyData.strOk a
  | .give c => c.wf
inductive St where
  | sm (s : Sm)
  | iff (c : Cn) (l m : List Sm)
  | rep (k : Nat) (l : List Sm)
def St.d : St → D
  | .sm s => s.d
  | .iff c l m => .tup [.str "if", c.d, .tup (l.map Sm.d), .tup (m.map Sm.d)]
  | .rep k l => .tup [.str "repeat", .int (k : Nat), .tup (l.map Sm.d)]
def St.wf : St → Bool
  | .sm s => s.wf
  | .iff c l m => c.wf && l.all Sm.wf && m.all Sm.wf && Nat.ble l.length 10 && Nat.ble m.length 10
  | .rep _ l => l.all Sm.wf && Nat.ble l.length 10
def St.sz : St → Nat
  | .sm _ => 1
  | .iff _ l m => 1 + l.length + m.length
  | .rep _ l => 1 + l.length
def sz (p : List St) : Nat := (p.map St.sz).sum
/-! ### sorted names -/
def leS (a b : Str) : Bool := !ltCps b.cps.toList a.cps.toList
def srt (l : List Str) : List Str := l.mergeSort leS
/-! ### the program's own look -/
def hasAll (l t : List Str) : Bool := l.all fun x => decide (x ∈ t)
def Sm.qs : Sm → List Str
  | .gate _ ns => ns
  | .meas a _ => [a]
  | .free a => [a]
  | _ => []
def same2 (l : List Str) : Bool := decide (l.length = 2) && decide (l[0]? = l[1]?)
def word (s : Sm) (t b : List Str) : Str := match s with
  | .give c => if hasAll c.bs b = true then "" else "bit"
  | .new a => if a ∈ t then "there" else if 3 ≤ t.length then "many" else ""
  | s => if hasAll s.qs t = true then (if same2 s.qs = true then "same" else "") else "missing"
def stepL (s : Sm) (t b : List Str) : List Str × List Str := match s with
  | .new a => (srt (t ++ [a]), b)
  | .free a => (t.filter fun x => !(x == a), b)
  | .meas _ c => (t, if c ∈ b then b else b ++ [c])
  | _ => (t, b)
abbrev Res := Str × List Str × List Str
def lkS : List Sm → List Str → List Str → Res
  | [], t, b => ("", t, b)
  | s :: r, t, b => if word s t b = "" then lkS r (stepL s t b).1 (stepL s t b).2 else (word s t b, t, b)
def lk : List St → List Str → List Str → Res
  | [], t, b => ("", t, b)
  | .sm s :: r, t, b => if word s t b = "" then lk r (stepL s t b).1 (stepL s t b).2 else (word s t b, t, b)
  | .iff c l m :: r, t, b =>
    if hasAll c.bs b = true then
      (if (lkS l t b).1 = "" then
        (if (lkS m t b).1 = "" then
          (if (lkS l t b).2.1 = (lkS m t b).2.1 then lk r (lkS l t b).2.1 ((lkS l t b).2.2.filter fun x => decide (x ∈ (lkS m t b).2.2)) else ("branches", t, b))
        else ((lkS m t b).1, t, b))
      else ((lkS l t b).1, t, b))
    else ("bit", t, b)
  | .rep k l :: r, t, b =>
    if (lkS l t b).1 = "" then
      (if (lkS l t b).2.1 = t then lk r t (if 0 < k then (lkS l t b).2.2 else b) else ("branches", t, b))
    else ((lkS l t b).1, t, b)
/-! ### the law's walk -/
def stepW (s : Sm) (t b : List Str) : List Str × List Str := match s with
  | .new a => (t ++ [a], b)
  | .free a => (t.filter fun x => !(x == a), b)
  | .meas _ c => (t, b ++ [c])
  | _ => (t, b)
def wkS : List Sm → List Str → List Str → Res
  | [], t, b => ("", t, b)
  | s :: r, t, b => if word s t b = "" then wkS r (stepW s t b).1 (stepW s t b).2 else (word s t b, t, b)
def wk : List St → List Str → List Str → Res
  | [], t, b => ("", t, b)
  | .sm s :: r, t, b => if word s t b = "" then wk r (stepW s t b).1 (stepW s t b).2 else (word s t b, t, b)
  | .iff c l m :: r, t, b =>
    if hasAll c.bs b = true then
      (if (wkS l t b).1 = "" then
        (if (wkS m t b).1 = "" then
          (if srt (wkS l t b).2.1 = srt (wkS m t b).2.1 then wk r (wkS l t b).2.1 ((wkS l t b).2.2.filter fun x => decide (x ∈ (wkS m t b).2.2)) else ("branches", t, b))
        else ((wkS m t b).1, t, b))
      else ((wkS l t b).1, t, b))
    else ("bit", t, b)
  | .rep k l :: r, t, b =>
    if (wkS l t b).1 = "" then
      (if srt (wkS l t b).2.1 = srt t then wk r t (if 0 < k then (wkS l t b).2.2 else b) else ("branches", t, b))
    else ((wkS l t b).1, t, b)
/-! ### promises -/
def lD (l : List Str) : D := .lst (sD l)
def resD (r : Res) : D := .tup [.str r.1, lD r.2.1, lD r.2.2]
def spn_bits_of : Nat → Spc
  | 0 => fun _ _ _ _ => False
  | n + 1 => fun ds h R _ => ∃ c : Cn, ds = [c.d] ∧ c.okw = true ∧ c.ht ≤ n + 1 ∧ c.bs.length ≤ 1000 ∧ R (lD c.bs) h
abbrev sp_bits_of : Spc := spn_bits_of 4
def spn__law_bits : Nat → Spc := spn_bits_of
abbrev sp__law_bits : Spc := spn__law_bits 4
def sp_word_of : Spc := fun ds h R _ => ∃ (s : Sm) (t b : List Str), ds = [s.d, lD t, lD b] ∧ s.wf = true ∧ R (.str (word s t b)) h
/-- what may be walked -/
structure Wf (n : Nat) (p : List St) (t b : List Str) : Prop where
  wf : p.all St.wf = true
  flat : n = 0 → ∀ s ∈ p, ∃ x, s = .sm x
  t3 : t.length ≤ 3
  ok : t.all PyData.strOk = true
  sz : b.length + sz p ≤ 10000
def isP (d : D) (p : List St) : Prop := d = .lst (p.map St.d) ∨ d = .tup (p.map St.d)
def spn_looked : Nat → Spc
  | 0 => fun _ _ _ _ => False
  | n + 1 => fun ds h R _ => ∃ (d : D) (p : List St) (t b : List Str), ds = [d, lD t, lD b] ∧ isP d p ∧ Wf n p t b ∧ R (resD (lk p t b)) h
abbrev sp_looked : Spc := spn_looked 2
def sp_fault_of : Spc := fun ds h R _ => ∃ p : List St, ds = [.lst (p.map St.d)] ∧ p.all St.wf = true ∧ sz p ≤ 10000 ∧ R (.str (lk p [] []).1) h
abbrev sp__law_next : Spc := sp_next
def spn__law_walk : Nat → Spc
  | 0 => fun _ _ _ _ => False
  | n + 1 => fun ds h R _ => ∃ (d : D) (p : List St) (t b : List Str), ds = [d, lD t, lD b] ∧ isP d p ∧ Wf n p t b ∧ R (resD (wk p t b)) h
abbrev sp__law_walk : Spc := spn__law_walk 2
/-! ### what is drawn -/
def B3 : List Str := ["p", "q", "r1"]
def N4 : List Str := ["a", "b", "c", "d"]
/-- a known list of texts -/
def KL (h : Oh) (a : Addr) (l : List Str) : Prop := h a = some (.ml (sD l))
def spn__law_condition : Nat → Spc
  | 0 => fun _ _ _ _ => False
  | n + 1 => fun ds h R _ => ∃ (t o : Addr) (k : Nat) (b : List Str), ds = [.obj t, .obj o, .int k] ∧ k ≤ n ∧ k ≤ 2 ∧ Tp h t ∧ KL h o b ∧ t ≠ o ∧ (∀ x ∈ b, x ∈ B3) ∧ b.length ≤ 1000 ∧
    ∀ (x : Str) (c : Cn) h', x.length ≤ 10 * 4 ^ k → c.okw = true → c.ht ≤ k + 1 → c.bs.length ≤ 2 ^ k → (∀ y ∈ c.bs, y ∈ b) → Tp h' t → But t h h' → R (.tup [.str x, c.d]) h'
abbrev sp__law_condition : Spc := spn__law_condition 3
/-- what the drawn program has come to -/
structure Dr (p : List St) (t b : List Str) : Prop where
  run : lk p [] [] = ((("" : Str), srt t, b) : Res)
  nd : t.Nodup
  n4 : ∀ x ∈ t, x ∈ N4
  t3 : t.length ≤ 3
  b3 : ∀ x ∈ b, x ∈ B3
  nb : b.Nodup
@[irreducible] def sp__law_simple : Spc := fun ds h R _ => ∃ (t a o : Addr) (p : List St) (tl bl : List Str), ds = [.obj t, .obj a, .obj o] ∧ Tp h t ∧ KL h a tl ∧ KL h o bl ∧ t ≠ a ∧ t ≠ o ∧ a ≠ o ∧ Dr p tl bl ∧
  ∀ (x : Str) (s : Sm) tl' bl' h', x.length ≤ 100 → s.wf = true → Dr (p ++ [.sm s]) tl' bl' → Tp h' t → KL h' a tl' → KL h' o bl' → R (.tup [.str x, s.d]) h'
@[irreducible] def sp__law_inner : Spc := fun ds h R _ => ∃ (t a o : Addr) (tl : List Str), ds = [.obj t, .obj a, .obj o] ∧ Tp h t ∧ KL h a tl ∧ t ≠ a ∧ tl ≠ [] ∧ tl.length ≤ 3 ∧ (∀ x ∈ tl, x ∈ N4) ∧
  ∀ (x : Str) (l : List Sm) h', x.length ≤ 100 → l.length ≤ 2 → (∀ s ∈ l, ∃ w y, s = .gate w [y] ∧ y ∈ tl) → Tp h' t → But t h h' → R (.tup [.str x, .tup (l.map Sm.d)]) h'
@[irreducible] def sp__law_program : Spc := fun ds h R _ => ∃ (t a o : Addr) (k : Nat), ds = [.obj t, .int k, .obj a, .obj o, .int 1] ∧ k ≤ 12 ∧ Tp h t ∧ KL h a [] ∧ KL h o [] ∧ t ≠ a ∧ t ≠ o ∧ a ≠ o ∧
  ∀ (x : Str) (p : List St) h', p.length ≤ 12 → p.all St.wf = true → (lk p [] []).1 = "" → Tp h' t → R (.tup [.str x, .lst (p.map St.d)]) h'
@[irreducible] def sp__law_spoilt : Spc := fun ds h R _ => ∃ t : Addr, ds = [.obj t] ∧ Tp h t ∧ ∀ (s : St) h', s.wf = true → Tp h' t → R s.d h'
def sp_law : Spc := sp_true
end K34

set_option Elab.async false
set_option linter.all false
set_option maxRecDepth 100000
namespace K34
open PySem PySem.Spec L2 VL

def w_bits_of_b1 (sp_bits_of : Spc) : WS :=
  (wExt 1 (wCall sp_bits_of (wCons (wVar 2) wNil)))
def w_bits_of_4 (sp_bits_of : Spc) : WS :=
  (wRet (wVar 1))
def w_bits_of_3 (sp_bits_of : Spc) : WS :=
  (wSeq (wFor (wItT (wSl (wVar 0) (wPart (wC (.int 1))) wNoPart)) (gVar 2) (w_bits_of_b1 sp_bits_of))
  (w_bits_of_4 sp_bits_of))
def w_bits_of_2 (sp_bits_of : Spc) : WS :=
  (wSeq (wSetO 1 (wLst wNil))
  (w_bits_of_3 sp_bits_of))
def w_bits_of_1 (sp_bits_of : Spc) : WS :=
  (wSeq (wIfS (wBb (wOp opEq (wIx (wVar 0) (wC (.int 0))) (wC (.str "value")))) (wRet (wLst wNil)) wNext)
  (w_bits_of_2 sp_bits_of))
def w_bits_of (sp_bits_of : Spc) : WS :=
  (wSeq (wIfS (wBb (wOp opEq (wIx (wVar 0) (wC (.int 0))) (wC (.str "bit")))) (wRet (wLst (wCons (wIx (wVar 0) (wC (.int 1))) wNil))) wNext)
  (w_bits_of_1 sp_bits_of))
def w_word_of_5 : WS :=
  (wRet (wIf (wAnd (wBb (wOp opEq (wCB bLen (wCons (wVar 4) wNil)) (wC (.int 2)))) (wBb (wOp opEq (wIx (wVar 4) (wC (.int 0))) (wIx (wVar 4) (wC (.int 1)))))) (wC (.str "same")) (wC (.str ""))))
def w_word_of_4 : WS :=
  (wSeq (wIfS (wNot (wB (wCB bAll (wCons (wLc (wItT (wVar 4)) (gVar 5) wYes (wOp opInD (wVar 5) (wVar 1)) [5]) wNil)))) (wRet (wC (.str "missing"))) wNext)
  w_word_of_5)
def w_word_of_3 : WS :=
  (wSeq (wAsg (wIf (wBb (wOp opEq (wVar 3) (wC (.str "gate")))) (wIx (wVar 0) (wC (.int 2))) (wTup (wCons (wIx (wVar 0) (wC (.int 1))) wNil))) (gVar 4))
  w_word_of_4)
def w_word_of_2 : WS :=
  (wSeq (wIfS (wBb (wOp opEq (wVar 3) (wC (.str "new")))) (wSeq (wIfS (wBb (wOp opInD (wIx (wVar 0) (wC (.int 1))) (wVar 1))) (wRet (wC (.str "there"))) wNext)
  (wRet (wIf (wBb (wOp opGe (wCB bLen (wCons (wVar 1) wNil)) (wC k_MOST_QUBITS))) (wC (.str "many")) (wC (.str ""))))) wNext)
  w_word_of_3)
def w_word_of_1 : WS :=
  (wSeq (wIfS (wBb (wOp opEq (wVar 3) (wC (.str "give")))) (wRet (wIf (wB (wCB bAll (wCons (wLc (wItL (wCall sp_bits_of (wCons (wIx (wVar 0) (wC (.int 1))) wNil))) (gVar 6) wYes (wOp opInD (wVar 6) (wVar 2)) [6]) wNil))) (wC (.str "")) (wC (.str "bit")))) wNext)
  w_word_of_2)
def w_word_of : WS :=
  (wSeq (wAsg (wIx (wVar 0) (wC (.int 0))) (gVar 3))
  w_word_of_1)
def w_looked_b1_1 (sp_looked : Spc) : WS :=
  (wIfS (wBb (wOp opEq (wVar 4) (wC (.str "if")))) (wSeq (wIfS (wNot (wB (wCB bAll (wCons (wLc (wItL (wCall sp_bits_of (wCons (wIx (wVar 3) (wC (.int 1))) wNil))) (gVar 11) wYes (wOp opInD (wVar 11) (wVar 2)) [11]) wNil)))) (wRet (wTup (wCons (wC (.str "bit")) (wCons (wVar 1) (wCons (wVar 2) wNil))))) wNext)
  (wSeq (wAsg (wCall sp_looked (wCons (wIx (wVar 3) (wC (.int 2))) (wCons (wVar 1) (wCons (wVar 2) wNil)))) (gTp 3 (gsCons (gVar 5) (gsCons (gVar 6) (gsCons (gVar 7) gsNil)))))
  (wSeq (wIfS (wBb (wOp opNe (wVar 5) (wC (.str "")))) (wRet (wTup (wCons (wVar 5) (wCons (wVar 1) (wCons (wVar 2) wNil))))) wNext)
  (wSeq (wAsg (wCall sp_looked (wCons (wIx (wVar 3) (wC (.int 3))) (wCons (wVar 1) (wCons (wVar 2) wNil)))) (gTp 3 (gsCons (gVar 5) (gsCons (gVar 8) (gsCons (gVar 9) gsNil)))))
  (wSeq (wIfS (wBb (wOp opNe (wVar 5) (wC (.str "")))) (wRet (wTup (wCons (wVar 5) (wCons (wVar 1) (wCons (wVar 2) wNil))))) wNext)
  (wSeq (wIfS (wBb (wOp opNe (wVar 6) (wVar 8))) (wRet (wTup (wCons (wC (.str "branches")) (wCons (wVar 1) (wCons (wVar 2) wNil))))) wNext)
  (wAsg (wTup (wCons (wVar 6) (wCons (wLc (wItL (wVar 7)) (gVar 11) (wBb (wOp opInD (wVar 11) (wVar 9))) (wVar 11) [11]) wNil))) (gTp 2 (gsCons (gVar 1) (gsCons (gVar 2) gsNil)))))))))) (wIfS (wBb (wOp opEq (wVar 4) (wC (.str "repeat")))) (wSeq (wAsg (wCall sp_looked (wCons (wIx (wVar 3) (wC (.int 2))) (wCons (wVar 1) (wCons (wVar 2) wNil)))) (gTp 3 (gsCons (gVar 5) (gsCons (gVar 10) (gsCons (gVar 7) gsNil)))))
  (wSeq (wIfS (wAnd (wBb (wOp opEq (wVar 5) (wC (.str "")))) (wBb (wOp opNe (wVar 10) (wVar 1)))) (wAsg (wC (.str "branches")) (gVar 5)) wNext)
  (wSeq (wIfS (wBb (wOp opNe (wVar 5) (wC (.str "")))) (wRet (wTup (wCons (wVar 5) (wCons (wVar 1) (wCons (wVar 2) wNil))))) wNext)
  (wAsg (wIf (wBb (wOp opGt (wIx (wVar 3) (wC (.int 1))) (wC (.int 0)))) (wVar 7) (wVar 2)) (gVar 2))))) (wSeq (wAsg (wCall sp_word_of (wCons (wVar 3) (wCons (wVar 1) (wCons (wVar 2) wNil)))) (gVar 5))
  (wSeq (wIfS (wBb (wOp opNe (wVar 5) (wC (.str "")))) (wRet (wTup (wCons (wVar 5) (wCons (wVar 1) (wCons (wVar 2) wNil))))) wNext)
  (wIfS (wBb (wOp opEq (wVar 4) (wC (.str "new")))) (wAsg (wCB bSortS (wCons (wOp opAdd (wVar 1) (wLst (wCons (wIx (wVar 3) (wC (.int 1))) wNil))) wNil)) (gVar 1)) (wIfS (wBb (wOp opEq (wVar 4) (wC (.str "free")))) (wAsg (wLc (wItL (wVar 1)) (gVar 12) (wBb (wOp opNe (wVar 12) (wIx (wVar 3) (wC (.int 1))))) (wVar 12) [12]) (gVar 1)) (wIfS (wAnd (wBb (wOp opEq (wVar 4) (wC (.str "measure")))) (wBb (wOp opNotInD (wIx (wVar 3) (wC (.int 2))) (wVar 2)))) (wAsg (wOp opAdd (wVar 2) (wLst (wCons (wIx (wVar 3) (wC (.int 2))) wNil))) (gVar 2)) wNext)))))))
def w_looked_b1 (sp_looked : Spc) : WS :=
  (wSeq (wAsg (wIx (wVar 3) (wC (.int 0))) (gVar 4))
  (w_looked_b1_1 sp_looked))
def w_looked_1 (sp_looked : Spc) : WS :=
  (wRet (wTup (wCons (wC (.str "")) (wCons (wVar 1) (wCons (wVar 2) wNil)))))
def w_looked (sp_looked : Spc) : WS :=
  (wSeq (wFor (wItV 0) (gVar 3) (w_looked_b1 sp_looked))
  (w_looked_1 sp_looked))
def w_fault_of : WS :=
  (wRet (wIx (wCall sp_looked (wCons (wVar 0) (wCons (wLst wNil) (wCons (wLst wNil) wNil)))) (wC (.int 0))))
def w__law_next_6 : WS :=
  (wRet (wOp opMod (wCB bInt (wCons (wOp opDiv (wOp opMod (wOp opMulS (wIx (wVar 0) (wC (.int 3))) (wC (.int 16807))) (wC (.int 2147483647))) (wC (.int 7))) wNil)) (wVar 1)))
def w__law_next_5 : WS :=
  (wSeq (wAsg (wOp opMod (wCB bInt (wCons (wOp opAdd (wOp opAdd (wOp opMulS (wIx (wVar 0) (wC (.int 3))) (wC (.int 48271))) (wOp opMulS (wVar 3) (wC (.int 69621)))) (wC (.int 11))) wNil)) (wC (.int 2147483647))) (gIxM (wVar 0) (wC (.int 3))))
  w__law_next_6)
def w__law_next_4 : WS :=
  (wSeq (wIfS (wBb (wOp opGe (wVar 3) (wOp opPow (wC (.int 10)) (wC (.int 18))))) (wSeq (wAsg (wOp opDiv (wVar 3) (wVar 1)) (gIxM (wVar 0) (wC (.int 2))))
  (wRet (wOp opMod (wCB bInt (wCons (wVar 3) wNil)) (wVar 1)))) wNext)
  w__law_next_5)
def w__law_next_3 : WS :=
  (wSeq (wIfS (wBb (wOp opLt (wIx (wVar 0) (wC (.int 1))) (wCB bLen (wCons (wIx (wVar 0) (wC (.int 0))) wNil)))) (wSeq (wAsg (wCB bAbs (wCons (wIx (wIx (wVar 0) (wC (.int 0))) (wIx (wVar 0) (wC (.int 1)))) wNil)) (gVar 3))
  (wAugM (wVar 0) (wC (.int 1)) opAddI (wC (.int 1)))) wNext)
  w__law_next_4)
def w__law_next_2 : WS :=
  (wSeq (wAsg (wC (.int 0)) (gVar 3))
  w__law_next_3)
def w__law_next_1 : WS :=
  (wSeq (wIfS (wBb (wOp opGt (wVar 2) (wC (.int 0)))) (wSeq (wAsg (wOp opDiv (wVar 2) (wVar 1)) (gIxM (wVar 0) (wC (.int 2))))
  (wRet (wOp opMod (wCB bInt (wCons (wVar 2) wNil)) (wVar 1)))) wNext)
  w__law_next_2)
def w__law_next : WS :=
  (wSeq (wAsg (wIx (wVar 0) (wC (.int 2))) (gVar 2))
  w__law_next_1)
def w__law_condition_8 (sp__law_condition : Spc) : WS :=
  (wRet (wTup (wCons (wOp opAdd (wOp opAdd (wOp opAdd (wOp opAdd (wOp opAdd (wOp opAdd (wC (.str "(")) (wVar 7)) (wC (.str " "))) (wVar 4)) (wC (.str " "))) (wVar 9)) (wC (.str ")"))) (wCons (wTup (wCons (wVar 4) (wCons (wVar 8) (wCons (wVar 10) wNil)))) wNil))))
def w__law_condition_7 (sp__law_condition : Spc) : WS :=
  (wSeq (wAsg (wCall sp__law_condition (wCons (wVar 0) (wCons (wVar 1) (wCons (wOp opSub (wVar 2) (wC (.int 1))) wNil)))) (gTp 2 (gsCons (gVar 9) (gsCons (gVar 10) gsNil))))
  (w__law_condition_8 sp__law_condition))
def w__law_condition_6 (sp__law_condition : Spc) : WS :=
  (wSeq (wAsg (wIx (wLst (wCons (wC (.str "and")) (wCons (wC (.str "or")) (wCons (wC (.str "xor")) wNil)))) (wCall sp__law_next (wCons (wVar 0) (wCons (wC (.int 3)) wNil)))) (gVar 4))
  (w__law_condition_7 sp__law_condition))
def w__law_condition_5 (sp__law_condition : Spc) : WS :=
  (wSeq (wIfS (wBb (wOp opEq (wVar 3) (wC (.int 5)))) (wRet (wTup (wCons (wOp opAdd (wOp opAdd (wC (.str "(")) (wVar 7)) (wC (.str ")"))) (wCons (wVar 8) wNil)))) wNext)
  (w__law_condition_6 sp__law_condition))
def w__law_condition_4 (sp__law_condition : Spc) : WS :=
  (wSeq (wIfS (wBb (wOp opEq (wVar 3) (wC (.int 4)))) (wRet (wTup (wCons (wOp opAdd (wC (.str "not ")) (wVar 7)) (wCons (wTup (wCons (wC (.str "not")) (wCons (wVar 8) wNil))) wNil)))) wNext)
  (w__law_condition_5 sp__law_condition))
def w__law_condition_3 (sp__law_condition : Spc) : WS :=
  (wSeq (wAsg (wCall sp__law_condition (wCons (wVar 0) (wCons (wVar 1) (wCons (wOp opSub (wVar 2) (wC (.int 1))) wNil)))) (gTp 2 (gsCons (gVar 7) (gsCons (gVar 8) gsNil))))
  (w__law_condition_4 sp__law_condition))
def w__law_condition_2 (sp__law_condition : Spc) : WS :=
  (wSeq (wIfS (wOr (wBb (wOp opLt (wVar 3) (wC (.int 4)))) (wBb (wOp opEq (wVar 2) (wC (.int 0))))) (wSeq (wAsg (wCall sp__law_next (wCons (wVar 0) (wCons (wC (.int 2)) wNil))) (gVar 6))
  (wRet (wTup (wCons (wCB bStr (wCons (wVar 6) wNil)) (wCons (wTup (wCons (wC (.str "value")) (wCons (wVar 6) wNil))) wNil))))) wNext)
  (w__law_condition_3 sp__law_condition))
def w__law_condition_1 (sp__law_condition : Spc) : WS :=
  (wSeq (wIfS (wAnd (wBb (wOp opLt (wVar 3) (wC (.int 3)))) (wBM (wVar 1))) (wSeq (wAsg (wIx (wVar 1) (wCall sp__law_next (wCons (wVar 0) (wCons (wLenM (wVar 1)) wNil)))) (gVar 5))
  (wRet (wTup (wCons (wVar 5) (wCons (wTup (wCons (wC (.str "bit")) (wCons (wVar 5) wNil))) wNil))))) wNext)
  (w__law_condition_2 sp__law_condition))
def w__law_condition (sp__law_condition : Spc) : WS :=
  (wSeq (wAsg (wCall sp__law_next (wCons (wVar 0) (wCons (wC (.int 7)) wNil))) (gVar 3))
  (w__law_condition_1 sp__law_condition))
def w__law_simple_7 : WS :=
  (wRet (wTup (wCons (wOp opAdd (wOp opAdd (wC (.str "free ")) (wVar 4)) (wC (.str ";"))) (wCons (wTup (wCons (wC (.str "free")) (wCons (wVar 4) wNil))) wNil))))
def w__law_simple_6 : WS :=
  (wSeq (wRemM (wVar 1) (wVar 4))
  w__law_simple_7)
def w__law_simple_5 : WS :=
  (wSeq (wIfS (wBb (wOp opLt (wVar 3) (wC (.int 11)))) (wSeq (wAsg (wIx (wLst (wCons (wC (.str "p")) (wCons (wC (.str "q")) (wCons (wC (.str "r1")) wNil)))) (wCall sp__law_next (wCons (wVar 0) (wCons (wC (.int 3)) wNil)))) (gVar 7))
  (wSeq (wIfS (wBb (wOpM opNotInD (wVar 7) (wVar 2))) (wAppM (wVar 2) (wVar 7)) wNext)
  (wRet (wTup (wCons (wOp opAdd (wOp opAdd (wOp opAdd (wOp opAdd (wC (.str "measure ")) (wVar 4)) (wC (.str " -> "))) (wVar 7)) (wC (.str ";"))) (wCons (wTup (wCons (wC (.str "measure")) (wCons (wVar 4) (wCons (wVar 7) wNil)))) wNil)))))) wNext)
  w__law_simple_6)
def w__law_simple_4 : WS :=
  (wSeq (wIfS (wAnd (wBb (wOp opLt (wVar 3) (wC (.int 9)))) (wBb (wOp opGt (wLenM (wVar 1)) (wC (.int 1))))) (wSeq (wAsg (wIx (wLcO (wVar 1) (gVar 8) (wBb (wOp opNe (wVar 8) (wVar 4))) (wVar 8) [8]) (wCall sp__law_next (wCons (wVar 0) (wCons (wOp opSub (wLenM (wVar 1)) (wC (.int 1))) wNil)))) (gVar 6))
  (wSeq (wAsg (wIx (wLst (wCons (wC (.str "cx")) (wCons (wC (.str "cz")) wNil))) (wCall sp__law_next (wCons (wVar 0) (wCons (wC (.int 2)) wNil)))) (gVar 5))
  (wRet (wTup (wCons (wOp opAdd (wOp opAdd (wOp opAdd (wOp opAdd (wOp opAdd (wVar 5) (wC (.str " "))) (wVar 4)) (wC (.str " "))) (wVar 6)) (wC (.str ";"))) (wCons (wTup (wCons (wC (.str "gate")) (wCons (wM0 mUpper (wVar 5)) (wCons (wTup (wCons (wVar 4) (wCons (wVar 6) wNil))) wNil)))) wNil)))))) wNext)
  w__law_simple_5)
def w__law_simple_3 : WS :=
  (wSeq (wIfS (wBb (wOp opLt (wVar 3) (wC (.int 7)))) (wSeq (wAsg (wIx (wLst (wCons (wC (.str "h")) (wCons (wC (.str "s")) (wCons (wC (.str "si")) (wCons (wC (.str "x")) (wCons (wC (.str "z")) (wCons (wC (.str "y")) (wCons (wC (.str "t")) (wCons (wC (.str "ti")) (wCons (wC (.str "h")) (wCons (wC (.str "t")) wNil))))))))))) (wCall sp__law_next (wCons (wVar 0) (wCons (wC (.int 10)) wNil)))) (gVar 5))
  (wRet (wTup (wCons (wOp opAdd (wOp opAdd (wOp opAdd (wVar 5) (wC (.str " "))) (wVar 4)) (wC (.str ";"))) (wCons (wTup (wCons (wC (.str "gate")) (wCons (wM0 mUpper (wVar 5)) (wCons (wTup (wCons (wVar 4) wNil)) wNil)))) wNil))))) wNext)
  w__law_simple_4)
def w__law_simple_2 : WS :=
  (wSeq (wAsg (wIx (wVar 1) (wCall sp__law_next (wCons (wVar 0) (wCons (wLenM (wVar 1)) wNil)))) (gVar 4))
  w__law_simple_3)
def w__law_simple_1 : WS :=
  (wSeq (wIfS (wOr (wBb (wOpM opEq (wVar 1) (wLst wNil))) (wAnd (wBb (wOp opEq (wVar 3) (wC (.int 0)))) (wBb (wOp opLt (wLenM (wVar 1)) (wC (.int 3)))))) (wSeq (wAsg (wIx (wLc (wItT (wTup (wCons (wC (.str "a")) (wCons (wC (.str "b")) (wCons (wC (.str "c")) (wCons (wC (.str "d")) wNil)))))) (gVar 8) (wBb (wOpM opNotInD (wVar 8) (wVar 1))) (wVar 8) [8]) (wCall sp__law_next (wCons (wVar 0) (wCons (wC (.int 2)) wNil)))) (gVar 4))
  (wSeq (wAppM (wVar 1) (wVar 4))
  (wRet (wTup (wCons (wOp opAdd (wOp opAdd (wC (.str "new ")) (wVar 4)) (wC (.str ";"))) (wCons (wTup (wCons (wC (.str "new")) (wCons (wVar 4) wNil))) wNil)))))) wNext)
  w__law_simple_2)
def w__law_simple : WS :=
  (wSeq (wAsg (wCall sp__law_next (wCons (wVar 0) (wCons (wC (.int 12)) wNil))) (gVar 3))
  w__law_simple_1)
def w__law_program_b1_1 : WS :=
  (wIfS (wBb (wOp opEq (wVar 8) (wC (.int 0)))) (wSeq (wAsg (wCall sp__law_condition (wCons (wVar 0) (wCons (wVar 3) (wCons (wC (.int 2)) wNil)))) (gTp 2 (gsCons (gVar 9) (gsCons (gVar 10) gsNil))))
  (wSeq (wApp 5 (wOp opAdd (wOp opAdd (wC (.str "give ")) (wVar 9)) (wC (.str ";"))))
  (wApp 6 (wTup (wCons (wC (.str "give")) (wCons (wVar 10) wNil)))))) (wIfS (wAnd (wBb (wOp opEq (wVar 8) (wC (.int 1)))) (wAnd (wBb (wOp opGt (wVar 4) (wC (.int 0)))) (wBM (wVar 2)))) (wSeq (wAsg (wCall sp__law_condition (wCons (wVar 0) (wCons (wVar 3) (wCons (wC (.int 2)) wNil)))) (gTp 2 (gsCons (gVar 9) (gsCons (gVar 10) gsNil))))
  (wSeq (wAsg (wCall sp__law_inner (wCons (wVar 0) (wCons (wVar 2) (wCons (wVar 3) wNil)))) (gVar 11))
  (wSeq (wAsg (wCall sp__law_inner (wCons (wVar 0) (wCons (wVar 2) (wCons (wVar 3) wNil)))) (gVar 12))
  (wSeq (wApp 5 (wOp opAdd (wOp opAdd (wOp opAdd (wOp opAdd (wOp opAdd (wOp opAdd (wC (.str "if ")) (wVar 9)) (wC (.str " { "))) (wIx (wVar 11) (wC (.int 0)))) (wC (.str " } else { "))) (wIx (wVar 12) (wC (.int 0)))) (wC (.str " }"))))
  (wApp 6 (wTup (wCons (wC (.str "if")) (wCons (wVar 10) (wCons (wIx (wVar 11) (wC (.int 1))) (wCons (wIx (wVar 12) (wC (.int 1))) wNil)))))))))) (wIfS (wAnd (wBb (wOp opEq (wVar 8) (wC (.int 2)))) (wAnd (wBb (wOp opGt (wVar 4) (wC (.int 0)))) (wBM (wVar 2)))) (wSeq (wAsg (wCall sp__law_inner (wCons (wVar 0) (wCons (wVar 2) (wCons (wVar 3) wNil)))) (gVar 13))
  (wSeq (wAsg (wCall sp__law_next (wCons (wVar 0) (wCons (wC (.int 4)) wNil))) (gVar 14))
  (wSeq (wApp 5 (wOp opAdd (wOp opAdd (wOp opAdd (wOp opAdd (wC (.str "repeat ")) (wCB bStr (wCons (wVar 14) wNil))) (wC (.str " {"))) (wIx (wVar 13) (wC (.int 0)))) (wC (.str "}"))))
  (wApp 6 (wTup (wCons (wC (.str "repeat")) (wCons (wVar 14) (wCons (wIx (wVar 13) (wC (.int 1))) wNil)))))))) (wSeq (wAsg (wCall sp__law_simple (wCons (wVar 0) (wCons (wVar 2) (wCons (wVar 3) wNil)))) (gTp 2 (gsCons (gVar 9) (gsCons (gVar 10) gsNil))))
  (wSeq (wApp 5 (wVar 9))
  (wApp 6 (wVar 10)))))))
def w__law_program_b1 : WS :=
  (wSeq (wAsg (wCall sp__law_next (wCons (wVar 0) (wCons (wC (.int 8)) wNil))) (gVar 8))
  w__law_program_b1_1)
def w__law_program_3 : WS :=
  (wRet (wTup (wCons (wM1 mJoin (wC (.str " ")) (wVar 5)) (wCons (wVar 6) wNil))))
def w__law_program_2 : WS :=
  (wSeq (wFor (wRng1 (wCons (wVar 1) wNil)) (gVar 7) w__law_program_b1)
  w__law_program_3)
def w__law_program_1 : WS :=
  (wSeq (wSetO 6 (wLst wNil))
  w__law_program_2)
def w__law_program : WS :=
  (wSeq (wSetO 5 (wLst wNil))
  w__law_program_1)
def w__law_inner_b1_3 : WS :=
  (wApp 5 (wTup (wCons (wC (.str "gate")) (wCons (wM0 mUpper (wVar 7)) (wCons (wTup (wCons (wVar 6) wNil)) wNil)))))
def w__law_inner_b1_2 : WS :=
  (wSeq (wApp 4 (wOp opAdd (wOp opAdd (wOp opAdd (wVar 7) (wC (.str " "))) (wVar 6)) (wC (.str ";"))))
  w__law_inner_b1_3)
def w__law_inner_b1_1 : WS :=
  (wSeq (wAsg (wIx (wLst (wCons (wC (.str "h")) (wCons (wC (.str "s")) (wCons (wC (.str "x")) (wCons (wC (.str "t")) (wCons (wC (.str "z")) wNil)))))) (wCall sp__law_next (wCons (wVar 0) (wCons (wC (.int 5)) wNil)))) (gVar 7))
  w__law_inner_b1_2)
def w__law_inner_b1 : WS :=
  (wSeq (wAsg (wIx (wVar 1) (wCall sp__law_next (wCons (wVar 0) (wCons (wLenM (wVar 1)) wNil)))) (gVar 6))
  w__law_inner_b1_1)
def w__law_inner_2 : WS :=
  (wRet (wTup (wCons (wM1 mJoin (wC (.str " ")) (wVar 4)) (wCons (wCB bTup (wCons (wVar 5) wNil)) wNil))))
def w__law_inner_1 : WS :=
  (wSeq (wFor (wRng1 (wCons (wCall sp__law_next (wCons (wVar 0) (wCons (wC (.int 3)) wNil))) wNil)) (gVar 3) w__law_inner_b1)
  w__law_inner_2)
def w__law_inner : WS :=
  (wSeq (wParE 4 5)
  w__law_inner_1)
def w__law_bits_b1 (sp__law_bits : Spc) : WS :=
  (wAsg (wOp opAdd (wVar 1) (wCall sp__law_bits (wCons (wVar 2) wNil))) (gVar 1))
def w__law_bits_4 (sp__law_bits : Spc) : WS :=
  (wRet (wVar 1))
def w__law_bits_3 (sp__law_bits : Spc) : WS :=
  (wSeq (wFor (wItT (wSl (wVar 0) (wPart (wC (.int 1))) wNoPart)) (gVar 2) (w__law_bits_b1 sp__law_bits))
  (w__law_bits_4 sp__law_bits))
def w__law_bits_2 (sp__law_bits : Spc) : WS :=
  (wSeq (wAsg (wLst wNil) (gVar 1))
  (w__law_bits_3 sp__law_bits))
def w__law_bits_1 (sp__law_bits : Spc) : WS :=
  (wSeq (wIfS (wBb (wOp opEq (wIx (wVar 0) (wC (.int 0))) (wC (.str "value")))) (wRet (wLst wNil)) wNext)
  (w__law_bits_2 sp__law_bits))
def w__law_bits (sp__law_bits : Spc) : WS :=
  (wSeq (wIfS (wBb (wOp opEq (wIx (wVar 0) (wC (.int 0))) (wC (.str "bit")))) (wRet (wLst (wCons (wIx (wVar 0) (wC (.int 1))) wNil))) wNext)
  (w__law_bits_1 sp__law_bits))
def w__law_walk_b2 (sp__law_walk : Spc) : WS :=
  (wIfS (wBb (wOp opNe (wVar 7) (wC (.str "")))) (wRet (wTup (wCons (wVar 7) (wCons (wVar 1) (wCons (wVar 2) wNil))))) wNext)
def w__law_walk_b1_2 (sp__law_walk : Spc) : WS :=
  (wIfS (wBb (wOp opEq (wVar 4) (wC (.str "if")))) (wSeq (wAsg (wCall sp__law_walk (wCons (wIx (wVar 3) (wC (.int 2))) (wCons (wVar 1) (wCons (wVar 2) wNil)))) (gVar 5))
  (wSeq (wAsg (wCall sp__law_walk (wCons (wIx (wVar 3) (wC (.int 3))) (wCons (wVar 1) (wCons (wVar 2) wNil)))) (gVar 6))
  (wSeq (wFor (wItT (wTup (wCons (wIx (wVar 5) (wC (.int 0))) (wCons (wIx (wVar 6) (wC (.int 0))) wNil)))) (gVar 7) (w__law_walk_b2 sp__law_walk))
  (wSeq (wIfS (wBb (wOp opNe (wCB bSortS (wCons (wIx (wVar 5) (wC (.int 1))) wNil)) (wCB bSortS (wCons (wIx (wVar 6) (wC (.int 1))) wNil)))) (wRet (wTup (wCons (wC (.str "branches")) (wCons (wVar 1) (wCons (wVar 2) wNil))))) wNext)
  (wAsg (wTup (wCons (wIx (wVar 5) (wC (.int 1))) (wCons (wLc (wItL (wIx (wVar 5) (wC (.int 2)))) (gVar 11) (wBb (wOp opInD (wVar 11) (wIx (wVar 6) (wC (.int 2))))) (wVar 11) [11]) wNil))) (gTp 2 (gsCons (gVar 1) (gsCons (gVar 2) gsNil)))))))) (wIfS (wBb (wOp opEq (wVar 4) (wC (.str "repeat")))) (wSeq (wAsg (wCall sp__law_walk (wCons (wIx (wVar 3) (wC (.int 2))) (wCons (wVar 1) (wCons (wVar 2) wNil)))) (gTp 3 (gsCons (gVar 7) (gsCons (gVar 8) (gsCons (gVar 9) gsNil)))))
  (wSeq (wIfS (wOr (wBb (wOp opNe (wVar 7) (wC (.str "")))) (wBb (wOp opNe (wCB bSortS (wCons (wVar 8) wNil)) (wCB bSortS (wCons (wVar 1) wNil))))) (wRet (wTup (wCons (wOrS (wVar 7) (wC (.str "branches"))) (wCons (wVar 1) (wCons (wVar 2) wNil))))) wNext)
  (wAsg (wIf (wBb (wOp opGt (wIx (wVar 3) (wC (.int 1))) (wC (.int 0)))) (wVar 9) (wVar 2)) (gVar 2)))) (wIfS (wBb (wOp opEq (wVar 4) (wC (.str "new")))) (wSeq (wIfS (wOr (wBb (wOp opInD (wIx (wVar 3) (wC (.int 1))) (wVar 1))) (wBb (wOp opGt (wCB bLen (wCons (wVar 1) wNil)) (wC (.int 2))))) (wRet (wTup (wCons (wIf (wBb (wOp opInD (wIx (wVar 3) (wC (.int 1))) (wVar 1))) (wC (.str "there")) (wC (.str "many"))) (wCons (wVar 1) (wCons (wVar 2) wNil))))) wNext)
  (wAsg (wOp opAdd (wVar 1) (wLst (wCons (wIx (wVar 3) (wC (.int 1))) wNil))) (gVar 1))) (wIfS (wBb (wOp opNe (wVar 4) (wC (.str "give")))) (wSeq (wAsg (wIf (wBb (wOp opEq (wVar 4) (wC (.str "gate")))) (wCB bLstS (wCons (wIx (wVar 3) (wC (.int 2))) wNil)) (wLst (wCons (wIx (wVar 3) (wC (.int 1))) wNil))) (gVar 10))
  (wSeq (wIfS (wBb (wOp opNe (wLc (wItL (wVar 10)) (gVar 12) (wBb (wOp opNotInD (wVar 12) (wVar 1))) (wVar 12) [12]) (wLst wNil))) (wRet (wTup (wCons (wC (.str "missing")) (wCons (wVar 1) (wCons (wVar 2) wNil))))) wNext)
  (wSeq (wIfS (wAnd (wBb (wOp opEq (wCB bLen (wCons (wVar 10) wNil)) (wC (.int 2)))) (wBb (wOp opEq (wIx (wVar 10) (wC (.int 0))) (wIx (wVar 10) (wC (.int 1)))))) (wRet (wTup (wCons (wC (.str "same")) (wCons (wVar 1) (wCons (wVar 2) wNil))))) wNext)
  (wSeq (wIfS (wBb (wOp opEq (wVar 4) (wC (.str "free")))) (wAsg (wLc (wItL (wVar 1)) (gVar 12) (wBb (wOp opNe (wVar 12) (wIx (wVar 3) (wC (.int 1))))) (wVar 12) [12]) (gVar 1)) wNext)
  (wIfS (wBb (wOp opEq (wVar 4) (wC (.str "measure")))) (wAsg (wOp opAdd (wVar 2) (wLst (wCons (wIx (wVar 3) (wC (.int 2))) wNil))) (gVar 2)) wNext))))) wNext))))
def w__law_walk_b1_1 (sp__law_walk : Spc) : WS :=
  (wSeq (wIfS (wAnd (wBb (wOp opInD (wVar 4) (wTup (wCons (wC (.str "give")) (wCons (wC (.str "if")) wNil))))) (wBb (wOp opNe (wLc (wItL (wCall sp__law_bits (wCons (wIx (wVar 3) (wC (.int 1))) wNil))) (gVar 11) (wBb (wOp opNotInD (wVar 11) (wVar 2))) (wVar 11) [11]) (wLst wNil)))) (wRet (wTup (wCons (wC (.str "bit")) (wCons (wVar 1) (wCons (wVar 2) wNil))))) wNext)
  (w__law_walk_b1_2 sp__law_walk))
def w__law_walk_b1 (sp__law_walk : Spc) : WS :=
  (wSeq (wAsg (wIx (wVar 3) (wC (.int 0))) (gVar 4))
  (w__law_walk_b1_1 sp__law_walk))
def w__law_walk_1 (sp__law_walk : Spc) : WS :=
  (wRet (wTup (wCons (wC (.str "")) (wCons (wVar 1) (wCons (wVar 2) wNil)))))
def w__law_walk (sp__law_walk : Spc) : WS :=
  (wSeq (wFor (wItV 0) (gVar 3) (w__law_walk_b1 sp__law_walk))
  (w__law_walk_1 sp__law_walk))
def w__law_spoilt : WS :=
  (wRet (wIx (wLst (wCons (wTup (wCons (wC (.str "new")) (wCons (wC (.str "a")) wNil))) (wCons (wTup (wCons (wC (.str "gate")) (wCons (wC (.str "H")) (wCons (wTup (wCons (wC (.str "d")) wNil)) wNil)))) (wCons (wTup (wCons (wC (.str "gate")) (wCons (wC (.str "CX")) (wCons (wTup (wCons (wC (.str "a")) (wCons (wC (.str "a")) wNil))) wNil)))) (wCons (wTup (wCons (wC (.str "give")) (wCons (wTup (wCons (wC (.str "bit")) (wCons (wC (.str "s")) wNil))) wNil))) (wCons (wTup (wCons (wC (.str "free")) (wCons (wC (.str "d")) wNil))) (wCons (wTup (wCons (wC (.str "new")) (wCons (wC (.str "e")) wNil))) (wCons (wTup (wCons (wC (.str "measure")) (wCons (wC (.str "f")) (wCons (wC (.str "p")) wNil)))) (wCons (wTup (wCons (wC (.str "if")) (wCons (wTup (wCons (wC (.str "value")) (wCons (wC (.int 1)) wNil))) (wCons (wTup (wCons (wTup (wCons (wC (.str "free")) (wCons (wC (.str "a")) wNil))) wNil)) (wCons (wTup wNil) wNil))))) (wCons (wTup (wCons (wC (.str "repeat")) (wCons (wCall sp__law_next (wCons (wVar 0) (wCons (wC (.int 3)) wNil))) (wCons (wTup (wCons (wTup (wCons (wC (.str "new")) (wCons (wC (.str "g")) wNil))) wNil)) wNil)))) (wCons (wTup (wCons (wC (.str "repeat")) (wCons (wC (.int 0)) (wCons (wTup (wCons (wTup (wCons (wC (.str "measure")) (wCons (wC (.str "a")) (wCons (wC (.str "s")) wNil)))) wNil)) wNil)))) (wCons (wTup (wCons (wC (.str "if")) (wCons (wTup (wCons (wC (.str "value")) (wCons (wC (.int 0)) wNil))) (wCons (wTup (wCons (wTup (wCons (wC (.str "measure")) (wCons (wC (.str "b")) (wCons (wC (.str "s")) wNil)))) wNil)) (wCons (wTup wNil) wNil))))) (wCons (wTup (wCons (wC (.str "give")) (wCons (wTup (wCons (wC (.str "not")) (wCons (wTup (wCons (wC (.str "xor")) (wCons (wTup (wCons (wC (.str "bit")) (wCons (wC (.str "p")) wNil))) (wCons (wTup (wCons (wC (.str "bit")) (wCons (wC (.str "q")) wNil))) wNil)))) wNil))) wNil))) (wCons (wTup (wCons (wC (.str "repeat")) (wCons (wC (.int 2)) (wCons (wTup (wCons (wTup (wCons (wC (.str "free")) (wCons (wC (.str "a")) wNil))) (wCons (wTup (wCons (wC (.str "new")) (wCons (wC (.str "a")) wNil))) wNil))) wNil)))) (wCons (wTup (wCons (wC (.str "if")) (wCons (wTup (wCons (wC (.str "bit")) (wCons (wC (.str "p")) wNil))) (wCons (wTup (wCons (wTup (wCons (wC (.str "measure")) (wCons (wC (.str "a")) (wCons (wC (.str "q")) wNil)))) wNil)) (wCons (wTup (wCons (wTup (wCons (wC (.str "measure")) (wCons (wC (.str "a")) (wCons (wC (.str "q")) wNil)))) (wCons (wTup (wCons (wC (.str "gate")) (wCons (wC (.str "X")) (wCons (wTup (wCons (wC (.str "a")) wNil)) wNil)))) wNil))) wNil))))) wNil))))))))))))))) (wCall sp__law_next (wCons (wVar 0) (wCons (wC (.int 14)) wNil)))))
def w_law_b2_1 : WS :=
  (wAsg (wOp opAdd (wOp opAdd (wSl (wVar 5) wNoPart (wPart (wVar 6))) (wLst (wCons (wCall sp__law_spoilt (wCons (wVar 1) wNil)) wNil))) (wSl (wVar 5) (wPart (wVar 6)) wNoPart)) (gVar 5))
def w_law_b2 : WS :=
  (wSeq (wAsg (wCall sp__law_next (wCons (wVar 1) (wCons (wOp opAdd (wC (.int 1)) (wCB bLen (wCons (wVar 5) wNil))) wNil))) (gVar 6))
  w_law_b2_1)
def w_law_b1_3 : WS :=
  (wIfS (wBb (wOp opNe (wCall sp_fault_of (wCons (wVar 5) wNil)) (wIx (wCall sp__law_walk (wCons (wVar 5) (wCons (wLst wNil) (wCons (wLst wNil) wNil)))) (wC (.int 0))))) (wRet (wC (.bl false))) wNext)
def w_law_b1_2 : WS :=
  (wSeq (wFor (wRng1 (wCons (wCall sp__law_next (wCons (wVar 1) (wCons (wC (.int 3)) wNil))) wNil)) (gVar 3) w_law_b2)
  w_law_b1_3)
def w_law_b1_1 : WS :=
  (wSeq (wIfS (wBb (wOp opNe (wCall sp_fault_of (wCons (wVar 5) wNil)) (wC (.str "")))) (wRet (wC (.bl false))) wNext)
  w_law_b1_2)
def w_law_b1 : WS :=
  (wSeq (wAsg (wCall sp__law_program (wCons (wVar 1) (wCons (wCall sp__law_next (wCons (wVar 1) (wCons (wC (.int 12)) wNil))) (wCons (wMut (wLst wNil)) (wCons (wMut (wLst wNil)) (wCons (wC (.int 1)) wNil)))))) (gTp 2 (gsCons (gVar 4) (gsCons (gVar 5) gsNil))))
  w_law_b1_1)
def w_law_2 : WS :=
  (wRet (wC (.bl true)))
def w_law_1 : WS :=
  (wSeq (wFor (wRng1 (wCons (wC (.int 6)) wNil)) (gVar 2) w_law_b1)
  w_law_2)
def w_law : WS :=
  (wSeq (wSetM 1 (wLst (wCons (wCB bLstS (wCons (wVar 0) wNil)) (wCons (wC (.int 0)) (wCons (wC (.int 0)) (wCons (wC (.int 13)) wNil))))))
  w_law_1)
end K34

set_option Elab.async false
set_option linter.all false
set_option maxRecDepth 100000
set_option maxHeartbeats 400000
/-! M_k34: both walks answer alike -/
namespace K34
open PySem PySem.Spec PyProof.Rows L2 VL
/-! ### order of texts -/
theorem lt_irr : ∀ a : List Nat, ltCps a a = false
  | [] => rfl
  | a :: r => by
    unfold ltCps
    rw [lt_irr r]
    simp
theorem lt_tri : ∀ {a b : List Nat}, ltCps a b = false → ltCps b a = false → a = b
  | [], [], _, _ => rfl
  | [], _ :: _, h, _ => by unfold ltCps at h; cases h
  | _ :: _, [], _, h => by unfold ltCps at h; cases h
  | a :: r, b :: t, h1, h2 => by
    unfold ltCps at h1 h2
    simp only [Bool.or_eq_false_iff, decide_eq_false_iff_not, Bool.and_eq_false_iff, beq_eq_false_iff_ne] at h1 h2
    have e : a = b := by omega
    subst e
    rw [lt_tri (a := r) (b := t) (h1.2.resolve_left fun z => z rfl) (h2.2.resolve_left fun z => z rfl)]
theorem lt_tr : ∀ {a b c : List Nat}, ltCps a b = true → ltCps b c = true → ltCps a c = true
  | [], [], [], _, h => by unfold ltCps at h; cases h
  | [], _ :: _, [], _, h => by unfold ltCps at h; cases h
  | [], _, _ :: _, _, _ => rfl
  | _ :: _, [], _, h, _ => by unfold ltCps at h; cases h
  | _ :: _, _ :: _, [], _, h => by unfold ltCps at h; cases h
  | a :: r, b :: t, c :: u, h1, h2 => by
    unfold ltCps at h1 h2 ⊢
    simp only [Bool.or_eq_true, decide_eq_true_eq, Bool.and_eq_true, beq_iff_eq] at h1 h2 ⊢
    rcases h1 with h1 | ⟨e1, h1⟩ <;> rcases h2 with h2 | ⟨e2, h2⟩
    · left; omega
    · left; omega
    · left; omega
    · right
      exact ⟨e1.trans e2, lt_tr h1 h2⟩
theorem le_as {a b : Str} (h1 : leS a b = true) (h2 : leS b a = true) : a = b := by
  unfold leS at h1 h2
  exact TL.ext_tl (lt_tri (by simpa using h2) (by simpa using h1))
theorem le_tot (a b : Str) : (leS a b || leS b a) = true := by
  unfold leS
  cases h1 : ltCps b.cps.toList a.cps.toList with
  | false => rfl
  | true =>
    cases h2 : ltCps a.cps.toList b.cps.toList with
    | false => rfl
    | true =>
      have := lt_tr h1 h2
      rw [lt_irr] at this
      cases this
theorem le_tr (a b c : Str) (h1 : leS a b = true) (h2 : leS b c = true) : leS a c = true := by
  unfold leS at *
  cases h : ltCps c.cps.toList a.cps.toList with
  | false => rfl
  | true =>
    have h1 : ltCps b.cps.toList a.cps.toList = false := by simpa using h1
    have h2 : ltCps c.cps.toList b.cps.toList = false := by simpa using h2
    cases q : ltCps a.cps.toList b.cps.toList with
    | true =>
      rw [lt_tr h q] at h2
      cases h2
    | false =>
      have e := lt_tri q h1
      rw [e] at h
      rw [h] at h2
      cases h2
theorem srt_perm (l : List Str) : (srt l).Perm l := List.mergeSort_perm l leS
theorem srt_sorted (l : List Str) : (srt l).Pairwise fun a b => leS a b = true := List.pairwise_mergeSort le_tr le_tot l
theorem srt_uni {l m : List Str} (hp : l.Perm m) (hs : l.Pairwise fun a b => leS a b = true) : l = srt m :=
  List.Perm.eq_of_pairwise (le := fun a b => leS a b = true) (fun _ _ _ _ => le_as) hs (srt_sorted m) (hp.trans (srt_perm m).symm)
theorem srt_eq {l m : List Str} (hp : l.Perm m) : srt l = srt m := srt_uni ((srt_perm l).trans hp) (srt_sorted l)
theorem rising_pw : ∀ {p : Str} {l : List Str}, risingS p l = true → (p :: l).Pairwise fun a b => leS a b = true
  | p, [], _ => List.pairwise_singleton _ _
  | p, x :: r, h => by
    unfold risingS at h
    rw [Bool.and_eq_true] at h
    have ih := rising_pw h.2
    refine List.pairwise_cons.mpr ⟨fun y hy => ?_, ih⟩
    rcases List.mem_cons.mp hy with rfl | hy
    · exact h.1
    · exact le_tr _ _ _ h.1 ((List.pairwise_cons.mp ih).1 y hy)
theorem sorted_is {l m : List Str} (hp : l.Perm m) (hs : sortedS l = true) : l = srt m := by
  refine srt_uni hp ?_
  cases l with
  | nil => exact .nil
  | cons x r => exact rising_pw hs
theorem srt_mem {l : List Str} {x : Str} : x ∈ srt l ↔ x ∈ l := (srt_perm l).mem_iff
theorem srt_len (l : List Str) : (srt l).length = l.length := (srt_perm l).length_eq
/-! ### both walks -/
structure Rl (t b t' b' : List Str) : Prop where
  t : t = srt t'
  nd : t'.Nodup
  b : ∀ x, x ∈ b ↔ x ∈ b'
theorem hasAll_eq {l t t' : List Str} (h : ∀ x, x ∈ t ↔ x ∈ t') : hasAll l t = hasAll l t' := by
  unfold hasAll
  congr 1
  funext x
  exact decide_eq_decide.mpr (h x)
variable {t b t' b' : List Str}
theorem Rl.mt (r : Rl t b t' b') : ∀ x, x ∈ t ↔ x ∈ t' := fun x => by rw [r.t]; exact srt_mem
theorem word_eq (r : Rl t b t' b') (s : Sm) : word s t b = word s t' b' := by
  have mt := r.mt
  cases s with
  | give c => unfold word; dsimp only; rw [hasAll_eq r.b]
  | new a =>
    unfold word
    dsimp only
    have hl : t.length = t'.length := by rw [r.t, srt_len]
    rw [hl]
    by_cases h : a ∈ t'
    · rw [if_pos h, if_pos ((mt a).mpr h)]
    · rw [if_neg h, if_neg fun z => h ((mt a).mp z)]
  | gate w ns => unfold word; dsimp only; rw [hasAll_eq mt]
  | meas a c => unfold word; dsimp only; rw [hasAll_eq mt]
  | free a => unfold word; dsimp only; rw [hasAll_eq mt]
theorem step_rl (r : Rl t b t' b') (s : Sm) (hw : word s t b = "") : Rl (stepL s t b).1 (stepL s t b).2 (stepW s t' b').1 (stepW s t' b').2 := by
  have mt := r.mt
  cases s with
  | give c => exact r
  | gate w ns => exact r
  | new a =>
    refine ⟨?_, ?_, r.b⟩
    · show srt (t ++ [a]) = srt (t' ++ [a])
      refine srt_eq (List.Perm.append_right _ ?_)
      rw [r.t]
      exact srt_perm t'
    · show (t' ++ [a]).Nodup
      have na : a ∉ t' := fun z => by
        have z := (mt a).mpr z
        unfold word at hw
        dsimp only at hw
        rw [if_pos z] at hw
        exact absurd hw (by decide +kernel)
      refine List.nodup_append.mpr ⟨r.nd, by simp, fun x hx y hy => ?_⟩
      rw [List.mem_singleton.mp hy]
      exact fun e => na (e ▸ hx)
  | free a =>
    refine ⟨?_, r.nd.filter _, r.b⟩
    show t.filter _ = srt (t'.filter _)
    refine srt_uni ?_ ?_
    · rw [r.t]
      exact (srt_perm t').filter _
    · rw [r.t]
      exact (srt_sorted t').filter _
  | meas a c =>
    refine ⟨r.t, r.nd, fun x => ?_⟩
    show x ∈ (if c ∈ b then b else b ++ [c]) ↔ x ∈ b' ++ [c]
    split
    · rename_i h
      rw [List.mem_append, r.b]
      constructor
      · exact .inl
      · rintro (z | z)
        · exact z
        · rw [List.mem_singleton.mp z]
          exact (r.b c).mp h
    · rw [List.mem_append, List.mem_append, r.b]
theorem lkS_eq : ∀ (l : List Sm) {t b t' b' : List Str}, Rl t b t' b' → (lkS l t b).1 = (wkS l t' b').1 ∧ ((lkS l t b).1 = "" → Rl (lkS l t b).2.1 (lkS l t b).2.2 (wkS l t' b').2.1 (wkS l t' b').2.2)
  | [], t, b, t', b', r => ⟨rfl, fun _ => r⟩
  | s :: l, t, b, t', b', r => by
    unfold lkS wkS
    rw [← word_eq r s]
    by_cases h : word s t b = ""
    · rw [if_pos h, if_pos h]
      exact lkS_eq l (step_rl r s h)
    · rw [if_neg h, if_neg h]
      exact ⟨rfl, fun z => absurd z h⟩
theorem lk_eq : ∀ (p : List St) {t b t' b' : List Str}, Rl t b t' b' → (lk p t b).1 = (wk p t' b').1
  | [], t, b, t', b', r => rfl
  | .sm s :: p, t, b, t', b', r => by
    unfold lk wk
    rw [← word_eq r s]
    by_cases h : word s t b = ""
    · rw [if_pos h, if_pos h]
      exact lk_eq p (step_rl r s h)
    · rw [if_neg h, if_neg h]
  | .iff c l m :: p, t, b, t', b', r => by
    unfold lk wk
    rw [hasAll_eq (l := c.bs) r.b]
    split
    · obtain ⟨e1, r1⟩ := lkS_eq l r
      obtain ⟨e2, r2⟩ := lkS_eq m r
      rw [← e1, ← e2]
      split
      · rename_i h1
        have r1 := r1 h1
        split
        · rename_i h2
          have r2 := r2 h2
          rw [r1.t, r2.t]
          split
          · refine lk_eq p ⟨rfl, r1.nd, fun x => ?_⟩
            rw [List.mem_filter, List.mem_filter, decide_eq_true_eq, decide_eq_true_eq, r1.b, r2.b]
          · rfl
        · rfl
      · rfl
    · rfl
  | .rep k l :: p, t, b, t', b', r => by
    unfold lk wk
    obtain ⟨e1, r1⟩ := lkS_eq l r
    rw [← e1]
    split
    · rename_i h1
      have r1 := r1 h1
      rw [r1.t, r.t]
      split
      · refine lk_eq p ⟨rfl, r.nd, fun x => ?_⟩
        split
        · rw [← r.t]; exact r1.b x
        · exact r.b x
      · rfl
    · rfl
theorem both (p : List St) : (lk p [] []).1 = (wk p [] []).1 := lk_eq p ⟨by decide +kernel, List.nodup_nil, fun x => Iff.rfl⟩
end K34

set_option Elab.async false
set_option linter.all false
set_option maxRecDepth 100000
set_option maxHeartbeats 400000
/-! M2_k34: what a walk keeps -/
namespace K34
open PySem PySem.Spec PyProof.Rows L2 VL
variable {t b : List Str} {n : Nat} {p : List St}
theorem lk_sm : ∀ (l : List Sm) (t b : List Str), lk (l.map .sm) t b = lkS l t b
  | [], _, _ => rfl
  | s :: l, t, b => by
    rw [List.map_cons]
    unfold lk lkS
    rw [lk_sm l]
theorem wk_sm : ∀ (l : List Sm) (t b : List Str), wk (l.map .sm) t b = wkS l t b
  | [], _, _ => rfl
  | s :: l, t, b => by
    rw [List.map_cons]
    unfold wk wkS
    rw [wk_sm l]
theorem sz_sm (l : List Sm) : sz (l.map .sm) = l.length := by
  unfold sz
  induction l with
  | nil => rfl
  | cons s l ih =>
    rw [List.map_cons, List.map_cons, List.sum_cons, ih, List.length_cons]
    show 1 + _ = _
    omega
theorem sz_cons (s : St) (p : List St) : sz (s :: p) = s.sz + sz p := by
  unfold sz
  rw [List.map_cons, List.sum_cons]
theorem wf_sm {l : List Sm} (h : l.all Sm.wf = true) : (l.map St.sm).all St.wf = true := by
  rw [List.all_map]
  exact h
/-- names that are in order -/
def Ok3 (t : List Str) : Prop := t.length ≤ 3 ∧ t.all PyData.strOk = true
theorem new_free {a : Str} (h : word (.new a) t b = "") : a ∉ t ∧ t.length ≤ 2 := by
  unfold word at h
  dsimp only at h
  by_cases q : a ∈ t
  · rw [if_pos q] at h
    exact absurd h (by decide +kernel)
  · rw [if_neg q] at h
    refine ⟨q, ?_⟩
    by_cases q2 : 3 ≤ t.length
    · rw [if_pos q2] at h
      exact absurd h (by decide +kernel)
    · omega
theorem ok_filter {f : Str → Bool} (h : Ok3 t) : Ok3 (t.filter f) := ⟨Nat.le_trans (List.length_filter_le _ _) h.1, List.all_eq_true.mpr fun x hx => List.all_eq_true.mp h.2 x (List.mem_filter.mp hx).1⟩
theorem ok_app {a : Str} (h : Ok3 t) (h2 : t.length ≤ 2) (ha : PyData.strOk a = true) : Ok3 (t ++ [a]) := ⟨by rw [List.length_append]; show t.length + 1 ≤ 3; omega, by rw [List.all_append, h.2, List.all_cons, ha]; rfl⟩
theorem ok_srt (h : Ok3 t) : Ok3 (srt t) := ⟨by rw [srt_len]; exact h.1, List.all_eq_true.mpr fun x hx => List.all_eq_true.mp h.2 x (srt_mem.mp hx)⟩
theorem stepL_ok {s : Sm} (h : Ok3 t) (hs : s.wf = true) (hw : word s t b = "") : Ok3 (stepL s t b).1 ∧ (stepL s t b).2.length ≤ b.length + 1 := by
  cases s with
  | give c => exact ⟨h, Nat.le_succ _⟩
  | gate w ns => exact ⟨h, Nat.le_succ _⟩
  | free a => exact ⟨ok_filter h, Nat.le_succ _⟩
  | new a => exact ⟨ok_srt (ok_app h (new_free hw).2 hs), Nat.le_succ _⟩
  | meas a c =>
    refine ⟨h, ?_⟩
    show (if c ∈ b then b else b ++ [c]).length ≤ _
    split
    · omega
    · rw [List.length_append]; exact Nat.le_refl _
theorem stepW_ok {s : Sm} (h : Ok3 t) (hs : s.wf = true) (hw : word s t b = "") : Ok3 (stepW s t b).1 ∧ (stepW s t b).2.length ≤ b.length + 1 := by
  cases s with
  | give c => exact ⟨h, Nat.le_succ _⟩
  | gate w ns => exact ⟨h, Nat.le_succ _⟩
  | free a => exact ⟨ok_filter h, Nat.le_succ _⟩
  | new a => exact ⟨ok_app h (new_free hw).2 hs, Nat.le_succ _⟩
  | meas a c =>
    refine ⟨h, ?_⟩
    show (b ++ [c]).length ≤ _
    rw [List.length_append]; exact Nat.le_refl _
theorem lkS_ok : ∀ (l : List Sm) {t b : List Str}, Ok3 t → l.all Sm.wf = true → Ok3 (lkS l t b).2.1 ∧ (lkS l t b).2.2.length ≤ b.length + l.length
  | [], t, b, h, _ => ⟨h, Nat.le_refl _⟩
  | s :: l, t, b, h, hl => by
    rw [List.all_cons, Bool.and_eq_true] at hl
    unfold lkS
    split
    · rename_i q
      obtain ⟨h1, h2⟩ := stepL_ok h hl.1 q
      obtain ⟨h3, h4⟩ := lkS_ok l (b := (stepL s t b).2) h1 hl.2
      exact ⟨h3, by rw [List.length_cons]; omega⟩
    · exact ⟨h, by show b.length ≤ _; omega⟩
theorem wkS_ok : ∀ (l : List Sm) {t b : List Str}, Ok3 t → l.all Sm.wf = true → Ok3 (wkS l t b).2.1 ∧ (wkS l t b).2.2.length ≤ b.length + l.length
  | [], t, b, h, _ => ⟨h, Nat.le_refl _⟩
  | s :: l, t, b, h, hl => by
    rw [List.all_cons, Bool.and_eq_true] at hl
    unfold wkS
    split
    · rename_i q
      obtain ⟨h1, h2⟩ := stepW_ok h hl.1 q
      obtain ⟨h3, h4⟩ := wkS_ok l (b := (stepW s t b).2) h1 hl.2
      exact ⟨h3, by rw [List.length_cons]; omega⟩
    · exact ⟨h, by show b.length ≤ _; omega⟩
theorem Wf.ok3 (w : Wf n p t b) : Ok3 t := ⟨w.t3, w.ok⟩
theorem Wf.tail {s : St} {t' b' : List Str} (w : Wf n (s :: p) t b) (h : Ok3 t') (hb : b'.length ≤ b.length + s.sz) : Wf n p t' b' := by
  have h1 := w.wf
  rw [List.all_cons, Bool.and_eq_true] at h1
  have h2 := w.sz
  rw [sz_cons] at h2
  exact ⟨h1.2, fun z x hx => w.flat z x (List.mem_cons_of_mem _ hx), h.1, h.2, by omega⟩
theorem Wf.head {s : St} (w : Wf n (s :: p) t b) : s.wf = true := by
  have h1 := w.wf
  rw [List.all_cons, Bool.and_eq_true] at h1
  exact h1.1
/-- a body -/
theorem Wf.body {l : List Sm} {m : Nat} (h : Ok3 t) (hl : l.all Sm.wf = true) (hs : b.length + l.length ≤ 10000) : Wf m (l.map .sm) t b := by
  refine ⟨wf_sm hl, fun _ s hs => ?_, h.1, h.2, by rw [sz_sm]; exact hs⟩
  obtain ⟨x, _, rfl⟩ := List.mem_map.mp hs
  exact ⟨x, rfl⟩
theorem body_d (l : List Sm) : l.map Sm.d = (l.map St.sm).map St.d := by
  rw [List.map_map]
  rfl
theorem lk_c1 (s : Sm) (p : List St) (t b : List Str) : lk (.sm s :: p) t b = if word s t b = "" then lk p (stepL s t b).1 (stepL s t b).2 else (word s t b, t, b) := rfl
theorem lk_c2 (c : Cn) (l m : List Sm) (r : List St) (t b : List Str) : lk (.iff c l m :: r) t b =
    if hasAll c.bs b = true then
      (if (lkS l t b).1 = "" then
        (if (lkS m t b).1 = "" then
          (if (lkS l t b).2.1 = (lkS m t b).2.1 then lk r (lkS l t b).2.1 ((lkS l t b).2.2.filter fun x => decide (x ∈ (lkS m t b).2.2)) else ("branches", t, b))
        else ((lkS m t b).1, t, b))
      else ((lkS l t b).1, t, b))
    else ("bit", t, b) := rfl
theorem lk_c3 (k : Nat) (l : List Sm) (r : List St) (t b : List Str) : lk (.rep k l :: r) t b =
    if (lkS l t b).1 = "" then
      (if (lkS l t b).2.1 = t then lk r t (if 0 < k then (lkS l t b).2.2 else b) else ("branches", t, b))
    else ((lkS l t b).1, t, b) := rfl
theorem wk_c1 (s : Sm) (p : List St) (t b : List Str) : wk (.sm s :: p) t b = if word s t b = "" then wk p (stepW s t b).1 (stepW s t b).2 else (word s t b, t, b) := rfl
theorem wk_c2 (c : Cn) (l m : List Sm) (r : List St) (t b : List Str) : wk (.iff c l m :: r) t b =
    if hasAll c.bs b = true then
      (if (wkS l t b).1 = "" then
        (if (wkS m t b).1 = "" then
          (if srt (wkS l t b).2.1 = srt (wkS m t b).2.1 then wk r (wkS l t b).2.1 ((wkS l t b).2.2.filter fun x => decide (x ∈ (wkS m t b).2.2)) else ("branches", t, b))
        else ((wkS m t b).1, t, b))
      else ((wkS l t b).1, t, b))
    else ("bit", t, b) := rfl
theorem wk_c3 (k : Nat) (l : List Sm) (r : List St) (t b : List Str) : wk (.rep k l :: r) t b =
    if (wkS l t b).1 = "" then
      (if srt (wkS l t b).2.1 = srt t then wk r t (if 0 < k then (wkS l t b).2.2 else b) else ("branches", t, b))
    else ((wkS l t b).1, t, b) := rfl
theorem lk_app : ∀ (p q : List St) {t b t' b' : List Str}, lk p t b = ((("" : Str), t', b') : Res) → lk (p ++ q) t b = lk q t' b'
  | [], q, t, b, t', b', h => by
    unfold lk at h
    simp only [Prod.mk.injEq, true_and] at h
    obtain ⟨rfl, rfl⟩ := h
    rfl
  | .sm s :: p, q, t, b, t', b', h => by
    rw [List.cons_append, lk_c1]
    rw [lk_c1] at h
    split
    · rename_i w
      rw [if_pos w] at h
      exact lk_app p q h
    · rename_i w
      rw [if_neg w] at h
      exact absurd (congrArg Prod.fst h) w
  | .iff c l m :: p, q, t, b, t', b', h => by
    rw [List.cons_append, lk_c2]
    rw [lk_c2] at h
    split
    · rename_i w
      rw [if_pos w] at h
      split
      · rename_i w1
        rw [if_pos w1] at h
        split
        · rename_i w2
          rw [if_pos w2] at h
          split
          · rename_i w3
            rw [if_pos w3] at h
            exact lk_app p q h
          · rename_i w3
            rw [if_neg w3] at h
            exact absurd (congrArg Prod.fst h) (by show ¬ (("branches" : Str) = ""); decide +kernel)
        · rename_i w2
          rw [if_neg w2] at h
          exact absurd (congrArg Prod.fst h) w2
      · rename_i w1
        rw [if_neg w1] at h
        exact absurd (congrArg Prod.fst h) w1
    · rename_i w
      rw [if_neg w] at h
      exact absurd (congrArg Prod.fst h) (by show ¬ (("bit" : Str) = ""); decide +kernel)
  | .rep k l :: p, q, t, b, t', b', h => by
    rw [List.cons_append, lk_c3]
    rw [lk_c3] at h
    split
    · rename_i w1
      rw [if_pos w1] at h
      split
      · rename_i w2
        rw [if_pos w2] at h
        exact lk_app p q h
      · rename_i w2
        rw [if_neg w2] at h
        exact absurd (congrArg Prod.fst h) (by show ¬ (("branches" : Str) = ""); decide +kernel)
    · rename_i w1
      rw [if_neg w1] at h
      exact absurd (congrArg Prod.fst h) w1
end K34

set_option Elab.async false
set_option linter.all false
set_option maxRecDepth 100000
set_option maxHeartbeats 400000
/-! P_k34: bits of conditions, words of statements -/
namespace K34
open PySem PySem.Spec PyProof.Rows L2 VL
theorem pk__law_next : Pk 2 2 sp__law_next w__law_next := pk_nextS
/-- a comprehension whose steps are plain, told by the items -/
theorem lcR {g : WG} {tt : WT} {te : WE} {vs : List Nat} {s0 : List Sl} {R : List D → Oh → Prop} {h : Oh} {α : Type} {f : α → D} {e : α → Option D} : ∀ {rs : List α} {acc : List D},
    (∀ t ∈ rs, ∀ C : Option D → Oh → Prop, C (e t) h → g (f t) ⟨wipeS s0 vs, h⟩ fun S1 => tt S1 fun b S2 => Br b (te S2 fun d S3 => wipeS S3.s vs = wipeS s0 vs ∧ C (some d) S3.h) (wipeS S2.s vs = wipeS s0 vs ∧ C none S2.h)) →
    R (acc ++ rs.filterMap e) h → wLcL g tt te vs s0 R (rs.map f) h acc
  | [], acc, _, hR => by rw [List.filterMap_nil, List.append_nil] at hR; exact hR
  | x :: xs, acc, hs, hR => by
    refine hs x List.mem_cons_self (fun o h' => wLcL g tt te vs s0 R (xs.map f) h' (match o with | some d => acc ++ [d] | none => acc)) ?_
    cases q : e x with
    | none =>
      rw [List.filterMap_cons, q] at hR
      exact lcR (fun t ht => hs t (List.mem_cons_of_mem _ ht)) hR
    | some d =>
      rw [List.filterMap_cons, q] at hR
      refine lcR (acc := acc ++ [d]) (fun t ht => hs t (List.mem_cons_of_mem _ ht)) ?_
      rw [List.append_assoc]
      exact hR
theorem in_ok (x : Str) (b : List Str) : inOk (.str x) (sD b) = true := by
  unfold inOk sD
  have : (b.map D.str).all flat = true := by
    rw [List.all_map]
    exact List.all_eq_true.mpr fun _ _ => rfl
  rw [this]
  rfl
theorem in_is (x : Str) (b : List Str) : inD (.str x) (sD b) = decide (x ∈ b) := by
  unfold inD sD
  rw [List.any_map, Bool.eq_iff_iff, List.any_eq_true, decide_eq_true_eq]
  constructor
  · rintro ⟨y, hy, e⟩
    have e : (y == x) = true := e
    rw [← eq_of_beq e]
    exact hy
  · intro hx
    exact ⟨x, hx, by show (x == x) = true; simp⟩
theorem beqF {a b : Str} (h : (a == b) = false) : (a == b) = false := h
theorem pk_bits_of : ∀ n : Nat, Pk 1 2 (spn_bits_of (n + 1)) (w_bits_of (spn_bits_of n)) := by
  intro n
  rintro ds h R _ ⟨c, rfl, hw, hh, hl, hR⟩
  have sub : ∀ (n : Nat) (c : Cn) (R : D → Oh → Prop), c.okw = true → c.ht ≤ n → c.bs.length ≤ 1000 → R (lD c.bs) h → spn_bits_of n [c.d] h R NX := fun n c R h1 h2 h3 h4 => by
    cases n with
    | zero => cases c <;> (simp [Cn.ht] at h2)
    | succ n => exact ⟨c, rfl, h1, h2, h3, h4⟩
  cases c with
  | bit s =>
    refine ⟨_, rfl, brT (by decide +kernel) ⟨_, rfl, hR⟩⟩
  | val v =>
    refine ⟨_, rfl, brF (by decide +kernel) ⟨_, rfl, brT (by decide +kernel) hR⟩⟩
  | nt c =>
    refine ⟨_, rfl, brF (by decide +kernel) ⟨_, rfl, brF (by decide +kernel) ?_⟩⟩
    have hw : c.okw = true := hw
    have hh : c.ht + 1 ≤ n + 1 := hh
    have hl : c.bs.length ≤ 1000 := hl
    change wForL (gVar 2) (w_bits_of_b1 (spn_bits_of n)) { Fi R with nx := w_bits_of_4 (spn_bits_of n) (Fi R) } [c.d] ⟨[.f (Cn.nt c).d, .o (.lst []), .u], h⟩
    refine forv ?_
    refine ⟨⟨_, rfl⟩, sub n c _ hw (by omega) hl ⟨_, _, rfl, rfl, ?_, ?_⟩⟩
    · show 0 + (sD c.bs).length ≤ _
      unfold sD
      rw [List.length_map]
      omega
    · exact hR
  | bin w c e =>
    have hw : (!(w == "bit") && !(w == "value") && c.okw && e.okw) = true := hw
    simp only [Bool.and_eq_true] at hw
    obtain ⟨⟨⟨w1, w2⟩, w3⟩, w4⟩ := hw
    refine ⟨_, rfl, brF (by simpa using w1) ⟨_, rfl, brF (by simpa using w2) ?_⟩⟩
    have hh : max c.ht e.ht + 1 ≤ n + 1 := hh
    have hl : (c.bs ++ e.bs).length ≤ 1000 := hl
    rw [List.length_append] at hl
    change wForL (gVar 2) (w_bits_of_b1 (spn_bits_of n)) { Fi R with nx := w_bits_of_4 (spn_bits_of n) (Fi R) } [c.d, e.d] ⟨[.f (Cn.bin w c e).d, .o (.lst []), .u], h⟩
    refine forv ?_
    refine ⟨⟨_, rfl⟩, sub n c _ w3 (by omega) (by omega) ⟨_, _, rfl, rfl, ?_, ?_⟩⟩
    · show 0 + (sD c.bs).length ≤ _
      unfold sD
      rw [List.length_map]
      omega
    · dsimp only
      refine forv ?_
      refine ⟨⟨_, rfl⟩, sub n e _ w4 (by omega) (by omega) ⟨_, _, rfl, rfl, ?_, ?_⟩⟩
      · show (sD c.bs).length + (sD e.bs).length ≤ _
        unfold sD
        rw [List.length_map, List.length_map]
        omega
      · have e1 : (sD (c.bs ++ e.bs)) = sD c.bs ++ sD e.bs := List.map_append
        have hR : R (.lst (sD (c.bs ++ e.bs))) h := hR
        rw [e1] at hR
        exact hR
theorem pk__law_bits : ∀ n : Nat, Pk 1 2 (spn__law_bits (n + 1)) (w__law_bits (spn__law_bits n)) := by
  intro n
  rintro ds h R _ ⟨c, rfl, hw, hh, hl, hR⟩
  have sub : ∀ (n : Nat) (c : Cn) (R : D → Oh → Prop), c.okw = true → c.ht ≤ n → c.bs.length ≤ 1000 → R (lD c.bs) h → spn__law_bits n [c.d] h R NX := fun n c R h1 h2 h3 h4 => by
    cases n with
    | zero => cases c <;> (simp [Cn.ht] at h2)
    | succ n => exact ⟨c, rfl, h1, h2, h3, h4⟩
  cases c with
  | bit s =>
    refine ⟨_, rfl, brT (by decide +kernel) ⟨_, rfl, hR⟩⟩
  | val v =>
    refine ⟨_, rfl, brF (by decide +kernel) ⟨_, rfl, brT (by decide +kernel) hR⟩⟩
  | nt c =>
    refine ⟨_, rfl, brF (by decide +kernel) ⟨_, rfl, brF (by decide +kernel) ?_⟩⟩
    have hw : c.okw = true := hw
    have hh : c.ht + 1 ≤ n + 1 := hh
    have hl : c.bs.length ≤ 1000 := hl
    change wForL (gVar 2) (w__law_bits_b1 (spn__law_bits n)) { Fi R with nx := w__law_bits_4 (spn__law_bits n) (Fi R) } [c.d] ⟨[.f (Cn.nt c).d, .f (.lst []), .u], h⟩
    refine forv ?_
    refine sub n c _ hw (by omega) hl ⟨?_, ?_⟩
    · show 0 + (sD c.bs).length ≤ sizeLine
      have hz : (1000000 : Nat) < sizeLine := by decide
      unfold sD
      rw [List.length_map]
      omega
    · exact hR
  | bin w c e =>
    have hw : (!(w == "bit") && !(w == "value") && c.okw && e.okw) = true := hw
    simp only [Bool.and_eq_true] at hw
    obtain ⟨⟨⟨w1, w2⟩, w3⟩, w4⟩ := hw
    refine ⟨_, rfl, brF (by simpa using w1) ⟨_, rfl, brF (by simpa using w2) ?_⟩⟩
    have hh : max c.ht e.ht + 1 ≤ n + 1 := hh
    have hl : (c.bs ++ e.bs).length ≤ 1000 := hl
    rw [List.length_append] at hl
    have hz : (1000000 : Nat) < sizeLine := by decide
    change wForL (gVar 2) (w__law_bits_b1 (spn__law_bits n)) { Fi R with nx := w__law_bits_4 (spn__law_bits n) (Fi R) } [c.d, e.d] ⟨[.f (Cn.bin w c e).d, .f (.lst []), .u], h⟩
    refine forv ?_
    refine sub n c _ w3 (by omega) (by omega) ⟨?_, ?_⟩
    · show 0 + (sD c.bs).length ≤ sizeLine
      unfold sD
      rw [List.length_map]
      omega
    · dsimp only
      refine forv ?_
      refine sub n e _ w4 (by omega) (by omega) ⟨?_, ?_⟩
      · show (sD c.bs).length + (sD e.bs).length ≤ sizeLine
        unfold sD
        rw [List.length_map, List.length_map]
        omega
      · have e1 : (sD (c.bs ++ e.bs)) = sD c.bs ++ sD e.bs := List.map_append
        have hR : R (.lst (sD (c.bs ++ e.bs))) h := hR
        rw [e1] at hR
        exact hR
end K34

set_option Elab.async false
set_option linter.all false
set_option maxRecDepth 100000
set_option maxHeartbeats 400000
/-! P2_k34: word_of walked -/
namespace K34
open PySem PySem.Spec PyProof.Rows L2 VL
theorem line_of {n : Nat} (h : n ≤ 1000000) : n ≤ sizeLine := Nat.le_trans h (by decide)
theorem all_id (l t : List Str) : (l.map fun x => decide (x ∈ t)).all id = hasAll l t := by
  rw [List.all_map]
  rfl
theorem all_bl (l t : List Str) : (l.map fun x => D.bl (decide (x ∈ t))) = (l.map fun x => decide (x ∈ t)).map D.bl := by rw [List.map_map]; rfl
theorem fm_some {α : Type} (f : α → D) : ∀ l : List α, l.filterMap (fun x => some (f x)) = l.map f
  | [] => rfl
  | x :: l => by rw [List.filterMap_cons, fm_some f l]; rfl
theorem wfC_all {c : Cn} (h : c.wf = true) : c.okw = true ∧ c.ht ≤ 4 ∧ c.bs.length ≤ 8 := by
  unfold Cn.wf at h
  rw [Bool.and_eq_true, Bool.and_eq_true, Nat.ble_eq, Nat.ble_eq] at h
  exact ⟨h.1.1, h.1.2, h.2⟩
theorem wo_tail {R : D → Oh → Prop} {h : Oh} {t b : List Str} {d k : D} {l : List Str} (hl : l.length ≤ 10) {u5 u6 : Sl} (n5 : ∀ d, u5 ≠ .o d)
    (hR : R (.str (if hasAll l t = true then (if same2 l = true then "same" else "") else "missing")) h) : w_word_of_4 (Fi R) ⟨[.f d, .f (lD t), .f (lD b), .f k, .f (.tup (sD l)), u5, u6], h⟩ := by
  have no5 : noOwn [.f d, .f (lD t), .f (lD b), .f k, .f (.tup (sD l)), u5, u6] [5] = true := by
    cases u5 with
    | o d => exact absurd rfl (n5 d)
    | u => rfl
    | f d => rfl
  refine ⟨no5, by show (sD l).length ≤ _; unfold sD; rw [List.length_map]; omega, ?_⟩
  refine lcR (f := D.str) (e := fun x => some (D.bl (decide (x ∈ t)))) (fun x hx C hC => ?_) ?_
  · exact brT rfl ⟨in_ok x t, rfl, by rw [in_is]; exact hC⟩
  rw [List.nil_append, fm_some (fun x => D.bl (decide (x ∈ t)))]
  refine ⟨l.map fun x => decide (x ∈ t), all_bl l t, ?_⟩
  show Br (!((l.map fun x => decide (x ∈ t)).all id)) _ _
  rw [all_id]
  cases q : hasAll l t with
  | false =>
    refine brT rfl ?_
    rw [q] at hR
    exact hR
  | true =>
    refine brF rfl ?_
    rw [q, if_pos rfl] at hR
    change w_word_of_5 (Fi R) ⟨[.f d, .f (lD t), .f (lD b), .f k, .f (.tup (sD l)), u5, u6], h⟩
    have hlen : (sD l).length = l.length := by unfold sD; rw [List.length_map]
    unfold same2 at hR
    match l, hR, hlen with
    | [], hR, _ => exact brF (by decide) (brF rfl hR)
    | [x], hR, _ => exact brF rfl (brF rfl hR)
    | [x, y], hR, _ =>
      refine brT rfl ⟨_, rfl, _, rfl, ?_⟩
      by_cases e : x = y
      · subst e
        refine brT (by simp) ?_
        have : (decide ([x, x].length = 2) && decide ([x, x][0]? = [x, x][1]?)) = true := by simp
        rw [if_pos this] at hR
        exact hR
      · refine brF (by simpa using e) ?_
        have : ¬ ((decide ([x, y].length = 2) && decide ([x, y][0]? = [x, y][1]?)) = true) := by simp [e]
        rw [if_neg this] at hR
        exact hR
    | x :: y :: z :: r, hR, hlen =>
      have e2 : ¬ ((((sD (x :: y :: z :: r)).length : Nat) : Int) = 2) := by
        rw [hlen, List.length_cons, List.length_cons, List.length_cons]
        omega
      refine brF ?_ (brF rfl ?_)
      · show ((((sD (x :: y :: z :: r)).length : Nat) : Int) == 2) = false
        simpa using e2
      · have : ¬ ((decide ((x :: y :: z :: r).length = 2) && decide ((x :: y :: z :: r)[0]? = (x :: y :: z :: r)[1]?)) = true) := by simp
        rw [if_neg this] at hR
        exact hR
theorem pk_word_of : Pk 3 4 sp_word_of w_word_of := by
  rintro ds h R _ ⟨s, t, b, rfl, hs, hR⟩
  cases s with
  | give c =>
    obtain ⟨c1, c2, c3⟩ := wfC_all hs
    refine ⟨_, rfl, ?_⟩
    refine brT (by decide +kernel) ⟨_, rfl, ?_⟩
    refine ⟨c, rfl, c1, by omega, by omega, rfl, by show (sD c.bs).length ≤ _; unfold sD; rw [List.length_map]; omega, ?_⟩
    refine lcR (f := D.str) (e := fun x => some (D.bl (decide (x ∈ b)))) (fun x hx C hC => ?_) ?_
    · exact brT rfl ⟨in_ok x b, rfl, by rw [in_is]; exact hC⟩
    rw [List.nil_append, fm_some (fun x => D.bl (decide (x ∈ b)))]
    refine ⟨c.bs.map fun x => decide (x ∈ b), all_bl c.bs b, ?_⟩
    show Br ((c.bs.map fun x => decide (x ∈ b)).all id) _ _
    rw [all_id]
    have hR : R (.str (if hasAll c.bs b = true then "" else "bit")) h := hR
    cases q : hasAll c.bs b with
    | true =>
      rw [q, if_pos rfl] at hR
      exact brT rfl hR
    | false =>
      rw [q] at hR
      exact brF rfl hR
  | new a =>
    refine ⟨_, rfl, ?_⟩
    refine brF (by decide +kernel) (brT (by decide +kernel) ?_)
    refine ⟨_, rfl, in_ok a t, ?_⟩
    show Br (inD (.str a) (sD t)) _ _
    rw [in_is]
    have hR : R (.str (if a ∈ t then "there" else if 3 ≤ t.length then "many" else "")) h := hR
    by_cases q : a ∈ t
    · rw [if_pos q] at hR
      exact brT (decide_eq_true q) hR
    · rw [if_neg q] at hR
      refine brF (decide_eq_false q) ?_
      have hlen : (sD t).length = t.length := by unfold sD; rw [List.length_map]
      by_cases q3 : 3 ≤ t.length
      · rw [if_pos q3] at hR
        refine brT ?_ hR
        show decide ((((sD t).length : Nat) : Int) ≥ 3) = true
        rw [hlen]
        exact decide_eq_true (by omega)
      · rw [if_neg q3] at hR
        refine brF ?_ hR
        show decide ((((sD t).length : Nat) : Int) ≥ 3) = false
        rw [hlen]
        exact decide_eq_false (by omega)
  | gate w ns =>
    have hs : (ns.all PyData.strOk && Nat.ble ns.length 10) = true := hs
    rw [Bool.and_eq_true, Nat.ble_eq] at hs
    refine ⟨_, rfl, ?_⟩
    refine brF (by decide +kernel) (brF (by decide +kernel) ?_)
    refine brT (by decide +kernel) ⟨_, rfl, ?_⟩
    exact wo_tail hs.2 (fun _ z => nomatch z) hR
  | meas a c =>
    refine ⟨_, rfl, ?_⟩
    refine brF (by decide +kernel) (brF (by decide +kernel) ?_)
    refine brF (by decide +kernel) ⟨_, rfl, ?_⟩
    exact wo_tail (l := [a]) (by show 1 ≤ 10; decide) (fun _ z => nomatch z) hR
  | free a =>
    refine ⟨_, rfl, ?_⟩
    refine brF (by decide +kernel) (brF (by decide +kernel) ?_)
    refine brF (by decide +kernel) ⟨_, rfl, ?_⟩
    exact wo_tail (l := [a]) (by show 1 ≤ 10; decide) (fun _ z => nomatch z) hR
end K34

set_option Elab.async false
set_option linter.all false
set_option maxRecDepth 100000
set_option maxHeartbeats 400000
/-! P3_k34: looked walked -/
namespace K34
open PySem PySem.Spec PyProof.Rows L2 VL
def stk (d : D) (t b : List Str) (s3 s4 s5 s6 s7 s8 s9 s10 s11 s12 : Sl) (h : Oh) : Sg := ⟨[.f d, .f (lD t), .f (lD b), s3, s4, s5, s6, s7, s8, s9, s10, s11, s12], h⟩
def nO (u : Sl) : Prop := ∀ d, u ≠ .o d
theorem nO_u : nO .u := fun _ z => nomatch z
theorem nO_f (d : D) : nO (.f d) := fun _ z => nomatch z
theorem no_one {s : List Sl} {i : Nat} {u : Sl} (h : s[i]? = some u) (n : nO u) : noOwn s [i] = true := by
  unfold noOwn
  rw [List.all_cons, h]
  cases u with
  | o d => exact absurd rfl (n d)
  | u => rfl
  | f d => rfl
theorem sD_len (l : List Str) : (sD l).length = l.length := by unfold sD; rw [List.length_map]
theorem sD_app (l : List Str) (a : Str) : sD l ++ [.str a] = sD (l ++ [a]) := by unfold sD; rw [List.map_append]; rfl
theorem strE {a b : Str} (h : a = b) : (a == b) = true := by rw [h]; simp
theorem strN {a b : Str} (h : ¬ a = b) : (a == b) = false := by simpa using h
theorem fm_filter (f : Str → Bool) : ∀ l : List Str, l.filterMap (fun x => if f x = true then some (D.str x) else none) = sD (l.filter f)
  | [] => rfl
  | x :: l => by
    rw [List.filterMap_cons, List.filter_cons]
    cases q : f x with
    | true =>
      rw [if_pos rfl, if_pos rfl, fm_filter f l]
      rfl
    | false =>
      rw [if_neg (by decide), if_neg (by decide), fm_filter f l]
section
variable {n : Nat} {R : D → Oh → Prop} {N C B : Sg → Prop} {h : Oh} {d : D} {t b : List Str} {p : List St} {s4 s5 s6 s7 s8 s9 s10 s11 s12 : Sl}
abbrev TT (R : D → Oh → Prop) (N C B : Sg → Prop) : We := ⟨N, (Fi R).rt, B, C, (Fi R).xx⟩
/-- [x for x in l if x != a] -/
theorem flt_ne {g : WG} {tt : WT} {te : WE} {vs : List Nat} {s0 : List Sl} {R : List D → Oh → Prop} {l : List Str} {f : Str → Bool}
    (hs : ∀ x ∈ l, ∀ C : Option D → Oh → Prop, C (if f x = true then some (D.str x) else none) h → g (.str x) ⟨wipeS s0 vs, h⟩ fun S1 => tt S1 fun b S2 => Br b (te S2 fun d S3 => wipeS S3.s vs = wipeS s0 vs ∧ C (some d) S3.h) (wipeS S2.s vs = wipeS s0 vs ∧ C none S2.h))
    (hR : R (sD (l.filter f)) h) : wLcL g tt te vs s0 R (sD l) h [] := by
  refine lcR (f := D.str) hs ?_
  rw [List.nil_append, fm_filter]
  exact hR
theorem lk_sm_turn {s : Sm} (w : Wf n (.sm s :: p) t b) (n11 : nO s11) (n12 : nO s12)
    (k : ∀ t' b' s4 s5 s12, lk (.sm s :: p) t b = lk p t' b' → Wf n p t' b' → nO s12 → N (stk d t' b' (.f s.d) s4 s5 s6 s7 s8 s9 s10 s11 s12 h))
    (hR : ∀ x, lk (.sm s :: p) t b = (x, t, b) → R (resD (x, t, b)) h) : w_looked_b1 (spn_looked n) (TT R N C B) (stk d t b (.f s.d) s4 s5 s6 s7 s8 s9 s10 s11 s12 h) := by
  have hs : s.wf = true := w.head
  have e1 := lk_c1 s p t b
  have fault : word s t b ≠ "" → R (.tup [.str (word s t b), lD t, lD b]) h := fun q => hR (word s t b) (by rw [e1, if_neg q])
  have go : ∀ s4 s5 s12, word s t b = "" → nO s12 → N (stk d (stepL s t b).1 (stepL s t b).2 (.f s.d) s4 s5 s6 s7 s8 s9 s10 s11 s12 h) := fun s4 s5 s12 q ns => by
    obtain ⟨o1, o2⟩ := stepL_ok w.ok3 hs q
    exact k _ _ s4 s5 s12 (by rw [e1, if_pos q]) (w.tail o1 o2) ns
  have t3 := w.t3
  have hb := w.sz
  cases s with
  | give c =>
    refine ⟨_, rfl, ?_⟩
    refine brF (by decide +kernel) (brF (by decide +kernel) ?_)
    refine ⟨.give c, t, b, rfl, hs, ?_⟩
    by_cases q : word (.give c) t b = ""
    · refine brF (by rw [strE q]; rfl) ?_
      refine brF (by decide +kernel) (brF (by decide +kernel) (brF (by decide +kernel) (brF rfl ?_)))
      exact go _ _ _ q n12
    · exact brT (by rw [strN q]; rfl) (fault q)
  | gate g ns =>
    refine ⟨_, rfl, ?_⟩
    refine brF (by decide +kernel) (brF (by decide +kernel) ?_)
    refine ⟨.gate g ns, t, b, rfl, hs, ?_⟩
    by_cases q : word (.gate g ns) t b = ""
    · refine brF (by rw [strE q]; rfl) ?_
      refine brF (by decide +kernel) (brF (by decide +kernel) (brF (by decide +kernel) (brF rfl ?_)))
      exact go _ _ _ q n12
    · exact brT (by rw [strN q]; rfl) (fault q)
  | new a =>
    refine ⟨_, rfl, ?_⟩
    refine brF (by decide +kernel) (brF (by decide +kernel) ?_)
    refine ⟨.new a, t, b, rfl, hs, ?_⟩
    by_cases q : word (.new a) t b = ""
    · refine brF (by rw [strE q]; rfl) ?_
      refine brT (by decide +kernel) ?_
      refine ⟨_, rfl, line_of (by rw [sD_len]; show _ + 1 ≤ _; omega), ?_⟩
      refine ⟨t ++ [a], sD_app t a, by rw [List.length_append]; show t.length + 1 < 64; omega, fun ys hp hsr => ?_⟩
      rw [sorted_is hp hsr]
      exact go _ _ _ q n12
    · exact brT (by rw [strN q]; rfl) (fault q)
  | free a =>
    refine ⟨_, rfl, ?_⟩
    refine brF (by decide +kernel) (brF (by decide +kernel) ?_)
    refine ⟨.free a, t, b, rfl, hs, ?_⟩
    by_cases q : word (.free a) t b = ""
    · refine brF (by rw [strE q]; rfl) ?_
      refine brF (by decide +kernel) (brT (by decide +kernel) ?_)
      refine ⟨no_one rfl n12, by rw [sD_len]; omega, ?_⟩
      refine flt_ne (f := fun x => !(x == a)) (fun x hx C hC => ?_) ?_
      · refine ⟨_, rfl, ?_⟩
        show Br (!(x == a)) _ _
        cases e : (x == a) with
        | true =>
          rw [e] at hC
          exact brF rfl ⟨rfl, hC⟩
        | false =>
          rw [e] at hC
          exact brT rfl ⟨rfl, hC⟩
      · exact go _ _ _ q n12
    · exact brT (by rw [strN q]; rfl) (fault q)
  | meas a c =>
    refine ⟨_, rfl, ?_⟩
    refine brF (by decide +kernel) (brF (by decide +kernel) ?_)
    refine ⟨.meas a c, t, b, rfl, hs, ?_⟩
    by_cases q : word (.meas a c) t b = ""
    · refine brF (by rw [strE q]; rfl) ?_
      refine brF (by decide +kernel) (brF (by decide +kernel) (brT (by decide +kernel) ?_))
      refine ⟨_, rfl, in_ok c b, ?_⟩
      show Br (!inD (.str c) (sD b)) _ _
      rw [in_is]
      have g := go
      have es : stepL (.meas a c) t b = (t, if c ∈ b then b else b ++ [c]) := rfl
      by_cases qc : c ∈ b
      · rw [decide_eq_true qc]
        refine brF rfl ?_
        rw [es, if_pos qc] at g
        exact g _ _ _ q n12
      · rw [decide_eq_false qc]
        refine brT rfl ?_
        rw [es, if_neg qc] at g
        refine ⟨_, rfl, line_of (by rw [sD_len]; show _ + 1 ≤ _; omega), ?_⟩
        have z := g (.f (.str "measure")) (.f (.str (word (.meas a c) t b))) s12 q n12
        have e3 : lD (b ++ [c]) = .lst (sD b ++ [.str c]) := by rw [sD_app]; rfl
        unfold stk at z
        rw [e3] at z
        exact z
    · exact brT (by rw [strN q]; rfl) (fault q)
end
end K34

set_option Elab.async false
set_option linter.all false
set_option maxRecDepth 100000
set_option maxHeartbeats 400000
/-! P4_k34: looked walked: branches, rounds, the loop -/
namespace K34
open PySem PySem.Spec PyProof.Rows L2 VL
theorem shD_sD {l : List Str} (h : l.all PyData.strOk = true) : shD 8 (lD l) = true := by
  show (sD l).all (shD 7) = true
  unfold sD
  rw [List.all_map]
  exact h
theorem eqDs_sD : ∀ l m : List Str, eqDs (sD l) (sD m) = decide (l = m)
  | [], [] => rfl
  | [], y :: m => rfl
  | x :: l, [] => rfl
  | x :: l, y :: m => by
    show ((x == y) && eqDs (sD l) (sD m)) = decide (x :: l = y :: m)
    rw [eqDs_sD l m, Bool.eq_iff_iff, Bool.and_eq_true, beq_iff_eq, decide_eq_true_eq, decide_eq_true_eq, List.cons.injEq]
theorem eqD_lD (l m : List Str) : eqD (lD l) (lD m) = decide (l = m) := eqDs_sD l m
section
variable {n : Nat} {R : D → Oh → Prop} {N C B : Sg → Prop} {h : Oh} {d : D} {t b : List Str} {p : List St} {s4 s5 s6 s7 s8 s9 s10 s11 s12 : Sl}
theorem wf_iff {c : Cn} {l m : List Sm} (h : (St.iff c l m).wf = true) : c.wf = true ∧ l.all Sm.wf = true ∧ m.all Sm.wf = true := by
  have h : (c.wf && l.all Sm.wf && m.all Sm.wf && Nat.ble l.length 10 && Nat.ble m.length 10) = true := h
  simp only [Bool.and_eq_true] at h
  exact ⟨h.1.1.1.1, h.1.1.1.2, h.1.1.2⟩
theorem wf_rep {k : Nat} {l : List Sm} (h : (St.rep k l).wf = true) : l.all Sm.wf = true := by
  have h : (l.all Sm.wf && Nat.ble l.length 10) = true := h
  rw [Bool.and_eq_true] at h
  exact h.1
theorem lk_iff_turn {c : Cn} {l m : List Sm} (w : Wf (n + 1) (.iff c l m :: p) t b) (n11 : nO s11) (n12 : nO s12)
    (k : ∀ t' b' s4 s5 s6 s7 s8 s9 s11, lk (.iff c l m :: p) t b = lk p t' b' → Wf (n + 1) p t' b' → nO s11 → N (stk d t' b' (.f (St.iff c l m).d) s4 s5 s6 s7 s8 s9 s10 s11 s12 h))
    (hR : ∀ x, lk (.iff c l m :: p) t b = (x, t, b) → R (resD (x, t, b)) h) : w_looked_b1 (spn_looked (n + 1)) (TT R N C B) (stk d t b (.f (St.iff c l m).d) s4 s5 s6 s7 s8 s9 s10 s11 s12 h) := by
  obtain ⟨wc, wl, wm⟩ := wf_iff w.head
  obtain ⟨c1, c2, c3⟩ := wfC_all wc
  have e1 := lk_c2 c l m p t b
  have ok := w.ok3
  have hz := w.sz
  rw [sz_cons] at hz
  have hz : b.length + (1 + l.length + m.length + sz p) ≤ 10000 := hz
  refine ⟨_, rfl, ?_⟩
  refine brT (by decide +kernel) ?_
  refine ⟨_, rfl, c, rfl, c1, by omega, by omega, no_one rfl n11, by rw [sD_len]; omega, ?_⟩
  refine lcR (f := D.str) (e := fun x => some (D.bl (decide (x ∈ b)))) (fun x hx C hC => ?_) ?_
  · exact brT rfl ⟨in_ok x b, rfl, by rw [in_is]; exact hC⟩
  rw [List.nil_append, fm_some (fun x => D.bl (decide (x ∈ b)))]
  refine ⟨c.bs.map fun x => decide (x ∈ b), all_bl c.bs b, ?_⟩
  show Br (!((c.bs.map fun x => decide (x ∈ b)).all id)) _ _
  rw [all_id]
  cases qa : hasAll c.bs b with
  | false => exact brT rfl (hR "bit" (by rw [e1, qa]; rfl))
  | true =>
    refine brF rfl ?_
    rw [qa, if_pos rfl] at e1
    refine ⟨_, rfl, .tup (l.map Sm.d), l.map .sm, t, b, rfl, .inr (by rw [body_d]), Wf.body ok wl (by omega), ?_⟩
    rw [lk_sm]
    refine ⟨rfl, ?_⟩
    by_cases q1 : (lkS l t b).1 = ""
    · refine brF (by rw [strE q1]; rfl) ?_
      rw [if_pos q1] at e1
      refine ⟨_, rfl, .tup (m.map Sm.d), m.map .sm, t, b, rfl, .inr (by rw [body_d]), Wf.body ok wm (by omega), ?_⟩
      rw [lk_sm]
      refine ⟨rfl, ?_⟩
      by_cases q2 : (lkS m t b).1 = ""
      · refine brF (by rw [strE q2]; rfl) ?_
        rw [if_pos q2] at e1
        obtain ⟨ol, bl⟩ := lkS_ok l (b := b) ok wl
        obtain ⟨om, bm⟩ := lkS_ok m (b := b) ok wm
        refine ⟨shD_sD ol.2, shD_sD om.2, ?_⟩
        show Br (!eqD (lD (lkS l t b).2.1) (lD (lkS m t b).2.1)) _ _
        rw [eqD_lD]
        by_cases q3 : (lkS l t b).2.1 = (lkS m t b).2.1
        · rw [decide_eq_true q3]
          refine brF rfl ?_
          rw [if_pos q3] at e1
          have n11' := no_one (s := (stk d t b (.f (St.iff c l m).d) (.f (.str "if")) (.f (.str (lkS m t b).1)) (.f (lD (lkS l t b).2.1)) (.f (lD (lkS l t b).2.2)) (.f (lD (lkS m t b).2.1)) (.f (lD (lkS m t b).2.2)) s10 s11 s12 h).s) (i := 11) rfl n11
          refine ⟨n11', by rw [sD_len]; omega, ?_⟩
          refine flt_ne (f := fun x => decide (x ∈ (lkS m t b).2.2)) (fun x hx C hC => ?_) ?_
          · refine ⟨in_ok x _, ?_⟩
            show Br (inD (.str x) (sD (lkS m t b).2.2)) _ _
            rw [in_is]
            cases e : decide (x ∈ (lkS m t b).2.2) with
            | true =>
              rw [e] at hC
              exact brT rfl ⟨rfl, hC⟩
            | false =>
              rw [e] at hC
              exact brF rfl ⟨rfl, hC⟩
          · refine ⟨rfl, ?_⟩
            refine k _ _ _ _ _ _ _ _ _ e1 (w.tail ol ?_) n11
            have := List.length_filter_le (fun x => decide (x ∈ (lkS m t b).2.2)) (lkS l t b).2.2
            show _ ≤ b.length + (1 + l.length + m.length)
            omega
        · rw [decide_eq_false q3]
          refine brT rfl ?_
          rw [if_neg q3] at e1
          exact hR "branches" e1
      · refine brT (by rw [strN q2]; rfl) ?_
        rw [if_neg q2] at e1
        exact hR _ e1
    · refine brT (by rw [strN q1]; rfl) ?_
      rw [if_neg q1] at e1
      exact hR _ e1
theorem lk_rep_turn {j : Nat} {l : List Sm} (w : Wf (n + 1) (.rep j l :: p) t b) (n11 : nO s11) (n12 : nO s12)
    (k : ∀ t' b' s4 s5 s7 s10, lk (.rep j l :: p) t b = lk p t' b' → Wf (n + 1) p t' b' → N (stk d t' b' (.f (St.rep j l).d) s4 s5 s6 s7 s8 s9 s10 s11 s12 h))
    (hR : ∀ x, lk (.rep j l :: p) t b = (x, t, b) → R (resD (x, t, b)) h) : w_looked_b1 (spn_looked (n + 1)) (TT R N C B) (stk d t b (.f (St.rep j l).d) s4 s5 s6 s7 s8 s9 s10 s11 s12 h) := by
  have wl := wf_rep w.head
  have e1 := lk_c3 j l p t b
  have ok := w.ok3
  have hz := w.sz
  rw [sz_cons] at hz
  have hz : b.length + (1 + l.length + sz p) ≤ 10000 := hz
  obtain ⟨ol, bl⟩ := lkS_ok l (b := b) ok wl
  refine ⟨_, rfl, ?_⟩
  refine brF (by decide +kernel) (brT (by decide +kernel) ?_)
  refine ⟨_, rfl, .tup (l.map Sm.d), l.map .sm, t, b, rfl, .inr (by rw [body_d]), Wf.body ok wl (by omega), ?_⟩
  rw [lk_sm]
  refine ⟨rfl, ?_⟩
  by_cases q1 : (lkS l t b).1 = ""
  · rw [if_pos q1] at e1
    refine brT (strE q1) ⟨shD_sD ol.2, shD_sD ok.2, ?_⟩
    show Br (!eqD (lD (lkS l t b).2.1) (lD t)) _ _
    rw [eqD_lD]
    by_cases q2 : (lkS l t b).2.1 = t
    · rw [decide_eq_true q2]
      refine brF rfl ?_
      rw [if_pos q2] at e1
      refine brF (by rw [strE q1]; rfl) ?_
      refine ⟨_, rfl, ?_⟩
      have go : ∀ b', (if 0 < j then (lkS l t b).2.2 else b) = b' → b'.length ≤ b.length + (1 + l.length) → ∀ s4 s5 s7 s10, N (stk d t b' (.f (St.rep j l).d) s4 s5 s6 s7 s8 s9 s10 s11 s12 h) := fun b' eb hb s4 s5 s7 s10 => k t b' s4 s5 s7 s10 (by rw [e1, eb]) (w.tail ok hb)
      by_cases q3 : 0 < j
      · refine brT ?_ (go _ (if_pos q3) (by omega) _ _ _ _)
        show decide (((j : Nat) : Int) > 0) = true
        exact decide_eq_true (by omega)
      · refine brF ?_ (go _ (if_neg q3) (by omega) _ _ _ _)
        show decide (((j : Nat) : Int) > 0) = false
        exact decide_eq_false (by omega)
    · rw [decide_eq_false q2]
      refine brT rfl ?_
      rw [if_neg q2] at e1
      exact brT (by decide +kernel) (hR "branches" e1)
  · rw [if_neg q1] at e1
    refine brF (strN q1) (brF rfl ?_)
    exact brT (by rw [strN q1]; rfl) (hR _ e1)
theorem lk_iff_turn' {c : Cn} {l m : List Sm} (hn : n ≠ 0) (w : Wf n (.iff c l m :: p) t b) (n11 : nO s11) (n12 : nO s12)
    (k : ∀ t' b' s4 s5 s6 s7 s8 s9 s11, lk (.iff c l m :: p) t b = lk p t' b' → Wf n p t' b' → nO s11 → N (stk d t' b' (.f (St.iff c l m).d) s4 s5 s6 s7 s8 s9 s10 s11 s12 h))
    (hR : ∀ x, lk (.iff c l m :: p) t b = (x, t, b) → R (resD (x, t, b)) h) : w_looked_b1 (spn_looked n) (TT R N C B) (stk d t b (.f (St.iff c l m).d) s4 s5 s6 s7 s8 s9 s10 s11 s12 h) := by
  cases n with
  | zero => exact absurd rfl hn
  | succ n => exact lk_iff_turn w n11 n12 k hR
theorem lk_rep_turn' {j : Nat} {l : List Sm} (hn : n ≠ 0) (w : Wf n (.rep j l :: p) t b) (n11 : nO s11) (n12 : nO s12)
    (k : ∀ t' b' s4 s5 s7 s10, lk (.rep j l :: p) t b = lk p t' b' → Wf n p t' b' → N (stk d t' b' (.f (St.rep j l).d) s4 s5 s6 s7 s8 s9 s10 s11 s12 h))
    (hR : ∀ x, lk (.rep j l :: p) t b = (x, t, b) → R (resD (x, t, b)) h) : w_looked_b1 (spn_looked n) (TT R N C B) (stk d t b (.f (St.rep j l).d) s4 s5 s6 s7 s8 s9 s10 s11 s12 h) := by
  cases n with
  | zero => exact absurd rfl hn
  | succ n => exact lk_rep_turn w n11 n12 k hR
theorem Wf.pos {s : St} (w : Wf n (s :: p) t b) (h : ∀ x, s ≠ .sm x) : n ≠ 0 := fun z => by
  obtain ⟨x, hx⟩ := w.flat z _ List.mem_cons_self
  exact h x hx
theorem lk_loop {T : Sg → Prop} (hT : ∀ t b s3 s4 s5 s6 s7 s8 s9 s10 s11 s12, R (resD (("" : Str), t, b)) h → T (stk d t b s3 s4 s5 s6 s7 s8 s9 s10 s11 s12 h)) : ∀ (p : List St) (t b : List Str) (s3 s4 s5 s6 s7 s8 s9 s10 s11 s12 : Sl), Wf n p t b → nO s11 → nO s12 → R (resD (lk p t b)) h →
    wForL (gVar 3) (w_looked_b1 (spn_looked n)) ⟨T, (Fi R).rt, (Fi R).bk, (Fi R).ct, (Fi R).xx⟩ (p.map St.d) (stk d t b s3 s4 s5 s6 s7 s8 s9 s10 s11 s12 h)
  | [], t, b, s3, s4, s5, s6, s7, s8, s9, s10, s11, s12, w, n11, n12, hR => hT t b _ _ _ _ _ _ _ _ _ _ hR
  | s :: p, t, b, s3, s4, s5, s6, s7, s8, s9, s10, s11, s12, w, n11, n12, hR => by
    rw [List.map_cons]
    refine forv ?_
    cases s with
    | sm s => exact lk_sm_turn w n11 n12 (fun t' b' s4 s5 s12 e w' ns => lk_loop hT p t' b' _ _ _ _ _ _ _ _ _ _ w' n11 ns (by rw [← e]; exact hR)) (fun x e => by rw [← e]; exact hR)
    | iff c l m => exact lk_iff_turn' (w.pos fun _ z => nomatch z) w n11 n12 (fun t' b' s4 s5 s6 s7 s8 s9 s11 e w' ns => lk_loop hT p t' b' _ _ _ _ _ _ _ _ _ _ w' ns n12 (by rw [← e]; exact hR)) (fun x e => by rw [← e]; exact hR)
    | rep j l => exact lk_rep_turn' (w.pos fun _ z => nomatch z) w n11 n12 (fun t' b' s4 s5 s7 s10 e w' => lk_loop hT p t' b' _ _ _ _ _ _ _ _ _ _ w' n11 n12 (by rw [← e]; exact hR)) (fun x e => by rw [← e]; exact hR)
end
theorem pk_looked : ∀ n : Nat, Pk 3 10 (spn_looked (n + 1)) (w_looked (spn_looked n)) := by
  intro n
  rintro ds h R _ ⟨d, p, t, b, rfl, hp, w, hR⟩
  have fin := lk_loop (R := R) (h := h) (d := d) (n := n) (T := w_looked_1 (spn_looked n) (Fi R)) (fun t b s3 s4 s5 s6 s7 s8 s9 s10 s11 s12 q => q) p t b .u .u .u .u .u .u .u .u .u .u w nO_u nO_u hR
  rcases hp with rfl | rfl
  · exact fin
  · exact fin
theorem pk_fault_of : Pk 1 0 sp_fault_of w_fault_of := by
  rintro ds h R _ ⟨p, rfl, wf, hs, hR⟩
  refine ⟨.lst (p.map St.d), p, [], [], rfl, .inl rfl, ⟨wf, (fun z => absurd z (by decide)), by decide, rfl, (by show 0 + _ ≤ _; omega)⟩, ?_⟩
  exact ⟨_, rfl, hR⟩
end K34

set_option Elab.async false
set_option linter.all false
set_option maxRecDepth 100000
set_option maxHeartbeats 400000
/-! P5_k34: the law's walk walked -/
namespace K34
open PySem PySem.Spec PyProof.Rows L2 VL
theorem okw_bs : ∀ {c : Cn}, c.okw = true → c.bs.all PyData.strOk = true
  | .bit s, h => by
    have h : PyData.strOk s = true := h
    show (PyData.strOk s && true) = true
    rw [h]
    rfl
  | .val v, _ => rfl
  | .nt c, h => okw_bs (c := c) h
  | .bin w c e, h => by
    have h : (!(w == "bit") && !(w == "value") && c.okw && e.okw) = true := h
    simp only [Bool.and_eq_true] at h
    show (c.bs ++ e.bs).all PyData.strOk = true
    rw [List.all_append, okw_bs h.1.2, okw_bs h.2]
    rfl
theorem flt_nil (l b : List Str) : decide (l.filter (fun x => !decide (x ∈ b)) = []) = hasAll l b := by
  rw [Bool.eq_iff_iff, decide_eq_true_eq, List.filter_eq_nil_iff]
  unfold hasAll
  rw [List.all_eq_true]
  refine ⟨fun h x hx => ?_, fun h x hx => ?_⟩
  · simpa using h x hx
  · simpa using h x hx
theorem ok_flt {l : List Str} {f : Str → Bool} (h : l.all PyData.strOk = true) : (l.filter f).all PyData.strOk = true := List.all_eq_true.mpr fun x hx => List.all_eq_true.mp h x (List.mem_filter.mp hx).1
theorem len_pos {a : Str} (h : ¬ a = "") : ((a.length : Int) != 0) = true := by
  have : a.length ≠ 0 := fun z => h (TL.ext_tl (by
    have e : TL.tl a = [] := List.length_eq_zero_iff.mp (by rw [← TL.len_tl]; exact z)
    rw [e]
    rfl))
  have : ¬ ((a.length : Int) = 0) := by omega
  simpa using this
theorem word_len (s : Sm) (t b : List Str) : (word s t b).length ≤ 10 := by
  cases s with
  | give c => unfold word; dsimp only; split <;> decide +kernel
  | new a => unfold word; dsimp only; split; · decide +kernel
             split <;> decide +kernel
  | gate w ns => unfold word; dsimp only; split; · split <;> decide +kernel
                 decide +kernel
  | meas a c => unfold word; dsimp only; split; · split <;> decide +kernel
                decide +kernel
  | free a => unfold word; dsimp only; split; · split <;> decide +kernel
              decide +kernel
theorem wkS_len : ∀ (l : List Sm) (t b : List Str), (wkS l t b).1.length ≤ 10
  | [], _, _ => by show ("" : Str).length ≤ 10; decide +kernel
  | s :: l, t, b => by
    unfold wkS
    split
    · exact wkS_len l _ _
    · exact word_len s t b
def uTail : WS :=
  (wSeq (wIfS (wBb (wOp opEq (wVar 4) (wC (.str "free")))) (wAsg (wLc (wItL (wVar 1)) (gVar 12) (wBb (wOp opNe (wVar 12) (wIx (wVar 3) (wC (.int 1))))) (wVar 12) [12]) (gVar 1)) wNext)
  (wIfS (wBb (wOp opEq (wVar 4) (wC (.str "measure")))) (wAsg (wOp opAdd (wVar 2) (wLst (wCons (wIx (wVar 3) (wC (.int 2))) wNil))) (gVar 2)) wNext))
def uAll : WS :=
  (wSeq (wIfS (wBb (wOp opNe (wLc (wItL (wVar 10)) (gVar 12) (wBb (wOp opNotInD (wVar 12) (wVar 1))) (wVar 12) [12]) (wLst wNil))) (wRet (wTup (wCons (wC (.str "missing")) (wCons (wVar 1) (wCons (wVar 2) wNil))))) wNext)
  (wSeq (wIfS (wAnd (wBb (wOp opEq (wCB bLen (wCons (wVar 10) wNil)) (wC (.int 2)))) (wBb (wOp opEq (wIx (wVar 10) (wC (.int 0))) (wIx (wVar 10) (wC (.int 1)))))) (wRet (wTup (wCons (wC (.str "same")) (wCons (wVar 1) (wCons (wVar 2) wNil))))) wNext) uTail))
section
variable {n : Nat} {R : D → Oh → Prop} {N C B : Sg → Prop} {h : Oh} {d : D} {t b : List Str} {p : List St} {s4 s5 s6 s7 s8 s9 s10 s11 s12 : Sl}
theorem ww_sm_turn {s : Sm} (w : Wf n (.sm s :: p) t b) (n11 : nO s11) (n12 : nO s12)
    (k : ∀ t' b' s4 s10 s11 s12, wk (.sm s :: p) t b = wk p t' b' → Wf n p t' b' → nO s11 → nO s12 → N (stk d t' b' (.f s.d) s4 s5 s6 s7 s8 s9 s10 s11 s12 h))
    (hR : ∀ x, wk (.sm s :: p) t b = (x, t, b) → R (resD (x, t, b)) h) : w__law_walk_b1 (spn__law_walk n) (TT R N C B) (stk d t b (.f s.d) s4 s5 s6 s7 s8 s9 s10 s11 s12 h) := by
  have hs : s.wf = true := w.head
  have e1 := wk_c1 s p t b
  have fault : word s t b ≠ "" → R (.tup [.str (word s t b), lD t, lD b]) h := fun q => hR (word s t b) (by rw [e1, if_neg q])
  have go : ∀ s4 s10 s11 s12, word s t b = "" → nO s11 → nO s12 → N (stk d (stepW s t b).1 (stepW s t b).2 (.f s.d) s4 s5 s6 s7 s8 s9 s10 s11 s12 h) := fun s4 s10 s11 s12 q m1 m2 => by
    obtain ⟨o1, o2⟩ := stepW_ok w.ok3 hs q
    exact k _ _ s4 s10 s11 s12 (by rw [e1, if_pos q]) (w.tail o1 o2) m1 m2
  have t3 := w.t3
  have hb := w.sz
  -- the qubits that are used
  have used : ∀ (l : List Str) (kd : Str) (dd : D), l.length ≤ 10 → l.all PyData.strOk = true → (word s t b = ((if hasAll l t = true then (if same2 l = true then ("same" : Str) else ("" : Str)) else ("missing" : Str)) : Str)) →
      (hasAll l t = true → same2 l = false → uTail (TT R N C B) (stk d t b (.f dd) (.f (.str kd)) s5 s6 s7 s8 s9 (.f (lD l)) s11 s12 h)) →
      uAll (TT R N C B) (stk d t b (.f dd) (.f (.str kd)) s5 s6 s7 s8 s9 (.f (lD l)) s11 s12 h) := fun l kd dd hl ho hw cont => by
    refine ⟨no_one rfl n12, by rw [sD_len]; omega, ?_⟩
    refine flt_ne (f := fun x => !decide (x ∈ t)) (fun x hx C hC => ?_) ?_
    · refine ⟨in_ok x t, ?_⟩
      show Br (!inD (.str x) (sD t)) _ _
      rw [in_is]
      cases e : decide (x ∈ t) with
      | true =>
        rw [e] at hC
        exact brF rfl ⟨rfl, hC⟩
      | false =>
        rw [e] at hC
        exact brT rfl ⟨rfl, hC⟩
    · refine ⟨shD_sD (ok_flt ho), rfl, ?_⟩
      show Br (!eqD (lD (l.filter fun x => !decide (x ∈ t))) (lD [])) _ _
      rw [eqD_lD, flt_nil]
      cases q : hasAll l t with
      | false =>
        refine brT rfl ?_
        rw [q, if_neg (by decide)] at hw
        have z := fault (by rw [hw]; decide +kernel)
        rw [hw] at z
        exact z
      | true =>
        refine brF rfl ?_
        rw [q, if_pos rfl] at hw
        have two : ∀ {P Q : Prop}, (same2 l = true → P) → (same2 l = false → Q) → (Br ((((sD l).length : Nat) : Int) == 2) (∃ x, atI (sD l) 0 = some x ∧ ∃ y, atI (sD l) 1 = some y ∧ opEq x y fun z => match z with | .bl b => Br b P Q | _ => False) (Br false P Q)) := fun {P Q} hP hQ => by
          match l, hP, hQ with
          | [], _, hQ => exact brF rfl (brF rfl (hQ rfl))
          | [x], _, hQ => exact brF rfl (brF rfl (hQ rfl))
          | [x, y], hP, hQ =>
            refine brT rfl ⟨_, rfl, _, rfl, ?_⟩
            by_cases e : x = y
            · subst e
              exact brT (by simp) (hP (by unfold same2; simp))
            · exact brF (by simpa using e) (hQ (by unfold same2; simp [e]))
          | x :: y :: z :: r, _, hQ =>
            refine brF ?_ (brF rfl (hQ (by unfold same2; simp)))
            rw [sD_len, List.length_cons, List.length_cons, List.length_cons]
            have : ¬ ((((r.length + 1 + 1 + 1 : Nat)) : Int) = 2) := by omega
            simpa using this
        refine two (fun q2 => ?_) (fun q2 => ?_)
        · rw [if_pos q2] at hw
          have z := fault (by rw [hw]; decide +kernel)
          rw [hw] at z
          exact z
        · exact cont q q2
  cases s with
  | give c =>
    obtain ⟨c1, c2, c3⟩ := wfC_all hs
    refine ⟨_, rfl, rfl, ?_⟩
    refine brT (by decide +kernel) ?_
    refine ⟨_, rfl, c, rfl, c1, by omega, by omega, no_one rfl n11, by rw [sD_len]; omega, ?_⟩
    refine flt_ne (f := fun x => !decide (x ∈ b)) (fun x hx C hC => ?_) ?_
    · refine ⟨in_ok x b, ?_⟩
      show Br (!inD (.str x) (sD b)) _ _
      rw [in_is]
      cases e : decide (x ∈ b) with
      | true =>
        rw [e] at hC
        exact brF rfl ⟨rfl, hC⟩
      | false =>
        rw [e] at hC
        exact brT rfl ⟨rfl, hC⟩
    · refine ⟨shD_sD (ok_flt (okw_bs c1)), rfl, ?_⟩
      show Br (!eqD (lD (c.bs.filter fun x => !decide (x ∈ b))) (lD [])) _ _
      rw [eqD_lD, flt_nil]
      have ew : word (.give c) t b = ((if hasAll c.bs b = true then ("" : Str) else ("bit" : Str)) : Str) := rfl
      cases q : hasAll c.bs b with
      | false =>
        rw [q, if_neg (by decide)] at ew
        refine brT rfl ?_
        have z := fault (by rw [ew]; decide +kernel)
        rw [ew] at z
        exact z
      | true =>
        rw [q] at ew
        refine brF rfl ?_
        refine brF (by decide +kernel) (brF (by decide +kernel) (brF (by decide +kernel) (brF (by decide +kernel) ?_)))
        exact go _ _ _ _ ew n11 n12
  | new a =>
    refine ⟨_, rfl, rfl, ?_⟩
    refine brF (by decide +kernel) (brF rfl ?_)
    refine brF (by decide +kernel) (brF (by decide +kernel) (brT (by decide +kernel) ?_))
    refine ⟨_, rfl, in_ok a t, ?_⟩
    show Br (inD (.str a) (sD t)) _ _
    rw [in_is]
    have ew : word (.new a) t b = ((if a ∈ t then ("there" : Str) else if 3 ≤ t.length then ("many" : Str) else ("" : Str)) : Str) := rfl
    by_cases q : a ∈ t
    · rw [if_pos q] at ew
      rw [decide_eq_true q]
      refine brT rfl (brT rfl ?_)
      refine ⟨_, rfl, in_ok a t, brT (by rw [in_is]; exact decide_eq_true q) ?_⟩
      have z := fault (by rw [ew]; decide +kernel)
      rw [ew] at z
      exact z
    · rw [if_neg q] at ew
      rw [decide_eq_false q]
      refine brF rfl ?_
      by_cases q3 : 3 ≤ t.length
      · rw [if_pos q3] at ew
        refine brT ?_ ?_
        · show decide ((((sD t).length : Nat) : Int) > 2) = true
          rw [sD_len]
          exact decide_eq_true (by omega)
        refine ⟨_, rfl, in_ok a t, brF (by rw [in_is]; exact decide_eq_false q) ?_⟩
        have z := fault (by rw [ew]; decide +kernel)
        rw [ew] at z
        exact z
      · rw [if_neg q3] at ew
        refine brF ?_ ?_
        · show decide ((((sD t).length : Nat) : Int) > 2) = false
          rw [sD_len]
          exact decide_eq_false (by omega)
        refine ⟨_, rfl, line_of (by rw [sD_len]; show _ + 1 ≤ _; omega), ?_⟩
        have z := go (.f (.str "new")) s10 s11 s12 ew n11 n12
        have e3 : lD (t ++ [a]) = .lst (sD t ++ [.str a]) := by rw [sD_app]; rfl
        have es : stepW (.new a) t b = (t ++ [a], b) := rfl
        rw [es] at z
        unfold stk at z
        dsimp only at z
        rw [e3] at z
        exact z
  | gate g ns =>
    have hs' : (ns.all PyData.strOk && Nat.ble ns.length 10) = true := hs
    rw [Bool.and_eq_true, Nat.ble_eq] at hs'
    refine ⟨_, rfl, rfl, ?_⟩
    refine brF (by decide +kernel) (brF rfl ?_)
    refine brF (by decide +kernel) (brF (by decide +kernel) (brF (by decide +kernel) (brT (by decide +kernel) ?_)))
    refine brT (by decide +kernel) ⟨_, rfl, ?_⟩
    refine used ns "gate" _ hs'.2 hs'.1 rfl (fun q1 q2 => ?_)
    refine brF (by decide +kernel) (brF (by decide +kernel) ?_)
    have ew : word (.gate g ns) t b = ((if hasAll ns t = true then (if same2 ns = true then ("same" : Str) else ("" : Str)) else ("missing" : Str)) : Str) := rfl
    rw [q1, q2] at ew
    exact go _ _ _ _ ew n11 n12
  | meas a c =>
    have hs' : (PyData.strOk a && PyData.strOk c) = true := hs
    rw [Bool.and_eq_true] at hs'
    refine ⟨_, rfl, rfl, ?_⟩
    refine brF (by decide +kernel) (brF rfl ?_)
    refine brF (by decide +kernel) (brF (by decide +kernel) (brF (by decide +kernel) (brT (by decide +kernel) ?_)))
    refine brF (by decide +kernel) ⟨_, rfl, ?_⟩
    refine used [a] "measure" _ (by show 1 ≤ 10; decide) (by rw [List.all_cons, hs'.1]; rfl) rfl (fun q1 q2 => ?_)
    refine brF (by decide +kernel) (brT (by decide +kernel) ?_)
    have ew : word (.meas a c) t b = ((if hasAll [a] t = true then (if same2 [a] = true then ("same" : Str) else ("" : Str)) else ("missing" : Str)) : Str) := rfl
    rw [q1, q2] at ew
    refine ⟨_, rfl, line_of (by rw [sD_len]; show _ + 1 ≤ _; omega), ?_⟩
    have z := go (.f (.str "measure")) (.f (lD [a])) s11 s12 ew n11 n12
    have e3 : lD (b ++ [c]) = .lst (sD b ++ [.str c]) := by rw [sD_app]; rfl
    have es : stepW (.meas a c) t b = (t, b ++ [c]) := rfl
    rw [es] at z
    unfold stk at z
    dsimp only at z
    rw [e3] at z
    exact z
  | free a =>
    have hs' : PyData.strOk a = true := hs
    refine ⟨_, rfl, rfl, ?_⟩
    refine brF (by decide +kernel) (brF rfl ?_)
    refine brF (by decide +kernel) (brF (by decide +kernel) (brF (by decide +kernel) (brT (by decide +kernel) ?_)))
    refine brF (by decide +kernel) ⟨_, rfl, ?_⟩
    refine used [a] "free" _ (by show 1 ≤ 10; decide) (by rw [List.all_cons, hs']; rfl) rfl (fun q1 q2 => ?_)
    have ew : word (.free a) t b = ((if hasAll [a] t = true then (if same2 [a] = true then ("same" : Str) else ("" : Str)) else ("missing" : Str)) : Str) := rfl
    rw [q1, q2] at ew
    refine brT (by decide +kernel) ?_
    refine ⟨no_one rfl n12, by rw [sD_len]; omega, ?_⟩
    refine flt_ne (f := fun x => !(x == a)) (fun x hx C hC => ?_) ?_
    · refine ⟨_, rfl, ?_⟩
      show Br (!(x == a)) _ _
      cases e : (x == a) with
      | true =>
        rw [e] at hC
        exact brF rfl ⟨rfl, hC⟩
      | false =>
        rw [e] at hC
        exact brT rfl ⟨rfl, hC⟩
    · refine brF (by decide +kernel) ?_
      exact go _ _ _ _ ew n11 n12
end
end K34

set_option Elab.async false
set_option linter.all false
set_option maxRecDepth 100000
set_option maxHeartbeats 400000
/-! P6_k34: the law's walk: branches, rounds, the loop -/
namespace K34
open PySem PySem.Spec PyProof.Rows L2 VL
section
variable {n : Nat} {R : D → Oh → Prop} {N C B : Sg → Prop} {h : Oh} {d : D} {t b : List Str} {p : List St} {s4 s5 s6 s7 s8 s9 s10 s11 s12 : Sl}
theorem ww_iff_turn {c : Cn} {l m : List Sm} (w : Wf (n + 1) (.iff c l m :: p) t b) (n11 : nO s11) (n12 : nO s12)
    (k : ∀ t' b' s4 s5 s6 s7 s11, wk (.iff c l m :: p) t b = wk p t' b' → Wf (n + 1) p t' b' → nO s11 → N (stk d t' b' (.f (St.iff c l m).d) s4 s5 s6 s7 s8 s9 s10 s11 s12 h))
    (hR : ∀ x, wk (.iff c l m :: p) t b = (x, t, b) → R (resD (x, t, b)) h) : w__law_walk_b1 (spn__law_walk (n + 1)) (TT R N C B) (stk d t b (.f (St.iff c l m).d) s4 s5 s6 s7 s8 s9 s10 s11 s12 h) := by
  obtain ⟨wc, wl, wm⟩ := wf_iff w.head
  obtain ⟨c1, c2, c3⟩ := wfC_all wc
  have e1 := wk_c2 c l m p t b
  have ok := w.ok3
  have hz := w.sz
  rw [sz_cons] at hz
  have hz : b.length + (1 + l.length + m.length + sz p) ≤ 10000 := hz
  refine ⟨_, rfl, rfl, ?_⟩
  refine brT (by decide +kernel) ?_
  refine ⟨_, rfl, c, rfl, c1, by omega, by omega, no_one rfl n11, by rw [sD_len]; omega, ?_⟩
  refine flt_ne (f := fun x => !decide (x ∈ b)) (fun x hx C hC => ?_) ?_
  · refine ⟨in_ok x b, ?_⟩
    show Br (!inD (.str x) (sD b)) _ _
    rw [in_is]
    cases e : decide (x ∈ b) with
    | true =>
      rw [e] at hC
      exact brF rfl ⟨rfl, hC⟩
    | false =>
      rw [e] at hC
      exact brT rfl ⟨rfl, hC⟩
  · refine ⟨shD_sD (ok_flt (okw_bs c1)), rfl, ?_⟩
    show Br (!eqD (lD (c.bs.filter fun x => !decide (x ∈ b))) (lD [])) _ _
    rw [eqD_lD, flt_nil]
    cases qa : hasAll c.bs b with
    | false =>
      refine brT rfl ?_
      exact hR "bit" (by rw [e1, qa]; rfl)
    | true =>
      refine brF rfl ?_
      rw [qa, if_pos rfl] at e1
      obtain ⟨ol, bl⟩ := wkS_ok l (b := b) ok wl
      obtain ⟨om, bm⟩ := wkS_ok m (b := b) ok wm
      refine brT (by decide +kernel) ?_
      refine ⟨_, rfl, .tup (l.map Sm.d), l.map .sm, t, b, rfl, .inr (by rw [body_d]), Wf.body ok wl (by omega), ?_⟩
      rw [wk_sm]
      refine ⟨_, rfl, .tup (m.map Sm.d), m.map .sm, t, b, rfl, .inr (by rw [body_d]), Wf.body ok wm (by omega), ?_⟩
      rw [wk_sm]
      refine ⟨_, rfl, _, rfl, ?_⟩
      refine forv ?_
      by_cases q1 : (wkS l t b).1 = ""
      · refine brF (by rw [strE q1]; rfl) ?_
        rw [if_pos q1] at e1
        unfold wNext
        dsimp only
        refine forv ?_
        by_cases q2 : (wkS m t b).1 = ""
        · refine brF (by rw [strE q2]; rfl) ?_
          rw [if_pos q2] at e1
          unfold wNext
          dsimp only
          refine ⟨_, rfl, _, rfl, by have := ol.1; omega, fun ys hp hs => ?_⟩
          rw [sorted_is hp hs]
          refine ⟨_, rfl, _, rfl, by have := om.1; omega, fun zs hp hs => ?_⟩
          rw [sorted_is hp hs]
          refine ⟨shD_sD (ok_srt ol).2, shD_sD (ok_srt om).2, ?_⟩
          show Br (!eqD (lD (srt (wkS l t b).2.1)) (lD (srt (wkS m t b).2.1))) _ _
          rw [eqD_lD]
          by_cases q3 : srt (wkS l t b).2.1 = srt (wkS m t b).2.1
          · rw [decide_eq_true q3]
            refine brF rfl ?_
            rw [if_pos q3] at e1
            have n11' := no_one (s := (stk d t b (.f (St.iff c l m).d) (.f (.str "if")) (.f (resD (wkS l t b))) (.f (resD (wkS m t b))) (.f (.str (wkS m t b).1)) s8 s9 s10 s11 s12 h).s) (i := 11) rfl n11
            refine ⟨_, rfl, _, rfl, n11', by rw [sD_len]; omega, ?_⟩
            refine flt_ne (f := fun x => decide (x ∈ (wkS m t b).2.2)) (fun x hx C hC => ?_) ?_
            · refine ⟨_, rfl, in_ok x _, ?_⟩
              show Br (inD (.str x) (sD (wkS m t b).2.2)) _ _
              rw [in_is]
              cases e : decide (x ∈ (wkS m t b).2.2) with
              | true =>
                rw [e] at hC
                exact brT rfl ⟨rfl, hC⟩
              | false =>
                rw [e] at hC
                exact brF rfl ⟨rfl, hC⟩
            · refine ⟨rfl, ?_⟩
              refine k _ _ _ _ _ _ _ e1 (w.tail ol ?_) n11
              have := List.length_filter_le (fun x => decide (x ∈ (wkS m t b).2.2)) (wkS l t b).2.2
              show _ ≤ b.length + (1 + l.length + m.length)
              omega
          · rw [decide_eq_false q3]
            refine brT rfl ?_
            rw [if_neg q3] at e1
            exact hR "branches" e1
        · refine brT (by rw [strN q2]; rfl) ?_
          rw [if_neg q2] at e1
          exact hR _ e1
      · refine brT (by rw [strN q1]; rfl) ?_
        rw [if_neg q1] at e1
        exact hR _ e1
theorem ww_rep_turn {j : Nat} {l : List Sm} (w : Wf (n + 1) (.rep j l :: p) t b) (n11 : nO s11) (n12 : nO s12)
    (k : ∀ t' b' s4 s7 s8 s9, wk (.rep j l :: p) t b = wk p t' b' → Wf (n + 1) p t' b' → N (stk d t' b' (.f (St.rep j l).d) s4 s5 s6 s7 s8 s9 s10 s11 s12 h))
    (hR : ∀ x, wk (.rep j l :: p) t b = (x, t, b) → R (resD (x, t, b)) h) : w__law_walk_b1 (spn__law_walk (n + 1)) (TT R N C B) (stk d t b (.f (St.rep j l).d) s4 s5 s6 s7 s8 s9 s10 s11 s12 h) := by
  have wl := wf_rep w.head
  have e1 := wk_c3 j l p t b
  have ok := w.ok3
  have hz := w.sz
  rw [sz_cons] at hz
  have hz : b.length + (1 + l.length + sz p) ≤ 10000 := hz
  obtain ⟨ol, bl⟩ := wkS_ok l (b := b) ok wl
  refine ⟨_, rfl, rfl, ?_⟩
  refine brF (by decide +kernel) (brF rfl ?_)
  refine brF (by decide +kernel) (brT (by decide +kernel) ?_)
  refine ⟨_, rfl, .tup (l.map Sm.d), l.map .sm, t, b, rfl, .inr (by rw [body_d]), Wf.body ok wl (by omega), ?_⟩
  rw [wk_sm]
  refine ⟨rfl, ?_⟩
  by_cases q1 : (wkS l t b).1 = ""
  · rw [if_pos q1] at e1
    refine brF (by rw [strE q1]; rfl) ?_
    refine ⟨_, rfl, by have := ol.1; omega, fun ys hp hs => ?_⟩
    rw [sorted_is hp hs]
    refine ⟨_, rfl, by have := ok.1; omega, fun zs hp hs => ?_⟩
    rw [sorted_is hp hs]
    refine ⟨shD_sD (ok_srt ol).2, shD_sD (ok_srt ok).2, ?_⟩
    show Br (!eqD (lD (srt (wkS l t b).2.1)) (lD (srt t))) _ _
    rw [eqD_lD]
    by_cases q2 : srt (wkS l t b).2.1 = srt t
    · rw [decide_eq_true q2]
      refine brF rfl ?_
      rw [if_pos q2] at e1
      refine ⟨_, rfl, ?_⟩
      have go : ∀ b', (if 0 < j then (wkS l t b).2.2 else b) = b' → b'.length ≤ b.length + (1 + l.length) → ∀ s4 s7 s8 s9, N (stk d t b' (.f (St.rep j l).d) s4 s5 s6 s7 s8 s9 s10 s11 s12 h) := fun b' eb hb s4 s7 s8 s9 => k t b' s4 s7 s8 s9 (by rw [e1, eb]) (w.tail ok hb)
      by_cases q3 : 0 < j
      · refine brT ?_ (go _ (if_pos q3) (by omega) _ _ _ _)
        show decide (((j : Nat) : Int) > 0) = true
        exact decide_eq_true (by omega)
      · refine brF ?_ (go _ (if_neg q3) (by omega) _ _ _ _)
        show decide (((j : Nat) : Int) > 0) = false
        exact decide_eq_false (by omega)
    · rw [decide_eq_false q2]
      rw [if_neg q2] at e1
      refine brT rfl ⟨_, rfl, line_of (by have := wkS_len l t b; omega), ?_⟩
      rw [q1]
      exact brF (by decide +kernel) (hR "branches" e1)
  · rw [if_neg q1] at e1
    refine brT (by rw [strN q1]; rfl) (brT rfl ?_)
    refine ⟨_, rfl, line_of (by have := wkS_len l t b; omega), ?_⟩
    exact brT (len_pos q1) (hR _ e1)
theorem ww_iff_turn' {c : Cn} {l m : List Sm} (hn : n ≠ 0) (w : Wf n (.iff c l m :: p) t b) (n11 : nO s11) (n12 : nO s12)
    (k : ∀ t' b' s4 s5 s6 s7 s11, wk (.iff c l m :: p) t b = wk p t' b' → Wf n p t' b' → nO s11 → N (stk d t' b' (.f (St.iff c l m).d) s4 s5 s6 s7 s8 s9 s10 s11 s12 h))
    (hR : ∀ x, wk (.iff c l m :: p) t b = (x, t, b) → R (resD (x, t, b)) h) : w__law_walk_b1 (spn__law_walk n) (TT R N C B) (stk d t b (.f (St.iff c l m).d) s4 s5 s6 s7 s8 s9 s10 s11 s12 h) := by
  cases n with
  | zero => exact absurd rfl hn
  | succ n => exact ww_iff_turn w n11 n12 k hR
theorem ww_rep_turn' {j : Nat} {l : List Sm} (hn : n ≠ 0) (w : Wf n (.rep j l :: p) t b) (n11 : nO s11) (n12 : nO s12)
    (k : ∀ t' b' s4 s7 s8 s9, wk (.rep j l :: p) t b = wk p t' b' → Wf n p t' b' → N (stk d t' b' (.f (St.rep j l).d) s4 s5 s6 s7 s8 s9 s10 s11 s12 h))
    (hR : ∀ x, wk (.rep j l :: p) t b = (x, t, b) → R (resD (x, t, b)) h) : w__law_walk_b1 (spn__law_walk n) (TT R N C B) (stk d t b (.f (St.rep j l).d) s4 s5 s6 s7 s8 s9 s10 s11 s12 h) := by
  cases n with
  | zero => exact absurd rfl hn
  | succ n => exact ww_rep_turn w n11 n12 k hR
theorem ww_loop {T : Sg → Prop} (hT : ∀ t b s3 s4 s5 s6 s7 s8 s9 s10 s11 s12, R (resD (("" : Str), t, b)) h → T (stk d t b s3 s4 s5 s6 s7 s8 s9 s10 s11 s12 h)) : ∀ (p : List St) (t b : List Str) (s3 s4 s5 s6 s7 s8 s9 s10 s11 s12 : Sl), Wf n p t b → nO s11 → nO s12 → R (resD (wk p t b)) h →
    wForL (gVar 3) (w__law_walk_b1 (spn__law_walk n)) ⟨T, (Fi R).rt, (Fi R).bk, (Fi R).ct, (Fi R).xx⟩ (p.map St.d) (stk d t b s3 s4 s5 s6 s7 s8 s9 s10 s11 s12 h)
  | [], t, b, s3, s4, s5, s6, s7, s8, s9, s10, s11, s12, w, n11, n12, hR => hT t b _ _ _ _ _ _ _ _ _ _ hR
  | s :: p, t, b, s3, s4, s5, s6, s7, s8, s9, s10, s11, s12, w, n11, n12, hR => by
    rw [List.map_cons]
    refine forv ?_
    cases s with
    | sm s => exact ww_sm_turn w n11 n12 (fun t' b' s4 s10 s11 s12 e w' m1 m2 => ww_loop hT p t' b' _ _ _ _ _ _ _ _ _ _ w' m1 m2 (by rw [← e]; exact hR)) (fun x e => by rw [← e]; exact hR)
    | iff c l m => exact ww_iff_turn' (w.pos fun _ z => nomatch z) w n11 n12 (fun t' b' s4 s5 s6 s7 s11 e w' ns => ww_loop hT p t' b' _ _ _ _ _ _ _ _ _ _ w' ns n12 (by rw [← e]; exact hR)) (fun x e => by rw [← e]; exact hR)
    | rep j l => exact ww_rep_turn' (w.pos fun _ z => nomatch z) w n11 n12 (fun t' b' s4 s7 s8 s9 e w' => ww_loop hT p t' b' _ _ _ _ _ _ _ _ _ _ w' n11 n12 (by rw [← e]; exact hR)) (fun x e => by rw [← e]; exact hR)
end
theorem pk__law_walk : ∀ n : Nat, Pk 3 10 (spn__law_walk (n + 1)) (w__law_walk (spn__law_walk n)) := by
  intro n
  rintro ds h R _ ⟨d, p, t, b, rfl, hp, w, hR⟩
  have fin := ww_loop (R := R) (h := h) (d := d) (n := n) (T := w__law_walk_1 (spn__law_walk n) (Fi R)) (fun t b s3 s4 s5 s6 s7 s8 s9 s10 s11 s12 q => q) p t b .u .u .u .u .u .u .u .u .u .u w nO_u nO_u hR
  rcases hp with rfl | rfl
  · exact fin
  · exact fin
end K34

set_option Elab.async false
set_option linter.all false
set_option maxRecDepth 100000
set_option maxHeartbeats 400000
/-! P7_k34: drawn conditions -/
namespace K34
open PySem PySem.Spec PyProof.Rows L2 VL
theorem b3_ok : ∀ x ∈ B3, PyData.strOk x = true ∧ x.length ≤ 2 := by decide +kernel
theorem n4_ok : ∀ x ∈ N4, PyData.strOk x = true ∧ x.length ≤ 1 := by decide +kernel
theorem KL.but {h h' : Oh} {t o : Addr} {b : List Str} (k : KL h o b) (bt : But t h h') (n : t ≠ o) : KL h' o b := (bt o (Ne.symm n)).trans k
theorem app_len (a b : Str) : (a ++ b).length = a.length + b.length := by rw [TL.len_tl, TL.tl_append, List.length_append, ← TL.len_tl, ← TL.len_tl]
theorem drawK {h : Oh} {t : Addr} {m : Int} {R : D → Oh → Prop} {Y : XC} (hT : Tp h t) (h1 : 0 < m) (h2 : m < 2 ^ 60) (k : ∀ (v : Nat) h', (v : Int) < m → Tp h' t → But t h h' → R (.int v) h') : sp_next [.obj t, .int m] h R Y :=
  draw hT h1 h2 fun v h' v0 v1 hT' bt => by
    obtain ⟨v', rfl⟩ := Int.eq_ofNat_of_zero_le v0
    exact k v' h' v1 hT' bt
theorem sD_at {b : List Str} {v : Nat} (h : v < b.length) : atI (sD b) (v : Int) = some (.str b[v]) := by
  have hi : v < (sD b).length := by rw [sD_len]; exact h
  unfold atI ixN
  rw [if_pos (Int.natCast_nonneg v), if_pos (by omega)]
  show (sD b)[v]? = _
  unfold sD
  rw [List.getElem?_map, List.getElem?_eq_getElem h]
  rfl
def sn (v : Nat) : Str := Str.ofString (toString ((v : Nat) : Int))
theorem sn_len : ∀ v : Fin 4, (sn v.1).length ≤ 2 ∧ ((v.1 : Nat) : Int).natAbs.log2 < 1920 := by decide +kernel
def JW : List Str := ["and", "or", "xor"]
theorem jw_ok : ∀ w ∈ JW, (w == "bit") = false ∧ (w == "value") = false ∧ w.length ≤ 3 := by decide +kernel
theorem lits : ("not " : Str).length = 4 ∧ ("(" : Str).length = 1 ∧ (")" : Str).length = 1 ∧ (" " : Str).length = 1 ∧ (";" : Str).length = 1 := by decide +kernel
theorem pk__law_condition : ∀ n : Nat, Pk 3 8 (spn__law_condition (n + 1)) (w__law_condition (spn__law_condition n)) := by
  intro n
  rintro ds h R _ ⟨t, o, k, b, rfl, hk, hk2, hT, kl, nto, hb, hbl, hR⟩
  obtain ⟨l1, l2, l3, l4, _⟩ := lits
  refine drawK hT (by decide) (by decide) fun v h1 v1 hT1 bt1 => ?_
  have kl1 := kl.but bt1 nto
  have p0 : 10 ≤ 10 * 4 ^ k := by
    have := Nat.pow_le_pow_right (show 0 < 4 by decide) (Nat.zero_le k)
    rw [Nat.pow_zero] at this
    omega
  change w__law_condition_1 (spn__law_condition n) (Fi R) ⟨[.f (.obj t), .f (.obj o), .f (.int k), .f (.int v), .u, .u, .u, .u, .u, .u, .u], h1⟩
  have rest : w__law_condition_2 (spn__law_condition n) (Fi R) ⟨[.f (.obj t), .f (.obj o), .f (.int k), .f (.int v), .u, .u, .u, .u, .u, .u, .u], h1⟩ := by
    by_cases q : v < 4 ∨ k = 0
    · have fin : wSeq (wAsg (wCall sp__law_next (wCons (wVar 0) (wCons (wC (.int 2)) wNil))) (gVar 6)) (wRet (wTup (wCons (wCB bStr (wCons (wVar 6) wNil)) (wCons (wTup (wCons (wC (.str "value")) (wCons (wVar 6) wNil))) wNil)))) (Fi R) ⟨[.f (.obj t), .f (.obj o), .f (.int k), .f (.int v), .u, .u, .u, .u, .u, .u, .u], h1⟩ := by
        refine drawK hT1 (by decide) (by decide) fun u h2 u1 hT2 bt2 => ?_
        obtain ⟨s1, s2⟩ := sn_len ⟨u, by omega⟩
        refine ⟨s2, ?_⟩
        exact hR (sn u) (.val u) h2 (by dsimp only at s1; omega) rfl (by show 1 ≤ k + 1; omega) (Nat.zero_le _) (fun y hy => by cases hy) hT2 (bt1.trans bt2)
      rcases q with q | q
      · exact brT (decide_eq_true (by show (v : Int) < 4; omega)) (brT rfl fin)
      · subst q
        refine br (fun e => brT rfl fin) (fun e => ?_)
        exact brT rfl fin
    · have q1 : ¬ v < 4 := fun z => q (.inl z)
      have q2 : k ≠ 0 := fun z => q (.inr z)
      refine brF (decide_eq_false (by show ¬ (v : Int) < 4; omega)) ?_
      refine brF ?_ ?_
      · show ((k : Int) == 0) = false
        have : ¬ (k : Int) = 0 := by omega
        simpa using this
      · cases n with
        | zero => omega
        | succ n =>
          obtain ⟨k', rfl⟩ : ∃ k', k = k' + 1 := ⟨k - 1, by omega⟩
          have ek : (((k' + 1 : Nat)) : Int) - 1 = ((k' : Nat) : Int) := by omega
          have p4 : 10 * 4 ^ (k' + 1) = 40 * 4 ^ k' := by rw [Nat.pow_succ]; omega
          have p2 : 2 ^ (k' + 1) = 2 * 2 ^ k' := by rw [Nat.pow_succ]; omega
          have pp : 1 ≤ 4 ^ k' := Nat.one_le_pow _ _ (by decide)
          have pq : 1 ≤ 2 ^ k' := Nat.one_le_pow _ _ (by decide)
          have pm : 4 ^ k' ≤ 4 ^ 1 := Nat.pow_le_pow_right (by decide) (by omega)
          rw [p4] at hR
          rw [p2] at hR
          have kn : k' ≤ n := by omega
          refine ⟨t, o, k', b, by show [D.obj t, .obj o, .int (((k' + 1 : Nat) : Int) - 1)] = _; rw [ek], kn, by omega, hT1, kl1, nto, hb, hbl, fun x c h2 hx c1 c2 c3 c4 hT2 bt2 => ⟨rfl, ?_⟩⟩
          have kl2 := kl1.but bt2 nto
          have bt02 := bt1.trans bt2
          change w__law_condition_4 (spn__law_condition (n + 1)) (Fi R) ⟨[.f (.obj t), .f (.obj o), .f (.int ((k' + 1 : Nat) : Int)), .f (.int v), .u, .u, .u, .f (.str x), .f c.d, .u, .u], h2⟩
          by_cases v4 : v = 4
          · refine brT (by show ((v : Int) == 4) = true; rw [v4]; rfl) ?_
            refine ⟨line_of (by show ("not " : Str).length + x.length ≤ _; rw [l1]; omega), ?_⟩
            exact hR ("not " ++ x) (.nt c) h2 (by rw [app_len, l1]; omega) c1 (by show c.ht + 1 ≤ _; omega) (by show c.bs.length ≤ _; omega) c4 hT2 bt02
          · refine brF (by show ((v : Int) == 4) = false; have : ¬ (v : Int) = 4 := by omega
                           simpa using this) ?_
            change w__law_condition_5 (spn__law_condition (n + 1)) (Fi R) ⟨[.f (.obj t), .f (.obj o), .f (.int ((k' + 1 : Nat) : Int)), .f (.int v), .u, .u, .u, .f (.str x), .f c.d, .u, .u], h2⟩
            by_cases v5 : v = 5
            · refine brT (by show ((v : Int) == 5) = true; rw [v5]; rfl) ?_
              refine ⟨line_of (by show ("(" : Str).length + x.length ≤ _; rw [l2]; omega), line_of (by show (("(" : Str) ++ x).length + (")" : Str).length ≤ _; rw [app_len, l2, l3]; omega), ?_⟩
              exact hR (("(" : Str) ++ x ++ ")") c h2 (by rw [app_len, app_len, l2, l3]; omega) c1 (by omega) (by omega) c4 hT2 bt02
            · refine brF (by show ((v : Int) == 5) = false; have : ¬ (v : Int) = 5 := by omega
                             simpa using this) ?_
              change w__law_condition_6 (spn__law_condition (n + 1)) (Fi R) ⟨[.f (.obj t), .f (.obj o), .f (.int ((k' + 1 : Nat) : Int)), .f (.int v), .u, .u, .u, .f (.str x), .f c.d, .u, .u], h2⟩
              refine drawK hT2 (by decide) (by decide) fun u h3 u1 hT3 bt3 => ?_
              have hu : u < JW.length := by show u < 3; omega
              refine ⟨_, sD_at (b := JW) hu, ?_⟩
              obtain ⟨w1, w2, w3⟩ := jw_ok _ (List.getElem_mem hu)
              generalize JW[u] = w at *
              change w__law_condition_7 (spn__law_condition (n + 1)) (Fi R) ⟨[.f (.obj t), .f (.obj o), .f (.int ((k' + 1 : Nat) : Int)), .f (.int v), .f (.str w), .u, .u, .f (.str x), .f c.d, .u, .u], h3⟩
              refine ⟨t, o, k', b, by show [D.obj t, .obj o, .int (((k' + 1 : Nat) : Int) - 1)] = _; rw [ek], kn, by omega, hT3, kl2.but bt3 nto, nto, hb, hbl, fun y e h4 hy e1 e2 e3 e4 hT4 bt4 => ⟨rfl, ?_⟩⟩
              refine ⟨line_of (by show ("(" : Str).length + x.length ≤ _; rw [l2]; omega), line_of (by show (("(" : Str) ++ x).length + (" " : Str).length ≤ _; rw [app_len, l2, l4]; omega), line_of (by show (("(" : Str) ++ x ++ " ").length + w.length ≤ _; rw [app_len, app_len, l2, l4]; omega),
                line_of (by show (("(" : Str) ++ x ++ " " ++ w).length + (" " : Str).length ≤ _; rw [app_len, app_len, app_len, l2, l4]; omega), line_of (by show (("(" : Str) ++ x ++ " " ++ w ++ " ").length + y.length ≤ _; rw [app_len, app_len, app_len, app_len, l2, l4]; omega), line_of (by show (("(" : Str) ++ x ++ " " ++ w ++ " " ++ y).length + (")" : Str).length ≤ _; rw [app_len, app_len, app_len, app_len, app_len, l2, l3, l4]; omega), ?_⟩
              refine hR (("(" : Str) ++ x ++ " " ++ w ++ " " ++ y ++ ")") (.bin w c e) h4 (by rw [app_len, app_len, app_len, app_len, app_len, app_len, l2, l3, l4]; omega) ?_ (by show max c.ht e.ht + 1 ≤ _; omega) (by show (c.bs ++ e.bs).length ≤ _; rw [List.length_append]; omega) (fun z hz => ?_) hT4 ((bt02.trans bt3).trans bt4)
              · show (!(w == "bit") && !(w == "value") && c.okw && e.okw) = true
                rw [w1, w2, c1, e1]
                rfl
              · rcases List.mem_append.mp hz with hz | hz
                · exact c4 z hz
                · exact e4 z hz
  by_cases q : v < 3
  · refine brT (decide_eq_true (by show (v : Int) < 3; omega)) ?_
    refine ⟨o, _, rfl, kl1, ?_⟩
    cases b with
    | nil => exact brF rfl rest
    | cons x0 r0 =>
      refine brT rfl ?_
      refine ⟨o, _, rfl, kl1, ?_⟩
      have hlen : (sD (x0 :: r0)).length = r0.length + 1 := by rw [sD_len]; rfl
      have hbl' : r0.length + 1 ≤ 1000 := hbl
      refine drawK hT1 (by rw [hlen]; omega) (by rw [hlen]; omega) fun u h2 u1 hT2 bt2 => ?_
      have hu : u < (x0 :: r0).length := by rw [sD_len] at u1; omega
      refine ⟨_, _, kl1.but bt2 nto, sD_at hu, ?_⟩
      obtain ⟨o1, o2⟩ := b3_ok _ (hb _ (List.getElem_mem hu))
      exact hR _ (.bit (x0 :: r0)[u]) h2 (by omega) o1 (by show 1 ≤ k + 1; omega) (Nat.one_le_pow _ _ (by decide)) (fun y hy => by rw [List.mem_singleton.mp hy]; exact List.getElem_mem hu) hT2 (bt1.trans bt2)
  · exact brF (decide_eq_false (by show ¬ (v : Int) < 3; omega)) (brF rfl rest)
end K34

set_option Elab.async false
set_option linter.all false
set_option maxRecDepth 100000
set_option maxHeartbeats 400000
/-! P8_k34: drawn bodies -/
namespace K34
open PySem PySem.Spec PyProof.Rows L2 VL
theorem joinL_le (S : List Nat) : ∀ l : List (List Nat), (TL.joinL S l).length ≤ (l.map List.length).sum + l.length * S.length
  | [] => by show 0 ≤ _; omega
  | [p] => by
    show p.length ≤ p.length + 0 + 1 * S.length
    omega
  | p :: q :: r => by
    have ih := joinL_le S (q :: r)
    show (p ++ (S ++ TL.joinL S (q :: r))).length ≤ p.length + ((q :: r).map List.length).sum + ((q :: r).length + 1) * S.length
    rw [List.length_append, List.length_append, Nat.succ_mul]
    omega
theorem join_le (a : Str) (ys : List Str) : (Txt.join a ys).length ≤ (ys.map (·.length)).sum + ys.length * a.length := by
  rw [TL.join_eq, TL.len_tl, TL.tl_join, TL.len_tl]
  have := joinL_le (TL.tl a) (ys.map TL.tl)
  rw [List.map_map, List.length_map] at this
  have e : ys.map (List.length ∘ TL.tl) = ys.map (·.length) := List.map_congr_left fun x _ => (TL.len_tl x).symm
  rw [e] at this
  exact this
theorem sum_le {c : Nat} : ∀ {ys : List Str}, (∀ y ∈ ys, y.length ≤ c) → (ys.map (·.length)).sum ≤ c * ys.length
  | [], _ => Nat.zero_le _
  | y :: ys, h => by
    have h1 := h y List.mem_cons_self
    have h2 := sum_le (c := c) (ys := ys) fun z hz => h z (List.mem_cons_of_mem _ hz)
    rw [List.map_cons, List.sum_cons, List.length_cons, Nat.mul_succ]
    omega
def GW : List Str := ["h", "s", "x", "t", "z"]
theorem gw_len : ∀ w ∈ GW, w.length ≤ 2 := by decide +kernel
theorem sp_len : (" " : Str).length = 1 := by decide +kernel
/-- texts joined by blanks -/
theorem mjoinS {ys : List Str} {R : D → Prop} (h : (ys.map (·.length)).sum + ys.length ≤ 16777216) (hR : R (.str (Txt.join " " ys))) : mJoin " " (.lst (ys.map D.str)) R := ⟨ys, rfl, by rw [sp_len, Nat.mul_one]; exact h, hR⟩
section
variable {R : D → Oh → Prop} {t a o : Addr} {tl : List Str} {h0 : Oh}
theorem in_loop (nta : t ≠ a) (htl : tl ≠ []) (h3 : tl.length ≤ 3) (hn : ∀ x ∈ tl, x ∈ N4)
    (hR : ∀ (x : Str) (l : List Sm) h', x.length ≤ 100 → l.length ≤ 2 → (∀ s ∈ l, ∃ w y, s = .gate w [y] ∧ y ∈ tl) → Tp h' t → But t h0 h' → R (.tup [.str x, .tup (l.map Sm.d)]) h') :
    ∀ (ks : List D) (ts : List Str) (l : List Sm) (u3 u6 u7 : Sl) (h : Oh), l.length + ks.length ≤ 2 → ts.length = l.length → (∀ x ∈ ts, x.length ≤ 10) → (∀ s ∈ l, ∃ w y, s = .gate w [y] ∧ y ∈ tl) → Tp h t → But t h0 h → KL h a tl →
    wForL (gVar 3) w__law_inner_b1 { Fi R with nx := w__law_inner_2 (Fi R) } ks ⟨[.f (.obj t), .f (.obj a), .f (.obj o), u3, .o (.lst (sD ts)), .o (.lst (l.map Sm.d)), u6, u7], h⟩
  | [], ts, l, u3, u6, u7, h, hl, he, hts, hg, hT, bt, kl => by
    have hl : l.length + 0 ≤ 2 := hl
    have sl := sum_le hts
    have jl := join_le " " ts
    rw [sp_len, Nat.mul_one] at jl
    refine ⟨ts, rfl, by rw [sp_len, Nat.mul_one]; omega, ?_⟩
    exact hR _ l h (by omega) (by omega) hg hT bt
  | d :: ks, ts, l, u3, u6, u7, h, hl, he, hts, hg, hT, bt, kl => by
    have hl : l.length + (ks.length + 1) ≤ 2 := hl
    have hp : 0 < tl.length := List.length_pos_iff.mpr htl
    refine forv ?_
    refine ⟨a, _, rfl, kl, ?_⟩
    refine drawK hT (by rw [sD_len]; omega) (by rw [sD_len]; omega) fun u h1 u1 hT1 bt1 => ?_
    rw [sD_len] at u1
    have hu : u < tl.length := by omega
    have kl1 := kl.but bt1 nta
    refine ⟨_, _, kl1, sD_at hu, ?_⟩
    have hy := List.getElem_mem hu
    have ny := (n4_ok _ (hn _ hy)).2
    generalize tl[u] = y at *
    refine drawK hT1 (by decide) (by decide) fun v h2 v1 hT2 bt2 => ?_
    have hv : v < GW.length := by show v < 5; omega
    refine ⟨_, sD_at (b := GW) hv, ?_⟩
    have nw := gw_len _ (List.getElem_mem hv)
    generalize GW[v] = w at *
    obtain ⟨_, _, _, l4, l5⟩ := lits
    refine ⟨⟨_, rfl⟩, line_of (by show w.length + (" " : Str).length ≤ _; rw [l4]; omega), line_of (by show (w ++ " ").length + y.length ≤ _; rw [app_len, l4]; omega), line_of (by show (w ++ " " ++ y).length + (";" : Str).length ≤ _; rw [app_len, app_len, l4, l5]; omega), _, rfl, ?_, ?_⟩
    · rw [sD_len]
      have hz : (1000000 : Nat) < sizeLine := by decide
      omega
    refine ⟨⟨_, rfl⟩, by omega, _, rfl, ?_, ?_⟩
    · rw [List.length_map]
      have hz : (1000000 : Nat) < sizeLine := by decide
      omega
    have e1 : sD ts ++ [.str (w ++ " " ++ y ++ ";")] = sD (ts ++ [w ++ " " ++ y ++ ";"]) := sD_app _ _
    have e2 : l.map Sm.d ++ [.tup [.str "gate", .str (Txt.upper w), .tup [.str y]]] = (l ++ [Sm.gate (Txt.upper w) [y]]).map Sm.d := by rw [List.map_append]; rfl
    have z := in_loop nta htl h3 hn hR ks (ts ++ [w ++ " " ++ y ++ ";"]) (l ++ [Sm.gate (Txt.upper w) [y]]) (.f d) (.f (.str y)) (.f (.str w)) h2 (by rw [List.length_append]; show l.length + 1 + ks.length ≤ 2; omega)
      (by rw [List.length_append, List.length_append, he]; rfl) (fun x hx => by
        rcases List.mem_append.mp hx with hx | hx
        · exact hts x hx
        · rw [List.mem_singleton.mp hx, app_len, app_len, app_len, l4, l5]; omega)
      (fun s hs => by
        rcases List.mem_append.mp hs with hs | hs
        · exact hg s hs
        · exact ⟨_, y, List.mem_singleton.mp hs, hy⟩) hT2 ((bt.trans bt1).trans bt2) (kl1.but bt2 nta)
    rw [← e1, ← e2] at z
    exact z
end
theorem pk__law_inner : Pk 3 5 sp__law_inner w__law_inner := by
  intro ds h R _ q
  unfold sp__law_inner at q
  obtain ⟨t, a, o, tl, rfl, hT, kl, nta, htl, h3, hn, hR⟩ := q
  refine drawK hT (by decide) (by decide) fun v h1 v1 hT1 bt1 => ?_
  refine ⟨⟨by omega, by omega⟩, ?_⟩
  refine in_loop (tl := tl) (h0 := h) nta htl h3 hn hR _ [] [] .u .u .u h1 ?_ rfl (fun x hx => by cases hx) (fun s hs => by cases hs) hT1 bt1 (kl.but bt1 nta)
  show 0 + ((List.range (v : Int).toNat).map _).length ≤ 2
  rw [List.length_map, List.length_range, Int.toNat_natCast]
  omega
end K34

set_option Elab.async false
set_option linter.all false
set_option maxRecDepth 100000
set_option maxHeartbeats 400000
/-! P9_k34: what the drawn program comes to -/
namespace K34
open PySem PySem.Spec PyProof.Rows L2 VL
variable {p : List St} {t b : List Str}
theorem Dr.okt (d : Dr p t b) : ∀ x ∈ t, PyData.strOk x = true := fun x hx => (n4_ok _ (d.n4 x hx)).1
theorem Dr.bl (d : Dr p t b) : b.length ≤ 3 := List.Nodup.length_le_of_subset (l₂ := B3) d.nb fun x hx => d.b3 x hx
theorem hasAll_of {l t : List Str} (h : ∀ x ∈ l, x ∈ t) : hasAll l t = true := List.all_eq_true.mpr fun x hx => decide_eq_true (h x hx)
theorem Dr.more (d : Dr p t b) {s : St} {t' b' : List Str} (hs : lk [s] (srt t) b = ((("" : Str), srt t', b') : Res)) (nd : t'.Nodup) (n4 : ∀ x ∈ t', x ∈ N4) (t3 : t'.length ≤ 3) (b3 : ∀ x ∈ b', x ∈ B3) (nb : b'.Nodup) : Dr (p ++ [s]) t' b' :=
  ⟨by rw [lk_app p [s] d.run]; exact hs, nd, n4, t3, b3, nb⟩
theorem Dr.same (d : Dr p t b) {s : St} (hs : lk [s] (srt t) b = ((("" : Str), srt t, b) : Res)) : Dr (p ++ [s]) t b := d.more hs d.nd d.n4 d.t3 d.b3 d.nb
theorem Dr.new (d : Dr p t b) {a : Str} (h1 : a ∉ t) (h2 : a ∈ N4) (h3 : t.length < 3) : Dr (p ++ [.sm (.new a)]) (t ++ [a]) b := by
  refine d.more ?_ (List.nodup_append.mpr ⟨d.nd, by simp, fun x hx y hy => ?_⟩) (fun x hx => ?_) (by rw [List.length_append]; show t.length + 1 ≤ 3; omega) d.b3 d.nb
  · rw [lk_c1]
    have e : word (.new a) (srt t) b = ((if a ∈ srt t then ("there" : Str) else if 3 ≤ (srt t).length then ("many" : Str) else ("" : Str)) : Str) := rfl
    rw [if_neg (fun z => h1 (srt_mem.mp z)), if_neg (by rw [srt_len]; omega)] at e
    rw [if_pos e]
    show ((("" : Str), srt (srt t ++ [a]), b) : Res) = _
    rw [srt_eq (List.Perm.append_right [a] (srt_perm t))]
  · rw [List.mem_singleton.mp hy]
    exact fun e => h1 (e ▸ hx)
  · rcases List.mem_append.mp hx with hx | hx
    · exact d.n4 x hx
    · rw [List.mem_singleton.mp hx]; exact h2
theorem wd_qs {s : Sm} {l : List Str} (e : word s (srt t) b = ((if hasAll l (srt t) = true then (if same2 l = true then ("same" : Str) else ("" : Str)) else ("missing" : Str)) : Str)) (h : ∀ x ∈ l, x ∈ t) (h2 : same2 l = false) : word s (srt t) b = "" := by
  rw [if_pos (hasAll_of fun x hx => srt_mem.mpr (h x hx)), h2] at e
  exact e
theorem Dr.gate (d : Dr p t b) {w : Str} {l : List Str} (h : ∀ x ∈ l, x ∈ t) (h2 : same2 l = false) : Dr (p ++ [.sm (.gate w l)]) t b := by
  refine d.same ?_
  rw [lk_c1, if_pos (wd_qs (s := .gate w l) (l := l) rfl h h2)]
  rfl
theorem Dr.meas (d : Dr p t b) {y c : Str} (h : y ∈ t) (hc : c ∈ B3) : Dr (p ++ [.sm (.meas y c)]) t (if c ∈ b then b else b ++ [c]) := by
  refine d.more ?_ d.nd d.n4 d.t3 (fun x hx => ?_) ?_
  · rw [lk_c1, if_pos (wd_qs (s := .meas y c) (l := [y]) rfl (fun x hx => by rw [List.mem_singleton.mp hx]; exact h) rfl)]
    rfl
  · split at hx
    · exact d.b3 x hx
    · rcases List.mem_append.mp hx with hx | hx
      · exact d.b3 x hx
      · rw [List.mem_singleton.mp hx]; exact hc
  · split
    · exact d.nb
    · rename_i q
      refine List.nodup_append.mpr ⟨d.nb, by simp, fun x hx y hy => ?_⟩
      rw [List.mem_singleton.mp hy]
      exact fun e => q (e ▸ hx)
theorem rem_ix {y : Str} : ∀ {t : List Str}, t.Nodup → y ∈ t → ∃ j, t[j]? = some y ∧ (∀ m, m < j → t[m]? ≠ some y) ∧ t.eraseIdx j = t.filter fun x => !(x == y)
  | [], _, h => by cases h
  | x :: t, nd, h => by
    obtain ⟨n1, n2⟩ := List.nodup_cons.mp nd
    by_cases e : x = y
    · subst e
      refine ⟨0, rfl, fun m hm => absurd hm (Nat.not_lt_zero m), ?_⟩
      rw [List.filter_cons, if_neg (by simp)]
      show t = _
      exact (List.filter_eq_self.mpr fun z hz => by
        have : ¬ z = x := fun q => n1 (q ▸ hz)
        simpa using this).symm
    · obtain ⟨j, j1, j2, j3⟩ := rem_ix n2 ((List.mem_cons.mp h).resolve_left (Ne.symm e))
      refine ⟨j + 1, j1, fun m hm => ?_, ?_⟩
      · cases m with
        | zero =>
          intro z
          exact e (Option.some.inj z)
        | succ m => exact j2 m (by omega)
      · rw [List.filter_cons, if_pos (by simpa using e)]
        show x :: t.eraseIdx j = _
        rw [j3]
theorem Dr.free (d : Dr p t b) {y : Str} (h : y ∈ t) : Dr (p ++ [.sm (.free y)]) (t.filter fun x => !(x == y)) b := by
  refine d.more ?_ (d.nd.filter _) (fun x hx => d.n4 x (List.mem_filter.mp hx).1) (Nat.le_trans (List.length_filter_le _ _) d.t3) d.b3 d.nb
  rw [lk_c1, if_pos (wd_qs (s := .free y) (l := [y]) rfl (fun x hx => by rw [List.mem_singleton.mp hx]; exact h) rfl)]
  show ((("" : Str), (srt t).filter (fun x => !(x == y)), b) : Res) = _
  rw [srt_uni ((srt_perm t).filter _) ((srt_sorted t).filter _)]
theorem Dr.give (d : Dr p t b) {c : Cn} (h : ∀ x ∈ c.bs, x ∈ b) : Dr (p ++ [.sm (.give c)]) t b := by
  refine d.same ?_
  have e : word (.give c) (srt t) b = ((if hasAll c.bs b = true then ("" : Str) else ("bit" : Str)) : Str) := rfl
  rw [if_pos (hasAll_of h)] at e
  rw [lk_c1, if_pos e]
  rfl
/-- a body of gates -/
def GB (l : List Sm) (t : List Str) : Prop := ∀ s ∈ l, ∃ w y, s = Sm.gate w [y] ∧ y ∈ t
theorem lkS_gates : ∀ {l : List Sm}, GB l t → lkS l (srt t) b = ((("" : Str), srt t, b) : Res)
  | [], _ => rfl
  | s :: l, h => by
    obtain ⟨w, y, rfl, hy⟩ := h s List.mem_cons_self
    unfold lkS
    rw [if_pos (wd_qs (s := .gate w [y]) (l := [y]) rfl (fun x hx => by rw [List.mem_singleton.mp hx]; exact hy) rfl)]
    exact lkS_gates fun s hs => h s (List.mem_cons_of_mem _ hs)
theorem Dr.iff (d : Dr p t b) {c : Cn} {l m : List Sm} (h : ∀ x ∈ c.bs, x ∈ b) (hl : GB l t) (hm : GB m t) : Dr (p ++ [.iff c l m]) t b := by
  refine d.same ?_
  rw [lk_c2, if_pos (hasAll_of h), lkS_gates hl, lkS_gates hm, if_pos rfl, if_pos rfl, if_pos rfl]
  show ((("" : Str), srt t, b.filter fun x => decide (x ∈ b)) : Res) = _
  rw [List.filter_eq_self.mpr fun x hx => decide_eq_true hx]
theorem Dr.rep (d : Dr p t b) {k : Nat} {l : List Sm} (hl : GB l t) : Dr (p ++ [.rep k l]) t b := by
  refine d.same ?_
  rw [lk_c3, lkS_gates hl, if_pos rfl, if_pos rfl]
  show ((("" : Str), srt t, if 0 < k then b else b) : Res) = _
  split <;> rfl
theorem Dr.nil : Dr [] [] [] := ⟨by rw [show srt [] = [] from by decide +kernel]; rfl, List.nodup_nil, (fun x hx => by cases hx), by decide, (fun x hx => by cases hx), List.nodup_nil⟩
theorem flt_two (f : Str → Bool) : ∀ l : List Str, (l.filter f).length + (l.filter fun x => !f x).length = l.length
  | [] => rfl
  | x :: l => by
    have ih := flt_two f l
    rw [List.filter_cons, List.filter_cons]
    cases q : f x with
    | true =>
      rw [if_pos rfl, if_neg (by decide), List.length_cons, List.length_cons]
      omega
    | false =>
      rw [if_neg (by decide), if_pos (by decide), List.length_cons, List.length_cons]
      omega
theorem n4_two (nd : t.Nodup) (h : t.length < 3) : 2 ≤ (N4.filter fun x => !decide (x ∈ t)).length := by
  have e := flt_two (fun x => decide (x ∈ t)) N4
  have h4 : N4.length = 4 := rfl
  have nd4 : (N4.filter fun x => decide (x ∈ t)).Nodup := List.Pairwise.filter _ (show N4.Nodup from by decide +kernel)
  have := List.Nodup.length_le_of_subset (l₂ := t) nd4 fun x hx => by simpa using (List.mem_filter.mp hx).2
  omega
theorem others {y : Str} (nd : t.Nodup) (h : y ∈ t) : (t.filter fun x => !(x == y)).length = t.length - 1 := by
  obtain ⟨j, j1, _, j3⟩ := rem_ix nd h
  rw [← j3, List.length_eraseIdx_of_lt (List.getElem?_eq_some_iff.mp j1).1]
end K34

set_option Elab.async false
set_option linter.all false
set_option maxRecDepth 100000
set_option maxHeartbeats 400000
/-! Pa_k34: drawn statements -/
namespace K34
open PySem PySem.Spec PyProof.Rows L2 VL
theorem tp_put {h : Oh} {t a : Addr} {ob : Ob} (T : Tp h t) (n : t ≠ a) : Tp (h.put a ob) t := by
  obtain ⟨ns, i, r, s, q, q2⟩ := T
  exact ⟨ns, i, r, s, (Oh.put_ne n).trans q, q2⟩
theorem KL.put {h : Oh} {a o : Addr} {ob : Ob} {l : List Str} (k : KL h o l) (n : o ≠ a) : KL (h.put a ob) o l := (Oh.put_ne n).trans k
def HW : List Str := ["h", "s", "si", "x", "z", "y", "t", "ti", "h", "t"]
theorem hw_len : ∀ w ∈ HW, w.length ≤ 2 := by decide +kernel
def CW : List Str := ["cx", "cz"]
theorem cw_len : ∀ w ∈ CW, w.length ≤ 2 := by decide +kernel
theorem litS : ("new " : Str).length = 4 ∧ ("measure " : Str).length = 8 ∧ (" -> " : Str).length = 4 ∧ ("free " : Str).length = 5 ∧ (" " : Str).length = 1 ∧ (";" : Str).length = 1 := by decide +kernel
/-- [x for x in l if f x], l a known list -/
theorem flt_o {g : WG} {tt : WT} {te : WE} {vs : List Nat} {s0 : List Sl} {R : List D → Oh → Prop} {h : Oh} {a : Addr} {all : List D} {f : Str → Bool} (ha : h a = some (.ml all)) : ∀ {l acc : List Str},
    (∀ x ∈ l, ∀ C : Option D → Oh → Prop, C (if f x = true then some (D.str x) else none) h → g (.str x) ⟨wipeS s0 vs, h⟩ fun S1 => tt S1 fun b S2 => Br b (te S2 fun d S3 => wipeS S3.s vs = wipeS s0 vs ∧ C (some d) S3.h) (wipeS S2.s vs = wipeS s0 vs ∧ C none S2.h)) →
    R (sD (acc ++ l.filter f)) h → wLcOL a all g tt te vs s0 R (sD l) h (sD acc)
  | [], acc, _, hR => by
    rw [List.filter_nil, List.append_nil] at hR
    exact ⟨ha, hR⟩
  | x :: l, acc, hs, hR => by
    refine ⟨ha, ?_⟩
    refine hs x List.mem_cons_self (fun o h' => wLcOL a all g tt te vs s0 R (sD l) h' (match o with | some d => sD acc ++ [d] | none => sD acc)) ?_
    rw [List.filter_cons] at hR
    cases q : f x with
    | true =>
      rw [q, if_pos rfl] at hR
      rw [if_pos rfl]
      show wLcOL a all g tt te vs s0 R (sD l) h (sD acc ++ [D.str x])
      rw [sD_app]
      refine flt_o (acc := acc ++ [x]) ha (fun y hy => hs y (List.mem_cons_of_mem _ hy)) ?_
      rw [List.append_assoc]
      exact hR
    | false =>
      rw [q, if_neg (by decide)] at hR
      rw [if_neg (by decide)]
      exact flt_o ha (fun y hy => hs y (List.mem_cons_of_mem _ hy)) hR
theorem lt_nat {v m : Nat} (h : v < m) : ((v : Nat) : Int) < ((m : Nat) : Int) := by omega
section
variable {R : D → Oh → Prop} {t a o : Addr} {p : List St} {tl bl : List Str} {h0 : Oh}
def stS (t a o : Addr) (s3 s4 s5 s6 s7 s8 : Sl) (h : Oh) : Sg := ⟨[.f (.obj t), .f (.obj a), .f (.obj o), s3, s4, s5, s6, s7, s8], h⟩
theorem simple_new (dr : Dr p tl bl) (nta : t ≠ a) (nto : t ≠ o) (nao : a ≠ o)
    (hR : ∀ (x : Str) (s : Sm) tl' bl' h', x.length ≤ 100 → s.wf = true → Dr (p ++ [.sm s]) tl' bl' → Tp h' t → KL h' a tl' → KL h' o bl' → R (.tup [.str x, s.d]) h')
    {h : Oh} {T : We} (hrt : T.rt = (Fi R).rt) {s3 : Sl} (hT : Tp h t) (kl : KL h a tl) (ko : KL h o bl) (h3 : tl.length < 3) :
    wSeq (wAsg (wIx (wLc (wItT (wTup (wCons (wC (.str "a")) (wCons (wC (.str "b")) (wCons (wC (.str "c")) (wCons (wC (.str "d")) wNil)))))) (gVar 8) (wBb (wOpM opNotInD (wVar 8) (wVar 1))) (wVar 8) [8]) (wCall sp__law_next (wCons (wVar 0) (wCons (wC (.int 2)) wNil)))) (gVar 4))
      (wSeq (wAppM (wVar 1) (wVar 4)) (wRet (wTup (wCons (wOp opAdd (wOp opAdd (wC (.str "new ")) (wVar 4)) (wC (.str ";"))) (wCons (wTup (wCons (wC (.str "new")) (wCons (wVar 4) wNil))) wNil))))) T (stS t a o s3 .u .u .u .u .u h) := by
  refine ⟨rfl, by decide, ?_⟩
  refine flt_ne (l := N4) (f := fun x => !decide (x ∈ tl)) (fun x hx C hC => ?_) ?_
  · refine ⟨.str x, .lst (sD tl), .of, .ob kl, in_ok x tl, rfl, ?_⟩
    show Br (!inD (.str x) (sD tl)) _ _
    rw [in_is]
    cases e : decide (x ∈ tl) with
    | true =>
      rw [e] at hC
      exact brF rfl ⟨rfl, hC⟩
    | false =>
      rw [e] at hC
      exact brT rfl ⟨rfl, hC⟩
  have two := n4_two dr.nd h3
  refine drawK hT (by decide) (by decide) fun v h1 v1 hT1 bt1 => ?_
  have hv : v < (N4.filter fun x => !decide (x ∈ tl)).length := by omega
  refine ⟨_, sD_at hv, ?_⟩
  have hm := List.mem_filter.mp (List.getElem_mem hv)
  generalize (N4.filter fun x => !decide (x ∈ tl))[v] = y at *
  obtain ⟨y4, yn⟩ := hm
  have yn : y ∉ tl := by simpa using yn
  obtain ⟨yo, yl⟩ := n4_ok y y4
  have kl1 := kl.but bt1 nta
  have ko1 := ko.but bt1 nto
  obtain ⟨l1, l2, l3, l4, l5, l6⟩ := litS
  refine ⟨a, rfl, ⟨_, kl1⟩, _, kl1, by rw [sD_len]; omega, ?_⟩
  refine ⟨line_of (by show ("new " : Str).length + y.length ≤ _; rw [l1]; omega), line_of (by show (("new " : Str) ++ y).length + (";" : Str).length ≤ _; rw [app_len, l1, l6]; omega), ?_⟩
  show T.rt _ _
  rw [hrt]
  refine hR (("new " : Str) ++ y ++ ";") (.new y) (tl ++ [y]) bl _ (by rw [app_len, app_len, l1, l6]; omega) yo (dr.new yn y4 h3) (tp_put hT1 nta) ?_ (KL.put ko1 (Ne.symm nao))
  show Oh.put _ a _ a = _
  rw [Oh.put_same, sD_app]
theorem pk__law_simple : Pk 3 6 sp__law_simple w__law_simple := by
  intro ds h R _ q
  unfold sp__law_simple at q
  obtain ⟨t, a, o, p, tl, bl, rfl, hT, kl, ko, nta, nto, nao, dr, hR⟩ := q
  obtain ⟨l1, l2, l3, l4, l5, l6⟩ := litS
  refine drawK hT (by decide) (by decide) fun v h1 v1 hT1 bt1 => ?_
  have kl1 := kl.but bt1 nta
  have ko1 := ko.but bt1 nto
  have okt : tl.all PyData.strOk = true := List.all_eq_true.mpr dr.okt
  change w__law_simple_1 (Fi R) (stS t a o (.f (.int v)) .u .u .u .u .u h1)
  refine ⟨.lst (sD tl), .lst [], .ob kl1, .of, shD_sD okt, rfl, rfl, ?_⟩
  show Br (eqD (lD tl) (lD [])) _ _
  rw [eqD_lD]
  by_cases qe : tl = []
  · rw [decide_eq_true qe]
    refine brT rfl (brT rfl ?_)
    exact simple_new (T := { Fi R with nx := w__law_simple_2 (Fi R) }) dr nta nto nao hR rfl hT1 kl1 ko1 (by rw [qe]; decide)
  · rw [decide_eq_false qe]
    refine brF rfl ?_
    have next : w__law_simple_2 (Fi R) (stS t a o (.f (.int v)) .u .u .u .u .u h1) := by
      have hp : 0 < tl.length := List.length_pos_iff.mpr qe
      have t3 := dr.t3
      refine ⟨a, _, rfl, kl1, ?_⟩
      refine drawK hT1 (by rw [sD_len]; omega) (by rw [sD_len]; omega) fun u h2 u1 hT2 bt2 => ?_
      rw [sD_len] at u1
      have hu : u < tl.length := by omega
      have kl2 := kl1.but bt2 nta
      have ko2 := ko1.but bt2 nto
      refine ⟨_, _, kl2, sD_at hu, ?_⟩
      have hy := List.getElem_mem hu
      generalize tl[u] = y at *
      obtain ⟨yo, yl⟩ := n4_ok y (dr.n4 y hy)
      change w__law_simple_3 (Fi R) (stS t a o (.f (.int v)) (.f (.str y)) .u .u .u .u h2)
      have gw : ∀ (w : Str) (ns : List Str) (h' : Oh) (x : Str), x.length ≤ 100 → (∀ z ∈ ns, z ∈ tl) → ns.length ≤ 10 → same2 ns = false → Tp h' t → KL h' a tl → KL h' o bl → R (.tup [.str x, (Sm.gate w ns).d]) h' := fun w ns h' x hx h1 h2 h3 hT hk ho => by
        refine hR x (.gate w ns) tl bl h' hx ?_ (dr.gate h1 h3) hT hk ho
        show (ns.all PyData.strOk && Nat.ble ns.length 10) = true
        rw [Bool.and_eq_true, Nat.ble_eq]
        exact ⟨List.all_eq_true.mpr fun z hz => dr.okt z (h1 z hz), h2⟩
      by_cases q7 : v < 7
      · refine brT (decide_eq_true (by show (v : Int) < 7; omega)) ?_
        refine drawK hT2 (by decide) (by decide) fun m h3 m1 hT3 bt3 => ?_
        have hm : m < HW.length := by show m < 10; omega
        refine ⟨_, sD_at (b := HW) hm, ?_⟩
        have nw := hw_len _ (List.getElem_mem hm)
        generalize HW[m] = w at *
        refine ⟨line_of (by show w.length + (" " : Str).length ≤ _; rw [l5]; omega), line_of (by show (w ++ " ").length + y.length ≤ _; rw [app_len, l5]; omega), line_of (by show (w ++ " " ++ y).length + (";" : Str).length ≤ _; rw [app_len, app_len, l5, l6]; omega), by omega, ?_⟩
        exact gw (Txt.upper w) [y] h3 (w ++ " " ++ y ++ ";") (by rw [app_len, app_len, app_len, l5, l6]; omega) (fun z hz => by rw [List.mem_singleton.mp hz]; exact hy) (by show 1 ≤ 10; decide) rfl hT3 (kl2.but bt3 nta) (ko2.but bt3 nto)
      · refine brF (decide_eq_false (by show ¬ (v : Int) < 7; omega)) ?_
        change w__law_simple_4 (Fi R) (stS t a o (.f (.int v)) (.f (.str y)) .u .u .u .u h2)
        have five : w__law_simple_5 (Fi R) (stS t a o (.f (.int v)) (.f (.str y)) .u .u .u .u h2) := by
          by_cases q11 : v < 11
          · refine brT (decide_eq_true (by show (v : Int) < 11; omega)) ?_
            refine drawK hT2 (by decide) (by decide) fun m h3 m1 hT3 bt3 => ?_
            have hm : m < B3.length := by show m < 3; omega
            refine ⟨_, sD_at (b := B3) hm, ?_⟩
            have hc := List.getElem_mem hm
            generalize B3[m] = c at *
            obtain ⟨co, cl⟩ := b3_ok c hc
            have kl3 := kl2.but bt3 nta
            have ko3 := ko2.but bt3 nto
            have dm := dr.meas hy hc
            have txt : ("measure " : Str).length + y.length ≤ 1000000 ∧ (("measure " : Str) ++ y).length + (" -> " : Str).length ≤ 1000000 ∧ (("measure " : Str) ++ y ++ " -> ").length + c.length ≤ 1000000 ∧ (("measure " : Str) ++ y ++ " -> " ++ c).length + (";" : Str).length ≤ 100 := by
              simp only [app_len, l2, l3, l6]
              omega
            refine ⟨.str c, .lst (sD bl), .of, .ob ko3, in_ok c bl, rfl, ?_⟩
            show Br (!inD (.str c) (sD bl)) _ _
            rw [in_is]
            have ws : (Sm.meas y c).wf = true := by
              show (PyData.strOk y && PyData.strOk c) = true
              rw [yo, co]
              rfl
            by_cases qc : c ∈ bl
            · rw [decide_eq_true qc]
              refine brF rfl ?_
              rw [if_pos qc] at dm
              refine ⟨line_of txt.1, line_of txt.2.1, line_of txt.2.2.1, line_of (Nat.le_trans txt.2.2.2 (by decide)), ?_⟩
              exact hR (("measure " : Str) ++ y ++ " -> " ++ c ++ ";") (.meas y c) tl bl h3 (by rw [app_len]; exact txt.2.2.2) ws dm hT3 kl3 ko3
            · rw [decide_eq_false qc]
              refine brT rfl ?_
              rw [if_neg qc] at dm
              refine ⟨o, rfl, ⟨_, ko3⟩, _, ko3, by have := dr.bl; rw [sD_len]; omega, ?_⟩
              refine ⟨line_of txt.1, line_of txt.2.1, line_of txt.2.2.1, line_of (Nat.le_trans txt.2.2.2 (by decide)), ?_⟩
              refine hR (("measure " : Str) ++ y ++ " -> " ++ c ++ ";") (.meas y c) tl (bl ++ [c]) _ (by rw [app_len]; exact txt.2.2.2) ws dm (tp_put hT3 nto) (KL.put kl3 nao) ?_
              show Oh.put _ o _ o = _
              rw [Oh.put_same, sD_app]
          · refine brF (decide_eq_false (by show ¬ (v : Int) < 11; omega)) ?_
            obtain ⟨j, j1, j2, j3⟩ := rem_ix dr.nd hy
            refine ⟨a, rfl, ⟨_, kl2⟩, tl, y, j, rfl, kl2, j1, j2, ?_⟩
            refine ⟨line_of (by show ("free " : Str).length + y.length ≤ _; rw [l4]; omega), line_of (by show (("free " : Str) ++ y).length + (";" : Str).length ≤ _; rw [app_len, l4, l6]; omega), ?_⟩
            refine hR (("free " : Str) ++ y ++ ";") (.free y) (tl.filter fun x => !(x == y)) bl _ (by rw [app_len, app_len, l4, l6]; omega) yo (dr.free hy) (tp_put hT2 nta) ?_ (KL.put ko2 (Ne.symm nao))
            show Oh.put _ a _ a = _
            rw [Oh.put_same, j3]
            rfl
        by_cases q9 : v < 9
        · refine brT (decide_eq_true (by show (v : Int) < 9; omega)) ?_
          refine ⟨a, _, rfl, kl2, ?_⟩
          by_cases q1 : 1 < tl.length
          · refine brT ?_ ?_
            · show decide ((((sD tl).length : Nat) : Int) > 1) = true
              rw [sD_len]
              exact decide_eq_true (by omega)
            refine ⟨a, _, rfl, kl2, rfl, by rw [sD_len]; omega, ?_⟩
            refine flt_o (l := tl) (acc := []) (f := fun x => !(x == y)) kl2 (fun x hx C hC => ?_) ?_
            · show Br (!(x == y)) _ _
              cases e : (x == y) with
              | true =>
                rw [e] at hC
                exact brF rfl ⟨rfl, hC⟩
              | false =>
                rw [e] at hC
                exact brT rfl ⟨rfl, hC⟩
            rw [List.nil_append]
            have ol := others dr.nd hy
            refine ⟨a, _, rfl, kl2, ?_⟩
            have em : ((((sD tl).length : Nat) : Int) - 1) = (((tl.length - 1 : Nat)) : Int) := by rw [sD_len]; omega
            refine drawK hT2 (by rw [em]; omega) (by rw [em]; omega) fun m h3 m1 hT3 bt3 => ?_
            rw [em] at m1
            have hm : m < (tl.filter fun x => !(x == y)).length := by omega
            refine ⟨_, sD_at hm, ?_⟩
            have hz := List.mem_filter.mp (List.getElem_mem hm)
            generalize (tl.filter fun x => !(x == y))[m] = z at *
            obtain ⟨zt, zn⟩ := hz
            have zn : ¬ z = y := by simpa using zn
            have zl := (n4_ok z (dr.n4 z zt)).2
            refine drawK hT3 (by decide) (by decide) fun w h4 w1 hT4 bt4 => ?_
            have hw : w < CW.length := by show w < 2; omega
            refine ⟨_, sD_at (b := CW) hw, ?_⟩
            have nw := cw_len _ (List.getElem_mem hw)
            generalize CW[w] = g at *
            refine ⟨line_of (by show g.length + (" " : Str).length ≤ _; rw [l5]; omega), line_of (by show (g ++ " ").length + y.length ≤ _; rw [app_len, l5]; omega), line_of (by show (g ++ " " ++ y).length + (" " : Str).length ≤ _; rw [app_len, app_len, l5]; omega), line_of (by show (g ++ " " ++ y ++ " ").length + z.length ≤ _; rw [app_len, app_len, app_len, l5]; omega), line_of (by show (g ++ " " ++ y ++ " " ++ z).length + (";" : Str).length ≤ _; rw [app_len, app_len, app_len, app_len, l5, l6]; omega), by omega, ?_⟩
            refine gw (Txt.upper g) [y, z] h4 (g ++ " " ++ y ++ " " ++ z ++ ";") (by rw [app_len, app_len, app_len, app_len, app_len, l5, l6]; omega) (fun x hx => ?_) (by show 2 ≤ 10; decide) ?_ hT4 ((kl2.but bt3 nta).but bt4 nta) ((ko2.but bt3 nto).but bt4 nto)
            · rcases List.mem_cons.mp hx with rfl | hx
              · exact hy
              · rw [List.mem_singleton.mp hx]; exact zt
            · unfold same2
              have : ¬ y = z := fun e => zn e.symm
              simp [this]
          · refine brF ?_ five
            show decide ((((sD tl).length : Nat) : Int) > 1) = false
            rw [sD_len]
            exact decide_eq_false (by omega)
        · exact brF (decide_eq_false (by show ¬ (v : Int) < 9; omega)) (brF rfl five)
    by_cases q0 : v = 0
    · refine brT (by show ((v : Int) == 0) = true; rw [q0]; rfl) ?_
      refine ⟨a, _, rfl, kl1, ?_⟩
      by_cases q3 : tl.length < 3
      · refine brT ?_ ?_
        · show decide ((((sD tl).length : Nat) : Int) < 3) = true
          rw [sD_len]
          exact decide_eq_true (by omega)
        exact simple_new (T := { Fi R with nx := w__law_simple_2 (Fi R) }) dr nta nto nao hR rfl hT1 kl1 ko1 q3
      · refine brF ?_ next
        show decide ((((sD tl).length : Nat) : Int) < 3) = false
        rw [sD_len]
        exact decide_eq_false (by omega)
    · refine brF ?_ (brF rfl next)
      show ((v : Int) == 0) = false
      have : ¬ (v : Int) = 0 := by omega
      simpa using this
end
end K34

set_option Elab.async false
set_option linter.all false
set_option maxRecDepth 100000
set_option maxHeartbeats 400000
/-! Pb_k34: drawn programs -/
namespace K34
open PySem PySem.Spec PyProof.Rows L2 VL
section
variable {R : D → Oh → Prop} {Y : XC} {h : Oh} {t a o : Addr} {p : List St} {tl bl : List Str}
theorem simple_in (hT : Tp h t) (kl : KL h a tl) (ko : KL h o bl) (nta : t ≠ a) (nto : t ≠ o) (nao : a ≠ o) (dr : Dr p tl bl)
    (k : ∀ (x : Str) (s : Sm) tl' bl' h', x.length ≤ 100 → s.wf = true → Dr (p ++ [.sm s]) tl' bl' → Tp h' t → KL h' a tl' → KL h' o bl' → R (.tup [.str x, s.d]) h') : sp__law_simple [.obj t, .obj a, .obj o] h R Y := by
  unfold sp__law_simple
  exact ⟨t, a, o, p, tl, bl, rfl, hT, kl, ko, nta, nto, nao, dr, k⟩
theorem inner_in (hT : Tp h t) (kl : KL h a tl) (nta : t ≠ a) (ne : tl ≠ []) (h3 : tl.length ≤ 3) (n4 : ∀ x ∈ tl, x ∈ N4)
    (k : ∀ (x : Str) (l : List Sm) h', x.length ≤ 100 → l.length ≤ 2 → GB l tl → Tp h' t → But t h h' → R (.tup [.str x, .tup (l.map Sm.d)]) h') : sp__law_inner [.obj t, .obj a, .obj o] h R Y := by
  unfold sp__law_inner
  exact ⟨t, a, o, tl, rfl, hT, kl, nta, ne, h3, n4, k⟩
end
theorem gb_wf {l : List Sm} {tl : List Str} (h : GB l tl) (n4 : ∀ x ∈ tl, x ∈ N4) : l.all Sm.wf = true := List.all_eq_true.mpr fun s hs => by
  obtain ⟨w, y, rfl, hy⟩ := h s hs
  show (([y].all PyData.strOk) && Nat.ble 1 10) = true
  rw [List.all_cons, (n4_ok y (n4 y hy)).1]
  rfl
theorem litP : ("give " : Str).length = 5 ∧ ("if " : Str).length = 3 ∧ (" { " : Str).length = 3 ∧ (" } else { " : Str).length = 10 ∧ (" }" : Str).length = 2 ∧ ("repeat " : Str).length = 7 ∧ (" {" : Str).length = 2 ∧ ("}" : Str).length = 1 ∧ (";" : Str).length = 1 := by decide +kernel
def stP (t a o : Addr) (m : D) (s7 s8 s9 s10 s11 s12 s13 s14 : Sl) (ts : List Str) (p : List St) (h : Oh) : Sg := ⟨[.f (.obj t), .f m, .f (.obj a), .f (.obj o), .f (.int 1), .o (.lst (sD ts)), .o (.lst (p.map St.d)), s7, s8, s9, s10, s11, s12, s13, s14], h⟩
structure Inv2 (t a o : Addr) (h : Oh) (ts : List Str) (p : List St) (tl bl : List Str) : Prop where
  T : Tp h t
  kl : KL h a tl
  ko : KL h o bl
  dr : Dr p tl bl
  wf : p.all St.wf = true
  tl : ts.length = p.length
  tx : ∀ x ∈ ts, x.length ≤ 1000
section
variable {R : D → Oh → Prop} {t a o : Addr} {m : D}
theorem app2 {T : We} {ts : List Str} {p : List St} {h : Oh} {s7 s8 s9 s10 s11 s12 s13 s14 : Sl} {x : Str} {s : St} {we wf : WE} (hl : p.length < 12) (ht : ts.length = p.length)
    (h1 : ∀ Q : D → Sg → Prop, Q (.str x) (stP t a o m s7 s8 s9 s10 s11 s12 s13 s14 ts p h) → we (stP t a o m s7 s8 s9 s10 s11 s12 s13 s14 ts p h) Q)
    (h2 : ∀ Q : D → Sg → Prop, Q s.d (stP t a o m s7 s8 s9 s10 s11 s12 s13 s14 (ts ++ [x]) p h) → wf (stP t a o m s7 s8 s9 s10 s11 s12 s13 s14 (ts ++ [x]) p h) Q)
    (k : T.nx (stP t a o m s7 s8 s9 s10 s11 s12 s13 s14 (ts ++ [x]) (p ++ [s]) h)) : wSeq (wApp 5 we) (wApp 6 wf) T (stP t a o m s7 s8 s9 s10 s11 s12 s13 s14 ts p h) := by
  have hz : (1000000 : Nat) < sizeLine := by decide
  refine ⟨⟨_, rfl⟩, h1 _ ⟨_, rfl, by rw [sD_len]; omega, ?_⟩⟩
  have e1 : sD ts ++ [.str x] = sD (ts ++ [x]) := sD_app _ _
  have e2 : p.map St.d ++ [s.d] = (p ++ [s]).map St.d := by rw [List.map_append]; rfl
  rw [e1]
  change wApp 6 wf T (stP t a o m s7 s8 s9 s10 s11 s12 s13 s14 (ts ++ [x]) p h)
  refine ⟨⟨_, rfl⟩, h2 _ ⟨_, rfl, by rw [List.length_map]; omega, ?_⟩⟩
  rw [e2]
  exact k
theorem Inv2.more {h : Oh} {ts : List Str} {p : List St} {tl bl tl' bl' : List Str} {x : Str} {s : St} (i : Inv2 t a o h ts p tl bl) {h' : Oh} (hT : Tp h' t) (k1 : KL h' a tl') (k2 : KL h' o bl') (d : Dr (p ++ [s]) tl' bl') (ws : s.wf = true) (hx : x.length ≤ 1000) : Inv2 t a o h' (ts ++ [x]) (p ++ [s]) tl' bl' := by
  refine ⟨hT, k1, k2, d, by rw [List.all_append, i.wf, List.all_cons, ws]; rfl, by rw [List.length_append, List.length_append, i.tl]; rfl, fun y hy => ?_⟩
  rcases List.mem_append.mp hy with hy | hy
  · exact i.tx y hy
  · rw [List.mem_singleton.mp hy]; exact hx
theorem cond_in {w : WS} {T : We} {ts : List Str} {p : List St} {tl bl : List Str} {h : Oh} {s7 s8 s9 s10 s11 s12 s13 s14 : Sl} (hT : Tp h t) (ko : KL h o bl) (nto : t ≠ o) (dr : Dr p tl bl)
    (k : ∀ (x : Str) (c : Cn) h', x.length ≤ 160 → c.wf = true → (∀ y ∈ c.bs, y ∈ bl) → Tp h' t → But t h h' → w T (stP t a o m s7 s8 (.f (.str x)) (.f c.d) s11 s12 s13 s14 ts p h')) :
    wSeq (wAsg (wCall sp__law_condition (wCons (wVar 0) (wCons (wVar 3) (wCons (wC (.int 2)) wNil)))) (gTp 2 (gsCons (gVar 9) (gsCons (gVar 10) gsNil)))) w T (stP t a o m s7 s8 s9 s10 s11 s12 s13 s14 ts p h) := by
  refine ⟨t, o, 2, bl, rfl, Nat.le_refl _, Nat.le_refl _, hT, ko, nto, dr.b3, by have := dr.bl; omega, fun x c h' hx c1 c2 c3 c4 hT' bt => ⟨rfl, k x c h' hx ?_ c4 hT' bt⟩⟩
  unfold Cn.wf
  rw [Bool.and_eq_true, Bool.and_eq_true, Nat.ble_eq, Nat.ble_eq]
  exact ⟨⟨c1, by omega⟩, Nat.le_trans c3 (by decide)⟩
theorem pr_turn (nta : t ≠ a) (nto : t ≠ o) (nao : a ≠ o) {T : We} {ts : List Str} {p : List St} {tl bl : List Str} {h : Oh} {s7 s8 s9 s10 s11 s12 s13 s14 : Sl} (i : Inv2 t a o h ts p tl bl) (hl : p.length < 12)
    (k : ∀ s8 s9 s10 s11 s12 s13 s14 ts' s tl' bl' h', Inv2 t a o h' ts' (p ++ [s]) tl' bl' → T.nx (stP t a o m s7 s8 s9 s10 s11 s12 s13 s14 ts' (p ++ [s]) h')) :
    w__law_program_b1 T (stP t a o m s7 s8 s9 s10 s11 s12 s13 s14 ts p h) := by
  obtain ⟨g1, g2, g3, g4, g5, g6, g7, g8, g9⟩ := litP
  refine drawK i.T (by decide) (by decide) fun v h1 v1 hT1 bt1 => ?_
  have kl1 := i.kl.but bt1 nta
  have ko1 := i.ko.but bt1 nto
  have dr := i.dr
  have dn4 := dr.n4
  have dt3 := dr.t3
  change w__law_program_b1_1 T (stP t a o m s7 (.f (.int v)) s9 s10 s11 s12 s13 s14 ts p h1)
  have simple : wSeq (wAsg (wCall sp__law_simple (wCons (wVar 0) (wCons (wVar 2) (wCons (wVar 3) wNil)))) (gTp 2 (gsCons (gVar 9) (gsCons (gVar 10) gsNil)))) (wSeq (wApp 5 (wVar 9)) (wApp 6 (wVar 10))) T (stP t a o m s7 (.f (.int v)) s9 s10 s11 s12 s13 s14 ts p h1) := by
    refine simple_in (p := p) (tl := tl) (bl := bl) hT1 kl1 ko1 nta nto nao dr fun x s tl' bl' h2 hx ws d hT2 k1 k2 => ⟨rfl, ?_⟩
    change wSeq (wApp 5 (wVar 9)) (wApp 6 (wVar 10)) T (stP t a o m s7 (.f (.int v)) (.f (.str x)) (.f s.d) s11 s12 s13 s14 ts p h2)
    exact app2 (x := x) (s := .sm s) hl i.tl (fun Q q => q) (fun Q q => q) (k _ _ _ _ _ _ _ _ _ tl' bl' h2 (i.more hT2 k1 k2 d ws (by omega)))
  by_cases q0 : v = 0
  · refine brT (by show ((v : Int) == 0) = true; rw [q0]; rfl) ?_
    refine cond_in (p := p) (tl := tl) hT1 ko1 nto dr fun x c h2 hx wc hc hT2 bt2 => ?_
    change wSeq (wApp 5 (wOp opAdd (wOp opAdd (wC (.str "give ")) (wVar 9)) (wC (.str ";")))) (wApp 6 (wTup (wCons (wC (.str "give")) (wCons (wVar 10) wNil)))) T (stP t a o m s7 (.f (.int v)) (.f (.str x)) (.f c.d) s11 s12 s13 s14 ts p h2)
    refine app2 (x := ("give " : Str) ++ x ++ ";") (s := .sm (.give c)) hl i.tl (fun Q q => ⟨line_of ?_, line_of ?_, q⟩) (fun Q q => q) (k _ _ _ _ _ _ _ _ _ tl bl h2 (i.more hT2 (kl1.but bt2 nta) (ko1.but bt2 nto) (dr.give hc) wc ?_))
    · show ("give " : Str).length + x.length ≤ _
      omega
    · show (("give " : Str) ++ x).length + (";" : Str).length ≤ _
      simp only [app_len, g1, g9]
      omega
    · simp only [app_len, g1, g9]
      omega
  · refine brF (by show ((v : Int) == 0) = false; have : ¬ (v : Int) = 0 := by omega
                   simpa using this) ?_
    by_cases q1 : v = 1
    · refine brT (by show ((v : Int) == 1) = true; rw [q1]; rfl) (brT (by decide) ⟨a, _, rfl, kl1, ?_⟩)
      by_cases qe : tl = []
      · refine brF (by rw [qe]; rfl) ?_
        exact brF (by rw [q1]; rfl) (brF rfl simple)
      · refine brT ?_ ?_
        · cases tl with
          | nil => exact absurd rfl qe
          | cons => rfl
        refine cond_in (p := p) (tl := tl) hT1 ko1 nto dr fun x c h2 hx wc hc hT2 bt2 => ?_
        have kl2 := kl1.but bt2 nta
        have ko2 := ko1.but bt2 nto
        refine inner_in (tl := tl) hT2 kl2 nta qe dt3 dn4 fun y l h3 hy hl2 gl hT3 bt3 => ?_
        refine inner_in (tl := tl) hT3 (kl2.but bt3 nta) nta qe dt3 dn4 fun z n h4 hz hn2 gn hT4 bt4 => ?_
        change wSeq (wApp 5 (wOp opAdd (wOp opAdd (wOp opAdd (wOp opAdd (wOp opAdd (wOp opAdd (wC (.str "if ")) (wVar 9)) (wC (.str " { "))) (wIx (wVar 11) (wC (.int 0)))) (wC (.str " } else { "))) (wIx (wVar 12) (wC (.int 0)))) (wC (.str " }")))) (wApp 6 (wTup (wCons (wC (.str "if")) (wCons (wVar 10) (wCons (wIx (wVar 11) (wC (.int 1))) (wCons (wIx (wVar 12) (wC (.int 1))) wNil)))))) T
          (stP t a o m s7 (.f (.int v)) (.f (.str x)) (.f c.d) (.f (.tup [.str y, .tup (l.map Sm.d)])) (.f (.tup [.str z, .tup (n.map Sm.d)])) s13 s14 ts p h4)
        refine app2 (x := ("if " : Str) ++ x ++ " { " ++ y ++ " } else { " ++ z ++ " }") (s := .iff c l n) hl i.tl (fun Q q => ⟨line_of ?_, line_of ?_, _, rfl, line_of ?_, line_of ?_, _, rfl, line_of ?_, line_of ?_, q⟩) (fun Q q => ⟨_, rfl, _, rfl, q⟩)
          (k _ _ _ _ _ _ _ _ _ tl bl h4 (i.more hT4 ((kl2.but bt3 nta).but bt4 nta) ((ko2.but bt3 nto).but bt4 nto) (dr.iff hc gl gn) ?_ ?_))
        · show ("if " : Str).length + x.length ≤ _
          omega
        · show (("if " : Str) ++ x).length + (" { " : Str).length ≤ _
          simp only [app_len, g2, g3]
          omega
        · show (("if " : Str) ++ x ++ " { ").length + y.length ≤ _
          simp only [app_len, g2, g3]
          omega
        · show (("if " : Str) ++ x ++ " { " ++ y).length + (" } else { " : Str).length ≤ _
          simp only [app_len, g2, g3, g4]
          omega
        · show (("if " : Str) ++ x ++ " { " ++ y ++ " } else { ").length + z.length ≤ _
          simp only [app_len, g2, g3, g4]
          omega
        · show (("if " : Str) ++ x ++ " { " ++ y ++ " } else { " ++ z).length + (" }" : Str).length ≤ _
          simp only [app_len, g2, g3, g4, g5]
          omega
        · show (c.wf && l.all Sm.wf && n.all Sm.wf && Nat.ble l.length 10 && Nat.ble n.length 10) = true
          rw [wc, gb_wf gl dn4, gb_wf gn dn4, Nat.ble_eq.mpr (show l.length ≤ 10 by omega), Nat.ble_eq.mpr (show n.length ≤ 10 by omega)]
          rfl
        · simp only [app_len, g2, g3, g4, g5]
          omega
    · refine brF (by show ((v : Int) == 1) = false; have : ¬ (v : Int) = 1 := by omega
                     simpa using this) (brF rfl ?_)
      by_cases q2 : v = 2
      · refine brT (by show ((v : Int) == 2) = true; rw [q2]; rfl) (brT (by decide) ⟨a, _, rfl, kl1, ?_⟩)
        by_cases qe : tl = []
        · refine brF (by rw [qe]; rfl) ?_
          exact simple
        · refine brT ?_ ?_
          · cases tl with
            | nil => exact absurd rfl qe
            | cons => rfl
          refine inner_in (tl := tl) hT1 kl1 nta qe dt3 dn4 fun y l h3 hy hl2 gl hT3 bt3 => ?_
          refine drawK hT3 (by decide) (by decide) fun u h4 u1 hT4 bt4 => ?_
          obtain ⟨n1, n2⟩ := sn_len ⟨u, by omega⟩
          change wSeq (wApp 5 (wOp opAdd (wOp opAdd (wOp opAdd (wOp opAdd (wC (.str "repeat ")) (wCB bStr (wCons (wVar 14) wNil))) (wC (.str " {"))) (wIx (wVar 13) (wC (.int 0)))) (wC (.str "}")))) (wApp 6 (wTup (wCons (wC (.str "repeat")) (wCons (wVar 14) (wCons (wIx (wVar 13) (wC (.int 1))) wNil))))) T
            (stP t a o m s7 (.f (.int v)) s9 s10 s11 s12 (.f (.tup [.str y, .tup (l.map Sm.d)])) (.f (.int u)) ts p h4)
          dsimp only at n1 n2
          refine app2 (x := ("repeat " : Str) ++ sn u ++ " {" ++ y ++ "}") (s := .rep u l) hl i.tl (fun Q q => ⟨n2, line_of ?_, line_of ?_, _, rfl, line_of ?_, line_of ?_, q⟩) (fun Q q => ⟨_, rfl, q⟩)
            (k _ _ _ _ _ _ _ _ _ tl bl h4 (i.more hT4 ((kl1.but bt3 nta).but bt4 nta) ((ko1.but bt3 nto).but bt4 nto) (dr.rep gl) ?_ ?_))
          · show ("repeat " : Str).length + (sn u).length ≤ _
            omega
          · show (("repeat " : Str) ++ sn u).length + (" {" : Str).length ≤ _
            simp only [app_len, g6, g7]
            omega
          · show (("repeat " : Str) ++ sn u ++ " {").length + y.length ≤ _
            simp only [app_len, g6, g7]
            omega
          · show (("repeat " : Str) ++ sn u ++ " {" ++ y).length + ("}" : Str).length ≤ _
            simp only [app_len, g6, g7, g8]
            omega
          · show (l.all Sm.wf && Nat.ble l.length 10) = true
            rw [gb_wf gl dn4, Nat.ble_eq.mpr (show l.length ≤ 10 by omega)]
            rfl
          · simp only [app_len, g6, g7, g8]
            omega
      · refine brF (by show ((v : Int) == 2) = false; have : ¬ (v : Int) = 2 := by omega
                       simpa using this) (brF rfl ?_)
        exact simple
theorem pr_loop (nta : t ≠ a) (nto : t ≠ o) (nao : a ≠ o) {T : We} (k : ∀ s7 s8 s9 s10 s11 s12 s13 s14 ts p tl bl h, Inv2 t a o h ts p tl bl → p.length ≤ 12 → T.nx (stP t a o m s7 s8 s9 s10 s11 s12 s13 s14 ts p h)) :
    ∀ (ks : List D) (s7 s8 s9 s10 s11 s12 s13 s14 : Sl) (ts : List Str) (p : List St) (tl bl : List Str) (h : Oh), p.length + ks.length ≤ 12 → Inv2 t a o h ts p tl bl →
      wForL (gVar 7) w__law_program_b1 T ks (stP t a o m s7 s8 s9 s10 s11 s12 s13 s14 ts p h)
  | [], _, _, _, _, _, _, _, _, ts, p, tl, bl, h, hl, i => k _ _ _ _ _ _ _ _ ts p tl bl h i hl
  | d :: ks, s7, s8, s9, s10, s11, s12, s13, s14, ts, p, tl, bl, h, hl, i => by
    have hl : p.length + (ks.length + 1) ≤ 12 := hl
    refine forv ?_
    refine pr_turn (s7 := .f d) nta nto nao i (by omega) fun s8 s9 s10 s11 s12 s13 s14 ts' s tl' bl' h' i' => ?_
    exact pr_loop nta nto nao k ks _ _ _ _ _ _ _ _ ts' (p ++ [s]) tl' bl' h' (by rw [List.length_append]; show p.length + 1 + ks.length ≤ 12; omega) i'
end
theorem pk__law_program : Pk 5 10 sp__law_program w__law_program := by
  intro ds h R _ q
  unfold sp__law_program at q
  obtain ⟨t, a, o, n, rfl, hn, hT, kl, ko, nta, nto, nao, hR⟩ := q
  refine ⟨⟨by omega, by omega⟩, ?_⟩
  refine pr_loop (m := .int n) (T := { Fi R with nx := w__law_program_3 (Fi R) }) nta nto nao (fun s7 s8 s9 s10 s11 s12 s13 s14 ts p tl bl h' i hp => ?_) _ .u .u .u .u .u .u .u .u [] [] [] [] h ?_ ⟨hT, kl, ko, .nil, rfl, rfl, fun x hx => by cases hx⟩
  · have sl := sum_le i.tx
    have := i.tl
    refine ⟨ts, rfl, by rw [sp_len, Nat.mul_one]; omega, ?_⟩
    exact hR _ p h' hp i.wf (congrArg Prod.fst i.dr.run) i.T
  · show 0 + ((List.range (n : Int).toNat).map _).length ≤ 12
    rw [List.length_map, List.length_range, Int.toNat_natCast]
    omega
end K34

set_option Elab.async false
set_option linter.all false
set_option maxRecDepth 100000
set_option maxHeartbeats 400000
/-! Pc_k34: a spoilt statement, the law -/
namespace K34
open PySem PySem.Spec PyProof.Rows L2 VL
def spl (v : Nat) : List St :=
  [.sm (.new "a"), .sm (.gate "H" ["d"]), .sm (.gate "CX" ["a", "a"]), .sm (.give (.bit "s")), .sm (.free "d"), .sm (.new "e"), .sm (.meas "f" "p"),
   .iff (.val 1) [.free "a"] [], .rep v [.new "g"], .rep 0 [.meas "a" "s"], .iff (.val 0) [.meas "b" "s"] [], .sm (.give (.nt (.bin "xor" (.bit "p") (.bit "q")))),
   .rep 2 [.free "a", .new "a"], .iff (.bit "p") [.meas "a" "q"] [.meas "a" "q", .gate "X" ["a"]]]
theorem spl_wf (v : Nat) (h : v < 3) : ∀ s ∈ spl v, s.wf = true := by
  have c : v = 0 ∨ v = 1 ∨ v = 2 := by omega
  have a0 : (spl 0).all St.wf = true := by decide +kernel
  have a1 : (spl 1).all St.wf = true := by decide +kernel
  have a2 : (spl 2).all St.wf = true := by decide +kernel
  rcases c with rfl | rfl | rfl
  · exact List.all_eq_true.mp a0
  · exact List.all_eq_true.mp a1
  · exact List.all_eq_true.mp a2
theorem pk__law_spoilt : Pk 1 0 sp__law_spoilt w__law_spoilt := by
  intro ds h R _ q
  unfold sp__law_spoilt at q
  obtain ⟨t, rfl, hT, hR⟩ := q
  refine drawK hT (by decide) (by decide) fun v h1 v1 hT1 bt1 => ?_
  refine drawK hT1 (by decide) (by decide) fun u h2 u1 hT2 bt2 => ?_
  have hu : u < (spl v).length := by show u < 14; omega
  refine ⟨(spl v)[u].d, ?_, hR _ h2 (spl_wf v (by omega) _ (List.getElem_mem hu)) hT2⟩
  have e : atI ((spl v).map St.d) (u : Int) = some (spl v)[u].d := by
    unfold atI ixN
    rw [if_pos (Int.natCast_nonneg u), if_pos (by rw [List.length_map]; omega)]
    show ((spl v).map St.d)[u]? = _
    rw [List.getElem?_map, List.getElem?_eq_getElem hu]
    rfl
  exact e
theorem wf_sz {s : St} (h : s.wf = true) : s.sz ≤ 21 := by
  cases s with
  | sm s => exact show 1 ≤ 21 by decide
  | iff c l m =>
    have h : (c.wf && l.all Sm.wf && m.all Sm.wf && Nat.ble l.length 10 && Nat.ble m.length 10) = true := h
    rw [Bool.and_eq_true, Bool.and_eq_true, Nat.ble_eq, Nat.ble_eq] at h
    show 1 + l.length + m.length ≤ 21
    omega
  | rep k l =>
    have h : (l.all Sm.wf && Nat.ble l.length 10) = true := h
    rw [Bool.and_eq_true, Nat.ble_eq] at h
    show 1 + l.length ≤ 21
    omega
theorem wf_szs {p : List St} (h : p.all St.wf = true) : sz p ≤ 21 * p.length := by
  induction p with
  | nil => exact Nat.le_refl _
  | cons s p ih =>
    rw [List.all_cons, Bool.and_eq_true] at h
    have := ih h.2
    have := wf_sz h.1
    show s.sz + sz p ≤ 21 * (p.length + 1)
    omega
def stL (s0 : D) (a : Addr) (u2 u3 u4 u5 u6 : Sl) (h : Oh) : Sg := ⟨[.f s0, .f (.obj a), u2, u3, u4, u5, u6], h⟩
theorem cut_to (L : List D) (m : Nat) (h2 : m ≤ L.length) : VL.cutD L none (some (m : Int)) = L.take m := by
  unfold VL.cutD
  rw [HT.sIx_nat, Nat.min_eq_left h2]
  rfl
theorem cut_from (L : List D) (m : Nat) (h2 : m ≤ L.length) : VL.cutD L (some (m : Int)) none = L.drop m := by
  unfold VL.cutD
  rw [HT.sIx_nat, Nat.min_eq_left h2]
  show (L.drop m).take (L.length - m) = L.drop m
  exact List.take_of_length_le (by rw [List.length_drop]; exact Nat.le_refl _)
section
variable {T : We} {s0 : D} {a : Addr}
theorem put_turn {u2 u3 u4 u6 : Sl} {p : List St} {h : Oh} (hT : Tp h a) (hp : p.length ≤ 100) (wf : p.all St.wf = true)
    (k : ∀ u6 (p' : List St) h', p'.length = p.length + 1 → p'.all St.wf = true → Tp h' a → T.nx (stL s0 a u2 u3 u4 (.f (.lst (p'.map St.d))) u6 h')) :
    w_law_b2 T (stL s0 a u2 u3 u4 (.f (.lst (p.map St.d))) u6 h) := by
  have hz : (1000000 : Nat) < sizeLine := by decide
  have lp : (p.map St.d).length = p.length := List.length_map _
  refine drawK (m := 1 + ((p.map St.d).length : Nat)) hT (by omega) (by omega) fun v h1 v1 hT1 bt1 => ?_
  change w_law_b2_1 T (stL s0 a u2 u3 u4 (.f (.lst (p.map St.d))) (.f (.int v)) h1)
  have hv : v ≤ p.length := by omega
  have q : sp__law_spoilt [.obj a] h1 (fun d h2 => (VL.cutD (p.map St.d) none (some (v : Int))).length + [d].length ≤ sizeLine ∧
      (VL.cutD (p.map St.d) none (some (v : Int)) ++ [d]).length + (VL.cutD (p.map St.d) (some (v : Int)) none).length ≤ sizeLine ∧
      T.nx (stL s0 a u2 u3 u4 (.f (.lst ((VL.cutD (p.map St.d) none (some (v : Int)) ++ [d]) ++ VL.cutD (p.map St.d) (some (v : Int)) none))) (.f (.int v)) h2)) NX := by
    unfold sp__law_spoilt
    refine ⟨a, rfl, hT1, fun s h2 ws hT2 => ?_⟩
    rw [cut_to _ _ (by omega), cut_from _ _ (by omega)]
    have l1 : ((p.map St.d).take v).length ≤ p.length := by rw [List.length_take]; omega
    have l2 : ((p.map St.d).drop v).length ≤ p.length := by rw [List.length_drop]; omega
    refine ⟨by show _ + 1 ≤ _; omega, by rw [List.length_append]; show _ + 1 + _ ≤ _; omega, ?_⟩
    have e : ((p.map St.d).take v ++ [s.d]) ++ (p.map St.d).drop v = ((p.take v ++ [s]) ++ p.drop v).map St.d := by
      rw [List.map_append, List.map_append, List.map_take, List.map_drop]
      rfl
    rw [e]
    refine k _ _ h2 ?_ ?_ hT2
    · rw [List.length_append, List.length_append, List.length_take, List.length_drop]
      show min v p.length + 1 + (p.length - v) = p.length + 1
      omega
    · rw [List.all_eq_true] at wf ⊢
      intro y hy
      rcases List.mem_append.mp hy with hy | hy
      · rcases List.mem_append.mp hy with hy | hy
        · exact wf y (List.mem_of_mem_take hy)
        · rw [List.mem_singleton.mp hy]; exact ws
      · exact wf y (List.mem_of_mem_drop hy)
  exact q
theorem put_loop {u2 u4 : Sl} (k : ∀ u3 u6 (p : List St) h', p.length ≤ 20 → p.all St.wf = true → Tp h' a → T.nx (stL s0 a u2 u3 u4 (.f (.lst (p.map St.d))) u6 h')) :
    ∀ (l : List D) (u3 u6 : Sl) (p : List St) (h : Oh), p.length + l.length ≤ 20 → p.all St.wf = true → Tp h a → wForL (gVar 3) w_law_b2 T l (stL s0 a u2 u3 u4 (.f (.lst (p.map St.d))) u6 h)
  | [], _, _, p, h, hl, wf, hT => k _ _ p h hl wf hT
  | d :: l, u3, u6, p, h, hl, wf, hT => by
    have hl : p.length + (l.length + 1) ≤ 20 := hl
    refine forv ?_
    exact put_turn (u3 := .f d) hT (by omega) wf fun u6 p' h' e wf' hT' => put_loop k l _ _ p' h' (by omega) wf' hT'
theorem Wf0 {p : List St} (hp : p.length ≤ 20) (wf : p.all St.wf = true) : sz p ≤ 10000 := by
  have := wf_szs wf
  omega
theorem eq_str (x : Str) : (!(x == x)) = false := by simp
theorem law_turn {u2 u3 u4 u5 u6 : Sl} {h : Oh} (hT : Tp h a) (k : ∀ u3 u4 u5 u6 h', Tp h' a → T.nx (stL s0 a u2 u3 u4 u5 u6 h')) : w_law_b1 T (stL s0 a u2 u3 u4 u5 u6 h) := by
  refine drawK hT (by decide) (by decide) fun n h1 n1 hT1 bt1 => ?_
  intro q hq r hr
  have hq : h1 q = none := hq
  have nqa : a ≠ q := fun e => by rw [e] at hT1; obtain ⟨_, _, _, _, z, _⟩ := hT1; rw [hq] at z; cases z
  have hr : (h1.put q (.ml [])) r = none := hr
  have nqr : q ≠ r := fun e => by rw [← e, Oh.put_same] at hr; cases hr
  have nar : a ≠ r := fun e => by
    obtain ⟨_, _, _, _, z, _⟩ := hT1
    rw [← e, Oh.put_ne nqa, z] at hr
    cases hr
  have hT3 : Tp ((h1.put q (.ml [])).put r (.ml [])) a := by
    obtain ⟨ns, i, x, s, z, z2⟩ := hT1
    exact ⟨ns, i, x, s, by rw [Oh.put_ne nar, Oh.put_ne nqa]; exact z, z2⟩
  have kq : KL ((h1.put q (.ml [])).put r (.ml [])) q [] := by
    unfold KL
    rw [Oh.put_ne nqr]
    exact Oh.put_same
  have kr : KL ((h1.put q (.ml [])).put r (.ml [])) r [] := Oh.put_same
  have z : sp__law_program [.obj a, .int n, .obj q, .obj r, .int 1] ((h1.put q (.ml [])).put r (.ml [])) (fun d h' => gTp 2 (gsCons (gVar 4) (gsCons (gVar 5) gsNil)) d (stL s0 a u2 u3 u4 u5 u6 h') fun S => w_law_b1_1 T S) NX := by
    unfold sp__law_program
    refine ⟨a, q, r, n, rfl, by omega, hT3, kq, kr, nqa, nar, nqr, fun x p h2 hp wf lk0 hT4 => ⟨rfl, ?_⟩⟩
    change w_law_b1_1 T (stL s0 a u2 u3 (.f (.str x)) (.f (.lst (p.map St.d))) u6 h2)
    refine ⟨p, rfl, wf, Wf0 (by omega) wf, ?_⟩
    refine brF (by rw [lk0]; rfl) ?_
    change w_law_b1_2 T (stL s0 a u2 u3 (.f (.str x)) (.f (.lst (p.map St.d))) u6 h2)
    refine drawK hT4 (by decide) (by decide) fun v h3 v1 hT5 bt5 => ?_
    refine ⟨⟨by omega, by omega⟩, ?_⟩
    refine put_loop (T := { T with nx := w_law_b1_3 T }) (fun u3 u6 p h' hp wf hT => ?_) _ _ _ p h3 ?_ wf hT5
    · refine ⟨p, rfl, wf, Wf0 (by omega) wf, ?_⟩
      refine ⟨_, p, [], [], rfl, .inl rfl, ⟨wf, (fun e => by cases e), (by decide), rfl, (by have := Wf0 hp wf; show 0 + sz p ≤ _; omega)⟩, ?_⟩
      refine ⟨_, rfl, ?_⟩
      refine brF ?_ (k _ _ _ _ h' hT)
      show (!((lk p [] []).1 == (wk p [] []).1)) = false
      rw [both]
      exact eq_str _
    · rw [List.length_map, List.length_range, Int.toNat_natCast]
      omega
  exact z
theorem law_loop (k : ∀ u2 u3 u4 u5 u6 h', Tp h' a → T.nx (stL s0 a u2 u3 u4 u5 u6 h')) : ∀ (l : List D) (u2 u3 u4 u5 u6 : Sl) (h : Oh), Tp h a →
    wForL (gVar 2) w_law_b1 T l (stL s0 a u2 u3 u4 u5 u6 h)
  | [], _, _, _, _, _, h, hT => k _ _ _ _ _ h hT
  | d :: l, u2, u3, u4, u5, u6, h, hT => by
    refine forv ?_
    exact law_turn (u2 := .f d) hT fun u3 u4 u5 u6 h' hT' => law_loop k l _ _ _ _ _ h' hT'
end
theorem pk_law : Pk 1 6 sp_law w_law := by
  rintro ds h R _ ⟨ns, rfl, hl, hR⟩
  intro a ha
  have hT : Tp (h.put a (.ml [.lst (ns.map .int), .int 0, .int 0, .int 13])) a := ⟨ns, 0, 0, 13, Oh.put_same, hl, by decide, by decide, by decide, by decide⟩
  change w_law_1 (Fi R) (stL (.scr ns) a .u .u .u .u .u (h.put a (.ml [.lst (ns.map .int), .int 0, .int 0, .int 13])))
  refine ⟨by decide, ?_⟩
  exact law_loop (T := { Fi R with nx := w_law_2 (Fi R) }) (fun u2 u3 u4 u5 u6 h' hT' => hR h') _ _ _ _ _ _ _ hT
end K34

set_option Elab.async false
set_option linter.all false
set_option maxRecDepth 100000
set_option maxHeartbeats 4000000
namespace K34
open PySem PySem.Spec L2 VL
def topS (i : Nat) : Stmt := PySem.Challenge.pw_mendedgates_k34_what_can_be_played.main.body.getD i (.Pass ⟨0, 0, 0, 0⟩)
abbrev s_bits_of : Stmt := topS 2
theorem sc_bits_of : FnScope ["condition", "found", "part"] ["condition"] (defScope s_bits_of) := ⟨rfl, rfl, rfl, by decide +kernel, rfl, by decide +kernel, by decide +kernel⟩
abbrev s_word_of : Stmt := topS 3
theorem sc_word_of : FnScope ["statement", "there", "bits", "kind", "qubits", "qubit", "bit"] ["statement", "there", "bits"] (defScope s_word_of) := ⟨rfl, rfl, rfl, by decide +kernel, rfl, by decide +kernel, by decide +kernel⟩
abbrev s_looked : Stmt := topS 4
theorem sc_looked : FnScope ["statements", "there", "bits", "statement", "kind", "word", "first", "some", "second", "others", "behind", "bit", "name"] ["statements", "there", "bits"] (defScope s_looked) := ⟨rfl, rfl, rfl, by decide +kernel, rfl, by decide +kernel, by decide +kernel⟩
abbrev s_fault_of : Stmt := topS 5
theorem sc_fault_of : FnScope ["program"] ["program"] (defScope s_fault_of) := ⟨rfl, rfl, rfl, by decide +kernel, rfl, by decide +kernel, by decide +kernel⟩
abbrev s__law_next : Stmt := topS 7
theorem sc__law_next : FnScope ["tape", "many", "rest", "cell"] ["tape", "many"] (defScope s__law_next) := ⟨rfl, rfl, rfl, by decide +kernel, rfl, by decide +kernel, by decide +kernel⟩
abbrev s__law_condition : Stmt := topS 8
theorem sc__law_condition : FnScope ["tape", "bits", "depth", "kind", "word", "name", "value", "first", "one", "second", "other"] ["tape", "bits", "depth"] (defScope s__law_condition) := ⟨rfl, rfl, rfl, by decide +kernel, rfl, by decide +kernel, by decide +kernel⟩
abbrev s__law_simple : Stmt := topS 9
theorem sc__law_simple : FnScope ["tape", "there", "bits", "kind", "name", "word", "other", "bit", "one"] ["tape", "there", "bits"] (defScope s__law_simple) := ⟨rfl, rfl, rfl, by decide +kernel, rfl, by decide +kernel, by decide +kernel⟩
abbrev s__law_program : Stmt := topS 10
theorem sc__law_program : FnScope ["tape", "many", "there", "bits", "depth", "texts", "found", "turn", "kind", "text", "one", "first", "second", "body", "number"] ["tape", "many", "there", "bits", "depth"] (defScope s__law_program) := ⟨rfl, rfl, rfl, by decide +kernel, rfl, by decide +kernel, by decide +kernel⟩
abbrev s__law_inner : Stmt := topS 11
theorem sc__law_inner : FnScope ["tape", "there", "bits", "turn", "texts", "found", "name", "word"] ["tape", "there", "bits"] (defScope s__law_inner) := ⟨rfl, rfl, rfl, by decide +kernel, rfl, by decide +kernel, by decide +kernel⟩
abbrev s__law_bits : Stmt := topS 12
theorem sc__law_bits : FnScope ["condition", "found", "one"] ["condition"] (defScope s__law_bits) := ⟨rfl, rfl, rfl, by decide +kernel, rfl, by decide +kernel, by decide +kernel⟩
abbrev s__law_walk : Stmt := topS 13
theorem sc__law_walk : FnScope ["statements", "there", "bits", "one", "kind", "first", "second", "word", "behind", "some", "used", "bit", "name"] ["statements", "there", "bits"] (defScope s__law_walk) := ⟨rfl, rfl, rfl, by decide +kernel, rfl, by decide +kernel, by decide +kernel⟩
abbrev s__law_spoilt : Stmt := topS 14
theorem sc__law_spoilt : FnScope ["tape"] ["tape"] (defScope s__law_spoilt) := ⟨rfl, rfl, rfl, by decide +kernel, rfl, by decide +kernel, by decide +kernel⟩
abbrev s_law : Stmt := topS 15
theorem sc_law : FnScope ["script", "tape", "turn", "more", "text", "program", "place"] ["script"] (defScope s_law) := ⟨rfl, rfl, rfl, by decide +kernel, rfl, by decide +kernel, by decide +kernel⟩
/-- what the top has written -/
structure Txt (K : PySem.W.Frag) (mg : Str → Option Value) (A : Nat → Addr) (B : Nat → FuncData) : Prop where
  z_len : mg "len" = none
  z_abs : mg "abs" = none
  z_int : mg "int" = none
  z_all : mg "all" = none
  z_tuple : mg "tuple" = none
  z_list : mg "list" = none
  z_range : mg "range" = none
  z_str : mg "str" = none
  z_sorted : mg "sorted" = none
  c_MOST_QUBITS : Cst K mg "MOST_QUBITS" k_MOST_QUBITS
  d_bits_of : DefAt K mg "bits_of" s_bits_of ["condition"] (A 0) (B 0)
  d_word_of : DefAt K mg "word_of" s_word_of ["statement", "there", "bits"] (A 1) (B 1)
  d_looked : DefAt K mg "looked" s_looked ["statements", "there", "bits"] (A 2) (B 2)
  d_fault_of : DefAt K mg "fault_of" s_fault_of ["program"] (A 3) (B 3)
  d__law_next : DefAt K mg "_law_next" s__law_next ["tape", "many"] (A 4) (B 4)
  d__law_condition : DefAt K mg "_law_condition" s__law_condition ["tape", "bits", "depth"] (A 5) (B 5)
  d__law_simple : DefAt K mg "_law_simple" s__law_simple ["tape", "there", "bits"] (A 6) (B 6)
  d__law_program : DefAt K mg "_law_program" s__law_program ["tape", "many", "there", "bits", "depth"] (A 7) (B 7)
  d__law_inner : DefAt K mg "_law_inner" s__law_inner ["tape", "there", "bits"] (A 8) (B 8)
  d__law_bits : DefAt K mg "_law_bits" s__law_bits ["condition"] (A 9) (B 9)
  d__law_walk : DefAt K mg "_law_walk" s__law_walk ["statements", "there", "bits"] (A 10) (B 10)
  d__law_spoilt : DefAt K mg "_law_spoilt" s__law_spoilt ["tape"] (A 11) (B 11)
  d_law : DefAt K mg "law" s_law ["script"] (A 12) (B 12)
section
variable {P : Program} {w : World} {K : PySem.W.Frag} {mg : Str → Option Value} {base : Heap} {A : Nat → Addr} {B : Nat → FuncData}
theorem ok__law_next (T : Txt K mg A B) : FnOk P w K mg base CX0 1 (A 4) (B 4) ["tape", "many"] (spOf K 2 sp__law_next) := by
  refine fn_ok (ws := w__law_next) T.d__law_next.fn sc__law_next rfl (fun cdv A outer s H E hr => ?_) pk__law_next
  exact (dss_cons (ds_set 2 (de_ix (de_var 0 (pv 0)) de_int (fun _ _ => rfl)) (fun _ he => ps_set (i := 2) sc__law_next.nd rfl (by first | exact .inl rfl | exact .inr rfl) he))
      (dss_cons (ds_if (dt_cmp ov_gt (de_var 2 (pv 2)) de_int (nomark _)) (dss_cons (ds_asg (de_op ov_div (de_var 2 (pv 2)) (de_var 1 (pv 1))) (dg_ixM (de_var 0 (pv 0)) de_int))
      (dss_one (ds_ret (de_op ov_mod (de_cty cv_int (by rfl) T.z_int (by decide +kernel) (da_cons (de_var 2 (pv 2)) da_nil)) (de_var 1 (pv 1)))))) dss_nil)
      (dss_cons (ds_set 3 de_int (fun _ he => ps_set (i := 3) sc__law_next.nd rfl (by first | exact .inl rfl | exact .inr rfl) he))
      (dss_cons (ds_if (dt_cmp ov_lt (de_ix (de_var 0 (pv 0)) de_int (fun _ _ => rfl)) (de_cb cv_len (by rfl) T.z_len (by decide +kernel) (da_cons (de_ix (de_var 0 (pv 0)) de_int (fun _ _ => rfl)) da_nil)) (nomark _)) (dss_cons (ds_set 3 (de_cb cv_abs (by rfl) T.z_abs (by decide +kernel) (da_cons (de_ix (de_ix (de_var 0 (pv 0)) de_int (fun _ _ => rfl)) (de_ix (de_var 0 (pv 0)) de_int (fun _ _ => rfl)) (fun _ _ => rfl)) da_nil)) (fun _ he => ps_set (i := 3) sc__law_next.nd rfl (by first | exact .inl rfl | exact .inr rfl) he))
      (dss_one (ds_augM iv_add (de_var 0 (pv 0)) de_int de_int))) dss_nil)
      (dss_cons (ds_if (dt_cmp ov_ge (de_var 3 (pv 3)) (de_op ov_pow de_int de_int) (nomark _)) (dss_cons (ds_asg (de_op ov_div (de_var 3 (pv 3)) (de_var 1 (pv 1))) (dg_ixM (de_var 0 (pv 0)) de_int))
      (dss_one (ds_ret (de_op ov_mod (de_cty cv_int (by rfl) T.z_int (by decide +kernel) (da_cons (de_var 3 (pv 3)) da_nil)) (de_var 1 (pv 1)))))) dss_nil)
      (dss_cons (ds_asg (de_op ov_mod (de_cty cv_int (by rfl) T.z_int (by decide +kernel) (da_cons (de_op ov_add (de_op ov_add (de_op ov_mulS (de_ix (de_var 0 (pv 0)) de_int (fun _ _ => rfl)) de_int) (de_op ov_mulS (de_var 3 (pv 3)) de_int)) de_int) da_nil)) de_int) (dg_ixM (de_var 0 (pv 0)) de_int))
      (dss_one (ds_ret (de_op ov_mod (de_cty cv_int (by rfl) T.z_int (by decide +kernel) (da_cons (de_op ov_div (de_op ov_mod (de_op ov_mulS (de_ix (de_var 0 (pv 0)) de_int (fun _ _ => rfl)) de_int) de_int) de_int) da_nil)) (de_var 1 (pv 1)))))))))))
theorem ok__law_simple (T : Txt K mg A B) : FnOk P w K mg base CX0 2 (A 6) (B 6) ["tape", "there", "bits"] (spOf K 3 sp__law_simple) := by
  have G__law_next : FnOk P w K mg base CX0 1 (A 4) (B 4) ["tape", "many"] (spOf K 2 sp__law_next) := ok__law_next T
  refine fn_ok (ws := w__law_simple) T.d__law_simple.fn sc__law_simple rfl (fun cdv A outer s H E hr => ?_) pk__law_simple
  exact (dss_cons (ds_set 3 (de_call G__law_next (hr.mono (by decide)) (by rfl) T.d__law_next.gl T.d__law_next.fn.kp T.d__law_next.bd (da_cons (de_var 0 (pv 0)) (da_cons de_int da_nil))) (fun _ he => ps_set (i := 3) sc__law_simple.nd rfl (by first | exact .inl rfl | exact .inr rfl) he))
      (dss_cons (ds_if (DW.pt (dw_or (dt_cmpM (ov_eq hr.units) (de_var 1 (pv 1)) (de_new (dn_lst da_nil)) (nomark _)) (dw_or1 (DW.pt (dw_and (dt_cmp (ov_eq hr.units) (de_var 3 (pv 3)) de_int (nomark _)) (dw_and1 (dt_cmp ov_lt (de_lenM (by rfl) T.z_len PySem.boot_len (de_var 1 (pv 1))) de_int (nomark _)))))))) (dss_cons (ds_set 4 (de_ix (de_new (dn_lc (own := [("one", 8)]) rfl sc__law_simple.nd (di_tup (de_tup (da_cons de_str (da_cons de_str (da_cons de_str (da_cons de_str da_nil)))))) (blkOk_by (N := ["tape", "there", "bits", "kind", "name", "word", "other", "bit", "one"]) (sc := defScope s__law_simple) (by decide +kernel)) (tg_one (by decide)) (fun _ _ _ _ _ => pg_name (i := 8) sc__law_simple.nd rfl (Or.inl rfl)) (fun _ _ _ _ _ => pts_x1 (dt_cmpM (ov_notInD (Room65 hr)) (de_var 8 (pv 8)) (de_var 1 (pv 1)) (by rfl))) (fun _ _ _ _ _ => (de_var 8 (pv 8))))) (de_call G__law_next (hr.mono (by decide)) (by rfl) T.d__law_next.gl T.d__law_next.fn.kp T.d__law_next.bd (da_cons (de_var 0 (pv 0)) (da_cons de_int da_nil))) (fun _ _ => rfl)) (fun _ he => ps_set (i := 4) sc__law_simple.nd rfl (by first | exact .inl rfl | exact .inr rfl) he))
      (dss_cons (ds_appM (de_var 1 (pv 1)) (de_var 4 (pv 4)) (fun _ _ hx he => pe_bm PySem.F.plainAttrs_list PySem.F.slot_list_append PySem.F.type_list_append mt_append hx (pa_cons he pa_nil)))
      (dss_one (ds_ret (de_tup (da_cons (de_op ov_add (de_op ov_add de_str (de_var 4 (pv 4))) de_str) (da_cons (de_tup (da_cons de_str (da_cons (de_var 4 (pv 4)) da_nil))) da_nil))))))) dss_nil)
      (dss_cons (ds_set 4 (de_ix (de_var 1 (pv 1)) (de_call G__law_next (hr.mono (by decide)) (by rfl) T.d__law_next.gl T.d__law_next.fn.kp T.d__law_next.bd (da_cons (de_var 0 (pv 0)) (da_cons (de_lenM (by rfl) T.z_len PySem.boot_len (de_var 1 (pv 1))) da_nil))) (fun _ _ => rfl)) (fun _ he => ps_set (i := 4) sc__law_simple.nd rfl (by first | exact .inl rfl | exact .inr rfl) he))
      (dss_cons (ds_if (dt_cmp ov_lt (de_var 3 (pv 3)) de_int (nomark _)) (dss_cons (ds_set 5 (de_ix (de_new (dn_lst (da_cons de_str (da_cons de_str (da_cons de_str (da_cons de_str (da_cons de_str (da_cons de_str (da_cons de_str (da_cons de_str (da_cons de_str (da_cons de_str da_nil)))))))))))) (de_call G__law_next (hr.mono (by decide)) (by rfl) T.d__law_next.gl T.d__law_next.fn.kp T.d__law_next.bd (da_cons (de_var 0 (pv 0)) (da_cons de_int da_nil))) (fun _ _ => rfl)) (fun _ he => ps_set (i := 5) sc__law_simple.nd rfl (by first | exact .inl rfl | exact .inr rfl) he))
      (dss_one (ds_ret (de_tup (da_cons (de_op ov_add (de_op ov_add (de_op ov_add (de_var 5 (pv 5)) de_str) (de_var 4 (pv 4))) de_str) (da_cons (de_tup (da_cons de_str (da_cons (de_upper (de_var 5 (pv 5))) (da_cons (de_tup (da_cons (de_var 4 (pv 4)) da_nil)) da_nil)))) da_nil)))))) dss_nil)
      (dss_cons (ds_if (DW.pt (dw_and (dt_cmp ov_lt (de_var 3 (pv 3)) de_int (nomark _)) (dw_and1 (dt_cmp ov_gt (de_lenM (by rfl) T.z_len PySem.boot_len (de_var 1 (pv 1))) de_int (nomark _))))) (dss_cons (ds_set 6 (de_ix (de_new (dn_lcO (own := [("one", 8)]) rfl sc__law_simple.nd (de_var 1 (pv 1)) (blkOk_by (N := ["tape", "there", "bits", "kind", "name", "word", "other", "bit", "one"]) (sc := defScope s__law_simple) (by decide +kernel)) (tg_one (by decide)) (fun _ _ _ _ _ => pg_name (i := 8) sc__law_simple.nd rfl (Or.inl rfl)) (fun _ _ _ _ _ => pts_x1 (dt_cmp (ov_ne hr.units) (de_var 8 (pv 8)) (de_var 4 (pv 4)) (nomark _))) (fun _ _ _ _ _ => (de_var 8 (pv 8))))) (de_call G__law_next (hr.mono (by decide)) (by rfl) T.d__law_next.gl T.d__law_next.fn.kp T.d__law_next.bd (da_cons (de_var 0 (pv 0)) (da_cons (de_op ov_sub (de_lenM (by rfl) T.z_len PySem.boot_len (de_var 1 (pv 1))) de_int) da_nil))) (fun _ _ => rfl)) (fun _ he => ps_set (i := 6) sc__law_simple.nd rfl (by first | exact .inl rfl | exact .inr rfl) he))
      (dss_cons (ds_set 5 (de_ix (de_new (dn_lst (da_cons de_str (da_cons de_str da_nil)))) (de_call G__law_next (hr.mono (by decide)) (by rfl) T.d__law_next.gl T.d__law_next.fn.kp T.d__law_next.bd (da_cons (de_var 0 (pv 0)) (da_cons de_int da_nil))) (fun _ _ => rfl)) (fun _ he => ps_set (i := 5) sc__law_simple.nd rfl (by first | exact .inl rfl | exact .inr rfl) he))
      (dss_one (ds_ret (de_tup (da_cons (de_op ov_add (de_op ov_add (de_op ov_add (de_op ov_add (de_op ov_add (de_var 5 (pv 5)) de_str) (de_var 4 (pv 4))) de_str) (de_var 6 (pv 6))) de_str) (da_cons (de_tup (da_cons de_str (da_cons (de_upper (de_var 5 (pv 5))) (da_cons (de_tup (da_cons (de_var 4 (pv 4)) (da_cons (de_var 6 (pv 6)) da_nil))) da_nil)))) da_nil))))))) dss_nil)
      (dss_cons (ds_if (dt_cmp ov_lt (de_var 3 (pv 3)) de_int (nomark _)) (dss_cons (ds_set 7 (de_ix (de_new (dn_lst (da_cons de_str (da_cons de_str (da_cons de_str da_nil))))) (de_call G__law_next (hr.mono (by decide)) (by rfl) T.d__law_next.gl T.d__law_next.fn.kp T.d__law_next.bd (da_cons (de_var 0 (pv 0)) (da_cons de_int da_nil))) (fun _ _ => rfl)) (fun _ he => ps_set (i := 7) sc__law_simple.nd rfl (by first | exact .inl rfl | exact .inr rfl) he))
      (dss_cons (ds_if (dt_cmpM (ov_notInD (Room65 hr)) (de_var 7 (pv 7)) (de_var 2 (pv 2)) (by rfl)) (dss_one (ds_appM (de_var 2 (pv 2)) (de_var 7 (pv 7)) (fun _ _ hx he => pe_bm PySem.F.plainAttrs_list PySem.F.slot_list_append PySem.F.type_list_append mt_append hx (pa_cons he pa_nil)))) dss_nil)
      (dss_one (ds_ret (de_tup (da_cons (de_op ov_add (de_op ov_add (de_op ov_add (de_op ov_add de_str (de_var 4 (pv 4))) de_str) (de_var 7 (pv 7))) de_str) (da_cons (de_tup (da_cons de_str (da_cons (de_var 4 (pv 4)) (da_cons (de_var 7 (pv 7)) da_nil)))) da_nil))))))) dss_nil)
      (dss_cons (ds_remM (de_var 1 (pv 1)) (de_var 4 (pv 4)) (fun _ _ hx he => pe_bm PySem.F.plainAttrs_list PySem.F.slot_list_remove PySem.F.type_list_remove mt_removeS hx (pa_cons he pa_nil)))
      (dss_one (ds_ret (de_tup (da_cons (de_op ov_add (de_op ov_add de_str (de_var 4 (pv 4))) de_str) (da_cons (de_tup (da_cons de_str (da_cons (de_var 4 (pv 4)) da_nil))) da_nil))))))))))))
theorem ok__law_inner (T : Txt K mg A B) : FnOk P w K mg base CX0 2 (A 8) (B 8) ["tape", "there", "bits"] (spOf K 3 sp__law_inner) := by
  have G__law_next : FnOk P w K mg base CX0 1 (A 4) (B 4) ["tape", "many"] (spOf K 2 sp__law_next) := ok__law_next T
  refine fn_ok (ws := w__law_inner) T.d__law_inner.fn sc__law_inner rfl (fun cdv A outer s H E hr => ?_) pk__law_inner
  exact (dss_cons (ds_parE 4 5 (by decide) (fun _ h => ps_par rfl sc__law_inner.nd rfl rfl (by decide) rfl rfl h (by rfl)))
      (dss_cons (ds_for PassesOwn.never rfl (di_rng1 (by rfl) T.z_range (da_cons (de_call G__law_next (hr.mono (by decide)) (by rfl) T.d__law_next.gl T.d__law_next.fn.kp T.d__law_next.bd (da_cons (de_var 0 (pv 0)) (da_cons de_int da_nil))) da_nil)) (dg_var 3 (pg_name (i := 3) sc__law_inner.nd rfl (by first | exact .inl rfl | exact .inr rfl))) (dss_cons (ds_set 6 (de_ix (de_var 1 (pv 1)) (de_call G__law_next (hr.mono (by decide)) (by rfl) T.d__law_next.gl T.d__law_next.fn.kp T.d__law_next.bd (da_cons (de_var 0 (pv 0)) (da_cons (de_lenM (by rfl) T.z_len PySem.boot_len (de_var 1 (pv 1))) da_nil))) (fun _ _ => rfl)) (fun _ he => ps_set (i := 6) sc__law_inner.nd rfl (by first | exact .inl rfl | exact .inr rfl) he))
      (dss_cons (ds_set 7 (de_ix (de_new (dn_lst (da_cons de_str (da_cons de_str (da_cons de_str (da_cons de_str (da_cons de_str da_nil))))))) (de_call G__law_next (hr.mono (by decide)) (by rfl) T.d__law_next.gl T.d__law_next.fn.kp T.d__law_next.bd (da_cons (de_var 0 (pv 0)) (da_cons de_int da_nil))) (fun _ _ => rfl)) (fun _ he => ps_set (i := 7) sc__law_inner.nd rfl (by first | exact .inl rfl | exact .inr rfl) he))
      (dss_cons (ds_app 4 (pv 4) (de_op ov_add (de_op ov_add (de_op ov_add (de_var 7 (pv 7)) de_str) (de_var 6 (pv 6))) de_str) (fun _ _ hx he => pe_bm PySem.F.plainAttrs_list PySem.F.slot_list_append PySem.F.type_list_append mt_append hx (pa_cons he pa_nil)))
      (dss_one (ds_app 5 (pv 5) (de_tup (da_cons de_str (da_cons (de_upper (de_var 7 (pv 7))) (da_cons (de_tup (da_cons (de_var 6 (pv 6)) da_nil)) da_nil)))) (fun _ _ hx he => pe_bm PySem.F.plainAttrs_list PySem.F.slot_list_append PySem.F.type_list_append mt_append hx (pa_cons he pa_nil))))))))
      (dss_one (ds_ret (de_tup (da_cons (de_join de_str (de_var 4 (pv 4))) (da_cons (de_cty cv_tup (by rfl) T.z_tuple (by decide +kernel) (da_cons (de_var 5 (pv 5)) da_nil)) da_nil)))))))
theorem ok__law_spoilt (T : Txt K mg A B) : FnOk P w K mg base CX0 2 (A 11) (B 11) ["tape"] (spOf K 1 sp__law_spoilt) := by
  have G__law_next : FnOk P w K mg base CX0 1 (A 4) (B 4) ["tape", "many"] (spOf K 2 sp__law_next) := ok__law_next T
  refine fn_ok (ws := w__law_spoilt) T.d__law_spoilt.fn sc__law_spoilt rfl (fun cdv A outer s H E hr => ?_) pk__law_spoilt
  exact (dss_one (ds_ret (de_ix (de_new (dn_lst (da_cons (de_tup (da_cons de_str (da_cons de_str da_nil))) (da_cons (de_tup (da_cons de_str (da_cons de_str (da_cons (de_tup (da_cons de_str da_nil)) da_nil)))) (da_cons (de_tup (da_cons de_str (da_cons de_str (da_cons (de_tup (da_cons de_str (da_cons de_str da_nil))) da_nil)))) (da_cons (de_tup (da_cons de_str (da_cons (de_tup (da_cons de_str (da_cons de_str da_nil))) da_nil))) (da_cons (de_tup (da_cons de_str (da_cons de_str da_nil))) (da_cons (de_tup (da_cons de_str (da_cons de_str da_nil))) (da_cons (de_tup (da_cons de_str (da_cons de_str (da_cons de_str da_nil)))) (da_cons (de_tup (da_cons de_str (da_cons (de_tup (da_cons de_str (da_cons de_int da_nil))) (da_cons (de_tup (da_cons (de_tup (da_cons de_str (da_cons de_str da_nil))) da_nil)) (da_cons (de_tup da_nil) da_nil))))) (da_cons (de_tup (da_cons de_str (da_cons (de_call G__law_next (hr.mono (by decide)) (by rfl) T.d__law_next.gl T.d__law_next.fn.kp T.d__law_next.bd (da_cons (de_var 0 (pv 0)) (da_cons de_int da_nil))) (da_cons (de_tup (da_cons (de_tup (da_cons de_str (da_cons de_str da_nil))) da_nil)) da_nil)))) (da_cons (de_tup (da_cons de_str (da_cons de_int (da_cons (de_tup (da_cons (de_tup (da_cons de_str (da_cons de_str (da_cons de_str da_nil)))) da_nil)) da_nil)))) (da_cons (de_tup (da_cons de_str (da_cons (de_tup (da_cons de_str (da_cons de_int da_nil))) (da_cons (de_tup (da_cons (de_tup (da_cons de_str (da_cons de_str (da_cons de_str da_nil)))) da_nil)) (da_cons (de_tup da_nil) da_nil))))) (da_cons (de_tup (da_cons de_str (da_cons (de_tup (da_cons de_str (da_cons (de_tup (da_cons de_str (da_cons (de_tup (da_cons de_str (da_cons de_str da_nil))) (da_cons (de_tup (da_cons de_str (da_cons de_str da_nil))) da_nil)))) da_nil))) da_nil))) (da_cons (de_tup (da_cons de_str (da_cons de_int (da_cons (de_tup (da_cons (de_tup (da_cons de_str (da_cons de_str da_nil))) (da_cons (de_tup (da_cons de_str (da_cons de_str da_nil))) da_nil))) da_nil)))) (da_cons (de_tup (da_cons de_str (da_cons (de_tup (da_cons de_str (da_cons de_str da_nil))) (da_cons (de_tup (da_cons (de_tup (da_cons de_str (da_cons de_str (da_cons de_str da_nil)))) da_nil)) (da_cons (de_tup (da_cons (de_tup (da_cons de_str (da_cons de_str (da_cons de_str da_nil)))) (da_cons (de_tup (da_cons de_str (da_cons de_str (da_cons (de_tup (da_cons de_str da_nil)) da_nil)))) da_nil))) da_nil))))) da_nil)))))))))))))))) (de_call G__law_next (hr.mono (by decide)) (by rfl) T.d__law_next.gl T.d__law_next.fn.kp T.d__law_next.bd (da_cons (de_var 0 (pv 0)) (da_cons de_int da_nil))) (fun _ _ => rfl))))
theorem okn_bits_of (T : Txt K mg A B) : ∀ n : Nat, FnOk P w K mg base CX0 (0 + n) (A 0) (B 0) ["condition"] (spOf K 1 (spn_bits_of n))
  | 0 => fn_none
  | n + 1 => by
    have G_bits_of : FnOk P w K mg base CX0 (0 + n) (A 0) (B 0) ["condition"] (spOf K 1 (spn_bits_of n)) := okn_bits_of T n
    refine fn_ok (ws := w_bits_of (spn_bits_of n)) T.d_bits_of.fn sc_bits_of rfl (fun cdv A outer s H E hr => ?_) (pk_bits_of n)
    exact (dss_cons (ds_if (dt_cmp (ov_eq hr.units) (de_ix (de_var 0 (pv 0)) de_int (fun _ _ => rfl)) de_str (nomark _)) (dss_one (ds_ret (de_new (dn_lst (da_cons (de_ix (de_var 0 (pv 0)) de_int (fun _ _ => rfl)) da_nil))))) dss_nil)
      (dss_cons (ds_if (dt_cmp (ov_eq hr.units) (de_ix (de_var 0 (pv 0)) de_int (fun _ _ => rfl)) de_str (nomark _)) (dss_one (ds_ret (de_new (dn_lst da_nil)))) dss_nil)
      (dss_cons (ds_setO 1 (dn_lst da_nil) (fun _ he => ps_set (i := 1) sc_bits_of.nd rfl (by first | exact .inl rfl | exact .inr rfl) he))
      (dss_cons (ds_for PassesOwn.never rfl (di_tup (de_sl (de_var 0 (pv 0)) (do_some de_int) do_none)) (dg_var 2 (pg_name (i := 2) sc_bits_of.nd rfl (by first | exact .inl rfl | exact .inr rfl))) (dss_one (ds_ext 1 (pv 1) (de_call G_bits_of (hr.mono (Nat.le_refl _)) (by rfl) T.d_bits_of.gl T.d_bits_of.fn.kp T.d_bits_of.bd (da_cons (de_var 2 (pv 2)) da_nil)) (fun _ _ hx he => pe_bm PySem.F.plainAttrs_list PySem.F.slot_list_extend PySem.F.type_list_extend mt_extend hx (pa_cons he pa_nil)))))
      (dss_one (ds_ret (de_var 1 (pv 1))))))))
theorem ok_bits_of (T : Txt K mg A B) : FnOk P w K mg base CX0 4 (A 0) (B 0) ["condition"] (spOf K 1 sp_bits_of) := okn_bits_of T 4
theorem okn__law_condition (T : Txt K mg A B) : ∀ n : Nat, FnOk P w K mg base CX0 (1 + n) (A 5) (B 5) ["tape", "bits", "depth"] (spOf K 3 (spn__law_condition n))
  | 0 => fn_none
  | n + 1 => by
    have G__law_next : FnOk P w K mg base CX0 1 (A 4) (B 4) ["tape", "many"] (spOf K 2 sp__law_next) := ok__law_next T
    have G__law_condition : FnOk P w K mg base CX0 (1 + n) (A 5) (B 5) ["tape", "bits", "depth"] (spOf K 3 (spn__law_condition n)) := okn__law_condition T n
    refine fn_ok (ws := w__law_condition (spn__law_condition n)) T.d__law_condition.fn sc__law_condition rfl (fun cdv A outer s H E hr => ?_) (pk__law_condition n)
    exact (dss_cons (ds_set 3 (de_call G__law_next (hr.mono (le_rec (by decide))) (by rfl) T.d__law_next.gl T.d__law_next.fn.kp T.d__law_next.bd (da_cons (de_var 0 (pv 0)) (da_cons de_int da_nil))) (fun _ he => ps_set (i := 3) sc__law_condition.nd rfl (by first | exact .inl rfl | exact .inr rfl) he))
      (dss_cons (ds_if (DW.pt (dw_and (dt_cmp ov_lt (de_var 3 (pv 3)) de_int (nomark _)) (dw_and1 (dt_truM (de_var 1 (pv 1)))))) (dss_cons (ds_set 5 (de_ix (de_var 1 (pv 1)) (de_call G__law_next (hr.mono (le_rec (by decide))) (by rfl) T.d__law_next.gl T.d__law_next.fn.kp T.d__law_next.bd (da_cons (de_var 0 (pv 0)) (da_cons (de_lenM (by rfl) T.z_len PySem.boot_len (de_var 1 (pv 1))) da_nil))) (fun _ _ => rfl)) (fun _ he => ps_set (i := 5) sc__law_condition.nd rfl (by first | exact .inl rfl | exact .inr rfl) he))
      (dss_one (ds_ret (de_tup (da_cons (de_var 5 (pv 5)) (da_cons (de_tup (da_cons de_str (da_cons (de_var 5 (pv 5)) da_nil))) da_nil)))))) dss_nil)
      (dss_cons (ds_if (DW.pt (dw_or (dt_cmp ov_lt (de_var 3 (pv 3)) de_int (nomark _)) (dw_or1 (dt_cmp (ov_eq hr.units) (de_var 2 (pv 2)) de_int (nomark _))))) (dss_cons (ds_set 6 (de_call G__law_next (hr.mono (le_rec (by decide))) (by rfl) T.d__law_next.gl T.d__law_next.fn.kp T.d__law_next.bd (da_cons (de_var 0 (pv 0)) (da_cons de_int da_nil))) (fun _ he => ps_set (i := 6) sc__law_condition.nd rfl (by first | exact .inl rfl | exact .inr rfl) he))
      (dss_one (ds_ret (de_tup (da_cons (de_cty cv_str (by rfl) T.z_str (by decide +kernel) (da_cons (de_var 6 (pv 6)) da_nil)) (da_cons (de_tup (da_cons de_str (da_cons (de_var 6 (pv 6)) da_nil))) da_nil)))))) dss_nil)
      (dss_cons (ds_asg (de_call G__law_condition (hr.mono (Nat.le_refl _)) (by rfl) T.d__law_condition.gl T.d__law_condition.fn.kp T.d__law_condition.bd (da_cons (de_var 0 (pv 0)) (da_cons (de_var 1 (pv 1)) (da_cons (de_op ov_sub (de_var 2 (pv 2)) de_int) da_nil)))) (dg_tup rfl (dgs_cons (dg_var 7 (pg_name (i := 7) sc__law_condition.nd rfl (by first | exact .inl rfl | exact .inr rfl))) (dgs_cons (dg_var 8 (pg_name (i := 8) sc__law_condition.nd rfl (by first | exact .inl rfl | exact .inr rfl))) dgs_nil))))
      (dss_cons (ds_if (dt_cmp (ov_eq hr.units) (de_var 3 (pv 3)) de_int (nomark _)) (dss_one (ds_ret (de_tup (da_cons (de_op ov_add de_str (de_var 7 (pv 7))) (da_cons (de_tup (da_cons de_str (da_cons (de_var 8 (pv 8)) da_nil))) da_nil))))) dss_nil)
      (dss_cons (ds_if (dt_cmp (ov_eq hr.units) (de_var 3 (pv 3)) de_int (nomark _)) (dss_one (ds_ret (de_tup (da_cons (de_op ov_add (de_op ov_add de_str (de_var 7 (pv 7))) de_str) (da_cons (de_var 8 (pv 8)) da_nil))))) dss_nil)
      (dss_cons (ds_set 4 (de_ix (de_new (dn_lst (da_cons de_str (da_cons de_str (da_cons de_str da_nil))))) (de_call G__law_next (hr.mono (le_rec (by decide))) (by rfl) T.d__law_next.gl T.d__law_next.fn.kp T.d__law_next.bd (da_cons (de_var 0 (pv 0)) (da_cons de_int da_nil))) (fun _ _ => rfl)) (fun _ he => ps_set (i := 4) sc__law_condition.nd rfl (by first | exact .inl rfl | exact .inr rfl) he))
      (dss_cons (ds_asg (de_call G__law_condition (hr.mono (Nat.le_refl _)) (by rfl) T.d__law_condition.gl T.d__law_condition.fn.kp T.d__law_condition.bd (da_cons (de_var 0 (pv 0)) (da_cons (de_var 1 (pv 1)) (da_cons (de_op ov_sub (de_var 2 (pv 2)) de_int) da_nil)))) (dg_tup rfl (dgs_cons (dg_var 9 (pg_name (i := 9) sc__law_condition.nd rfl (by first | exact .inl rfl | exact .inr rfl))) (dgs_cons (dg_var 10 (pg_name (i := 10) sc__law_condition.nd rfl (by first | exact .inl rfl | exact .inr rfl))) dgs_nil))))
      (dss_one (ds_ret (de_tup (da_cons (de_op ov_add (de_op ov_add (de_op ov_add (de_op ov_add (de_op ov_add (de_op ov_add de_str (de_var 7 (pv 7))) de_str) (de_var 4 (pv 4))) de_str) (de_var 9 (pv 9))) de_str) (da_cons (de_tup (da_cons (de_var 4 (pv 4)) (da_cons (de_var 8 (pv 8)) (da_cons (de_var 10 (pv 10)) da_nil)))) da_nil)))))))))))))
theorem ok__law_condition (T : Txt K mg A B) : FnOk P w K mg base CX0 4 (A 5) (B 5) ["tape", "bits", "depth"] (spOf K 3 sp__law_condition) := okn__law_condition T 3
theorem okn__law_bits (T : Txt K mg A B) : ∀ n : Nat, FnOk P w K mg base CX0 (0 + n) (A 9) (B 9) ["condition"] (spOf K 1 (spn__law_bits n))
  | 0 => fn_none
  | n + 1 => by
    have G__law_bits : FnOk P w K mg base CX0 (0 + n) (A 9) (B 9) ["condition"] (spOf K 1 (spn__law_bits n)) := okn__law_bits T n
    refine fn_ok (ws := w__law_bits (spn__law_bits n)) T.d__law_bits.fn sc__law_bits rfl (fun cdv A outer s H E hr => ?_) (pk__law_bits n)
    exact (dss_cons (ds_if (dt_cmp (ov_eq hr.units) (de_ix (de_var 0 (pv 0)) de_int (fun _ _ => rfl)) de_str (nomark _)) (dss_one (ds_ret (de_new (dn_lst (da_cons (de_ix (de_var 0 (pv 0)) de_int (fun _ _ => rfl)) da_nil))))) dss_nil)
      (dss_cons (ds_if (dt_cmp (ov_eq hr.units) (de_ix (de_var 0 (pv 0)) de_int (fun _ _ => rfl)) de_str (nomark _)) (dss_one (ds_ret (de_new (dn_lst da_nil)))) dss_nil)
      (dss_cons (ds_set 1 (de_new (dn_lst da_nil)) (fun _ he => ps_set (i := 1) sc__law_bits.nd rfl (by first | exact .inl rfl | exact .inr rfl) he))
      (dss_cons (ds_for PassesOwn.never rfl (di_tup (de_sl (de_var 0 (pv 0)) (do_some de_int) do_none)) (dg_var 2 (pg_name (i := 2) sc__law_bits.nd rfl (by first | exact .inl rfl | exact .inr rfl))) (dss_one (ds_set 1 (de_op ov_add (de_var 1 (pv 1)) (de_call G__law_bits (hr.mono (Nat.le_refl _)) (by rfl) T.d__law_bits.gl T.d__law_bits.fn.kp T.d__law_bits.bd (da_cons (de_var 2 (pv 2)) da_nil))) (fun _ he => ps_set (i := 1) sc__law_bits.nd rfl (by first | exact .inl rfl | exact .inr rfl) he))))
      (dss_one (ds_ret (de_var 1 (pv 1))))))))
theorem ok__law_bits (T : Txt K mg A B) : FnOk P w K mg base CX0 4 (A 9) (B 9) ["condition"] (spOf K 1 sp__law_bits) := okn__law_bits T 4
theorem ok_word_of (T : Txt K mg A B) : FnOk P w K mg base CX0 5 (A 1) (B 1) ["statement", "there", "bits"] (spOf K 3 sp_word_of) := by
  have G_bits_of : FnOk P w K mg base CX0 4 (A 0) (B 0) ["condition"] (spOf K 1 sp_bits_of) := ok_bits_of T
  refine fn_ok (ws := w_word_of) T.d_word_of.fn sc_word_of rfl (fun cdv A outer s H E hr => ?_) pk_word_of
  exact (dss_cons (ds_set 3 (de_ix (de_var 0 (pv 0)) de_int (fun _ _ => rfl)) (fun _ he => ps_set (i := 3) sc_word_of.nd rfl (by first | exact .inl rfl | exact .inr rfl) he))
      (dss_cons (ds_if (dt_cmp (ov_eq hr.units) (de_var 3 (pv 3)) de_str (nomark _)) (dss_one (ds_ret (de_if (dt_tru (de_cb (cv_all rfl) (by rfl) T.z_all (by decide +kernel) (da_cons (de_new (dn_lc (own := [("bit", 6)]) rfl sc_word_of.nd (di_list (de_call G_bits_of (hr.mono (by decide)) (by rfl) T.d_bits_of.gl T.d_bits_of.fn.kp T.d_bits_of.bd (da_cons (de_ix (de_var 0 (pv 0)) de_int (fun _ _ => rfl)) da_nil))) (blkOk_by (N := ["statement", "there", "bits", "kind", "qubits", "qubit", "bit"]) (sc := defScope s_word_of) (by decide +kernel)) (tg_one (by decide)) (fun _ _ _ _ _ => pg_name (i := 6) sc_word_of.nd rfl (Or.inl rfl)) (fun _ _ _ _ _ => pts_x0) (fun _ _ _ _ _ => (de_cmp (ov_inD (Room65 hr)) (de_var 6 (pv 6)) (de_var 2 (pv 2)) (by rfl))))) da_nil))) de_str de_str))) dss_nil)
      (dss_cons (ds_if (dt_cmp (ov_eq hr.units) (de_var 3 (pv 3)) de_str (nomark _)) (dss_cons (ds_if (dt_cmp (ov_inD (Room65 hr)) (de_ix (de_var 0 (pv 0)) de_int (fun _ _ => rfl)) (de_var 1 (pv 1)) (by rfl)) (dss_one (ds_ret de_str)) dss_nil)
      (dss_one (ds_ret (de_if (dt_cmp ov_ge (de_cb cv_len (by rfl) T.z_len (by decide +kernel) (da_cons (de_var 1 (pv 1)) da_nil)) (T.c_MOST_QUBITS.de rfl) (nomark _)) de_str de_str)))) dss_nil)
      (dss_cons (ds_set 4 (de_if (dt_cmp (ov_eq hr.units) (de_var 3 (pv 3)) de_str (nomark _)) (de_ix (de_var 0 (pv 0)) de_int (fun _ _ => rfl)) (de_tup (da_cons (de_ix (de_var 0 (pv 0)) de_int (fun _ _ => rfl)) da_nil))) (fun _ he => ps_set (i := 4) sc_word_of.nd rfl (by first | exact .inl rfl | exact .inr rfl) he))
      (dss_cons (ds_if (dt_not (dt_tru (de_cb (cv_all rfl) (by rfl) T.z_all (by decide +kernel) (da_cons (de_new (dn_lc (own := [("qubit", 5)]) rfl sc_word_of.nd (di_tup (de_var 4 (pv 4))) (blkOk_by (N := ["statement", "there", "bits", "kind", "qubits", "qubit", "bit"]) (sc := defScope s_word_of) (by decide +kernel)) (tg_one (by decide)) (fun _ _ _ _ _ => pg_name (i := 5) sc_word_of.nd rfl (Or.inl rfl)) (fun _ _ _ _ _ => pts_x0) (fun _ _ _ _ _ => (de_cmp (ov_inD (Room65 hr)) (de_var 5 (pv 5)) (de_var 1 (pv 1)) (by rfl))))) da_nil)))) (dss_one (ds_ret de_str)) dss_nil)
      (dss_one (ds_ret (de_if (DW.pt (dw_and (dt_cmp (ov_eq hr.units) (de_cb cv_len (by rfl) T.z_len (by decide +kernel) (da_cons (de_var 4 (pv 4)) da_nil)) de_int (nomark _)) (dw_and1 (dt_cmp (ov_eq hr.units) (de_ix (de_var 4 (pv 4)) de_int (fun _ _ => rfl)) (de_ix (de_var 4 (pv 4)) de_int (fun _ _ => rfl)) (nomark _))))) de_str de_str))))))))
theorem ok__law_program (T : Txt K mg A B) : FnOk P w K mg base CX0 5 (A 7) (B 7) ["tape", "many", "there", "bits", "depth"] (spOf K 5 sp__law_program) := by
  have G__law_next : FnOk P w K mg base CX0 1 (A 4) (B 4) ["tape", "many"] (spOf K 2 sp__law_next) := ok__law_next T
  have G__law_condition : FnOk P w K mg base CX0 4 (A 5) (B 5) ["tape", "bits", "depth"] (spOf K 3 sp__law_condition) := ok__law_condition T
  have G__law_inner : FnOk P w K mg base CX0 2 (A 8) (B 8) ["tape", "there", "bits"] (spOf K 3 sp__law_inner) := ok__law_inner T
  have G__law_simple : FnOk P w K mg base CX0 2 (A 6) (B 6) ["tape", "there", "bits"] (spOf K 3 sp__law_simple) := ok__law_simple T
  refine fn_ok (ws := w__law_program) T.d__law_program.fn sc__law_program rfl (fun cdv A outer s H E hr => ?_) pk__law_program
  exact (dss_cons (ds_setO 5 (dn_lst da_nil) (fun _ he => ps_set (i := 5) sc__law_program.nd rfl (by first | exact .inl rfl | exact .inr rfl) he))
      (dss_cons (ds_setO 6 (dn_lst da_nil) (fun _ he => ps_set (i := 6) sc__law_program.nd rfl (by first | exact .inl rfl | exact .inr rfl) he))
      (dss_cons (ds_for PassesOwn.never rfl (di_rng1 (by rfl) T.z_range (da_cons (de_var 1 (pv 1)) da_nil)) (dg_var 7 (pg_name (i := 7) sc__law_program.nd rfl (by first | exact .inl rfl | exact .inr rfl))) (dss_cons (ds_set 8 (de_call G__law_next (hr.mono (by decide)) (by rfl) T.d__law_next.gl T.d__law_next.fn.kp T.d__law_next.bd (da_cons (de_var 0 (pv 0)) (da_cons de_int da_nil))) (fun _ he => ps_set (i := 8) sc__law_program.nd rfl (by first | exact .inl rfl | exact .inr rfl) he))
      (dss_one (ds_if (dt_cmp (ov_eq hr.units) (de_var 8 (pv 8)) de_int (nomark _)) (dss_cons (ds_asg (de_call G__law_condition (hr.mono (by decide)) (by rfl) T.d__law_condition.gl T.d__law_condition.fn.kp T.d__law_condition.bd (da_cons (de_var 0 (pv 0)) (da_cons (de_var 3 (pv 3)) (da_cons de_int da_nil)))) (dg_tup rfl (dgs_cons (dg_var 9 (pg_name (i := 9) sc__law_program.nd rfl (by first | exact .inl rfl | exact .inr rfl))) (dgs_cons (dg_var 10 (pg_name (i := 10) sc__law_program.nd rfl (by first | exact .inl rfl | exact .inr rfl))) dgs_nil))))
      (dss_cons (ds_app 5 (pv 5) (de_op ov_add (de_op ov_add de_str (de_var 9 (pv 9))) de_str) (fun _ _ hx he => pe_bm PySem.F.plainAttrs_list PySem.F.slot_list_append PySem.F.type_list_append mt_append hx (pa_cons he pa_nil)))
      (dss_one (ds_app 6 (pv 6) (de_tup (da_cons de_str (da_cons (de_var 10 (pv 10)) da_nil))) (fun _ _ hx he => pe_bm PySem.F.plainAttrs_list PySem.F.slot_list_append PySem.F.type_list_append mt_append hx (pa_cons he pa_nil)))))) (dss_one (ds_if (DW.pt (dw_and (dt_cmp (ov_eq hr.units) (de_var 8 (pv 8)) de_int (nomark _)) (dw_and (dt_cmp ov_gt (de_var 4 (pv 4)) de_int (nomark _)) (dw_and1 (dt_truM (de_var 2 (pv 2))))))) (dss_cons (ds_asg (de_call G__law_condition (hr.mono (by decide)) (by rfl) T.d__law_condition.gl T.d__law_condition.fn.kp T.d__law_condition.bd (da_cons (de_var 0 (pv 0)) (da_cons (de_var 3 (pv 3)) (da_cons de_int da_nil)))) (dg_tup rfl (dgs_cons (dg_var 9 (pg_name (i := 9) sc__law_program.nd rfl (by first | exact .inl rfl | exact .inr rfl))) (dgs_cons (dg_var 10 (pg_name (i := 10) sc__law_program.nd rfl (by first | exact .inl rfl | exact .inr rfl))) dgs_nil))))
      (dss_cons (ds_set 11 (de_call G__law_inner (hr.mono (by decide)) (by rfl) T.d__law_inner.gl T.d__law_inner.fn.kp T.d__law_inner.bd (da_cons (de_var 0 (pv 0)) (da_cons (de_var 2 (pv 2)) (da_cons (de_var 3 (pv 3)) da_nil)))) (fun _ he => ps_set (i := 11) sc__law_program.nd rfl (by first | exact .inl rfl | exact .inr rfl) he))
      (dss_cons (ds_set 12 (de_call G__law_inner (hr.mono (by decide)) (by rfl) T.d__law_inner.gl T.d__law_inner.fn.kp T.d__law_inner.bd (da_cons (de_var 0 (pv 0)) (da_cons (de_var 2 (pv 2)) (da_cons (de_var 3 (pv 3)) da_nil)))) (fun _ he => ps_set (i := 12) sc__law_program.nd rfl (by first | exact .inl rfl | exact .inr rfl) he))
      (dss_cons (ds_app 5 (pv 5) (de_op ov_add (de_op ov_add (de_op ov_add (de_op ov_add (de_op ov_add (de_op ov_add de_str (de_var 9 (pv 9))) de_str) (de_ix (de_var 11 (pv 11)) de_int (fun _ _ => rfl))) de_str) (de_ix (de_var 12 (pv 12)) de_int (fun _ _ => rfl))) de_str) (fun _ _ hx he => pe_bm PySem.F.plainAttrs_list PySem.F.slot_list_append PySem.F.type_list_append mt_append hx (pa_cons he pa_nil)))
      (dss_one (ds_app 6 (pv 6) (de_tup (da_cons de_str (da_cons (de_var 10 (pv 10)) (da_cons (de_ix (de_var 11 (pv 11)) de_int (fun _ _ => rfl)) (da_cons (de_ix (de_var 12 (pv 12)) de_int (fun _ _ => rfl)) da_nil))))) (fun _ _ hx he => pe_bm PySem.F.plainAttrs_list PySem.F.slot_list_append PySem.F.type_list_append mt_append hx (pa_cons he pa_nil)))))))) (dss_one (ds_if (DW.pt (dw_and (dt_cmp (ov_eq hr.units) (de_var 8 (pv 8)) de_int (nomark _)) (dw_and (dt_cmp ov_gt (de_var 4 (pv 4)) de_int (nomark _)) (dw_and1 (dt_truM (de_var 2 (pv 2))))))) (dss_cons (ds_set 13 (de_call G__law_inner (hr.mono (by decide)) (by rfl) T.d__law_inner.gl T.d__law_inner.fn.kp T.d__law_inner.bd (da_cons (de_var 0 (pv 0)) (da_cons (de_var 2 (pv 2)) (da_cons (de_var 3 (pv 3)) da_nil)))) (fun _ he => ps_set (i := 13) sc__law_program.nd rfl (by first | exact .inl rfl | exact .inr rfl) he))
      (dss_cons (ds_set 14 (de_call G__law_next (hr.mono (by decide)) (by rfl) T.d__law_next.gl T.d__law_next.fn.kp T.d__law_next.bd (da_cons (de_var 0 (pv 0)) (da_cons de_int da_nil))) (fun _ he => ps_set (i := 14) sc__law_program.nd rfl (by first | exact .inl rfl | exact .inr rfl) he))
      (dss_cons (ds_app 5 (pv 5) (de_op ov_add (de_op ov_add (de_op ov_add (de_op ov_add de_str (de_cty cv_str (by rfl) T.z_str (by decide +kernel) (da_cons (de_var 14 (pv 14)) da_nil))) de_str) (de_ix (de_var 13 (pv 13)) de_int (fun _ _ => rfl))) de_str) (fun _ _ hx he => pe_bm PySem.F.plainAttrs_list PySem.F.slot_list_append PySem.F.type_list_append mt_append hx (pa_cons he pa_nil)))
      (dss_one (ds_app 6 (pv 6) (de_tup (da_cons de_str (da_cons (de_var 14 (pv 14)) (da_cons (de_ix (de_var 13 (pv 13)) de_int (fun _ _ => rfl)) da_nil)))) (fun _ _ hx he => pe_bm PySem.F.plainAttrs_list PySem.F.slot_list_append PySem.F.type_list_append mt_append hx (pa_cons he pa_nil))))))) (dss_cons (ds_asg (de_call G__law_simple (hr.mono (by decide)) (by rfl) T.d__law_simple.gl T.d__law_simple.fn.kp T.d__law_simple.bd (da_cons (de_var 0 (pv 0)) (da_cons (de_var 2 (pv 2)) (da_cons (de_var 3 (pv 3)) da_nil)))) (dg_tup rfl (dgs_cons (dg_var 9 (pg_name (i := 9) sc__law_program.nd rfl (by first | exact .inl rfl | exact .inr rfl))) (dgs_cons (dg_var 10 (pg_name (i := 10) sc__law_program.nd rfl (by first | exact .inl rfl | exact .inr rfl))) dgs_nil))))
      (dss_cons (ds_app 5 (pv 5) (de_var 9 (pv 9)) (fun _ _ hx he => pe_bm PySem.F.plainAttrs_list PySem.F.slot_list_append PySem.F.type_list_append mt_append hx (pa_cons he pa_nil)))
      (dss_one (ds_app 6 (pv 6) (de_var 10 (pv 10)) (fun _ _ hx he => pe_bm PySem.F.plainAttrs_list PySem.F.slot_list_append PySem.F.type_list_append mt_append hx (pa_cons he pa_nil))))))))))))))
      (dss_one (ds_ret (de_tup (da_cons (de_join de_str (de_var 5 (pv 5))) (da_cons (de_var 6 (pv 6)) da_nil))))))))
theorem okn__law_walk (T : Txt K mg A B) : ∀ n : Nat, FnOk P w K mg base CX0 (4 + n) (A 10) (B 10) ["statements", "there", "bits"] (spOf K 3 (spn__law_walk n))
  | 0 => fn_none
  | n + 1 => by
    have G__law_bits : FnOk P w K mg base CX0 4 (A 9) (B 9) ["condition"] (spOf K 1 sp__law_bits) := ok__law_bits T
    have G__law_walk : FnOk P w K mg base CX0 (4 + n) (A 10) (B 10) ["statements", "there", "bits"] (spOf K 3 (spn__law_walk n)) := okn__law_walk T n
    refine fn_ok (ws := w__law_walk (spn__law_walk n)) T.d__law_walk.fn sc__law_walk rfl (fun cdv A outer s H E hr => ?_) (pk__law_walk n)
    exact (dss_cons (ds_for PassesOwn.never rfl (di_seq 0 (pv 0)) (dg_var 3 (pg_name (i := 3) sc__law_walk.nd rfl (by first | exact .inl rfl | exact .inr rfl))) (dss_cons (ds_set 4 (de_ix (de_var 3 (pv 3)) de_int (fun _ _ => rfl)) (fun _ he => ps_set (i := 4) sc__law_walk.nd rfl (by first | exact .inl rfl | exact .inr rfl) he))
      (dss_cons (ds_if (DW.pt (dw_and (dt_cmp (ov_inD (Room65 hr)) (de_var 4 (pv 4)) (de_tup (da_cons de_str (da_cons de_str da_nil))) (by rfl)) (dw_and1 (dt_cmp (ov_ne hr.units) (de_new (dn_lc (own := [("bit", 11)]) rfl sc__law_walk.nd (di_list (de_call G__law_bits (hr.mono (le_rec (by decide))) (by rfl) T.d__law_bits.gl T.d__law_bits.fn.kp T.d__law_bits.bd (da_cons (de_ix (de_var 3 (pv 3)) de_int (fun _ _ => rfl)) da_nil))) (blkOk_by (N := ["statements", "there", "bits", "one", "kind", "first", "second", "word", "behind", "some", "used", "bit", "name"]) (sc := defScope s__law_walk) (by decide +kernel)) (tg_one (by decide)) (fun _ _ _ _ _ => pg_name (i := 11) sc__law_walk.nd rfl (Or.inl rfl)) (fun _ _ _ _ _ => pts_x1 (dt_cmp (ov_notInD (Room65 hr)) (de_var 11 (pv 11)) (de_var 2 (pv 2)) (by rfl))) (fun _ _ _ _ _ => (de_var 11 (pv 11))))) (de_new (dn_lst da_nil)) (nomark _))))) (dss_one (ds_ret (de_tup (da_cons de_str (da_cons (de_var 1 (pv 1)) (da_cons (de_var 2 (pv 2)) da_nil)))))) dss_nil)
      (dss_one (ds_if (dt_cmp (ov_eq hr.units) (de_var 4 (pv 4)) de_str (nomark _)) (dss_cons (ds_set 5 (de_call G__law_walk (hr.mono (Nat.le_refl _)) (by rfl) T.d__law_walk.gl T.d__law_walk.fn.kp T.d__law_walk.bd (da_cons (de_ix (de_var 3 (pv 3)) de_int (fun _ _ => rfl)) (da_cons (de_var 1 (pv 1)) (da_cons (de_var 2 (pv 2)) da_nil)))) (fun _ he => ps_set (i := 5) sc__law_walk.nd rfl (by first | exact .inl rfl | exact .inr rfl) he))
      (dss_cons (ds_set 6 (de_call G__law_walk (hr.mono (Nat.le_refl _)) (by rfl) T.d__law_walk.gl T.d__law_walk.fn.kp T.d__law_walk.bd (da_cons (de_ix (de_var 3 (pv 3)) de_int (fun _ _ => rfl)) (da_cons (de_var 1 (pv 1)) (da_cons (de_var 2 (pv 2)) da_nil)))) (fun _ he => ps_set (i := 6) sc__law_walk.nd rfl (by first | exact .inl rfl | exact .inr rfl) he))
      (dss_cons (ds_for PassesOwn.never rfl (di_tup (de_tup (da_cons (de_ix (de_var 5 (pv 5)) de_int (fun _ _ => rfl)) (da_cons (de_ix (de_var 6 (pv 6)) de_int (fun _ _ => rfl)) da_nil)))) (dg_var 7 (pg_name (i := 7) sc__law_walk.nd rfl (by first | exact .inl rfl | exact .inr rfl))) (dss_one (ds_if (dt_cmp (ov_ne hr.units) (de_var 7 (pv 7)) de_str (nomark _)) (dss_one (ds_ret (de_tup (da_cons (de_var 7 (pv 7)) (da_cons (de_var 1 (pv 1)) (da_cons (de_var 2 (pv 2)) da_nil)))))) dss_nil)))
      (dss_cons (ds_if (dt_cmp (ov_ne hr.units) (de_cb cv_sortS (by rfl) T.z_sorted (by decide +kernel) (da_cons (de_ix (de_var 5 (pv 5)) de_int (fun _ _ => rfl)) da_nil)) (de_cb cv_sortS (by rfl) T.z_sorted (by decide +kernel) (da_cons (de_ix (de_var 6 (pv 6)) de_int (fun _ _ => rfl)) da_nil)) (nomark _)) (dss_one (ds_ret (de_tup (da_cons de_str (da_cons (de_var 1 (pv 1)) (da_cons (de_var 2 (pv 2)) da_nil)))))) dss_nil)
      (dss_one (ds_asg (de_tup (da_cons (de_ix (de_var 5 (pv 5)) de_int (fun _ _ => rfl)) (da_cons (de_new (dn_lc (own := [("bit", 11)]) rfl sc__law_walk.nd (di_list (de_ix (de_var 5 (pv 5)) de_int (fun _ _ => rfl))) (blkOk_by (N := ["statements", "there", "bits", "one", "kind", "first", "second", "word", "behind", "some", "used", "bit", "name"]) (sc := defScope s__law_walk) (by decide +kernel)) (tg_one (by decide)) (fun _ _ _ _ _ => pg_name (i := 11) sc__law_walk.nd rfl (Or.inl rfl)) (fun _ _ _ _ _ => pts_x1 (dt_cmp (ov_inD (Room65 hr)) (de_var 11 (pv 11)) (de_ix (de_var 6 (pv 6)) de_int (fun _ _ => rfl)) (by rfl))) (fun _ _ _ _ _ => (de_var 11 (pv 11))))) da_nil))) (dg_tup rfl (dgs_cons (dg_var 1 (pg_name (i := 1) sc__law_walk.nd rfl (by first | exact .inl rfl | exact .inr rfl))) (dgs_cons (dg_var 2 (pg_name (i := 2) sc__law_walk.nd rfl (by first | exact .inl rfl | exact .inr rfl))) dgs_nil))))))))) (dss_one (ds_if (dt_cmp (ov_eq hr.units) (de_var 4 (pv 4)) de_str (nomark _)) (dss_cons (ds_asg (de_call G__law_walk (hr.mono (Nat.le_refl _)) (by rfl) T.d__law_walk.gl T.d__law_walk.fn.kp T.d__law_walk.bd (da_cons (de_ix (de_var 3 (pv 3)) de_int (fun _ _ => rfl)) (da_cons (de_var 1 (pv 1)) (da_cons (de_var 2 (pv 2)) da_nil)))) (dg_tup rfl (dgs_cons (dg_var 7 (pg_name (i := 7) sc__law_walk.nd rfl (by first | exact .inl rfl | exact .inr rfl))) (dgs_cons (dg_var 8 (pg_name (i := 8) sc__law_walk.nd rfl (by first | exact .inl rfl | exact .inr rfl))) (dgs_cons (dg_var 9 (pg_name (i := 9) sc__law_walk.nd rfl (by first | exact .inl rfl | exact .inr rfl))) dgs_nil)))))
      (dss_cons (ds_if (DW.pt (dw_or (dt_cmp (ov_ne hr.units) (de_var 7 (pv 7)) de_str (nomark _)) (dw_or1 (dt_cmp (ov_ne hr.units) (de_cb cv_sortS (by rfl) T.z_sorted (by decide +kernel) (da_cons (de_var 8 (pv 8)) da_nil)) (de_cb cv_sortS (by rfl) T.z_sorted (by decide +kernel) (da_cons (de_var 1 (pv 1)) da_nil)) (nomark _))))) (dss_one (ds_ret (de_tup (da_cons (de_orS (de_var 7 (pv 7)) (de_one de_str)) (da_cons (de_var 1 (pv 1)) (da_cons (de_var 2 (pv 2)) da_nil)))))) dss_nil)
      (dss_one (ds_set 2 (de_if (dt_cmp ov_gt (de_ix (de_var 3 (pv 3)) de_int (fun _ _ => rfl)) de_int (nomark _)) (de_var 9 (pv 9)) (de_var 2 (pv 2))) (fun _ he => ps_set (i := 2) sc__law_walk.nd rfl (by first | exact .inl rfl | exact .inr rfl) he))))) (dss_one (ds_if (dt_cmp (ov_eq hr.units) (de_var 4 (pv 4)) de_str (nomark _)) (dss_cons (ds_if (DW.pt (dw_or (dt_cmp (ov_inD (Room65 hr)) (de_ix (de_var 3 (pv 3)) de_int (fun _ _ => rfl)) (de_var 1 (pv 1)) (by rfl)) (dw_or1 (dt_cmp ov_gt (de_cb cv_len (by rfl) T.z_len (by decide +kernel) (da_cons (de_var 1 (pv 1)) da_nil)) de_int (nomark _))))) (dss_one (ds_ret (de_tup (da_cons (de_if (dt_cmp (ov_inD (Room65 hr)) (de_ix (de_var 3 (pv 3)) de_int (fun _ _ => rfl)) (de_var 1 (pv 1)) (by rfl)) de_str de_str) (da_cons (de_var 1 (pv 1)) (da_cons (de_var 2 (pv 2)) da_nil)))))) dss_nil)
      (dss_one (ds_set 1 (de_op ov_add (de_var 1 (pv 1)) (de_new (dn_lst (da_cons (de_ix (de_var 3 (pv 3)) de_int (fun _ _ => rfl)) da_nil)))) (fun _ he => ps_set (i := 1) sc__law_walk.nd rfl (by first | exact .inl rfl | exact .inr rfl) he)))) (dss_one (ds_if (dt_cmp (ov_ne hr.units) (de_var 4 (pv 4)) de_str (nomark _)) (dss_cons (ds_set 10 (de_if (dt_cmp (ov_eq hr.units) (de_var 4 (pv 4)) de_str (nomark _)) (de_cty (cv_lstS rfl) (by rfl) T.z_list (by decide +kernel) (da_cons (de_ix (de_var 3 (pv 3)) de_int (fun _ _ => rfl)) da_nil)) (de_new (dn_lst (da_cons (de_ix (de_var 3 (pv 3)) de_int (fun _ _ => rfl)) da_nil)))) (fun _ he => ps_set (i := 10) sc__law_walk.nd rfl (by first | exact .inl rfl | exact .inr rfl) he))
      (dss_cons (ds_if (dt_cmp (ov_ne hr.units) (de_new (dn_lc (own := [("name", 12)]) rfl sc__law_walk.nd (di_list (de_var 10 (pv 10))) (blkOk_by (N := ["statements", "there", "bits", "one", "kind", "first", "second", "word", "behind", "some", "used", "bit", "name"]) (sc := defScope s__law_walk) (by decide +kernel)) (tg_one (by decide)) (fun _ _ _ _ _ => pg_name (i := 12) sc__law_walk.nd rfl (Or.inl rfl)) (fun _ _ _ _ _ => pts_x1 (dt_cmp (ov_notInD (Room65 hr)) (de_var 12 (pv 12)) (de_var 1 (pv 1)) (by rfl))) (fun _ _ _ _ _ => (de_var 12 (pv 12))))) (de_new (dn_lst da_nil)) (nomark _)) (dss_one (ds_ret (de_tup (da_cons de_str (da_cons (de_var 1 (pv 1)) (da_cons (de_var 2 (pv 2)) da_nil)))))) dss_nil)
      (dss_cons (ds_if (DW.pt (dw_and (dt_cmp (ov_eq hr.units) (de_cb cv_len (by rfl) T.z_len (by decide +kernel) (da_cons (de_var 10 (pv 10)) da_nil)) de_int (nomark _)) (dw_and1 (dt_cmp (ov_eq hr.units) (de_ix (de_var 10 (pv 10)) de_int (fun _ _ => rfl)) (de_ix (de_var 10 (pv 10)) de_int (fun _ _ => rfl)) (nomark _))))) (dss_one (ds_ret (de_tup (da_cons de_str (da_cons (de_var 1 (pv 1)) (da_cons (de_var 2 (pv 2)) da_nil)))))) dss_nil)
      (dss_cons (ds_if (dt_cmp (ov_eq hr.units) (de_var 4 (pv 4)) de_str (nomark _)) (dss_one (ds_set 1 (de_new (dn_lc (own := [("name", 12)]) rfl sc__law_walk.nd (di_list (de_var 1 (pv 1))) (blkOk_by (N := ["statements", "there", "bits", "one", "kind", "first", "second", "word", "behind", "some", "used", "bit", "name"]) (sc := defScope s__law_walk) (by decide +kernel)) (tg_one (by decide)) (fun _ _ _ _ _ => pg_name (i := 12) sc__law_walk.nd rfl (Or.inl rfl)) (fun _ _ _ _ _ => pts_x1 (dt_cmp (ov_ne hr.units) (de_var 12 (pv 12)) (de_ix (de_var 3 (pv 3)) de_int (fun _ _ => rfl)) (nomark _))) (fun _ _ _ _ _ => (de_var 12 (pv 12))))) (fun _ he => ps_set (i := 1) sc__law_walk.nd rfl (by first | exact .inl rfl | exact .inr rfl) he))) dss_nil)
      (dss_one (ds_if (dt_cmp (ov_eq hr.units) (de_var 4 (pv 4)) de_str (nomark _)) (dss_one (ds_set 2 (de_op ov_add (de_var 2 (pv 2)) (de_new (dn_lst (da_cons (de_ix (de_var 3 (pv 3)) de_int (fun _ _ => rfl)) da_nil)))) (fun _ he => ps_set (i := 2) sc__law_walk.nd rfl (by first | exact .inl rfl | exact .inr rfl) he))) dss_nil)))))) dss_nil)))))))))))
      (dss_one (ds_ret (de_tup (da_cons de_str (da_cons (de_var 1 (pv 1)) (da_cons (de_var 2 (pv 2)) da_nil)))))))
theorem ok__law_walk (T : Txt K mg A B) : FnOk P w K mg base CX0 6 (A 10) (B 10) ["statements", "there", "bits"] (spOf K 3 sp__law_walk) := okn__law_walk T 2
theorem okn_looked (T : Txt K mg A B) : ∀ n : Nat, FnOk P w K mg base CX0 (5 + n) (A 2) (B 2) ["statements", "there", "bits"] (spOf K 3 (spn_looked n))
  | 0 => fn_none
  | n + 1 => by
    have G_word_of : FnOk P w K mg base CX0 5 (A 1) (B 1) ["statement", "there", "bits"] (spOf K 3 sp_word_of) := ok_word_of T
    have G_bits_of : FnOk P w K mg base CX0 4 (A 0) (B 0) ["condition"] (spOf K 1 sp_bits_of) := ok_bits_of T
    have G_looked : FnOk P w K mg base CX0 (5 + n) (A 2) (B 2) ["statements", "there", "bits"] (spOf K 3 (spn_looked n)) := okn_looked T n
    refine fn_ok (ws := w_looked (spn_looked n)) T.d_looked.fn sc_looked rfl (fun cdv A outer s H E hr => ?_) (pk_looked n)
    exact (dss_cons (ds_for PassesOwn.never rfl (di_seq 0 (pv 0)) (dg_var 3 (pg_name (i := 3) sc_looked.nd rfl (by first | exact .inl rfl | exact .inr rfl))) (dss_cons (ds_set 4 (de_ix (de_var 3 (pv 3)) de_int (fun _ _ => rfl)) (fun _ he => ps_set (i := 4) sc_looked.nd rfl (by first | exact .inl rfl | exact .inr rfl) he))
      (dss_one (ds_if (dt_cmp (ov_eq hr.units) (de_var 4 (pv 4)) de_str (nomark _)) (dss_cons (ds_if (dt_not (dt_tru (de_cb (cv_all rfl) (by rfl) T.z_all (by decide +kernel) (da_cons (de_new (dn_lc (own := [("bit", 11)]) rfl sc_looked.nd (di_list (de_call G_bits_of (hr.mono (le_rec (by decide))) (by rfl) T.d_bits_of.gl T.d_bits_of.fn.kp T.d_bits_of.bd (da_cons (de_ix (de_var 3 (pv 3)) de_int (fun _ _ => rfl)) da_nil))) (blkOk_by (N := ["statements", "there", "bits", "statement", "kind", "word", "first", "some", "second", "others", "behind", "bit", "name"]) (sc := defScope s_looked) (by decide +kernel)) (tg_one (by decide)) (fun _ _ _ _ _ => pg_name (i := 11) sc_looked.nd rfl (Or.inl rfl)) (fun _ _ _ _ _ => pts_x0) (fun _ _ _ _ _ => (de_cmp (ov_inD (Room65 hr)) (de_var 11 (pv 11)) (de_var 2 (pv 2)) (by rfl))))) da_nil)))) (dss_one (ds_ret (de_tup (da_cons de_str (da_cons (de_var 1 (pv 1)) (da_cons (de_var 2 (pv 2)) da_nil)))))) dss_nil)
      (dss_cons (ds_asg (de_call G_looked (hr.mono (Nat.le_refl _)) (by rfl) T.d_looked.gl T.d_looked.fn.kp T.d_looked.bd (da_cons (de_ix (de_var 3 (pv 3)) de_int (fun _ _ => rfl)) (da_cons (de_var 1 (pv 1)) (da_cons (de_var 2 (pv 2)) da_nil)))) (dg_tup rfl (dgs_cons (dg_var 5 (pg_name (i := 5) sc_looked.nd rfl (by first | exact .inl rfl | exact .inr rfl))) (dgs_cons (dg_var 6 (pg_name (i := 6) sc_looked.nd rfl (by first | exact .inl rfl | exact .inr rfl))) (dgs_cons (dg_var 7 (pg_name (i := 7) sc_looked.nd rfl (by first | exact .inl rfl | exact .inr rfl))) dgs_nil)))))
      (dss_cons (ds_if (dt_cmp (ov_ne hr.units) (de_var 5 (pv 5)) de_str (nomark _)) (dss_one (ds_ret (de_tup (da_cons (de_var 5 (pv 5)) (da_cons (de_var 1 (pv 1)) (da_cons (de_var 2 (pv 2)) da_nil)))))) dss_nil)
      (dss_cons (ds_asg (de_call G_looked (hr.mono (Nat.le_refl _)) (by rfl) T.d_looked.gl T.d_looked.fn.kp T.d_looked.bd (da_cons (de_ix (de_var 3 (pv 3)) de_int (fun _ _ => rfl)) (da_cons (de_var 1 (pv 1)) (da_cons (de_var 2 (pv 2)) da_nil)))) (dg_tup rfl (dgs_cons (dg_var 5 (pg_name (i := 5) sc_looked.nd rfl (by first | exact .inl rfl | exact .inr rfl))) (dgs_cons (dg_var 8 (pg_name (i := 8) sc_looked.nd rfl (by first | exact .inl rfl | exact .inr rfl))) (dgs_cons (dg_var 9 (pg_name (i := 9) sc_looked.nd rfl (by first | exact .inl rfl | exact .inr rfl))) dgs_nil)))))
      (dss_cons (ds_if (dt_cmp (ov_ne hr.units) (de_var 5 (pv 5)) de_str (nomark _)) (dss_one (ds_ret (de_tup (da_cons (de_var 5 (pv 5)) (da_cons (de_var 1 (pv 1)) (da_cons (de_var 2 (pv 2)) da_nil)))))) dss_nil)
      (dss_cons (ds_if (dt_cmp (ov_ne hr.units) (de_var 6 (pv 6)) (de_var 8 (pv 8)) (nomark _)) (dss_one (ds_ret (de_tup (da_cons de_str (da_cons (de_var 1 (pv 1)) (da_cons (de_var 2 (pv 2)) da_nil)))))) dss_nil)
      (dss_one (ds_asg (de_tup (da_cons (de_var 6 (pv 6)) (da_cons (de_new (dn_lc (own := [("bit", 11)]) rfl sc_looked.nd (di_list (de_var 7 (pv 7))) (blkOk_by (N := ["statements", "there", "bits", "statement", "kind", "word", "first", "some", "second", "others", "behind", "bit", "name"]) (sc := defScope s_looked) (by decide +kernel)) (tg_one (by decide)) (fun _ _ _ _ _ => pg_name (i := 11) sc_looked.nd rfl (Or.inl rfl)) (fun _ _ _ _ _ => pts_x1 (dt_cmp (ov_inD (Room65 hr)) (de_var 11 (pv 11)) (de_var 9 (pv 9)) (by rfl))) (fun _ _ _ _ _ => (de_var 11 (pv 11))))) da_nil))) (dg_tup rfl (dgs_cons (dg_var 1 (pg_name (i := 1) sc_looked.nd rfl (by first | exact .inl rfl | exact .inr rfl))) (dgs_cons (dg_var 2 (pg_name (i := 2) sc_looked.nd rfl (by first | exact .inl rfl | exact .inr rfl))) dgs_nil))))))))))) (dss_one (ds_if (dt_cmp (ov_eq hr.units) (de_var 4 (pv 4)) de_str (nomark _)) (dss_cons (ds_asg (de_call G_looked (hr.mono (Nat.le_refl _)) (by rfl) T.d_looked.gl T.d_looked.fn.kp T.d_looked.bd (da_cons (de_ix (de_var 3 (pv 3)) de_int (fun _ _ => rfl)) (da_cons (de_var 1 (pv 1)) (da_cons (de_var 2 (pv 2)) da_nil)))) (dg_tup rfl (dgs_cons (dg_var 5 (pg_name (i := 5) sc_looked.nd rfl (by first | exact .inl rfl | exact .inr rfl))) (dgs_cons (dg_var 10 (pg_name (i := 10) sc_looked.nd rfl (by first | exact .inl rfl | exact .inr rfl))) (dgs_cons (dg_var 7 (pg_name (i := 7) sc_looked.nd rfl (by first | exact .inl rfl | exact .inr rfl))) dgs_nil)))))
      (dss_cons (ds_if (DW.pt (dw_and (dt_cmp (ov_eq hr.units) (de_var 5 (pv 5)) de_str (nomark _)) (dw_and1 (dt_cmp (ov_ne hr.units) (de_var 10 (pv 10)) (de_var 1 (pv 1)) (nomark _))))) (dss_one (ds_set 5 de_str (fun _ he => ps_set (i := 5) sc_looked.nd rfl (by first | exact .inl rfl | exact .inr rfl) he))) dss_nil)
      (dss_cons (ds_if (dt_cmp (ov_ne hr.units) (de_var 5 (pv 5)) de_str (nomark _)) (dss_one (ds_ret (de_tup (da_cons (de_var 5 (pv 5)) (da_cons (de_var 1 (pv 1)) (da_cons (de_var 2 (pv 2)) da_nil)))))) dss_nil)
      (dss_one (ds_set 2 (de_if (dt_cmp ov_gt (de_ix (de_var 3 (pv 3)) de_int (fun _ _ => rfl)) de_int (nomark _)) (de_var 7 (pv 7)) (de_var 2 (pv 2))) (fun _ he => ps_set (i := 2) sc_looked.nd rfl (by first | exact .inl rfl | exact .inr rfl) he)))))) (dss_cons (ds_set 5 (de_call G_word_of (hr.mono (le_rec (by decide))) (by rfl) T.d_word_of.gl T.d_word_of.fn.kp T.d_word_of.bd (da_cons (de_var 3 (pv 3)) (da_cons (de_var 1 (pv 1)) (da_cons (de_var 2 (pv 2)) da_nil)))) (fun _ he => ps_set (i := 5) sc_looked.nd rfl (by first | exact .inl rfl | exact .inr rfl) he))
      (dss_cons (ds_if (dt_cmp (ov_ne hr.units) (de_var 5 (pv 5)) de_str (nomark _)) (dss_one (ds_ret (de_tup (da_cons (de_var 5 (pv 5)) (da_cons (de_var 1 (pv 1)) (da_cons (de_var 2 (pv 2)) da_nil)))))) dss_nil)
      (dss_one (ds_if (dt_cmp (ov_eq hr.units) (de_var 4 (pv 4)) de_str (nomark _)) (dss_one (ds_set 1 (de_cb cv_sortS (by rfl) T.z_sorted (by decide +kernel) (da_cons (de_op ov_add (de_var 1 (pv 1)) (de_new (dn_lst (da_cons (de_ix (de_var 3 (pv 3)) de_int (fun _ _ => rfl)) da_nil)))) da_nil)) (fun _ he => ps_set (i := 1) sc_looked.nd rfl (by first | exact .inl rfl | exact .inr rfl) he))) (dss_one (ds_if (dt_cmp (ov_eq hr.units) (de_var 4 (pv 4)) de_str (nomark _)) (dss_one (ds_setLcF (own := [("name", 12)]) (i := 1) rfl sc_looked.nd rfl rfl (sw_true rfl rfl rfl (by decide +kernel)) (di_list (de_var 1 (pv 1))) (blkOk_by (N := ["statements", "there", "bits", "statement", "kind", "word", "first", "some", "second", "others", "behind", "bit", "name"]) (sc := defScope s_looked) (by decide +kernel)) (tg_one (by decide)) (fun _ _ _ _ _ => pg_name (i := 12) sc_looked.nd rfl (Or.inl rfl)) (fun _ _ _ _ _ => pts_x1 (dt_cmp (ov_ne hr.units) (de_var 12 (pv 12)) (de_ix (de_var 3 (pv 3)) de_int (fun _ _ => rfl)) (nomark _))) (fun _ _ _ _ _ => (de_var 12 (pv 12))))) (dss_one (ds_if (DW.pt (dw_and (dt_cmp (ov_eq hr.units) (de_var 4 (pv 4)) de_str (nomark _)) (dw_and1 (dt_cmp (ov_notInD (Room65 hr)) (de_ix (de_var 3 (pv 3)) de_int (fun _ _ => rfl)) (de_var 2 (pv 2)) (by rfl))))) (dss_one (ds_set 2 (de_op ov_add (de_var 2 (pv 2)) (de_new (dn_lst (da_cons (de_ix (de_var 3 (pv 3)) de_int (fun _ _ => rfl)) da_nil)))) (fun _ he => ps_set (i := 2) sc_looked.nd rfl (by first | exact .inl rfl | exact .inr rfl) he))) dss_nil))))))))))))))
      (dss_one (ds_ret (de_tup (da_cons de_str (da_cons (de_var 1 (pv 1)) (da_cons (de_var 2 (pv 2)) da_nil)))))))
theorem ok_looked (T : Txt K mg A B) : FnOk P w K mg base CX0 7 (A 2) (B 2) ["statements", "there", "bits"] (spOf K 3 sp_looked) := okn_looked T 2
theorem ok_fault_of (T : Txt K mg A B) : FnOk P w K mg base CX0 8 (A 3) (B 3) ["program"] (spOf K 1 sp_fault_of) := by
  have G_looked : FnOk P w K mg base CX0 7 (A 2) (B 2) ["statements", "there", "bits"] (spOf K 3 sp_looked) := ok_looked T
  refine fn_ok (ws := w_fault_of) T.d_fault_of.fn sc_fault_of rfl (fun cdv A outer s H E hr => ?_) pk_fault_of
  exact (dss_one (ds_ret (de_ix (de_call G_looked (hr.mono (by decide)) (by rfl) T.d_looked.gl T.d_looked.fn.kp T.d_looked.bd (da_cons (de_var 0 (pv 0)) (da_cons (de_new (dn_lst da_nil)) (da_cons (de_new (dn_lst da_nil)) da_nil)))) de_int (fun _ _ => rfl))))
theorem ok_law (T : Txt K mg A B) : FnOk P w K mg base CX0 9 (A 12) (B 12) ["script"] (spOf K 1 sp_law) := by
  have G__law_program : FnOk P w K mg base CX0 5 (A 7) (B 7) ["tape", "many", "there", "bits", "depth"] (spOf K 5 sp__law_program) := ok__law_program T
  have G__law_next : FnOk P w K mg base CX0 1 (A 4) (B 4) ["tape", "many"] (spOf K 2 sp__law_next) := ok__law_next T
  have G_fault_of : FnOk P w K mg base CX0 8 (A 3) (B 3) ["program"] (spOf K 1 sp_fault_of) := ok_fault_of T
  have G__law_walk : FnOk P w K mg base CX0 6 (A 10) (B 10) ["statements", "there", "bits"] (spOf K 3 sp__law_walk) := ok__law_walk T
  have G__law_spoilt : FnOk P w K mg base CX0 2 (A 11) (B 11) ["tape"] (spOf K 1 sp__law_spoilt) := ok__law_spoilt T
  refine fn_ok (ws := w_law) T.d_law.fn sc_law rfl (fun cdv A outer s H E hr => ?_) pk_law
  exact (dss_cons (ds_setM 1 (dn_lst (da_cons (de_cty (cv_lstS rfl) (by rfl) T.z_list (by decide +kernel) (da_cons (de_var 0 (pv 0)) da_nil)) (da_cons de_int (da_cons de_int (da_cons de_int da_nil))))) (fun _ he => ps_set (i := 1) sc_law.nd rfl (by first | exact .inl rfl | exact .inr rfl) he))
      (dss_cons (ds_for PassesOwn.never rfl (di_rng1 (by rfl) T.z_range (da_cons de_int da_nil)) (dg_var 2 (pg_name (i := 2) sc_law.nd rfl (by first | exact .inl rfl | exact .inr rfl))) (dss_cons (ds_asg (de_call G__law_program (hr.mono (by decide)) (by rfl) T.d__law_program.gl T.d__law_program.fn.kp T.d__law_program.bd (da_cons (de_var 1 (pv 1)) (da_cons (de_call G__law_next (hr.mono (by decide)) (by rfl) T.d__law_next.gl T.d__law_next.fn.kp T.d__law_next.bd (da_cons (de_var 1 (pv 1)) (da_cons de_int da_nil))) (da_cons (de_mut (dn_lst da_nil)) (da_cons (de_mut (dn_lst da_nil)) (da_cons de_int da_nil)))))) (dg_tup rfl (dgs_cons (dg_var 4 (pg_name (i := 4) sc_law.nd rfl (by first | exact .inl rfl | exact .inr rfl))) (dgs_cons (dg_var 5 (pg_name (i := 5) sc_law.nd rfl (by first | exact .inl rfl | exact .inr rfl))) dgs_nil))))
      (dss_cons (ds_if (dt_cmp (ov_ne hr.units) (de_call G_fault_of (hr.mono (by decide)) (by rfl) T.d_fault_of.gl T.d_fault_of.fn.kp T.d_fault_of.bd (da_cons (de_var 5 (pv 5)) da_nil)) de_str (nomark _)) (dss_one (ds_ret de_bl)) dss_nil)
      (dss_cons (ds_for PassesOwn.never rfl (di_rng1 (by rfl) T.z_range (da_cons (de_call G__law_next (hr.mono (by decide)) (by rfl) T.d__law_next.gl T.d__law_next.fn.kp T.d__law_next.bd (da_cons (de_var 1 (pv 1)) (da_cons de_int da_nil))) da_nil)) (dg_var 3 (pg_name (i := 3) sc_law.nd rfl (by first | exact .inl rfl | exact .inr rfl))) (dss_cons (ds_set 6 (de_call G__law_next (hr.mono (by decide)) (by rfl) T.d__law_next.gl T.d__law_next.fn.kp T.d__law_next.bd (da_cons (de_var 1 (pv 1)) (da_cons (de_op ov_add de_int (de_cb cv_len (by rfl) T.z_len (by decide +kernel) (da_cons (de_var 5 (pv 5)) da_nil))) da_nil))) (fun _ he => ps_set (i := 6) sc_law.nd rfl (by first | exact .inl rfl | exact .inr rfl) he))
      (dss_one (ds_set 5 (de_op ov_add (de_op ov_add (de_sl (de_var 5 (pv 5)) do_none (do_some (de_var 6 (pv 6)))) (de_new (dn_lst (da_cons (de_call G__law_spoilt (hr.mono (by decide)) (by rfl) T.d__law_spoilt.gl T.d__law_spoilt.fn.kp T.d__law_spoilt.bd (da_cons (de_var 1 (pv 1)) da_nil)) da_nil)))) (de_sl (de_var 5 (pv 5)) (do_some (de_var 6 (pv 6))) do_none)) (fun _ he => ps_set (i := 5) sc_law.nd rfl (by first | exact .inl rfl | exact .inr rfl) he)))))
      (dss_one (ds_if (dt_cmp (ov_ne hr.units) (de_call G_fault_of (hr.mono (by decide)) (by rfl) T.d_fault_of.gl T.d_fault_of.fn.kp T.d_fault_of.bd (da_cons (de_var 5 (pv 5)) da_nil)) (de_ix (de_call G__law_walk (hr.mono (by decide)) (by rfl) T.d__law_walk.gl T.d__law_walk.fn.kp T.d__law_walk.bd (da_cons (de_var 5 (pv 5)) (da_cons (de_new (dn_lst da_nil)) (da_cons (de_new (dn_lst da_nil)) da_nil)))) de_int (fun _ _ => rfl)) (nomark _)) (dss_one (ds_ret de_bl)) dss_nil))))))
      (dss_one (ds_ret de_bl))))
end
end K34

set_option Elab.async false
set_option linter.all false
set_option maxRecDepth 100000
set_option maxHeartbeats 4000000
namespace K34
open PySem PySem.Spec L2 VL
theorem all_mk {l : PySem.W.OpenLaw} {w : World} {K : PySem.W.Frag} {h : Heap} {mg : Str → Option Value} {fa : Addr} (X : K.In h) (G : h.Ns mainGlobals mg) (hfa : mg "law" = some (.ref fa))
    {f0 f1 f2 f3 f4 f5 f6 f7 f8 f9 f10 f11 f12 : Addr} {od0 an0 od1 an1 od2 an2 od3 an3 od4 an4 od5 an5 od6 an6 od7 an7 od8 an8 od9 an9 od10 an10 od11 an11 od12 an12 : Option Addr} {sl0 sl1 sl2 sl3 sl4 sl5 sl6 sl7 sl8 sl9 sl10 sl11 sl12 : Array (Option Value)} {oc0 kV0 dc0 pm0 cd0 ct0 oc1 kV1 dc1 pm1 cd1 ct1 oc2 kV2 dc2 pm2 cd2 ct2 oc3 kV3 dc3 pm3 cd3 ct3 oc4 kV4 dc4 pm4 cd4 ct4 oc5 kV5 dc5 pm5 cd5 ct5 oc6 kV6 dc6 pm6 cd6 ct6 oc7 kV7 dc7 pm7 cd7 ct7 oc8 kV8 dc8 pm8 cd8 ct8 oc9 kV9 dc9 pm9 cd9 ct9 oc10 kV10 dc10 pm10 cd10 ct10 oc11 kV11 dc11 pm11 cd11 ct11 oc12 kV12 dc12 pm12 cd12 ct12 : Value} {tMOST_QUBITS : Tok}
    (a0 : PySem.W.nsIn K mainGlobals "bits_of" = some (some (.ref f0))) (l0 : K.lookup f0 = some ⟨oc0, od0, .func (PySem.W.fnOf "bits_of" "bits_of" (defArgs s_bits_of) (defBody s_bits_of) (defScope s_bits_of) .none kV0 dc0 pm0 an0 cd0 ct0), sl0⟩) (c0 : PySem.W.codeIn K cd0 "bits_of" = true) (k0 : PySem.W.keepIn K (.ref f0) = true)
    (a1 : PySem.W.nsIn K mainGlobals "word_of" = some (some (.ref f1))) (l1 : K.lookup f1 = some ⟨oc1, od1, .func (PySem.W.fnOf "word_of" "word_of" (defArgs s_word_of) (defBody s_word_of) (defScope s_word_of) .none kV1 dc1 pm1 an1 cd1 ct1), sl1⟩) (c1 : PySem.W.codeIn K cd1 "word_of" = true) (k1 : PySem.W.keepIn K (.ref f1) = true)
    (a2 : PySem.W.nsIn K mainGlobals "looked" = some (some (.ref f2))) (l2 : K.lookup f2 = some ⟨oc2, od2, .func (PySem.W.fnOf "looked" "looked" (defArgs s_looked) (defBody s_looked) (defScope s_looked) .none kV2 dc2 pm2 an2 cd2 ct2), sl2⟩) (c2 : PySem.W.codeIn K cd2 "looked" = true) (k2 : PySem.W.keepIn K (.ref f2) = true)
    (a3 : PySem.W.nsIn K mainGlobals "fault_of" = some (some (.ref f3))) (l3 : K.lookup f3 = some ⟨oc3, od3, .func (PySem.W.fnOf "fault_of" "fault_of" (defArgs s_fault_of) (defBody s_fault_of) (defScope s_fault_of) .none kV3 dc3 pm3 an3 cd3 ct3), sl3⟩) (c3 : PySem.W.codeIn K cd3 "fault_of" = true) (k3 : PySem.W.keepIn K (.ref f3) = true)
    (a4 : PySem.W.nsIn K mainGlobals "_law_next" = some (some (.ref f4))) (l4 : K.lookup f4 = some ⟨oc4, od4, .func (PySem.W.fnOf "_law_next" "_law_next" (defArgs s__law_next) (defBody s__law_next) (defScope s__law_next) .none kV4 dc4 pm4 an4 cd4 ct4), sl4⟩) (c4 : PySem.W.codeIn K cd4 "_law_next" = true) (k4 : PySem.W.keepIn K (.ref f4) = true)
    (a5 : PySem.W.nsIn K mainGlobals "_law_condition" = some (some (.ref f5))) (l5 : K.lookup f5 = some ⟨oc5, od5, .func (PySem.W.fnOf "_law_condition" "_law_condition" (defArgs s__law_condition) (defBody s__law_condition) (defScope s__law_condition) .none kV5 dc5 pm5 an5 cd5 ct5), sl5⟩) (c5 : PySem.W.codeIn K cd5 "_law_condition" = true) (k5 : PySem.W.keepIn K (.ref f5) = true)
    (a6 : PySem.W.nsIn K mainGlobals "_law_simple" = some (some (.ref f6))) (l6 : K.lookup f6 = some ⟨oc6, od6, .func (PySem.W.fnOf "_law_simple" "_law_simple" (defArgs s__law_simple) (defBody s__law_simple) (defScope s__law_simple) .none kV6 dc6 pm6 an6 cd6 ct6), sl6⟩) (c6 : PySem.W.codeIn K cd6 "_law_simple" = true) (k6 : PySem.W.keepIn K (.ref f6) = true)
    (a7 : PySem.W.nsIn K mainGlobals "_law_program" = some (some (.ref f7))) (l7 : K.lookup f7 = some ⟨oc7, od7, .func (PySem.W.fnOf "_law_program" "_law_program" (defArgs s__law_program) (defBody s__law_program) (defScope s__law_program) .none kV7 dc7 pm7 an7 cd7 ct7), sl7⟩) (c7 : PySem.W.codeIn K cd7 "_law_program" = true) (k7 : PySem.W.keepIn K (.ref f7) = true)
    (a8 : PySem.W.nsIn K mainGlobals "_law_inner" = some (some (.ref f8))) (l8 : K.lookup f8 = some ⟨oc8, od8, .func (PySem.W.fnOf "_law_inner" "_law_inner" (defArgs s__law_inner) (defBody s__law_inner) (defScope s__law_inner) .none kV8 dc8 pm8 an8 cd8 ct8), sl8⟩) (c8 : PySem.W.codeIn K cd8 "_law_inner" = true) (k8 : PySem.W.keepIn K (.ref f8) = true)
    (a9 : PySem.W.nsIn K mainGlobals "_law_bits" = some (some (.ref f9))) (l9 : K.lookup f9 = some ⟨oc9, od9, .func (PySem.W.fnOf "_law_bits" "_law_bits" (defArgs s__law_bits) (defBody s__law_bits) (defScope s__law_bits) .none kV9 dc9 pm9 an9 cd9 ct9), sl9⟩) (c9 : PySem.W.codeIn K cd9 "_law_bits" = true) (k9 : PySem.W.keepIn K (.ref f9) = true)
    (a10 : PySem.W.nsIn K mainGlobals "_law_walk" = some (some (.ref f10))) (l10 : K.lookup f10 = some ⟨oc10, od10, .func (PySem.W.fnOf "_law_walk" "_law_walk" (defArgs s__law_walk) (defBody s__law_walk) (defScope s__law_walk) .none kV10 dc10 pm10 an10 cd10 ct10), sl10⟩) (c10 : PySem.W.codeIn K cd10 "_law_walk" = true) (k10 : PySem.W.keepIn K (.ref f10) = true)
    (a11 : PySem.W.nsIn K mainGlobals "_law_spoilt" = some (some (.ref f11))) (l11 : K.lookup f11 = some ⟨oc11, od11, .func (PySem.W.fnOf "_law_spoilt" "_law_spoilt" (defArgs s__law_spoilt) (defBody s__law_spoilt) (defScope s__law_spoilt) .none kV11 dc11 pm11 an11 cd11 ct11), sl11⟩) (c11 : PySem.W.codeIn K cd11 "_law_spoilt" = true) (k11 : PySem.W.keepIn K (.ref f11) = true)
    (a12 : PySem.W.nsIn K mainGlobals "law" = some (some (.ref f12))) (l12 : K.lookup f12 = some ⟨oc12, od12, .func (PySem.W.fnOf "law" "law" (defArgs s_law) (defBody s_law) (defScope s_law) .none kV12 dc12 pm12 an12 cd12 ct12), sl12⟩) (c12 : PySem.W.codeIn K cd12 "law" = true) (k12 : PySem.W.keepIn K (.ref f12) = true)
    (z_len : PySem.W.nsIn K mainGlobals "len" = some none) (z_abs : PySem.W.nsIn K mainGlobals "abs" = some none) (z_int : PySem.W.nsIn K mainGlobals "int" = some none) (z_all : PySem.W.nsIn K mainGlobals "all" = some none) (z_tuple : PySem.W.nsIn K mainGlobals "tuple" = some none) (z_list : PySem.W.nsIn K mainGlobals "list" = some none) (z_range : PySem.W.nsIn K mainGlobals "range" = some none) (z_str : PySem.W.nsIn K mainGlobals "str" = some none) (z_sorted : PySem.W.nsIn K mainGlobals "sorted" = some none) (aMOST_QUBITS : PySem.W.nsIn K mainGlobals "MOST_QUBITS" = some (some (.int 3 tMOST_QUBITS))) :
    ∃ fd : FuncData, (∀ (s : Shared) (v : Value), BindsTo s fd ⟨[v], []⟩ [("script", v)]) ∧ ∀ base : Heap, K.In base → base.Ns mainGlobals mg → FnOk l.prog w K mg base CX0 9 fa fd ["script"] (spOf K 1 sp_law) := by
  have e := hfa.symm.trans (PySem.W.mg_of X G a12)
  cases e
  have F0 := fun_mk (st := s_bits_of) l0 c0 k0
  have D0 : DefAt K mg "bits_of" s_bits_of ["condition"] f0 _ := ⟨F0, F0.binds fun _ _ _ _ _ _ us hl => match us, hl with | [_], _ => rfl, PySem.W.mg_of X G a0⟩
  have F1 := fun_mk (st := s_word_of) l1 c1 k1
  have D1 : DefAt K mg "word_of" s_word_of ["statement", "there", "bits"] f1 _ := ⟨F1, F1.binds fun _ _ _ _ _ _ us hl => match us, hl with | [_, _, _], _ => rfl, PySem.W.mg_of X G a1⟩
  have F2 := fun_mk (st := s_looked) l2 c2 k2
  have D2 : DefAt K mg "looked" s_looked ["statements", "there", "bits"] f2 _ := ⟨F2, F2.binds fun _ _ _ _ _ _ us hl => match us, hl with | [_, _, _], _ => rfl, PySem.W.mg_of X G a2⟩
  have F3 := fun_mk (st := s_fault_of) l3 c3 k3
  have D3 : DefAt K mg "fault_of" s_fault_of ["program"] f3 _ := ⟨F3, F3.binds fun _ _ _ _ _ _ us hl => match us, hl with | [_], _ => rfl, PySem.W.mg_of X G a3⟩
  have F4 := fun_mk (st := s__law_next) l4 c4 k4
  have D4 : DefAt K mg "_law_next" s__law_next ["tape", "many"] f4 _ := ⟨F4, F4.binds fun _ _ _ _ _ _ us hl => match us, hl with | [_, _], _ => rfl, PySem.W.mg_of X G a4⟩
  have F5 := fun_mk (st := s__law_condition) l5 c5 k5
  have D5 : DefAt K mg "_law_condition" s__law_condition ["tape", "bits", "depth"] f5 _ := ⟨F5, F5.binds fun _ _ _ _ _ _ us hl => match us, hl with | [_, _, _], _ => rfl, PySem.W.mg_of X G a5⟩
  have F6 := fun_mk (st := s__law_simple) l6 c6 k6
  have D6 : DefAt K mg "_law_simple" s__law_simple ["tape", "there", "bits"] f6 _ := ⟨F6, F6.binds fun _ _ _ _ _ _ us hl => match us, hl with | [_, _, _], _ => rfl, PySem.W.mg_of X G a6⟩
  have F7 := fun_mk (st := s__law_program) l7 c7 k7
  have D7 : DefAt K mg "_law_program" s__law_program ["tape", "many", "there", "bits", "depth"] f7 _ := ⟨F7, F7.binds fun _ _ _ _ _ _ us hl => match us, hl with | [_, _, _, _, _], _ => rfl, PySem.W.mg_of X G a7⟩
  have F8 := fun_mk (st := s__law_inner) l8 c8 k8
  have D8 : DefAt K mg "_law_inner" s__law_inner ["tape", "there", "bits"] f8 _ := ⟨F8, F8.binds fun _ _ _ _ _ _ us hl => match us, hl with | [_, _, _], _ => rfl, PySem.W.mg_of X G a8⟩
  have F9 := fun_mk (st := s__law_bits) l9 c9 k9
  have D9 : DefAt K mg "_law_bits" s__law_bits ["condition"] f9 _ := ⟨F9, F9.binds fun _ _ _ _ _ _ us hl => match us, hl with | [_], _ => rfl, PySem.W.mg_of X G a9⟩
  have F10 := fun_mk (st := s__law_walk) l10 c10 k10
  have D10 : DefAt K mg "_law_walk" s__law_walk ["statements", "there", "bits"] f10 _ := ⟨F10, F10.binds fun _ _ _ _ _ _ us hl => match us, hl with | [_, _, _], _ => rfl, PySem.W.mg_of X G a10⟩
  have F11 := fun_mk (st := s__law_spoilt) l11 c11 k11
  have D11 : DefAt K mg "_law_spoilt" s__law_spoilt ["tape"] f11 _ := ⟨F11, F11.binds fun _ _ _ _ _ _ us hl => match us, hl with | [_], _ => rfl, PySem.W.mg_of X G a11⟩
  have F12 := fun_mk (st := s_law) l12 c12 k12
  have D12 : DefAt K mg "law" s_law ["script"] fa _ := ⟨F12, F12.binds fun _ _ _ _ _ _ us hl => match us, hl with | [_], _ => rfl, PySem.W.mg_of X G a12⟩
  have T : Txt K mg (fun i => ([f0, f1, f2, f3, f4, f5, f6, f7, f8, f9, f10, f11, fa] : List Addr).getD i 0) (fun i => ([PySem.W.fnOf "bits_of" "bits_of" (defArgs s_bits_of) (defBody s_bits_of) (defScope s_bits_of) .none kV0 dc0 pm0 an0 cd0 ct0, PySem.W.fnOf "word_of" "word_of" (defArgs s_word_of) (defBody s_word_of) (defScope s_word_of) .none kV1 dc1 pm1 an1 cd1 ct1, PySem.W.fnOf "looked" "looked" (defArgs s_looked) (defBody s_looked) (defScope s_looked) .none kV2 dc2 pm2 an2 cd2 ct2, PySem.W.fnOf "fault_of" "fault_of" (defArgs s_fault_of) (defBody s_fault_of) (defScope s_fault_of) .none kV3 dc3 pm3 an3 cd3 ct3, PySem.W.fnOf "_law_next" "_law_next" (defArgs s__law_next) (defBody s__law_next) (defScope s__law_next) .none kV4 dc4 pm4 an4 cd4 ct4, PySem.W.fnOf "_law_condition" "_law_condition" (defArgs s__law_condition) (defBody s__law_condition) (defScope s__law_condition) .none kV5 dc5 pm5 an5 cd5 ct5, PySem.W.fnOf "_law_simple" "_law_simple" (defArgs s__law_simple) (defBody s__law_simple) (defScope s__law_simple) .none kV6 dc6 pm6 an6 cd6 ct6, PySem.W.fnOf "_law_program" "_law_program" (defArgs s__law_program) (defBody s__law_program) (defScope s__law_program) .none kV7 dc7 pm7 an7 cd7 ct7, PySem.W.fnOf "_law_inner" "_law_inner" (defArgs s__law_inner) (defBody s__law_inner) (defScope s__law_inner) .none kV8 dc8 pm8 an8 cd8 ct8, PySem.W.fnOf "_law_bits" "_law_bits" (defArgs s__law_bits) (defBody s__law_bits) (defScope s__law_bits) .none kV9 dc9 pm9 an9 cd9 ct9, PySem.W.fnOf "_law_walk" "_law_walk" (defArgs s__law_walk) (defBody s__law_walk) (defScope s__law_walk) .none kV10 dc10 pm10 an10 cd10 ct10, PySem.W.fnOf "_law_spoilt" "_law_spoilt" (defArgs s__law_spoilt) (defBody s__law_spoilt) (defScope s__law_spoilt) .none kV11 dc11 pm11 an11 cd11 ct11, PySem.W.fnOf "law" "law" (defArgs s_law) (defBody s_law) (defScope s_law) .none kV12 dc12 pm12 an12 cd12 ct12] : List FuncData).getD i (PySem.W.fnOf "law" "law" (defArgs s_law) (defBody s_law) (defScope s_law) .none kV12 dc12 pm12 an12 cd12 ct12)) := ⟨PySem.W.mg_none_of X G z_len, PySem.W.mg_none_of X G z_abs, PySem.W.mg_none_of X G z_int, PySem.W.mg_none_of X G z_all, PySem.W.mg_none_of X G z_tuple, PySem.W.mg_none_of X G z_list, PySem.W.mg_none_of X G z_range, PySem.W.mg_none_of X G z_str, PySem.W.mg_none_of X G z_sorted, ⟨.int 3, _, PySem.W.mg_of X G aMOST_QUBITS, ⟨_, rfl⟩, fun F => .int _⟩, D0, D1, D2, D3, D4, D5, D6, D7, D8, D9, D10, D11, D12⟩
  exact ⟨PySem.W.fnOf "law" "law" (defArgs s_law) (defBody s_law) (defScope s_law) .none kV12 dc12 pm12 an12 cd12 ct12, fun s v => .of_eq rfl, fun base _ _ => ok_law T⟩
end K34
open PySem PySem.W PyProof.Rows
set_option maxHeartbeats 0 in
theorem PySem.Challenge.cw_mendedgates_k34_what_can_be_played_holds : PySem.Challenge.rw_mendedgates_k34_what_can_be_played.Holds := by
  w_on; o_law; k_head; (case hw => w_witness2)
  k_fill
  refine L2.walk_of (l := PySem.Challenge.rw_mendedgates_k34_what_can_be_played) (n := 63) (k := 9) (x := "script") (CX := fun _ => L2.CX0) (sp := fun w => VL.spOf _ 1 K34.sp_law) rfl (by decide) rfl ⟨rfl, by decide, by decide⟩ (fun w h Y => PySem.W.kIn_of Y) ?F (fun _ H a ns hl _ hS => VL.law_in hS ⟨ns, rfl, hl, fun _ => rfl⟩) (fun _ _ _ _ _ h => h)
  case F =>
    intro w mg fa h KX G hmg
    refine' K34.all_mk KX G hmg ?a0 ?l0 ?c0 ?k0 ?a1 ?l1 ?c1 ?k1 ?a2 ?l2 ?c2 ?k2 ?a3 ?l3 ?c3 ?k3 ?a4 ?l4 ?c4 ?k4 ?a5 ?l5 ?c5 ?k5 ?a6 ?l6 ?c6 ?k6 ?a7 ?l7 ?c7 ?k7 ?a8 ?l8 ?c8 ?k8 ?a9 ?l9 ?c9 ?k9 ?a10 ?l10 ?c10 ?k10 ?a11 ?l11 ?c11 ?k11 ?a12 ?l12 ?c12 ?k12 ?z_len ?z_abs ?z_int ?z_all ?z_tuple ?z_list ?z_range ?z_str ?z_sorted ?aMOST_QUBITS
    (case a0 => k_is); (case l0 => k_is); (case c0 => k_is); (case k0 => k_is); (case a1 => k_is); (case l1 => k_is)
    (case c1 => k_is); (case k1 => k_is); (case a2 => k_is); (case l2 => k_is); (case c2 => k_is); (case k2 => k_is)
    (case a3 => k_is); (case l3 => k_is); (case c3 => k_is); (case k3 => k_is); (case a4 => k_is); (case l4 => k_is)
    (case c4 => k_is); (case k4 => k_is); (case a5 => k_is); (case l5 => k_is); (case c5 => k_is); (case k5 => k_is)
    (case a6 => k_is); (case l6 => k_is); (case c6 => k_is); (case k6 => k_is); (case a7 => k_is); (case l7 => k_is)
    (case c7 => k_is); (case k7 => k_is); (case a8 => k_is); (case l8 => k_is); (case c8 => k_is); (case k8 => k_is)
    (case a9 => k_is); (case l9 => k_is); (case c9 => k_is); (case k9 => k_is); (case a10 => k_is); (case l10 => k_is)
    (case c10 => k_is); (case k10 => k_is); (case a11 => k_is); (case l11 => k_is); (case c11 => k_is); (case k11 => k_is)
    (case a12 => k_is); (case l12 => k_is); (case c12 => k_is); (case k12 => k_is); (case z_len => k_is); (case z_abs => k_is)
    (case z_int => k_is); (case z_all => k_is); (case z_tuple => k_is); (case z_list => k_is); (case z_range => k_is); (case z_str => k_is)
    (case z_sorted => k_is); (case aMOST_QUBITS => k_is)

