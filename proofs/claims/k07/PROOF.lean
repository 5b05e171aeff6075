import PyProof.Rows.All
import Wide.All
import OpenK.AllK
import Wide.FinOn
import HandS.ForMost
import HandS.Wide
import HandS.WideBits
import HandS.Style
import HandS.TupAny
import HandS.IsInst
import HandS.Exc
import HandS.Deep
import HandS.Zip
import KE.GoesMore
import KE.SortKeyHeap
import HandS.SortKw
import HandS.Replace
import HandS.Text
import HandS.Small
import HandS.ExcOwn
import HandS.TryOnly
import HandS.WordsExc
import HandS.Remove
import HandS.TupSets
import KE.KMinKey
import KE.DataAny
import KE.KDictLaws
import HandS.More
import KE.KDictCopyH
import KE.BitLaws
import KE.KBits
import PySem.Challenge.RW_mendedgates_k07_texts_of_codes_and_known
set_option Elab.async false
set_option linter.all false
set_option maxRecDepth 100000
set_option maxHeartbeats 4000000
/-! VL: a layer of plain data over HandS. Values are trees; frozen objects stand in F; what a name of the def owns is mutable. -/
namespace VL
open PySem PySem.Spec L2

/-- built-in classes as values -/
inductive Ty where
  | tint | tbool | tstr | ttup | tlst | tdct
def Ty.name : Ty → String
  | .tint => "int"
  | .tbool => "bool"
  | .tstr => "str"
  | .ttup => "tuple"
  | .tlst => "list"
  | .tdct => "dict"
inductive D where
  | non | bl (b : Bool) | int (i : Int) | str (x : Str)
  | tup (ds : List D) | lst (ds : List D) | dct (ks : List Key) (ds : List D) | dcu (ks : List (List Key)) (ds : List D) | obj (a : Addr) | scr (ns : List Int) | ty (t : Ty) | ktp (ds : List D)

mutual
def D.pd : D → PyData
  | .non => .none
  | .bl b => .bool b
  | .int i => .int i
  | .str x => .str x
  | .tup ds => .tuple (D.pds ds)
  | .lst ds => .list (D.pds ds)
  | .dct _ _ => .none
  | .dcu _ _ => .none
  | .obj _ => .none
  | .scr _ => .none
  | .ty _ => .none
  | .ktp _ => .none
def D.pds : List D → List PyData
  | [] => []
  | d :: ds => D.pd d :: D.pds ds
end

/-- plain data of at most that depth -/
def shD : Nat → D → Bool
  | _, .non => true
  | _, .bl _ => true
  | _, .int _ => true
  | _, .str x => PyData.strOk x
  | n + 1, .tup ds => ds.all (shD n)
  | n + 1, .lst ds => ds.all (shD n)
  | _, _ => false

mutual
def eqD : D → D → Bool
  | .non, .non => true
  | .bl a, .bl b => a == b
  | .bl a, .int j => (if a then 1 else 0) == j
  | .int i, .bl b => i == (if b then 1 else 0)
  | .int i, .int j => i == j
  | .str x, .str y => x == y
  | .tup xs, .tup ys => eqDs xs ys
  | .lst xs, .lst ys => eqDs xs ys
  | _, _ => false
def eqDs : List D → List D → Bool
  | [], [] => true
  | x :: xs, y :: ys => eqD x y && eqDs xs ys
  | _, _ => false
end

/-- a value whose tree holds no list, no dict -/
def flD : Nat → D → Bool
  | _, .non => true
  | _, .bl _ => true
  | _, .int _ => true
  | _, .str _ => true
  | _, .obj _ => true
  | n + 1, .tup ds => ds.all (flD n)
  | _, _ => false

/-- a mutable object that has a name of its own -/
inductive Ob where
  | ml (ds : List D)
  | md (ks : List Key) (ds : List D)
  | mu (ks : List (List Key)) (ds : List D)
  | ins (c : Str) (fs : List (Str × D))
  | lk (u : HO) (ks : List Key) (ds : List D)
  | lku (u : HO) (ks : List (List Key)) (ds : List D)

abbrev Oh := Addr → Option Ob
def Oh.put (h : Oh) (a : Addr) (o : Ob) : Oh := fun b => if b = a then some o else h b
theorem Oh.put_same {h : Oh} {a : Addr} {o : Ob} : h.put a o a = some o := by unfold Oh.put; rw [if_pos rfl]
theorem Oh.put_ne {h : Oh} {a b : Addr} {o : Ob} (n : b ≠ a) : h.put a o b = h b := by unfold Oh.put; rw [if_neg n]
theorem Oh.put_put {h : Oh} {a : Addr} {o u : Ob} : (h.put a o).put a u = h.put a u := by
  funext b; unfold Oh.put; split <;> rfl

/-- a slot: unset, a frozen value, a container that the name owns -/
inductive Sl where
  | u | f (d : D) | o (d : D)

structure Sg where
  s : List Sl
  h : Oh

/-! ### what a value is in the frozen part -/
mutual
inductive Rep (K : PySem.W.Frag) (F : Hp) : V → D → Prop
  | non : Rep K F .non .non
  | bl (b : Bool) : Rep K F (.bl b) (.bl b)
  | int (i : Int) : Rep K F (.int i) (.int i)
  | str (x : Str) : Rep K F (.str x) (.str x)
  | tup {a : Addr} {vs : List V} {ds : List D} : SqT K F a vs → Reps K F vs ds → Rep K F (.ref a) (.tup ds)
  | lst {a : Addr} {vs : List V} {ds : List D} : F a = some (.lst vs) → Reps K F vs ds → Rep K F (.ref a) (.lst ds)
  | dct {a : Addr} {kvs : List (Key × V)} {ks : List Key} {ds : List D} : F a = some (.dK kvs) → kvs.map (·.1) = ks → Reps K F (kvs.map (·.2)) ds → Rep K F (.ref a) (.dct ks ds)
  | dcu {a : Addr} {kvs : List (List Key × V)} {ks : List (List Key)} {ds : List D} : F a = some (.dT kvs) → kvs.map (·.1) = ks → Reps K F (kvs.map (·.2)) ds → Rep K F (.ref a) (.dcu ks ds)
  | obj (a : Addr) : Rep K F (.ref a) (.obj a)
  | scr {a : Addr} {ns : List Int} : SqL K F a (ns.map V.int) → Rep K F (.ref a) (.scr ns)
  | ty (t : Ty) : Rep K F (.ty t.name) (.ty t)
  | ktp {a : Addr} {vs : List V} {ds : List D} : F a = some (.tup vs) → Reps K F vs ds → Rep K F (.ref a) (.ktp ds)
inductive Reps (K : PySem.W.Frag) (F : Hp) : List V → List D → Prop
  | nil : Reps K F [] []
  | cons {v : V} {vs : List V} {d : D} {ds : List D} : Rep K F v d → Reps K F vs ds → Reps K F (v :: vs) (d :: ds)
end

def Ext (F F' : Hp) : Prop := ∀ a o, F a = some o → F' a = some o
theorem Ext.refl (F : Hp) : Ext F F := fun _ _ h => h
theorem Ext.trans {F G H : Hp} (a : Ext F G) (b : Ext G H) : Ext F H := fun x o h => b x o (a x o h)
theorem Ext.new {F : Hp} {p : Addr} {o : HO} (h : F p = none) : Ext F (upd F p o) := fun a u e => by
  rw [upd_ne (ne_of_none e h)]
  exact e
theorem Ext.rd {F G : Hp} (e : Ext F G) {a : Addr} {u : HO} (h : Rd F a u) : Rd G a u := by
  rcases h with h | ⟨o, h⟩
  · exact .inl (e _ _ h)
  · exact .inr ⟨o, e _ _ h⟩
theorem Ext.sqL {K : PySem.W.Frag} {F G : Hp} (e : Ext F G) {a : Addr} {xs : List V} (h : SqL K F a xs) : SqL K G a xs := h.elim (fun z => .inl (e.rd z)) .inr
theorem Ext.sqT {K : PySem.W.Frag} {F G : Hp} (e : Ext F G) {a : Addr} {xs : List V} (h : SqT K F a xs) : SqT K G a xs := h.elim (fun z => .inl (e.rd z)) .inr

mutual
theorem Rep.mono {K : PySem.W.Frag} {F G : Hp} (e : Ext F G) : ∀ {v : V} {d : D}, Rep K F v d → Rep K G v d
  | _, _, .non => .non
  | _, _, .bl b => .bl b
  | _, _, .int i => .int i
  | _, _, .str x => .str x
  | _, _, .tup h r => .tup (e.sqT h) (Reps.mono e r)
  | _, _, .lst h r => .lst (e _ _ h) (Reps.mono e r)
  | _, _, .dct h k r => .dct (e _ _ h) k (Reps.mono e r)
  | _, _, .dcu h k r => .dcu (e _ _ h) k (Reps.mono e r)
  | _, _, .obj a => .obj a
  | _, _, .scr h => .scr (e.sqL h)
  | _, _, .ty t => .ty t
  | _, _, .ktp h r => .ktp (e _ _ h) (Reps.mono e r)
theorem Reps.mono {K : PySem.W.Frag} {F G : Hp} (e : Ext F G) : ∀ {vs : List V} {ds : List D}, Reps K F vs ds → Reps K G vs ds
  | _, _, .nil => .nil
  | _, _, .cons h r => .cons (Rep.mono e h) (Reps.mono e r)
end
section
variable {K : PySem.W.Frag} {F G H : Hp}
theorem Reps.length : ∀ {vs : List V} {ds : List D}, Reps K F vs ds → vs.length = ds.length
  | _, _, .nil => rfl
  | _, _, .cons _ r => congrArg (· + 1) (Reps.length r)
theorem Reps.get : ∀ {vs : List V} {ds : List D} {i : Nat} {d : D}, Reps K F vs ds → ds[i]? = some d → ∃ v, vs[i]? = some v ∧ Rep K F v d
  | _, _, _, _, .nil, h => by simp at h
  | _, _, 0, _, .cons r _, h => by
    have e := Option.some.inj h
    subst e
    exact ⟨_, rfl, r⟩
  | _, _, i + 1, _, .cons _ t, h => Reps.get (i := i) t h
theorem Reps.append : ∀ {vs ws : List V} {ds es : List D}, Reps K F vs ds → Reps K F ws es → Reps K F (vs ++ ws) (ds ++ es)
  | _, _, _, _, .nil, s => s
  | _, _, _, _, .cons r t, s => .cons r (Reps.append t s)
theorem Reps.one {v : V} {d : D} (h : Rep K F v d) : Reps K F [v] [d] := .cons h .nil
theorem Reps.set : ∀ {vs : List V} {ds : List D} {v : V} {d : D} (i : Nat), Reps K F vs ds → Rep K F v d → Reps K F (vs.set i v) (ds.set i d)
  | _, _, _, _, _, .nil, _ => .nil
  | _, _, _, _, 0, .cons _ t, r => .cons r t
  | _, _, _, _, i + 1, .cons q t, r => .cons q (Reps.set i t r)
theorem Reps.take : ∀ {vs : List V} {ds : List D} (n : Nat), Reps K F vs ds → Reps K F (vs.take n) (ds.take n)
  | _, _, 0, _ => .nil
  | _, _, _ + 1, .nil => .nil
  | _, _, n + 1, .cons r t => .cons r (Reps.take n t)
theorem Reps.drop : ∀ {vs : List V} {ds : List D} (n : Nat), Reps K F vs ds → Reps K F (vs.drop n) (ds.drop n)
  | _, _, 0, r => r
  | _, _, _ + 1, .nil => .nil
  | _, _, n + 1, .cons _ t => Reps.drop n t
theorem Reps.dropLast {vs : List V} {ds : List D} (h : Reps K F vs ds) : Reps K F vs.dropLast ds.dropLast := by
  rw [List.dropLast_eq_take, List.dropLast_eq_take, h.length]
  exact h.take _
theorem Reps.rep {vs : List V} {ds : List D} (h : Reps K F vs ds) : ∀ k : Nat, Reps K F (List.replicate k vs).flatten (List.replicate k ds).flatten
  | 0 => .nil
  | k + 1 => by
    rw [List.replicate_succ, List.replicate_succ, List.flatten_cons, List.flatten_cons]
    exact h.append (Reps.rep h k)
theorem Reps.rev {vs : List V} {ds : List D} (h : Reps K F vs ds) : Reps K F vs.reverse ds.reverse := by
  induction h using Reps.rec (motive_1 := fun _ _ _ => True) with
  | nil => exact .nil
  | cons a b _ ih =>
    rw [List.reverse_cons, List.reverse_cons]
    exact ih.append (.one a)
  | _ => trivial
theorem Reps.ints : ∀ {vs : List V} {ns : List Int}, Reps K F vs (ns.map D.int) → vs = ns.map V.int
  | _, [], .nil => rfl
  | _, n :: ns, .cons r t => by
    cases r
    rw [List.map_cons, Reps.ints t]
theorem Reps.ofInts : ∀ (ns : List Int), Reps K F (ns.map V.int) (ns.map D.int)
  | [] => .nil
  | n :: ns => .cons (.int n) (Reps.ofInts ns)
theorem Reps.bools : ∀ {vs : List V} {ns : List Bool}, Reps K F vs (ns.map D.bl) → vs = ns.map V.bl
  | _, [], .nil => rfl
  | _, n :: ns, .cons r t => by
    cases r
    rw [List.map_cons, Reps.bools t]
theorem Reps.strs : ∀ {vs : List V} {ns : List Str}, Reps K F vs (ns.map D.str) → vs = ns.map V.str
  | _, [], .nil => rfl
  | _, n :: ns, .cons r t => by
    cases r
    rw [List.map_cons, Reps.strs t]
end

/-! ### plain data as the library's data -/
mutual
theorem Rep.dp {K : PySem.W.Frag} {F H : Hp} (e : Ext F H) : ∀ {n : Nat} {v : V} {d : D}, Rep K F v d → shD n d = true → Dp K H v d.pd
  | _, _, _, .non, _ => .non
  | _, _, _, .bl b, _ => .bl b
  | _, _, _, .int i, _ => .int i
  | _, _, _, .str x, _ => .str x
  | 0, _, _, .tup _ _, s => by simp [shD] at s
  | n + 1, _, _, .tup h r, s => .tup (e.sqT h) (Reps.dp (n := n) e r s)
  | 0, _, _, .lst _ _, s => by simp [shD] at s
  | n + 1, _, _, .lst h r, s => .lst (.of (e _ _ h)) (Reps.dp (n := n) e r s)
  | 0, _, _, .dct _ _ _, s => by simp [shD] at s
  | n + 1, _, _, .dct _ _ _, s => by simp [shD] at s
  | 0, _, _, .dcu _ _ _, s => by simp [shD] at s
  | n + 1, _, _, .dcu _ _ _, s => by simp [shD] at s
  | 0, _, _, .obj _, s => by simp [shD] at s
  | n + 1, _, _, .obj _, s => by simp [shD] at s
  | 0, _, _, .scr _, s => by simp [shD] at s
  | n + 1, _, _, .scr _, s => by simp [shD] at s
  | 0, _, _, .ty _, s => by simp [shD] at s
  | n + 1, _, _, .ty _, s => by simp [shD] at s
  | 0, _, _, .ktp _ _, s => by simp [shD] at s
  | n + 1, _, _, .ktp _ _, s => by simp [shD] at s
theorem Reps.dp {K : PySem.W.Frag} {F H : Hp} (e : Ext F H) : ∀ {n : Nat} {vs : List V} {ds : List D}, Reps K F vs ds → ds.all (shD n) = true → DpAll K H vs (D.pds ds)
  | _, _, _, .nil, _ => .nil
  | n, _, _, .cons r t, s => by
    rw [List.all_cons, Bool.and_eq_true] at s
    exact .cons (Rep.dp e r s.1) (Reps.dp e t s.2)
end
mutual
theorem can_sh : ∀ (n : Nat) (d : D), shD n d = true → d.pd.canLay0 = true
  | _, .non, _ => rfl
  | _, .bl _, _ => rfl
  | _, .int _, _ => rfl
  | 0, .str x, h => h
  | n + 1, .str x, h => h
  | n + 1, .tup ds, h => can_shs n ds h
  | n + 1, .lst ds, h => can_shs n ds h
  | 0, .tup ds, h => by simp [shD] at h
  | 0, .lst ds, h => by simp [shD] at h
  | 0, .dct _ _, h => by simp [shD] at h
  | n + 1, .dct _ _, h => by simp [shD] at h
  | 0, .dcu _ _, h => by simp [shD] at h
  | n + 1, .dcu _ _, h => by simp [shD] at h
  | 0, .obj _, h => by simp [shD] at h
  | n + 1, .obj _, h => by simp [shD] at h
  | 0, .scr _, h => by simp [shD] at h
  | n + 1, .scr _, h => by simp [shD] at h
  | 0, .ty _, h => by simp [shD] at h
  | n + 1, .ty _, h => by simp [shD] at h
  | 0, .ktp _, h => by simp [shD] at h
  | n + 1, .ktp _, h => by simp [shD] at h
theorem can_shs : ∀ (n : Nat) (ds : List D), ds.all (shD n) = true → PyData.canLayAll0 (D.pds ds) = true
  | _, [], _ => rfl
  | n, d :: ds, h => by
    rw [List.all_cons, Bool.and_eq_true] at h
    show (PyData.canLay0 d.pd && PyData.canLayAll0 (D.pds ds)) = true
    rw [can_sh n d h.1, can_shs n ds h.2]
    rfl
end
mutual
theorem depth_sh : ∀ (n : Nat) (d : D), shD n d = true → d.pd.depth ≤ n
  | _, .non, _ => Nat.zero_le _
  | _, .bl _, _ => Nat.zero_le _
  | _, .int _, _ => Nat.zero_le _
  | _, .str x, _ => Nat.zero_le _
  | n + 1, .tup ds, h => Nat.succ_le_succ (depth_shs n ds h)
  | n + 1, .lst ds, h => Nat.succ_le_succ (depth_shs n ds h)
  | 0, .tup ds, h => by simp [shD] at h
  | 0, .lst ds, h => by simp [shD] at h
  | 0, .dct _ _, h => by simp [shD] at h
  | n + 1, .dct _ _, h => by simp [shD] at h
  | 0, .dcu _ _, h => by simp [shD] at h
  | n + 1, .dcu _ _, h => by simp [shD] at h
  | 0, .obj _, h => by simp [shD] at h
  | n + 1, .obj _, h => by simp [shD] at h
  | 0, .scr _, h => by simp [shD] at h
  | n + 1, .scr _, h => by simp [shD] at h
  | 0, .ty _, h => by simp [shD] at h
  | n + 1, .ty _, h => by simp [shD] at h
  | 0, .ktp _, h => by simp [shD] at h
  | n + 1, .ktp _, h => by simp [shD] at h
theorem depth_shs : ∀ (n : Nat) (ds : List D), ds.all (shD n) = true → PyData.depthAll (D.pds ds) ≤ n
  | _, [], _ => Nat.zero_le _
  | n, d :: ds, h => by
    rw [List.all_cons, Bool.and_eq_true] at h
    exact Nat.max_le.mpr ⟨depth_sh n d h.1, depth_shs n ds h.2⟩
end
theorem shaped_sh {n : Nat} {d : D} (h : shD n d = true) (hn : n ≤ 64) : SeqAt.shaped d.pd = true := by
  show (PyData.canLay0 d.pd && decide (PyData.depth d.pd ≤ 64)) = true
  rw [can_sh n d h, decide_eq_true (Nat.le_trans (depth_sh n d h) hn)]
  rfl
mutual
theorem eqD_pd : ∀ (n : Nat) (d e : D), shD n d = true → shD n e = true → PyData.eqv d.pd e.pd = eqD d e
  | _, .non, .non, _, _ => rfl
  | _, .non, .bl _, _, _ => rfl
  | _, .non, .int _, _, _ => rfl
  | _, .non, .str _, _, _ => rfl
  | _, .non, .tup _, _, _ => rfl
  | _, .non, .lst _, _, _ => rfl
  | _, .bl _, .non, _, _ => rfl
  | _, .bl _, .bl _, _, _ => rfl
  | _, .bl _, .int _, _, _ => rfl
  | _, .bl _, .str _, _, _ => rfl
  | _, .bl _, .tup _, _, _ => rfl
  | _, .bl _, .lst _, _, _ => rfl
  | _, .int _, .non, _, _ => rfl
  | _, .int _, .bl _, _, _ => rfl
  | _, .int _, .int _, _, _ => rfl
  | _, .int _, .str _, _, _ => rfl
  | _, .int _, .tup _, _, _ => rfl
  | _, .int _, .lst _, _, _ => rfl
  | _, .str _, .non, _, _ => rfl
  | _, .str _, .bl _, _, _ => rfl
  | _, .str _, .int _, _, _ => rfl
  | _, .str _, .str _, _, _ => rfl
  | _, .str _, .tup _, _, _ => rfl
  | _, .str _, .lst _, _, _ => rfl
  | _, .tup _, .non, _, _ => rfl
  | _, .tup _, .bl _, _, _ => rfl
  | _, .tup _, .int _, _, _ => rfl
  | _, .tup _, .str _, _, _ => rfl
  | n + 1, .tup xs, .tup ys, h, k => by
    show PyData.eqvAll (D.pds xs) (D.pds ys) = eqDs xs ys
    exact eqDs_pd n xs ys h k
  | _, .tup _, .lst _, _, _ => rfl
  | _, .lst _, .non, _, _ => rfl
  | _, .lst _, .bl _, _, _ => rfl
  | _, .lst _, .int _, _, _ => rfl
  | _, .lst _, .str _, _, _ => rfl
  | _, .lst _, .tup _, _, _ => rfl
  | n + 1, .lst xs, .lst ys, h, k => by
    show PyData.eqvAll (D.pds xs) (D.pds ys) = eqDs xs ys
    exact eqDs_pd n xs ys h k
  | 0, .tup _, _, h, _ => by simp [shD] at h
  | 0, .lst _, _, h, _ => by simp [shD] at h
  | n, .dct _ _, _, h, _ => by cases n <;> simp [shD] at h
  | n, .dcu _ _, _, h, _ => by cases n <;> simp [shD] at h
  | n, .obj _, _, h, _ => by cases n <;> simp [shD] at h
  | n, .scr _, _, h, _ => by cases n <;> simp [shD] at h
  | n, .ty _, _, h, _ => by cases n <;> simp [shD] at h
  | n, .ktp _, _, h, _ => by cases n <;> simp [shD] at h
  | n, _, .dct _ _, _, h => by cases n <;> simp [shD] at h
  | n, _, .dcu _ _, _, h => by cases n <;> simp [shD] at h
  | n, _, .obj _, _, h => by cases n <;> simp [shD] at h
  | n, _, .scr _, _, h => by cases n <;> simp [shD] at h
  | n, _, .ty _, _, h => by cases n <;> simp [shD] at h
  | n, _, .ktp _, _, h => by cases n <;> simp [shD] at h
theorem eqDs_pd : ∀ (n : Nat) (ds es : List D), ds.all (shD n) = true → es.all (shD n) = true → PyData.eqvAll (D.pds ds) (D.pds es) = eqDs ds es
  | _, [], [], _, _ => rfl
  | _, [], _ :: _, _, _ => rfl
  | _, _ :: _, [], _, _ => rfl
  | n, d :: ds, e :: es, h, k => by
    rw [List.all_cons, Bool.and_eq_true] at h k
    show (PyData.eqv d.pd e.pd && PyData.eqvAll (D.pds ds) (D.pds es)) = (eqD d e && eqDs ds es)
    rw [eqD_pd n d e h.1 k.1, eqDs_pd n ds es h.2 k.2]
end

/-! ### the state: slots, frozen part, objects -/
/-- the entry of a def (or of a comprehension's turn): frozen part, heap, objects, what its names own -/
structure En where
  F : Hp
  H : Hp
  h : Oh
  ow : Addr → Prop

/-- where the class of that name stands -/
def clsAt (K : PySem.W.Frag) (c : Str) : Addr := match PySem.W.nsIn K mainGlobals c with
  | some (some (.ref C)) => C
  | _ => 0
theorem clsAt_is {K : PySem.W.Frag} {c : Str} {C : Addr} (h : PySem.W.nsIn K mainGlobals c = some (some (.ref C))) : clsAt K c = C := by unfold clsAt; rw [h]
/-- an exception: its class, its fields -/
def XAt (K : PySem.W.Frag) (F : Hp) (c : Str) (fs : List (Str × D)) (cls : Value) (dd : Option Addr) : Prop :=
  cls = .ref (clsAt K c) ∧ ((fs = [] ∧ dd = none) ∨ ∃ d0 vfs, dd = some d0 ∧ F d0 = some (.xd vfs) ∧ vfs.map (·.1) = fs.map (·.1) ∧ Reps K F (vfs.map (·.2)) (fs.map (·.2)))
def ObAt (K : PySem.W.Frag) (F H : Hp) (a : Addr) : Ob → Prop
  | .ml ds => ∃ vs, H a = some (.lst vs) ∧ Reps K F vs ds
  | .md ks ds => ∃ kvs, H a = some (.dK kvs) ∧ kvs.map (·.1) = ks ∧ Reps K F (kvs.map (·.2)) ds
  | .mu ks ds => ∃ kvs, H a = some (.dT kvs) ∧ kvs.map (·.1) = ks ∧ Reps K F (kvs.map (·.2)) ds
  | .ins c fs => ∃ dx vfs, H a = some (.ins (clsAt K c) dx vfs) ∧ vfs.map (·.1) = fs.map (·.1) ∧ Reps K F (vfs.map (·.2)) (fs.map (·.2))
  | .lk u ks ds => H a = some u ∧ ∃ od kvs, u = .frz od (.dK kvs) ∧ kvs.map (·.1) = ks ∧ Reps K F (kvs.map (·.2)) ds
  | .lku u ks ds => H a = some u ∧ ∃ od kvs, u = .frz od (.dT kvs) ∧ kvs.map (·.1) = ks ∧ Reps K F (kvs.map (·.2)) ds
def OwAt (K : PySem.W.Frag) (F H : Hp) (a : Addr) : D → Prop
  | .lst ds => ∃ vs, H a = some (.lst vs) ∧ Reps K F vs ds
  | .dct ks ds => ∃ kvs, H a = some (.dK kvs) ∧ kvs.map (·.1) = ks ∧ Reps K F (kvs.map (·.2)) ds
  | .dcu ks ds => ∃ kvs, H a = some (.dT kvs) ∧ kvs.map (·.1) = ks ∧ Reps K F (kvs.map (·.2)) ds
  | _ => False
section
variable {K : PySem.W.Frag} {F F' H H' : Hp} {a : Addr}
theorem ObAt.there {o : Ob} (h : ObAt K F H a o) : H a ≠ none := by
  cases o with
  | ml ds => obtain ⟨vs, e, _⟩ := h; rw [e]; simp
  | md ks ds => obtain ⟨vs, e, _⟩ := h; rw [e]; simp
  | mu ks ds => obtain ⟨vs, e, _⟩ := h; rw [e]; simp
  | ins C fs => obtain ⟨dx, vs, e, _⟩ := h; rw [e]; simp
  | lk u ks ds => rw [h.1]; simp
  | lku u ks ds => rw [h.1]; simp
theorem ObAt.mono {o : Ob} (h : ObAt K F H a o) (e : Ext F F') (k : H' a = H a) : ObAt K F' H' a o := by
  cases o with
  | ml ds => obtain ⟨vs, q, r⟩ := h; exact ⟨vs, k.trans q, r.mono e⟩
  | md ks ds => obtain ⟨vs, q, z, r⟩ := h; exact ⟨vs, k.trans q, z, r.mono e⟩
  | mu ks ds => obtain ⟨vs, q, z, r⟩ := h; exact ⟨vs, k.trans q, z, r.mono e⟩
  | ins C fs => obtain ⟨dx, vs, q, z, r⟩ := h; exact ⟨dx, vs, k.trans q, z, r.mono e⟩
  | lk u ks ds => obtain ⟨h1, od, kvs, q, z, r⟩ := h; exact ⟨k.trans h1, od, kvs, q, z, r.mono e⟩
  | lku u ks ds => obtain ⟨h1, od, kvs, q, z, r⟩ := h; exact ⟨k.trans h1, od, kvs, q, z, r.mono e⟩
theorem OwAt.there {d : D} (h : OwAt K F H a d) : H a ≠ none := by
  cases d with
  | lst ds => obtain ⟨vs, e, _⟩ := h; rw [e]; simp
  | dct ks ds => obtain ⟨vs, e, _⟩ := h; rw [e]; simp
  | dcu ks ds => obtain ⟨vs, e, _⟩ := h; rw [e]; simp
  | _ => exact h.elim
theorem OwAt.mono {d : D} (h : OwAt K F H a d) (e : Ext F F') (k : H' a = H a) : OwAt K F' H' a d := by
  cases d with
  | lst ds => obtain ⟨vs, q, r⟩ := h; exact ⟨vs, k.trans q, r.mono e⟩
  | dct ks ds => obtain ⟨vs, q, z, r⟩ := h; exact ⟨vs, k.trans q, z, r.mono e⟩
  | dcu ks ds => obtain ⟨vs, q, z, r⟩ := h; exact ⟨vs, k.trans q, z, r.mono e⟩
  | _ => exact h.elim
/-- an owned container, frozen -/
theorem OwAt.rep {d : D} {o : HO} (h : OwAt K F H a d) (ho : H a = some o) (hn : F a = none) : Rep K (upd F a o) (.ref a) d := by
  cases d with
  | lst ds =>
    obtain ⟨vs, q, r⟩ := h
    rw [ho] at q; cases q
    exact .lst upd_same (r.mono (.new hn))
  | dct ks ds =>
    obtain ⟨vs, q, z, r⟩ := h
    rw [ho] at q; cases q
    exact .dct upd_same z (r.mono (.new hn))
  | dcu ks ds =>
    obtain ⟨vs, q, z, r⟩ := h
    rw [ho] at q; cases q
    exact .dcu upd_same z (r.mono (.new hn))
  | _ => exact h.elim
end

def TupO (x : Option HO) : Prop := ∃ vs, x = some (.tup vs)
theorem TupO.upd {H : Hp} {p b : Addr} {o : HO} {F : Hp} (h : F b = none ∨ TupO (H b)) (hp : F p = none) : F b = none ∨ TupO (upd H p o b) := by
  by_cases e : b = p
  · subst e; exact .inl hp
  · rw [upd_ne e]; exact h
theorem TupO.ob {K : PySem.W.Frag} {F H : Hp} {a : Addr} {o : Ob} (h : ObAt K F H a o) : ¬ TupO (H a) := by
  rintro ⟨ws, e⟩
  cases o with
  | ml ds => obtain ⟨vs, q, _⟩ := h; rw [e] at q; cases q
  | md ks ds => obtain ⟨vs, q, _⟩ := h; rw [e] at q; cases q
  | mu ks ds => obtain ⟨vs, q, _⟩ := h; rw [e] at q; cases q
  | ins C fs => obtain ⟨dx, vs, q, _⟩ := h; rw [e] at q; cases q
  | lk u ks ds => obtain ⟨h1, od, kvs, q, _⟩ := h; rw [e, q] at h1; cases h1
  | lku u ks ds => obtain ⟨h1, od, kvs, q, _⟩ := h; rw [e, q] at h1; cases h1
theorem TupO.ow {K : PySem.W.Frag} {F H : Hp} {a : Addr} {d : D} (h : OwAt K F H a d) : ¬ TupO (H a) := by
  rintro ⟨ws, e⟩
  cases d with
  | lst ds => obtain ⟨vs, q, _⟩ := h; rw [e] at q; cases q
  | dct ks ds => obtain ⟨vs, q, _⟩ := h; rw [e] at q; cases q
  | dcu ks ds => obtain ⟨vs, q, _⟩ := h; rw [e] at q; cases q
  | _ => exact h.elim
/-- what has grown since the entry -/
structure Gr (K : PySem.W.Frag) (E : En) (F H : Hp) (h : Oh) : Prop where
  ext : Ext F H
  gF : Ext E.F F
  gN : ∀ b, E.F b = none → E.H b ≠ none → ¬ E.ow b → F b = none ∨ TupO (H b)
  gH : ∀ b o, E.H b = some o → E.h b = none → ¬ E.ow b → H b = some o
  gP : ∀ b, E.H b ≠ none → H b ≠ none
  gO : ∀ a, h a ≠ none → E.h a ≠ none ∨ E.H a = none ∨ E.ow a
  obs : ∀ a ob, h a = some ob → ObAt K F H a ob ∧ F a = none

structure Rel (K : PySem.W.Frag) (E : En) (F H : Hp) (σ : L2.St) (S : Sg) : Prop where
  g : Gr K E F H S.h
  len : S.s.length = σ.length
  frz : ∀ (i : Nat) (d : D), S.s[i]? = some (.f d) → ∃ v, σ[i]? = some (some v) ∧ Rep K F v d
  own : ∀ (i : Nat) (d : D), S.s[i]? = some (.o d) → ∃ p, σ[i]? = some (some (.ref p)) ∧ OwAt K F H p d ∧ F p = none ∧ S.h p = none ∧ (E.H p = none ∨ E.ow p)
  inj : ∀ (i j : Nat) (d e : D) (p : Addr), S.s[i]? = some (.o d) → S.s[j]? = some (.o e) → σ[i]? = some (some (.ref p)) → σ[j]? = some (some (.ref p)) → i = j

/-- a fresh container that no name owns -/
structure Fresh (K : PySem.W.Frag) (E : En) (F H : Hp) (σ : L2.St) (S : Sg) (p : Addr) (d : D) : Prop where
  at_ : OwAt K F H p d
  nF : F p = none
  nh : S.h p = none
  nE : E.H p = none
  no : ∀ (i : Nat) (e : D), S.s[i]? = some (.o e) → σ[i]? ≠ some (some (.ref p))

section
variable {K : PySem.W.Frag} {E : En} {F F' H H' : Hp} {σ : L2.St} {S : Sg} {p : Addr} {o : HO}
theorem Gr.noF (g : Gr K E F H S.h) (hp : H p = none) : F p = none := by
  cases e : F p with
  | none => rfl
  | some x => rw [g.ext _ _ e] at hp; cases hp
theorem Gr.free (g : Gr K E F H S.h) (hp : H p = none) : E.H p = none := by
  cases e : E.H p with
  | none => rfl
  | some x => exact absurd hp (g.gP p (by rw [e]; simp))
theorem Gr.noob (g : Gr K E F H S.h) (hp : H p = none) : S.h p = none := by
  cases e : S.h p with
  | none => rfl
  | some x => exact absurd hp (g.obs _ _ e).1.there
/-- a new frozen object -/
theorem Rel.fz (R : Rel K E F H σ S) (hp : H p = none) : Rel K E (upd F p o) (upd H p o) σ S := by
  have nF : F p = none := R.g.noF hp
  have nE : E.H p = none := R.g.free hp
  have x : Ext F (upd F p o) := .new nF
  have ne : ∀ b, H b ≠ none → b ≠ p := fun b hb z => hb (z ▸ hp)
  refine ⟨⟨fun b u e => ?_, R.g.gF.trans x, fun b h1 h2 h3 => ?_, fun b u h1 h2 h3 => ?_, fun b h1 => ?_, R.g.gO, fun a ob e => ?_⟩, R.len, fun i d e => ?_, fun i d e => ?_, R.inj⟩
  · by_cases hb : b = p
    · subst hb; rw [upd_same] at e ⊢; exact e
    · rw [upd_ne hb] at e ⊢; exact R.g.ext _ _ e
  · have nb := ne b (R.g.gP b h2)
    rw [upd_ne nb, upd_ne nb]; exact R.g.gN b h1 h2 h3
  · have := R.g.gH b u h1 h2 h3
    rw [upd_ne (ne b (by rw [this]; simp))]; exact this
  · by_cases hb : b = p
    · subst hb; rw [upd_same]; simp
    · rw [upd_ne hb]; exact R.g.gP b h1
  · obtain ⟨h1, h2⟩ := R.g.obs a ob e
    have na := ne a h1.there
    exact ⟨h1.mono x (upd_ne na), by rw [upd_ne na]; exact h2⟩
  · obtain ⟨v, h1, h2⟩ := R.frz i d e
    exact ⟨v, h1, h2.mono x⟩
  · obtain ⟨q, h1, h2, h3, h4, h5⟩ := R.own i d e
    have nq := ne q h2.there
    exact ⟨q, h1, h2.mono x (upd_ne nq), by rw [upd_ne nq]; exact h3, h4, h5⟩
/-- a new container that nobody owns -/
theorem Rel.fresh (R : Rel K E F H σ S) (hp : H p = none) : Rel K E F (upd H p o) σ S ∧ F p = none ∧ S.h p = none ∧ E.H p = none ∧ ∀ (i : Nat) (e : D), S.s[i]? = some (.o e) → σ[i]? ≠ some (some (.ref p)) := by
  have nF : F p = none := R.g.noF hp
  have nE : E.H p = none := R.g.free hp
  have ne : ∀ b, H b ≠ none → b ≠ p := fun b hb z => hb (z ▸ hp)
  refine ⟨⟨⟨fun b u e => ?_, R.g.gF, fun b h1 h2 h3 => TupO.upd (R.g.gN b h1 h2 h3) nF, fun b u h1 h2 h3 => ?_, fun b h1 => ?_, R.g.gO, fun a ob e => ?_⟩, R.len, R.frz, fun i d e => ?_, R.inj⟩, nF, R.g.noob hp, nE, fun i e h1 h2 => ?_⟩
  · have := R.g.ext _ _ e
    rw [upd_ne (ne b (by rw [this]; simp))]; exact this
  · have := R.g.gH b u h1 h2 h3
    rw [upd_ne (ne b (by rw [this]; simp))]; exact this
  · by_cases hb : b = p
    · subst hb; rw [upd_same]; simp
    · rw [upd_ne hb]; exact R.g.gP b h1
  · obtain ⟨h1, h2⟩ := R.g.obs a ob e
    have na := ne a h1.there
    exact ⟨h1.mono (.refl _) (upd_ne na), h2⟩
  · obtain ⟨q, h1, h2, h3, h4, h5⟩ := R.own i d e
    have nq := ne q h2.there
    exact ⟨q, h1, h2.mono (.refl _) (upd_ne nq), h3, h4, h5⟩
  · obtain ⟨q, h3, h4, _⟩ := R.own i e h1
    rw [h2] at h3
    cases h3
    exact h4.there hp
/-- a fresh container is frozen -/
theorem Rel.freezeN {d : D} (R : Rel K E F H σ S) (f : Fresh K E F H σ S p d) (ho : H p = some o) : Rel K E (upd F p o) H σ S := by
  have x : Ext F (upd F p o) := .new f.nF
  refine ⟨⟨fun b u e => ?_, R.g.gF.trans x, fun b h1 h2 h3 => ?_, R.g.gH, R.g.gP, R.g.gO, fun a ob e => ?_⟩, R.len, fun i d e => ?_, fun i d e => ?_, R.inj⟩
  · by_cases hb : b = p
    · subst hb; rw [upd_same] at e; cases e; exact ho
    · rw [upd_ne hb] at e; exact R.g.ext _ _ e
  · have : b ≠ p := fun z => h2 (z ▸ f.nE)
    rw [upd_ne this]; exact R.g.gN b h1 h2 h3
  · obtain ⟨h1, h2⟩ := R.g.obs a ob e
    have na : a ≠ p := fun z => by rw [z, f.nh] at e; cases e
    exact ⟨h1.mono x rfl, by rw [upd_ne na]; exact h2⟩
  · obtain ⟨v, h1, h2⟩ := R.frz i d e
    exact ⟨v, h1, h2.mono x⟩
  · obtain ⟨q, h1, h2, h3, h4, h5⟩ := R.own i d e
    have nq : q ≠ p := fun z => f.no i d e (z ▸ h1)
    exact ⟨q, h1, h2.mono x rfl, by rw [upd_ne nq]; exact h3, h4, h5⟩
end

/-- new frozen objects, nothing else -/
structure Al (F H F' H' : Hp) : Prop where
  xF : Ext F F'
  xH : Ext H H'
  new : ∀ b, F b = none → H b ≠ none → F' b = none ∨ TupO (H b)
  ext : Ext F' H'
section
variable {K : PySem.W.Frag} {E : En} {F F' F2 H H' H2 : Hp} {σ σ' : L2.St} {S : Sg} {p : Addr} {o : HO} {d : D} {v : V} {i : Nat}
theorem Al.refl (e : Ext F H) : Al F H F H := ⟨.refl _, .refl _, fun _ h _ => .inl h, e⟩
theorem Al.one (e : Ext F H) (hp : H p = none) : Al F H (upd F p o) (upd H p o) := by
  have nF : F p = none := by
    cases q : F p with
    | none => rfl
    | some x => rw [e _ _ q] at hp; cases hp
  refine ⟨.new nF, .new hp, fun b h1 h2 => ?_, fun b u h => ?_⟩
  · rw [upd_ne (fun z => h2 (by rw [z]; exact hp))]; exact .inl h1
  · by_cases hb : b = p
    · subst hb; rw [upd_same] at h ⊢; exact h
    · rw [upd_ne hb] at h ⊢; exact e _ _ h
theorem Ext.ne {F H : Hp} (e : Ext F H) {b : Addr} (h : F b ≠ none) : H b = F b := by
  cases q : F b with
  | none => exact absurd q h
  | some x => exact e _ _ q
theorem Al.trans (a : Al F H F' H') (b : Al F' H' F2 H2) : Al F H F2 H2 :=
  ⟨a.xF.trans b.xF, a.xH.trans b.xH, fun c h1 h2 => (a.new c h1 h2).elim (fun q => by have z := b.new c q (by rw [a.xH.ne h2]; exact h2); rwa [a.xH.ne h2] at z) .inr, b.ext⟩
theorem Rel.al (R : Rel K E F H σ S) (a : Al F H F' H') : Rel K E F' H' σ S := by
  refine ⟨⟨a.ext, R.g.gF.trans a.xF, fun b h1 h2 h3 => by
    have hb := R.g.gP b h2
    rw [a.xH.ne hb]
    exact (R.g.gN b h1 h2 h3).elim (fun q => a.new b q hb) .inr, fun b u h1 h2 h3 => a.xH _ _ (R.g.gH b u h1 h2 h3), fun b h1 => ?_, R.g.gO, fun q ob e => ?_⟩, R.len, fun i d e => ?_, fun i d e => ?_, R.inj⟩
  · have := R.g.gP b h1
    rw [a.xH.ne this]; exact this
  · obtain ⟨h1, h2⟩ := R.g.obs q ob e
    exact ⟨h1.mono a.xF (a.xH.ne h1.there), (a.new q h2 h1.there).elim id fun z => (TupO.ob h1 z).elim⟩
  · obtain ⟨v, h1, h2⟩ := R.frz i d e
    exact ⟨v, h1, h2.mono a.xF⟩
  · obtain ⟨q, h1, h2, h3, h4, h5⟩ := R.own i d e
    exact ⟨q, h1, h2.mono a.xF (a.xH.ne h2.there), (a.new q h3 h2.there).elim id fun z => (TupO.ow h2 z).elim, h4, h5⟩
def Sg.st (S : Sg) (i : Nat) (x : Sl) : Sg := ⟨S.s.set i x, S.h⟩
theorem ix_lt {α : Type} {l : List α} {i : Nat} {x : α} (h : l[i]? = some x) : i < l.length := (List.getElem?_eq_some_iff.mp h).1
theorem set_get {α : Type} {l : List α} {i j : Nat} {x y : α} (h : (l.set i x)[j]? = some y) : (j = i ∧ x = y ∧ i < l.length) ∨ (j ≠ i ∧ l[j]? = some y) := by
  by_cases e : j = i
  · subst e
    have hl : j < l.length := by simpa using ix_lt h
    rw [List.getElem?_set_self hl] at h
    exact .inl ⟨rfl, Option.some.inj h, hl⟩
  · rw [List.getElem?_set_ne (Ne.symm e)] at h
    exact .inr ⟨e, h⟩
/-- a name gets a frozen value -/
theorem Rel.set (R : Rel K E F H σ S) (r : Rep K F v d) : Rel K E F H (σ.set i (some v)) (S.st i (.f d)) := by
  refine ⟨R.g, by show (S.s.set i _).length = _; rw [List.length_set, List.length_set]; exact R.len, fun j e h => ?_, fun j e h => ?_, fun j l e e' p h1 h2 h3 h4 => ?_⟩
  · rcases set_get h with ⟨rfl, h, hl⟩ | ⟨n, h⟩
    · cases h
      exact ⟨v, List.getElem?_set_self (R.len ▸ hl), r⟩
    · obtain ⟨u, h1, h2⟩ := R.frz j e h
      exact ⟨u, by rw [List.getElem?_set_ne (Ne.symm n)]; exact h1, h2⟩
  · rcases set_get h with ⟨rfl, h, hl⟩ | ⟨n, h⟩
    · cases h
    · obtain ⟨u, h1, h2⟩ := R.own j e h
      exact ⟨u, by rw [List.getElem?_set_ne (Ne.symm n)]; exact h1, h2⟩
  · rcases set_get h1 with ⟨_, h, _⟩ | ⟨n1, g1⟩
    · cases h
    rcases set_get h2 with ⟨_, h, _⟩ | ⟨n2, g2⟩
    · cases h
    rw [List.getElem?_set_ne (Ne.symm n1)] at h3
    rw [List.getElem?_set_ne (Ne.symm n2)] at h4
    exact R.inj j l e e' p g1 g2 h3 h4
/-- a name gets a fresh container -/
theorem Rel.setO (R : Rel K E F H σ S) (f : Fresh K E F H σ S p d) : Rel K E F H (σ.set i (some (.ref p))) (S.st i (.o d)) := by
  refine ⟨R.g, by show (S.s.set i _).length = _; rw [List.length_set, List.length_set]; exact R.len, fun j e h => ?_, fun j e h => ?_, fun j l e e' q h1 h2 h3 h4 => ?_⟩
  · rcases set_get h with ⟨rfl, h, hl⟩ | ⟨n, h⟩
    · cases h
    · obtain ⟨u, h1, h2⟩ := R.frz j e h
      exact ⟨u, by rw [List.getElem?_set_ne (Ne.symm n)]; exact h1, h2⟩
  · rcases set_get h with ⟨rfl, h, hl⟩ | ⟨n, h⟩
    · cases h
      exact ⟨p, List.getElem?_set_self (R.len ▸ hl), f.at_, f.nF, f.nh, .inl f.nE⟩
    · obtain ⟨u, h1, h2⟩ := R.own j e h
      exact ⟨u, by rw [List.getElem?_set_ne (Ne.symm n)]; exact h1, h2⟩
  · rcases set_get h1 with ⟨e1, h, l1⟩ | ⟨n1, g1⟩
    · rcases set_get h2 with ⟨e2, h', _⟩ | ⟨n2, g2⟩
      · exact e1.trans e2.symm
      · subst e1
        rw [List.getElem?_set_self (R.len ▸ l1)] at h3
        rw [List.getElem?_set_ne (Ne.symm n2)] at h4
        cases h3
        exact absurd h4 (f.no l e' g2)
    · rw [List.getElem?_set_ne (Ne.symm n1)] at h3
      rcases set_get h2 with ⟨e2, h', l2⟩ | ⟨n2, g2⟩
      · subst e2
        rw [List.getElem?_set_self (R.len ▸ l2)] at h4
        cases h4
        exact absurd h3 (f.no j e g1)
      · rw [List.getElem?_set_ne (Ne.symm n2)] at h4
        exact R.inj j l e e' q g1 g2 h3 h4
/-- a name's own container is frozen -/
theorem Rel.freeze (R : Rel K E F H σ S) (hi : S.s[i]? = some (.o d)) : ∃ p F', σ[i]? = some (some (.ref p)) ∧ Rep K F' (.ref p) d ∧ Ext F F' ∧ Rel K E F' H σ (S.st i (.f d)) := by
  obtain ⟨p, h1, h2, h3, h4, h5⟩ := R.own i d hi
  obtain ⟨o, ho⟩ := Option.ne_none_iff_exists'.mp h2.there
  have x : Ext F (upd F p o) := .new h3
  have rp := h2.rep ho h3
  refine ⟨p, upd F p o, h1, rp, x, ⟨⟨fun b u e => ?_, R.g.gF.trans x, fun b q1 q2 q3 => ?_, R.g.gH, R.g.gP, R.g.gO, fun a ob e => ?_⟩, by show (S.s.set i _).length = _; rw [List.length_set]; exact R.len, fun j e h => ?_, fun j e h => ?_, fun j l e e' q q1 q2 q3 q4 => ?_⟩⟩
  · by_cases hb : b = p
    · subst hb; rw [upd_same] at e; cases e; exact ho
    · rw [upd_ne hb] at e; exact R.g.ext _ _ e
  · have : b ≠ p := fun z => by
      subst z
      rcases h5 with h5 | h5
      · exact q2 h5
      · exact q3 h5
    rw [upd_ne this]; exact R.g.gN b q1 q2 q3
  · obtain ⟨q1, q2⟩ := R.g.obs a ob e
    have na : a ≠ p := fun z => by have e' : S.h a = some ob := e; rw [z, h4] at e'; cases e'
    exact ⟨q1.mono x rfl, by rw [upd_ne na]; exact q2⟩
  · rcases set_get h with ⟨rfl, h, hl⟩ | ⟨n, h⟩
    · cases h
      exact ⟨_, h1, rp⟩
    · obtain ⟨u, q1, q2⟩ := R.frz j e h
      exact ⟨u, q1, q2.mono x⟩
  · rcases set_get h with ⟨rfl, h, hl⟩ | ⟨n, h⟩
    · cases h
    · obtain ⟨u, q1, q2, q3, q4, q5⟩ := R.own j e h
      have nu : u ≠ p := fun z => n (R.inj j i e d p h hi (z ▸ q1) h1)
      exact ⟨u, q1, q2.mono x rfl, by rw [upd_ne nu]; exact q3, q4, q5⟩
  · rcases set_get q1 with ⟨_, h, _⟩ | ⟨n1, g1⟩
    · cases h
    rcases set_get q2 with ⟨_, h, _⟩ | ⟨n2, g2⟩
    · cases h
    exact R.inj j l e e' q g1 g2 q3 q4
/-- a name's own container changes -/
theorem Rel.mut {e : D} (R : Rel K E F H σ S) (hi : S.s[i]? = some (.o d)) (hp : σ[i]? = some (some (.ref p))) (ha : OwAt K F (upd H p o) p e) : Rel K E F (upd H p o) σ (S.st i (.o e)) := by
  obtain ⟨p', h1, h2, h3, h4, h5⟩ := R.own i d hi
  rw [hp] at h1
  cases h1
  have ne : ∀ b, F b ≠ none → b ≠ p := fun b hb z => hb (z ▸ h3)
  refine ⟨⟨fun b u q => ?_, R.g.gF, fun b q1 q2 q3 => TupO.upd (R.g.gN b q1 q2 q3) h3, fun b u q1 q2 q3 => ?_, fun b q => ?_, R.g.gO, fun a ob q => ?_⟩, by show (S.s.set i _).length = _; rw [List.length_set]; exact R.len, fun j e' h => ?_, fun j e' h => ?_, fun j l x y q q1 q2 q3 q4 => ?_⟩
  · rw [upd_ne (ne b (by rw [q]; simp))]; exact R.g.ext _ _ q
  · have : b ≠ p := fun z => by
      subst z
      rcases h5 with h5 | h5
      · rw [h5] at q1; cases q1
      · exact q3 h5
    rw [upd_ne this]; exact R.g.gH b u q1 q2 q3
  · by_cases hb : b = p
    · subst hb; rw [upd_same]; simp
    · rw [upd_ne hb]; exact R.g.gP b q
  · obtain ⟨q1, q2⟩ := R.g.obs a ob q
    have na : a ≠ p := fun z => by have e' : S.h a = some ob := q; rw [z, h4] at e'; cases e'
    exact ⟨q1.mono (.refl _) (upd_ne na), q2⟩
  · rcases set_get h with ⟨rfl, h, hl⟩ | ⟨n, h⟩
    · cases h
    · exact R.frz j e' h
  · rcases set_get h with ⟨rfl, h, hl⟩ | ⟨n, h⟩
    · cases h
      exact ⟨p, hp, ha, h3, h4, h5⟩
    · obtain ⟨u, q1, q2, q3, q4, q5⟩ := R.own j e' h
      have nu : u ≠ p := fun z => n (R.inj j i e' d p h hi (z ▸ q1) hp)
      exact ⟨u, q1, q2.mono (.refl _) (upd_ne nu), q3, q4, q5⟩
  · have get : ∀ (j : Nat) (x : D), (S.s.set i (.o e))[j]? = some (.o x) → ∃ x', S.s[j]? = some (.o x') := fun j x h => by
      rcases set_get h with ⟨rfl, _, _⟩ | ⟨_, h⟩
      · exact ⟨d, hi⟩
      · exact ⟨x, h⟩
    obtain ⟨x', z1⟩ := get j x q1
    obtain ⟨y', z2⟩ := get l y q2
    exact R.inj j l x' y' q z1 z2 q3 q4
def Sg.ob (S : Sg) (a : Addr) (o : Ob) : Sg := ⟨S.s, S.h.put a o⟩
/-- a known object changes -/
theorem Rel.obput {u : Ob} {a : Addr} (R : Rel K E F H σ S) (hu : S.h a ≠ none) (ha : ObAt K F (upd H a o) a u) : Rel K E F (upd H a o) σ (S.ob a u) := by
  obtain ⟨w, hw⟩ := Option.ne_none_iff_exists'.mp hu
  obtain ⟨h1, h2⟩ := R.g.obs a w hw
  have ne : ∀ b, F b ≠ none → b ≠ a := fun b hb z => hb (z ▸ h2)
  refine ⟨⟨fun b u q => ?_, R.g.gF, fun b q1 q2 q3 => TupO.upd (R.g.gN b q1 q2 q3) h2, fun b u q1 q2 q3 => ?_, fun b q => ?_, fun b q => ?_, fun b ob q => ?_⟩, R.len, R.frz, fun j e' h => ?_, R.inj⟩
  · rw [upd_ne (ne b (by rw [q]; simp))]; exact R.g.ext _ _ q
  · have : b ≠ a := fun z => by
      subst z
      rcases R.g.gO b hu with h | h | h
      · exact h q2
      · rw [h] at q1; cases q1
      · exact q3 h
    rw [upd_ne this]; exact R.g.gH b u q1 q2 q3
  · by_cases hb : b = a
    · subst hb; rw [upd_same]; simp
    · rw [upd_ne hb]; exact R.g.gP b q
  · by_cases hb : b = a
    · subst hb; exact R.g.gO b hu
    · have q' : S.h.put a u b ≠ none := q
      rw [Oh.put_ne hb] at q'; exact R.g.gO b q'
  · by_cases hb : b = a
    · subst hb
      have q' : S.h.put b u b = some ob := q
      rw [Oh.put_same] at q'; cases q'
      exact ⟨ha, h2⟩
    · have q' : S.h.put a u b = some ob := q
      rw [Oh.put_ne hb] at q'
      obtain ⟨q1, q2⟩ := R.g.obs b ob q'
      exact ⟨q1.mono (.refl _) (upd_ne hb), q2⟩
  · obtain ⟨q, q1, q2, q3, q4, q5⟩ := R.own j e' h
    have nq : q ≠ a := fun z => hu (z ▸ q4)
    exact ⟨q, q1, q2.mono (.refl _) (upd_ne nq), q3, by show S.h.put a u q = none; rw [Oh.put_ne nq]; exact q4, q5⟩
/-- a fresh container becomes a known object -/
theorem Rel.obnew {u : Ob} (R : Rel K E F H σ S) (f : Fresh K E F H σ S p d) (ha : ObAt K F H p u) : Rel K E F H σ (S.ob p u) := by
  refine ⟨⟨R.g.ext, R.g.gF, R.g.gN, R.g.gH, R.g.gP, fun b q => ?_, fun b ob q => ?_⟩, R.len, R.frz, fun j e' h => ?_, R.inj⟩
  · by_cases hb : b = p
    · subst hb; exact .inr (.inl f.nE)
    · have q' : S.h.put p u b ≠ none := q
      rw [Oh.put_ne hb] at q'; exact R.g.gO b q'
  · have q' : S.h.put p u b = some ob := q
    by_cases hb : b = p
    · subst hb
      rw [Oh.put_same] at q'; cases q'
      exact ⟨ha, f.nF⟩
    · rw [Oh.put_ne hb] at q'
      exact R.g.obs b ob q'
  · obtain ⟨q, q1, q2, q3, q4, q5⟩ := R.own j e' h
    have nq : q ≠ p := fun z => f.no j e' h (z ▸ q1)
    exact ⟨q, q1, q2, q3, by show S.h.put p u q = none; rw [Oh.put_ne nq]; exact q4, q5⟩
/-- what the names own, as the entry of a part -/
def owns (σ : L2.St) (S : Sg) : Addr → Prop := fun p => ∃ (i : Nat) (d : D), S.s[i]? = some (.o d) ∧ σ[i]? = some (some (.ref p))
theorem Rel.ownE (R : Rel K E F H σ S) {p : Addr} (h : owns σ S p) : E.H p = none ∨ E.ow p := by
  obtain ⟨i, d, h1, h2⟩ := h
  obtain ⟨q, h3, _, _, _, h5⟩ := R.own i d h1
  rw [h2] at h3; cases h3
  exact h5
theorem Gr.then {h h2 : Oh} {ow : Addr → Prop} (g : Gr K E F H h) (ho : ∀ p, ow p → E.H p = none ∨ E.ow p) (g2 : Gr K ⟨F, H, h, ow⟩ F2 H2 h2) : Gr K E F2 H2 h2 := by
  have now : ∀ b, E.H b ≠ none → ¬ E.ow b → ¬ ow b := fun b h1 h2 h3 => (ho b h3).elim h1 h2
  have nh : ∀ b, E.H b ≠ none → E.h b = none → ¬ E.ow b → h b = none := fun b h1 h2 h3 => by
    cases q : h b with
    | none => rfl
    | some x =>
      rcases g.gO b (by rw [q]; simp) with z | z | z
      · exact (z h2).elim
      · exact (h1 z).elim
      · exact (h3 z).elim
  refine ⟨g2.ext, g.gF.trans g2.gF, fun b h1 h2 h3 => (g.gN b h1 h2 h3).elim (fun q => g2.gN b q (g.gP b h2) (now b h2 h3)) fun ⟨vs, q⟩ => .inr ⟨vs, g2.gH b _ q (by
    show h b = none
    cases z : h b with
    | none => rfl
    | some x => exact (TupO.ob (g.obs b x z).1 ⟨vs, q⟩).elim) (now b h2 h3)⟩, fun b o h1 h2 h3 => ?_, fun b h1 => g2.gP b (g.gP b h1), fun a h1 => ?_, g2.obs⟩
  · have hb : E.H b ≠ none := by rw [h1]; simp
    exact g2.gH b o (g.gH b o h1 h2 h3) (nh b hb h2 h3) (now b hb h3)
  · rcases g2.gO a h1 with q | q | q
    · exact g.gO a q
    · refine .inr (.inl ?_)
      cases z : E.H a with
      | none => rfl
      | some x => exact absurd q (g.gP a (by rw [z]; simp))
    · exact .inr (ho a q)
/-- the same state, with itself as the entry -/
theorem Rel.enter (R : Rel K E F H σ S) : Rel K ⟨F, H, S.h, owns σ S⟩ F H σ S :=
  ⟨⟨R.g.ext, .refl _, fun _ h _ _ => .inl h, fun _ _ h _ _ => h, fun _ h => h, fun _ h => .inl h, R.g.obs⟩, R.len, R.frz,
    fun i d h => let ⟨p, h1, h2, h3, h4, _⟩ := R.own i d h; ⟨p, h1, h2, h3, h4, .inr ⟨i, d, h, h1⟩⟩, R.inj⟩
/-- .. and back to the old entry -/
theorem Rel.leave {σ' : L2.St} {S' : Sg} (R : Rel K E F H σ S) (R2 : Rel K ⟨F, H, S.h, owns σ S⟩ F' H' σ' S') : Rel K E F' H' σ' S' :=
  ⟨R.g.then (fun p hp => R.ownE hp) R2.g, R2.len, R2.frz, fun i d h => let ⟨p, h1, h2, h3, h4, h5⟩ := R2.own i d h; ⟨p, h1, h2, h3, h4, h5.elim (fun z => .inl (R.g.free z)) fun z => R.ownE z⟩, R2.inj⟩
end
end VL

set_option Elab.async false
set_option linter.all false
set_option maxRecDepth 100000
set_option maxHeartbeats 4000000
/-! VL2: readings over plain data: expressions, tests, arguments, iterables, targets, statements, defs. -/
namespace VL
open PySem PySem.Spec L2

abbrev WE := Sg → (D → Sg → Prop) → Prop
abbrev WT := Sg → (Bool → Sg → Prop) → Prop
abbrev WA := Sg → (List D → Sg → Prop) → Prop
abbrev WG := D → Sg → (Sg → Prop) → Prop
structure We where
  nx : Sg → Prop
  rt : D → Sg → Prop
  bk : Sg → Prop := fun _ => False
  ct : Sg → Prop := fun _ => False
  xx : Str → List (Str × D) → Sg → Prop := fun _ _ _ => False
abbrev WS := We → Sg → Prop
/-- an exception: the address of its class, its fields; the objects behind it -/
abbrev XC := Str → List (Str × D) → Oh → Prop
abbrev Spc := List D → Oh → (D → Oh → Prop) → XC → Prop

/-- a test: two ways -/
@[irreducible] def Br (b : Bool) (p q : Prop) : Prop := if b = true then p else q
theorem br_t {p q : Prop} (h : Br true p q) : p := by unfold Br at h; exact h
theorem br_f {p q : Prop} (h : Br false p q) : q := by unfold Br at h; exact h
theorem br {b : Bool} {p q : Prop} (h1 : b = true → p) (h2 : b = false → q) : Br b p q := by
  unfold Br
  cases b with
  | true => exact h1 rfl
  | false => exact h2 rfl
theorem brT {b : Bool} {p q : Prop} (e : b = true) (h : p) : Br b p q := by subst e; unfold Br; exact h
theorem brF {b : Bool} {p q : Prop} (e : b = false) (h : q) : Br b p q := by subst e; unfold Br; exact h

section
variable (K : PySem.W.Frag) (E : En)
def LE (w : WE) : TE := fun σ H Q => ∃ S F R, Rel K E F H σ S ∧ w S R ∧ ∀ d S' v F' H', R d S' → Rep K F' v d → Rel K E F' H' σ S' → Ext F F' → Q v H'
/-- .. to a fresh container -/
def LN (w : WE) : TE := fun σ H Q => ∃ S F R, Rel K E F H σ S ∧ w S R ∧ ∀ d S' p F' H', R d S' → Fresh K E F' H' σ S' p d → Rel K E F' H' σ S' → Ext F F' → Q (.ref p) H'
def LT (w : WT) : TT := fun σ H Q => ∃ S F R, Rel K E F H σ S ∧ w S R ∧ ∀ b S' F' H', R b S' → Rel K E F' H' σ S' → Ext F F' → Q b H'
def LA (n : Nat) (w : WA) : TA := fun σ H Q => ∃ S F R, Rel K E F H σ S ∧ w S R ∧ ∀ ds S' vs F' H', R ds S' → ds.length = n → Reps K F' vs ds → Rel K E F' H' σ S' → Ext F F' → Q vs H'
def LG (g : WG) : TG := fun v σ H Q => ∃ S F d R, Rel K E F H σ S ∧ Rep K F v d ∧ g d S R ∧ ∀ S' σ' F' H', R S' → Rel K E F' H' σ' S' → Ext F F' → Q σ' H'
/-- an iterable gives these items -/
def Feeds (J : It) (F : Hp) (ds : List D) : Prop := ∀ F' H', Ext F F' → Ext F' H' →
  (∀ i d, ds[i]? = some d → J.go i H' ∧ ∀ x H3, J.yld i H' x H3 → ∃ F3, Al F' H' F3 H3 ∧ Rep K F3 x d) ∧ ∀ i, ds.length ≤ i → J.stop i H'
def LI (w : WA) : TI := fun σ H Rr => ∃ S F R, Rel K E F H σ S ∧ w S R ∧ ∀ ds S' J F' H', R ds S' → Feeds K J F' ds → Rel K E F' H' σ S' → Ext F F' → Rr J H'
def LS (W : L2.WX) (w : WS) : TS := fun D σ H => ∃ (S : Sg) (F : Hp) (R : We), Rel K E F H σ S ∧ w R S ∧
  (∀ S' σ' F' H', R.nx S' → Rel K E F' H' σ' S' → Ext F F' → D.nx σ' H') ∧ (∀ S' σ' F' H', R.bk S' → Rel K E F' H' σ' S' → Ext F F' → D.bk σ' H') ∧
  (∀ S' σ' F' H', R.ct S' → Rel K E F' H' σ' S' → Ext F F' → D.ct σ' H') ∧ (∀ d S' v σ' F' H', R.rt d S' → Rep K F' v d → Rel K E F' H' σ' S' → Ext F F' → D.rt v H') ∧ (∀ c fs S' cls dd σ' F' H', R.xx c fs S' → XAt K F' c fs cls dd → Rel K E F' H' σ' S' → W cls dd σ' H')
end

def DE (X : Cx) (Φ : En → Prop) (e : Expr) (w : WE) : Prop := ∀ E, Φ E → PE X e (LE X.K E w)
def DN (X : Cx) (Φ : En → Prop) (e : Expr) (w : WE) : Prop := ∀ E, Φ E → PE X e (LN X.K E w)
def DT (X : Cx) (Φ : En → Prop) (e : Expr) (w : WT) : Prop := ∀ E, Φ E → PT X e (LT X.K E w)
def DW (X : Cx) (Φ : En → Prop) (e : Expr) (w : WT) : Prop := ∀ E, Φ E → PW X e (LT X.K E w)
def DA (X : Cx) (Φ : En → Prop) (es : List Expr) (n : Nat) (w : WA) : Prop := ∀ E, Φ E → PA X es (LA X.K E n w)
def DG (X : Cx) (Φ : En → Prop) (e : Expr) (w : WG) : Prop := ∀ E, Φ E → PG X e (LG X.K E w)
def DI (X : Cx) (Φ : En → Prop) (tg e : Expr) (w : WA) : Prop := ∀ E, Φ E → PI X tg e (LI X.K E w)
abbrev Tr : En → Prop := fun _ => True
def DS (X : Cx) (W : L2.WX) (s : Stmt) (w : WS) : Prop := ∀ E, PS X s (LS X.K E W w)
def DSs (X : Cx) (W : L2.WX) (s : List Stmt) (w : WS) : Prop := ∀ E, PSs X s (LS X.K E W w)

/-! ### weakening -/
section
variable {X : Cx} {Φ : En → Prop} {e : Expr} {es : List Expr} {st : Stmt} {sts : List Stmt}
theorem PE.imp {t t' : TE} (h : PE X e t) (hi : ∀ σ H Q, t' σ H Q → t σ H Q) : PE X e t' := ⟨fun pins s σ H Q I q => h.run pins s σ H Q I (hi _ _ _ q)⟩
theorem PT.imp {t t' : TT} (h : PT X e t) (hi : ∀ σ H Q, t' σ H Q → t σ H Q) : PT X e t' := ⟨fun pins s σ H Q I q => h.run pins s σ H Q I (hi _ _ _ q)⟩
theorem PW.imp {t t' : TT} (h : PW X e t) (hi : ∀ σ H Q, t' σ H Q → t σ H Q) : PW X e t' := ⟨fun wh pins s σ H Q I q => h.run wh pins s σ H Q I (hi _ _ _ q)⟩
theorem PA.imp {t t' : TA} (h : PA X es t) (hi : ∀ σ H Q, t' σ H Q → t σ H Q) : PA X es t' := ⟨fun pos pins s σ H Q I q => h.run pos pins s σ H Q I (hi _ _ _ q)⟩
theorem PG.imp {t t' : TG} (h : PG X e t) (hi : ∀ v σ H Q, t' v σ H Q → t v σ H Q) : PG X e t' := ⟨fun pins s σ H v u Q I r q => h.run pins s σ H v u Q I r (hi _ _ _ _ q)⟩
theorem PI.imp {tg : Expr} {t t' : TI} (h : PI X tg e t) (hi : ∀ σ H Q, t' σ H Q → t σ H Q) : PI X tg e t' := ⟨fun pins s σ H Q I q => h.run pins s σ H Q I (hi _ _ _ q)⟩
theorem PS.imp {t t' : TS} (h : PS X st t) (hi : ∀ D σ H, t' D σ H → t D σ H) : PS X st t' := ⟨fun pins s σ H D I q => h.run pins s σ H D I (hi _ _ _ q)⟩
theorem PSs.imp {t t' : TS} (h : PSs X sts t) (hi : ∀ D σ H, t' D σ H → t D σ H) : PSs X sts t' := ⟨fun pins s σ H D I q => h.run pins s σ H D I (hi _ _ _ q)⟩
theorem OpR.any {f : Value → Value → Sem Value} {r : R2} (h : ∀ x y H Q, r x y H Q → ∃ r', OpR X f r' ∧ r' x y H Q) : OpR X f r := fun pins s σ H x y v u Q I rx ry q =>
  let ⟨_, ho, q'⟩ := h x y H Q q
  ho pins s σ H x y v u Q I rx ry q'
theorem CallR.any {f : Value} {r : List V → Hp → VK → Prop} (h : ∀ xs H Q, r xs H Q → ∃ r', CallR X f r' ∧ r' xs H Q) : CallR X f r := fun pins s σ H xs us Q I rx q =>
  let ⟨_, ho, q'⟩ := h xs H Q q
  ho pins s σ H xs us Q I rx q'
theorem IxR.any {r : R2} (h : ∀ x y H Q, r x y H Q → ∃ r', IxR X r' ∧ r' x y H Q) : IxR X r := fun a b pins s σ H x y v u Q I rx ry q e =>
  let ⟨_, ho, q'⟩ := h x y H Q q
  ho a b pins s σ H x y v u Q I rx ry q' e
theorem MtR.any {id : String} {r : V → List V → Hp → VK → Prop} (h : ∀ x xs H Q, r x xs H Q → ∃ r', MtR X id r' ∧ r' x xs H Q) : MtR X id r := fun pins s σ H x xs v us Q I rx rs q =>
  let ⟨_, ho, q'⟩ := h x xs H Q q
  ho pins s σ H x xs v us Q I rx rs q'
theorem UnR.any {f : Value → Sem Value} {r : V → Hp → VK → Prop} (h : ∀ x H Q, r x H Q → ∃ r', UnR X f r' ∧ r' x H Q) : UnR X f r := fun pins s σ H x v Q I rx q =>
  let ⟨_, ho, q'⟩ := h x H Q q
  ho pins s σ H x v Q I rx q'
end

/-! ### names, constants, operators -/
def wVar (i : Nat) : WE := fun S R => match S.s[i]? with
  | some (.f d) => R d S
  | some (.o d) => R d (S.st i (.f d))
  | _ => False
def wC (d : D) : WE := fun S R => R d S
/-- a two-place operation on data: what it asks, what it gives -/
abbrev O2 := D → D → (D → Prop) → Prop
abbrev O1 := D → (D → Prop) → Prop
def wOp (g : O2) (wa wb : WE) : WE := fun S R => wa S fun x S1 => wb S1 fun y S2 => g x y fun z => R z S2
def wUn (g : O1) (wa : WE) : WE := fun S R => wa S fun x S1 => g x fun z => R z S1
def rV (K : PySem.W.Frag) (g : O2) : R2 := fun x y H Q => ∃ F d e R, Ext F H ∧ Rep K F x d ∧ Rep K F y e ∧ g d e R ∧ ∀ z v F' H', R z → Rep K F' v z → Al F H F' H' → Q v H'
def rV1 (K : PySem.W.Frag) (g : O1) : V → Hp → VK → Prop := fun x H Q => ∃ F d R, Ext F H ∧ Rep K F x d ∧ g d R ∧ ∀ z v F' H', R z → Rep K F' v z → Al F H F' H' → Q v H'
abbrev OpV (X : Cx) (f : Value → Value → Sem Value) (g : O2) : Prop := OpR X f (rV X.K g)
abbrev UnV (X : Cx) (f : Value → Sem Value) (g : O1) : Prop := UnR X f (rV1 X.K g)
section
variable {X : Cx} {Φ : En → Prop} {a b c : Expr} {wa wb wc : WE} {pos : Pos}
theorem de_var {x : Str} (i : Nat) (h : PE X (.Name x pos) (tVar i)) : DE X Φ (.Name x pos) (wVar i) := fun E hE => PE.imp h fun σ H Q => by
  rintro ⟨S, F, R, hR, hw, k⟩
  unfold wVar at hw
  split at hw
  · rename_i d hd
    obtain ⟨v, h1, h2⟩ := hR.frz i d hd
    exact ⟨v, h1, k d S v F H hw h2 hR (.refl _)⟩
  · rename_i d hd
    obtain ⟨p, F', h1, h2, h3, h4⟩ := hR.freeze hd
    exact ⟨_, h1, k d _ _ F' H hw h2 h4 h3⟩
  · exact hw.elim
theorem de_c {v : V} {d : D} (h : PE X a (tC v)) (r : ∀ F, Rep X.K F v d) : DE X Φ a (wC d) := fun E hE => PE.imp h fun σ H Q => by
  rintro ⟨S, F, R, hR, hw, k⟩
  exact k d S v F H hw (r F) hR (.refl _)
theorem de_int {i : Int} {j : Nat} : DE X Φ (.Constant (.int i) j pos) (wC (.int i)) := de_c pe_int fun _ => .int _
theorem de_bl {i : Bool} {j : Nat} : DE X Φ (.Constant (.bool i) j pos) (wC (.bl i)) := de_c pe_bl fun _ => .bl _
theorem de_non {j : Nat} : DE X Φ (.Constant .none j pos) (wC .non) := de_c pe_non fun _ => .non
theorem de_str {x : Str} {j : Nat} : DE X Φ (.Constant (.str x) j pos) (wC (.str x)) := de_c pe_str fun _ => .str _
/-- a constant of the module -/
theorem de_glob {x : Str} {v : V} {u : Value} {d : D} (hg : Gl X x) (hm : X.mg x = some u) (r : RelV v u) (rd : ∀ F, Rep X.K F v d) (hd : (x == ("__debug__" : Str)) = false := by decide) : DE X Φ (.Name x pos) (wC d) := de_c (pe_glob hg hm r hd) rd
theorem de_op {op : Operator} {g : O2} (ho : OpV X (binaryOp op) g) (ha : DE X Φ a wa) (hb : DE X Φ b wb) : DE X Φ (.BinOp a op b pos) (wOp g wa wb) := fun E hE => PE.imp (pe_op ho (ha E hE) (hb E hE)) fun σ H Q => by
  rintro ⟨S, F, R, hR, hw, k⟩
  refine ⟨S, F, _, hR, hw, fun x S1 v1 F1 H1 hw1 r1 hR1 x1 => ?_⟩
  refine ⟨S1, F1, _, hR1, hw1, fun y S2 v2 F2 H2 hw2 r2 hR2 x2 => ?_⟩
  exact ⟨F2, x, y, _, hR2.g.ext, r1.mono x2, r2, hw2, fun z v F' H' hz rz al => k z S2 v F' H' hz rz (hR2.al al) ((x1.trans x2).trans al.xF)⟩
theorem de_un {op : UnaryOp} {g : O1} (ho : UnV X (unaryOp op) g) (ha : DE X Φ a wa) : DE X Φ (.UnaryOp op a pos) (wUn g wa) := fun E hE => PE.imp (pe_un ho (ha E hE)) fun σ H Q => by
  rintro ⟨S, F, R, hR, hw, k⟩
  refine ⟨S, F, _, hR, hw, fun x S1 v1 F1 H1 hw1 r1 hR1 x1 => ?_⟩
  exact ⟨F1, x, _, hR1.g.ext, r1, hw1, fun z v F' H' hz rz al => k z S1 v F' H' hz rz (hR1.al al) (x1.trans al.xF)⟩
/-- a fresh container as a value -/
theorem de_new (ha : DN X Φ a wa) : DE X Φ a wa := fun E hE => PE.imp (ha E hE) fun σ H Q => by
  rintro ⟨S, F, R, hR, hw, k⟩
  refine ⟨S, F, _, hR, hw, fun d S1 p F1 H1 hw1 f hR1 x1 => ?_⟩
  obtain ⟨o, ho⟩ := Option.ne_none_iff_exists'.mp f.at_.there
  exact k d S1 _ _ H1 hw1 (f.at_.rep ho f.nF) (hR1.freezeN f ho) (x1.trans (.new f.nF))
end

/-! ### the operators -/
def opAdd : O2
  | .int i, .int j, R => R (.int (i + j))
  | .int i, .bl k, R => R (.int (i + PyProof.Rows.b2i k))
  | .str x, .str y, R => x.length + y.length ≤ sizeLine ∧ R (.str (x ++ y))
  | .tup xs, .tup ys, R => xs.length + ys.length ≤ sizeLine ∧ R (.tup (xs ++ ys))
  | .lst xs, .lst ys, R => xs.length + ys.length ≤ sizeLine ∧ R (.lst (xs ++ ys))
  | _, _, _ => False
def opI (f : Int → Int → Int) : O2
  | .int i, .int j, R => R (.int (f i j))
  | _, _, _ => False
def opIC (C : Int → Int → Prop) (f : Int → Int → Int) : O2
  | .int i, .int j, R => C i j ∧ R (.int (f i j))
  | _, _, _ => False
def opIB (f : Int → Int → Bool) : O2
  | .int i, .int j, R => R (.bl (f i j))
  | _, _, _ => False
def opAddI : O2
  | .int i, .int j, R => R (.int (i + j))
  | _, _, _ => False
def opSub : O2
  | .int i, .int j, R => R (.int (i - j))
  | _, _, _ => False
def opMul : O2
  | .int i, .int j, R => CMulX i j ∧ R (.int (i * j))
  | .lst xs, .int k, R => -(2 ^ 63) ≤ k ∧ k < 2 ^ 63 ∧ xs.length * k.toNat ≤ sizeLine ∧ R (.lst (List.replicate k.toNat xs).flatten)
  | _, _, _ => False
def opDiv : O2
  | .int i, .int j, R => CDivW i j ∧ R (.int (i / j))
  | _, _, _ => False
def opMod : O2
  | .int i, .int j, R => 0 < j ∧ R (.int (i % j))
  | _, _, _ => False
def opPow : O2
  | .int i, .int j, R => CPow i j ∧ R (.int (i ^ j.toNat))
  | _, _, _ => False
def opShl : O2
  | .int i, .int j, R => CShl i j ∧ R (.int (i * 2 ^ j.toNat))
  | _, _, _ => False
def opShr : O2
  | .int i, .int j, R => 0 ≤ j ∧ R (.int (i / 2 ^ j.toNat))
  | _, _, _ => False
def opAnd : O2
  | .int i, .int j, R => R (.int (Builtin.bitAnd i j))
  | _, _, _ => False
def opOr : O2
  | .int i, .int j, R => R (.int (Builtin.bitOr i j))
  | _, _, _ => False
def opXor : O2
  | .int i, .int j, R => R (.int (Builtin.bitXor i j))
  | _, _, _ => False
def opNeg : O1
  | .int i, R => R (.int (-i))
  | _, _ => False
def opInv : O1
  | .int i, R => R (.int (Builtin.bitNot i))
  | _, _ => False
theorem OpV.imp {X : Cx} {f : Value → Value → Sem Value} {g g' : O2} (h : OpV X f g) (hi : ∀ d e R, g' d e R → g d e R) : OpV X f g' := fun pins s σ H x y v u Q I rx ry q =>
  let ⟨F, d, e, R, hx, r1, r2, hg, k⟩ := q
  h pins s σ H x y v u Q I rx ry ⟨F, d, e, R, hx, r1, r2, hi _ _ _ hg, k⟩
/-- ints alone -/
theorem opI_V {X : Cx} {f : Value → Value → Sem Value} {g : Int → Int → Int} (h : OpR X f (rI0 fun i j => .int (g i j))) : OpV X f (opI g) := OpR.any fun x y H Q => by
  rintro ⟨F, d, e, R, hx, r1, r2, hg, k⟩
  refine ⟨_, h, ?_⟩
  cases r1 <;> cases r2 <;> try exact hg.elim
  exact ⟨_, _, rfl, rfl, k _ _ F H hg (.int _) (.refl hx)⟩
theorem opIC_V {X : Cx} {f : Value → Value → Sem Value} {C : Int → Int → Prop} {g : Int → Int → Int} (h : OpR X f (rI C fun i j => .int (g i j))) : OpV X f (opIC C g) := OpR.any fun x y H Q => by
  rintro ⟨F, d, e, R, hx, r1, r2, hg, k⟩
  refine ⟨_, h, ?_⟩
  cases r1 <;> cases r2 <;> try exact hg.elim
  exact ⟨_, _, rfl, rfl, hg.1, k _ _ F H hg.2 (.int _) (.refl hx)⟩
theorem opIB_V {X : Cx} {f : Value → Value → Sem Value} {g : Int → Int → Bool} (h : OpR X f (rI0 fun i j => .bl (g i j))) : OpV X f (opIB g) := OpR.any fun x y H Q => by
  rintro ⟨F, d, e, R, hx, r1, r2, hg, k⟩
  refine ⟨_, h, ?_⟩
  cases r1 <;> cases r2 <;> try exact hg.elim
  exact ⟨_, _, rfl, rfl, k _ _ F H hg (.bl _) (.refl hx)⟩
section
variable {X : Cx} {Φ : En → Prop}
theorem ov_add : OpV X (binaryOp .Add) opAdd := OpR.any fun x y H Q => by
  rintro ⟨F, d, e, R, hx, r1, r2, hg, k⟩
  cases r1 with
  | int i =>
    cases r2 with
    | int j => exact ⟨_, op_add, _, _, rfl, rfl, k _ _ F H hg (.int _) (.refl hx)⟩
    | bl j => exact ⟨_, op_add_ib, _, _, rfl, rfl, k _ _ F H hg (.int _) (.refl hx)⟩
    | _ => exact hg.elim
  | str x =>
    cases r2 with
    | str y => exact ⟨_, op_add_str, _, _, rfl, rfl, hg.1, k _ _ F H hg.2 (.str _) (.refl hx)⟩
    | _ => exact hg.elim
  | tup h1 s1 =>
    cases r2 with
    | tup h2 s2 =>
      have l1 := s1.length
      have l2 := s2.length
      have s12 := s1.append s2
      have q1 := hg.1
      rename_i a1 vs1 ds1 a2 vs2 ds2
      refine ⟨_, op_catA, a1, a2, vs1, vs2, rfl, rfl, hx.sqT h1, hx.sqT h2, by omega, fun z => ?_, fun z1 z2 => ?_, fun z1 z2 p hp => ?_⟩
      · subst z
        cases s1
        exact k _ _ F H hg.2 (.tup h2 s2) (.refl hx)
      · subst z2
        exact k _ _ F H hg.2 (.tup h1 (by rw [List.append_nil] at s12; exact s12)) (.refl hx)
      · have al := Al.one (o := .tup (vs1 ++ vs2)) hx hp
        exact k _ _ _ _ hg.2 (.tup (.of upd_same) (s12.mono al.xF)) al
    | _ => exact hg.elim
  | lst h1 s1 =>
    cases r2 with
    | lst h2 s2 =>
      have l1 := s1.length
      have l2 := s2.length
      have s12 := s1.append s2
      have q1 := hg.1
      rename_i a1 vs1 ds1 a2 vs2 ds2
      refine ⟨_, op_cat, a1, a2, vs1, vs2, rfl, rfl, hx _ _ h1, hx _ _ h2, by omega, fun p hp => ?_⟩
      have al := Al.one (o := .lst (vs1 ++ vs2)) hx hp
      exact k _ _ _ _ hg.2 (.lst upd_same (s12.mono al.xF)) al
    | _ => exact hg.elim
  | _ => exact hg.elim
end

section
variable {X : Cx} {Φ : En → Prop}
theorem ov_sub : OpV X (binaryOp .Sub) opSub := OpV.imp (opI_V op_sub) fun d e R h => by cases d <;> cases e <;> first | exact h | exact h.elim
theorem ov_mul : OpV X (binaryOp .Mult) opMul := OpR.any fun x y H Q => by
  rintro ⟨F, d, e, R, hx, r1, r2, hg, k⟩
  cases r1 with
  | int i =>
    cases r2 with
    | int j => exact ⟨_, op_mulX, _, _, rfl, rfl, hg.1, k _ _ F H hg.2 (.int _) (.refl hx)⟩
    | _ => exact hg.elim
  | lst h1 s1 =>
    cases r2 with
    | int j =>
      have l1 := s1.length
      obtain ⟨q1, q2, q3, q4⟩ := hg
      rename_i a1 vs1 ds1
      refine ⟨_, op_rep, a1, j, vs1, rfl, rfl, hx _ _ h1, q1, q2, by rw [l1]; exact q3, fun p hp => ?_⟩
      have al := Al.one (o := .lst (List.replicate j.toNat vs1).flatten) hx hp
      exact k _ _ _ _ q4 (.lst upd_same ((s1.rep _).mono al.xF)) al
    | _ => exact hg.elim
  | _ => exact hg.elim
theorem ov_div : OpV X (binaryOp .FloorDiv) opDiv := OpV.imp (opIC_V op_fdivW) fun d e R h => by cases d <;> cases e <;> first | exact h | exact h.elim
theorem ov_mod : OpV X (binaryOp .Mod) opMod := OpV.imp (opIC_V op_mod) fun d e R h => by cases d <;> cases e <;> first | exact h | exact h.elim
theorem ov_pow : OpV X (binaryOp .Pow) opPow := OpV.imp (opIC_V op_pow) fun d e R h => by cases d <;> cases e <;> first | exact h | exact h.elim
theorem ov_shl : OpV X (binaryOp .LShift) opShl := OpV.imp (opIC_V op_shlW) fun d e R h => by cases d <;> cases e <;> first | exact h | exact h.elim
theorem ov_shr : OpV X (binaryOp .RShift) opShr := OpV.imp (opIC_V op_shr) fun d e R h => by cases d <;> cases e <;> first | exact h | exact h.elim
theorem ov_and : OpV X (binaryOp .BitAnd) opAnd := OpV.imp (opI_V op_and) fun d e R h => by cases d <;> cases e <;> first | exact h | exact h.elim
theorem ov_or : OpV X (binaryOp .BitOr) opOr := OpV.imp (opI_V op_or) fun d e R h => by cases d <;> cases e <;> first | exact h | exact h.elim
theorem ov_xor : OpV X (binaryOp .BitXor) opXor := OpV.imp (opI_V op_xor) fun d e R h => by cases d <;> cases e <;> first | exact h | exact h.elim
theorem iv_add : OpV X (inplaceOp .Add) opAddI := OpV.imp (opI_V iop_add) fun d e R h => by cases d <;> cases e <;> first | exact h | exact h.elim
theorem iv_sub : OpV X (inplaceOp .Sub) opSub := OpV.imp (opI_V iop_sub) fun d e R h => by cases d <;> cases e <;> first | exact h | exact h.elim
theorem iv_and : OpV X (inplaceOp .BitAnd) opAnd := OpV.imp (opI_V iop_and) fun d e R h => by cases d <;> cases e <;> first | exact h | exact h.elim
theorem iv_or : OpV X (inplaceOp .BitOr) opOr := OpV.imp (opI_V iop_or) fun d e R h => by cases d <;> cases e <;> first | exact h | exact h.elim
theorem iv_xor : OpV X (inplaceOp .BitXor) opXor := OpV.imp (opI_V iop_xor) fun d e R h => by cases d <;> cases e <;> first | exact h | exact h.elim
theorem uv_neg : UnV X (unaryOp .USub) opNeg := UnR.any fun x H Q => by
  rintro ⟨F, d, R, hx, r1, hg, k⟩
  cases r1 with
  | int i => exact ⟨_, un_neg, _, rfl, k _ _ F H hg (.int _) (.refl hx)⟩
  | _ => exact hg.elim
theorem uv_inv : UnV X (unaryOp .Invert) opInv := UnR.any fun x H Q => by
  rintro ⟨F, d, R, hx, r1, hg, k⟩
  cases r1 with
  | int i => exact ⟨_, un_inv, _, rfl, k _ _ F H hg (.int _) (.refl hx)⟩
  | _ => exact hg.elim
end

/-! ### comparisons -/
def opEq : O2
  | .int i, .int j, R => R (.bl (i == j))
  | .str i, .str j, R => R (.bl (i == j))
  | .bl i, .bl j, R => R (.bl (i == j))
  | d, e, R => shD 8 d = true ∧ shD 8 e = true ∧ R (.bl (eqD d e))
def opNe : O2
  | .int i, .int j, R => R (.bl (!(i == j)))
  | .str i, .str j, R => R (.bl (!(i == j)))
  | .bl i, .bl j, R => R (.bl (!(i == j)))
  | d, e, R => shD 8 d = true ∧ shD 8 e = true ∧ R (.bl (!eqD d e))
def opLt : O2
  | .int i, .int j, R => R (.bl (decide (i < j)))
  | _, _, _ => False
def opLe : O2
  | .int i, .int j, R => R (.bl (decide (i ≤ j)))
  | _, _, _ => False
def opGt : O2
  | .int i, .int j, R => R (.bl (decide (j < i)))
  | _, _, _ => False
def opGe : O2
  | .int i, .int j, R => R (.bl (decide (j ≤ i)))
  | _, _, _ => False
/-- tuples of ints in order, too -/
def opLtT : O2
  | .int i, .int j, R => R (.bl (decide (i < j)))
  | .tup ds, .tup es, R => ∃ ns ms, ds = ns.map D.int ∧ es = ms.map D.int ∧ R (.bl (HT.lexLt ns ms))
  | _, _, _ => False
def opIsN : O2
  | d, .non, R => R (.bl (match d with | .non => true | _ => false))
  | _, _, _ => False
def opNotN : O2
  | d, .non, R => R (.bl (match d with | .non => false | _ => true))
  | _, _, _ => False
def flat : D → Bool
  | .non => true
  | .bl _ => true
  | .int _ => true
  | .str _ => true
  | _ => false
def inD (x : D) (ds : List D) : Bool := ds.any fun y => eqD y x
def opIn : O2
  | x, .tup ds, R => flat x = true ∧ ds.all flat = true ∧ R (.bl (inD x ds))
  | x, .lst ds, R => flat x = true ∧ ds.all flat = true ∧ R (.bl (inD x ds))
  | .str x, .str y, R => R (.bl (!(Builtin.Str.occurrences y x 0 y.length 1).isEmpty))
  | _, _, _ => False
def opNotIn : O2
  | x, .tup ds, R => flat x = true ∧ ds.all flat = true ∧ R (.bl (!inD x ds))
  | x, .lst ds, R => flat x = true ∧ ds.all flat = true ∧ R (.bl (!inD x ds))
  | .str x, .str y, R => R (.bl (!(!(Builtin.Str.occurrences y x 0 y.length 1).isEmpty)))
  | _, _, _ => False
section
variable {X : Cx} {Φ : En → Prop} {K : PySem.W.Frag} {F H : Hp}
theorem Rep.flat {v : V} {d : D} (r : Rep K F v d) (h : flat d = true) : flatV v = true := by
  cases r <;> first | rfl | exact nomatch h
theorem Reps.flat : ∀ {vs : List V} {ds : List D}, Reps K F vs ds → ds.all VL.flat = true → vs.all flatV = true
  | _, _, .nil, _ => rfl
  | _, _, .cons r t, h => by
    rw [List.all_cons, Bool.and_eq_true] at h ⊢
    exact ⟨r.flat h.1, Reps.flat t h.2⟩
theorem Rep.eqV {v u : V} {d e : D} (r : Rep K F v d) (s : Rep K F u e) (h : VL.flat d = true) (h' : VL.flat e = true) : L2.eqV v u = eqD d e := by
  cases r <;> cases s <;> first | rfl | exact nomatch h | exact nomatch h'
theorem Rep.inV {v : V} {x : D} (r : Rep K F v x) (h : VL.flat x = true) : ∀ {vs : List V} {ds : List D}, Reps K F vs ds → ds.all VL.flat = true → L2.inV v vs = inD x ds
  | _, _, .nil, _ => rfl
  | _, _, .cons s t, h' => by
    rw [List.all_cons, Bool.and_eq_true] at h'
    show (L2.eqV _ v || L2.inV v _) = (eqD _ x || inD x _)
    rw [s.eqV r h'.1 h, Rep.inV r h t h'.2]
theorem ov_eq (hu : X.A.units + 64 < cLine) : OpV X (compareOp .Eq) opEq := OpR.any fun x y H Q => by
  rintro ⟨F, d, e, R, hx, r1, r2, hg, k⟩
  unfold opEq at hg
  split at hg
  · cases r1; cases r2
    refine ⟨_, op_eq, rfl, ?_⟩
    rw [dec_int]
    exact k _ _ F H hg (.bl _) (.refl hx)
  · cases r1; cases r2
    refine ⟨_, op_eq, rfl, ?_⟩
    rw [dec_str]
    exact k _ _ F H hg (.bl _) (.refl hx)
  · cases r1; cases r2
    refine ⟨_, op_eq, rfl, ?_⟩
    rw [dec_bl]
    exact k _ _ F H hg (.bl _) (.refl hx)
  · obtain ⟨s1, s2, q⟩ := hg
    refine ⟨_, op_eqD hu, d.pd, e.pd, r1.dp hx s1, r2.dp hx s2, shaped_sh s1 (by decide), shaped_sh s2 (by decide), ?_⟩
    rw [eqD_pd 8 d e s1 s2]
    exact k _ _ F H q (.bl _) (.refl hx)
theorem ov_ne (hu : X.A.units + 64 < cLine) : OpV X (compareOp .NotEq) opNe := OpR.any fun x y H Q => by
  rintro ⟨F, d, e, R, hx, r1, r2, hg, k⟩
  unfold opNe at hg
  split at hg
  · cases r1; cases r2
    refine ⟨_, op_ne, rfl, ?_⟩
    rw [dec_int]
    exact k _ _ F H hg (.bl _) (.refl hx)
  · cases r1; cases r2
    refine ⟨_, op_ne, rfl, ?_⟩
    rw [dec_str]
    exact k _ _ F H hg (.bl _) (.refl hx)
  · cases r1; cases r2
    refine ⟨_, op_ne, rfl, ?_⟩
    rw [dec_bl]
    exact k _ _ F H hg (.bl _) (.refl hx)
  · obtain ⟨s1, s2, q⟩ := hg
    refine ⟨_, op_neD hu, d.pd, e.pd, r1.dp hx s1, r2.dp hx s2, shaped_sh s1 (by decide), shaped_sh s2 (by decide), ?_⟩
    rw [eqD_pd 8 d e s1 s2]
    exact k _ _ F H q (.bl _) (.refl hx)
theorem ov_lt : OpV X (compareOp .Lt) opLt := OpV.imp (opIB_V op_lt) fun d e R h => by cases d <;> cases e <;> first | exact h | exact h.elim
theorem ov_le : OpV X (compareOp .LtE) opLe := OpV.imp (opIB_V op_le) fun d e R h => by cases d <;> cases e <;> first | exact h | exact h.elim
theorem ov_gt : OpV X (compareOp .Gt) opGt := OpV.imp (opIB_V op_gt) fun d e R h => by cases d <;> cases e <;> first | exact h | exact h.elim
theorem ov_ge : OpV X (compareOp .GtE) opGe := OpV.imp (opIB_V op_ge) fun d e R h => by cases d <;> cases e <;> first | exact h | exact h.elim
theorem ov_ltT (hu : X.A.units + 64 < cLine) : OpV X (compareOp .Lt) opLtT := OpR.any fun x y H Q => by
  rintro ⟨F, d, e, R, hx, r1, r2, hg, k⟩
  unfold opLtT at hg
  split at hg
  · cases r1; cases r2
    exact ⟨_, op_lt, _, _, rfl, rfl, k _ _ F H hg (.bl _) (.refl hx)⟩
  · obtain ⟨ns, ms, rfl, rfl, q⟩ := hg
    cases r1 with
    | tup h1 s1 =>
      cases r2 with
      | tup h2 s2 =>
        have e1 := s1.ints
        have e2 := s2.ints
        subst e1
        subst e2
        exact ⟨_, op_ltT (by omega), _, _, ns, ms, rfl, rfl, hx.sqT h1, hx.sqT h2, k _ _ F H q (.bl _) (.refl hx)⟩
  · exact hg.elim
theorem ov_isN : OpV X (compareOp .Is) opIsN := OpR.any fun x y H Q => by
  rintro ⟨F, d, e, R, hx, r1, r2, hg, k⟩
  refine ⟨_, op_isN, ?_⟩
  unfold opIsN at hg
  split at hg
  · cases r2
    refine ⟨rfl, ?_⟩
    cases r1 <;> exact k _ _ F H hg (.bl _) (.refl hx)
  · exact hg.elim
theorem ov_notN : OpV X (compareOp .IsNot) opNotN := OpR.any fun x y H Q => by
  rintro ⟨F, d, e, R, hx, r1, r2, hg, k⟩
  refine ⟨_, op_notN, ?_⟩
  unfold opNotN at hg
  split at hg
  · cases r2
    refine ⟨rfl, ?_⟩
    cases r1 <;> exact k _ _ F H hg (.bl _) (.refl hx)
  · exact hg.elim
theorem ov_in : OpV X (compareOp .In) opIn := OpR.any fun x y H Q => by
  rintro ⟨F, d, e, R, hx, r1, r2, hg, k⟩
  unfold opIn at hg
  split at hg
  · obtain ⟨f1, f2, q⟩ := hg
    cases r2 with
    | tup h s =>
      refine ⟨_, op_in_seq, _, _, rfl, .inr (hx.sqT h), r1.flat f1, s.flat f2, ?_⟩
      rw [if_neg (by simp), r1.inV f1 s f2]
      exact k _ _ F H q (.bl _) (.refl hx)
  · obtain ⟨f1, f2, q⟩ := hg
    cases r2 with
    | lst h s =>
      refine ⟨_, op_in_seq, _, _, rfl, .inl (.of (hx _ _ h)), r1.flat f1, s.flat f2, ?_⟩
      rw [if_neg (by simp), r1.inV f1 s f2]
      exact k _ _ F H q (.bl _) (.refl hx)
  · cases r1; cases r2
    exact ⟨_, op_in_str, _, _, rfl, rfl, k _ _ F H hg (.bl _) (.refl hx)⟩
  · exact hg.elim
theorem ov_notIn : OpV X (compareOp .NotIn) opNotIn := OpR.any fun x y H Q => by
  rintro ⟨F, d, e, R, hx, r1, r2, hg, k⟩
  unfold opNotIn at hg
  split at hg
  · obtain ⟨f1, f2, q⟩ := hg
    cases r2 with
    | tup h s =>
      refine ⟨_, op_notIn_seq, _, _, rfl, .inr (hx.sqT h), r1.flat f1, s.flat f2, ?_⟩
      rw [if_pos rfl, r1.inV f1 s f2]
      exact k _ _ F H q (.bl _) (.refl hx)
  · obtain ⟨f1, f2, q⟩ := hg
    cases r2 with
    | lst h s =>
      refine ⟨_, op_notIn_seq, _, _, rfl, .inl (.of (hx _ _ h)), r1.flat f1, s.flat f2, ?_⟩
      rw [if_pos rfl, r1.inV f1 s f2]
      exact k _ _ F H q (.bl _) (.refl hx)
  · cases r1; cases r2
    exact ⟨_, op_notIn_str, _, _, rfl, rfl, k _ _ F H hg (.bl _) (.refl hx)⟩
  · exact hg.elim
end
/-- a test of a value -/
def tru : D → (Bool → Prop) → Prop
  | .non, R => R false
  | .bl b, R => R b
  | .int i, R => R (i != 0)
  | .str x, R => x.length ≤ sizeLine ∧ R ((x.length : Int) != 0)
  | .tup ds, R => R (!ds.isEmpty)
  | .lst ds, R => R (!ds.isEmpty)
  | .dct ks _, R => R (!ks.isEmpty)
  | _, _ => False
def wB (w : WE) : WT := fun S R => w S fun d S1 => tru d fun b => R b S1
/-- a value that is a bool, as a test -/
def wBb (w : WE) : WT := fun S R => w S fun d S1 => match d with
  | .bl b => R b S1
  | _ => False
def wAnd (t u : WT) : WT := fun S R => t S fun b S1 => Br b (u S1 R) (R false S1)
def wOr (t u : WT) : WT := fun S R => t S fun b S1 => Br b (R true S1) (u S1 R)
def wNot (t : WT) : WT := fun S R => t S fun b S1 => R (!b) S1
def wIf (t : WT) (u v : WE) : WE := fun S R => t S fun b S1 => Br b (u S1 R) (v S1 R)
/-- and, or, not as values: all but the last of them bools -/
def wAndV (u v : WE) : WE := fun S R => u S fun d S1 => match d with
  | .bl b => Br b (v S1 R) (R (.bl false) S1)
  | _ => False
def wOrV (u v : WE) : WE := fun S R => u S fun d S1 => match d with
  | .bl b => Br b (R (.bl true) S1) (v S1 R)
  | _ => False
def wNotV (u : WE) : WE := fun S R => u S fun d S1 => match d with
  | .bl b => R (.bl (!b)) S1
  | _ => False
def wChain (g g' : O2) (wa wb wc : WE) : WE := fun S R => wa S fun x S1 => wb S1 fun y S2 => g x y fun z => match z with
  | .bl b => Br b (wc S2 fun w S3 => g' y w fun r => R r S3) (R (.bl false) S2)
  | _ => False
section
variable {X : Cx} {Φ : En → Prop} {a b c : Expr} {wa wb wc : WE} {pos : Pos} {t u : WT}
theorem Rep.tru {K : PySem.W.Frag} {F H : Hp} (x : Ext F H) {v : V} {d : D} {R : Bool → Prop} (r : Rep K F v d) (h : tru d R) : ∃ k, TruV K v H k ∧ R k := by
  cases r with
  | non => exact ⟨_, rfl, h⟩
  | bl b => exact ⟨_, rfl, h⟩
  | int i => exact ⟨_, rfl, h⟩
  | str y => exact ⟨_, ⟨h.1, rfl⟩, h.2⟩
  | tup h1 s =>
    refine ⟨_, .inr (.inl ⟨_, x.sqT h1, rfl⟩), ?_⟩
    have l := s.length
    rename_i a vs ds
    have e : vs.isEmpty = ds.isEmpty := by
      cases s <;> rfl
    rw [e]
    exact h
  | lst h1 s =>
    refine ⟨_, .inl ⟨_, .of (x _ _ h1), rfl⟩, ?_⟩
    rename_i a vs ds
    have e : vs.isEmpty = ds.isEmpty := by
      cases s <;> rfl
    rw [e]
    exact h
  | dct h1 z s =>
    refine ⟨_, .inr (.inr ⟨_, x _ _ h1, rfl⟩), ?_⟩
    rename_i a kvs ks ds
    have e : kvs.isEmpty = ks.isEmpty := by
      subst z
      cases kvs <;> rfl
    rw [e]
    exact h
  | dcu _ _ _ => exact h.elim
  | obj a => exact h.elim
  | scr h1 => exact h.elim
  | ty t => exact h.elim
  | ktp _ _ => exact h.elim
theorem dt_tru (ha : DE X Φ a wa) (he : ∀ whole, isTrue a X.env whole = (do let v ← whole; standAt a.pos; holding [v] (truthy v)) := by intro _; rfl) : DT X Φ a (wB wa) := fun E hE => PT.imp (pt_truth (ha E hE) he) fun σ H Q => by
  rintro ⟨S, F, R, hR, hw, k⟩
  refine ⟨S, F, _, hR, hw, fun d S1 v F1 H1 hw1 r1 hR1 x1 => ?_⟩
  obtain ⟨b, h1, h2⟩ := r1.tru hR1.g.ext hw1
  exact ⟨b, h1, k b S1 F1 H1 h2 hR1 x1⟩
theorem dt_cmp {op : CmpOp} {g : O2} (ho : OpV X (compareOp op) g) (ha : DE X Φ a wa) (hb : DE X Φ b wb) (hm : behindInMarks op b = false) : DT X Φ (.Compare a [op] [b] pos) (wBb (wOp g wa wb)) := fun E hE => PT.imp (pt_cmpR ho (ha E hE) (hb E hE) hm) fun σ H Q => by
  rintro ⟨S, F, R, hR, hw, k⟩
  refine ⟨S, F, _, hR, hw, fun x S1 v1 F1 H1 hw1 r1 hR1 x1 => ?_⟩
  refine ⟨S1, F1, _, hR1, hw1, fun y S2 v2 F2 H2 hw2 r2 hR2 x2 => ?_⟩
  refine ⟨F2, x, y, _, hR2.g.ext, r1.mono x2, r2, hw2, fun z v F' H' hz rz al => ?_⟩
  cases rz with
  | bl b => exact ⟨b, rfl, k b S2 F' H' hz (hR2.al al) ((x1.trans x2).trans al.xF)⟩
  | _ => exact hz.elim
theorem de_cmp {op : CmpOp} {g : O2} (ho : OpV X (compareOp op) g) (ha : DE X Φ a wa) (hb : DE X Φ b wb) (hm : behindInMarks op b = false) : DE X Φ (.Compare a [op] [b] pos) (wOp g wa wb) := fun E hE => PE.imp (pe_cmpR ho (ha E hE) (hb E hE) hm) fun σ H Q => by
  rintro ⟨S, F, R, hR, hw, k⟩
  refine ⟨S, F, _, hR, hw, fun x S1 v1 F1 H1 hw1 r1 hR1 x1 => ?_⟩
  refine ⟨S1, F1, _, hR1, hw1, fun y S2 v2 F2 H2 hw2 r2 hR2 x2 => ?_⟩
  exact ⟨F2, x, y, _, hR2.g.ext, r1.mono x2, r2, hw2, fun z v F' H' hz rz al => k z S2 v F' H' hz rz (hR2.al al) ((x1.trans x2).trans al.xF)⟩
theorem de_chain {op op' : CmpOp} {g g' : O2} (ho : OpV X (compareOp op) g) (ho' : OpV X (compareOp op') g') (ha : DE X Φ a wa) (hb : DE X Φ b wb) (hc : DE X Φ c wc) (hm : lastMarks [op, op'] [b, c] = false) : DE X Φ (.Compare a [op, op'] [b, c] pos) (wChain g g' wa wb wc) := fun E hE => PE.imp (pe_chain ho ho' (ha E hE) (hb E hE) (hc E hE) hm) fun σ H Q => by
  rintro ⟨S, F, R, hR, hw, k⟩
  refine ⟨S, F, _, hR, hw, fun x S1 v1 F1 H1 hw1 r1 hR1 x1 => ?_⟩
  refine ⟨S1, F1, _, hR1, hw1, fun y S2 v2 F2 H2 hw2 r2 hR2 x2 => ?_⟩
  refine ⟨F2, x, y, _, hR2.g.ext, r1.mono x2, r2, hw2, fun z v F' H' hz rz al => ?_⟩
  cases rz with
  | bl b =>
    refine ⟨b, rfl, ?_⟩
    cases b with
    | true =>
      refine ⟨S2, F', _, hR2.al al, br_t hz, fun w S3 v3 F3 H3 hw3 r3 hR3 x3 => ?_⟩
      exact ⟨F3, y, w, _, hR3.g.ext, (r2.mono al.xF).mono x3, r3, hw3, fun q v F4 H4 hq rq al2 => k q S3 v F4 H4 hq rq (hR3.al al2) ((((x1.trans x2).trans al.xF).trans x3).trans al2.xF)⟩
    | false => exact k _ S2 _ F' H' (br_f hz) (.bl _) (hR2.al al) ((x1.trans x2).trans al.xF)
  | _ => exact hz.elim
theorem dt_chain {op op' : CmpOp} {g g' : O2} (ho : OpV X (compareOp op) g) (ho' : OpV X (compareOp op') g') (ha : DE X Φ a wa) (hb : DE X Φ b wb) (hc : DE X Φ c wc) (hm : lastMarks [op, op'] [b, c] = false) : DT X Φ (.Compare a [op, op'] [b, c] pos) (wBb (wChain g g' wa wb wc)) := fun E hE => PT.imp (pt_chain ho ho' (ha E hE) (hb E hE) (hc E hE) hm) fun σ H Q => by
  rintro ⟨S, F, R, hR, hw, k⟩
  refine ⟨S, F, _, hR, hw, fun x S1 v1 F1 H1 hw1 r1 hR1 x1 => ?_⟩
  refine ⟨S1, F1, _, hR1, hw1, fun y S2 v2 F2 H2 hw2 r2 hR2 x2 => ?_⟩
  refine ⟨F2, x, y, _, hR2.g.ext, r1.mono x2, r2, hw2, fun z v F' H' hz rz al => ?_⟩
  cases rz with
  | bl b =>
    refine ⟨b, rfl, ?_⟩
    cases b with
    | true =>
      refine ⟨S2, F', _, hR2.al al, br_t hz, fun w S3 v3 F3 H3 hw3 r3 hR3 x3 => ?_⟩
      refine ⟨F3, y, w, _, hR3.g.ext, (r2.mono al.xF).mono x3, r3, hw3, fun q v F4 H4 hq rq al2 => ?_⟩
      cases rq with
      | bl c => exact ⟨c, rfl, k c S3 F4 H4 hq (hR3.al al2) ((((x1.trans x2).trans al.xF).trans x3).trans al2.xF)⟩
      | _ => exact hq.elim
    | false => exact ⟨false, rfl, k _ S2 F' H' (br_f hz) (hR2.al al) ((x1.trans x2).trans al.xF)⟩
  | _ => exact hz.elim
theorem DW.pt (h : DW X Φ a t) : DT X Φ a t := fun E hE => (h E hE).pt
variable {rest : List Expr}
theorem dw_and1 (ha : DT X Φ a t) : DW X Φ (.BoolOp .And [a] pos) t := fun E hE => pw_and1 (ha E hE)
theorem dw_or1 (ha : DT X Φ a t) : DW X Φ (.BoolOp .Or [a] pos) t := fun E hE => pw_or1 (ha E hE)
theorem dw_and (ha : DT X Φ a t) (hb : DW X Φ (.BoolOp .And (b :: rest) pos) u) : DW X Φ (.BoolOp .And (a :: b :: rest) pos) (wAnd t u) := fun E hE => PW.imp (pw_and (ha E hE) (hb E hE)) fun σ H Q => by
  rintro ⟨S, F, R, hR, hw, k⟩
  refine ⟨S, F, _, hR, hw, fun b S1 F1 H1 hw1 hR1 x1 => ?_⟩
  cases b with
  | true => exact ⟨S1, F1, R, hR1, br_t hw1, fun b S' F' H' hb hR' x' => k b S' F' H' hb hR' (x1.trans x')⟩
  | false => exact k false S1 F1 H1 (br_f hw1) hR1 x1
theorem dw_or (ha : DT X Φ a t) (hb : DW X Φ (.BoolOp .Or (b :: rest) pos) u) : DW X Φ (.BoolOp .Or (a :: b :: rest) pos) (wOr t u) := fun E hE => PW.imp (pw_or (ha E hE) (hb E hE)) fun σ H Q => by
  rintro ⟨S, F, R, hR, hw, k⟩
  refine ⟨S, F, _, hR, hw, fun b S1 F1 H1 hw1 hR1 x1 => ?_⟩
  cases b with
  | false => exact ⟨S1, F1, R, hR1, br_f hw1, fun b S' F' H' hb hR' x' => k b S' F' H' hb hR' (x1.trans x')⟩
  | true => exact k true S1 F1 H1 (br_t hw1) hR1 x1
theorem dt_not (ha : DT X Φ a t) : DT X Φ (.UnaryOp .Not a pos) (wNot t) := fun E hE => PT.imp (pt_not (ha E hE)) fun σ H Q => by
  rintro ⟨S, F, R, hR, hw, k⟩
  exact ⟨S, F, _, hR, hw, fun b S1 F1 H1 hw1 hR1 x1 => k (!b) S1 F1 H1 hw1 hR1 x1⟩
theorem de_if (hc : DT X Φ c t) (ha : DE X Φ a wa) (hb : DE X Φ b wb) : DE X Φ (.IfExp c a b pos) (wIf t wa wb) := fun E hE => PE.imp (pe_ifExp (hc E hE) (ha E hE) (hb E hE)) fun σ H Q => by
  rintro ⟨S, F, R, hR, hw, k⟩
  refine ⟨S, F, _, hR, hw, fun b S1 F1 H1 hw1 hR1 x1 => ?_⟩
  cases b with
  | true => exact ⟨S1, F1, R, hR1, br_t hw1, fun d S' v F' H' hb r hR' x' => k d S' v F' H' hb r hR' (x1.trans x')⟩
  | false => exact ⟨S1, F1, R, hR1, br_f hw1, fun d S' v F' H' hb r hR' x' => k d S' v F' H' hb r hR' (x1.trans x')⟩
theorem de_one {op : BoolOp} (h : DE X Φ a wa) : DE X Φ (.BoolOp op [a] pos) wa := fun E hE => pe_one (h E hE)
theorem de_and (ha : DE X Φ a wa) (hb : DE X Φ (.BoolOp .And (b :: rest) pos) wb) : DE X Φ (.BoolOp .And (a :: b :: rest) pos) (wAndV wa wb) := fun E hE => PE.imp (pe_and (ha E hE) (hb E hE)) fun σ H Q => by
  rintro ⟨S, F, R, hR, hw, k⟩
  refine ⟨S, F, _, hR, hw, fun d S1 v F1 H1 hw1 r1 hR1 x1 => ?_⟩
  cases r1 with
  | bl b =>
    refine ⟨b, rfl, ?_⟩
    cases b with
    | true => exact ⟨S1, F1, R, hR1, br_t hw1, fun d S' v F' H' hb r hR' x' => k d S' v F' H' hb r hR' (x1.trans x')⟩
    | false => exact k _ S1 _ F1 H1 (br_f hw1) (.bl _) hR1 x1
  | _ => exact hw1.elim
theorem de_or (ha : DE X Φ a wa) (hb : DE X Φ (.BoolOp .Or (b :: rest) pos) wb) : DE X Φ (.BoolOp .Or (a :: b :: rest) pos) (wOrV wa wb) := fun E hE => PE.imp (pe_or (ha E hE) (hb E hE)) fun σ H Q => by
  rintro ⟨S, F, R, hR, hw, k⟩
  refine ⟨S, F, _, hR, hw, fun d S1 v F1 H1 hw1 r1 hR1 x1 => ?_⟩
  cases r1 with
  | bl b =>
    refine ⟨b, rfl, ?_⟩
    cases b with
    | false => exact ⟨S1, F1, R, hR1, br_f hw1, fun d S' v F' H' hb r hR' x' => k d S' v F' H' hb r hR' (x1.trans x')⟩
    | true => exact k _ S1 _ F1 H1 (br_t hw1) (.bl _) hR1 x1
  | _ => exact hw1.elim
theorem de_not (ha : DE X Φ a wa) : DE X Φ (.UnaryOp .Not a pos) (wNotV wa) := fun E hE => PE.imp (pe_not (ha E hE)) fun σ H Q => by
  rintro ⟨S, F, R, hR, hw, k⟩
  refine ⟨S, F, _, hR, hw, fun d S1 v F1 H1 hw1 r1 hR1 x1 => ?_⟩
  cases r1 with
  | bl b => exact ⟨b, rfl, k _ S1 _ F1 H1 hw1 (.bl _) hR1 x1⟩
  | _ => exact hw1.elim
end
end VL

set_option Elab.async false
set_option linter.all false
set_option maxRecDepth 100000
set_option maxHeartbeats 4000000
/-! VL3: arguments, displays, calls of built-ins, subscripts, iterables, targets, statements. -/
namespace VL
open PySem PySem.Spec L2
/-! ### arguments -/
def wNil : WA := fun S R => R [] S
def wCons (w : WE) (ws : WA) : WA := fun S R => w S fun d S1 => ws S1 fun ds S2 => R (d :: ds) S2
def wTup (ws : WA) : WE := fun S R => ws S fun ds S1 => R (.tup ds) S1
def wLst (ws : WA) : WE := fun S R => ws S fun ds S1 => R (.lst ds) S1
/-- a call of a built-in on data -/
abbrev OC := List D → (D → Prop) → Prop
def wCB (g : OC) (ws : WA) : WE := fun S R => ws S fun ds S1 => g ds fun d => R d S1
def rVc (K : PySem.W.Frag) (g : OC) : List V → Hp → VK → Prop := fun xs H Q => ∃ F ds R, Ext F H ∧ Reps K F xs ds ∧ g ds R ∧ ∀ z v F' H', R z → Rep K F' v z → Al F H F' H' → Q v H'
/-- .. that gives a fresh list -/
def rVn (K : PySem.W.Frag) (g : OC) : List V → Hp → VK → Prop := fun xs H Q => ∃ F ds R, Ext F H ∧ Reps K F xs ds ∧ g ds R ∧ ∀ es vs p, R (.lst es) → Reps K F vs es → H p = none → Q (.ref p) (upd H p (.lst vs))
abbrev CallV (X : Cx) (f : Value) (g : OC) : Prop := CallR X f (rVc X.K g)
abbrev CallN (X : Cx) (f : Value) (g : OC) : Prop := CallR X f (rVn X.K g)
section
variable {X : Cx} {Φ : En → Prop} {a b e : Expr} {es : List Expr} {w wa wb : WE} {ws : WA} {n : Nat} {pos p : Pos}
theorem da_nil : DA X Φ [] 0 wNil := fun E hE => PA.imp pa_nil fun σ H Q => by
  rintro ⟨S, F, R, hR, hw, k⟩
  exact k [] S [] F H hw rfl .nil hR (.refl _)
theorem da_cons (ha : DE X Φ e w) (hs : DA X Φ es n ws) (h : starEach (e :: es) X.env = (false, eval e X.env) :: starEach es X.env := by rfl) : DA X Φ (e :: es) (n + 1) (wCons w ws) := fun E hE => PA.imp (pa_cons (ha E hE) (hs E hE) h) fun σ H Q => by
  rintro ⟨S, F, R, hR, hw, k⟩
  refine ⟨S, F, _, hR, hw, fun d S1 v F1 H1 hw1 r1 hR1 x1 => ?_⟩
  refine ⟨S1, F1, _, hR1, hw1, fun ds S2 vs F2 H2 hw2 l2 r2 hR2 x2 => ?_⟩
  exact k _ S2 _ F2 H2 hw2 (by rw [List.length_cons, l2]) (.cons (r1.mono x2) r2) hR2 (x1.trans x2)
theorem le_line {n : Nat} (h : n ≤ 1000) : n ≤ sizeLine := Nat.le_trans h (by decide)
theorem de_tup {x1} (h : DA X Φ es n ws) (hn : n ≤ 1000 := by decide) : DE X Φ (.Tuple es x1 pos) (wTup ws) := fun E hE => PE.imp (pe_tup (h E hE)) fun σ H Q => by
  rintro ⟨S, F, R, hR, hw, k⟩
  refine ⟨S, F, _, hR, hw, fun ds S1 vs F1 H1 hw1 l1 r1 hR1 x1 => ⟨le_line (by rw [r1.length, l1]; exact hn), fun p hp => ?_⟩⟩
  have al := Al.one (o := .tup vs) hR1.g.ext hp
  exact k _ S1 _ _ _ hw1 (.tup (.of upd_same) (r1.mono al.xF)) (hR1.al al) (x1.trans al.xF)
theorem fresh_of {K : PySem.W.Frag} {E : En} {F H : Hp} {σ : L2.St} {S : Sg} {p : Addr} {vs : List V} {ds : List D} (R : Rel K E F H σ S) (hp : H p = none) (r : Reps K F vs ds) : Fresh K E F (upd H p (.lst vs)) σ S p (.lst ds) ∧ Rel K E F (upd H p (.lst vs)) σ S :=
  let ⟨h1, h2, h3, h4, h5⟩ := R.fresh (o := .lst vs) hp
  ⟨⟨⟨vs, upd_same, r⟩, h2, h3, h4, h5⟩, h1⟩
theorem dn_lst (h : DA X Φ es n ws) (hn : n ≤ 1000 := by decide) : DN X Φ (.List es pos) (wLst ws) := fun E hE => PE.imp (pe_lst (h E hE)) fun σ H Q => by
  rintro ⟨S, F, R, hR, hw, k⟩
  refine ⟨S, F, _, hR, hw, fun ds S1 vs F1 H1 hw1 l1 r1 hR1 x1 => ⟨le_line (by rw [r1.length, l1]; exact hn), fun p hp => ?_⟩⟩
  obtain ⟨f, hR'⟩ := fresh_of hR1 hp r1
  exact k _ S1 p F1 _ hw1 f hR' x1
theorem de_lst (h : DA X Φ es n ws) (hn : n ≤ 1000 := by decide) : DE X Φ (.List es pos) (wLst ws) := de_new (dn_lst h hn)
theorem vn_vc {f : Value} {g : OC} (hc : CallN X f g) (hl : ∀ ds R, g ds R → g ds fun d => R d ∧ ∃ es, d = .lst es) : CallV X f g := CallR.any fun xs H Q => by
  rintro ⟨F, ds, R, hx, r, hg, k⟩
  refine ⟨_, hc, F, ds, _, hx, r, hl ds R hg, fun es vs p hR rs hp => ?_⟩
  have al := Al.one (o := .lst vs) hx hp
  exact k _ _ _ _ hR.1 (.lst upd_same (rs.mono al.xF)) al
theorem de_cb {id : String} {x : Str} {g : OC} (hc : CallV X (.builtin id) g) (hg : Gl X x) (hm : X.mg x = none) (hv : bootBuiltins x = some (.builtin id)) (ha : DA X Φ (e :: es) n ws) (hn : x ≠ "__name__" := by decide) (hdb : (x == ("__debug__" : Str)) = false := by decide)
    (he : starEach (e :: es) X.env = (false, eval e X.env) :: starEach es X.env := by rfl) (hpl : (backTo pos (starEach es X.env)).any (·.1) = false := by rfl) : DE X Φ (.Call (.Name x p) (e :: es) [] pos) (wCB g ws) := fun E hE => PE.imp (pe_callB hc hg hm hv (ha E hE) hn hdb he hpl) fun σ H Q => by
  rintro ⟨S, F, R, hR, hw, k⟩
  refine ⟨S, F, _, hR, hw, fun ds S1 vs F1 H1 hw1 l1 r1 hR1 x1 => ?_⟩
  exact ⟨F1, ds, _, hR1.g.ext, r1, hw1, fun z v F' H' hz rz al => k z S1 v F' H' hz rz (hR1.al al) (x1.trans al.xF)⟩
theorem de_cty {T : String} {x : Str} {g : OC} (hc : CallV X (.type T) g) (hg : Gl X x) (hm : X.mg x = none) (hv : bootBuiltins x = some (.type T)) (ha : DA X Φ (e :: es) n ws) (hn : x ≠ "__name__" := by decide) (hdb : (x == ("__debug__" : Str)) = false := by decide)
    (he : starEach (e :: es) X.env = (false, eval e X.env) :: starEach es X.env := by rfl) (hpl : (backTo pos (starEach es X.env)).any (·.1) = false := by rfl) : DE X Φ (.Call (.Name x p) (e :: es) [] pos) (wCB g ws) := fun E hE => PE.imp (pe_callTy hc hg hm hv (ha E hE) hn hdb he hpl) fun σ H Q => by
  rintro ⟨S, F, R, hR, hw, k⟩
  refine ⟨S, F, _, hR, hw, fun ds S1 vs F1 H1 hw1 l1 r1 hR1 x1 => ?_⟩
  exact ⟨F1, ds, _, hR1.g.ext, r1, hw1, fun z v F' H' hz rz al => k z S1 v F' H' hz rz (hR1.al al) (x1.trans al.xF)⟩
theorem dn_cty {T : String} {x : Str} {g : OC} (hc : CallN X (.type T) g) (hl : ∀ ds R, g ds R → g ds fun d => R d ∧ ∃ es, d = .lst es) (hg : Gl X x) (hm : X.mg x = none) (hv : bootBuiltins x = some (.type T)) (ha : DA X Φ (e :: es) n ws) (hn : x ≠ "__name__" := by decide) (hdb : (x == ("__debug__" : Str)) = false := by decide)
    (he : starEach (e :: es) X.env = (false, eval e X.env) :: starEach es X.env := by rfl) (hpl : (backTo pos (starEach es X.env)).any (·.1) = false := by rfl) : DN X Φ (.Call (.Name x p) (e :: es) [] pos) (wCB g ws) := fun E hE => PE.imp (pe_callTy hc hg hm hv (ha E hE) hn hdb he hpl) fun σ H Q => by
  rintro ⟨S, F, R, hR, hw, k⟩
  refine ⟨S, F, _, hR, hw, fun ds S1 vs F1 H1 hw1 l1 r1 hR1 x1 => ?_⟩
  refine ⟨F1, ds, _, hR1.g.ext, r1, hw1, fun es vs p hz rz hp => ?_⟩
  obtain ⟨f, hR'⟩ := fresh_of hR1 hp rz
  exact k _ S1 p F1 _ hz f hR' x1
theorem dn_cb {id : String} {x : Str} {g : OC} (hc : CallN X (.builtin id) g) (hg : Gl X x) (hm : X.mg x = none) (hv : bootBuiltins x = some (.builtin id)) (ha : DA X Φ (e :: es) n ws) (hn : x ≠ "__name__" := by decide) (hdb : (x == ("__debug__" : Str)) = false := by decide)
    (he : starEach (e :: es) X.env = (false, eval e X.env) :: starEach es X.env := by rfl) (hpl : (backTo pos (starEach es X.env)).any (·.1) = false := by rfl) (hl : ∀ ds R, g ds R → g ds fun d => R d ∧ ∃ es, d = .lst es) : DN X Φ (.Call (.Name x p) (e :: es) [] pos) (wCB g ws) := fun E hE => PE.imp (pe_callB hc hg hm hv (ha E hE) hn hdb he hpl) fun σ H Q => by
  rintro ⟨S, F, R, hR, hw, k⟩
  refine ⟨S, F, _, hR, hw, fun ds S1 vs F1 H1 hw1 l1 r1 hR1 x1 => ?_⟩
  refine ⟨F1, ds, _, hR1.g.ext, r1, hw1, fun es vs p hz rz hp => ?_⟩
  obtain ⟨f, hR'⟩ := fresh_of hR1 hp rz
  exact k _ S1 p F1 _ hz f hR' x1
end
/-! ### built-ins -/
def bLen : OC
  | [.str x], R => x.length ≤ sizeLine ∧ R (.int x.length)
  | [.tup ds], R => R (.int ds.length)
  | [.lst ds], R => R (.int ds.length)
  | _, _ => False
def bAbs : OC
  | [.int i], R => R (.int (if i < 0 then -i else i))
  | _, _ => False
def bMax : OC
  | [.int i, .int j], R => R (.int (if j > i then j else i))
  | _, _ => False
def bMin : OC
  | [.int i, .int j], R => R (.int (if j < i then j else i))
  | _, _ => False
def bInt : OC
  | [.int i], R => R (.int i)
  | [.bl k], R => R (.int (if k then 1 else 0))
  | _, _ => False
/-- sum of a list of ints -/
def bSum : OC
  | [.lst ds], R => ∃ ns : List Int, ds = ns.map D.int ∧ R (.int ns.sum)
  | _, _ => False
def bAll : OC
  | [.lst ds], R => ∃ bs : List Bool, ds = bs.map D.bl ∧ R (.bl (bs.all id))
  | _, _ => False
def bAny : OC
  | [.lst ds], R => ∃ bs : List Bool, ds = bs.map D.bl ∧ R (.bl (bs.any id))
  | _, _ => False
def bTup : OC
  | [.lst ds], R => R (.tup ds)
  | [.tup ds], R => R (.tup ds)
  | _, _ => False
def bLst : OC
  | [.lst ds], R => R (.lst ds)
  | [.tup ds], R => R (.lst ds)
  | [.scr ns], R => R (.lst (ns.map D.int))
  | _, _ => False
def isi : D → Ty → Option Bool
  | .non, _ => some false
  | .bl _, .tint => some true
  | .bl _, .tbool => some true
  | .bl _, _ => some false
  | .int _, .tint => some true
  | .int _, _ => some false
  | .str _, .tstr => some true
  | .str _, _ => some false
  | .tup _, .ttup => some true
  | .tup _, _ => some false
  | .lst _, .tlst => some true
  | .lst _, _ => some false
  | .dct _ _, .tdct => some true
  | .dct _ _, _ => some false
  | _, _ => none
def bIsi : OC
  | [d, .ty t], R => ∃ b, isi d t = some b ∧ R (.bl b)
  | _, _ => False
section
variable {X : Cx} {Φ : En → Prop}
theorem Reps.nil_of {K : PySem.W.Frag} {F : Hp} {vs : List V} (r : Reps K F vs []) : vs = [] := by cases r; rfl
theorem Reps.one_of {K : PySem.W.Frag} {F : Hp} {vs : List V} {d : D} (r : Reps K F vs [d]) : ∃ v, vs = [v] ∧ Rep K F v d := by
  cases r with
  | cons a b => cases b; exact ⟨_, rfl, a⟩
theorem Reps.two_of {K : PySem.W.Frag} {F : Hp} {vs : List V} {d e : D} (r : Reps K F vs [d, e]) : ∃ v u, vs = [v, u] ∧ Rep K F v d ∧ Rep K F u e := by
  cases r with
  | cons a b =>
    obtain ⟨u, rfl, q⟩ := b.one_of
    exact ⟨_, _, rfl, a, q⟩
theorem cv_len : CallV X (.builtin "len") bLen := CallR.any fun xs H Q => by
  rintro ⟨F, ds, R, hx, r, hg, k⟩
  refine ⟨_, call_len, ?_⟩
  unfold bLen at hg
  split at hg
  · obtain ⟨v, rfl, q⟩ := r.one_of
    cases q
    exact ⟨_, _, rfl, ⟨hg.1, rfl⟩, k _ _ F H hg.2 (.int _) (.refl hx)⟩
  · obtain ⟨v, rfl, q⟩ := r.one_of
    cases q with
    | tup h s => exact ⟨_, _, rfl, .inr ⟨_, hx.sqT h, rfl⟩, by rw [s.length]; exact k _ _ F H hg (.int _) (.refl hx)⟩
  · obtain ⟨v, rfl, q⟩ := r.one_of
    cases q with
    | lst h s => exact ⟨_, _, rfl, .inl ⟨_, .of (hx _ _ h), rfl⟩, by rw [s.length]; exact k _ _ F H hg (.int _) (.refl hx)⟩
  · exact hg.elim
theorem cv_abs : CallV X (.builtin "abs") bAbs := CallR.any fun xs H Q => by
  rintro ⟨F, ds, R, hx, r, hg, k⟩
  refine ⟨_, call_abs, ?_⟩
  unfold bAbs at hg
  split at hg
  · obtain ⟨v, rfl, q⟩ := r.one_of
    cases q
    exact ⟨_, rfl, k _ _ F H hg (.int _) (.refl hx)⟩
  · exact hg.elim
theorem cv_max (hc : X.calm = true) : CallV X (.builtin "max") bMax := CallR.any fun xs H Q => by
  rintro ⟨F, ds, R, hx, r, hg, k⟩
  refine ⟨_, call_max2 hc, ?_⟩
  unfold bMax at hg
  split at hg
  · obtain ⟨v, u, rfl, q, q2⟩ := r.two_of
    cases q; cases q2
    exact ⟨_, _, rfl, k _ _ F H hg (.int _) (.refl hx)⟩
  · exact hg.elim
theorem cv_min (hc : X.calm = true) : CallV X (.builtin "min") bMin := CallR.any fun xs H Q => by
  rintro ⟨F, ds, R, hx, r, hg, k⟩
  refine ⟨_, call_min2 hc, ?_⟩
  unfold bMin at hg
  split at hg
  · obtain ⟨v, u, rfl, q, q2⟩ := r.two_of
    cases q; cases q2
    exact ⟨_, _, rfl, k _ _ F H hg (.int _) (.refl hx)⟩
  · exact hg.elim
theorem cv_int : CallV X (.type "int") bInt := CallR.any fun xs H Q => by
  rintro ⟨F, ds, R, hx, r, hg, k⟩
  refine ⟨_, call_int1, ?_⟩
  unfold bInt at hg
  split at hg
  · obtain ⟨v, rfl, q⟩ := r.one_of
    cases q
    exact .inl ⟨_, rfl, k _ _ F H hg (.int _) (.refl hx)⟩
  · obtain ⟨v, rfl, q⟩ := r.one_of
    cases q
    exact .inr ⟨_, rfl, k _ _ F H hg (.int _) (.refl hx)⟩
  · exact hg.elim
theorem cv_sum (hc : X.calm = true) : CallV X (.builtin "sum") bSum := CallR.any fun xs H Q => by
  rintro ⟨F, ds, R, hx, r, hg, k⟩
  refine ⟨_, cr_sum hc, ?_⟩
  unfold bSum at hg
  split at hg
  · obtain ⟨v, rfl, q⟩ := r.one_of
    obtain ⟨ns, rfl, q2⟩ := hg
    cases q with
    | lst h s =>
      have e := s.ints
      subst e
      exact ⟨_, ns, rfl, .of (hx _ _ h), k _ _ F H q2 (.int _) (.refl hx)⟩
  · exact hg.elim
theorem cv_all (hc : X.calm = true) : CallV X (.builtin "all") bAll := CallR.any fun xs H Q => by
  rintro ⟨F, ds, R, hx, r, hg, k⟩
  refine ⟨_, cr_all hc, ?_⟩
  unfold bAll at hg
  split at hg
  · obtain ⟨v, rfl, q⟩ := r.one_of
    obtain ⟨ns, rfl, q2⟩ := hg
    cases q with
    | lst h s =>
      have e := s.bools
      subst e
      exact ⟨_, ns, rfl, .of (hx _ _ h), k _ _ F H q2 (.bl _) (.refl hx)⟩
  · exact hg.elim
theorem cv_any (hc : X.calm = true) : CallV X (.builtin "any") bAny := CallR.any fun xs H Q => by
  rintro ⟨F, ds, R, hx, r, hg, k⟩
  refine ⟨_, cr_any hc, ?_⟩
  unfold bAny at hg
  split at hg
  · obtain ⟨v, rfl, q⟩ := r.one_of
    obtain ⟨ns, rfl, q2⟩ := hg
    cases q with
    | lst h s =>
      have e := s.bools
      subst e
      exact ⟨_, ns, rfl, .of (hx _ _ h), k _ _ F H q2 (.bl _) (.refl hx)⟩
  · exact hg.elim
theorem cv_tup : CallV X (.type "tuple") bTup := CallR.any fun xs H Q => by
  rintro ⟨F, ds, R, hx, r, hg, k⟩
  refine ⟨_, call_tuple_of, ?_⟩
  unfold bTup at hg
  split at hg
  · obtain ⟨v, rfl, q⟩ := r.one_of
    cases q with
    | lst h s =>
      rename_i a vs
      refine ⟨_, _, rfl, .inl ⟨.of (hx _ _ h), fun l hl => ?_⟩⟩
      have al := Al.one (o := .tup vs) hx hl
      exact k _ _ _ _ hg (.tup (.of upd_same) (s.mono al.xF)) al
  · obtain ⟨v, rfl, q⟩ := r.one_of
    cases q with
    | tup h s => exact ⟨_, _, rfl, .inr ⟨hx.sqT h, k _ _ F H hg (.tup h s) (.refl hx)⟩⟩
  · exact hg.elim
theorem cn_lst : CallN X (.type "list") bLst := CallR.any fun xs H Q => by
  rintro ⟨F, ds, R, hx, r, hg, k⟩
  refine ⟨_, call_list_of, ?_⟩
  unfold bLst at hg
  split at hg
  · obtain ⟨v, rfl, q⟩ := r.one_of
    cases q with
    | lst h s => exact ⟨_, _, rfl, .inl (.of (hx _ _ h)), fun l hl => k _ _ _ hg s hl⟩
  · obtain ⟨v, rfl, q⟩ := r.one_of
    cases q with
    | tup h s => exact ⟨_, _, rfl, .inr (hx.sqT h), fun l hl => k _ _ _ hg s hl⟩
  · obtain ⟨v, rfl, q⟩ := r.one_of
    cases q with
    | scr h => exact ⟨_, _, rfl, .inl (hx.sqL h), fun l hl => k _ _ _ hg (Reps.ofInts _) hl⟩
  · exact hg.elim
theorem bLst_l : ∀ ds R, bLst ds R → bLst ds fun d => R d ∧ ∃ es, d = .lst es := fun ds R h => by
  unfold bLst at h ⊢
  split at h
  · exact ⟨h, _, rfl⟩
  · exact ⟨h, _, rfl⟩
  · exact ⟨h, _, rfl⟩
  · exact h.elim
theorem cv_lst : CallV X (.type "list") bLst := vn_vc cn_lst bLst_l
/-- a built-in class as a value -/
theorem de_ty {x : Str} {pos : Pos} (t : Ty) (hg : Gl X x) (hm : X.mg x = none) (hv : bootBuiltins x = some (.type t.name)) (hn : x ≠ "__name__" := by decide) (hd : (x == ("__debug__" : Str)) = false := by decide) : DE X Φ (.Name x pos) (wC (.ty t)) :=
  de_c (pe_bltn (v := .ty t.name) hg hm hv rfl hn hd) fun _ => .ty t
theorem kit_tag {K : PySem.W.Frag} {F H : Hp} (hx : Ext F H) {v : V} {d : D} {t : Ty} {b : Bool} (r : Rep K F v d) (h : isi d t = some b) : ∃ n : String, TyX K H v (.type n) ∧ kitB n t.name = some b := by
  cases r with
  | non =>
    refine ⟨"NoneType", .base .non, ?_⟩
    cases t <;> (cases h; decide +kernel)
  | bl k =>
    refine ⟨"bool", .base (.bl k), ?_⟩
    cases t <;> (cases h; decide +kernel)
  | int k =>
    refine ⟨"int", .base (.int k), ?_⟩
    cases t <;> (cases h; decide +kernel)
  | str k =>
    refine ⟨"str", .base (.str k), ?_⟩
    cases t <;> (cases h; decide +kernel)
  | tup q s =>
    refine ⟨"tuple", ?_, ?_⟩
    · rcases hx.sqT q with (q | ⟨o, q⟩) | ⟨o, its, n, q, c, _⟩
      · exact .base (.tup q)
      · exact .fTuple q
      · exact .kTuple q c
    · cases t <;> (cases h; decide +kernel)
  | lst q s =>
    refine ⟨"list", .base (.lst (hx _ _ q)), ?_⟩
    cases t <;> (cases h; decide +kernel)
  | dct q z s =>
    refine ⟨"dict", .base (.dK (hx _ _ q)), ?_⟩
    cases t <;> (cases h; decide +kernel)
  | _ => cases h
theorem cv_isi : CallV X (.builtin "isinstance") bIsi := CallR.any fun xs H Q => by
  rintro ⟨F, ds, R, hx, r, hg, k⟩
  refine ⟨_, call_isi, ?_⟩
  unfold bIsi at hg
  split at hg
  · obtain ⟨v, u, rfl, q, q2⟩ := r.two_of
    cases q2
    obtain ⟨b, hb, h⟩ := hg
    obtain ⟨n, h1, h2⟩ := kit_tag hx q hb
    exact ⟨_, _, _, _, b, rfl, .ty _, h1, kit_ty h2, k _ _ F H h (.bl _) (.refl hx)⟩
  · exact hg.elim
end
end VL

set_option Elab.async false
set_option linter.all false
set_option maxRecDepth 100000
set_option maxHeartbeats 4000000
/-! VL4: subscripts, slices, targets, iterables, statements, comprehensions. -/
namespace VL
open PySem PySem.Spec L2
/-! ### subscripts -/
def ixD (h : Oh) : O2
  | .tup ds, .int i, R => ∃ d, atI ds i = some d ∧ R d
  | .lst ds, .int i, R => ∃ d, atI ds i = some d ∧ R d
  | .str x, .int i, R => x.length ≤ sizeLine ∧ ∃ c, atI x.cps.toList i = some c ∧ R (.str ⟨#[c]⟩)
  | .obj a, .int i, R => ∃ ds d, h a = some (.ml ds) ∧ atI ds i = some d ∧ R d
  | _, _, _ => False
def wIx (wa wb : WE) : WE := fun S R => wa S fun x S1 => wb S1 fun y S2 => ixD S2.h x y fun z => R z S2
def slv : Sl → Option D
  | .f d => some d
  | .o d => some d
  | .u => none
/-- x[..] of a name that may own its list -/
def wIxO (i : Nat) (wb : WE) : WE := fun S R => (∃ e, (S.s[i]?).bind slv = some e) ∧ wb S fun y S1 => ∃ d, (S1.s[i]?).bind slv = some d ∧ ixD S1.h d y fun z => R z S1
/-- len of a name that may own its list -/
def wLenO (i : Nat) : WE := fun S R => ∃ ds, (S.s[i]?).bind slv = some (.lst ds) ∧ R (.int ds.length) S
def rVo (K : PySem.W.Frag) : R2 := fun x y H Q => ∃ F h d e R, Ext F H ∧ (∀ a ob, h a = some ob → ObAt K F H a ob) ∧ Rep K F x d ∧ Rep K F y e ∧ ixD h d e R ∧ ∀ z v, R z → Rep K F v z → Q v H
section
variable {X : Cx} {Φ : En → Prop} {a b e : Expr} {es : List Expr} {w wa wb : WE} {ws : WA} {n : Nat} {pos p : Pos} {K : PySem.W.Frag} {F H : Hp}
theorem Reps.at {vs : List V} {ds : List D} {i : Int} {d : D} (r : Reps K F vs ds) (h : atI ds i = some d) : ∃ v, atI vs i = some v ∧ Rep K F v d := by
  unfold atI at h ⊢
  rw [r.length]
  cases e : ixN ds.length i with
  | none => rw [e] at h; cases h
  | some j =>
    rw [e] at h
    exact r.get h
theorem ix_v : IxR X (rVo X.K) := IxR.any fun x y H Q => by
  rintro ⟨F, h, d, e, R, hx, ho, r1, r2, hg, k⟩
  refine ⟨_, ix_seq, ?_⟩
  unfold ixD at hg
  split at hg
  · cases r2
    obtain ⟨d, h1, h2⟩ := hg
    cases r1 with
    | tup q s =>
      obtain ⟨v, h3, h4⟩ := s.at h1
      exact .inr (.inl ⟨_, _, _, v, rfl, rfl, hx.sqT q, h3, k _ _ h2 h4⟩)
  · cases r2
    obtain ⟨d, h1, h2⟩ := hg
    cases r1 with
    | lst q s =>
      obtain ⟨v, h3, h4⟩ := s.at h1
      exact .inl ⟨_, _, _, v, rfl, rfl, .of (hx _ _ q), h3, k _ _ h2 h4⟩
  · cases r2
    cases r1
    obtain ⟨hl, c, h1, h2⟩ := hg
    exact .inr (.inr ⟨_, _, c, rfl, rfl, hl, h1, k _ _ h2 (.str _)⟩)
  · cases r2
    obtain ⟨ds, d, h0, h1, h2⟩ := hg
    cases r1 with
    | obj =>
      obtain ⟨vs, q, s⟩ := ho _ _ h0
      obtain ⟨v, h3, h4⟩ := s.at h1
      exact .inl ⟨_, _, _, v, rfl, rfl, .of q, h3, k _ _ h2 h4⟩
  · exact hg.elim
theorem de_ix (ha : DE X Φ a wa) (hb : DE X Φ b wb) (hs : PlainIx b) : DE X Φ (.Subscript a b pos) (wIx wa wb) := fun E hE => PE.imp (pe_ix ix_v (ha E hE) (hb E hE) hs) fun σ H Q => by
  rintro ⟨S, F, R, hR, hw, k⟩
  refine ⟨S, F, _, hR, hw, fun x S1 v1 F1 H1 hw1 r1 hR1 x1 => ?_⟩
  refine ⟨S1, F1, _, hR1, hw1, fun y S2 v2 F2 H2 hw2 r2 hR2 x2 => ?_⟩
  exact ⟨F2, S2.h, x, y, _, hR2.g.ext, fun a ob q => (hR2.g.obs a ob q).1, r1.mono x2, r2, hw2, fun z v hz rz => k z S2 v F2 H2 hz rz hR2 (x1.trans x2)⟩
theorem Rel.slot {E : En} {σ : L2.St} {S : Sg} {i : Nat} {e : D} (hR : Rel K E F H σ S) (h : (S.s[i]?).bind slv = some e) : ∃ v, σ[i]? = some (some v) ∧ ((S.s[i]? = some (.f e) ∧ Rep K F v e) ∨ (S.s[i]? = some (.o e) ∧ ∃ p, v = .ref p ∧ OwAt K F H p e)) := by
  cases q : S.s[i]? with
  | none => rw [q] at h; cases h
  | some x =>
    rw [q] at h
    cases x with
    | u => cases h
    | f d =>
      cases h
      obtain ⟨v, h1, h2⟩ := hR.frz i _ q
      exact ⟨v, h1, .inl ⟨rfl, h2⟩⟩
    | o d =>
      cases h
      obtain ⟨p, h1, h2, _⟩ := hR.own i _ q
      exact ⟨_, h1, .inr ⟨rfl, p, rfl, h2⟩⟩
theorem de_ixO {x : Str} (i : Nat) (h : PE X (.Name x p) (tVar i)) (hb : DE X Φ b wb) (hs : PlainIx b) : DE X Φ (.Subscript (.Name x p) b pos) (wIxO i wb) := fun E hE => PE.imp (pe_ix (IxR.or ix_v ix_list) h (hb E hE) hs) fun σ H Q => by
  rintro ⟨S, F, R, hR, ⟨⟨e, he⟩, hw⟩, k⟩
  obtain ⟨v, h1, _⟩ := hR.slot he
  refine ⟨_, h1, ?_⟩
  refine ⟨S, F, _, hR, hw, fun y S1 v1 F1 H1 hw1 r1 hR1 x1 => ?_⟩
  obtain ⟨d, g1, g2⟩ := hw1
  obtain ⟨v', h2, h3⟩ := hR1.slot g1
  rw [h1] at h2
  cases h2
  rcases h3 with ⟨_, rd⟩ | ⟨_, q, rfl, ho⟩
  · exact .inl ⟨F1, S1.h, d, y, _, hR1.g.ext, fun a ob q => (hR1.g.obs a ob q).1, rd, r1, g2, fun z v hz rz => k z S1 v F1 H1 hz rz hR1 x1⟩
  · cases d with
    | lst ds =>
      obtain ⟨vs, q, s⟩ := ho
      cases r1 with
      | int i =>
        obtain ⟨d, g3, g4⟩ := g2
        obtain ⟨v, h3, h4⟩ := s.at g3
        exact .inr ⟨_, _, _, v, rfl, rfl, .of q, h3, k d S1 v F1 H1 g4 h4 hR1 x1⟩
      | _ => exact g2.elim
    | dct => cases r1 <;> exact g2.elim
    | dcu => cases r1 <;> exact g2.elim
    | _ => exact ho.elim
theorem de_lenO {x y : Str} {p2 : Pos} (i : Nat) (h : PE X (.Name x p) (tVar i)) (hg : Gl X y) (hm : X.mg y = none) (hv : bootBuiltins y = some (.builtin "len")) (hn : y ≠ "__name__" := by decide) (hdb : (y == ("__debug__" : Str)) = false := by decide)
    (he : starEach [.Name x p] X.env = (false, eval (.Name x p) X.env) :: starEach [] X.env := by rfl) (hpl : (backTo pos (starEach [] X.env)).any (·.1) = false := by rfl) : DE X Φ (.Call (.Name y p2) [.Name x p] [] pos) (wLenO i) := fun E hE => PE.imp (pe_callB call_len hg hm hv (pa_cons h pa_nil he) hn hdb he hpl) fun σ H Q => by
  rintro ⟨S, F, R, hR, ⟨ds, hd, hw⟩, k⟩
  obtain ⟨v, h1, h2⟩ := hR.slot hd
  have hl : ∃ a vs, v = .ref a ∧ H a = some (.lst vs) ∧ vs.length = ds.length := by
    rcases h2 with ⟨_, r⟩ | ⟨_, q, rfl, vs, q1, s⟩
    · cases r with
      | lst q s => exact ⟨_, _, rfl, hR.g.ext _ _ q, s.length⟩
    · exact ⟨_, _, rfl, q1, s.length⟩
  obtain ⟨a, vs, rfl, q, l⟩ := hl
  refine ⟨_, h1, _, _, rfl, .inl ⟨vs, .of q, rfl⟩, ?_⟩
  rw [l]
  exact k _ S _ F H hw (.int _) hR (.refl _)
end

/-! ### slices -/
def cutD {α : Type} (xs : List α) (lo hi : Option Int) : List α := (xs.drop (HT.sIx xs.length 0 lo)).take (HT.sIx xs.length xs.length hi - HT.sIx xs.length 0 lo)
abbrev WO := Sg → (Option Int → Sg → Prop) → Prop
def wNoPart : WO := fun S R => R none S
def wPart (w : WE) : WO := fun S R => w S fun d S1 => match d with
  | .int i => R (some i) S1
  | _ => False
def slD : D → Option Int → Option Int → (D → Prop) → Prop
  | .tup ds, lo, hi, R => R (.tup (cutD ds lo hi))
  | .lst ds, lo, hi, R => R (.lst (cutD ds lo hi))
  | .str x, lo, hi, R => x.length ≤ sizeLine ∧ R (.str (cutS x lo hi))
  | _, _, _, _ => False
def wSl (w : WE) (lo hi : WO) : WE := fun S R => w S fun d S1 => lo S1 fun l S2 => hi S2 fun u S3 => slD d l u fun z => R z S3
def LO (K : PySem.W.Frag) (E : En) (w : WO) : TO := fun σ H Q => ∃ S F R, Rel K E F H σ S ∧ w S R ∧ ∀ o S' F' H', R o S' → Rel K E F' H' σ S' → Ext F F' → Q o H'
def DO (X : Cx) (Φ : En → Prop) (e : Option Expr) (w : WO) : Prop := ∀ E, Φ E → PO X e (LO X.K E w)
section
variable {X : Cx} {Φ : En → Prop} {a b e : Expr} {es : List Expr} {w wa wb : WE} {lo hi : Option Expr} {wl wh : WO} {pos p : Pos} {K : PySem.W.Frag} {F H : Hp}
theorem PO.imp {X : Cx} {e : Option Expr} {t t' : TO} (h : PO X e t) (hi : ∀ σ H Q, t' σ H Q → t σ H Q) : PO X e t' := ⟨fun pins s σ H Q I q => h.run pins s σ H Q I (hi _ _ _ q)⟩
theorem do_none : DO X Φ none wNoPart := fun E hE => PO.imp po_none fun σ H Q => by
  rintro ⟨S, F, R, hR, hw, k⟩
  exact k none S F H hw hR (.refl _)
theorem do_some (h : DE X Φ e w) : DO X Φ (some e) (wPart w) := fun E hE => PO.imp (po_some (h E hE)) fun σ H Q => by
  rintro ⟨S, F, R, hR, hw, k⟩
  refine ⟨S, F, _, hR, hw, fun x S1 v1 F1 H1 hw1 r1 hR1 x1 => ?_⟩
  cases r1 with
  | int i => exact ⟨i, rfl, k _ S1 F1 H1 hw1 hR1 x1⟩
  | _ => exact hw1.elim
theorem Reps.cut {vs : List V} {ds : List D} (r : Reps K F vs ds) (lo hi : Option Int) : Reps K F (cutV vs lo hi) (cutD ds lo hi) := by
  unfold cutV cutD
  rw [r.length]
  exact (r.drop _).take _
theorem SlR.any {r : V → Option Int → Option Int → Hp → VK → Prop} (h : ∀ x lo hi H Q, r x lo hi H Q → ∃ r', SlR X r' ∧ r' x lo hi H Q) : SlR X r := fun pins s σ H x v vl vu lo hi sl Q I rx h1 h2 h3 q =>
  let ⟨_, ho, q'⟩ := h x lo hi H Q q
  ho pins s σ H x v vl vu lo hi sl Q I rx h1 h2 h3 q'
theorem sl_v : SlR X fun x lo hi H Q => ∃ F d R, Ext F H ∧ Rep X.K F x d ∧ slD d lo hi R ∧ ∀ z v F' H', R z → Rep X.K F' v z → Al F H F' H' → Q v H' := SlR.any fun x lo hi H Q => by
  rintro ⟨F, d, R, hx, r1, hg, k⟩
  unfold slD at hg
  split at hg
  · cases r1 with
    | tup q s =>
      rename_i a vs
      refine ⟨_, sl_tupA, a, vs, rfl, hx.sqT q, fun z => ?_, fun z p hp => ?_⟩
      · have e : cutV vs lo hi = vs := by
          unfold cutV
          rw [z.1, z.2]
          simp
        have sc := s.cut lo hi
        rw [e] at sc
        exact k _ _ F H hg (.tup q sc) (.refl hx)
      · have al := Al.one (o := .tup (cutV vs lo hi)) hx hp
        exact k _ _ _ _ hg (.tup (.of upd_same) ((s.cut lo hi).mono al.xF)) al
  · cases r1 with
    | lst q s =>
      rename_i a vs
      refine ⟨_, sl_list, a, vs, rfl, .of (hx _ _ q), fun p hp => ?_⟩
      have al := Al.one (o := .lst (cutV vs lo hi)) hx hp
      exact k _ _ _ _ hg (.lst upd_same ((s.cut lo hi).mono al.xF)) al
  · cases r1
    exact ⟨_, sl_str, _, rfl, hg.1, k _ _ F H hg.2 (.str _) (.refl hx)⟩
  · exact hg.elim
theorem de_sl {p2 : Pos} (he : DE X Φ e w) (hl : DO X Φ lo wl) (hu : DO X Φ hi wh) : DE X Φ (.Subscript e (.Slice lo hi none p2) pos) (wSl w wl wh) := fun E hE => PE.imp (pe_slice sl_v (he E hE) (hl E hE) (hu E hE)) fun σ H Q => by
  rintro ⟨S, F, R, hR, hw, k⟩
  refine ⟨S, F, _, hR, hw, fun x S1 v1 F1 H1 hw1 r1 hR1 x1 => ?_⟩
  refine ⟨S1, F1, _, hR1, hw1, fun l S2 F2 H2 hw2 hR2 x2 => ?_⟩
  refine ⟨S2, F2, _, hR2, hw2, fun u S3 F3 H3 hw3 hR3 x3 => ?_⟩
  exact ⟨F3, x, _, hR3.g.ext, (r1.mono x2).mono x3, hw3, fun z v F' H' hz rz al => k z S3 v F' H' hz rz (hR3.al al) (((x1.trans x2).trans x3).trans al.xF)⟩
end

/-! ### targets -/
def gVar (i : Nat) : WG := fun d S R => R (S.st i (.f d))
abbrev WGs := List D → Sg → (Sg → Prop) → Prop
def gsNil : WGs := fun ds S R => match ds with
  | [] => R S
  | _ => False
def gsCons (g : WG) (gs : WGs) : WGs := fun ds S R => match ds with
  | d :: r => g d S fun S1 => gs r S1 R
  | [] => False
def gTp (n : Nat) (gs : WGs) : WG := fun d S R => match d with
  | .tup ds => ds.length = n ∧ gs ds S R
  | _ => False
/-- o[i] = .., o a known list -/
def gIxM (wo wi : WE) : WG := fun d S R => wo S fun x S1 => wi S1 fun y S2 => ∃ a ds j k, x = .obj a ∧ y = .int j ∧ S2.h a = some (.ml ds) ∧ ixN ds.length j = some k ∧ R (S2.ob a (.ml (ds.set k d)))
/-- x[i] = .., x owns its list -/
def gIxO (i : Nat) (wi : WE) : WG := fun d S R => (∃ e, S.s[i]? = some (.o e)) ∧ wi S fun y S1 => ∃ ds j k, S1.s[i]? = some (.o (.lst ds)) ∧ y = .int j ∧ ixN ds.length j = some k ∧ R (S1.st i (.o (.lst (ds.set k d))))
def LGs (K : PySem.W.Frag) (E : En) (g : WGs) : TGs := fun vs σ H Q => ∃ S F ds R, Rel K E F H σ S ∧ Reps K F vs ds ∧ g ds S R ∧ ∀ S' σ' F' H', R S' → Rel K E F' H' σ' S' → Ext F F' → Q σ' H'
def DGs (X : Cx) (Φ : En → Prop) (es : List Expr) (g : WGs) : Prop := ∀ E, Φ E → PGs X es (LGs X.K E g)
section
variable {X : Cx} {Φ : En → Prop} {a b e o i : Expr} {es : List Expr} {w wo wi : WE} {g : WG} {gs : WGs} {pos p : Pos}
theorem PGs.imp {t t' : TGs} (h : PGs X es t) (hi : ∀ v σ H Q, t' v σ H Q → t v σ H Q) : PGs X es t' := ⟨fun pins s σ H v u Q I r q => h.run pins s σ H v u Q I r (hi _ _ _ _ q)⟩
theorem dg_var {x : Str} (i : Nat) (h : PG X (.Name x pos) (gName i)) : DG X Φ (.Name x pos) (gVar i) := fun E hE => PG.imp h fun v σ H Q => by
  rintro ⟨S, F, d, R, hR, r, hg, k⟩
  exact k _ _ F H hg (hR.set r) (.refl _)
theorem dgs_nil : DGs X Φ [] gsNil := fun E hE => PGs.imp pgs_nil fun v σ H Q => by
  rintro ⟨S, F, d, R, hR, r, hg, k⟩
  cases r with
  | nil => exact ⟨rfl, k S σ F H hg hR (.refl _)⟩
  | cons => exact hg.elim
theorem dgs_cons (h : DG X Φ e g) (hs : DGs X Φ es gs) (hh : (assignEach (e :: es) X.env).map (·.2) = assign e X.env :: (assignEach es X.env).map (·.2) := by rfl) : DGs X Φ (e :: es) (gsCons g gs) := fun E hE => PGs.imp (pgs_cons (h E hE) (hs E hE) hh) fun v σ H Q => by
  rintro ⟨S, F, ds, R, hR, r, hg, k⟩
  cases r with
  | nil => exact hg.elim
  | cons r1 r2 =>
    refine ⟨_, _, rfl, S, F, _, _, hR, r1, hg, fun S1 σ1 F1 H1 hg1 hR1 x1 => ?_⟩
    exact ⟨S1, F1, _, R, hR1, r2.mono x1, hg1, fun S2 σ2 F2 H2 h2 hR2 x2 => k S2 σ2 F2 H2 h2 hR2 (x1.trans x2)⟩
theorem dg_tup {k n : Nat} (hc : X.calm = true) (h : DGs X Φ es gs) (hn : (assignEach es X.env).length = n := by rfl) (hst : (assignEach es X.env).findIdx? (·.1) = none := by rfl) : DG X Φ (.Tuple es k pos) (gTp n gs) := fun E hE => PG.imp (pg_tup hc (h E hE) hn hst) fun v σ H Q => by
  rintro ⟨S, F, d, R, hR, r, hg, k⟩
  cases r with
  | tup q s => exact ⟨_, _, rfl, hR.g.ext.sqT q, s.length.trans hg.1, S, F, _, R, hR, s, hg.2, k⟩
  | _ => exact hg.elim
theorem dg_ixM (ho : DE X Φ o wo) (hi : DE X Φ i wi) (ha : ∀ v, assign (.Subscript o i pos) X.env v = (do
      let ov ← holding [v] (eval o X.env)
      let iv ← holding [v, ov] (eval i X.env)
      standAt pos
      holding [v, ov, iv] (setItem ov iv v)
      release [v, ov, iv] []) := by intro _; rfl) : DG X Φ (.Subscript o i pos) (gIxM wo wi) := fun E hE => PG.imp (pg_sub (ho E hE) (hi E hE) set_list ha) fun v σ H Q => by
  rintro ⟨S, F, d, R, hR, r, hg, k⟩
  refine ⟨S, F, _, hR, hg, fun x S1 v1 F1 H1 hw1 r1 hR1 x1 => ?_⟩
  refine ⟨S1, F1, _, hR1, hw1, fun y S2 v2 F2 H2 hw2 r2 hR2 x2 => ?_⟩
  obtain ⟨a, ds, j, m, rfl, rfl, h1, h2, h3⟩ := hw2
  cases r1; cases r2
  obtain ⟨vs, q, s⟩ := (hR2.g.obs _ _ h1).1
  refine ⟨a, vs, j, m, rfl, rfl, q, by rw [s.length]; exact h2, ?_⟩
  exact k _ _ F2 _ h3 (hR2.obput (by rw [h1]; simp) ⟨_, upd_same, s.set m ((r.mono x1).mono x2)⟩) (x1.trans x2)
theorem dg_ixO {x : Str} {px : Pos} (j : Nat) (h : PE X (.Name x px) (tVar j)) (hi : DE X Φ i wi) (ha : ∀ v, assign (.Subscript (.Name x px) i pos) X.env v = (do
      let ov ← holding [v] (eval (.Name x px) X.env)
      let iv ← holding [v, ov] (eval i X.env)
      standAt pos
      holding [v, ov, iv] (setItem ov iv v)
      release [v, ov, iv] []) := by intro _; rfl) : DG X Φ (.Subscript (.Name x px) i pos) (gIxO j wi) := fun E hE => PG.imp (pg_sub h (hi E hE) set_list ha) fun v σ H Q => by
  rintro ⟨S, F, d, R, hR, r, ⟨⟨e, he⟩, hg⟩, k⟩
  obtain ⟨p, h1, _⟩ := hR.own j e he
  refine ⟨_, h1, S, F, _, hR, hg, fun y S1 v1 F1 H1 hw1 r1 hR1 x1 => ?_⟩
  obtain ⟨ds, z, m, g1, rfl, g2, g3⟩ := hw1
  obtain ⟨p', h2, ⟨vs, q, s⟩, _⟩ := hR1.own j _ g1
  rw [h1] at h2
  cases h2
  cases r1
  refine ⟨_, vs, z, m, rfl, rfl, q, by rw [s.length]; exact g2, ?_⟩
  exact k _ _ F1 _ g3 (hR1.mut g1 h1 ⟨_, upd_same, s.set m (r.mono x1)⟩) x1
end

/-! ### iterables -/
def wRng1 (w : WA) : WA := fun S R => w S fun ds S1 => match ds with
  | [.int j] => (-(2 ^ 62) ≤ j ∧ j < 2 ^ 62) ∧ R ((List.range j.toNat).map fun i => .int (i : Nat)) S1
  | _ => False
def wRng2 (w : WA) : WA := fun S R => w S fun ds S1 => match ds with
  | [.int i, .int j] => (-(2 ^ 62) ≤ i ∧ i < 2 ^ 62 ∧ -(2 ^ 62) ≤ j ∧ j < 2 ^ 62) ∧ R ((List.range (j - i).toNat).map fun k => .int (i + (k : Nat))) S1
  | _ => False
def wItL (w : WE) : WA := fun S R => w S fun d S1 => match d with
  | .lst ds => R ds S1
  | _ => False
def wItT (w : WE) : WA := fun S R => w S fun d S1 => match d with
  | .tup ds => R ds S1
  | _ => False
def chars (x : Str) : List D := x.cps.toList.map fun c => .str ⟨#[c]⟩
def wItS (w : WE) : WA := fun S R => w S fun d S1 => match d with
  | .str x => R (chars x) S1
  | _ => False
def wZip (w : WA) : WA := fun S R => w S fun ds S1 => match ds with
  | [.lst xs, .lst ys] => R (List.zipWith (fun x y => .tup [x, y]) xs ys) S1
  | _ => False
def wEnum (w : WA) : WA := fun S R => w S fun ds S1 => match ds with
  | [.lst xs] => R (xs.zipIdx.map fun p => .tup [.int (p.2 : Nat), p.1]) S1
  | _ => False
section
variable {X : Cx} {Φ : En → Prop} {a b e tg : Expr} {es : List Expr} {w : WE} {ws : WA} {n : Nat} {pos p : Pos} {K : PySem.W.Frag} {F H : Hp}
theorem feeds_list {c : Addr} {vs : List V} {ds : List D} (h : F c = some (.lst vs)) (s : Reps K F vs ds) : Feeds K (Itl K c) F ds := fun F' H' x1 x2 =>
  ⟨fun i d hd => by
    obtain ⟨v, h1, h2⟩ := s.get hd
    have hq : SqL K H' c vs := .of (x2 _ _ (x1 _ _ h))
    refine ⟨⟨vs, v, hq, h1⟩, fun x H3 hy => ?_⟩
    obtain ⟨rfl, hy⟩ := hy
    have e : x = v := Option.some.inj ((hy _ hq).symm.trans h1)
    subst e
    exact ⟨F', .refl x2, h2.mono x1⟩, fun i hi => ⟨vs, .of (x2 _ _ (x1 _ _ h)), by rw [s.length]; exact hi⟩⟩
theorem feeds_tup {c : Addr} {vs : List V} {ds : List D} (h : SqT K F c vs) (s : Reps K F vs ds) : Feeds K (Itt K c) F ds := fun F' H' x1 x2 =>
  ⟨fun i d hd => by
    obtain ⟨v, h1, h2⟩ := s.get hd
    have hq : SqT K H' c vs := x2.sqT (x1.sqT h)
    refine ⟨⟨vs, v, hq, h1⟩, fun x H3 hy => ?_⟩
    obtain ⟨rfl, hy⟩ := hy
    have e : x = v := Option.some.inj ((hy _ hq).symm.trans h1)
    subst e
    exact ⟨F', .refl x2, h2.mono x1⟩, fun i hi => ⟨vs, x2.sqT (x1.sqT h), by rw [s.length]; exact hi⟩⟩
theorem feeds_rng {lo : Int} {n : Nat} : Feeds K (Itr lo n) F ((List.range n).map fun k => .int (lo + (k : Nat))) := fun F' H' x1 x2 =>
  ⟨fun i d hd => by
    rw [List.getElem?_map] at hd
    cases e : (List.range n)[i]? with
    | none => rw [e] at hd; cases hd
    | some j =>
      rw [e] at hd
      have hi : i < n := by simpa using ix_lt e
      rw [List.getElem?_range hi] at e
      cases e
      cases hd
      refine ⟨hi, fun x H3 hy => ?_⟩
      obtain ⟨rfl, rfl⟩ := hy
      exact ⟨F', .refl x2, .int _⟩, fun i hi => (by simpa using hi : n ≤ i)⟩
theorem feeds_str {x : Str} : Feeds K (Its x) F (chars x) := fun F' H' x1 x2 =>
  ⟨fun i d hd => by
    unfold chars at hd
    rw [List.getElem?_map] at hd
    cases e : x.cps.toList[i]? with
    | none => rw [e] at hd; cases hd
    | some j =>
      rw [e] at hd
      cases hd
      have hi : i < x.cps.size := by simpa using ix_lt e
      refine ⟨hi, fun y H3 hy => ?_⟩
      obtain ⟨rfl, c, h1, rfl⟩ := hy
      have : x.cps[i]? = some j := by simpa using e
      rw [this] at h1
      cases h1
      exact ⟨F', .refl x2, .str _⟩, fun i hi => by
    have : x.cps.size ≤ i := by simpa [chars] using hi
    exact this⟩
theorem feeds_zip {a b : Addr} {vs us : List V} {ds es : List D} (h : F a = some (.lst vs)) (s : Reps K F vs ds) (h' : F b = some (.lst us)) (s' : Reps K F us es) : Feeds K (Itz K a b) F (List.zipWith (fun x y => .tup [x, y]) ds es) := fun F' H' x1 x2 => by
  have hq : SqL K H' a vs := .of (x2 _ _ (x1 _ _ h))
  have hq' : SqL K H' b us := .of (x2 _ _ (x1 _ _ h'))
  refine ⟨fun i d hd => ?_, fun i hi => ?_⟩
  · rw [List.getElem?_zipWith] at hd
    cases e1 : ds[i]? with
    | none => rw [e1] at hd; cases hd
    | some y =>
      cases e2 : es[i]? with
      | none => rw [e1, e2] at hd; cases hd
      | some z =>
        rw [e1, e2] at hd
        cases hd
        obtain ⟨v, h1, h2⟩ := s.get e1
        obtain ⟨u, h3, h4⟩ := s'.get e2
        refine ⟨⟨vs, us, v, u, hq, hq', h1, h3⟩, fun x H3 hy => ?_⟩
        obtain ⟨T, q, r, rfl, hT, rfl, f1, f2⟩ := hy
        have e1 : q = v := Option.some.inj ((f1 _ hq).symm.trans h1)
        have e2 : r = u := Option.some.inj ((f2 _ hq').symm.trans h3)
        subst e1
        subst e2
        have al := Al.one (o := .tup [q, r]) x2 hT
        exact ⟨_, al, .tup (.of upd_same) (((Reps.cons h2 (.one h4)).mono x1).mono al.xF)⟩
  · rw [List.length_zipWith] at hi
    refine ⟨vs, us, hq, hq', ?_⟩
    rw [s.length, s'.length]
    omega
theorem feeds_enum {a : Addr} {vs : List V} {ds : List D} (h : F a = some (.lst vs)) (s : Reps K F vs ds) : Feeds K (Ite K a) F (ds.zipIdx.map fun p => .tup [.int (p.2 : Nat), p.1]) := fun F' H' x1 x2 => by
  have hq : SqL K H' a vs := .of (x2 _ _ (x1 _ _ h))
  refine ⟨fun i d hd => ?_, fun i hi => ?_⟩
  · rw [List.getElem?_map, List.getElem?_zipIdx] at hd
    cases e1 : ds[i]? with
    | none => rw [e1] at hd; cases hd
    | some y =>
      rw [e1] at hd
      cases hd
      obtain ⟨v, h1, h2⟩ := s.get e1
      refine ⟨⟨vs, v, hq, h1⟩, fun x H3 hy => ?_⟩
      obtain ⟨T, q, rfl, hT, rfl, f1⟩ := hy
      have e1 : q = v := Option.some.inj ((f1 _ hq).symm.trans h1)
      subst e1
      have al := Al.one (o := .tup [.int (i : Nat), q]) x2 hT
      have z : 0 + i = i := Nat.zero_add i
      refine ⟨_, al, .tup (.of upd_same) (((Reps.cons ?_ (.one h2)).mono x1).mono al.xF)⟩
      show Rep K F (.int (i : Nat)) (.int ((0 + i : Nat) : Int))
      rw [z]
      exact .int _
  · rw [List.length_map, List.length_zipIdx] at hi
    exact ⟨vs, hq, by rw [s.length]; exact hi⟩
theorem di_list (he : DE X Φ e w) : DI X Φ tg e (wItL w) := fun E hE => PI.imp (pi_list (he E hE)) fun σ H Q => by
  rintro ⟨S, F, R, hR, hw, k⟩
  refine ⟨S, F, _, hR, hw, fun d S1 v F1 H1 hw1 r hR1 x1 => ?_⟩
  cases r with
  | lst q s => exact ⟨_, rfl, ⟨_, .of (hR1.g.ext _ _ q)⟩, k _ S1 _ F1 H1 hw1 (feeds_list q s) hR1 x1⟩
  | _ => exact hw1.elim
theorem di_tup (he : DE X Φ e w) : DI X Φ tg e (wItT w) := fun E hE => PI.imp (pi_tup (he E hE)) fun σ H Q => by
  rintro ⟨S, F, R, hR, hw, k⟩
  refine ⟨S, F, _, hR, hw, fun d S1 v F1 H1 hw1 r hR1 x1 => ?_⟩
  cases r with
  | tup q s => exact ⟨_, rfl, ⟨_, hR1.g.ext.sqT q⟩, k _ S1 _ F1 H1 hw1 (feeds_tup q s) hR1 x1⟩
  | _ => exact hw1.elim
theorem di_str (he : DE X Φ e w) : DI X Φ tg e (wItS w) := fun E hE => PI.imp (pi_str (he E hE)) fun σ H Q => by
  rintro ⟨S, F, R, hR, hw, k⟩
  refine ⟨S, F, _, hR, hw, fun d S1 v F1 H1 hw1 r hR1 x1 => ?_⟩
  cases r with
  | str => exact ⟨_, rfl, k _ S1 _ F1 H1 hw1 feeds_str hR1 x1⟩
  | _ => exact hw1.elim
theorem di_rng1 (hg : Gl X "range") (hm : X.mg "range" = none) (ha : DA X Φ [a] n ws) (hs : starEach [a] X.env = [(false, eval a X.env)] := by rfl) : DI X Φ tg (.Call (.Name "range" p) [a] [] pos) (wRng1 ws) := fun E hE => PI.imp (pi_range1 hg hm (ha E hE) hs) fun σ H Q => by
  rintro ⟨S, F, R, hR, hw, k⟩
  refine ⟨S, F, _, hR, hw, fun ds S1 vs F1 H1 hw1 l1 r1 hR1 x1 => ?_⟩
  split at hw1
  · obtain ⟨v, rfl, q⟩ := r1.one_of
    cases q
    rename_i j
    refine ⟨j, rfl, hw1.1.1, hw1.1.2, k _ S1 _ F1 H1 hw1.2 ?_ hR1 x1⟩
    have h := feeds_rng (K := X.K) (F := F1) (lo := 0) (n := j.toNat)
    simp only [Int.zero_add] at h
    exact h
  · exact hw1.elim
theorem di_rng2 (hg : Gl X "range") (hm : X.mg "range" = none) (ha : DA X Φ [a, b] n ws) (hs : starEach [a, b] X.env = [(false, eval a X.env), (false, eval b X.env)] := by rfl) (hs2 : starEach [b] X.env = [(false, eval b X.env)] := by rfl) : DI X Φ tg (.Call (.Name "range" p) [a, b] [] pos) (wRng2 ws) := fun E hE => PI.imp (pi_range2 hg hm (ha E hE) hs hs2) fun σ H Q => by
  rintro ⟨S, F, R, hR, hw, k⟩
  refine ⟨S, F, _, hR, hw, fun ds S1 vs F1 H1 hw1 l1 r1 hR1 x1 => ?_⟩
  split at hw1
  · obtain ⟨v, u, rfl, q, q2⟩ := r1.two_of
    cases q; cases q2
    exact ⟨_, _, rfl, hw1.1, k _ S1 _ F1 H1 hw1.2 feeds_rng hR1 x1⟩
  · exact hw1.elim
theorem di_zip {tpos : Pos} {elts : List Expr} {kk : Nat} (hg : Gl X "zip") (hm : X.mg "zip" = none) (ha : DA X Φ [a, b] n ws) (hp : ∀ t, PA X [a, b] t → PI X (.Tuple elts kk tpos) (.Call (.Name "zip" p) [a, b] [] pos) (iZip X.K t)) : DI X Φ (.Tuple elts kk tpos) (.Call (.Name "zip" p) [a, b] [] pos) (wZip ws) := fun E hE => PI.imp (hp _ (ha E hE)) fun σ H Q => by
  rintro ⟨S, F, R, hR, hw, k⟩
  refine ⟨S, F, _, hR, hw, fun ds S1 vs F1 H1 hw1 l1 r1 hR1 x1 => ?_⟩
  split at hw1
  · obtain ⟨v, u, rfl, q, q2⟩ := r1.two_of
    cases q with
    | lst h s =>
      cases q2 with
      | lst h' s' => exact ⟨_, _, _, _, rfl, .of (hR1.g.ext _ _ h), .of (hR1.g.ext _ _ h'), k _ S1 _ F1 H1 hw1 (feeds_zip h s h' s') hR1 x1⟩
  · exact hw1.elim
end
end VL

set_option Elab.async false
set_option linter.all false
set_option maxRecDepth 100000
set_option maxHeartbeats 4000000
/-! VL5: statements, comprehensions, defs. -/
namespace VL
open PySem PySem.Spec L2
/-! ### statements -/
def wNext : WS := fun D S => D.nx S
def wSeq (t u : WS) : WS := fun D S => t { D with nx := u D } S
def wBreak : WS := fun D S => D.bk S
def wCont : WS := fun D S => D.ct S
def wDrop (w : WE) : WS := fun D S => w S fun _ S1 => D.nx S1
def wRet (w : WE) : WS := fun D S => w S D.rt
def wRetN : WS := fun D S => D.rt .non S
def wIfS (t : WT) (u v : WS) : WS := fun D S => t S fun b S1 => Br b (u D S1) (v D S1)
def wAsg (w : WE) (g : WG) : WS := fun D S => w S fun d S1 => g d S1 D.nx
/-- x = a fresh container that the name owns -/
def wSetO (i : Nat) (w : WE) : WS := fun D S => w S fun d S1 => D.nx (S1.st i (.o d))
def obOf : D → Ob
  | .lst ds => .ml ds
  | .dct ks ds => .md ks ds
  | .dcu ks ds => .mu ks ds
  | _ => .ml []
/-- x = a fresh container that becomes a known object -/
def wSetM (i : Nat) (w : WE) : WS := fun D S => w S fun d S1 => ∀ a, S1.h a = none → D.nx ((S1.ob a (obOf d)).st i (.f (.obj a)))
def wPar (i j : Nat) (w : WA) : WS := fun D S => w S fun ds S1 => match ds with
  | [d, e] => D.nx ((S1.st i (.f d)).st j (.f e))
  | _ => False
def wPar3 (i j l : Nat) (w : WA) : WS := fun D S => w S fun ds S1 => match ds with
  | [d, e, f] => D.nx (((S1.st i (.f d)).st j (.f e)).st l (.f f))
  | _ => False
/-- x op= e -/
def wAug (i : Nat) (g : O2) (w : WE) : WS := fun D S => match S.s[i]? with
  | some (.f d) => w S fun e S1 => g d e fun z => D.nx (S1.st i (.f z))
  | _ => False
/-- o[i] op= e, o a known list -/
def wAugM (wo wi : WE) (g : O2) (w : WE) : WS := fun D S => wo S fun x S1 => wi S1 fun y S2 => ∃ a ds j d, x = .obj a ∧ y = .int j ∧ S2.h a = some (.ml ds) ∧ atI ds j = some d ∧
  w S2 fun e S3 => g d e fun z => ∃ ds' k, S3.h a = some (.ml ds') ∧ ixN ds'.length j = some k ∧ D.nx (S3.ob a (.ml (ds'.set k z)))
/-- x[i] op= e, x owns its list -/
def wAugO (i : Nat) (wi : WE) (g : O2) (w : WE) : WS := fun D S => (∃ e, S.s[i]? = some (.o e)) ∧ wi S fun y S2 => ∃ ds j d, S2.s[i]? = some (.o (.lst ds)) ∧ y = .int j ∧ atI ds j = some d ∧
  w S2 fun e S3 => g d e fun z => ∃ ds' k, S3.s[i]? = some (.o (.lst ds')) ∧ ixN ds'.length j = some k ∧ D.nx (S3.st i (.o (.lst (ds'.set k z))))
/-- x.append(e), x owns its list -/
def wApp (i : Nat) (w : WE) : WS := fun D S => (∃ es, S.s[i]? = some (.o (.lst es))) ∧ w S fun d S1 => ∃ ds, S1.s[i]? = some (.o (.lst ds)) ∧ ds.length < sizeLine ∧ D.nx (S1.st i (.o (.lst (ds ++ [d]))))
def wForL (g : WG) (tb : WS) (T : We) : List D → Sg → Prop
  | [], S => T.nx S
  | x :: xs, S => g x S fun S1 => tb { T with nx := wForL g tb T xs, ct := wForL g tb T xs, bk := T.nx } S1
def wFor (wi : WA) (g : WG) (tb : WS) : WS := fun D S => wi S fun ds S1 => wForL g tb D ds S1
def wWhM (t : WT) (tb : WS) (T : We) : Nat → Sg → Prop
  | 0, _ => False
  | n + 1, S => t S fun b S1 => Br b (tb { T with nx := wWhM t tb T n, ct := wWhM t tb T n, bk := T.nx } S1) (T.nx S1)
@[irreducible] def wWhN (t : WT) (tb : WS) (T : We) : Nat → Sg → Prop := wWhM t tb T
theorem whn_eq (t : WT) (tb : WS) (T : We) : wWhN t tb T = wWhM t tb T := by unfold wWhN; rfl
theorem whn {t : WT} {tb : WS} {T : We} {n : Nat} {S : Sg} (h : t S fun b S1 => Br b (tb { T with nx := wWhN t tb T n, ct := wWhN t tb T n, bk := T.nx } S1) (T.nx S1)) : wWhN t tb T (n + 1) S := by
  simp only [whn_eq] at h ⊢
  exact h
theorem whn_out {t : WT} {tb : WS} {T : We} {n : Nat} {S : Sg} (h : wWhN t tb T (n + 1) S) : t S fun b S1 => Br b (tb { T with nx := wWhN t tb T n, ct := wWhN t tb T n, bk := T.nx } S1) (T.nx S1) := by
  simp only [whn_eq] at h ⊢
  exact h
theorem whn_no {t : WT} {tb : WS} {T : We} {S : Sg} (h : wWhN t tb T 0 S) : False := by
  simp only [whn_eq] at h
  exact h
def wWhile (t : WT) (tb : WS) : WS := fun D S => ∃ n, wWhN t tb D n S
section
variable {W : L2.WX} {X : Cx} {a b c e o i : Expr} {es : List Expr} {st : Stmt} {sts body els : List Stmt} {w wo wi : WE} {ws : WA} {wt : WT} {t u tb : WS} {g : WG} {n : Nat} {pos p : Pos}
theorem dss_nil : DSs X W [] wNext := fun E => PSs.imp pss_nil fun D σ H => by
  rintro ⟨S, F, R, hR, hw, k1, k2, k3, k4, k5⟩
  exact k1 S σ F H hw hR (.refl _)
theorem LS.weak {K : PySem.W.Frag} {E : En} {w : WS} {σ : L2.St} {H F0 F : Hp} {S : Sg} {R : We} {D : Ends} (x0 : Ext F0 F) (hR : Rel K E F H σ S) (hw : w R S)
    (k1 : ∀ S' σ' F' H', R.nx S' → Rel K E F' H' σ' S' → Ext F F' → D.nx σ' H')
    (k2 : ∀ S' σ' F' H', R.bk S' → Rel K E F' H' σ' S' → Ext F0 F' → D.bk σ' H') (k3 : ∀ S' σ' F' H', R.ct S' → Rel K E F' H' σ' S' → Ext F0 F' → D.ct σ' H')
    (k4 : ∀ d S' v σ' F' H', R.rt d S' → Rep K F' v d → Rel K E F' H' σ' S' → Ext F0 F' → D.rt v H') (k5 : ∀ c fs S' cls dd σ' F' H', R.xx c fs S' → XAt K F' c fs cls dd → Rel K E F' H' σ' S' → W cls dd σ' H') : LS K E W w D σ H :=
  ⟨S, F, R, hR, hw, k1, fun S' σ' F' H' q r x => k2 S' σ' F' H' q r (x0.trans x), fun S' σ' F' H' q r x => k3 S' σ' F' H' q r (x0.trans x), fun d S' v σ' F' H' q r r' x => k4 d S' v σ' F' H' q r r' (x0.trans x), k5⟩
theorem dss_cons (h1 : DS X W st t) (h2 : DSs X W sts u) : DSs X W (st :: sts) (wSeq t u) := fun E => PSs.imp (pss_cons (h1 E) (h2 E)) fun D σ H => by
  rintro ⟨S, F, R, hR, hw, k1, k2, k3, k4, k5⟩
  refine ⟨S, F, _, hR, hw, fun S1 σ1 F1 H1 hw1 hR1 x1 => ?_, k2, k3, k4, k5⟩
  exact LS.weak x1 hR1 hw1 (fun S' σ' F' H' q r x => k1 S' σ' F' H' q r (x1.trans x)) k2 k3 k4 k5
theorem dss_one (h1 : DS X W st t) : DSs X W [st] t := fun E => pss_one (h1 E)
theorem ds_pass : DS X W (.Pass pos) wNext := fun E => PS.imp ps_pass fun D σ H => by
  rintro ⟨S, F, R, hR, hw, k1, k2, k3, k4, k5⟩
  exact k1 S σ F H hw hR (.refl _)
theorem ds_break : DS X W (.Break pos) wBreak := fun E => PS.imp ps_break fun D σ H => by
  rintro ⟨S, F, R, hR, hw, k1, k2, k3, k4, k5⟩
  exact k2 S σ F H hw hR (.refl _)
theorem ds_cont : DS X W (.Continue pos) wCont := fun E => PS.imp ps_continue fun D σ H => by
  rintro ⟨S, F, R, hR, hw, k1, k2, k3, k4, k5⟩
  exact k3 S σ F H hw hR (.refl _)
theorem ds_expr (he : DE X Tr e w) (hs : swapsWith e none pos.line X.env = pure false := by rfl) : DS X W (.Expr e pos) (wDrop w) := fun E => PS.imp (ps_expr (he E trivial) hs) fun D σ H => by
  rintro ⟨S, F, R, hR, hw, k1, k2, k3, k4, k5⟩
  exact ⟨S, F, _, hR, hw, fun d S1 v F1 H1 hw1 r1 hR1 x1 => k1 S1 σ F1 H1 hw1 hR1 x1⟩
theorem ds_ret (he : DE X Tr e w) : DS X W (.Return (some e) pos) (wRet w) := fun E => PS.imp (ps_ret (he E trivial)) fun D σ H => by
  rintro ⟨S, F, R, hR, hw, k1, k2, k3, k4, k5⟩
  exact ⟨S, F, _, hR, hw, fun d S1 v F1 H1 hw1 r1 hR1 x1 => k4 d S1 v σ F1 H1 hw1 r1 hR1 x1⟩
theorem ds_retN : DS X W (.Return none pos) wRetN := fun E => PS.imp ps_retN fun D σ H => by
  rintro ⟨S, F, R, hR, hw, k1, k2, k3, k4, k5⟩
  exact k4 _ S _ σ F H hw .non hR (.refl _)
theorem ds_if (hc : DT X Tr c wt) (ha : DSs X W body t) (hb : DSs X W els u) : DS X W (.If c body els pos) (wIfS wt t u) := fun E => PS.imp (ps_if (hc E trivial) (ha E) (hb E)) fun D σ H => by
  rintro ⟨S, F, R, hR, hw, k1, k2, k3, k4, k5⟩
  refine ⟨S, F, _, hR, hw, fun b S1 F1 H1 hw1 hR1 x1 => ?_⟩
  cases b with
  | true => exact LS.weak x1 hR1 (br_t hw1) (fun S' σ' F' H' q r x => k1 S' σ' F' H' q r (x1.trans x)) k2 k3 k4 k5
  | false => exact LS.weak x1 hR1 (br_f hw1) (fun S' σ' F' H' q r x => k1 S' σ' F' H' q r (x1.trans x)) k2 k3 k4 k5
theorem ds_asg {tg : Expr} (he : DE X Tr e w) (hg : DG X Tr tg g) (hs : swapsWithSole [tg] e pos.line X.env = pure false := by rfl) (hw : swappedStores [tg] e X.env = pure none := by rfl)
    (h1 : (assignEach [tg] X.env).map (·.2) = [assign tg X.env] := by rfl) : DS X W (.Assign [tg] e pos) (wAsg w g) := fun E => PS.imp (ps_asg (he E trivial) (hg E trivial) hs hw h1) fun D σ H => by
  rintro ⟨S, F, R, hR, hw, k1, k2, k3, k4, k5⟩
  refine ⟨S, F, _, hR, hw, fun d S1 v F1 H1 hw1 r1 hR1 x1 => ?_⟩
  exact ⟨S1, F1, d, _, hR1, r1, hw1, fun S2 σ2 F2 H2 q r x2 => k1 S2 σ2 F2 H2 q r (x1.trans x2)⟩
/-- x = e by the rule ps_set -/
theorem ds_set {x : Str} {pos' : Pos} (i : Nat) (he : DE X Tr e w) (h : ∀ te, PE X e te → PS X (.Assign [.Name x pos'] e pos) (tAsg te (L2.gName i))) : DS X W (.Assign [.Name x pos'] e pos) (wAsg w (gVar i)) := fun E => PS.imp (h _ (he E trivial)) fun D σ H => by
  rintro ⟨S, F, R, hR, hw, k1, k2, k3, k4, k5⟩
  refine ⟨S, F, _, hR, hw, fun d S1 v F1 H1 hw1 r1 hR1 x1 => ?_⟩
  exact k1 _ _ F1 H1 hw1 (hR1.set r1) x1
theorem ds_setO {x : Str} {pos' : Pos} (i : Nat) (he : DN X Tr e w) (h : ∀ te, PE X e te → PS X (.Assign [.Name x pos'] e pos) (tAsg te (L2.gName i))) : DS X W (.Assign [.Name x pos'] e pos) (wSetO i w) := fun E => PS.imp (h _ (he E trivial)) fun D σ H => by
  rintro ⟨S, F, R, hR, hw, k1, k2, k3, k4, k5⟩
  refine ⟨S, F, _, hR, hw, fun d S1 q F1 H1 hw1 f hR1 x1 => ?_⟩
  exact k1 _ _ F1 H1 hw1 (hR1.setO f) x1
theorem ds_setM {x : Str} {pos' : Pos} (i : Nat) (he : DN X Tr e w) (h : ∀ te, PE X e te → PS X (.Assign [.Name x pos'] e pos) (tAsg te (L2.gName i))) : DS X W (.Assign [.Name x pos'] e pos) (wSetM i w) := fun E => PS.imp (h _ (he E trivial)) fun D σ H => by
  rintro ⟨S, F, R, hR, hw, k1, k2, k3, k4, k5⟩
  refine ⟨S, F, _, hR, hw, fun d S1 q F1 H1 hw1 f hR1 x1 => ?_⟩
  have ha : ObAt X.K F1 H1 q (obOf d) := by
    have z := f.at_
    cases d <;> first | exact z | exact z.elim
  exact k1 _ _ F1 H1 (hw1 q f.nh) ((hR1.obnew f ha).set (.obj q)) x1
theorem Reps.three_of {K : PySem.W.Frag} {F : Hp} {vs : List V} {d e f : D} (r : Reps K F vs [d, e, f]) : ∃ v u w, vs = [v, u, w] ∧ Rep K F v d ∧ Rep K F u e ∧ Rep K F w f := by
  cases r with
  | cons a b =>
    obtain ⟨u, w, rfl, q⟩ := b.two_of
    exact ⟨_, _, _, rfl, a, q⟩
theorem ds_par {x y : Str} {px py pt : Pos} {kt k2 : Nat} {pt2 : Pos} (i j : Nat) (ha : DA X Tr [a, b] n ws) (h : ∀ ta, PA X [a, b] ta → PS X (.Assign [.Tuple [.Name x px, .Name y py] kt pt] (.Tuple [a, b] k2 pt2) pos) (tPar i j ta)) :
    DS X W (.Assign [.Tuple [.Name x px, .Name y py] kt pt] (.Tuple [a, b] k2 pt2) pos) (wPar i j ws) := fun E => PS.imp (h _ (ha E trivial)) fun D σ H => by
  rintro ⟨S, F, R, hR, hw, k1, k2, k3, k4, k5⟩
  refine ⟨S, F, _, hR, hw, fun ds S1 vs F1 H1 hw1 l1 r1 hR1 x1 => ?_⟩
  split at hw1
  · obtain ⟨v, u, rfl, q1, q2⟩ := r1.two_of
    exact ⟨v, u, rfl, k1 _ _ F1 H1 hw1 ((hR1.set q1).set q2) x1⟩
  · exact hw1.elim
theorem ds_par3 {x y z : Str} {px py pz pt : Pos} {kt k2 : Nat} {pt2 : Pos} (i j l : Nat) (ha : DA X Tr [a, b, c] n ws) (h : ∀ ta, PA X [a, b, c] ta → PS X (.Assign [.Tuple [.Name x px, .Name y py, .Name z pz] kt pt] (.Tuple [a, b, c] k2 pt2) pos) (tPar3 i j l ta)) :
    DS X W (.Assign [.Tuple [.Name x px, .Name y py, .Name z pz] kt pt] (.Tuple [a, b, c] k2 pt2) pos) (wPar3 i j l ws) := fun E => PS.imp (h _ (ha E trivial)) fun D σ H => by
  rintro ⟨S, F, R, hR, hw, k1, k2, k3, k4, k5⟩
  refine ⟨S, F, _, hR, hw, fun ds S1 vs F1 H1 hw1 l1 r1 hR1 x1 => ?_⟩
  split at hw1
  · obtain ⟨v, u, w, rfl, q1, q2, q3⟩ := r1.three_of
    exact ⟨v, u, w, rfl, k1 _ _ F1 H1 hw1 (((hR1.set q1).set q2).set q3) x1⟩
  · exact hw1.elim
theorem ds_aug {x : Str} {pos' : Pos} {op : Operator} {g : O2} (i : Nat) (ho : OpV X (inplaceOp op) g) (he : DE X Tr e w) (h : ∀ te ti, PE X e te → PIp X op ti → PS X (.AugAssign (.Name x pos') op e pos) (tAug i te ti)) : DS X W (.AugAssign (.Name x pos') op e pos) (wAug i g w) := fun E => PS.imp (h _ _ (he E trivial) ho) fun D σ H => by
  rintro ⟨S, F, R, hR, hw, k1, k2, k3, k4, k5⟩
  unfold wAug at hw
  split at hw
  · rename_i d hd
    obtain ⟨v, h1, h2⟩ := hR.frz i d hd
    refine ⟨v, h1, S, F, _, hR, hw, fun e S1 v1 F1 H1 hw1 r1 hR1 x1 => ?_⟩
    exact ⟨F1, d, e, _, hR1.g.ext, h2.mono x1, r1, hw1, fun z v F' H' hz rz al => k1 _ _ F' H' hz ((hR1.al al).set rz) (x1.trans al.xF)⟩
  · exact hw.elim
theorem pget_list : PGet X (rIxL X.K) := fun pins s σ H o i ov iv Q I ro ri h => by
  obtain ⟨p, xs, j, v, rfl, rfl, hq, he, q⟩ := h
  cases ro
  obtain ⟨t, rfl⟩ := ri
  obtain ⟨its, r, pl, hz⟩ := I.list hq
  obtain ⟨m, h1, h2, h3, h4, h5⟩ := atI_get he
  obtain ⟨u, eu, ru⟩ := r.get h2
  have hl := r.length
  have hn := line63
  have fin : EP X pins σ Q u s := ⟨v, H, I, ru, q⟩
  have isl : s.heap.IsList p its.toArray := by
    obtain ⟨ob, n, e1, e2, e3, e4⟩ := pl
    exact ⟨ob, e1, e2, n, e4⟩
  by_cases h0 : 0 ≤ j
  · have hj : j.toNat = m := by
      rw [seqIndex_of h0 h5] at h1
      exact Option.some.inj h1
    exact wpAny_getItem_list isl h0 (by omega) (by rw [hj]; simpa using eu) fin
  · have hj : (j + (its.toArray.size : Int)).toNat = m := by
      rw [seqIndex_neg (by omega) h4] at h1
      rw [List.size_toArray, ← hl]
      exact Option.some.inj h1
    exact wpAny_getItem_list_neg isl (by omega) (by rw [List.size_toArray] <;> omega) (by omega) (by rw [hj]; simpa using eu) fin
theorem ds_augM {op : Operator} {g : O2} {tpos : Pos} (hp : OpV X (inplaceOp op) g) (ho : DE X Tr o wo) (hi : DE X Tr i wi) (he : DE X Tr e w)
    (ha : ∀ ov iv new, augStore i ov iv new = (do holding [new, ov, iv] (setItem ov iv new); release [new, ov, iv] []; pure .next) := by intros; rfl) : DS X W (.AugAssign (.Subscript o i tpos) op e pos) (wAugM wo wi g w) := fun E => PS.imp (ps_augS (ho E trivial) (hi E trivial) pget_list (he E trivial) hp set_list ha) fun D σ H => by
  rintro ⟨S, F, R, hR, hw, k1, k2, k3, k4, k5⟩
  refine ⟨S, F, _, hR, hw, fun x S1 v1 F1 H1 hw1 r1 hR1 x1 => ?_⟩
  refine ⟨S1, F1, _, hR1, hw1, fun y S2 v2 F2 H2 hw2 r2 hR2 x2 => ?_⟩
  obtain ⟨a, ds, j, d, rfl, rfl, h1, h2, hw2⟩ := hw2
  cases r1; cases r2
  obtain ⟨vs, q, s⟩ := (hR2.g.obs _ _ h1).1
  obtain ⟨v, h3, h4⟩ := s.at h2
  refine ⟨a, vs, j, v, rfl, rfl, .of q, h3, ?_⟩
  refine ⟨S2, F2, _, hR2, hw2, fun e S3 v3 F3 H3 hw3 r3 hR3 x3 => ?_⟩
  refine ⟨F3, d, e, _, hR3.g.ext, h4.mono x3, r3, hw3, fun z v F' H' hz rz al => ?_⟩
  obtain ⟨ds', k, g1, g2, g3⟩ := hz
  have hR4 := hR3.al al
  obtain ⟨us, q', s'⟩ := (hR4.g.obs _ _ g1).1
  refine ⟨a, us, j, k, rfl, rfl, q', by rw [s'.length]; exact g2, ?_⟩
  exact k1 _ _ F' _ g3 (hR4.obput (by rw [g1]; simp) ⟨_, upd_same, s'.set k rz⟩) (((x1.trans x2).trans x3).trans al.xF)
theorem ds_augO {op : Operator} {g : O2} {x : Str} {px tpos : Pos} (l : Nat) (hx : PE X (.Name x px) (tVar l)) (hp : OpV X (inplaceOp op) g) (hi : DE X Tr i wi) (he : DE X Tr e w)
    (ha : ∀ ov iv new, augStore i ov iv new = (do holding [new, ov, iv] (setItem ov iv new); release [new, ov, iv] []; pure .next) := by intros; rfl) : DS X W (.AugAssign (.Subscript (.Name x px) i tpos) op e pos) (wAugO l wi g w) := fun E => PS.imp (ps_augS hx (hi E trivial) pget_list (he E trivial) hp set_list ha) fun D σ H => by
  rintro ⟨S, F, R, hR, ⟨⟨e0, he0⟩, hw⟩, k1, k2, k3, k4, k5⟩
  obtain ⟨p, h0, _⟩ := hR.own l e0 he0
  refine ⟨_, h0, ?_⟩
  refine ⟨S, F, _, hR, hw, fun y S2 v2 F2 H2 hw2 r2 hR2 x2 => ?_⟩
  obtain ⟨ds, j, d, h1, rfl, h2, hw2⟩ := hw2
  cases r2
  obtain ⟨p', h0', ⟨vs, q, s⟩, _⟩ := hR2.own l _ h1
  rw [h0] at h0'
  cases h0'
  obtain ⟨v, h3, h4⟩ := s.at h2
  refine ⟨p, vs, j, v, rfl, rfl, .of q, h3, ?_⟩
  refine ⟨S2, F2, _, hR2, hw2, fun e S3 v3 F3 H3 hw3 r3 hR3 x3 => ?_⟩
  refine ⟨F3, d, e, _, hR3.g.ext, h4.mono x3, r3, hw3, fun z v F' H' hz rz al => ?_⟩
  obtain ⟨ds', k, g1, g2, g3⟩ := hz
  have hR4 := hR3.al al
  obtain ⟨p', h0', ⟨us, q', s'⟩, _⟩ := hR4.own l _ g1
  rw [h0] at h0'
  cases h0'
  refine ⟨p, us, j, k, rfl, rfl, q', by rw [s'.length]; exact g2, ?_⟩
  exact k1 _ _ F' _ g3 (hR4.mut g1 h0 ⟨_, upd_same, s'.set k rz⟩) ((x2.trans x3).trans al.xF)
/-- x.append(e) as a statement -/
theorem ds_app {x : Str} {px apos cpos : Pos} (l : Nat) (hx : PE X (.Name x px) (tVar l)) (he : DE X Tr e w)
    (h : ∀ to t, PE X (.Name x px) to → PE X e t → PE X (.Call (.Attribute (.Name x px) "append" apos) [e] [] cpos) (tBM X.K "list" rAppend to (tCons t tNil)))
    (hs : swapsWith (.Call (.Attribute (.Name x px) "append" apos) [e] [] cpos) none pos.line X.env = pure false := by rfl) : DS X W (.Expr (.Call (.Attribute (.Name x px) "append" apos) [e] [] cpos) pos) (wApp l w) := fun E => PS.imp (ps_expr (h _ _ hx (he E trivial)) hs) fun D σ H => by
  rintro ⟨S, F, R, hR, ⟨⟨ds0, he0⟩, hw⟩, k1, k2, k3, k4, k5⟩
  obtain ⟨p, h0, ⟨vs0, q0, _⟩, _⟩ := hR.own l _ he0
  refine ⟨_, h0, .inl ⟨rfl, _, .of q0⟩, ?_⟩
  refine ⟨S, F, _, hR, hw, fun d S1 v F1 H1 hw1 r1 hR1 x1 => ?_⟩
  obtain ⟨ds, g1, g2, g3⟩ := hw1
  obtain ⟨p', h0', ⟨vs, q, s⟩, _⟩ := hR1.own l _ g1
  rw [h0] at h0'
  cases h0'
  refine ⟨p, vs, v, rfl, rfl, q, by rw [s.length]; exact g2, ?_⟩
  exact k1 _ _ F1 _ g3 (hR1.mut g1 h0 ⟨_, upd_same, s.append (.one r1)⟩) x1
/-! ### loops -/
theorem ds_for {tg iter : Expr} (hp : PassesOwn (model X.prog X.w) X.A X.env X.xe) (hc : X.calm = true) (hi : DI X Tr tg iter ws) (hg : DG X Tr tg g) (hb : DSs X W body tb)
    (hs : ∀ x, foldedSetIterable iter X.env x = pure x := by intro _; rfl) : DS X W (.For tg iter body [] pos) (wFor ws g tb) := fun E => PS.imp (ps_for hp hc (hi E trivial) (hg E trivial) (hb E) hs) fun D σ H => by
  rintro ⟨S, F, R, hR, hw, k1, k2, k3, k4, k5⟩
  refine ⟨S, F, _, hR, hw, fun ds S1 J F1 H1 hw1 fd hR1 x1 => ?_⟩
  refine ⟨fun i m σ H => m + i = ds.length ∧ ∃ F2 S2, Rel X.K E F2 H σ S2 ∧ Ext F1 F2 ∧ wForL g tb R (ds.drop i) S2, ⟨ds.length, rfl, F1, S1, hR1, .refl _, hw1⟩, fun i m σ2 H2 hW => ?_⟩
  obtain ⟨hm, F2, S2, hR2, x2, hw2⟩ := hW
  obtain ⟨go, stop⟩ := fd F2 H2 x2 hR2.g.ext
  by_cases hi : i < ds.length
  · have hd : ds[i]? = some ds[i] := List.getElem?_eq_getElem hi
    obtain ⟨h1, h2⟩ := go i _ hd
    rw [List.drop_eq_getElem_cons hi] at hw2
    refine .inr ⟨h1, fun σ' H' => ∃ F3 S3, Rel X.K E F3 H' σ' S3 ∧ Ext F1 F3 ∧ wForL g tb R (ds.drop (i + 1)) S3, fun σ' H' hN => ⟨m - 1, by omega, by omega, hN⟩, fun x H3 hy => ?_⟩
    obtain ⟨F3, al, rx⟩ := h2 x H3 hy
    refine ⟨S2, F3, _, _, hR2.al al, rx, hw2, fun S4 σ4 F4 H4 hw4 hR4 x4 => ?_⟩
    have x14 : Ext F1 F4 := (x2.trans al.xF).trans x4
    refine ⟨S4, F4, _, hR4, hw4, fun S' σ' F' H' q r x => ⟨F', S', r, x14.trans x, q⟩, fun S' σ' F' H' q r x => k1 S' σ' F' H' q r ((x1.trans x14).trans x), fun S' σ' F' H' q r x => ⟨F', S', r, x14.trans x, q⟩, fun d S' v σ' F' H' q r r' x => k4 d S' v σ' F' H' q r r' ((x1.trans x14).trans x), k5⟩
  · refine .inl ⟨stop i (by omega), ?_⟩
    rw [List.drop_eq_nil_of_le (by omega)] at hw2
    exact k1 S2 σ2 F2 H2 hw2 hR2 (x1.trans x2)
theorem ds_while (hp : PassesOwn (model X.prog X.w) X.A X.env X.xe) (hc : DT X Tr c wt) (hb : DSs X W body tb) : DS X W (.While c body [] pos) (wWhile wt tb) := fun E => PS.imp (ps_while hp (hc E trivial) (hb E)) fun D σ H => by
  rintro ⟨S, F, R, hR, ⟨n, hw⟩, k1, k2, k3, k4, k5⟩
  refine ⟨fun m σ H => ∃ F2 S2, Rel X.K E F2 H σ S2 ∧ Ext F F2 ∧ wWhN wt tb R m S2, ⟨n, F, S, hR, .refl _, hw⟩, fun m σ2 H2 hW => ?_⟩
  obtain ⟨F2, S2, hR2, x2, hw2⟩ := hW
  cases m with
  | zero => exact (whn_no hw2).elim
  | succ m =>
    refine ⟨S2, F2, _, hR2, whn_out hw2, fun b S3 F3 H3 hw3 hR3 x3 => ?_⟩
    cases b with
    | true =>
      refine ⟨fun σ' H' => ∃ F4 S4, Rel X.K E F4 H' σ' S4 ∧ Ext F F4 ∧ wWhN wt tb R m S4, fun σ' H' hN => ⟨m, Nat.lt_succ_self m, hN⟩, ?_⟩
      have x13 : Ext F F3 := x2.trans x3
      exact ⟨S3, F3, _, hR3, br_t hw3, fun S' σ' F' H' q r x => ⟨F', S', r, x13.trans x, q⟩, fun S' σ' F' H' q r x => k1 S' σ' F' H' q r (x13.trans x), fun S' σ' F' H' q r x => ⟨F', S', r, x13.trans x, q⟩, fun d S' v σ' F' H' q r r' x => k4 d S' v σ' F' H' q r r' (x13.trans x), k5⟩
    | false => exact k1 S3 σ2 F3 H3 (br_f hw3) hR3 (x2.trans x3)
end

end VL

set_option Elab.async false
set_option linter.all false
set_option maxRecDepth 100000
set_option maxHeartbeats 4000000
/-! VL6: comprehensions, calls of defs, defs. -/
namespace VL
open PySem PySem.Spec L2
/-! ### comprehensions -/
def wipeS (s : List Sl) : List Nat → List Sl
  | [] => s
  | v :: vs => (wipeS s vs).set v .u
def noOwn (s : List Sl) (vs : List Nat) : Bool := vs.all fun v => match s[v]? with
  | some (.o _) => false
  | _ => true
def wYes : WT := fun S R => R true S
def wLcL (g : WG) (tt : WT) (te : WE) (vs : List Nat) (s0 : List Sl) (R : List D → Oh → Prop) : List D → Oh → List D → Prop
  | [], h, acc => R acc h
  | x :: xs, h, acc => g x ⟨wipeS s0 vs, h⟩ fun S1 => tt S1 fun b S2 => Br b
      (te S2 fun d S3 => wipeS S3.s vs = wipeS s0 vs ∧ wLcL g tt te vs s0 R xs S3.h (acc ++ [d])) (wipeS S2.s vs = wipeS s0 vs ∧ wLcL g tt te vs s0 R xs S2.h acc)
def wLc (wi : WA) (g : WG) (tt : WT) (te : WE) (vs : List Nat) : WE := fun S R => wi S fun ds S1 => noOwn S1.s vs = true ∧ ds.length ≤ 1000000 ∧ wLcL g tt te vs S1.s (fun acc h => R (.lst acc) ⟨S1.s, h⟩) ds S1.h []
theorem wipe_get {σ : L2.St} {vs : List Nat} {i : Nat} (h : i ∉ vs) : (wipe σ vs)[i]? = σ[i]? := by
  induction vs with
  | nil => rfl
  | cons v vs ih =>
    have h1 : v ≠ i := fun z => h (by rw [z]; exact List.mem_cons_self)
    show ((wipe σ vs).set v none)[i]? = _
    rw [List.getElem?_set_ne h1]
    exact ih fun z => h (List.mem_cons_of_mem _ z)
theorem wipeS_get {s : List Sl} {vs : List Nat} {i : Nat} (h : i ∉ vs) : (wipeS s vs)[i]? = s[i]? := by
  induction vs with
  | nil => rfl
  | cons v vs ih =>
    have h1 : v ≠ i := fun z => h (by rw [z]; exact List.mem_cons_self)
    show ((wipeS s vs).set v .u)[i]? = _
    rw [List.getElem?_set_ne h1]
    exact ih fun z => h (List.mem_cons_of_mem _ z)
theorem wipeS_len (s : List Sl) : ∀ vs, (wipeS s vs).length = s.length
  | [] => rfl
  | v :: vs => by
    show ((wipeS s vs).set v .u).length = _
    rw [List.length_set, wipeS_len s vs]
theorem wipeS_in {s : List Sl} {vs : List Nat} {i : Nat} {x : Sl} (h : i ∈ vs) (e : (wipeS s vs)[i]? = some x) : x = .u := by
  induction vs with
  | nil => cases h
  | cons v vs ih =>
    have e' : ((wipeS s vs).set v .u)[i]? = some x := e
    rcases set_get e' with ⟨_, q, _⟩ | ⟨n, q⟩
    · exact q.symm
    · rcases List.mem_cons.mp h with z | z
      · exact absurd z n
      · exact ih z q
theorem wipe_in {σ : L2.St} {vs : List Nat} {i : Nat} {x : V} (h : i ∈ vs) : (wipe σ vs)[i]? ≠ some (some x) := fun e => (wipe_some e).2 h
theorem wipe_set {σ : L2.St} {vs : List Nat} {i : Nat} {x : Option V} (h : i ∈ vs) : wipe (σ.set i x) vs = wipe σ vs := by
  induction vs with
  | nil => cases h
  | cons v vs ih =>
    show (wipe (σ.set i x) vs).set v none = (wipe σ vs).set v none
    by_cases e : i = v
    · subst e
      by_cases hi : i ∈ vs
      · rw [ih hi]
      · apply List.ext_getElem?
        intro j
        by_cases hj : j = i
        · subst hj
          by_cases hl : j < σ.length
          · rw [List.getElem?_set_self (by rw [wipe_length, List.length_set]; exact hl), List.getElem?_set_self (by rw [wipe_length]; exact hl)]
          · rw [List.getElem?_eq_none (by rw [List.length_set, wipe_length, List.length_set]; omega), List.getElem?_eq_none (by rw [List.length_set, wipe_length]; omega)]
        · rw [List.getElem?_set_ne (Ne.symm hj), List.getElem?_set_ne (Ne.symm hj)]
          by_cases hv : j ∈ vs
          · have key : ∀ (τ : L2.St) (vs : List Nat), j ∈ vs → (wipe τ vs)[j]? = if j < τ.length then some none else none := by
              intro τ vs
              induction vs with
              | nil => intro h; cases h
              | cons u us ihu =>
                intro h
                show ((wipe τ us).set u none)[j]? = _
                by_cases hju : j = u
                · subst hju
                  by_cases hl : j < τ.length
                  · rw [List.getElem?_set_self (by rw [wipe_length]; exact hl), if_pos hl]
                  · rw [List.getElem?_eq_none (by rw [List.length_set, wipe_length]; omega), if_neg hl]
                · rw [List.getElem?_set_ne (Ne.symm hju)]
                  exact ihu ((List.mem_cons.mp h).resolve_left hju)
            rw [key _ _ hv, key _ _ hv, List.length_set]
          · rw [wipe_get hv, wipe_get hv, List.getElem?_set_ne (Ne.symm hj)]
    · rw [ih ((List.mem_cons.mp h).resolve_left e)]
theorem wipe_wipe {σ : L2.St} : ∀ {vs us : List Nat}, (∀ v ∈ vs, v ∈ us) → wipe (wipe σ vs) us = wipe σ us
  | [], _, _ => rfl
  | v :: vs, us, h => by
    show wipe ((wipe σ vs).set v none) us = _
    rw [wipe_set (h v List.mem_cons_self)]
    exact wipe_wipe fun x hx => h x (List.mem_cons_of_mem _ hx)
section
variable {X : Cx} {Φ : En → Prop} {K : PySem.W.Frag} {E : En} {F F' F2 H H' H2 : Hp} {σ σ' : L2.St} {S : Sg} {p : Addr} {o : HO} {d : D} {v : V} {i : Nat} {vs : List Nat}
/-- within a block: its own names are unset -/
theorem Rel.wipe (R : Rel K E F H σ S) (vs : List Nat) : Rel K E F H (wipe σ vs) ⟨wipeS S.s vs, S.h⟩ := by
  have at_ : ∀ (i : Nat) (x : Sl), x ≠ .u → (wipeS S.s vs)[i]? = some x → S.s[i]? = some x ∧ i ∉ vs := fun i x nu h => by
    by_cases hi : i ∈ vs
    · exact absurd (wipeS_in hi h) nu
    · rw [wipeS_get hi] at h
      exact ⟨h, hi⟩
  refine ⟨R.g, by show (wipeS S.s vs).length = _; rw [wipeS_len, wipe_length]; exact R.len, fun i d h => ?_, fun i d h => ?_, fun i j d e p h1 h2 h3 h4 => ?_⟩
  · obtain ⟨h, hi⟩ := at_ i (.f d) (fun z => nomatch z) h
    rw [wipe_get hi]
    exact R.frz i d h
  · obtain ⟨h, hi⟩ := at_ i (.o d) (fun z => nomatch z) h
    rw [wipe_get hi]
    exact R.own i d h
  · obtain ⟨h1, i1⟩ := at_ i (.o d) (fun z => nomatch z) h1
    obtain ⟨h2, i2⟩ := at_ j (.o e) (fun z => nomatch z) h2
    rw [wipe_get i1] at h3
    rw [wipe_get i2] at h4
    exact R.inj i j d e p h1 h2 h3 h4
/-- behind a block's turn -/
theorem Rel.back {S3 : Sg} (R : Rel K E F H σ S) (ho : noOwn S.s vs = true) (hs : wipeS S3.s vs = wipeS S.s vs) (hσ : L2.wipe σ' vs = L2.wipe σ vs)
    (xF : Ext F F') (R3 : Rel K ⟨F2, H2, S.h, owns (L2.wipe σ vs) ⟨wipeS S.s vs, S.h⟩⟩ F' H' σ' S3) (gr : Gr K E F2 H2 S.h) : Rel K E F' H' σ ⟨S.s, S3.h⟩ := by
  have eqs : ∀ i, i ∉ vs → S3.s[i]? = S.s[i]? := fun i hi => by
    have := congrArg (fun l : List Sl => l[i]?) hs
    simp only [wipeS_get hi] at this
    exact this
  have eqσ : ∀ i, i ∉ vs → σ'[i]? = σ[i]? := fun i hi => by
    have := congrArg (fun l : L2.St => l[i]?) hσ
    simp only [wipe_get hi] at this
    exact this
  have now : ∀ (i : Nat) (d : D), S.s[i]? = some (.o d) → i ∉ vs := fun i d h hi => by
    have := List.all_eq_true.mp ho i hi
    rw [h] at this
    cases this
  refine ⟨Gr.then gr (fun p hp => ?_) R3.g, R.len, fun i d h => ?_, fun i d h => ?_, R.inj⟩
  · obtain ⟨j, e, h1, h2⟩ := hp
    have hj : j ∉ vs := fun z => by
      have := wipeS_in z h1
      cases this
    have h1' : S.s[j]? = some (.o e) := by rw [← wipeS_get hj]; exact h1
    have h2' : σ[j]? = some (some (.ref p)) := by rw [← wipe_get hj]; exact h2
    exact R.ownE ⟨j, e, h1', h2'⟩
  · by_cases hi : i ∈ vs
    · obtain ⟨v, h1, h2⟩ := R.frz i d h
      exact ⟨v, h1, h2.mono xF⟩
    · obtain ⟨v, h1, h2⟩ := R3.frz i d (by rw [eqs i hi]; exact h)
      rw [eqσ i hi] at h1
      exact ⟨v, h1, h2⟩
  · have hi := now i d h
    obtain ⟨q, h1, h2, h3, h4, _⟩ := R3.own i d (by rw [eqs i hi]; exact h)
    rw [eqσ i hi] at h1
    exact ⟨q, h1, h2, h3, h4, R.ownE ⟨i, d, h, h1⟩⟩
/-- a fresh container changes -/
theorem Rel.mutN {e : D} (R : Rel K E F H σ S) (f : Fresh K E F H σ S p d) (ha : OwAt K F (upd H p o) p e) : Rel K E F (upd H p o) σ S ∧ Fresh K E F (upd H p o) σ S p e := by
  have ne : ∀ b, F b ≠ none → b ≠ p := fun b hb z => hb (z ▸ f.nF)
  refine ⟨⟨⟨fun b u q => ?_, R.g.gF, fun b q1 q2 q3 => TupO.upd (R.g.gN b q1 q2 q3) f.nF, fun b u q1 q2 q3 => ?_, fun b q => ?_, R.g.gO, fun a ob q => ?_⟩, R.len, R.frz, fun j e' h => ?_, R.inj⟩, ⟨ha, f.nF, f.nh, f.nE, f.no⟩⟩
  · rw [upd_ne (ne b (by rw [q]; simp))]; exact R.g.ext _ _ q
  · have : b ≠ p := fun z => by rw [z, f.nE] at q1; cases q1
    rw [upd_ne this]; exact R.g.gH b u q1 q2 q3
  · by_cases hb : b = p
    · subst hb; rw [upd_same]; simp
    · rw [upd_ne hb]; exact R.g.gP b q
  · obtain ⟨q1, q2⟩ := R.g.obs a ob q
    have na : a ≠ p := fun z => by rw [z, f.nh] at q; cases q
    exact ⟨q1.mono (.refl _) (upd_ne na), q2⟩
  · obtain ⟨u, q1, q2, q3, q4, q5⟩ := R.own j e' h
    have nu : u ≠ p := fun z => f.no j e' h (z ▸ q1)
    exact ⟨u, q1, q2.mono (.refl _) (upd_ne nu), q3, q4, q5⟩
/-- a target of plain names of a block -/
def TgN (K : PySem.W.Frag) (gt : TG) (g : WG) (vs : List Nat) : Prop := ∀ (E : En) (v : V) (σ : L2.St) (S : Sg) (F H : Hp) (d : D) (R : Sg → Prop) (Q : L2.St → Hp → Prop), Rel K E F H σ S → Rep K F v d → g d S R →
  (∀ σ' S', Rel K E F H σ' S' → L2.wipe σ' vs = L2.wipe σ vs → R S' → Q σ' H) → gt v σ H Q
theorem tg_one (hi : i ∈ vs) : TgN K (L2.gName i) (gVar i) vs := fun E v σ S F H d R Q hR r hg k => k _ _ (hR.set r) (wipe_set hi) hg
def namesG : List Nat → TGs
  | [] => gNil
  | i :: is => gCons (L2.gName i) (namesG is)
def namesW : List Nat → WGs
  | [] => gsNil
  | i :: is => gsCons (gVar i) (namesW is)
theorem tg_names : ∀ (is : List Nat), (∀ i ∈ is, i ∈ vs) → ∀ (E : En) (us : List V) (σ : L2.St) (S : Sg) (F H : Hp) (ds : List D) (R : Sg → Prop) (Q : L2.St → Hp → Prop), Rel K E F H σ S → Reps K F us ds → namesW is ds S R →
    (∀ σ' S', Rel K E F H σ' S' → L2.wipe σ' vs = L2.wipe σ vs → R S' → Q σ' H) → namesG is us σ H Q
  | [], _, E, us, σ, S, F, H, ds, R, Q, hR, r, hg, k => by
    cases r with
    | nil => exact ⟨rfl, k σ S hR rfl hg⟩
    | cons => exact hg.elim
  | i :: is, hi, E, us, σ, S, F, H, ds, R, Q, hR, r, hg, k => by
    cases r with
    | nil => exact hg.elim
    | cons r1 r2 =>
      refine ⟨_, _, rfl, ?_⟩
      exact tg_names is (fun j hj => hi j (List.mem_cons_of_mem _ hj)) E _ _ _ F H _ R Q (hR.set r1) r2 hg fun σ' S' hR' hw hr => k σ' S' hR' (hw.trans (wipe_set (hi i List.mem_cons_self))) hr
theorem tg_tup {n : Nat} (is : List Nat) (hi : ∀ i ∈ is, i ∈ vs) : TgN K (gTup K n (namesG is)) (gTp n (namesW is)) vs := fun E v σ S F H d R Q hR r hg k => by
  cases r with
  | tup q s => exact ⟨_, _, rfl, hR.g.ext.sqT q, s.length.trans hg.1, tg_names is hi E _ σ S F H _ R Q hR s hg.2 k⟩
  | _ => exact hg.elim
def LTx (K : PySem.W.Frag) (w : WT) : TT := fun σ H Q => ∃ E, LT K E w σ H Q
def LEx (K : PySem.W.Frag) (w : WE) : TE := fun σ H Q => ∃ E, LE K E w σ H Q
theorem pt_x {a : Expr} {w : WT} (h : DT X Tr a w) : PT X a (LTx X.K w) := ⟨fun pins s σ H Q I q => let ⟨E, q⟩ := q; (h E trivial).run pins s σ H Q I q⟩
theorem pe_x {a : Expr} {w : WE} (h : DE X Tr a w) : PE X a (LEx X.K w) := ⟨fun pins s σ H Q I q => let ⟨E, q⟩ := q; (h E trivial).run pins s σ H Q I q⟩
theorem pts_x0 : PTs X [] (LTx X.K wYes) := ⟨fun pins s σ H Q I q => by
  obtain ⟨E, S, F, R, hR, hw, k⟩ := q
  exact pts_nil.run pins s σ H Q I (k true S F H hw hR (.refl _))⟩
theorem pts_x1 {a : Expr} {w : WT} (h : DT X Tr a w) : PTs X [a] (LTx X.K w) := pts_one (pt_x h)
theorem lc_read {wi : WA} {gt : TG} {g : WG} {tt : WT} {te : WE} {Q : VK} (ht : TgN K gt g vs) (hq : LN K E (wLc wi g tt te vs) σ H Q) : tLc (LI K E wi) gt (LTx K tt) (LEx K te) vs σ H Q := by
  obtain ⟨S, F, R, hR, hw, k⟩ := hq
  refine ⟨S, F, _, hR, hw, fun ds S1 J F1 H1 hw1 fd hR1 x1 D0 hD => ?_⟩
  obtain ⟨no, hl, hw1⟩ := hw1
  obtain ⟨f0, hR1'⟩ := fresh_of hR1 hD (K := K) (E := E) (F := F1) (vs := []) (ds := []) .nil
  refine ⟨fun i m H => m + i = ds.length ∧ ∃ F2 h2 acc, Rel K E F2 H σ ⟨S1.s, h2⟩ ∧ Ext F1 F2 ∧ Fresh K E F2 H σ ⟨S1.s, h2⟩ D0 (.lst acc) ∧ acc.length ≤ i ∧ wLcL g tt te vs S1.s (fun acc h => R (.lst acc) ⟨S1.s, h⟩) (ds.drop i) h2 acc,
    ⟨ds.length, rfl, F1, S1.h, [], hR1', .refl _, f0, Nat.le_refl _, hw1⟩, fun i m H2 hW => ?_⟩
  obtain ⟨hm, F2, h2, acc, hR2, x2, f2, la, hw2⟩ := hW
  obtain ⟨go, stop⟩ := fd F2 H2 x2 hR2.g.ext
  by_cases hi : i < ds.length
  · have hd : ds[i]? = some ds[i] := List.getElem?_eq_getElem hi
    obtain ⟨g1, g2⟩ := go i _ hd
    rw [List.drop_eq_getElem_cons hi] at hw2
    refine .inr ⟨g1, fun H' => ∃ F3 h3 acc', Rel K E F3 H' σ ⟨S1.s, h3⟩ ∧ Ext F1 F3 ∧ Fresh K E F3 H' σ ⟨S1.s, h3⟩ D0 (.lst acc') ∧ acc'.length ≤ i + 1 ∧ wLcL g tt te vs S1.s (fun acc h => R (.lst acc) ⟨S1.s, h⟩) (ds.drop (i + 1)) h3 acc', fun H' hN => ⟨m - 1, by omega, by omega, hN⟩, fun x H3 hy => ?_⟩
    obtain ⟨F3, al, rx⟩ := g2 x H3 hy
    have hR3 := hR2.al al
    have hRw := (hR3.wipe vs).enter
    refine ht _ x (L2.wipe σ vs) _ F3 H3 _ _ _ hRw rx hw2 fun σ4 S4 hR4 hσ4 hw4 => ?_
    have hσ4' : L2.wipe σ4 vs = L2.wipe σ vs := hσ4.trans (wipe_wipe fun _ h => h)
    refine ⟨hσ4', _, S4, F3, _, hR4, hw4, fun b S5 F5 H5 hw5 hR5 x5 => ?_⟩
    have nown : ¬ owns (L2.wipe σ vs) ⟨wipeS S1.s vs, h2⟩ D0 := fun ⟨j, e, q1, q2⟩ => by
      have hj : j ∉ vs := fun z => by cases wipeS_in z q1
      have q1' : (wipeS S1.s vs)[j]? = some (.o e) := q1
      rw [wipeS_get hj] at q1'
      rw [wipe_get hj] at q2
      exact f2.no j e q1' q2
    have hD3 : ∃ u, H3 D0 = some u := Option.ne_none_iff_exists'.mp (by rw [al.xH.ne f2.at_.there]; exact f2.at_.there)
    obtain ⟨u, hu⟩ := hD3
    have fin : ∀ F6 H6 S6, Rel K ⟨F3, H3, h2, owns (L2.wipe σ vs) ⟨wipeS S1.s vs, h2⟩⟩ F6 H6 σ4 S6 → Ext F3 F6 → wipeS S6.s vs = wipeS S1.s vs → Rel K E F6 H6 σ ⟨S1.s, S6.h⟩ ∧ Fresh K E F6 H6 σ ⟨S1.s, S6.h⟩ D0 (.lst acc) := fun F6 H6 S6 hR6 x6 hs6 => by
      have hR7 := hR3.back (S3 := S6) no hs6 hσ4' x6 hR6 hR3.g
      have e6 : H6 D0 = some u := hR6.g.gH D0 u hu f2.nh nown
      have n3 : F3 D0 = none := (al.new D0 f2.nF f2.at_.there).elim id fun z => (TupO.ow f2.at_ z).elim
      have n6 : F6 D0 = none := (hR6.g.gN D0 n3 (by show H3 D0 ≠ none; rw [hu]; simp) nown).elim id fun z => (TupO.ow f2.at_ (by rw [e6, ← hu, al.xH.ne f2.at_.there] at z; exact z)).elim
      have h6 : S6.h D0 = none := by
        cases q : S6.h D0 with
        | none => rfl
        | some y =>
          rcases hR6.g.gO D0 (by rw [q]; simp) with z | z | z
          · exact absurd f2.nh z
          · have z' : H3 D0 = none := z
            rw [hu] at z'; cases z'
          · exact absurd z nown
      exact ⟨hR7, f2.at_.mono (al.xF.trans x6) (by rw [e6, ← hu]; exact al.xH.ne f2.at_.there), n6, h6, f2.nE, f2.no⟩
    cases b with
    | true =>
      refine L2.iteT ?_
      refine ⟨_, S5, F5, _, hR5, br_t hw5, fun d S6 y F6 H6 hw6 r6 hR6 x6 => ?_⟩
      obtain ⟨hs6, hw6⟩ := hw6
      obtain ⟨hR7, f7⟩ := fin F6 H6 S6 hR6 (x5.trans x6) hs6
      obtain ⟨avs, ea, ra⟩ := f7.at_
      refine ⟨avs, ea, ?_, ?_⟩
      · have := ra.length
        have hz : (1000000 : Nat) < sizeLine := by decide
        omega
      · obtain ⟨hR8, f8⟩ := hR7.mutN (o := .lst (avs ++ [y])) (e := .lst (acc ++ [d])) f7 ⟨_, upd_same, ra.append (.one r6)⟩
        exact ⟨F6, S6.h, _, hR8, ((x2.trans al.xF).trans x5).trans x6, f8, by rw [List.length_append]; exact Nat.succ_le_succ la, hw6⟩
    | false =>
      refine L2.iteF ?_
      obtain ⟨hs6, hw6⟩ := br_f hw5
      obtain ⟨hR7, f7⟩ := fin F5 H5 S5 hR5 x5 hs6
      exact ⟨F5, S5.h, acc, hR7, (x2.trans al.xF).trans x5, f7, Nat.le_succ_of_le la, hw6⟩
  · refine .inl ⟨stop i (by omega), ?_⟩
    rw [List.drop_eq_nil_of_le (by omega)] at hw2
    exact k _ _ D0 F2 H2 hw2 f2 hR2 (x1.trans x2)
theorem dn_lc {gt : TG} {elt tg iter : Expr} {ifs : List Expr} {scope : Scope} {own : List (Str × Nat)} {pos : Pos} {wi : WA} {g : WG} {tt : WT} {te : WE} (hc : X.calm = true) (hN : X.N.Nodup) (hi : DI X Φ tg iter wi) (ok : BlkOk X.N X.env.scope scope own)
    (hT : TgN X.K gt g (own.map (·.2)))
    (hg : ∀ (s : Shared) (H : Hp) (C : Addr) (cl : List (Str × Addr)) (fp : List Addr), PG (X.blk s H scope (compEnvC scope cl C X.env) fp) tg gt) (ht : ∀ (s : Shared) (H : Hp) (C : Addr) (cl : List (Str × Addr)) (fp : List Addr), PTs (X.blk s H scope (compEnvC scope cl C X.env) fp) ifs (LTx X.K tt))
    (he : ∀ (s : Shared) (H : Hp) (C : Addr) (cl : List (Str × Addr)) (fp : List Addr), DE (X.blk s H scope (compEnvC scope cl C X.env) fp) Tr elt te) (hs : ∀ x, foldedSetIterable iter X.env x = pure x := by intro _; rfl) :
    DN X Φ (.ListComp elt [⟨tg, iter, ifs, 0⟩] scope pos) (wLc wi g tt te (own.map (·.2))) := fun E hE => PE.imp (pe_lc hc hN (hi E hE) ok hg ht (fun s H C cl fp => pe_x (he s H C cl fp)) hs) fun σ H Q => lc_read hT
/-- y = [..] on one line, y a local -/
theorem ds_setLc {gt : TG} {i : Nat} {y : Str} {py : Pos} {elt tg iter : Expr} {ifs : List Expr} {scope : Scope} {own : List (Str × Nat)} {pos spos : Pos} {wi : WA} {g : WG} {tt : WT} {te : WE} (hc : X.calm = true) (hN : X.N.Nodup) (hy : X.N[i]? = some y) (hyl : X.env.scope.names.lookup y = some .local)
    (hsw : swapsWith (.ListComp elt [⟨tg, iter, ifs, 0⟩] scope pos) (some (.Name y py)) spos.line X.env = pure true) (hi : DI X Tr tg iter wi) (ok : BlkOk X.N X.env.scope scope own)
    (hT : TgN X.K gt g (own.map (·.2)))
    (hg : ∀ (s : Shared) (H : Hp) (C : Addr) (cl : List (Str × Addr)) (fp : List Addr), PG (X.blk s H scope (compEnvC scope cl C X.env) fp) tg gt) (ht : ∀ (s : Shared) (H : Hp) (C : Addr) (cl : List (Str × Addr)) (fp : List Addr), PTs (X.blk s H scope (compEnvC scope cl C X.env) fp) ifs (LTx X.K tt))
    (he : ∀ (s : Shared) (H : Hp) (C : Addr) (cl : List (Str × Addr)) (fp : List Addr), DE (X.blk s H scope (compEnvC scope cl C X.env) fp) Tr elt te) (hs : ∀ x, foldedSetIterable iter X.env x = pure x := by intro _; rfl) :
    DS X W (.Assign [.Name y py] (.ListComp elt [⟨tg, iter, ifs, 0⟩] scope pos) spos) (wSetO i (wLc wi g tt te (own.map (·.2)))) := fun E => PS.imp (ps_setLc hc hN hy hyl hsw (hi E trivial) ok hg ht (fun s H C cl fp => pe_x (he s H C cl fp)) hs) fun D σ H => by
  rintro ⟨S, F, R, hR, hw, k1, k2, k3, k4, k5⟩
  refine lc_read (E := E) hT ⟨S, F, _, hR, hw, fun d S1 q F1 H1 hw1 f hR1 x1 => ?_⟩
  exact k1 _ _ F1 H1 hw1 (hR1.setO f) x1
/-- .. frozen at once -/
theorem ds_setLcF {gt : TG} {i : Nat} {y : Str} {py : Pos} {elt tg iter : Expr} {ifs : List Expr} {scope : Scope} {own : List (Str × Nat)} {pos spos : Pos} {wi : WA} {g : WG} {tt : WT} {te : WE} (hc : X.calm = true) (hN : X.N.Nodup) (hy : X.N[i]? = some y) (hyl : X.env.scope.names.lookup y = some .local)
    (hsw : swapsWith (.ListComp elt [⟨tg, iter, ifs, 0⟩] scope pos) (some (.Name y py)) spos.line X.env = pure true) (hi : DI X Tr tg iter wi) (ok : BlkOk X.N X.env.scope scope own)
    (hT : TgN X.K gt g (own.map (·.2)))
    (hg : ∀ (s : Shared) (H : Hp) (C : Addr) (cl : List (Str × Addr)) (fp : List Addr), PG (X.blk s H scope (compEnvC scope cl C X.env) fp) tg gt) (ht : ∀ (s : Shared) (H : Hp) (C : Addr) (cl : List (Str × Addr)) (fp : List Addr), PTs (X.blk s H scope (compEnvC scope cl C X.env) fp) ifs (LTx X.K tt))
    (he : ∀ (s : Shared) (H : Hp) (C : Addr) (cl : List (Str × Addr)) (fp : List Addr), DE (X.blk s H scope (compEnvC scope cl C X.env) fp) Tr elt te) (hs : ∀ x, foldedSetIterable iter X.env x = pure x := by intro _; rfl) :
    DS X W (.Assign [.Name y py] (.ListComp elt [⟨tg, iter, ifs, 0⟩] scope pos) spos) (wAsg (wLc wi g tt te (own.map (·.2))) (gVar i)) := fun E => PS.imp (ps_setLc hc hN hy hyl hsw (hi E trivial) ok hg ht (fun s H C cl fp => pe_x (he s H C cl fp)) hs) fun D σ H => by
  rintro ⟨S, F, R, hR, hw, k1, k2, k3, k4, k5⟩
  refine lc_read (E := E) hT ⟨S, F, _, hR, hw, fun d S1 q F1 H1 hw1 f hR1 x1 => ?_⟩
  obtain ⟨o, ho⟩ := Option.ne_none_iff_exists'.mp f.at_.there
  exact k1 _ _ _ H1 hw1 ((hR1.freezeN f ho).set (f.at_.rep ho f.nF)) (x1.trans (.new f.nF))
end

/-! ### defs and their calls -/
def NX : XC := fun _ _ _ => False
/-- a promise about data, as a promise about values -/
def spOf (K : PySem.W.Frag) (n : Nat) (sp : Spc) : Sp := fun vs H Q _ => ∃ F ds h R, ds.length = n ∧ Ext F H ∧ Reps K F vs ds ∧ (∀ a ob, h a = some ob → ObAt K F H a ob ∧ F a = none) ∧ sp ds h R NX ∧
  ∀ r h' v F' H', R r h' → Rep K F' v r → Gr K ⟨F, H, h, fun _ => False⟩ F' H' h' → Q v H'
def wCall (sp : Spc) (ws : WA) : WE := fun S R => ws S fun ds S1 => sp ds S1.h (fun r h' => R r ⟨S1.s, h'⟩) NX
theorem Rel.after {K : PySem.W.Frag} {E : En} {F F' H H' : Hp} {σ : L2.St} {S : Sg} {h' : Oh} (R : Rel K E F H σ S) (g : Gr K ⟨F, H, S.h, fun _ => False⟩ F' H' h') : Rel K E F' H' σ ⟨S.s, h'⟩ := by
  refine ⟨R.g.then (fun p hp => hp.elim) g, R.len, fun i d h => ?_, fun i d h => ?_, R.inj⟩
  · obtain ⟨v, h1, h2⟩ := R.frz i d h
    exact ⟨v, h1, h2.mono g.gF⟩
  · obtain ⟨p, h1, h2, h3, h4, h5⟩ := R.own i d h
    obtain ⟨u, hu⟩ := Option.ne_none_iff_exists'.mp h2.there
    have e : H' p = some u := g.gH p u hu h4 id
    refine ⟨p, h1, h2.mono g.gF (by rw [e, hu]), (g.gN p h3 h2.there id).elim id (fun z => (TupO.ow h2 (by rw [e, ← hu] at z; exact z)).elim), ?_, h5⟩
    show h' p = none
    cases q : h' p with
    | none => rfl
    | some y =>
      rcases g.gO p (by rw [q]; simp) with z | z | z
      · exact absurd h4 z
      · have z' : H p = none := z
        rw [hu] at z'; cases z'
      · exact z.elim
section
variable {X : Cx} {Φ : En → Prop} {k n : Nat} {f : Addr} {fd : FuncData} {ps : List Str} {spc : Spc} {x : Str} {p pos : Pos} {e : Expr} {es : List Expr} {ws : WA}
theorem de_call (F : FnOk X.prog X.w X.K X.mg X.base CX0 k f fd ps (spOf X.K n spc)) (hr : Room k X.A) (hg : Gl X x) (hm : X.mg x = some (.ref f)) (hk : PySem.W.keepIn X.K (.ref f) = true) (hb : Binds X.K fd ps []) (ha : DA X Φ (e :: es) n ws)
    (hdb : (x == ("__debug__" : Str)) = false := by decide) (he : starEach (e :: es) X.env = (false, eval e X.env) :: starEach es X.env := by rfl) (hpl : (backTo pos (starEach es X.env)).any (·.1) = false := by rfl) :
    DE X Φ (.Call (.Name x p) (e :: es) [] pos) (wCall spc ws) := fun E hE => PE.imp (pe_call F hr hg hm hk hb .nil pass0 (ha E hE) hdb he hpl) fun σ H Q => by
  rintro ⟨S, F, R, hR, hw, k⟩
  refine ⟨S, F, _, hR, hw, fun ds S1 vs F1 H1 hw1 l1 r1 hR1 x1 => ?_⟩
  show spOf X.K n spc (vs ++ []) H1 Q E0
  rw [List.append_nil]
  exact ⟨F1, ds, S1.h, _, l1, hR1.g.ext, r1, hR1.g.obs, hw1, fun r h' v F' H' hr rv g => k r _ v F' H' hr rv (hR1.after g) (x1.trans g.gF)⟩
theorem de_call0 (F : FnOk X.prog X.w X.K X.mg X.base CX0 k f fd ps (spOf X.K 0 spc)) (hr : Room k X.A) (hg : Gl X x) (hm : X.mg x = some (.ref f)) (hk : PySem.W.keepIn X.K (.ref f) = true) (hb : Binds X.K fd ps [])
    (hdb : (x == ("__debug__" : Str)) = false := by decide) : DE X Φ (.Call (.Name x p) [] [] pos) (wCall spc wNil) := fun E hE => PE.imp (pe_call0 F hr hg hm hk hb .nil pass0 hdb) fun σ H Q => by
  rintro ⟨S, F, R, hR, hw, k⟩
  exact ⟨F, [], S.h, _, rfl, hR.g.ext, .nil, hR.g.obs, hw, fun r h' v F' H' hr rv g => k r _ v F' H' hr rv (hR.after g) g.gF⟩
end
theorem start_get {N : List Str} {vs : List V} {i : Nat} {v : V} (h : vs[i]? = some v) : (L2.start N vs)[i]? = some (some v) := by
  unfold L2.start
  have hl : i < (vs.map some).length := by rw [List.length_map]; exact ix_lt h
  rw [List.getElem?_append_left hl, List.getElem?_map, h]
  rfl
/-- what is wanted behind a body -/
def Fi (R : D → Oh → Prop) : We := ⟨fun S => R .non S.h, fun d S => R d S.h, fun _ => False, fun _ => False, fun _ _ _ => False⟩
/-- the body w keeps the promise sp: n arguments, u other names -/
def Pk (n u : Nat) (sp : Spc) (w : WS) : Prop := ∀ ds h R, ds.length = n → sp ds h R NX → w (Fi R) ⟨ds.map .f ++ List.replicate u .u, h⟩
/-- a def keeps a promise about data, by its body -/
theorem fn_ok {P : Program} {w : World} {K : PySem.W.Frag} {mg : Str → Option Value} {base : Heap} {x qual : Str} {st : Stmt} {f : Addr} {fd : FuncData} {N ps : List Str} {k n : Nat} {ws : WS} {spc : Spc} (F : Fun K x qual st f fd) (S : FnScope N ps (defScope st)) (hn : ps.length = n)
    (hb : ∀ (cdv : Value) (A : Around) (outer : List Env) (s : Shared) (H : Hp) (E : XK), Room k (A.deeper (PyProof.Rows.envOfC qual (defScope st) s.heap.objs.size f cdv)) → DSs (cxOf CX0 P w K mg base N qual (defScope st) f cdv A outer s H E).nox (fun _ _ _ _ => False) (defBody st) ws)
    (hw : Pk n (N.length - n) spc ws) : FnOk P w K mg base CX0 (k + 1) f fd ps (spOf K n spc) := by
  refine F.ok S (fun vs H Q E h => ?_) (fun cdv A outer s H vs Q E hr h => ?_)
  · obtain ⟨F, ds, h, R, h1, _, h2, _⟩ := h
    rw [h2.length, h1, hn]
  · obtain ⟨F, ds, h, R, h1, h2, h3, h4, h5, h6⟩ := h
    refine ⟨_, hb cdv A outer s H E hr ⟨F, H, h, fun _ => False⟩, _, F, _, ?_, hw ds h R h1 h5, fun S' σ' F' H' q r x => h6 _ _ _ F' H' q .non r.g, fun _ _ _ _ q => q.elim, fun _ _ _ _ q => q.elim, fun d S' v σ' F' H' q r' r x => h6 d _ v F' H' q r' r.g, fun _ _ _ _ _ _ _ _ q => q.elim⟩
    have nof : ∀ (i : Nat) (d : D), (ds.map Sl.f ++ List.replicate (N.length - n) Sl.u)[i]? ≠ some (.o d) := fun i d e => by
      rcases Nat.lt_or_ge i (ds.map Sl.f).length with hl | hl
      · rw [List.getElem?_append_left hl, List.getElem?_map] at e
        cases q : ds[i]? with
        | none => rw [q] at e; cases e
        | some y => rw [q] at e; cases e
      · rw [List.getElem?_append_right hl] at e
        have := List.mem_of_getElem? e
        have := List.eq_of_mem_replicate this
        cases this
    refine ⟨⟨h2, .refl _, fun _ q _ _ => .inl q, fun _ _ q _ _ => q, fun _ q => q, fun _ q => .inl q, h4⟩, ?_, fun i d e => ?_, fun i d e => absurd e (nof i d), fun i j d e p q => absurd q (nof i d)⟩
    · unfold L2.start
      rw [List.length_append, List.length_append, List.length_map, List.length_map, List.length_replicate, List.length_replicate, h3.length, h1]
    · rcases Nat.lt_or_ge i (ds.map Sl.f).length with hl | hl
      · rw [List.getElem?_append_left hl, List.getElem?_map] at e
        cases q : ds[i]? with
        | none => rw [q] at e; cases e
        | some y =>
          rw [q] at e
          cases e
          obtain ⟨v, q1, q2⟩ := h3.get q
          exact ⟨v, start_get q1, q2⟩
      · rw [List.getElem?_append_right hl] at e
        have := List.eq_of_mem_replicate (List.mem_of_getElem? e)
        cases this
end VL
namespace VL
open PySem PySem.Spec L2
/-- a def of the text as the top has left it -/
structure DefAt (K : PySem.W.Frag) (mg : Str → Option Value) (x : Str) (st : Stmt) (ps : List Str) (f : Addr) (fd : FuncData) : Prop where
  fn : Fun K x x st f fd
  bd : Binds K fd ps []
  gl : mg x = some (.ref f)
/-- a constant of the text -/
def Cst (K : PySem.W.Frag) (mg : Str → Option Value) (x : Str) (d : D) : Prop := ∃ v u, mg x = some u ∧ RelV v u ∧ ∀ F, Rep K F v d
theorem Cst.de {X : Cx} {Φ : En → Prop} {x : Str} {d : D} {pos : Pos} (c : Cst X.K X.mg x d) (hg : Gl X x) (hd : (x == ("__debug__" : Str)) = false := by decide) : DE X Φ (.Name x pos) (wC d) :=
  let ⟨_, _, h1, h2, h3⟩ := c
  de_glob hg h1 h2 h3 hd
theorem law_in {K : PySem.W.Frag} {H : Hp} {a : Addr} {ns : List Int} {sp : Spc} (hS : SqL K H a (ns.map V.int)) (h : sp [.scr ns] (fun _ => none) (fun d _ => d = .bl true) NX) : spOf K 1 sp [.ref a] H (fun v _ => v = .bl true) fun _ _ _ => False :=
  ⟨H, [.scr ns], fun _ => none, fun d _ => d = .bl true, rfl, .refl _, .cons (.scr hS) .nil, (fun _ _ q => nomatch q), h, fun r h' v F' H' hr rv _ => by
    subst hr
    cases rv
    rfl⟩
theorem rv_int {i : Int} {t : Tok} : RelV (.int i) (.int i t) := ⟨_, rfl⟩
theorem rv_str {i : Str} {t : Tok} : RelV (.str i) (.str i t) := ⟨_, rfl⟩
/-! ### fresh lists by operators -/
def opRep : O2
  | .lst xs, .int k, R => -(2 ^ 63) ≤ k ∧ k < 2 ^ 63 ∧ xs.length * k.toNat ≤ sizeLine ∧ R (.lst (List.replicate k.toNat xs).flatten)
  | _, _, _ => False
def opCat : O2
  | .lst xs, .lst ys, R => xs.length + ys.length ≤ sizeLine ∧ R (.lst (xs ++ ys))
  | _, _, _ => False
def rVN2 (K : PySem.W.Frag) (g : O2) : R2 := fun x y H Q => ∃ F d e R, Ext F H ∧ Rep K F x d ∧ Rep K F y e ∧ g d e R ∧ ∀ es vs p, R (.lst es) → Reps K F vs es → H p = none → Q (.ref p) (upd H p (.lst vs))
section
variable {X : Cx} {Φ : En → Prop} {a b : Expr} {wa wb : WE} {pos : Pos}
theorem on_rep : OpR X (binaryOp .Mult) (rVN2 X.K opRep) := OpR.any fun x y H Q => by
  rintro ⟨F, d, e, R, hx, r1, r2, hg, k⟩
  cases r1 with
  | lst h1 s1 =>
    cases r2 with
    | int j =>
      have l1 := s1.length
      obtain ⟨q1, q2, q3, q4⟩ := hg
      rename_i a1 vs1 ds1
      exact ⟨_, op_rep, a1, j, vs1, rfl, rfl, hx _ _ h1, q1, q2, by rw [l1]; exact q3, fun p hp => k _ _ p q4 (s1.rep _) hp⟩
    | _ => exact hg.elim
  | _ => cases r2 <;> exact hg.elim
theorem on_cat : OpR X (binaryOp .Add) (rVN2 X.K opCat) := OpR.any fun x y H Q => by
  rintro ⟨F, d, e, R, hx, r1, r2, hg, k⟩
  cases r1 with
  | lst h1 s1 =>
    cases r2 with
    | lst h2 s2 =>
      have l1 := s1.length
      have l2 := s2.length
      have q1 := hg.1
      rename_i a1 vs1 ds1 a2 vs2 ds2
      exact ⟨_, op_cat, a1, a2, vs1, vs2, rfl, rfl, hx _ _ h1, hx _ _ h2, by omega, fun p hp => k _ _ p hg.2 (s1.append s2) hp⟩
    | _ => exact hg.elim
  | _ => cases r2 <;> exact hg.elim
theorem dn_op {op : Operator} {g : O2} (ho : OpR X (binaryOp op) (rVN2 X.K g)) (ha : DE X Φ a wa) (hb : DE X Φ b wb) : DN X Φ (.BinOp a op b pos) (wOp g wa wb) := fun E hE => PE.imp (pe_op ho (ha E hE) (hb E hE)) fun σ H Q => by
  rintro ⟨S, F, R, hR, hw, k⟩
  refine ⟨S, F, _, hR, hw, fun x S1 v1 F1 H1 hw1 r1 hR1 x1 => ?_⟩
  refine ⟨S1, F1, _, hR1, hw1, fun y S2 v2 F2 H2 hw2 r2 hR2 x2 => ?_⟩
  refine ⟨F2, x, y, _, hR2.g.ext, r1.mono x2, r2, hw2, fun es vs p hz rz hp => ?_⟩
  obtain ⟨f, hR'⟩ := fresh_of hR2 hp rz
  exact k _ S2 p F2 _ hz f hR' (x1.trans x2)
end
end VL

set_option Elab.async false
set_option linter.all false
set_option maxRecDepth 100000
/-! VL7: x in data of any depth; zip of a tuple and a str. -/
namespace VL
open PySem PySem.Spec L2

theorem Room65 {k : Nat} {A : Around} (r : Room k A) : A.units + 65 < cLine := by have := r.un; omega

def rInDT (K : PySem.W.Frag) : R2 := fun x y H Q => ∃ d ds, Dp K H x d ∧ Dp K H y (.tuple ds) ∧ SeqAt.shaped d = true ∧ SeqAt.shaped (.tuple ds) = true ∧ Q (.bl (ds.any fun z => PyData.eqv z d)) H
def rNotInDT (K : PySem.W.Frag) : R2 := fun x y H Q => ∃ d ds, Dp K H x d ∧ Dp K H y (.tuple ds) ∧ SeqAt.shaped d = true ∧ SeqAt.shaped (.tuple ds) = true ∧ Q (.bl (!ds.any fun z => PyData.eqv z d)) H
section
variable {X : Cx} {Φ : En → Prop}
theorem op_inDT (hu : X.A.units + 65 < cLine) : OpR X (compareOp .In) (rInDT X.K) := by
  intro pins s σ H x y v u Q I rx ry h
  obtain ⟨d, ds, hd, he, sd, se, q⟩ := h
  obtain ⟨as, r1⟩ := Dp.reads I d x v hd rx
  obtain ⟨bs, r2⟩ := Dp.reads I (.tuple ds) y u he ry
  exact SeqAt.in_tuple_reads r2 r1 (SeqAt.canLay_of_shaped se) (SeqAt.canLay_of_shaped sd) (PyProof.Rows.room_in_shaped sd hu) ⟨.bl _, H, I, rfl, q⟩
theorem op_notInDT (hu : X.A.units + 65 < cLine) : OpR X (compareOp .NotIn) (rNotInDT X.K) := by
  intro pins s σ H x y v u Q I rx ry h
  obtain ⟨d, ds, hd, he, sd, se, q⟩ := h
  obtain ⟨as, r1⟩ := Dp.reads I d x v hd rx
  obtain ⟨bs, r2⟩ := Dp.reads I (.tuple ds) y u he ry
  exact SeqAt.notIn_tuple_reads r2 r1 (SeqAt.canLay_of_shaped se) (SeqAt.canLay_of_shaped sd) (PyProof.Rows.room_in_shaped sd hu) ⟨.bl _, H, I, rfl, q⟩
end
def inOk (x : D) (ds : List D) : Bool := (flat x && ds.all flat) || (shD 7 x && ds.all (shD 7))
/-- x in a list or tuple, data of any depth -/
def opInD : O2
  | x, .tup ds, R => inOk x ds = true ∧ R (.bl (inD x ds))
  | x, .lst ds, R => inOk x ds = true ∧ R (.bl (inD x ds))
  | .str x, .str y, R => R (.bl (!(Builtin.Str.occurrences y x 0 y.length 1).isEmpty))
  | _, _, _ => False
def opNotInD : O2
  | x, .tup ds, R => inOk x ds = true ∧ R (.bl (!inD x ds))
  | x, .lst ds, R => inOk x ds = true ∧ R (.bl (!inD x ds))
  | .str x, .str y, R => R (.bl (!(!(Builtin.Str.occurrences y x 0 y.length 1).isEmpty)))
  | _, _, _ => False
theorem inD_pd {x : D} (h : shD 7 x = true) : ∀ {ds : List D}, ds.all (shD 7) = true → ((D.pds ds).any fun z => PyData.eqv z x.pd) = inD x ds
  | [], _ => rfl
  | d :: ds, h' => by
    rw [List.all_cons, Bool.and_eq_true] at h'
    show (PyData.eqv d.pd x.pd || (D.pds ds).any fun z => PyData.eqv z x.pd) = (eqD d x || inD x ds)
    rw [eqD_pd 7 d x h'.1 h, inD_pd h h'.2]
section
variable {X : Cx} {Φ : En → Prop}
theorem ov_inD (hu : X.A.units + 65 < cLine) : OpV X (compareOp .In) opInD := OpR.any fun x y H Q => by
  rintro ⟨F, d, e, R, hx, r1, r2, hg, k⟩
  unfold opInD at hg
  split at hg
  · obtain ⟨f, q⟩ := hg
    rcases (Bool.or_eq_true _ _).mp f with f | f
    · rw [Bool.and_eq_true] at f
      exact ⟨_, ov_in, F, _, _, R, hx, r1, r2, ⟨f.1, f.2, q⟩, k⟩
    · rw [Bool.and_eq_true] at f
      refine ⟨_, op_inDT hu, _, _, r1.dp hx f.1, r2.dp (n := 8) hx f.2, shaped_sh f.1 (by decide), shaped_sh (n := 8) (d := .tup _) f.2 (by decide), ?_⟩
      rw [inD_pd f.1 f.2]
      exact k _ _ F H q (.bl _) (.refl hx)
  · obtain ⟨f, q⟩ := hg
    rcases (Bool.or_eq_true _ _).mp f with f | f
    · rw [Bool.and_eq_true] at f
      exact ⟨_, ov_in, F, _, _, R, hx, r1, r2, ⟨f.1, f.2, q⟩, k⟩
    · rw [Bool.and_eq_true] at f
      refine ⟨_, op_inD hu, _, _, r1.dp hx f.1, r2.dp (n := 8) hx f.2, shaped_sh f.1 (by decide), shaped_sh (n := 8) (d := .lst _) f.2 (by decide), ?_⟩
      rw [inD_pd f.1 f.2]
      exact k _ _ F H q (.bl _) (.refl hx)
  · exact ⟨_, ov_in, F, _, _, R, hx, r1, r2, hg, k⟩
  · exact hg.elim
theorem ov_notInD (hu : X.A.units + 65 < cLine) : OpV X (compareOp .NotIn) opNotInD := OpR.any fun x y H Q => by
  rintro ⟨F, d, e, R, hx, r1, r2, hg, k⟩
  unfold opNotInD at hg
  split at hg
  · obtain ⟨f, q⟩ := hg
    rcases (Bool.or_eq_true _ _).mp f with f | f
    · rw [Bool.and_eq_true] at f
      exact ⟨_, ov_notIn, F, _, _, R, hx, r1, r2, ⟨f.1, f.2, q⟩, k⟩
    · rw [Bool.and_eq_true] at f
      refine ⟨_, op_notInDT hu, _, _, r1.dp hx f.1, r2.dp (n := 8) hx f.2, shaped_sh f.1 (by decide), shaped_sh (n := 8) (d := .tup _) f.2 (by decide), ?_⟩
      rw [inD_pd f.1 f.2]
      exact k _ _ F H q (.bl _) (.refl hx)
  · obtain ⟨f, q⟩ := hg
    rcases (Bool.or_eq_true _ _).mp f with f | f
    · rw [Bool.and_eq_true] at f
      exact ⟨_, ov_notIn, F, _, _, R, hx, r1, r2, ⟨f.1, f.2, q⟩, k⟩
    · rw [Bool.and_eq_true] at f
      refine ⟨_, op_notInD hu, _, _, r1.dp hx f.1, r2.dp (n := 8) hx f.2, shaped_sh f.1 (by decide), shaped_sh (n := 8) (d := .lst _) f.2 (by decide), ?_⟩
      rw [inD_pd f.1 f.2]
      exact k _ _ F H q (.bl _) (.refl hx)
  · exact ⟨_, ov_notIn, F, _, _, R, hx, r1, r2, hg, k⟩
  · exact hg.elim
end

/-! ### zip of a tuple and a str -/
def ItZts (K : PySem.W.Frag) (a : Addr) (xs : List V) (x : Str) : It :=
  ⟨fun i H => SqT K H a xs ∧ i < xs.length ∧ i < x.cps.size,
    fun i H v H' => ∃ T y c, v = .ref T ∧ H T = none ∧ H' = upd H T (.tup [y, .str ⟨#[c]⟩]) ∧ xs[i]? = some y ∧ x.cps[i]? = some c,
    fun i H => SqT K H a xs ∧ (xs.length ≤ i ∨ x.cps.size ≤ i)⟩
theorem sep_zts {z TI TO i1 i2 a : Addr} (D : ZipApart z TI TO i1 i2 a a) : ZipSep2 z TI TO i1 i2 [i1, a] [i2] where
  TIz := D.TIz
  TOz := D.TOz
  TITO := D.TITO
  TIi1 := D.TIi1
  mem1 := by simp
  zf1 := by simpa using ⟨D.i1z.symm, D.l1z.symm⟩
  Tf1 := by simpa using ⟨D.TOi1, D.l1TO.symm⟩
  TIi2 := D.TIi2
  mem2 := by simp
  zf2 := by simpa using D.i2z.symm
  Tf2 := by simpa using D.TOi2
  sep1_2 := by simpa using D.i12
  sep2_1 := by simpa using ⟨D.i12.symm, D.l1i2.symm⟩
theorem turn_zts {P : Program} {w : World} {K : PySem.W.Frag} {elts : List Expr} {kk : Nat} {tpos : Pos} {a z TI TO i1 i2 : Addr} {xs : List V} {x : Str} {t : Tok} (D : ZipApart z TI TO i1 i2 a a) :
    Turn P w K (.Tuple elts kk tpos) (ItZts K a xs x) [z, TI, TO, i1, i2] z (fun i h => (i ≤ xs.length ∧ i ≤ x.cps.size) ∧ IsZip h z TI TO .none ∧ IsTupOf2 h TI (.ref i1) (.ref i2) ∧ (∃ x y, IsTupOf2 h TO x y) ∧ h.IsTupleIter i1 a i ∧ h.IsStrIter i2 (strIterType x) x t i) where
  mem := by simp
  obj := fun i h st c hc => by
    obtain ⟨_, hz, hTI, ⟨x, y, hTO⟩, ⟨o1, e1, _, d1⟩, ⟨o2, e2, _, d2⟩⟩ := st
    have e' : c = z ∨ c = TI ∨ c = TO ∨ c = i1 ∨ c = i2 := by simpa using hc
    rcases e' with q | q | q | q | q
    · rw [q]; exact ⟨_, hz, fun v q => nomatch q⟩
    · rw [q]; exact ⟨_, hTI, fun v q => nomatch q⟩
    · rw [q]; exact ⟨_, hTO, fun v q => nomatch q⟩
    · rw [q]; exact ⟨o1, e1, fun v q => by rw [d1] at q; cases q⟩
    · rw [q]; exact ⟨o2, e2, fun v q => by rw [d2] at q; cases q⟩
  keep := fun i h h' st k => by
    obtain ⟨hi, hz, hTI, ⟨x, y, hTO⟩, h1, h2⟩ := st
    exact ⟨hi, k z (by simp) _ hz, k TI (by simp) _ hTI, ⟨x, y, k TO (by simp) _ hTO⟩, h1.at fun o q => k i1 (by simp) o q, let ⟨o, ho, r⟩ := h2; ⟨o, k i2 (by simp) o ho, r⟩⟩
  item := by
    intro X hP hw hK hc i pins s σ H E I hf st hg
    subst hP hw hK
    obtain ⟨hi, hz, hTI, ⟨x0, y0, hTO⟩, h1, h2⟩ := st
    obtain ⟨hq, l1, l2⟩ := hg
    obtain ⟨its, rv, p, _⟩ := I.tuple hq
    have hzl : z < s.heap.objs.size := Heap.lt_size hz
    have ll : its.toArray.size = xs.length := by rw [List.size_toArray]; exact rv.length.symm
    refine wpAny_pyNext_zipD2_item (sep_zts D) (Draws.tuple (show X.A.in1.handled = none from I.ok.hd hc) i1 a D.l1i1 its.toArray) (Draws.text (show X.A.in1.handled = none from I.ok.hd hc) i2 x t) hz hTI hTO ⟨h1, p⟩ h2 (by omega) l2 fun x1 x2 h' tk y1 y2 z' TO' h1' h2' hT hsz hk => ?_
    obtain ⟨c, u, hcx, rfl⟩ := y2
    have hx : xs[i]? = some xs[i] := List.getElem?_eq_getElem l1
    obtain ⟨u1, hu1, ru1⟩ := rv.get hx
    have e1 : x1 = u1 := by
      have q : its.toArray[i]? = some x1 := y1
      rw [List.getElem?_toArray] at q
      exact Option.some.inj (q.symm.trans hu1)
    subst e1
    refine ⟨_, rfl, wpAny_letOwnedTupleGo_zip (s := { s with heap := h', toks := tk }) z' fun h'' z'' sb => ?_⟩
    have hT2 : h''.get? s.heap.objs.size = some { cls := .type "tuple", data := .seq #[x1, .str ⟨#[c]⟩ u] } := (sb.2 _ (Nat.ne_of_gt hzl)).trans hT
    have new : ObjOk X.prog X.w (upd H s.heap.objs.size (.tup [xs[i], .str ⟨#[c]⟩])) h'' s.heap.objs.size (.tup [xs[i], .str ⟨#[c]⟩]) :=
      ⟨by show 2 ≤ sizeLine; decide, [x1, .str ⟨#[c]⟩ u], .cons ru1 (.cons ⟨u, rfl⟩ .nil), ⟨_, hT2, rfl, _, rfl⟩⟩
    have I1 : Inv X pins σ (upd H s.heap.objs.size (.tup [xs[i], .str ⟨#[c]⟩])) { s with heap := h'', toks := tk } :=
      I.turnedNew (t' := tk) (ch := [z, TI, TO, i1, i2]) (fun c o hb q => (sb.2 c (fun q' => hb (by simp [q']))).trans (hk c o (fun q' => hb (by simp [q'])) (fun q' => hb (by simp [q'])) (fun q' => hb (by simp [q'])) (fun q' => hb (by simp [q'])) q)) hf (Nat.le_refl _) new
    refine ⟨.ref s.heap.objs.size, _, I1, rfl, ⟨_, xs[i], c, rfl, I.hok.fresh (Nat.le_refl _), rfl, hx, hcx⟩, ⟨⟨l1, l2⟩, z'', ?_, ⟨x1, .str ⟨#[c]⟩ u, ?_⟩, ?_, ?_⟩, fun b hcm => ?_⟩
    · exact (sb.2 _ D.TIz).trans (hk _ _ D.TIz D.TITO D.TIi1 D.TIi2 hTI)
    · exact (sb.2 _ D.TOz).trans TO'
    · exact h1'.1.at fun o q => (sb.2 _ D.i1z).trans q
    · exact let ⟨o, ho, r⟩ := h2'; ⟨o, (sb.2 _ D.i2z).trans ho, r⟩
    · have hlt : b < s.heap.objs.size := by
        have e' : b = z ∨ b = TI ∨ b = TO ∨ b = i1 ∨ b = i2 := by simpa using hcm
        rcases e' with q | q | q | q | q
        · rw [q]; exact hzl
        · rw [q]; exact Heap.lt_size hTI
        · rw [q]; exact Heap.lt_size hTO
        · rw [q]; obtain ⟨_, e1, _⟩ := h1; exact Heap.lt_size e1
        · rw [q]; obtain ⟨_, e2, _⟩ := h2; exact Heap.lt_size e2
      rw [upd_ne (Nat.ne_of_lt hlt)]
      exact (hf b hcm).1
  done := by
    intro X hP hw hK hc i pins s σ H E I hf st hg
    subst hP hw hK
    obtain ⟨hi, hz, hTI, ⟨x0, y0, hTO⟩, h1, h2⟩ := st
    obtain ⟨hq, hend⟩ := hg
    obtain ⟨its, rv, p, _⟩ := I.tuple hq
    have ll : its.toArray.size = xs.length := by rw [List.size_toArray]; exact rv.length.symm
    exact wpAny_pyNext_zipD2_end (sep_zts D) (Draws.tuple (show X.A.in1.handled = none from I.ok.hd hc) i1 a D.l1i1 its.toArray) (Draws.text (show X.A.in1.handled = none from I.ok.hd hc) i2 x t) hz hTI hTO ⟨h1, p⟩ h2 (by omega) hi.2 (by omega) fun h' tk hk => ⟨rfl, I.turnedL (t' := tk) (ch := [z, TI, TO, i1, i2]) (fun c o hb q =>
      hk c o (fun q' => hb (by simp [q'])) (fun q' => hb (by simp [q'])) (fun q' => hb (by simp [q'])) (fun q' => hb (by simp [q'])) q) hf⟩
  self := fun A i s Q E st h => wpAny_pyIter_zip st.2.1 h
def iZts (K : PySem.W.Frag) (ta : TA) : TI := fun σ H R => ta σ H fun vs H1 => ∃ a xs x, vs = [.ref a, .str x] ∧ SqT K H1 a xs ∧ R (ItZts K a xs x) H1
theorem pi_zts {X : Cx} {e e2 : Expr} {ta : TA} {p pos tpos : Pos} {elts : List Expr} {kk : Nat} (hg : Gl X "zip") (hm : X.mg "zip" = none) (ha : PA X [e, e2] ta)
    (hs : starEach [e, e2] X.env = (false, eval e X.env) :: starEach [e2] X.env := by rfl) (hpl : (backTo pos (starEach [e2] X.env)).any (·.1) = false := by rfl) :
    PI X (.Tuple elts kk tpos) (.Call (.Name "zip" p) [e, e2] [] pos) (iZts X.K ta) := by
  refine ⟨fun pins s σ H R I h => ?_⟩
  refine PyProof.Rows.Call_ (ld_blt I hg hm PyProof.Rows.boot_zip (PyProof.Rows.callWith_type1 (thn (ha.run pos pins s σ H _ I h) fun us s1 ⟨vs, H1, I1, r1, q1⟩ => ?_) hs hpl))
  obtain ⟨a, xs, x, ex, hq, q⟩ := q1
  subst ex
  cases r1 with
  | cons r rr =>
    cases rr with
    | cons r' rr =>
      cases rr
      cases r
      obtain ⟨t, rfl⟩ := r'
      have fresh5 : ∀ c, c ∈ [s1.heap.objs.size + 4, s1.heap.objs.size + 2, s1.heap.objs.size + 3, s1.heap.objs.size, s1.heap.objs.size + 1] → FpOk X pins H1 c := fun c hcm => by
        have e' : c = s1.heap.objs.size + 4 ∨ c = s1.heap.objs.size + 2 ∨ c = s1.heap.objs.size + 3 ∨ c = s1.heap.objs.size ∨ c = s1.heap.objs.size + 1 := by simpa using hcm
        have hle : s1.heap.objs.size ≤ c := by
          rcases e' with z | z | z | z | z
          · rw [z]; exact Nat.le_add_right _ _
          · rw [z]; exact Nat.le_add_right _ _
          · rw [z]; exact Nat.le_add_right _ _
          · rw [z]; exact Nat.le_refl _
          · rw [z]; exact Nat.le_add_right _ _
        exact I1.fpOk hle (I1.hok.fresh hle)
      obtain ⟨its, rv, p1, _⟩ := I1.tuple hq
      obtain ⟨o1, ho1, _⟩ := id p1
      refine zip_begins2 (begins_tuple a its.toArray) (begins_text x t) p1 trivial fun h' hz hTI hTO h1 h2 hsz hk => wpAny_pyIter_zip hz ?_
      have I2 : Inv X pins σ H1 { s1 with heap := h' } := I1.kept (t' := s1.toks) hk
      exact ⟨s1.heap.objs.size + 4, [s1.heap.objs.size + 4, s1.heap.objs.size + 2, s1.heap.objs.size + 3, s1.heap.objs.size, s1.heap.objs.size + 1], _, _, H1, rfl, I2, turn_zts (t := t) (PySem.W.ktu_apart s1.heap.objs.size a a (Heap.lt_size ho1) (Heap.lt_size ho1)), ⟨⟨Nat.zero_le _, Nat.zero_le _⟩, hz, hTI, ⟨_, _, hTO⟩, ⟨_, h1, rfl, rfl⟩, ⟨_, h2, rfl, rfl⟩⟩, fresh5, q⟩
/-- a tuple beside a text -/
def wZts (w : WA) : WA := fun S R => w S fun ds S1 => match ds with
  | [.tup xs, .str x] => R (List.zipWith (fun x y => .tup [x, y]) xs (chars x)) S1
  | _ => False
section
variable {X : Cx} {Φ : En → Prop} {a b e tg : Expr} {es : List Expr} {w : WE} {ws : WA} {n : Nat} {pos p : Pos} {K : PySem.W.Frag} {F H : Hp}
theorem feeds_zts {a : Addr} {vs : List V} {ds : List D} {x : Str} (h : SqT K F a vs) (s : Reps K F vs ds) : Feeds K (ItZts K a vs x) F (List.zipWith (fun x y => .tup [x, y]) ds (chars x)) := fun F' H' x1 x2 => by
  have hq : SqT K H' a vs := x2.sqT (x1.sqT h)
  have lc : (chars x).length = x.cps.size := by simp [chars]
  refine ⟨fun i d hd => ?_, fun i hi => ?_⟩
  · rw [List.getElem?_zipWith] at hd
    cases e1 : ds[i]? with
    | none => rw [e1] at hd; cases hd
    | some y =>
      cases e2 : (chars x)[i]? with
      | none => rw [e1, e2] at hd; cases hd
      | some z =>
        rw [e1, e2] at hd
        cases hd
        obtain ⟨v, h1, h2⟩ := s.get e1
        obtain ⟨k1, _⟩ := List.getElem?_eq_some_iff.mp h1
        obtain ⟨k2, _⟩ := List.getElem?_eq_some_iff.mp e2
        refine ⟨⟨hq, k1, by omega⟩, fun u H3 hy => ?_⟩
        obtain ⟨T, q, c, rfl, hT, rfl, f1, f2⟩ := hy
        have e3 : q = v := Option.some.inj (f1.symm.trans h1)
        subst e3
        have e4 : z = .str ⟨#[c]⟩ := by
          have e5 : x.cps.toList[i]? = some c := by rw [Array.getElem?_toList]; exact f2
          have e6 : (chars x)[i]? = some (.str ⟨#[c]⟩) := by unfold chars; rw [List.getElem?_map, e5]; rfl
          exact Option.some.inj (e2.symm.trans e6)
        subst e4
        have al := Al.one (o := .tup [q, .str ⟨#[c]⟩]) x2 hT
        exact ⟨_, al, .tup (.of upd_same) (((Reps.cons h2 (.one (.str _))).mono x1).mono al.xF)⟩
  · rw [List.length_zipWith] at hi
    refine ⟨hq, ?_⟩
    rw [s.length]
    omega
theorem di_zts {tpos : Pos} {elts : List Expr} {kk : Nat} (hg : Gl X "zip") (hm : X.mg "zip" = none) (ha : DA X Φ [a, b] n ws) (hp : ∀ t, PA X [a, b] t → PI X (.Tuple elts kk tpos) (.Call (.Name "zip" p) [a, b] [] pos) (iZts X.K t)) : DI X Φ (.Tuple elts kk tpos) (.Call (.Name "zip" p) [a, b] [] pos) (wZts ws) := fun E hE => PI.imp (hp _ (ha E hE)) fun σ H Q => by
  rintro ⟨S, F, R, hR, hw, k⟩
  refine ⟨S, F, _, hR, hw, fun ds S1 vs F1 H1 hw1 l1 r1 hR1 x1 => ?_⟩
  split at hw1
  · obtain ⟨v, u, rfl, q, q2⟩ := r1.two_of
    cases q with
    | tup h s =>
      cases q2 with
      | str => exact ⟨_, _, _, rfl, hR1.g.ext.sqT h, k _ S1 _ F1 H1 hw1 (feeds_zts h s) hR1 x1⟩
  · exact hw1.elim
end
end VL

set_option Elab.async false
set_option linter.all false
set_option maxRecDepth 100000
set_option maxHeartbeats 4000000
/-! VL8: sorted(xs, key=f), f a def of the text. -/
namespace VL
open PySem PySem.Spec PyProof.Rows L2
open PySem.Calls
open PySem.W (keyH_end KeepsBut EachIs AllAlike Sortable SortsAt KeyedOut keyedOut_each each_snoc dataLe dataKind sorted_of_sort copyHeap copyHeap_at copyHeap_old sortingHeap_old sortingHeap sortVals)

theorem in2 {k : Nat} {A : Around} (r : Room (k + 1) A) : Room k A.in1.in1 :=
  ⟨r.hd, by have := r.dp; show A.depth + 3 * k + 5 < _; omega, by have := r.un; show A.units + 1 + 1 + 16 * k + 200 < _; omega⟩

section
variable {X : Cx} {Φ : En → Prop} {pins : List (Addr × Obj)} {σ : L2.St} {H : Hp} {s : Shared} {h' : Heap}
/-- records of ours have turned, one of them is tracked from now on -/
theorem turnedAt {t' : Nat} {ch : List Addr} {T : Addr} {ob : HO} (I : Inv X pins σ H s) (k : ∀ b o, b ∉ ch → s.heap.get? b = some o → h'.get? b = some o) (hf : ∀ b ∈ ch, FpOk X pins H b) (hT : T ∈ ch)
    (new : ObjOk X.prog X.w (upd H T ob) h' T ob) : Inv X pins σ (upd H T ob) { s with heap := h', toks := t' } := by
  have hn : H T = none := (hf T hT).1
  have out : ∀ c v, H c = some v → c ∉ ch := fun c v e z => by rw [(hf c z).1] at e; cases e
  refine I.step (g' := s.gens) (d' := s.drawn) (ch := ch) (fun b hb => let ⟨_, a2, _, a4, a5, a6⟩ := hf b hb; ⟨a4, a2, a5, a6⟩) (fun b o _ _ hc e _ => k b o hc e) (fun b o _ _ hc e _ => ⟨o.slots, k b o hc e⟩)
    (fun b o hc _ n => ?f) (fun b o hc e => ⟨o, k b o hc e⟩) (fun b xs e => ?t) (fun b o u e => ?z) (fun b ps e => ⟨#[], ?l⟩) (fun m hm => ?n) (fun b u e => ?h) I.bare
  case f => rw [upd_ne (fun z => hc (by rw [z]; exact hT))]; exact n
  case t => rw [upd_ne (ne_of_none e hn)]; exact e
  case z => rw [upd_ne (ne_of_none e hn)]; exact e
  case l => rw [upd_ne (ne_of_none e hn), e]; simp
  case n =>
    obtain ⟨o, es, ep, ho, r⟩ := hm
    exact ⟨o, es, ep, k _ o (fun z => (hf _ z).2.1 rfl) ho, r⟩
  case h =>
    by_cases hb : b = T
    · subst hb
      rw [upd_same] at e
      cases e
      exact new
    · rw [upd_ne hb] at e
      refine (I.hok b u e).stay (fun c v hc q => k c v ?_ q) (fun c q => by rw [upd_ne (ne_of_none q hn)]; exact q) fun c xs q => by rw [upd_ne (ne_of_none q hn)]; exact q
      rcases hc with z | z
      · rw [z]; exact out b u e
      · exact out c _ z
end

/-- f's key of x is k, and nothing else happens -/
def KeyOf (spc : Spc) (h : Oh) (x k : D) : Prop := spc [x] h (fun r h' => r = k ∧ h' = h) NX
section
variable {X : Cx} {Φ : En → Prop} {pins : List (Addr × Obj)} {σ : L2.St} {H : Hp} {s : Shared} {n : Nat} {f : Addr} {fd : FuncData} {ps : List Str} {spc : Spc}
/-- a key is asked for, inside a sort -/
theorem key_call {A : Around} (G : FnOk X.prog X.w X.K X.mg X.base CX0 n f fd ps (spOf X.K 1 spc)) (hb : Binds X.K fd ps []) (hr : Room n A) (hA : A.frames = X.A.frames) {F : Hp} {h : Oh} {v : V} {u : Value} {x k : D} (I : Inv X pins σ H s) (g : Ext F H)
    (ob : ∀ a o, h a = some o → ObAt X.K F H a o ∧ F a = none) (rv : RelV v u) (r : Rep X.K F v x) (hk : KeyOf spc h x k) {E : Value → Shared → Prop} :
    wpAny (model X.prog X.w) A (call (.ref f) [u]) (fun v' s' => ∃ (kv : V) (F' H' : Hp), Inv X pins σ H' s' ∧ Un (frs X.stack) [] H H' s.heap s'.heap ∧ RelV kv v' ∧ Rep X.K F' kv k ∧ Gr X.K ⟨F, H, h, fun _ => False⟩ F' H' h) E s := by
  have q : spOf X.K 1 spc [v] H (fun kv H' => ∃ F', Rep X.K F' kv k ∧ Gr X.K ⟨F, H, h, fun _ => False⟩ F' H' h) E0 :=
    ⟨F, [x], h, _, rfl, g, .cons r .nil, ob, hk, fun r h' v' F' H' hr rv gr => by
      obtain ⟨rfl, rfl⟩ := hr
      exact ⟨F', rv, gr⟩⟩
  have hl : [u].length = ps.length := by rw [show [u].length = [v].length from rfl]; exact G.len _ _ _ _ q
  have e0 := I.env0
  refine wpAny_call (codeAny_mono (G.run A X.stack s H ⟨[u], []⟩ [u] [v] _ E0 hr ⟨hA.trans e0.frames, e0.mod, e0.bs, e0.bsz, e0.funs, e0.frf, e0.hok, e0.bare⟩ (by have := hb s [u] I.kIn (by simpa using hl); simpa using this) (.cons rv .nil) q) fun r s' hq => ?_)
  cases r with
  | error e => exact (show False from hq).elim
  | ok fl =>
    cases fl with
    | ret u' =>
      obtain ⟨kv, H', h1, h2, un, h4, h5, F', h6, h7⟩ := hq
      exact ⟨kv, F', H', I.call' (ch := []) h1 un h4 h2 (fun b z => absurd z (by simp)), un, h5, h6, h7⟩
    | next => exact False.elim hq
    | brk => exact False.elim hq
    | cont => exact False.elim hq
end
theorem FpOk.to {X : Cx} {pins : List (Addr × Obj)} {H H' : Hp} {b : Addr} (f : FpOk X pins H b) (h : H' b = none) : FpOk X pins H' b := ⟨h, f.2⟩
theorem FpOk.nostk {X : Cx} {pins : List (Addr × Obj)} {σ : L2.St} {H H1 : Hp} {s : Shared} {b : Addr} (f : FpOk X pins H b) (I : Inv X pins σ H1 s) : b ∉ frs X.stack := fun z => by
  rcases List.mem_cons.mp (I.stkSub b z) with e | e
  · exact f.2.1 e
  · exact f.2.2.1 e
theorem each_reads {X : Cx} {pins : List (Addr × Obj)} {σ : L2.St} {F H : Hp} {s : Shared} (I : Inv X pins σ H s) (e : Ext F H) : ∀ {kvs : List V} {us : List Value} {ks : List D}, Vals kvs us → Reps X.K F kvs ks → ks.all (shD 8) = true →
    EachIs (fun v k => ∃ as, Reads s.heap v k as) us (ks.map D.pd)
  | _, _, _, .nil, .nil, _ => .nil
  | _, _, _, .cons r t, .cons q q', h => by
    rw [List.all_cons, Bool.and_eq_true] at h
    exact .cons (Dp.reads I _ _ _ (q.dp e h.1) r) (each_reads I e t q' h.2)
theorem each_rel {K : PySem.W.Frag} {F : Hp} : ∀ {xs : List V} {us : List Value} {ds : List D}, Vals xs us → Reps K F xs ds → EachIs (fun v d => ∃ x, RelV x v ∧ Rep K F x d) us ds
  | _, _, _, .nil, .nil => .nil
  | _, _, _, .cons r t, .cons q q' => .cons ⟨_, r, q⟩ (each_rel t q')
theorem rel_each {K : PySem.W.Frag} {F : Hp} : ∀ {us : List Value} {ds : List D}, EachIs (fun v d => ∃ x, RelV x v ∧ Rep K F x d) us ds → ∃ xs, Vals xs us ∧ Reps K F xs ds
  | _, _, .nil => ⟨[], .nil, .nil⟩
  | _, _, .cons ⟨x, h1, h2⟩ t => let ⟨xs, h3, h4⟩ := rel_each t; ⟨x :: xs, .cons h1 h3, .cons h2 h4⟩
theorem vals_snoc {xs : List V} {us : List Value} {x : V} {u : Value} (h : Vals xs us) (r : RelV x u) : Vals (xs ++ [x]) (us ++ [u]) := h.append (.cons r .nil)
section
variable {X : Cx} {Φ : En → Prop} {pins : List (Addr × Obj)} {σ : L2.St} {H : Hp} {s : Shared} {n : Nat} {f : Addr} {fd : FuncData} {ps : List Str} {spc : Spc}
/-- what is known ahead of a sort by keys -/
structure KeyB (X : Cx) (n : Nat) (f : Addr) (fd : FuncData) (ps : List Str) (spc : Spc) (A : Around) (F H : Hp) (h : Oh) (xs : List V) (ds : List D) (kf : D → D) : Prop where
  G : FnOk X.prog X.w X.K X.mg X.base CX0 n f fd ps (spOf X.K 1 spc)
  hb : Binds X.K fd ps []
  hr : Room n A
  hA : A.frames = X.A.frames
  hx : Ext F H
  ob : ∀ a o, h a = some o → ObAt X.K F H a o ∧ F a = none
  it : Reps X.K F xs ds
  key : ∀ x ∈ ds, KeyOf spc h x (kf x)
  sh : ∀ x ∈ ds, shD 8 (kf x) = true
  al : AllAlike (ds.map fun x => (kf x).pd)
  so : Sortable (ds.map fun x => (kf x).pd)
  ln : ds.length ≤ sizeLine
theorem sort_rest {A : Around} {F : Hp} {h : Oh} {xs : List V} {ds : List D} {kf : D → D} {vs : List Value} {b : Bool} {a kS : Addr} {e1 : Nat} {P : PySem.Fin → Shared → Prop} {E : Value → Shared → Prop} (B : KeyB X n f fd ps spc A F H h xs ds kf) (I : Inv X pins σ H s) (rv : Vals xs vs)
    (fk : FpOk X pins H kS) (fa : FpOk X pins H a) (hka : kS ≠ a) (nk : s.heap.get? kS = some (seqObj "list" #[] 0)) (na : s.heap.get? a = some (seqObj "list" #[] e1))
    (k : ∀ s' ys F' H', Inv X pins σ (upd H' a (.lst ys)) s' → Reps X.K F' ys (ds.mergeSort (dataLe b fun x => (kf x).pd)) → Gr X.K ⟨F, H, h, fun _ => False⟩ F' H' h → H' a = none → P (.done (.ret .none)) s') :
    wpAny (model X.prog X.w) A (ksk_rest a (.ref f) b vs.toArray e1 (.ref kS)) P E s := by
  have l1 := rv.length
  have l2 := B.it.length
  have l3 := B.ln
  unfold ksk_rest
  refine wpAny_bind (wpAny_rule ?_)
  first
    | rw [List.forIn_toArray]
    | (rw [← Array.forIn_toList]; simp only [List.toList_toArray])
    | rw [← Array.forIn_toList]
  refine wpAny_bind (ksk_fold (fun i s' => ∃ (Fj Hj : Hp) (kA : Array Value) (e : Nat) (kvs : List V), s'.heap.get? kS = some (seqObj "list" kA e) ∧ s'.heap.get? a = some (seqObj "list" #[] e1) ∧ Inv X pins σ Hj s' ∧ Hj kS = none ∧ Hj a = none ∧
    Gr X.K ⟨F, H, h, fun _ => False⟩ Fj Hj h ∧ Vals kvs kA.toList ∧ Reps X.K Fj kvs ((ds.map kf).take i)) vs 0 s
    ⟨F, H, #[], 0, [], nk, na, I, fk.1, fa.1, ⟨B.hx, .refl _, fun _ q _ _ => .inl q, fun _ _ q _ _ => q, fun _ q => q, fun _ q => .inl q, B.ob⟩, .nil, by rw [List.take_zero]; exact .nil⟩ ?step ?done)
  case step =>
    rintro j u s' hu ⟨Fj, Hj, kA, e, kvs, nk', na', I', hk0, ha0, g, rk, rp⟩
    simp only [Nat.zero_add] at rp ⊢
    have hj : j < vs.length := (List.getElem?_eq_some_iff.mp hu).1
    have hjd : j < ds.length := by omega
    have hd : ds[j]? = some ds[j] := List.getElem?_eq_getElem hjd
    obtain ⟨x, hx, rx⟩ := B.it.get hd
    obtain ⟨u', hu', ru⟩ := rv.get hx
    have eu : u' = u := Option.some.inj (hu'.symm.trans hu)
    subst eu
    have hz : kA.size ≤ sizeLine := by
      have q1 : kvs.length = kA.size := by rw [rk.length, Array.length_toList]
      have q2 := rp.length
      rw [List.length_take, List.length_map] at q2
      omega
    have hz1 : kA.size + 1 ≤ sizeLine + 1 := Nat.succ_le_succ hz
    refine wpAny_bind (wpAny_attempt (wpAny_mono (key_call (E := fun _ _ => False) B.G B.hb B.hr B.hA I' g.ext g.obs ru (rx.mono g.gF) (B.key _ (List.getElem_mem hjd))) (fun v s'' he => ?_) fun _ _ hF => hF.elim))
    obtain ⟨kv, F', H', I'', un, rkv, rep, g'⟩ := he
    try dsimp only
    have nk2 : s''.heap.get? kS = some (seqObj "list" kA e) := un.keep _ _ nk' hk0 (FpOk.nostk fk I') (by simp)
    have na2 : s''.heap.get? a = some (seqObj "list" #[] e1) := un.keep _ _ na' ha0 (FpOk.nostk fa I') (by simp)
    have hk2 : H' kS = none := un.free _ _ nk' hk0 (by simp)
    have ha2 : H' a = none := un.free _ _ na' ha0 (by simp)
    have s1 := Heap.SameBut.update s''.heap kS (Obj.mapSeq (·.push v))
    obtain ⟨c2, hc2⟩ : ∃ c2, (s''.heap.update kS (Obj.mapSeq (·.push v))).get? kS = some (seqObj "list" (kA.push v) c2) := ⟨_, get?_update_seq nk2 (·.push v)⟩
    refine wpAny_bind (listUpdate_at nk2 rfl ?_ hz (by rw [Array.size_push]; exact hz1))
    refine wpAny_pure ⟨rfl, F', H', kA.push v, c2, kvs ++ [kv], hc2, (s1.2 a hka.symm).trans na2, I''.turnedL (t' := s''.toks) (ch := [kS]) (fun b o hb q => (s1.2 b (by simpa using hb)).trans q) (fun b hb => by rw [List.mem_singleton.mp hb]; exact FpOk.to fk hk2), hk2, ha2, g.then (fun p hp => hp.elim) g', ?_, ?_⟩
    · rw [Array.toList_push]
      exact vals_snoc rk rkv
    · have ek : (ds.map kf).take (j + 1) = (ds.map kf).take j ++ [kf ds[j]] := by rw [List.take_add_one, List.getElem?_map, hd]; rfl
      rw [ek]
      exact (rp.mono g'.gF).append (.one rep)
  case done =>
    rintro s' ⟨Fj, Hj, kA, e, kvs, nk', na', I', hk0, ha0, g, rk, rp⟩
    rw [List.take_of_length_le (by rw [List.length_map]; omega)] at rp
    have hal : (ds.map kf).all (shD 8) = true := by
      rw [List.all_eq_true]
      intro y hy
      obtain ⟨x, hx, rfl⟩ := List.mem_map.mp hy
      exact B.sh x hx
    have hk' := each_reads I' g.ext rk rp hal
    rw [List.map_map] at hk'
    have hsz : kA.size = vs.length := by
      have q1 : kvs.length = kA.size := by rw [rk.length, Array.length_toList]
      have q2 := rp.length
      rw [List.length_map] at q2
      omega
    try dsimp only
    refine wpAny_bind (listItems_at nk' rfl ?_)
    obtain ⟨W, w1, w2⟩ := restrict s'.heap fun c => decide (c ≠ kS ∧ c ≠ a)
    have w3 : ∀ c o, c ≠ kS → c ≠ a → s'.heap.get? c = some o → W.get? c = some o := fun c o q1 q2 q => (w1 c (decide_eq_true ⟨q1, q2⟩)).trans q
    have hu : ∀ d, d ∈ ds.map (fun x => (kf x).pd) → A.units + d.depth < cLine := fun d hd => by
      obtain ⟨x, hx, rfl⟩ := List.mem_map.mp hd
      have q1 := depth_sh 8 _ (B.sh x hx)
      have q2 := B.hr.un
      omega
    refine keyH_end (κ := dataKind s'.heap (ds.map fun x => (kf x).pd)) (h₁ := W) (fun c o hc q => ?_) (w2 kS (decide_eq_false (fun z => z.1 rfl))) nk' na' hka (SortsAt.data (s := s') hk' B.al B.so hu) hsz (by omega) fun h3 tk3 c3 k3 n3 => ?_
    · have hck : c ≠ kS := fun z => by
        subst z
        rw [w2 c (decide_eq_false (fun z => z.1 rfl))] at q
        cases q
      exact (w1 c (decide_eq_true ⟨hck, hc⟩)).symm.trans q
    · have ko : KeyedOut b (ds.map fun x => (kf x).pd) vs _ := ⟨s'.heap, kA.toList, B.al, rfl, hk'⟩
      obtain ⟨ys, y1, y2⟩ := rel_each (keyedOut_each (bs := ds) (fun x => (kf x).pd) ko (each_rel rv (B.it.mono g.gF)))
      have ly : ys.length ≤ sizeLine := by
        rw [y2.length, List.length_mergeSort]
        exact l3
      refine k _ ys Fj Hj (turnedAt (t' := tk3) (ch := [kS, a]) (T := a) I' (fun c o hc q => ?_) (fun c hc => ?_) (by simp) ⟨ly, _, c3, y1, n3⟩) y2 g ha0
      · have q1 : c ≠ kS ∧ c ≠ a := by simpa using hc
        exact k3 c o q1.2 (w3 c o q1.1 q1.2 q)
      · have q1 : c = kS ∨ c = a := by simpa using hc
        rcases q1 with rfl | rfl
        · exact FpOk.to fk hk0
        · exact FpOk.to fa ha0
end
section
variable {X : Cx} {Φ : En → Prop} {n : Nat} {f : Addr} {fd : FuncData} {ps : List Str} {spc : Spc}
/-- what sorted(l, key=f) wants and gives -/
def rSortF (X : Cx) (n : Nat) (f : Addr) (fd : FuncData) (ps : List Str) (spc : Spc) : List V → List V → Hp → VK → Prop := fun vs zs H Q => ∃ (a : Addr) (F : Hp) (h : Oh) (xs : List V) (ds : List D) (kf : D → D), vs = [.ref a] ∧ zs = [.ref f] ∧ SqL X.K H a xs ∧
  KeyB X n f fd ps spc X.A.in1.in1 F H h xs ds kf ∧ ∀ ys F' H' p, Reps X.K F' ys (ds.mergeSort (dataLe false fun x => (kf x).pd)) → Gr X.K ⟨F, H, h, fun _ => False⟩ F' H' h → H' p = none → Q (.ref p) (upd H' p (.lst ys))
theorem cr_sortF : CallRK X (.builtin "sorted") [Str.ofString "key"] (rSortF X n f fd ps spc) := by
  intro pins s σ H vs zs us ws Q I r rz hq
  obtain ⟨l, F, h, xs, ds, kf, rfl, rfl, hl, B, k⟩ := hq
  obtain rfl := Vals.ref1 r
  obtain ⟨w1, rfl, e1⟩ := vals1 rz
  obtain rfl : w1 = Value.ref f := e1
  obtain ⟨its, rv, p, hz⟩ := I.list hl
  have l1 := rv.length
  have l2 := B.it.length
  have l3 := B.ln
  have a_lt : s.heap.objs.size ≤ s.heap.objs.size + 1 := Nat.le_succ _
  have fa : FpOk X pins H (s.heap.objs.size + 1) := I.fpOk a_lt (I.hok.fresh a_lt)
  refine sorted_of_sort (s := s) p.isList (by omega) (ksk_s1 _ _) (fun _ => ksk_l1 _ _) fun E' => ?_
  rw [show [Str.ofString "key"].zip [Value.ref f] = [(Str.ofString "key", Value.ref f)] from rfl, ksk_t1]
  have ho := copyHeap_at s.heap its
  have ha : s.heap.objs.size + 1 < (copyHeap s.heap its).objs.size := Heap.lt_size ho
  obtain ⟨e1, ho1⟩ : ∃ e1, ((copyHeap s.heap its).update (s.heap.objs.size + 1) (Obj.mapSeq fun _ => (#[] : Array Value))).get? (s.heap.objs.size + 1) = some (seqObj "list" #[] e1) := ⟨_, get?_update_seq ho fun _ => #[]⟩
  have hkS : (((copyHeap s.heap its).update (s.heap.objs.size + 1) (Obj.mapSeq fun _ => (#[] : Array Value))).push (seqObj "tuple" its.toArray 0)).objs.size = (copyHeap s.heap its).objs.size + 1 := by rw [size_push', Heap.size_update]
  have hle : s.heap.objs.size ≤ (copyHeap s.heap its).objs.size + 1 := by omega
  unfold ksk_tree
  refine wpAny_bind (listItems_at ho rfl ?_)
  refine wpAny_bind (listUpdate_at ho rfl ?_ (by rw [List.size_toArray]; omega) (Nat.zero_le _))
  refine wpAny_bind (seqEpoch_at ho1 rfl ?_)
  refine wpAny_bind (wpAny_newTuple ?_ (by show its.length ≤ _; omega))
  refine wpAny_bind (wpAny_newList ?_ (Nat.zero_le _))
  refine wpAny_holding ?_
  have keep : ∀ b o, s.heap.get? b = some o → (sortingHeap (copyHeap s.heap its) (s.heap.objs.size + 1) its).get? b = some o := fun b o q =>
    sortingHeap_old (Nat.ne_of_lt (Nat.lt_succ_of_lt (Heap.lt_size q))) (copyHeap_old q)
  have I2 : Inv X pins σ H { s with heap := sortingHeap (copyHeap s.heap its) (s.heap.objs.size + 1) its } := I.kept (t' := s.toks) keep
  refine sort_rest (b := false) B I2 rv (kS := (((copyHeap s.heap its).update (s.heap.objs.size + 1) (Obj.mapSeq fun _ => (#[] : Array Value))).push (seqObj "tuple" its.toArray 0)).objs.size) ?_ fa ?_ ?_ ?_ fun s' ys F' H' I' ry g ha' => ⟨rfl, .ref _, _, I', rfl, k ys F' H' _ ry g ha'⟩
  · rw [hkS]
    exact I.fpOk hle (I.hok.fresh hle)
  · rw [hkS]
    exact Nat.ne_of_gt (Nat.lt_succ_of_lt ha)
  · exact Heap.get?_push_size _ rfl
  · exact Heap.get?_push_of_some _ (Heap.get?_push_of_some _ ho1)
/-- sorted(e, key=f) -/
def wSortF (spc : Spc) (w : WE) : WE := fun S R => w S fun d S1 => match d with
  | .lst ds => ∃ kf : D → D, (∀ x ∈ ds, KeyOf spc S1.h x (kf x)) ∧ (∀ x ∈ ds, shD 8 (kf x) = true) ∧ AllAlike (ds.map fun x => (kf x).pd) ∧ Sortable (ds.map fun x => (kf x).pd) ∧ ds.length ≤ sizeLine ∧ R (.lst (ds.mergeSort (dataLe false fun x => (kf x).pd))) S1
  | _ => False
theorem dn_sortF {e : Expr} {x : Str} {p px kp pos : Pos} {w : WE} (G : FnOk X.prog X.w X.K X.mg X.base CX0 n f fd ps (spOf X.K 1 spc)) (hr : Room (n + 1) X.A) (hg : Gl X "sorted") (hm : X.mg "sorted" = none) (hgf : Gl X x) (hmf : X.mg x = some (.ref f)) (hb : Binds X.K fd ps []) (he : DE X Φ e w)
    (h1 : starEach [e] X.env = [(false, eval e X.env)] := by rfl) (hdb : (x == ("__debug__" : Str)) = false := by decide) : DN X Φ (.Call (.Name "sorted" p) [e] [⟨some "key", .Name x px, kp⟩] pos) (wSortF spc w) := fun E hE => PE.imp (pe_callBK cr_sortF hg hm (by rfl) (pa_cons (he E hE) pa_nil h1) (pk_cons (pe_glob hgf hmf (v := .ref f) rfl hdb) pk_nil) (he := by rw [h1]; rfl) (hpl := by rw [h1]; rfl)) fun σ H Q => by
  rintro ⟨S, F, R, hR, hw, k⟩
  refine ⟨S, F, _, hR, hw, fun d S1 v F1 H1 hw1 r1 hR1 x1 => ?_⟩
  split at hw1
  · obtain ⟨kf, k1, k2, k3, k4, k5, q⟩ := hw1
    cases r1 with
    | lst ha hs =>
      refine ⟨_, F1, S1.h, _, _, kf, rfl, rfl, .of (hR1.g.ext _ _ ha), ⟨G, hb, in2 hr, rfl, hR1.g.ext, hR1.g.obs, hs, k1, k2, k3, k4, k5⟩, fun ys F' H' p' ry g hp => ?_⟩
      obtain ⟨fr, hR'⟩ := fresh_of (hR1.after g) hp ry
      exact k _ _ p' F' _ q fr hR' (x1.trans g.gF)
  · exact hw1.elim
end
end VL

set_option Elab.async false
set_option linter.all false
set_option maxRecDepth 100000
set_option maxHeartbeats 4000000
/-! VL9: methods of ints and texts; a text times an int; list of a text. -/
namespace VL
open PySem PySem.Spec PyProof.Rows L2
/-- x.bit_length() -/
def wBits (w : WE) : WE := fun S R => w S fun d S1 => match d with
  | .int i => R (.int (Builtin.Int.intBits i : Nat)) S1
  | _ => False
abbrev OM1 := Str → D → (D → Prop) → Prop
def wM1 (g : OM1) (w we : WE) : WE := fun S R => w S fun d S1 => match d with
  | .str a => we S1 fun e S2 => g a e fun z => R z S2
  | _ => False
def wM0 (g : Str → (D → Prop) → Prop) (w : WE) : WE := fun S R => w S fun d S1 => match d with
  | .str a => g a fun z => R z S1
  | _ => False
/-- s.index(t), found -/
def mIndex : OM1 := fun a e R => match e with
  | .str b => ∃ i rest, Builtin.Str.occurrences a b 0 a.length 1 = i :: rest ∧ R (.int (i : Nat))
  | _ => False
/-- s.join(texts) -/
def mJoin : OM1 := fun a e R => match e with
  | .lst ds => ∃ ys : List Str, ds = ys.map D.str ∧ (ys.map (·.length)).sum + ys.length * a.length ≤ 16777216 ∧ R (.str (Txt.join a ys))
  | .tup ds => ∃ ys : List Str, ds = ys.map D.str ∧ (ys.map (·.length)).sum + ys.length * a.length ≤ 16777216 ∧ R (.str (Txt.join a ys))
  | _ => False
def mUpper (a : Str) (R : D → Prop) : Prop := a.length ≤ 5592405 ∧ R (.str (Txt.upper a))
def rM1 (K : PySem.W.Frag) (g : OM1) : V → List V → Hp → VK → Prop := fun x xs H Q => ∃ F a v e R, x = .str a ∧ xs = [v] ∧ Ext F H ∧ Rep K F v e ∧ g a e R ∧ ∀ z v', R z → Rep K F v' z → Q v' H
section
variable {X : Cx} {Φ : En → Prop} {o e : Expr} {wo we : WE} {apos cpos pos : Pos} {name : Str} {id : String}
theorem de_bits (ho : DE X Φ o wo) (hbase : attributeBase o "bit_length" X.env (eval o X.env) = eval o X.env := by rfl) (hline : (apos.endLine == pos.line) = true := by rfl) : DE X Φ (.Call (.Attribute o "bit_length" apos) [] [] pos) (wBits wo) := fun E hE => PE.imp (pe_bits (ho E hE) hbase hline) fun σ H Q => by
  rintro ⟨S, F, R, hR, hw, k⟩
  refine ⟨S, F, _, hR, hw, fun d S1 v F1 H1 hw1 r1 hR1 x1 => ?_⟩
  split at hw1
  · cases r1
    exact ⟨_, rfl, k _ S1 _ F1 H1 hw1 (.int _) hR1 x1⟩
  · exact hw1.elim
theorem mv_index : MtR X "str.index" (rM1 X.K mIndex) := MtR.any fun x xs H Q => by
  rintro ⟨F, a, v, e, R, rfl, rfl, hx, r, hg, k⟩
  refine ⟨_, mt_sindex, ?_⟩
  unfold mIndex at hg
  split at hg
  · obtain ⟨i, rest, h1, h2⟩ := hg
    cases r
    exact ⟨_, _, i, rest, rfl, rfl, h1, k _ _ h2 (.int _)⟩
  · exact hg.elim
theorem mv_join : MtR X "str.join" (rM1 X.K mJoin) := MtR.any fun x xs H Q => by
  rintro ⟨F, a, v, e, R, rfl, rfl, hx, r, hg, k⟩
  refine ⟨_, mt_join, ?_⟩
  unfold mJoin at hg
  split at hg
  · obtain ⟨ys, rfl, h1, h2⟩ := hg
    cases r with
    | lst h s =>
      have e1 := s.strs
      subst e1
      exact ⟨_, _, ys, rfl, rfl, .inl (.of (hx _ _ h)), h1, k _ _ h2 (.str _)⟩
  · obtain ⟨ys, rfl, h1, h2⟩ := hg
    cases r with
    | tup h s =>
      have e1 := s.strs
      subst e1
      exact ⟨_, _, ys, rfl, rfl, .inr (hx.sqT h), h1, k _ _ h2 (.str _)⟩
  · exact hg.elim
theorem de_m1 {g : OM1} (slot : Slot "str" name id) (ty : typeOf (.builtin id) = pure (.type "method_descriptor")) (rule : MtR X id (rM1 X.K g)) (ho : DE X Φ o wo) (he : DE X Φ e we)
    (hs : starEach [e] X.env = [(false, eval e X.env)] := by rfl) (hbase : attributeBase o name X.env (eval o X.env) = eval o X.env := by rfl) (hline : (apos.endLine == pos.line) = true := by rfl) :
    DE X Φ (.Call (.Attribute o name apos) [e] [] pos) (wM1 g wo we) := fun E hE => PE.imp (pe_m1 slot ty rule (ho E hE) (he E hE) hs hbase hline) fun σ H Q => by
  rintro ⟨S, F, R, hR, hw, k⟩
  refine ⟨S, F, _, hR, hw, fun d S1 v F1 H1 hw1 r1 hR1 x1 => ?_⟩
  split at hw1
  · cases r1
    refine ⟨⟨_, rfl⟩, S1, F1, _, hR1, hw1, fun e S2 u F2 H2 hw2 r2 hR2 x2 => ?_⟩
    exact ⟨F2, _, u, e, _, rfl, rfl, hR2.g.ext, r2, hw2, fun z v' hz rz => k z S2 v' F2 H2 hz rz hR2 (x1.trans x2)⟩
  · exact hw1.elim
theorem de_index (ho : DE X Φ o wo) (he : DE X Φ e we) (hs : starEach [e] X.env = [(false, eval e X.env)] := by rfl) (hbase : attributeBase o "index" X.env (eval o X.env) = eval o X.env := by rfl) (hline : (apos.endLine == pos.line) = true := by rfl) :
    DE X Φ (.Call (.Attribute o "index" apos) [e] [] pos) (wM1 mIndex wo we) := de_m1 PySem.F.slot_str_index PySem.F.type_str_index mv_index ho he hs hbase hline
theorem de_join (ho : DE X Φ o wo) (he : DE X Φ e we) (hs : starEach [e] X.env = [(false, eval e X.env)] := by rfl) (hbase : attributeBase o "join" X.env (eval o X.env) = eval o X.env := by rfl) (hline : (apos.endLine == pos.line) = true := by rfl) :
    DE X Φ (.Call (.Attribute o "join" apos) [e] [] pos) (wM1 mJoin wo we) := de_m1 PySem.F.slot_str_join PySem.F.type_str_join mv_join ho he hs hbase hline
theorem de_upper (ho : DE X Φ o wo) (hbase : attributeBase o "upper" X.env (eval o X.env) = eval o X.env := by rfl) (hline : (apos.endLine == pos.line) = true := by rfl) :
    DE X Φ (.Call (.Attribute o "upper" apos) [] [] pos) (wM0 mUpper wo) := fun E hE => PE.imp (pe_upper (ho E hE) hbase hline) fun σ H Q => by
  rintro ⟨S, F, R, hR, hw, k⟩
  refine ⟨S, F, _, hR, hw, fun d S1 v F1 H1 hw1 r1 hR1 x1 => ?_⟩
  split at hw1
  · cases r1
    exact ⟨⟨_, rfl⟩, _, rfl, rfl, hw1.1, k _ S1 _ F1 H1 hw1.2 (.str _) hR1 x1⟩
  · exact hw1.elim
end
/-! ### a text times an int; list of a text -/
def opMulS : O2
  | .str x, .int n, R => MulOk x n ∧ R (.str (Txt.mul x n))
  | d, e, R => opMul d e R
def bLstS : OC
  | [.str x], R => x.length ≤ sizeLine ∧ R (.lst (chars x))
  | ds, R => bLst ds R
section
variable {X : Cx} {Φ : En → Prop}
theorem op_mul_s : OpR X (binaryOp .Mult) (fun x y H Q => ∃ a n, x = .str a ∧ y = .int n ∧ MulOk a n ∧ Q (.str (Txt.mul a n)) H) := by
  intro pins s σ H x y v u Q I rx ry h
  obtain ⟨a, n, rfl, rfl, hm, q⟩ := h
  obtain ⟨t, rfl⟩ := rx
  obtain ⟨t2, rfl⟩ := ry
  exact SB.mul hm fun t' k => ⟨.str _, H, I.tok k, ⟨t', rfl⟩, q⟩
theorem ov_mulS : OpV X (binaryOp .Mult) opMulS := OpR.any fun x y H Q => by
  rintro ⟨F, d, e, R, hx, r1, r2, hg, k⟩
  unfold opMulS at hg
  split at hg
  · cases r1; cases r2
    exact ⟨_, op_mul_s, _, _, rfl, rfl, hg.1, k _ _ F H hg.2 (.str _) (.refl hx)⟩
  · exact ⟨_, ov_mul, F, d, e, R, hx, r1, r2, hg, k⟩
theorem vals_get : ∀ {xs : List V} {us : List Value}, xs.length = us.length → (∀ (j : Nat) (u : Value), us[j]? = some u → ∃ x : V, xs[j]? = some x ∧ RelV x u) → Vals xs us
  | [], [], _, _ => .nil
  | [], _ :: _, h, _ => by simp at h
  | _ :: _, [], h, _ => by simp at h
  | x :: xs, u :: us, h, k => by
    obtain ⟨y, h1, h2⟩ := k 0 u rfl
    cases h1
    exact .cons h2 (vals_get (by simpa using h) fun j v hv => k (j + 1) v hv)
theorem reps_signs {K : PySem.W.Frag} {F : Hp} : ∀ cs : List Nat, Reps K F (cs.map fun c => .str ⟨#[c]⟩) (cs.map fun c => .str ⟨#[c]⟩)
  | [] => .nil
  | _ :: cs => .cons (.str _) (reps_signs cs)
theorem call_list_s (hc : X.calm = true) : CallR X (.type "list") (fun xs H Q => ∃ a : Str, xs = [.str a] ∧ a.length ≤ sizeLine ∧ ∀ l, H l = none → Q (.ref l) (upd H l (.lst (a.cps.toList.map fun c => .str ⟨#[c]⟩)))) := by
  intro pins s σ H xs us Q I rx h
  obtain ⟨a, rfl, hz, q⟩ := h
  cases rx with
  | cons r rr =>
    cases rr
    obtain ⟨t, rfl⟩ := r
    refine PySem.call_list_str (I.ok.hd hc) a t (hn := hz) fun h' tk acc c hk hS hacc => ?_
    have hn : H s.heap.objs.size = none := I.hok.fresh (Nat.le_refl _)
    have vs : Vals (a.cps.toList.map fun c => V.str ⟨#[c]⟩) acc.toList := vals_get (by rw [List.length_map, Array.length_toList, Array.length_toList]; exact hacc.1.symm) fun j u hu => by
      obtain ⟨c, t', h1, rfl⟩ := hacc.2 j u (by rw [← Array.getElem?_toList]; exact hu)
      exact ⟨.str ⟨#[c]⟩, by rw [List.getElem?_map, Array.getElem?_toList, h1]; rfl, ⟨t', rfl⟩⟩
    refine ⟨.ref _, _, I.laid (t' := tk) (o := .lst (a.cps.toList.map fun c => V.str ⟨#[c]⟩)) hk (Nat.le_refl _) ⟨?_, acc.toList, c, vs, ?_⟩, rfl, q _ hn⟩
    · rw [List.length_map]
      exact hz
    · simpa using hS
theorem cn_lstS (hc : X.calm = true) : CallN X (.type "list") bLstS := CallR.any fun xs H Q => by
  rintro ⟨F, ds, R, hx, r, hg, k⟩
  unfold bLstS at hg
  split at hg
  · obtain ⟨v, rfl, q⟩ := r.one_of
    cases q
    exact ⟨_, call_list_s hc, _, rfl, hg.1, fun l hl => k _ _ _ hg.2 (reps_signs _) hl⟩
  · exact ⟨_, cn_lst, F, ds, R, hx, r, hg, k⟩
theorem bLstS_l : ∀ ds R, bLstS ds R → bLstS ds fun d => R d ∧ ∃ es, d = .lst es := fun ds R h => by
  unfold bLstS at h ⊢
  split at h
  · exact ⟨h.1, h.2, _, rfl⟩
  · exact bLst_l _ _ h
theorem cv_lstS (hc : X.calm = true) : CallV X (.type "list") bLstS := vn_vc (cn_lstS hc) bLstS_l
end
/-- a block without free names fits any outer scope -/
theorem blk_any {N : List Str} {sc sc2 scope : Scope} {own : List (Str × Nat)} (h : BlkOk N sc scope own) (hf : scope.names.all (fun y => y.2 != .free) = true) : BlkOk N sc2 scope own := ⟨h.kind, h.uniq, h.ix, fun y hy e => by
  have := List.all_eq_true.mp hf y hy
  rw [e] at this
  exact absurd this (by decide), h.own⟩
end VL

set_option Elab.async false
set_option linter.all false
set_option maxRecDepth 100000
set_option maxHeartbeats 400000
/-! VL10: exceptions of own classes; classes and their instances. -/
namespace VL
open PySem PySem.Spec PyProof.Rows L2
/-! ### exceptions -/
section
variable {X : Cx} {C : Addr} {bmB : List Value} {B newId initId : String}
/-- X() -/
theorem pmk_own0 {x : Str} {p pos : Pos} (F : ExcBaseFacts B newId initId bmB) (q : PySem.W.excIn X.K C bmB newId = true) (gC : X.mg x = some (.ref C)) (kC : PySem.W.keepIn X.K (.ref C) = true) (r : Raises X (.ref C)) (hg : Gl X x)
    (hdb : (x == ("__debug__" : Str)) = false := by decide) : PMk X (.Call (.Name x p) [] [] pos) (fun _ H Q => Q (.ref C) none H) := by
  intro pins s σ H Q I h
  refine PySem.wpAny_Call_Name_kw (ld_glob I hg gC ?_ hdb)
  refine PySem.W.callWith_K0 I.kIn kC ?_
  obtain ⟨bm, N, nm, qn, bs, hdct, sn, sub, ab, col, dd, k0, k1, k2, k3, k5, mN, hC, hN, hni, T⟩ := exc_obj I.kIn q
  refine wpAny_call_exc_subT F T hC hN hni (fun h' e hm => ?_) (Nat.zero_le _)
  exact mk_of I hm r h (I.hok.gone hm.new)
end
/-- what an expression that raises must show -/
def Px (K : PySem.W.Frag) (W : L2.WX) (xx : Str → List (Str × D) → Sg → Prop) : En → Prop := fun E => ∀ c fs S' cls dd σ' F' H', xx c fs S' → XAt K F' c fs cls dd → Rel K E F' H' σ' S' → W cls dd σ' H'
/-- raise, an own class without fields -/
def wRaise (c : Str) : WS := fun T S => T.xx c [] S
theorem ds_raise {X : Cx} {c : Str} {e : Expr} {pos : Pos} {W : L2.WX} (hc : X.calm = true) (tk : Takes X W) (he : PMk X e (fun _ H Q => Q (.ref (clsAt X.K c)) none H)) : DS X W (.Raise (some e) none pos) (wRaise c) := fun E => PS.imp (ps_raise hc tk he) fun D σ H => by
  rintro ⟨S, F, R, hR, hw, k1, k2, k3, k4, k5⟩
  exact k5 c [] S _ _ σ F H hw ⟨rfl, .inl ⟨rfl, rfl⟩⟩ hR
/-- what is wanted behind a body that may raise -/
def FiX (R : D → Oh → Prop) (Y : XC) : We := ⟨fun S => R .non S.h, fun d S => R d S.h, fun _ => False, fun _ => False, fun c fs S => Y c fs S.h⟩
/-- a promise that may raise -/
def spOfX (K : PySem.W.Frag) (n : Nat) (sp : Spc) : Sp := fun vs H Q E => ∃ F ds h R Y, ds.length = n ∧ Ext F H ∧ Reps K F vs ds ∧ (∀ a ob, h a = some ob → ObAt K F H a ob ∧ F a = none) ∧ sp ds h R Y ∧
  (∀ r h' v F' H', R r h' → Rep K F' v r → Gr K ⟨F, H, h, fun _ => False⟩ F' H' h' → Q v H') ∧ ∀ c fs h' F' H' cls dd, Y c fs h' → XAt K F' c fs cls dd → Gr K ⟨F, H, h, fun _ => False⟩ F' H' h' → E cls dd H'
def PkX (n u : Nat) (sp : Spc) (w : WS) : Prop := ∀ ds h R Y, ds.length = n → sp ds h R Y → w (FiX R Y) ⟨ds.map .f ++ List.replicate u .u, h⟩
/-- a def that may raise keeps its promise, by its body -/
theorem fn_okX {P : Program} {w : World} {K : PySem.W.Frag} {mg : Str → Option Value} {base : Heap} {x qual : Str} {st : Stmt} {f : Addr} {fd : FuncData} {N ps : List Str} {k n : Nat} {ws : WS} {spc : Spc} (F : Fun K x qual st f fd) (S : FnScope N ps (defScope st)) (hn : ps.length = n)
    (hb : ∀ (cdv : Value) (A : Around) (outer : List Env) (s : Shared) (H : Hp) (E : XK), Room k (A.deeper (PyProof.Rows.envOfC qual (defScope st) s.heap.objs.size f cdv)) → DSs (cxOf (L2.CX P w) P w K mg base N qual (defScope st) f cdv A outer s H E) (fun cls dd _ H' => E cls dd H') (defBody st) ws)
    (hw : PkX n (N.length - n) spc ws) : FnOk P w K mg base (L2.CX P w) (k + 1) f fd ps (spOfX K n spc) := by
  refine F.okX S (fun vs H Q E h => ?_) (fun cdv A outer s H vs Q E hr h => ?_)
  · obtain ⟨F, ds, h, R, Y, h1, _, h2, _⟩ := h
    rw [h2.length, h1, hn]
  · obtain ⟨F, ds, h, R, Y, h1, h2, h3, h4, h5, h6, h7⟩ := h
    refine ⟨_, hb cdv A outer s H E hr ⟨F, H, h, fun _ => False⟩, _, F, _, ?_, hw ds h R Y h1 h5, fun S' σ' F' H' q r x => h6 _ _ _ F' H' q .non r.g, fun _ _ _ _ q => q.elim, fun _ _ _ _ q => q.elim, fun d S' v σ' F' H' q r' r x => h6 d _ v F' H' q r' r.g, fun c fs S' cls dd σ' F' H' q ax r => h7 c fs _ F' H' cls dd q ax r.g⟩
    have nof : ∀ (i : Nat) (d : D), (ds.map Sl.f ++ List.replicate (N.length - n) Sl.u)[i]? ≠ some (.o d) := fun i d e => by
      rcases Nat.lt_or_ge i (ds.map Sl.f).length with hl | hl
      · rw [List.getElem?_append_left hl, List.getElem?_map] at e
        cases q : ds[i]? with
        | none => rw [q] at e; cases e
        | some y => rw [q] at e; cases e
      · rw [List.getElem?_append_right hl] at e
        have := List.mem_of_getElem? e
        have := List.eq_of_mem_replicate this
        cases this
    refine ⟨⟨h2, .refl _, fun _ q _ _ => .inl q, fun _ _ q _ _ => q, fun _ q => q, fun _ q => .inl q, h4⟩, ?_, fun i d e => ?_, fun i d e => absurd e (nof i d), fun i j d e p q => absurd q (nof i d)⟩
    · unfold L2.start
      rw [List.length_append, List.length_append, List.length_map, List.length_map, List.length_replicate, List.length_replicate, h3.length, h1]
    · rcases Nat.lt_or_ge i (ds.map Sl.f).length with hl | hl
      · rw [List.getElem?_append_left hl, List.getElem?_map] at e
        cases q : ds[i]? with
        | none => rw [q] at e; cases e
        | some y =>
          rw [q] at e
          cases e
          obtain ⟨v, q1, q2⟩ := h3.get q
          exact ⟨v, start_get q1, q2⟩
      · rw [List.getElem?_append_right hl] at e
        have := List.eq_of_mem_replicate (List.mem_of_getElem? e)
        cases this
/-- a promise is handed on -/
def wCallX (sp : Spc) (ws : WA) (xx : Str → List (Str × D) → Sg → Prop) : WE := fun S R => ws S fun ds S1 => sp ds S1.h (fun r h' => R r ⟨S1.s, h'⟩) (fun c fs h' => xx c fs ⟨S1.s, h'⟩)
section
variable {X : Cx} {Φ : En → Prop} {k n : Nat} {f : Addr} {fd : FuncData} {ps : List Str} {spc : Spc} {x : Str} {p pos : Pos} {e : Expr} {es : List Expr} {ws : WA} {W : L2.WX} {xx : Str → List (Str × D) → Sg → Prop}
theorem de_callX (F : FnOk X.prog X.w X.K X.mg X.base (L2.CX X.prog X.w) k f fd ps (spOfX X.K n spc)) (tk : Takes X W) (hx : ∀ E, Φ E → Px X.K W xx E) (hr : Room k X.A) (hg : Gl X x) (hm : X.mg x = some (.ref f)) (hk : PySem.W.keepIn X.K (.ref f) = true) (hb : Binds X.K fd ps []) (ha : DA X Φ (e :: es) n ws)
    (hdb : (x == ("__debug__" : Str)) = false := by decide) (he : starEach (e :: es) X.env = (false, eval e X.env) :: starEach es X.env := by rfl) (hpl : (backTo pos (starEach es X.env)).any (·.1) = false := by rfl) :
    DE X Φ (.Call (.Name x p) (e :: es) [] pos) (wCallX spc ws xx) := fun E hE => PE.imp (pe_callS F hr hg hm hk hb (fun σ => passAt tk σ) (ha E hE) hdb he hpl) fun σ H Q => by
  rintro ⟨S, F, R, hR, hw, k⟩
  refine ⟨S, F, _, hR, hw, fun ds S1 vs F1 H1 hw1 l1 r1 hR1 x1 => ?_⟩
  exact ⟨F1, ds, S1.h, _, _, l1, hR1.g.ext, r1, hR1.g.obs, hw1, fun r h' v F' H' hr rv g => k r _ v F' H' hr rv (hR1.after g) (x1.trans g.gF), fun c fs h' F' H' cls dd hy ax g => hx E hE c fs _ cls dd σ F' H' hy ax (hR1.after g)⟩
/-- .. where nothing is raised -/
theorem de_callL (F : FnOk X.prog X.w X.K X.mg X.base (L2.CX X.prog X.w) k f fd ps (spOfX X.K n spc)) (hr : Room k X.A) (hg : Gl X x) (hm : X.mg x = some (.ref f)) (hk : PySem.W.keepIn X.K (.ref f) = true) (hb : Binds X.K fd ps []) (ha : DA X Φ (e :: es) n ws)
    (hdb : (x == ("__debug__" : Str)) = false := by decide) (he : starEach (e :: es) X.env = (false, eval e X.env) :: starEach es X.env := by rfl) (hpl : (backTo pos (starEach es X.env)).any (·.1) = false := by rfl) :
    DE X Φ (.Call (.Name x p) (e :: es) [] pos) (wCall spc ws) := fun E hE => PE.imp (pe_call F hr hg hm hk hb .nil passL (ha E hE) hdb he hpl) fun σ H Q => by
  rintro ⟨S, F, R, hR, hw, k⟩
  refine ⟨S, F, _, hR, hw, fun ds S1 vs F1 H1 hw1 l1 r1 hR1 x1 => ?_⟩
  show spOfX X.K n spc (vs ++ []) H1 Q E0
  rw [List.append_nil]
  exact ⟨F1, ds, S1.h, _, NX, l1, hR1.g.ext, r1, hR1.g.obs, hw1, fun r h' v F' H' hr rv g => k r _ v F' H' hr rv (hR1.after g) (x1.trans g.gF), fun c fs h' F' H' cls dd hy => hy.elim⟩
end

/-! ### statements with parts that raise -/
section
variable {X : Cx} {W : L2.WX} {e : Expr} {pos : Pos} {w : (Str → List (Str × D) → Sg → Prop) → WE} {g : WG}
/-- the family of readings of an expression that may raise -/
def LEX (K : PySem.W.Frag) (E : En) (W : L2.WX) (w : (Str → List (Str × D) → Sg → Prop) → WE) : TE := fun σ H Q => ∃ xx, Px K W xx E ∧ LE K E (w xx) σ H Q
def DEX (X : Cx) (W : L2.WX) (e : Expr) (w : (Str → List (Str × D) → Sg → Prop) → WE) : Prop := ∀ xx, DE X (Px X.K W xx) e (w xx)
theorem DEX.pe (h : DEX X W e w) (E : En) : PE X e (LEX X.K E W w) := ⟨fun pins s σ H Q I q => let ⟨xx, hx, q⟩ := q; (h xx E hx).run pins s σ H Q I q⟩
def LTX (K : PySem.W.Frag) (E : En) (W : L2.WX) (w : (Str → List (Str × D) → Sg → Prop) → WT) : TT := fun σ H Q => ∃ xx, Px K W xx E ∧ LT K E (w xx) σ H Q
def DTX (X : Cx) (W : L2.WX) (e : Expr) (w : (Str → List (Str × D) → Sg → Prop) → WT) : Prop := ∀ xx, DT X (Px X.K W xx) e (w xx)
theorem DTX.pt {w : (Str → List (Str × D) → Sg → Prop) → WT} (h : DTX X W e w) (E : En) : PT X e (LTX X.K E W w) := ⟨fun pins s σ H Q I q => let ⟨xx, hx, q⟩ := q; (h xx E hx).run pins s σ H Q I q⟩
theorem ds_asgX {tg : Expr} (he : DEX X W e w) (hg : DG X Tr tg g) (hs : swapsWithSole [tg] e pos.line X.env = pure false := by rfl) (hw : swappedStores [tg] e X.env = pure none := by rfl)
    (h1 : (assignEach [tg] X.env).map (·.2) = [assign tg X.env] := by rfl) : DS X W (.Assign [tg] e pos) (fun T => wAsg (w T.xx) g T) := fun E => PS.imp (ps_asg (he.pe E) (hg E trivial) hs hw h1) fun D σ H => by
  rintro ⟨S, F, R, hR, hw, k1, k2, k3, k4, k5⟩
  refine ⟨R.xx, k5, S, F, _, hR, hw, fun d S1 v F1 H1 hw1 r1 hR1 x1 => ?_⟩
  exact ⟨S1, F1, d, _, hR1, r1, hw1, fun S2 σ2 F2 H2 q r x2 => k1 S2 σ2 F2 H2 q r (x1.trans x2)⟩
theorem ds_setX {x : Str} {pos' : Pos} (i : Nat) (he : DEX X W e w) (h : ∀ te, PE X e te → PS X (.Assign [.Name x pos'] e pos) (tAsg te (L2.gName i))) : DS X W (.Assign [.Name x pos'] e pos) (fun T => wAsg (w T.xx) (gVar i) T) := fun E => PS.imp (h _ (he.pe E)) fun D σ H => by
  rintro ⟨S, F, R, hR, hw, k1, k2, k3, k4, k5⟩
  refine ⟨R.xx, k5, S, F, _, hR, hw, fun d S1 v F1 H1 hw1 r1 hR1 x1 => ?_⟩
  exact k1 _ _ F1 H1 hw1 (hR1.set r1) x1
theorem ds_exprX (he : DEX X W e w) (hs : swapsWith e none pos.line X.env = pure false := by rfl) : DS X W (.Expr e pos) (fun T => wDrop (w T.xx) T) := fun E => PS.imp (ps_expr (he.pe E) hs) fun D σ H => by
  rintro ⟨S, F, R, hR, hw, k1, k2, k3, k4, k5⟩
  exact ⟨R.xx, k5, S, F, _, hR, hw, fun d S1 v F1 H1 hw1 r1 hR1 x1 => k1 S1 σ F1 H1 hw1 hR1 x1⟩
theorem ds_retX (he : DEX X W e w) : DS X W (.Return (some e) pos) (fun T => wRet (w T.xx) T) := fun E => PS.imp (ps_ret (he.pe E)) fun D σ H => by
  rintro ⟨S, F, R, hR, hw, k1, k2, k3, k4, k5⟩
  exact ⟨R.xx, k5, S, F, _, hR, hw, fun d S1 v F1 H1 hw1 r1 hR1 x1 => k4 d S1 v σ F1 H1 hw1 r1 hR1 x1⟩
theorem ds_ifX {wt : (Str → List (Str × D) → Sg → Prop) → WT} {t u : WS} {c : Expr} {body els : List Stmt} (hc : DTX X W c wt) (ha : DSs X W body t) (hb : DSs X W els u) : DS X W (.If c body els pos) (fun T => wIfS (wt T.xx) t u T) := fun E => PS.imp (ps_if (hc.pt E) (ha E) (hb E)) fun D σ H => by
  rintro ⟨S, F, R, hR, hw, k1, k2, k3, k4, k5⟩
  refine ⟨R.xx, k5, S, F, _, hR, hw, fun b S1 F1 H1 hw1 hR1 x1 => ?_⟩
  cases b with
  | true => exact LS.weak x1 hR1 (br_t hw1) (fun S' σ' F' H' q r x => k1 S' σ' F' H' q r (x1.trans x)) k2 k3 k4 k5
  | false => exact LS.weak x1 hR1 (br_f hw1) (fun S' σ' F' H' q r x => k1 S' σ' F' H' q r (x1.trans x)) k2 k3 k4 k5
end

/-! ### try: body, except C: suite -/
/-- the class caught is c, the one that the body raises -/
def wTry (c : Str) (body suite : WS) : WS := fun T S => body { T with xx := fun c' fs S' => c' = c ∧ suite { T with xx := fun _ _ _ => False } S' } S
section
variable {X : Cx} {W : L2.WX} {x c : Str} {C : Addr} {body suite : List Stmt} {b₀ : Stmt} {np pos pos' : Pos} {tb ts : WS}
theorem ds_try (hs : X.stack = X.env :: X.outer) (hf : X.env.frame = some X.env.locals) (hc : Names X x (.ref (clsAt X.K c))) (he : PySem.W.exmOne X.K (.ref (clsAt X.K c)) (.ref (clsAt X.K c)) = some true) (tk : Takes X W)
    (hb : ∀ (W' : L2.WX) (pn : List (Addr × Obj)) (xe : Value → Shared → Prop), Takes (X.tr pn xe) W' → PassesOwn (model X.prog X.w) X.A X.env xe → DSs (X.tr pn xe) W' body tb)
    (hsu : ∀ (W' : L2.WX) (a : Addr) (oe : Obj) (pn : List (Addr × Obj)), DSs (X.suite a ((a, oe) :: pn)) W' (b₀ :: suite) ts) :
    DS X W (.Try body [.ExceptHandler (some (.Name x np)) none (b₀ :: suite) pos'] [] [] pos) (wTry c tb ts) := fun E => PS.imp
    (ps_try_only (tb := fun W' D σ H => ∃ E', LS X.K E' W' tb D σ H) (ts := fun _ _ _ D σ H => ∃ E', LS X.K E' (fun _ _ _ _ => False) ts D σ H) hs hf hc tk
      (fun W' pn xe tk' hp => ⟨fun pins s σ H D I q => let ⟨E', q⟩ := q; ((hb W' pn xe tk' hp) E').run pins s σ H D I q⟩)
      (fun a oe cls d pn _ _ => ⟨fun pins s σ H D I q => let ⟨E', q⟩ := q; ((hsu _ a oe pn) E').run pins s σ H D I q⟩)) fun D σ H => by
  rintro ⟨S, F, R, hR, hw, k1, k2, k3, k4, k5⟩
  refine ⟨_, S, F, _, hR.enter, hw, fun S' σ' F' H' q r x => k1 S' σ' F' H' q (hR.leave r) x, fun S' σ' F' H' q r x => k2 S' σ' F' H' q (hR.leave r) x, fun S' σ' F' H' q r x => k3 S' σ' F' H' q (hR.leave r) x, fun d S' v σ' F' H' q rv r x => k4 d S' v σ' F' H' q rv (hR.leave r) x, fun c' fs S' cls dd σ' F' H' q ax r => ?_⟩
  obtain ⟨rfl, q⟩ := q
  obtain ⟨rfl, _⟩ := ax
  have x0 : Ext F F' := r.g.gF
  refine ⟨true, he, fun _ a ha => ⟨E, S', F', { R with xx := fun _ _ _ => False }, hR.leave r, ?_, fun S2 σ2 F2 H2 q r x => k1 S2 σ2 F2 H2 q r (x0.trans x), fun S2 σ2 F2 H2 q r x => k2 S2 σ2 F2 H2 q r (x0.trans x), fun S2 σ2 F2 H2 q r x => k3 S2 σ2 F2 H2 q r (x0.trans x), fun d S2 v σ2 F2 H2 q rv r x => k4 d S2 v σ2 F2 H2 q rv r (x0.trans x), fun _ _ _ _ _ _ _ _ z => z.elim⟩, fun z => nomatch z⟩
  exact q
end
end VL

set_option Elab.async false
set_option linter.all false
set_option maxRecDepth 100000
set_option maxHeartbeats 400000
/-! VL11: classes and their instances; a list sorted downwards; len(set(..)). -/
namespace VL
open PySem PySem.Spec PyProof.Rows L2
abbrev XX := Str → List (Str × D) → Sg → Prop
/-! ### fields -/
def putD (f : Str) (d : D) : List (Str × D) → List (Str × D)
  | [] => [(f, d)]
  | (g, x) :: r => if g = f then (g, d) :: r else (g, x) :: putD f d r
section
variable {K : PySem.W.Frag} {F H : Hp}
theorem fs_lookup : ∀ {vfs : List (Str × V)} {fs : List (Str × D)} {f : Str} {d : D}, vfs.map (·.1) = fs.map (·.1) → Reps K F (vfs.map (·.2)) (fs.map (·.2)) → fs.lookup f = some d → ∃ v, vfs.lookup f = some v ∧ Rep K F v d
  | [], [], _, _, _, _, h => nomatch h
  | [], _ :: _, _, _, e, _, _ => nomatch e
  | _ :: _, [], _, _, e, _, _ => nomatch e
  | (g, v) :: vfs, (g', x) :: fs, f, d, e, r, h => by
    rw [List.map_cons, List.map_cons] at e
    injection e with e1 e2
    have e1' : g = g' := e1
    subst e1'
    cases r with
    | cons r1 r2 =>
      rw [List.lookup_cons] at h ⊢
      cases q : (f == g) with
      | true =>
        rw [q] at h
        cases h
        exact ⟨v, rfl, r1⟩
      | false =>
        rw [q] at h
        exact fs_lookup e2 r2 h
theorem fs_none : ∀ {vfs : List (Str × V)} {fs : List (Str × D)} {f : Str}, vfs.map (·.1) = fs.map (·.1) → fs.lookup f = none → vfs.lookup f = none
  | [], [], _, _, _ => rfl
  | [], _ :: _, _, e, _ => nomatch e
  | _ :: _, [], _, e, _ => nomatch e
  | (g, v) :: vfs, (g', x) :: fs, f, e, h => by
    rw [List.map_cons, List.map_cons] at e
    injection e with e1 e2
    have e1' : g = g' := e1
    subst e1'
    rw [List.lookup_cons] at h ⊢
    cases q : (f == g) with
    | true =>
      rw [q] at h
      cases h
    | false =>
      rw [q] at h
      exact fs_none e2 h
theorem fs_put {f : Str} {v : V} {d : D} (rv : Rep K F v d) : ∀ {vfs : List (Str × V)} {fs : List (Str × D)}, vfs.map (·.1) = fs.map (·.1) → Reps K F (vfs.map (·.2)) (fs.map (·.2)) →
    (putF f v vfs).map (·.1) = (putD f d fs).map (·.1) ∧ Reps K F ((putF f v vfs).map (·.2)) ((putD f d fs).map (·.2))
  | [], [], _, _ => ⟨rfl, .one rv⟩
  | [], _ :: _, e, _ => nomatch e
  | _ :: _, [], e, _ => nomatch e
  | (g, u) :: vfs, (g', x) :: fs, e, r => by
    rw [List.map_cons, List.map_cons] at e
    injection e with e1 e2
    have e1' : g = g' := e1
    subst e1'
    cases r with
    | cons r1 r2 =>
      unfold putF putD
      by_cases q : g = f
      · rw [if_pos q, if_pos q]
        exact ⟨by rw [List.map_cons, List.map_cons, e2], .cons rv r2⟩
      · rw [if_neg q, if_neg q]
        obtain ⟨h1, h2⟩ := fs_put rv e2 r2
        exact ⟨by rw [List.map_cons, List.map_cons, h1], .cons r1 h2⟩
end
/-- e.f -/
def wFld (c f : Str) (w : WE) : WE := fun S R => w S fun x S1 => ∃ a fs d, x = .obj a ∧ S1.h a = some (.ins c fs) ∧ fs.lookup f = some d ∧ R d S1
/-- e.f = .. -/
def wSetF (c f : Str) (w we : WE) : WS := fun D S => we S fun d S1 => w S1 fun x S2 => ∃ a fs, x = .obj a ∧ S2.h a = some (.ins c fs) ∧ fs.length < 1000 ∧ D.nx (S2.ob a (.ins c (putD f d fs)))
/-- .. a fresh container that becomes a known object -/
def wSetFM (c f : Str) (w we : WE) : WS := fun D S => we S fun d S1 => ∀ q, S1.h q = none → w (S1.ob q (obOf d)) fun x S2 => ∃ a fs, x = .obj a ∧ S2.h a = some (.ins c fs) ∧ fs.length < 1000 ∧ D.nx (S2.ob a (.ins c (putD f (.obj q) fs)))
/-- e.f op= .. -/
def wAugF (c f : Str) (g : O2) (w we : WE) : WS := fun D S => w S fun x S1 => ∃ a fs d, x = .obj a ∧ S1.h a = some (.ins c fs) ∧ fs.lookup f = some d ∧
  we S1 fun e S2 => g d e fun z => ∃ fs', S2.h a = some (.ins c fs') ∧ fs'.length < 1000 ∧ D.nx (S2.ob a (.ins c (putD f z fs')))
/-- what is known of a class of the text: f no attribute of it -/
structure ClsT (K : PySem.W.Frag) (c : Str) : Prop where
  cls : Cls K (clsAt K c)
def NoF (K : PySem.W.Frag) (c f : Str) : Prop := NoAttr K (clsAt K c) f
section
variable {X : Cx} {Φ : En → Prop} {W : L2.WX} {o e value : Expr} {c f : Str} {pos pos' tpos : Pos} {w we : WE}
theorem de_fld (he : DE X Φ e w) (T : ClsT X.K c) (n : NoF X.K c f) (hb : attributeBase e f X.env (eval e X.env) = eval e X.env := by rfl) : DE X Φ (.Attribute e f pos) (wFld c f w) := fun E hE => PE.imp (pe_fld (he E hE) hb) fun σ H Q => by
  rintro ⟨S, F, R, hR, hw, k⟩
  refine ⟨S, F, _, hR, hw, fun x S1 v1 F1 H1 hw1 r1 hR1 x1 => ?_⟩
  obtain ⟨a, fs, d, rfl, h1, h2, q⟩ := hw1
  cases r1
  obtain ⟨dx, vfs, g1, g2, g3⟩ := (hR1.g.obs _ _ h1).1
  obtain ⟨v, q1, q2⟩ := fs_lookup g2 g3 h2
  exact ⟨a, _, dx, vfs, v, rfl, g1, T.cls, n, q1, k d S1 v F1 H1 q q2 hR1 x1⟩
theorem vlen {K : PySem.W.Frag} {F : Hp} {vfs : List (Str × V)} {fs : List (Str × D)} (e : vfs.map (·.1) = fs.map (·.1)) : vfs.length = fs.length := by
  have := congrArg List.length e
  rwa [List.length_map, List.length_map] at this
theorem ds_fld (ho : DE X Tr o w) (hv : DE X Tr value we) (T : ClsT X.K c) (n : NoF X.K c f) (hs : swapsWith value (some (.Attribute o f pos')) pos.line X.env = pure false := by rfl) : DS X W (.Assign [.Attribute o f pos'] value pos) (wSetF c f w we) := fun E => PS.imp (ps_fld (ho E trivial) (hv E trivial) hs) fun D σ H => by
  rintro ⟨S, F, R, hR, hw, k1, k2, k3, k4, k5⟩
  refine ⟨S, F, _, hR, hw, fun d S1 v1 F1 H1 hw1 r1 hR1 x1 => ?_⟩
  refine ⟨S1, F1, _, hR1, hw1, fun x S2 v2 F2 H2 hw2 r2 hR2 x2 => ?_⟩
  obtain ⟨a, fs, rfl, h1, h2, q⟩ := hw2
  cases r2
  obtain ⟨dx, vfs, g1, g2, g3⟩ := (hR2.g.obs _ _ h1).1
  obtain ⟨p1, p2⟩ := fs_put (f := f) (r1.mono x2) g2 g3
  exact ⟨a, _, dx, vfs, rfl, g1, T.cls, n, by rw [vlen (K := X.K) (F := F2) g2]; exact h2, k1 _ σ F2 _ q (hR2.obput (by rw [h1]; simp) ⟨dx, _, upd_same, p1, p2⟩) (x1.trans x2)⟩
theorem ds_fldM (ho : DE X Tr o w) (hv : DN X Tr value we) (T : ClsT X.K c) (n : NoF X.K c f) (hs : swapsWith value (some (.Attribute o f pos')) pos.line X.env = pure false := by rfl) : DS X W (.Assign [.Attribute o f pos'] value pos) (wSetFM c f w we) := fun E => PS.imp (ps_fld (ho E trivial) (hv E trivial) hs) fun D σ H => by
  rintro ⟨S, F, R, hR, hw, k1, k2, k3, k4, k5⟩
  refine ⟨S, F, _, hR, hw, fun d S1 p F1 H1 hw1 fr hR1 x1 => ?_⟩
  have ha : ObAt X.K F1 H1 p (obOf d) := by
    have z := fr.at_
    cases d <;> first | exact z | exact z.elim
  refine ⟨_, F1, _, hR1.obnew fr ha, hw1 p fr.nh, fun x S2 v2 F2 H2 hw2 r2 hR2 x2 => ?_⟩
  obtain ⟨a, fs, rfl, h1, h2, q⟩ := hw2
  cases r2
  obtain ⟨dx, vfs, g1, g2, g3⟩ := (hR2.g.obs _ _ h1).1
  obtain ⟨p1, p2⟩ := fs_put (f := f) (v := .ref p) (d := .obj p) (.obj p) g2 g3
  exact ⟨a, _, dx, vfs, rfl, g1, T.cls, n, by rw [vlen (K := X.K) (F := F2) g2]; exact h2, k1 _ σ F2 _ q (hR2.obput (by rw [h1]; simp) ⟨dx, _, upd_same, p1, p2⟩) (x1.trans x2)⟩
theorem ds_augF {op : Operator} {g : O2} (hp : OpV X (inplaceOp op) g) (ho : DE X Tr o w) (hv : DE X Tr value we) (T : ClsT X.K c) (n : NoF X.K c f) : DS X W (.AugAssign (.Attribute o f tpos) op value pos) (wAugF c f g w we) := fun E => PS.imp (ps_fldaug (ho E trivial) (hv E trivial) hp) fun D σ H => by
  rintro ⟨S, F, R, hR, hw, k1, k2, k3, k4, k5⟩
  refine ⟨S, F, _, hR, hw, fun x S1 v1 F1 H1 hw1 r1 hR1 x1 => ?_⟩
  obtain ⟨a, fs, d, rfl, h1, h2, hw1⟩ := hw1
  cases r1
  obtain ⟨dx, vfs, g1, g2, g3⟩ := (hR1.g.obs _ _ h1).1
  obtain ⟨v, q1, q2⟩ := fs_lookup g2 g3 h2
  refine ⟨a, _, dx, vfs, v, rfl, g1, T.cls, n, q1, S1, F1, _, hR1, hw1, fun e S2 v2 F2 H2 hw2 r2 hR2 x2 => ?_⟩
  refine ⟨F2, d, e, _, hR2.g.ext, q2.mono x2, r2, hw2, fun z u F' H' hz rz al => ?_⟩
  obtain ⟨fs', h3, h4, q⟩ := hz
  have hR3 := hR2.al al
  obtain ⟨dx', vfs', g1', g2', g3'⟩ := (hR3.g.obs _ _ h3).1
  obtain ⟨p1, p2⟩ := fs_put (f := f) rz g2' g3'
  exact ⟨dx', vfs', g1', by rw [vlen (K := X.K) (F := F') g2']; exact h4, k1 _ σ F' _ q (hR3.obput (by rw [h3]; simp) ⟨dx', _, upd_same, p1, p2⟩) ((x1.trans x2).trans al.xF)⟩
end

/-! ### new instances -/
/-- a new instance becomes a known object -/
theorem Rel.obmake {K : PySem.W.Frag} {E : En} {F H : Hp} {σ : L2.St} {S : Sg} {c : Str} {x dx : Addr} (R : Rel K E F H σ S) (hx : H x = none) (hd : H dx = none) (ne : dx ≠ x) :
    Rel K E F (upd (upd H dx (.own x)) x (.ins (clsAt K c) dx [])) σ (S.ob x (.ins c [])) := by
  have R1 := (R.fresh (o := .own x) hd).1
  have hx1 : (upd H dx (.own x)) x = none := by rw [upd_ne (Ne.symm ne)]; exact hx
  obtain ⟨R2, nF, nh, nE, no⟩ := R1.fresh (o := .ins (clsAt K c) dx []) hx1
  refine ⟨⟨R2.g.ext, R2.g.gF, R2.g.gN, R2.g.gH, R2.g.gP, fun b q => ?_, fun b ob q => ?_⟩, R2.len, R2.frz, fun j e' h => ?_, R2.inj⟩
  · by_cases hb : b = x
    · subst hb; exact .inr (.inl nE)
    · have q' : S.h.put x _ b ≠ none := q
      rw [Oh.put_ne hb] at q'; exact R2.g.gO b q'
  · have q' : S.h.put x _ b = some ob := q
    by_cases hb : b = x
    · subst hb
      rw [Oh.put_same] at q'; cases q'
      exact ⟨⟨dx, [], upd_same, rfl, .nil⟩, nF⟩
    · rw [Oh.put_ne hb] at q'
      exact R2.g.obs b ob q'
  · obtain ⟨q, q1, q2, q3, q4, q5⟩ := R2.own j e' h
    have nq : q ≠ x := fun z => no j e' h (z ▸ q1)
    exact ⟨q, q1, q2, q3, by show S.h.put x _ q = none; rw [Oh.put_ne nq]; exact q4, q5⟩
def wMake (c : Str) (sp : Spc) (ws : WA) : WE := fun S R => ws S fun ds S1 => ∀ a, S1.h a = none → sp (.obj a :: ds) (S1.h.put a (.ins c [])) (fun r h' => r = .non ∧ R (.obj a) ⟨S1.s, h'⟩) NX
def wMakeX (c : Str) (sp : Spc) (ws : WA) (xx : XX) : WE := fun S R => ws S fun ds S1 => ∀ a, S1.h a = none → sp (.obj a :: ds) (S1.h.put a (.ins c [])) (fun r h' => r = .non ∧ R (.obj a) ⟨S1.s, h'⟩) (fun c' fs h' => xx c' fs ⟨S1.s, h'⟩)
/-- o.m(..) -/
def wMeth (c m : Str) (sp : Spc) (w : WE) (ws : WA) : WE := fun S R => w S fun x S1 => ∃ a fs, x = .obj a ∧ S1.h a = some (.ins c fs) ∧ fs.lookup m = none ∧ ws S1 fun ds S2 => sp (.obj a :: ds) S2.h (fun r h' => R r ⟨S2.s, h'⟩) NX
def wMethX (c m : Str) (sp : Spc) (w : WE) (ws : WA) (xx : XX) : WE := fun S R => w S fun x S1 => ∃ a fs, x = .obj a ∧ S1.h a = some (.ins c fs) ∧ fs.lookup m = none ∧ ws S1 fun ds S2 => sp (.obj a :: ds) S2.h (fun r h' => R r ⟨S2.s, h'⟩) (fun c' fs h' => xx c' fs ⟨S2.s, h'⟩)
section
variable {X : Cx} {CX : CXT} {k : Nat} {f C : Addr} {fd : FuncData} {ps : List Str} {sp : Sp} {E : L2.St → XK} {x m : Str} {p pos apos : Pos} {e o : Expr} {es : List Expr} {ta : TE} {t : TA}
/-- C(..) that may raise -/
def tMakeE (C : Addr) (sp : Sp) (E : L2.St → XK) (t : TA) : TE := fun σ H Q => t σ H fun vs H1 => ∀ x dx, H1 x = none → H1 dx = none → dx ≠ x →
  sp (.ref x :: vs) (upd (upd H1 dx (.own x)) x (.ins C dx [])) (fun v H2 => v = .non ∧ Q (.ref x) H2) (E σ)
theorem run_makeE {pins : List (Addr × Obj)} {σ : L2.St} {H : Hp} {s : Shared} {Q : VK} {us : List Value} {vs : List V} (M : Mk X.K C f) (F : FnOk X.prog X.w X.K X.mg X.base CX k f fd ps sp) (hr : Room (k + 1) X.A) (hb : Binds X.K fd ps [])
    (hx : PassesAt CX X σ (E σ)) (I : Inv X pins σ H s) (r : Vals vs us)
    (h : ∀ x dx, H x = none → H dx = none → dx ≠ x → sp (.ref x :: vs) (upd (upd H dx (.own x)) x (.ins C dx [])) (fun v H2 => v = .non ∧ Q (.ref x) H2) (E σ)) :
    wpAny (model X.prog X.w) X.A (call (.ref C) us) (EP X pins σ Q) X.xe s := by
  have hq := h (s.heap.objs.size + 1) s.heap.objs.size (I.hok.fresh (Nat.le_succ _)) (I.hok.fresh (Nat.le_refl _)) (Nat.ne_of_lt (Nat.lt_succ_self _))
  have I2 := Inv.made (C := C) I
  have r2 : Vals (V.ref (s.heap.objs.size + 1) :: vs) (Value.ref (s.heap.objs.size + 1) :: us) := .cons rfl r
  have hl : (Value.ref (s.heap.objs.size + 1) :: us ++ []).length = ps.length := by
    have e := r2.length
    rw [F.len _ _ _ _ hq] at e
    rw [List.append_nil]
    exact e.symm
  have hbb := hb _ (Value.ref (s.heap.objs.size + 1) :: us) I2.kIn hl
  rw [List.append_nil] at hbb
  refine wpAny_call (make_map (f := f) I.kIn M.makes M.init (beq_iff_eq.mp M.fn) (codeAny_mono (F.run _ X.stack _ _ ⟨Value.ref (s.heap.objs.size + 1) :: us, []⟩ (Value.ref (s.heap.objs.size + 1) :: us) _ _ (E σ) (hr.make C us [])
    (I2.env0.make C us []) hbb r2 hq) fun r s' hq' => ?_))
  cases r with
  | error e => exact hx pins _ _ e s' I2 hq'
  | ok fl =>
    cases fl with
    | ret u =>
      obtain ⟨v, H', I3, rv, ev, q3⟩ := I2.after hq'
      subst ev
      exact ⟨rv, ⟨V.ref (s.heap.objs.size + 1), H', I3, rfl, q3⟩⟩
    | next => exact False.elim hq'
    | brk => exact False.elim hq'
    | cont => exact False.elim hq'
theorem pe_makeE (M : Mk X.K C f) (F : FnOk X.prog X.w X.K X.mg X.base CX k f fd ps sp) (hr : Room (k + 1) X.A) (hg : Gl X x) (hm : X.mg x = some (.ref C)) (hb : Binds X.K fd ps []) (hx : ∀ σ, PassesAt CX X σ (E σ))
    (ha : PA X (e :: es) t) (hdb : (x == ("__debug__" : Str)) = false := by decide) (he : starEach (e :: es) X.env = (false, eval e X.env) :: starEach es X.env := by rfl) (hpl : (backTo pos (starEach es X.env)).any (·.1) = false := by rfl) :
    PE X (.Call (.Name x p) (e :: es) [] pos) (tMakeE C sp E t) := by
  refine ⟨fun pins s σ H Q I h => ?_⟩
  refine wpAny_Call_Name_kw (ld_glob I hg hm ?_ hdb)
  refine PySem.W.callWith_K (h₀ := X.base) I.ok.mod.kin M.kp (thn (ha.run pos pins s σ H _ I h) fun us s1 ⟨vs, H1, I1, r, q⟩ => ⟨I1.kIn, ?_⟩) he hpl
  exact run_makeE M F hr hb (hx σ) I1 r q
theorem pe_makeE0 (M : Mk X.K C f) (F : FnOk X.prog X.w X.K X.mg X.base CX k f fd ps sp) (hr : Room (k + 1) X.A) (hg : Gl X x) (hm : X.mg x = some (.ref C)) (hb : Binds X.K fd ps []) (hx : ∀ σ, PassesAt CX X σ (E σ))
    (hdb : (x == ("__debug__" : Str)) = false := by decide) : PE X (.Call (.Name x p) [] [] pos) (tMakeE C sp E tNil) := by
  refine ⟨fun pins s σ H Q I h => ?_⟩
  refine wpAny_Call_Name_kw (ld_glob I hg hm ?_ hdb)
  exact PySem.W.callWith_K0 I.kIn M.kp (run_makeE (us := []) M F hr hb (hx σ) I .nil h)
def tMethE (C : Addr) (m : Str) (sp : Sp) (E : L2.St → XK) (ta : TE) (t : TA) : TE := fun σ H Q => ta σ H fun x H1 => ∃ a dx fs, x = .ref a ∧ H1 a = some (.ins C dx fs) ∧ fs.lookup m = none ∧
  t σ H1 fun vs H2 => sp (x :: vs) H2 Q (E σ)
theorem pe_methE {pl : Sem Bool} (he : PE X o ta) (c : Cls X.K C) (hm : Meth X.K C m f) (F : FnOk X.prog X.w X.K X.mg X.base CX k f fd ps sp) (hr : Room k X.A) (hb : Binds X.K fd ps []) (hx : ∀ σ, PassesAt CX X σ (E σ)) (ha : PA X (e :: es) t)
    (hst : starEach (e :: es) X.env = (false, eval e X.env) :: starEach es X.env := by rfl) (hpl : (backTo pos (starEach es X.env)).any (·.1) = false := by rfl)
    (ht : eval (.Call (.Attribute o m apos) (e :: es) [] pos) X.env = (do
      let ov ← eval o X.env
      standAt apos.atName
      let (f, first) ← holding [ov] (getMethod ov m pl)
      callWith pos f first (backTo pos (starEach (e :: es) X.env)) (backToKw pos (keywordEach [] X.env))) := by rfl) :
    PE X (.Call (.Attribute o m apos) (e :: es) [] pos) (tMethE C m sp E ta t) := by
  refine ⟨fun pins s σ H Q I h => ?_⟩
  refine PySem.W.methodCall_KW (pl := pl) (thn (he.run pins s σ H _ I h) fun u s1 ⟨x, H1, I1, rx, a, dx, fs, ex, ea, l, q⟩ => ?_) ht
  subst ex
  obtain rfl : u = Value.ref a := rx
  refine getmeth_ok I1 ea c hm l ?_
  refine PySem.W.callWith_K (first := [.ref a]) (h₀ := X.base) I.ok.mod.kin hm.kp (thn (ha.run pos pins s1 σ H1 _ I1 q) fun us s2 ⟨vs, H2, I2, r, q2⟩ => ⟨I2.kIn, ?_⟩) hst hpl
  exact run_fnS (us := .ref a :: us) (vs := .ref a :: vs) F hr hb (hx σ) I2 (.cons rfl r) q2
theorem pe_methE0 {pl : Sem Bool} (he : PE X o ta) (c : Cls X.K C) (hm : Meth X.K C m f) (F : FnOk X.prog X.w X.K X.mg X.base CX k f fd ps sp) (hr : Room k X.A) (hb : Binds X.K fd ps []) (hx : ∀ σ, PassesAt CX X σ (E σ))
    (ht : eval (.Call (.Attribute o m apos) [] [] pos) X.env = (do
      let ov ← eval o X.env
      standAt apos.atName
      let (f, first) ← holding [ov] (getMethod ov m pl)
      callWith pos f first (backTo pos (starEach [] X.env)) (backToKw pos (keywordEach [] X.env))) := by rfl) :
    PE X (.Call (.Attribute o m apos) [] [] pos) (tMethE C m sp E ta tNil) := by
  refine ⟨fun pins s σ H Q I h => ?_⟩
  refine PySem.W.methodCall_KW (pl := pl) (thn (he.run pins s σ H _ I h) fun u s1 ⟨x, H1, I1, rx, a, dx, fs, ex, ea, l, q⟩ => ?_) ht
  subst ex
  obtain rfl : u = Value.ref a := rx
  refine getmeth_ok I1 ea c hm l ?_
  exact PySem.W.callWith_K0 (first := [.ref a]) I1.kIn hm.kp (run_fnS (us := [.ref a]) (vs := [.ref a]) F hr hb (hx σ) I1 (.cons rfl .nil) q)
end
theorem pass0S {X : Cx} (σ : L2.St) : PassesAt CX0 X σ E0 := fun _ _ _ _ _ _ h => h.elim
theorem passLS {X : Cx} (σ : L2.St) : PassesAt (L2.CX X.prog X.w) X σ E0 := fun pins H s e s' I c => passL pins σ H s e s' I c
section
variable {X : Cx} {Φ : En → Prop} {CX : CXT} {k n : Nat} {f : Addr} {fd : FuncData} {ps : List Str} {spc : Spc} {x c m : Str} {p pos apos : Pos} {e o : Expr} {es : List Expr} {w : WE} {ws : WA} {W : L2.WX} {xx : XX}
theorem make_read {K : PySem.W.Frag} {E : En} {σ : L2.St} {H : Hp} {Q : VK} {sp : Spc} {EE : L2.St → XK} (sq : Sp) (hsq : ∀ vs H Q (E2 : XK) F ds h R Y, ds.length = n + 1 → Ext F H → Reps K F vs ds → (∀ a ob, h a = some ob → ObAt K F H a ob ∧ F a = none) → sp ds h R Y →
      (∀ r h' v F' H', R r h' → Rep K F' v r → Gr K ⟨F, H, h, fun _ => False⟩ F' H' h' → Q v H') → (∀ c fs h' F' H' cls dd, Y c fs h' → XAt K F' c fs cls dd → Gr K ⟨F, H, h, fun _ => False⟩ F' H' h' → E2 cls dd H') → sq vs H Q E2)
    (Y : XX) (hy : ∀ c fs S' cls dd F' H', Y c fs S' → XAt K F' c fs cls dd → Rel K E F' H' σ S' → EE σ cls dd H')
    (hq : LE K E (fun S R => ws S fun ds S1 => ∀ a, S1.h a = none → sp (.obj a :: ds) (S1.h.put a (.ins c [])) (fun r h' => r = .non ∧ R (.obj a) ⟨S1.s, h'⟩) (fun c' fs h' => Y c' fs ⟨S1.s, h'⟩)) σ H Q) :
    tMakeE (clsAt K c) sq EE (LA K E n ws) σ H Q := by
  obtain ⟨S, F, R, hR, hw, k⟩ := hq
  refine ⟨S, F, _, hR, hw, fun ds S1 vs F1 H1 hw1 l1 r1 hR1 x1 => fun x dx hx hd ne => ?_⟩
  have hR2 := hR1.obmake (c := c) hx hd ne
  refine hsq _ _ _ _ F1 (.obj x :: ds) _ _ _ (by rw [List.length_cons, l1]) hR2.g.ext (.cons (.obj x) r1) hR2.g.obs (hw1 x (hR1.g.noob hx)) (fun r h' v F' H' hr rv g => ?_) fun c fs h' F' H' cls dd q ax g => hy c fs _ cls dd F' H' q ax (hR2.after g)
  obtain ⟨rfl, hr⟩ := hr
  cases rv
  exact ⟨rfl, k (.obj x) ⟨S1.s, h'⟩ _ F' H' hr (.obj x) (hR2.after g) (x1.trans g.gF)⟩
theorem de_make (M : Mk X.K (clsAt X.K c) f) (F : FnOk X.prog X.w X.K X.mg X.base CX0 k f fd ps (spOf X.K (n + 1) spc)) (hr : Room (k + 1) X.A) (hg : Gl X x) (hm : X.mg x = some (.ref (clsAt X.K c))) (hb : Binds X.K fd ps []) (ha : DA X Φ (e :: es) n ws)
    (hdb : (x == ("__debug__" : Str)) = false := by decide) (he : starEach (e :: es) X.env = (false, eval e X.env) :: starEach es X.env := by rfl) (hpl : (backTo pos (starEach es X.env)).any (·.1) = false := by rfl) :
    DE X Φ (.Call (.Name x p) (e :: es) [] pos) (wMake c spc ws) := fun E hE => PE.imp (pe_makeE M F hr hg hm hb (fun σ => pass0S σ) (ha E hE) hdb he hpl) fun σ H Q hq =>
  make_read (Y := fun _ _ _ => False) (EE := fun _ => E0) (spOf X.K (n + 1) spc) (fun vs H Q E2 F ds h R Y a1 a2 a3 a4 a5 a6 a7 => ⟨F, ds, h, R, a1, a2, a3, a4, a5, a6⟩) (fun _ _ _ _ _ _ _ z => z.elim) hq
theorem de_make0 (M : Mk X.K (clsAt X.K c) f) (F : FnOk X.prog X.w X.K X.mg X.base CX0 k f fd ps (spOf X.K 1 spc)) (hr : Room (k + 1) X.A) (hg : Gl X x) (hm : X.mg x = some (.ref (clsAt X.K c))) (hb : Binds X.K fd ps [])
    (hdb : (x == ("__debug__" : Str)) = false := by decide) :
    DE X Φ (.Call (.Name x p) [] [] pos) (wMake c spc wNil) := fun E hE => PE.imp (pe_makeE0 M F hr hg hm hb (fun σ => pass0S σ) hdb) fun σ H Q hq => by
  have z := make_read (n := 0) (Y := fun _ _ _ => False) (EE := fun _ => E0) (spOf X.K 1 spc) (fun vs H Q E2 F ds h R Y a1 a2 a3 a4 a5 a6 a7 => ⟨F, ds, h, R, a1, a2, a3, a4, a5, a6⟩) (fun _ _ _ _ _ _ _ z => z.elim) hq
  obtain ⟨S, F, R, hR, hw, k⟩ := z
  exact k [] S [] F H hw rfl .nil hR (.refl _)
/-- a class whose __init__ may raise, where it does not -/
theorem de_makeL (M : Mk X.K (clsAt X.K c) f) (F : FnOk X.prog X.w X.K X.mg X.base (L2.CX X.prog X.w) k f fd ps (spOfX X.K (n + 1) spc)) (hr : Room (k + 1) X.A) (hg : Gl X x) (hm : X.mg x = some (.ref (clsAt X.K c))) (hb : Binds X.K fd ps []) (ha : DA X Φ (e :: es) n ws)
    (hdb : (x == ("__debug__" : Str)) = false := by decide) (he : starEach (e :: es) X.env = (false, eval e X.env) :: starEach es X.env := by rfl) (hpl : (backTo pos (starEach es X.env)).any (·.1) = false := by rfl) :
    DE X Φ (.Call (.Name x p) (e :: es) [] pos) (wMake c spc ws) := fun E hE => PE.imp (pe_makeE M F hr hg hm hb (fun σ => passLS σ) (ha E hE) hdb he hpl) fun σ H Q hq =>
  make_read (sp := spc) (Y := fun _ _ _ => False) (EE := fun _ => E0) (spOfX X.K (n + 1) spc) (fun vs H Q E2 F ds h R Y a1 a2 a3 a4 a5 a6 a7 => ⟨F, ds, h, R, Y, a1, a2, a3, a4, a5, a6, a7⟩) (fun _ _ _ _ _ _ _ z => z.elim) hq
theorem de_makeX (M : Mk X.K (clsAt X.K c) f) (F : FnOk X.prog X.w X.K X.mg X.base (L2.CX X.prog X.w) k f fd ps (spOfX X.K (n + 1) spc)) (tk : Takes X W) (hx : ∀ E, Φ E → Px X.K W xx E) (hr : Room (k + 1) X.A) (hg : Gl X x) (hm : X.mg x = some (.ref (clsAt X.K c))) (hb : Binds X.K fd ps []) (ha : DA X Φ (e :: es) n ws)
    (hdb : (x == ("__debug__" : Str)) = false := by decide) (he : starEach (e :: es) X.env = (false, eval e X.env) :: starEach es X.env := by rfl) (hpl : (backTo pos (starEach es X.env)).any (·.1) = false := by rfl) :
    DE X Φ (.Call (.Name x p) (e :: es) [] pos) (wMakeX c spc ws xx) := fun E hE => PE.imp (pe_makeE M F hr hg hm hb (fun σ => passAt tk σ) (ha E hE) hdb he hpl) fun σ H Q hq =>
  make_read (sp := spc) (Y := xx) (EE := L2.WE W) (spOfX X.K (n + 1) spc) (fun vs H Q E2 F ds h R Y a1 a2 a3 a4 a5 a6 a7 => ⟨F, ds, h, R, Y, a1, a2, a3, a4, a5, a6, a7⟩) (fun c' fs S' cls dd F' H' q ax r => hx E hE c' fs S' cls dd σ F' H' q ax r) hq
theorem meth_read {K : PySem.W.Frag} {E : En} {σ : L2.St} {H : Hp} {Q : VK} {sp : Spc} {EE : L2.St → XK} (sq : Sp) (hsq : ∀ vs H Q (E2 : XK) F ds h R Y, ds.length = n + 1 → Ext F H → Reps K F vs ds → (∀ a ob, h a = some ob → ObAt K F H a ob ∧ F a = none) → sp ds h R Y →
      (∀ r h' v F' H', R r h' → Rep K F' v r → Gr K ⟨F, H, h, fun _ => False⟩ F' H' h' → Q v H') → (∀ c fs h' F' H' cls dd, Y c fs h' → XAt K F' c fs cls dd → Gr K ⟨F, H, h, fun _ => False⟩ F' H' h' → E2 cls dd H') → sq vs H Q E2)
    (Y : XX) (hy : ∀ c fs S' cls dd F' H', Y c fs S' → XAt K F' c fs cls dd → Rel K E F' H' σ S' → EE σ cls dd H')
    (hq : LE K E (fun S R => w S fun x S1 => ∃ a fs, x = .obj a ∧ S1.h a = some (.ins c fs) ∧ fs.lookup m = none ∧ ws S1 fun ds S2 => sp (.obj a :: ds) S2.h (fun r h' => R r ⟨S2.s, h'⟩) (fun c' fs h' => Y c' fs ⟨S2.s, h'⟩)) σ H Q) :
    tMethE (clsAt K c) m sq EE (LE K E w) (LA K E n ws) σ H Q := by
  obtain ⟨S, F, R, hR, hw, k⟩ := hq
  refine ⟨S, F, _, hR, hw, fun x S1 v F1 H1 hw1 r1 hR1 x1 => ?_⟩
  obtain ⟨a, fs, rfl, h1, h2, hw1⟩ := hw1
  cases r1
  obtain ⟨dx, vfs, g1, g2, g3⟩ := (hR1.g.obs _ _ h1).1
  refine ⟨a, dx, vfs, rfl, g1, fs_none g2 h2, S1, F1, _, hR1, hw1, fun ds S2 vs F2 H2 hw2 l2 r2 hR2 x2 => ?_⟩
  exact hsq _ _ _ _ F2 (.obj a :: ds) _ _ _ (by rw [List.length_cons, l2]) hR2.g.ext (.cons (.obj a) r2) hR2.g.obs hw2 (fun r h' v F' H' hr rv g => k r _ v F' H' hr rv (hR2.after g) ((x1.trans x2).trans g.gF)) fun c fs h' F' H' cls dd q ax g => hy c fs _ cls dd F' H' q ax (hR2.after g)
theorem meth_read0 {K : PySem.W.Frag} {C : Addr} {E : En} {EE : L2.St → XK} {σ : L2.St} {H : Hp} {Q : VK} {sq : Sp} (h : tMethE C m sq EE (LE K E w) (LA K E 0 wNil) σ H Q) : tMethE C m sq EE (LE K E w) tNil σ H Q := by
  obtain ⟨S, F, R, hR, hw, k⟩ := h
  refine ⟨S, F, R, hR, hw, fun d S' v F' H' q r hR' x => ?_⟩
  obtain ⟨a, dx, fs, h1, h2, h3, S2, F2, R2, hR2, hw2, k2⟩ := k d S' v F' H' q r hR' x
  exact ⟨a, dx, fs, h1, h2, h3, k2 [] S2 [] F2 H' hw2 rfl .nil hR2 (.refl _)⟩
theorem de_meth (he : DE X Φ o w) (T : ClsT X.K c) (hm : Meth X.K (clsAt X.K c) m f) (F : FnOk X.prog X.w X.K X.mg X.base CX0 k f fd ps (spOf X.K (n + 1) spc)) (hr : Room k X.A) (hb : Binds X.K fd ps []) (ha : DA X Φ (e :: es) n ws) {pl : Sem Bool}
    (hst : starEach (e :: es) X.env = (false, eval e X.env) :: starEach es X.env := by rfl) (hpl : (backTo pos (starEach es X.env)).any (·.1) = false := by rfl)
    (ht : eval (.Call (.Attribute o m apos) (e :: es) [] pos) X.env = (do
      let ov ← eval o X.env
      standAt apos.atName
      let (f, first) ← holding [ov] (getMethod ov m pl)
      callWith pos f first (backTo pos (starEach (e :: es) X.env)) (backToKw pos (keywordEach [] X.env))) := by rfl) :
    DE X Φ (.Call (.Attribute o m apos) (e :: es) [] pos) (wMeth c m spc w ws) := fun E hE => PE.imp (pe_methE (he E hE) T.cls hm F hr hb (fun σ => pass0S σ) (ha E hE) hst hpl ht) fun σ H Q hq =>
  meth_read (sp := fun ds h R _ => spc ds h R NX) (Y := fun _ _ _ => False) (EE := fun _ => E0) (spOf X.K (n + 1) spc) (fun vs H Q E2 F ds h R Y a1 a2 a3 a4 a5 a6 a7 => ⟨F, ds, h, R, a1, a2, a3, a4, a5, a6⟩) (fun _ _ _ _ _ _ _ z => z.elim) hq
theorem de_methL (he : DE X Φ o w) (T : ClsT X.K c) (hm : Meth X.K (clsAt X.K c) m f) (F : FnOk X.prog X.w X.K X.mg X.base (L2.CX X.prog X.w) k f fd ps (spOfX X.K (n + 1) spc)) (hr : Room k X.A) (hb : Binds X.K fd ps []) (ha : DA X Φ (e :: es) n ws) {pl : Sem Bool}
    (hst : starEach (e :: es) X.env = (false, eval e X.env) :: starEach es X.env := by rfl) (hpl : (backTo pos (starEach es X.env)).any (·.1) = false := by rfl)
    (ht : eval (.Call (.Attribute o m apos) (e :: es) [] pos) X.env = (do
      let ov ← eval o X.env
      standAt apos.atName
      let (f, first) ← holding [ov] (getMethod ov m pl)
      callWith pos f first (backTo pos (starEach (e :: es) X.env)) (backToKw pos (keywordEach [] X.env))) := by rfl) :
    DE X Φ (.Call (.Attribute o m apos) (e :: es) [] pos) (wMeth c m spc w ws) := fun E hE => PE.imp (pe_methE (he E hE) T.cls hm F hr hb (fun σ => passLS σ) (ha E hE) hst hpl ht) fun σ H Q hq =>
  meth_read (sp := spc) (Y := fun _ _ _ => False) (EE := fun _ => E0) (spOfX X.K (n + 1) spc) (fun vs H Q E2 F ds h R Y a1 a2 a3 a4 a5 a6 a7 => ⟨F, ds, h, R, Y, a1, a2, a3, a4, a5, a6, a7⟩) (fun _ _ _ _ _ _ _ z => z.elim) hq
theorem de_methX (he : DE X Φ o w) (T : ClsT X.K c) (hm : Meth X.K (clsAt X.K c) m f) (F : FnOk X.prog X.w X.K X.mg X.base (L2.CX X.prog X.w) k f fd ps (spOfX X.K (n + 1) spc)) (tk : Takes X W) (hx : ∀ E, Φ E → Px X.K W xx E) (hr : Room k X.A) (hb : Binds X.K fd ps []) (ha : DA X Φ (e :: es) n ws) {pl : Sem Bool}
    (hst : starEach (e :: es) X.env = (false, eval e X.env) :: starEach es X.env := by rfl) (hpl : (backTo pos (starEach es X.env)).any (·.1) = false := by rfl)
    (ht : eval (.Call (.Attribute o m apos) (e :: es) [] pos) X.env = (do
      let ov ← eval o X.env
      standAt apos.atName
      let (f, first) ← holding [ov] (getMethod ov m pl)
      callWith pos f first (backTo pos (starEach (e :: es) X.env)) (backToKw pos (keywordEach [] X.env))) := by rfl) :
    DE X Φ (.Call (.Attribute o m apos) (e :: es) [] pos) (wMethX c m spc w ws xx) := fun E hE => PE.imp (pe_methE (he E hE) T.cls hm F hr hb (fun σ => passAt tk σ) (ha E hE) hst hpl ht) fun σ H Q hq =>
  meth_read (sp := spc) (Y := xx) (EE := L2.WE W) (spOfX X.K (n + 1) spc) (fun vs H Q E2 F ds h R Y a1 a2 a3 a4 a5 a6 a7 => ⟨F, ds, h, R, Y, a1, a2, a3, a4, a5, a6, a7⟩) (fun c' fs S' cls dd F' H' q ax r => hx E hE c' fs S' cls dd σ F' H' q ax r) hq
theorem de_meth0 (he : DE X Φ o w) (T : ClsT X.K c) (hm : Meth X.K (clsAt X.K c) m f) (F : FnOk X.prog X.w X.K X.mg X.base CX0 k f fd ps (spOf X.K 1 spc)) (hr : Room k X.A) (hb : Binds X.K fd ps []) {pl : Sem Bool}
    (ht : eval (.Call (.Attribute o m apos) [] [] pos) X.env = (do
      let ov ← eval o X.env
      standAt apos.atName
      let (f, first) ← holding [ov] (getMethod ov m pl)
      callWith pos f first (backTo pos (starEach [] X.env)) (backToKw pos (keywordEach [] X.env))) := by rfl) :
    DE X Φ (.Call (.Attribute o m apos) [] [] pos) (wMeth c m spc w wNil) := fun E hE => PE.imp (pe_methE0 (he E hE) T.cls hm F hr hb (fun σ => pass0S σ) ht) fun σ H Q hq =>
  meth_read0 (meth_read (sp := fun ds h R _ => spc ds h R NX) (Y := fun _ _ _ => False) (EE := fun _ => E0) (spOf X.K 1 spc) (fun vs H Q E2 F ds h R Y a1 a2 a3 a4 a5 a6 a7 => ⟨F, ds, h, R, a1, a2, a3, a4, a5, a6⟩) (fun _ _ _ _ _ _ _ z => z.elim) hq)
theorem de_methL0 (he : DE X Φ o w) (T : ClsT X.K c) (hm : Meth X.K (clsAt X.K c) m f) (F : FnOk X.prog X.w X.K X.mg X.base (L2.CX X.prog X.w) k f fd ps (spOfX X.K 1 spc)) (hr : Room k X.A) (hb : Binds X.K fd ps []) {pl : Sem Bool}
    (ht : eval (.Call (.Attribute o m apos) [] [] pos) X.env = (do
      let ov ← eval o X.env
      standAt apos.atName
      let (f, first) ← holding [ov] (getMethod ov m pl)
      callWith pos f first (backTo pos (starEach [] X.env)) (backToKw pos (keywordEach [] X.env))) := by rfl) :
    DE X Φ (.Call (.Attribute o m apos) [] [] pos) (wMeth c m spc w wNil) := fun E hE => PE.imp (pe_methE0 (he E hE) T.cls hm F hr hb (fun σ => passLS σ) ht) fun σ H Q hq =>
  meth_read0 (meth_read (sp := spc) (Y := fun _ _ _ => False) (EE := fun _ => E0) (spOfX X.K 1 spc) (fun vs H Q E2 F ds h R Y a1 a2 a3 a4 a5 a6 a7 => ⟨F, ds, h, R, Y, a1, a2, a3, a4, a5, a6, a7⟩) (fun _ _ _ _ _ _ _ z => z.elim) hq)
theorem de_methX0 (he : DE X Φ o w) (T : ClsT X.K c) (hm : Meth X.K (clsAt X.K c) m f) (F : FnOk X.prog X.w X.K X.mg X.base (L2.CX X.prog X.w) k f fd ps (spOfX X.K 1 spc)) (tk : Takes X W) (hx : ∀ E, Φ E → Px X.K W xx E) (hr : Room k X.A) (hb : Binds X.K fd ps []) {pl : Sem Bool}
    (ht : eval (.Call (.Attribute o m apos) [] [] pos) X.env = (do
      let ov ← eval o X.env
      standAt apos.atName
      let (f, first) ← holding [ov] (getMethod ov m pl)
      callWith pos f first (backTo pos (starEach [] X.env)) (backToKw pos (keywordEach [] X.env))) := by rfl) :
    DE X Φ (.Call (.Attribute o m apos) [] [] pos) (wMethX c m spc w wNil xx) := fun E hE => PE.imp (pe_methE0 (he E hE) T.cls hm F hr hb (fun σ => passAt tk σ) ht) fun σ H Q hq =>
  meth_read0 (meth_read (sp := spc) (Y := xx) (EE := L2.WE W) (spOfX X.K 1 spc) (fun vs H Q E2 F ds h R Y a1 a2 a3 a4 a5 a6 a7 => ⟨F, ds, h, R, Y, a1, a2, a3, a4, a5, a6, a7⟩) (fun c' fs S' cls dd F' H' q ax r => hx E hE c' fs S' cls dd σ F' H' q ax r) hq)
end
/-! ### x.sort(reverse=True), x owns its list of ints -/
def rSortR : V → List V → Hp → VK → Prop := fun x zs H Q => ∃ (a : Addr) (ns : List Int), x = V.ref a ∧ zs = [.bl true] ∧ H a = some (.lst (ns.map V.int)) ∧ ∀ ns' : List Int, ns'.Perm ns → ns'.Pairwise (· ≥ ·) → Q .non (upd H a (.lst (ns'.map V.int)))
theorem mt_sortR {X : Cx} : MtK0 X "list.sort" [Str.ofString "reverse"] rSortR := by
  intro pins s σ H x zs v ws Q I rx rz h
  obtain ⟨a, ns, rfl, rfl, ha, q⟩ := h
  cases rx
  obtain ⟨w1, rfl, e1⟩ := vals1 rz
  obtain rfl : w1 = Value.bool true := e1
  obtain ⟨hz, its, n, rv, hob⟩ := I.hok a _ ha
  have hi := rv.ints
  refine PyProof.Rows.wpAny_call_entry_kw PyProof.Rows.slot_list_sort ⟨_, hob, rfl⟩ PyProof.Rows.entry_list_sort
    (SrtR.list_sort_ordR (b := true) SrtO.swo_int hob (by rw [← rv.length]; exact hz) (fun h2 => SrtO.ints_sortable hi h2) fun out h1 h2 => ⟨.none, rfl, ?_⟩) (PyProof.Rows.args_list_sort_rev _ _)
  obtain ⟨ns', k1, k2, k3⟩ := SrtR.ints_outR hi h1 h2
  obtain ⟨ep, he'⟩ := PyProof.Rows.sortedHeap_at (vs := its) (out := out.toArray.reverse) hob
  have hlen : (ns'.map V.int).length ≤ sizeLine := by
    rw [List.length_map, k2.length_eq]
    rw [List.length_map] at hz
    exact hz
  refine ⟨.non, upd H a (.lst (ns'.map V.int)), I.write (e := a) (t' := s.toks) (by rw [ha]; trivial) (.inl rfl) (fun b u hb hu => ?_) ⟨_, he'⟩ ⟨hlen, _, ep, vals_of_ints k1, ?_⟩, rfl, q ns' k2 k3⟩
  · rw [PyProof.Rows.sortedHeap_old hb (Heap.lt_size hu)]; exact hu
  · have : ((if true = true then out.toArray.reverse else out.toArray).toList).toArray = out.toArray.reverse := by simp
    rw [this]
    exact he'
def wSortR (i : Nat) : WS := fun D S => ∃ ns : List Int, S.s[i]? = some (.o (.lst (ns.map .int))) ∧ ∀ ns' : List Int, ns'.Perm ns → ns'.Pairwise (· ≥ ·) → D.nx (S.st i (.o (.lst (ns'.map .int))))
theorem ds_sortR {X : Cx} {W : L2.WX} {x : Str} {px apos cpos pos kp cp : Pos} {j : Nat} (l : Nat) (hx : PE X (.Name x px) (tVar l))
    (h : ∀ to tk, PE X (.Name x px) to → PK X [⟨some "reverse", .Constant (.bool true) j cp, kp⟩] tk → PE X (.Call (.Attribute (.Name x px) "sort" apos) [] [⟨some "reverse", .Constant (.bool true) j cp, kp⟩] cpos) (tBMK0 X.K "list" rSortR to tk))
    (hs : swapsWith (.Call (.Attribute (.Name x px) "sort" apos) [] [⟨some "reverse", .Constant (.bool true) j cp, kp⟩] cpos) none pos.line X.env = pure false := by rfl) :
    DS X W (.Expr (.Call (.Attribute (.Name x px) "sort" apos) [] [⟨some "reverse", .Constant (.bool true) j cp, kp⟩] cpos) pos) (wSortR l) := fun E => PS.imp (ps_expr (h _ _ hx (pk_cons pe_bl pk_nil)) hs) fun D σ H => by
  rintro ⟨S, F, R, hR, ⟨ns, he, hw⟩, k1, k2, k3, k4, k5⟩
  obtain ⟨p, h0, ⟨vs0, q0, r0⟩, _⟩ := hR.own l _ he
  have e := r0.ints
  subst e
  refine ⟨_, h0, .inl ⟨rfl, _, .of q0⟩, p, ns, rfl, rfl, q0, fun ns' h1 h2 => ?_⟩
  exact k1 _ _ F _ (hw ns' h1 h2) (hR.mut he h0 ⟨_, upd_same, Reps.ofInts _⟩) (.refl _)
end VL

set_option Elab.async false
set_option linter.all false
set_option maxRecDepth 100000
set_option maxHeartbeats 400000
/-! VL12: len(set(a list of tuples of ints)). -/
namespace VL
open PySem PySem.Spec PyProof.Rows L2
def tupI (ns : List Int) : D := .tup (ns.map .int)
theorem reps_tups {K : PySem.W.Frag} {F : Hp} : ∀ {vs : List V} {ks : List (List Int)}, Reps K F vs (ks.map tupI) → ∃ as : List (Addr × List Int), vs = as.map (fun p => V.ref p.1) ∧ as.map (·.2) = ks ∧ ∀ p ∈ as, SqT K F p.1 (p.2.map V.int)
  | _, [], .nil => ⟨[], rfl, rfl, fun _ h => nomatch h⟩
  | _, k :: ks, .cons r t => by
    obtain ⟨as, h1, h2, h3⟩ := reps_tups t
    cases r with
    | tup q s =>
      rename_i a vs
      have e := s.ints
      subst e
      refine ⟨(a, k) :: as, by rw [h1]; rfl, by rw [List.map_cons, h2], fun p hp => ?_⟩
      rcases List.mem_cons.mp hp with rfl | hp
      · exact q
      · exact h3 p hp
/-- len(set(e)) -/
def wLenSet (w : WE) : WE := fun S R => w S fun d S1 => ∃ ks : List (List Int), d = .lst (ks.map tupI) ∧ ks.length < 64 ∧ ∀ L : List (List Int), L.Nodup → (∀ x, x ∈ L ↔ x ∈ ks) → R (.int (L.length : Nat)) S1
def tLenSetT (K : PySem.W.Frag) (ta : TE) : TE := fun σ H Q => ta σ H fun x H1 => ∃ (l : Addr) (ks : List (Addr × List Int)), x = V.ref l ∧ SqL K H1 l (ks.map fun p => V.ref p.1) ∧ (∀ p ∈ ks, SqT K H1 p.1 (p.2.map V.int)) ∧ ks.length < 64 ∧
  ∀ L : List (List Int), L.Nodup → (∀ y, y ∈ L ↔ y ∈ ks.map (·.2)) → Q (.int (L.length : Nat)) H1
theorem pe_lenSetT {X : Cx} {a : Expr} {ta : TE} {p p2 q pos : Pos} (hu : X.A.units + 64 < cLine) (hg : Gl X "len") (hm : X.mg "len" = none) (hg2 : Gl X "set") (hm2 : X.mg "set" = none) (ha : PE X a ta) (hc : X.calm = true := by rfl)
    (na : starEach [a] X.env = (false, eval a X.env) :: starEach [] X.env := by rfl) : PE X (.Call (.Name "len" p) [.Call (.Name "set" p2) [a] [] q] [] pos) (tLenSetT X.K ta) := by
  refine ⟨fun pins s σ H Q I h => ?_⟩
  refine Call_ (ld_blt I hg hm boot_len ?_)
  refine PyProof.Rows.callWith_builtin1 (PyProof.Rows.args_cons ?_ rfl) rfl rfl
  refine Call_ (ld_blt I hg2 hm2 boot_set ?_)
  refine PyProof.Rows.callWith_type1 (PyProof.Rows.args_cons (thn (ha.run pins s σ H _ I h) fun v s1 ⟨x, H1, I1, r1, q1⟩ => PyProof.Rows.args_nil ?_) na) na rfl
  obtain ⟨l, ks, rfl, hq, hk, hf, q1⟩ := q1
  cases r1
  obtain ⟨its, rv, pl, hz⟩ := I1.list hq
  refine call_set_tups (P := X.prog) (w := X.w) ks (I1.ok.hd hc) pl.isList (by simpa using refs_of_vals rv) (fun p hp => I1.isT (hk p hp)) hf (by omega) fun h' tk L es ep t R g k => ?_
  refine PyProof.Rows.args_nil ?_
  obtain ⟨o, ho, hex, hd⟩ := R.ob
  have hs : es.size = L.length := R.size (s := { s1 with heap := h', toks := tk })
  have I2 : Inv X pins σ H1 { s1 with heap := h', toks := tk } := I1.kept fun b o e => k b o e
  refine call_len_set ho hex hd (R.fits (s := { s1 with heap := h', toks := tk })) (by have := R.few; omega) ⟨.int (L.length : Nat), H1, I2.tok _, ⟨_, by rw [hs]⟩, ?_⟩
  have := q1 (L.map (·.2)) R.nd fun y => ⟨fun hy => ?_, fun hy => ?_⟩
  · rwa [List.length_map] at this
  · obtain ⟨p, hp, rfl⟩ := List.mem_map.mp hy
    exact List.mem_map.mpr ⟨p, List.mem_of_mem_take (g.sub p hp), rfl⟩
  · obtain ⟨p, hp, rfl⟩ := List.mem_map.mp hy
    exact g.all p (by rw [List.take_length]; exact hp)
theorem de_lenSet {X : Cx} {Φ : En → Prop} {a : Expr} {w : WE} {p p2 q pos : Pos} (hu : X.A.units + 64 < cLine) (hg : Gl X "len") (hm : X.mg "len" = none) (hg2 : Gl X "set") (hm2 : X.mg "set" = none) (ha : DE X Φ a w) (hc : X.calm = true := by rfl)
    (na : starEach [a] X.env = (false, eval a X.env) :: starEach [] X.env := by rfl) : DE X Φ (.Call (.Name "len" p) [.Call (.Name "set" p2) [a] [] q] [] pos) (wLenSet w) := fun E hE => PE.imp (pe_lenSetT hu hg hm hg2 hm2 (ha E hE) hc na) fun σ H Q => by
  rintro ⟨S, F, R, hR, hw, k⟩
  refine ⟨S, F, _, hR, hw, fun d S1 v F1 H1 hw1 r1 hR1 x1 => ?_⟩
  obtain ⟨ks, rfl, h1, h2⟩ := hw1
  cases r1 with
  | lst q s =>
    obtain ⟨as, rfl, rfl, h3⟩ := reps_tups s
    refine ⟨_, as, rfl, .of (hR1.g.ext _ _ q), fun p hp => hR1.g.ext.sqT (h3 p hp), by rw [List.length_map] at h1; exact h1, fun L n1 n2 => ?_⟩
    exact k _ S1 _ F1 H1 (h2 L n1 n2) (.int _) hR1 x1
/-! ### what the top has written of classes -/
structure MethAt (K : PySem.W.Frag) (c m qual : Str) (st : Stmt) (ps : List Str) (f : Addr) (fd : FuncData) : Prop where
  fn : Fun K m qual st f fd
  bd : Binds K fd ps []
  mt : Meth K (clsAt K c) m f
structure InitAt (K : PySem.W.Frag) (mg : Str → Option Value) (c qual : Str) (st : Stmt) (ps : List Str) (f : Addr) (fd : FuncData) : Prop where
  fn : Fun K "__init__" qual st f fd
  bd : Binds K fd ps []
  mkr : Mk K (clsAt K c) f
  gl : mg c = some (.ref (clsAt K c))
/-- an own class of exceptions over ValueError -/
structure ExcT (K : PySem.W.Frag) (mg : Str → Option Value) (c : Str) : Prop where
  gC : mg c = some (.ref (clsAt K c))
  xP : PySem.W.excIn K (clsAt K c) [.type "ValueError", .type "Exception", .type "BaseException", .type "object"] "ValueError.__new__" = true
  kP : PySem.W.keepIn K (.ref (clsAt K c)) = true
  bP : PySem.W.subIn K (.ref (clsAt K c)) (.type "BaseException") = some true
  tP : PySem.W.typeIn K (.ref (clsAt K c)) = some (.type "type")
  te : PySem.W.exmOne K (.ref (clsAt K c)) (.ref (clsAt K c)) = some true
theorem exm_self {K : PySem.W.Frag} {S : Addr} (h1 : PySem.W.subIn K (.ref S) (.type "BaseException") = some true) (h2 : PySem.W.isClsIn K S = true) (h3 : PySem.W.typeIn K (.ref S) = some (.type "type")) (h4 : PySem.W.subIn K (.ref S) (.ref S) = some true) :
    PySem.W.exmOne K (.ref S) (.ref S) = some true := by
  have e1 : (PySem.W.subIn K (.ref S) (.type "BaseException") == some true) = true := by rw [h1] <;> rfl
  have e2 : ((PySem.W.clsIn K S).isSome && PySem.W.typeIn K (.ref S) == some (.type "type")) = true := by
    have h2' : (PySem.W.clsIn K S).isSome = true := h2
    rw [h2', h3] <;> rfl
  show (if (PySem.W.subIn K (.ref S) (.type "BaseException") == some true) = true then (if ((PySem.W.clsIn K S).isSome && PySem.W.typeIn K (.ref S) == some (.type "type")) = true then PySem.W.subIn K (.ref S) (.ref S) else none) else none) = some true
  rw [if_pos e1, if_pos e2]
  exact h4
end VL

set_option Elab.async false
set_option linter.all false
set_option maxRecDepth 100000
set_option maxHeartbeats 400000
/-! VL13: a list that a name owns is lent to a call; loops over known lists. -/
namespace VL
open PySem PySem.Spec PyProof.Rows L2
def Oh.del (h : Oh) (a : Addr) : Oh := fun b => if b = a then none else h b
theorem Oh.del_same {h : Oh} {a : Addr} : h.del a a = none := by unfold Oh.del; rw [if_pos rfl]
theorem Oh.del_ne {h : Oh} {a b : Addr} (n : b ≠ a) : h.del a b = h b := by unfold Oh.del; rw [if_neg n]
theorem Oh.del_put {h : Oh} {a : Addr} {o : Ob} (e : h a = none) : (h.put a o).del a = h := by
  funext b
  by_cases q : b = a
  · subst q; rw [Oh.del_same, e]
  · rw [Oh.del_ne q, Oh.put_ne q]
section
variable {K : PySem.W.Frag} {E : En} {F H : Hp} {σ : L2.St} {S : Sg}
/-- a name's own container becomes a known object -/
theorem Rel.promote {i : Nat} {d : D} (R : Rel K E F H σ S) (hi : S.s[i]? = some (.o d)) : ∃ p, σ[i]? = some (some (.ref p)) ∧ S.h p = none ∧ (E.H p = none ∨ E.ow p) ∧ Rel K E F H σ ((S.ob p (obOf d)).st i (.f (.obj p))) := by
  obtain ⟨p, h1, h2, h3, h4, h5⟩ := R.own i d hi
  have ha : ObAt K F H p (obOf d) := by
    cases d <;> first | exact h2 | exact h2.elim
  refine ⟨p, h1, h4, h5, ⟨⟨R.g.ext, R.g.gF, R.g.gN, R.g.gH, R.g.gP, fun b q => ?_, fun b ob q => ?_⟩, by show (S.s.set i _).length = _; rw [List.length_set]; exact R.len, fun j e h => ?_, fun j e h => ?_, fun j l e e' q q1 q2 q3 q4 => ?_⟩⟩
  · by_cases hb : b = p
    · subst hb; exact .inr h5
    · have q' : S.h.put p (obOf d) b ≠ none := q
      rw [Oh.put_ne hb] at q'; exact R.g.gO b q'
  · have q' : S.h.put p (obOf d) b = some ob := q
    by_cases hb : b = p
    · subst hb
      rw [Oh.put_same] at q'; cases q'
      exact ⟨ha, h3⟩
    · rw [Oh.put_ne hb] at q'
      exact R.g.obs b ob q'
  · rcases set_get h with ⟨rfl, h, hl⟩ | ⟨n, h⟩
    · cases h
      exact ⟨_, h1, .obj p⟩
    · exact R.frz j e h
  · rcases set_get h with ⟨rfl, h, hl⟩ | ⟨n, h⟩
    · cases h
    · obtain ⟨q, q1, q2, q3, q4, q5⟩ := R.own j e h
      have nq : q ≠ p := fun z => n (R.inj j i e d p h hi (z ▸ q1) h1)
      exact ⟨q, q1, q2, q3, by show S.h.put p (obOf d) q = none; rw [Oh.put_ne nq]; exact q4, q5⟩
  · rcases set_get q1 with ⟨_, h, _⟩ | ⟨n1, g1⟩
    · cases h
    rcases set_get q2 with ⟨_, h, _⟩ | ⟨n2, g2⟩
    · cases h
    exact R.inj j l e e' q g1 g2 q3 q4
/-- .. and the name's own again -/
theorem Rel.demote {i : Nat} {p : Addr} {ds : List D} (R : Rel K E F H σ S) (hi : i < S.s.length) (h1 : σ[i]? = some (some (.ref p))) (hp : S.h p = some (.ml ds)) (h5 : E.H p = none ∨ E.ow p) : Rel K E F H σ ⟨S.s.set i (.o (.lst ds)), S.h.del p⟩ := by
  obtain ⟨h2, h3⟩ := R.g.obs p _ hp
  refine ⟨⟨R.g.ext, R.g.gF, R.g.gN, R.g.gH, R.g.gP, fun b q => ?_, fun b ob q => ?_⟩, by show (S.s.set i _).length = _; rw [List.length_set]; exact R.len, fun j e h => ?_, fun j e h => ?_, fun j l e e' q q1 q2 q3 q4 => ?_⟩
  · refine R.g.gO b fun z => q ?_
    show S.h.del p b = none
    unfold Oh.del
    split
    · rfl
    · exact z
  · have q' : S.h.del p b = some ob := q
    by_cases hb : b = p
    · subst hb; rw [Oh.del_same] at q'; cases q'
    · rw [Oh.del_ne hb] at q'
      exact R.g.obs b ob q'
  · rcases set_get h with ⟨rfl, h, hl⟩ | ⟨n, h⟩
    · cases h
    · exact R.frz j e h
  · rcases set_get h with ⟨rfl, h, hl⟩ | ⟨n, h⟩
    · cases h
      exact ⟨p, h1, h2, h3, Oh.del_same, h5⟩
    · obtain ⟨q, q1, q2, q3, q4, q5⟩ := R.own j e h
      have nq : q ≠ p := fun z => by rw [z, hp] at q4; cases q4
      exact ⟨q, q1, q2, q3, by show S.h.del p q = none; rw [Oh.del_ne nq]; exact q4, q5⟩
  · have own : ∀ (j : Nat) (e : D), (S.s.set i (.o (.lst ds)))[j]? = some (.o e) → σ[j]? = some (some (.ref q)) → (j = i ∧ q = p) ∨ (j ≠ i ∧ S.s[j]? = some (.o e) ∧ q ≠ p) := fun j e g1 g2 => by
      rcases set_get g1 with ⟨rfl, _, _⟩ | ⟨n, g⟩
      · rw [h1] at g2; cases g2
        exact .inl ⟨rfl, rfl⟩
      · obtain ⟨q', r1, _, _, r4, _⟩ := R.own j e g
        rw [g2] at r1; cases r1
        exact .inr ⟨n, g, fun z => by rw [z, hp] at r4; cases r4⟩
    rcases own j e q1 q3 with ⟨a1, a2⟩ | ⟨a1, a2, a3⟩
    · rcases own l e' q2 q4 with ⟨b1, b2⟩ | ⟨b1, b2, b3⟩
      · exact a1.trans b1.symm
      · exact absurd a2 b3
    · rcases own l e' q2 q4 with ⟨b1, b2⟩ | ⟨b1, b2, b3⟩
      · exact absurd b2 a3
      · exact R.inj j l e e' q a2 b2 q3 q4
end
/-- the name's own list, as a known object -/
def wObj (i : Nat) : WE := fun S R => ∃ d, S.s[i]? = some (.o d) ∧ ∀ p, S.h p = none → R (.obj p) ((S.ob p (obOf d)).st i (.f (.obj p)))
/-- .. lent for an expression -/
def wLend (i : Nat) (w : WE) : WE := fun S R => (∃ d, S.s[i]? = some (.o d)) ∧ w S fun r S1 => ∃ p ds, S1.s[i]? = some (.f (.obj p)) ∧ S1.h p = some (.ml ds) ∧ R r ⟨S1.s.set i (.o (.lst ds)), S1.h.del p⟩
/-- for over a known list, which stays as it is -/
def wForOL (a : Addr) (ds : List D) (g : WG) (tb : WS) (T : We) : List D → Sg → Prop
  | [], S => S.h a = some (.ml ds) ∧ T.nx S
  | x :: xs, S => S.h a = some (.ml ds) ∧ g x S fun S1 => tb { T with nx := wForOL a ds g tb T xs, ct := wForOL a ds g tb T xs, bk := T.nx } S1
def wForO (w : WE) (g : WG) (tb : WS) : WS := fun D S => w S fun d S1 => ∃ a ds, d = .obj a ∧ S1.h a = some (.ml ds) ∧ wForOL a ds g tb D ds S1
section
variable {X : Cx} {Φ : En → Prop} {W : L2.WX} {e : Expr} {w : WE} {pos : Pos}
theorem de_obj {x : Str} (i : Nat) (h : PE X (.Name x pos) (tVar i)) : DE X Φ (.Name x pos) (wObj i) := fun E hE => PE.imp h fun σ H Q => by
  rintro ⟨S, F, R, hR, ⟨d, hd, hw⟩, k⟩
  obtain ⟨p, h1, h2, _, h4⟩ := hR.promote hd
  exact ⟨_, h1, k _ _ _ F H (hw p h2) (.obj p) h4 (.refl _)⟩
theorem de_lend (i : Nat) (h : DE X Φ e w) : DE X Φ e (wLend i w) := fun E hE => PE.imp (h E hE) fun σ H Q => by
  rintro ⟨S, F, R, hR, ⟨⟨d, hd⟩, hw⟩, k⟩
  obtain ⟨p0, h1, _, _, _, h5⟩ := hR.own i d hd
  refine ⟨S, F, _, hR, hw, fun r S1 v F1 H1 hw1 r1 hR1 x1 => ?_⟩
  obtain ⟨p, ds, q1, q2, q3⟩ := hw1
  obtain ⟨u, u1, u2⟩ := hR1.frz i _ q1
  cases u2
  rw [h1] at u1
  cases u1
  exact k r _ v F1 H1 q3 r1 (hR1.demote (ix_lt q1) h1 q2 h5) x1
theorem ds_forO {g : WG} {tg iter : Expr} {body : List Stmt} {tb : WS} (hp : PassesOwn (model X.prog X.w) X.A X.env X.xe) (hc : X.calm = true) (hi : DE X Tr iter w) (hg : DG X Tr tg g) (hb : DSs X W body tb)
    (hs : ∀ x, foldedSetIterable iter X.env x = pure x := by intro _; rfl) : DS X W (.For tg iter body [] pos) (wForO w g tb) := fun E => PS.imp (ps_for hp hc (pi_list (hi E trivial)) (hg E trivial) (hb E) hs) fun D σ H => by
  rintro ⟨S, F, R, hR, hw, k1, k2, k3, k4, k5⟩
  refine ⟨S, F, _, hR, hw, fun d S1 v F1 H1 hw1 r1 hR1 x1 => ?_⟩
  obtain ⟨a, ds, rfl, ha, hw1⟩ := hw1
  cases r1
  obtain ⟨vs1, q1, _⟩ := (hR1.g.obs _ _ ha).1
  refine ⟨a, rfl, ⟨vs1, .of q1⟩, ?_⟩
  refine ⟨fun i m σ H => m + i = ds.length ∧ ∃ F2 S2, Rel X.K E F2 H σ S2 ∧ Ext F1 F2 ∧ wForOL a ds g tb R (ds.drop i) S2, ⟨ds.length, rfl, F1, S1, hR1, .refl _, hw1⟩, fun i m σ2 H2 hW => ?_⟩
  obtain ⟨hm, F2, S2, hR2, x2, hw2⟩ := hW
  by_cases hi : i < ds.length
  · have hd : ds[i]? = some ds[i] := List.getElem?_eq_getElem hi
    rw [List.drop_eq_getElem_cons hi] at hw2
    obtain ⟨ha2, hw2⟩ := hw2
    obtain ⟨vs, q, s⟩ := (hR2.g.obs _ _ ha2).1
    obtain ⟨v, h1, h2⟩ := s.get hd
    have hq : SqL X.K H2 a vs := .of q
    refine .inr ⟨⟨vs, v, hq, h1⟩, fun σ' H' => ∃ F3 S3, Rel X.K E F3 H' σ' S3 ∧ Ext F1 F3 ∧ wForOL a ds g tb R (ds.drop (i + 1)) S3, fun σ' H' hN => ⟨m - 1, by omega, by omega, hN⟩, fun x H3 hy => ?_⟩
    obtain ⟨rfl, hy⟩ := hy
    have e : x = v := Option.some.inj ((hy _ hq).symm.trans h1)
    subst e
    refine ⟨S2, F2, _, _, hR2, h2, hw2, fun S4 σ4 F4 H4 hw4 hR4 x4 => ?_⟩
    have x14 : Ext F1 F4 := x2.trans x4
    exact ⟨S4, F4, _, hR4, hw4, fun S' σ' F' H' q r x => ⟨F', S', r, x14.trans x, q⟩, fun S' σ' F' H' q r x => k1 S' σ' F' H' q r ((x1.trans x14).trans x), fun S' σ' F' H' q r x => ⟨F', S', r, x14.trans x, q⟩, fun d S' v σ' F' H' q r r' x => k4 d S' v σ' F' H' q r r' ((x1.trans x14).trans x), k5⟩
  · rw [List.drop_eq_nil_of_le (by omega)] at hw2
    obtain ⟨ha2, hw2⟩ := hw2
    obtain ⟨vs, q, s⟩ := (hR2.g.obs _ _ ha2).1
    exact .inl ⟨⟨vs, .of q, by rw [s.length]; omega⟩, k1 S2 σ2 F2 H2 hw2 hR2 (x1.trans x2)⟩
end
theorem foroc {a : Addr} {ds : List D} {g : WG} {tb : WS} {T : We} {x : D} {xs : List D} {S : Sg} (ha : S.h a = some (.ml ds)) (h : g x S fun S1 => tb { T with nx := wForOL a ds g tb T xs, ct := wForOL a ds g tb T xs, bk := T.nx } S1) : wForOL a ds g tb T (x :: xs) S := ⟨ha, h⟩
end VL

set_option Elab.async false
set_option linter.all false
set_option maxRecDepth 100000
set_option maxHeartbeats 4000000
/-! VL14: min(xs, key=f), f a def of the text; any(tuple of ints). -/
namespace VL
open PySem PySem.Spec PyProof.Rows L2
open PySem.Calls
open PySem.W (AllAlike Sortable)
/-- the first of the least -/
def argMin (k : D → PyData) : List D → D → D
  | [], b => b
  | x :: xs, b => argMin k xs (if PySem.W.dataLt (k x) (k b) = true then x else b)
theorem argMin_cons {k : D → PyData} {x b : D} {xs : List D} : argMin k (x :: xs) b = argMin k xs (if PySem.W.dataLt (k x) (k b) = true then x else b) := rfl
theorem in1R {k : Nat} {A : Around} (r : Room (k + 1) A) : Room k A.in1 :=
  ⟨r.hd, by have := r.dp; show A.depth + 3 * k + 5 < _; omega, by have := r.un; show A.units + 1 + 16 * k + 200 < _; omega⟩
section
variable {X : Cx} {Φ : En → Prop} {pins : List (Addr × Obj)} {σ : L2.St} {s : Shared} {n : Nat} {f : Addr} {fd : FuncData} {ps : List Str} {spc : Spc}
theorem min_loop {F H : Hp} {h : Oh} {xs : List V} {ds : List D} {kf : D → D} {l I S : Addr} {R : Result → Shared → Prop} (hh : X.A.handled = none) (B : KeyB X n f fd ps spc X.A.in1 F H h xs ds kf) (hl : F l = some (.lst xs)) (hSI : S ≠ I)
    (hR : ∀ s' F' H' v u, Inv X pins σ H' s' → Gr X.K ⟨F, H, h, fun _ => False⟩ F' H' h → RelV v u → ∀ b, Rep X.K F' v b → b = argMin (fun x => (kf x).pd) ds.tail (ds.headD .non) → R (.ok (.ret u)) s') :
    ∀ (r j : Nat) (s : Shared) (Fj Hj : Hp) (ub uk : Value) (vb vk : V) (b : D) (c : Nat), ds.length - (j + 1) = r → j + 1 ≤ ds.length → Inv X pins σ Hj s → Gr X.K ⟨F, H, h, fun _ => False⟩ Fj Hj h → FpOk X pins Hj I → FpOk X pins Hj S →
      s.heap.IsListIter I l (j + 1) → s.heap.get? S = some (seqObj "list" #[ub, uk] c) → RelV vb ub → Rep X.K Fj vb b → RelV vk uk → Rep X.K Fj vk (kf b) → b ∈ ds → argMin (fun x => (kf x).pd) (ds.drop (j + 1)) b = argMin (fun x => (kf x).pd) ds.tail (ds.headD .non) →
      codeAny (model X.prog X.w) X.A (.builtin "min.loop" ⟨[.ref I, .ref f, .ref S], []⟩) R s := by
  have nm : (toString "min" ++ toString ".loop" : String) = "min.loop" := by decide
  have l2 := B.it.length
  intro r
  induction r with
  | zero =>
    intro j s Fj Hj ub uk vb vk b c hr hj I0 g fI fS hit hS rb qb rk qk mb ha
    have hin : j + 1 = ds.length := by omega
    have hlj : Hj l = some (.lst xs) := g.ext _ _ (g.gF _ _ hl)
    obtain ⟨its, rv, p, hz⟩ := I0.list (.of hlj)
    have l1 := rv.length
    have hlI : l ≠ I := fun z => by rw [z, fI.1] at hlj; cases hlj
    have W := Walks.list (prog := X.prog) (w := X.w) (A := X.A.in1) hh I l hlI its.toArray
    have hsz : its.toArray.size = its.length := List.size_toArray ..
    refine codeAny_builtin PySem.F.entry_min_loop ?_
    rw [Around.under_plainId PySem.F.plain_min_loop _]
    show wpAny _ X.A.in1 (seqItems? (.ref S) >>= _) _ _ _
    refine wpAny_bind (wpAny_seqItems hS rfl ?_)
    show wpAny _ X.A.in1 (tryCatch (pyNext (.ref I)) _ >>= _) _ _ _
    refine wpAny_bind (wpAny_tryCatch (W.done _ _ _ ⟨by rw [hsz, ← l1, l2, ← hin]; exact hit, p.isList⟩ fun h' tk' hk' => ?_))
    have hS' := hk' S _ (by simpa using hSI) hS
    show wpAny _ X.A.in1 (updateSeq S (fun _ => #[]) >>= _) _ _ _
    refine wpAny_bind (wpAny_updateSeq hS' rfl (wpAny_bind (wpAny_letGo (wpAny_pure ?_))))
    have s1 := Heap.SameBut.update h' S (Obj.mapSeq fun _ => (#[] : Array Value))
    refine hR _ Fj Hj vb ub ?_ g rb b qb (by rw [← ha, List.drop_of_length_le (by omega)]; rfl)
    have I1 : Inv X pins σ Hj { s with heap := h', toks := tk' } := I0.turnedL (t' := tk') (ch := [I]) (fun b o hb e => hk' b o hb e) fun b hb => by rw [List.mem_singleton.mp hb]; exact fI
    exact I1.turnedL (t' := tk') (ch := [S]) (fun b o hb e => (s1.2 b (by simpa using hb)).trans e) fun b hb => by rw [List.mem_singleton.mp hb]; exact fS
  | succ r ih =>
    intro j s Fj Hj ub uk vb vk b c hr hj I0 g fI fS hit hS rb qb rk qk mb ha
    have hlt : j + 1 < ds.length := by omega
    have hlj : Hj l = some (.lst xs) := g.ext _ _ (g.gF _ _ hl)
    obtain ⟨its, rv, p, hz⟩ := I0.list (.of hlj)
    have l1 := rv.length
    have hlI : l ≠ I := fun z => by rw [z, fI.1] at hlj; cases hlj
    have W := Walks.list (prog := X.prog) (w := X.w) (A := X.A.in1) hh I l hlI its.toArray
    have hsz : its.toArray.size = its.length := List.size_toArray ..
    refine codeAny_builtin PySem.F.entry_min_loop ?_
    rw [Around.under_plainId PySem.F.plain_min_loop _]
    show wpAny _ X.A.in1 (seqItems? (.ref S) >>= _) _ _ _
    refine wpAny_bind (wpAny_seqItems hS rfl ?_)
    show wpAny _ X.A.in1 (tryCatch (pyNext (.ref I)) _ >>= _) _ _ _
    refine wpAny_bind (wpAny_tryCatch (W.item (j + 1) _ _ _ (by omega) ⟨hit, p.isList⟩ fun u h' tk' hP hst' hk' => ?_))
    have hu : its[j + 1]? = some u := by simpa using hP
    have hd : ds[j + 1]? = some ds[j + 1] := List.getElem?_eq_getElem hlt
    obtain ⟨x, hx, rx⟩ := B.it.get hd
    obtain ⟨u', hu', ru⟩ := rv.get hx
    have eu : u' = u := Option.some.inj (hu'.symm.trans hu)
    subst eu
    have hS' := hk' S _ (by simpa using hSI) hS
    have I1 : Inv X pins σ Hj { s with heap := h', toks := tk' } := I0.turnedL (t' := tk') (ch := [I]) (fun b o hb e => hk' b o hb e) fun b hb => by rw [List.mem_singleton.mp hb]; exact fI
    obtain ⟨oI, hoI, hoc, hod⟩ := id hst'.1
    have md : ds[j + 1] ∈ ds := List.getElem_mem hlt
    show wpAny _ X.A.in1 (tryCatch (holding [u'] (call (.ref f) [u'])) _ >>= _) _ _ _
    refine wpAny_bind (wpAny_tryCatch (wpAny_holding (wpAny_mono (key_call (E := fun _ _ => False) B.G B.hb B.hr B.hA I1 g.ext g.obs ru (rx.mono g.gF) (B.key _ md)) (fun v s'' he => ?_) fun _ _ hF => hF.elim)))
    obtain ⟨kv, F', H', I2, un, rkv, rep, g'⟩ := he
    have g2 := g.then (fun p hp => hp.elim) g'
    have hS2 : s''.heap.get? S = some (seqObj "list" #[ub, uk] c) := un.keep _ _ hS' fS.1 (FpOk.nostk fS I1) (by simp)
    have hI2 : s''.heap.get? I = some oI := un.keep _ _ hoI fI.1 (FpOk.nostk fI I1) (by simp)
    have fI2 : FpOk X pins H' I := FpOk.to fI (un.free _ _ hoI fI.1 (by simp))
    have fS2 : FpOk X pins H' S := FpOk.to fS (un.free _ _ hS' fS.1 (by simp))
    have it2 : s''.heap.IsListIter I l (j + 1 + 1) := ⟨oI, hI2, hoc, hod⟩
    obtain ⟨as1, rd1⟩ := Dp.reads I2 _ _ _ (rep.dp g2.ext (B.sh _ md)) rkv
    obtain ⟨as2, rd2⟩ := Dp.reads I2 _ _ _ ((qk.mono g'.gF).dp g2.ext (B.sh _ mb)) rk
    have m1 : (kf ds[j + 1]).pd ∈ ds.map (fun x => (kf x).pd) := List.mem_map.mpr ⟨_, md, rfl⟩
    have m2 : (kf b).pd ∈ ds.map (fun x => (kf x).pd) := List.mem_map.mpr ⟨_, mb, rfl⟩
    have nn : (kf ds[j + 1]).pd ≠ .none := by
      rcases B.so with z | z
      · obtain ⟨q, t, e⟩ := z _ m1
        rw [e]
        exact fun z => by cases z
      · exact (z _ m1).1
    show wpAny _ X.A.in1 (tryCatch (holding [u', v] (richCompare .Lt v uk >>= _)) _ >>= _) _ _ _
    refine wpAny_bind (wpAny_tryCatch (wpAny_holding (wpAny_bind (PySem.W.rcLt_alike _ _ X.A.in1 s'' v uk as1 as2 rd1 rd2 (B.al _ m1 _ m2) nn ?_ X.prog X.w _ _ ?_))))
    · have q1 := depth_sh 8 _ (B.sh _ md)
      have q2 := B.hr.un
      have := Nat.min_le_left (kf ds[j + 1]).pd.depth (kf b).pd.depth
      omega
    refine wpAny_bind (wpAny_holding (wpAny_truthy_bool ?_))
    refine wpAny_bind (wpAny_letGo (wpAny_pure ?_))
    have hdr : ds.drop (j + 1) = ds[j + 1] :: ds.drop (j + 1 + 1) := List.drop_eq_getElem_cons hlt
    rw [hdr] at ha
    rw [argMin_cons] at ha
    cases hb' : PySem.W.dataLt (kf ds[j + 1]).pd (kf b).pd with
    | true =>
      rw [if_pos (by exact hb')] at ha
      have s1 := Heap.SameBut.update s''.heap S (Obj.mapSeq fun _ => #[u', v])
      obtain ⟨c2, hc2⟩ : ∃ c2, (s''.heap.update S (Obj.mapSeq fun _ => #[u', v])).get? S = some (seqObj "list" #[u', v] c2) := ⟨_, get?_update_seq hS2 fun _ => #[u', v]⟩
      simp only [if_true]
      refine wpAny_bind (wpAny_updateSeq hS2 rfl (wpAny_bind (wpAny_letGo ?_)))
      rw [nm]
      refine wpAny_pure ⟨plainId_quiet PySem.F.plain_min_loop _, ih (j + 1) _ F' H' u' v x kv _ c2 (by omega) hlt (I2.turnedL (t' := s''.toks) (ch := [S]) (fun b o hb e => (s1.2 b (by simpa using hb)).trans e) fun b hb => by rw [List.mem_singleton.mp hb]; exact fS2) g2 fI2 fS2 ⟨oI, (s1.2 I hSI.symm).trans hI2, hoc, hod⟩ hc2 ru (rx.mono g2.gF) rkv rep md ha⟩
    | false =>
      rw [if_neg (by rw [hb']; decide)] at ha
      simp only [Bool.false_eq_true, if_false]
      refine wpAny_bind (wpAny_letGo ?_)
      rw [nm]
      refine wpAny_pure ⟨plainId_quiet PySem.F.plain_min_loop _, ih (j + 1) _ F' H' ub uk vb vk b c (by omega) hlt I2 g2 fI2 fS2 it2 hS2 rb (qb.mono g'.gF) rk (qk.mono g'.gF) mb ha⟩
/-- what min(l, key=f) wants and gives -/
def rMinF (X : Cx) (n : Nat) (f : Addr) (fd : FuncData) (ps : List Str) (spc : Spc) : List V → List V → Hp → VK → Prop := fun vs zs H Q => ∃ (a : Addr) (F : Hp) (h : Oh) (xs : List V) (ds : List D) (kf : D → D), vs = [.ref a] ∧ zs = [.ref f] ∧ F a = some (.lst xs) ∧ ds ≠ [] ∧
  KeyB X n f fd ps spc X.A.in1 F H h xs ds kf ∧ ∀ v F' H', Rep X.K F' v (argMin (fun x => (kf x).pd) ds.tail (ds.headD .non)) → Gr X.K ⟨F, H, h, fun _ => False⟩ F' H' h → Q v H'
theorem cr_minF : CallRK X (.builtin "min") [Str.ofString "key"] (rMinF X n f fd ps spc) := by
  intro pins s σ H vs zs us ws Q I0 r rz hq
  obtain ⟨l, F, h, xs, ds, kf, rfl, rfl, hl, hne, B, k⟩ := hq
  have nm : (toString "min" ++ toString ".loop" : String) = "min.loop" := by decide
  obtain rfl := Vals.ref1 r
  obtain ⟨w1, rfl, e1⟩ := vals1 rz
  obtain rfl : w1 = Value.ref f := e1
  have l2 := B.it.length
  have hpos : 0 < ds.length := List.length_pos_iff.mpr hne
  have hlH : H l = some (.lst xs) := B.hx _ _ hl
  obtain ⟨its, rv, p, hz⟩ := I0.list (.of hlH)
  have l1 := rv.length
  refine kmk_tree PySem.F.kind_min PySem.F.plain_min PySem.F.entry_min (kmk_min_key _ _) ?_
  show wpAny _ X.A.in1 (Builtin.Builtins.bindParams "min" ["key", "default"] 0 ⟨[], [(Str.ofString "key", .ref f)]⟩ >>= _) _ _ s
  refine wpAny_bind (wpAny_of_eq (show Builtin.Builtins.bindParams "min" ["key", "default"] 0 ⟨[], [(Str.ofString "key", .ref f)]⟩ = pure [some (.ref f), none] from rfl) (wpAny_bind (wpAny_pure ?_)))
  refine wpAny_bind (wpAny_pyIter_list p.isList (wpAny_bind (wpAny_newList ?_ (Nat.zero_le _))))
  rw [nm]
  have zS := size_push' s.heap { cls := .type "list_iterator", data := .fields #[.ref l, .int 0 0] }
  have gI : ((s.heap.push { cls := .type "list_iterator", data := .fields #[.ref l, .int 0 0] }).push (seqObj "list" #[] 0)).get? s.heap.objs.size = some { cls := .type "list_iterator", data := .fields #[.ref l, .int 0 0] } := Heap.get?_push_of_some _ (Heap.get?_push_size _ rfl)
  have gS : ((s.heap.push { cls := .type "list_iterator", data := .fields #[.ref l, .int 0 0] }).push (seqObj "list" #[] 0)).get? (s.heap.push { cls := .type "list_iterator", data := .fields #[.ref l, .int 0 0] }).objs.size = some (seqObj "list" #[] 0) := Heap.get?_push_size _ rfl
  have I3 : Inv X pins σ H { s with heap := (s.heap.push { cls := .type "list_iterator", data := .fields #[.ref l, .int 0 0] }).push (seqObj "list" #[] 0) } := I0.kept (t' := s.toks) fun b u q => Heap.get?_push_of_some _ (Heap.get?_push_of_some _ q)
  generalize (s.heap.push { cls := .type "list_iterator", data := .fields #[.ref l, .int 0 0] }).push (seqObj "list" #[] 0) = h2 at *
  generalize (s.heap.push { cls := .type "list_iterator", data := .fields #[.ref l, .int 0 0] }).objs.size = S at *
  have fI : FpOk X pins H s.heap.objs.size := I0.fpOk (Nat.le_refl _) (I0.hok.fresh (Nat.le_refl _))
  have leS : s.heap.objs.size ≤ S := by omega
  have fS : FpOk X pins H S := I0.fpOk leS (I0.hok.fresh leS)
  have hSI : S ≠ s.heap.objs.size := by omega
  generalize s.heap.objs.size = J at *
  refine wpAny_pure ⟨plainId_quiet PySem.F.plain_min_loop _, ?_⟩
  have hlI : l ≠ J := fun z => by rw [z, fI.1] at hlH; cases hlH
  obtain ⟨its3, rv3, p3, hz3⟩ := I3.list (.of hlH)
  have l3 := rv3.length
  have W := Walks.list (prog := X.prog) (w := X.w) (A := X.A.in1) B.hr.hd J l hlI its3.toArray
  have hsz : its3.toArray.size = its3.length := List.size_toArray ..
  refine codeAny_builtin PySem.F.entry_min_loop ?_
  rw [Around.under_plainId PySem.F.plain_min_loop _]
  show wpAny _ X.A.in1 (seqItems? (.ref S) >>= _) _ _ _
  refine wpAny_bind (wpAny_seqItems gS rfl ?_)
  show wpAny _ X.A.in1 (tryCatch (pyNext (.ref J)) _ >>= _) _ _ _
  refine wpAny_bind (wpAny_tryCatch (W.item 0 _ _ _ (by omega) ⟨⟨_, gI, rfl, rfl⟩, p3.isList⟩ fun u h' tk' hP hst' hk' => ?_))
  have hu : its3[0]? = some u := by simpa using hP
  obtain ⟨d0, dr, rfl⟩ : ∃ d0 dr, ds = d0 :: dr := by
    cases ds with
    | nil => exact absurd rfl hne
    | cons a b => exact ⟨a, b, rfl⟩
  obtain ⟨x, hx, rx⟩ := B.it.get (i := 0) (d := d0) rfl
  obtain ⟨u', hu', ru⟩ := rv3.get hx
  have eu : u' = u := Option.some.inj (hu'.symm.trans hu)
  subst eu
  have hS' := hk' S _ (by simpa using hSI) gS
  have I4 : Inv X pins σ H { s with heap := h', toks := tk' } := Inv.turnedL (s := { s with heap := h2 }) I3 (t' := tk') (ch := [J]) (fun b o hb e => hk' b o hb e) fun b hb => by rw [List.mem_singleton.mp hb]; exact fI
  obtain ⟨oI, hoI, hoc, hod⟩ := id hst'.1
  have md : d0 ∈ d0 :: dr := .head _
  have g0 : Gr X.K ⟨F, H, h, fun _ => False⟩ F H h := ⟨B.hx, .refl _, fun _ q _ _ => .inl q, fun _ _ q _ _ => q, fun _ q => q, fun _ q => .inl q, B.ob⟩
  show wpAny _ X.A.in1 (tryCatch (holding [u'] (call (.ref f) [u'])) _ >>= _) _ _ _
  refine wpAny_bind (wpAny_tryCatch (wpAny_holding (wpAny_mono (key_call (E := fun _ _ => False) B.G B.hb B.hr B.hA I4 g0.ext g0.obs ru rx (B.key _ md)) (fun v s'' he => ?_) fun _ _ hF => hF.elim)))
  obtain ⟨kv, F', H', I5, un, rkv, rep, g'⟩ := he
  have hS2 : s''.heap.get? S = some (seqObj "list" #[] 0) := un.keep _ _ hS' fS.1 (FpOk.nostk fS I4) (by simp)
  have hI2 : s''.heap.get? J = some oI := un.keep _ _ hoI fI.1 (FpOk.nostk fI I4) (by simp)
  have fI2 : FpOk X pins H' J := FpOk.to fI (un.free _ _ hoI fI.1 (by simp))
  have fS2 : FpOk X pins H' S := FpOk.to fS (un.free _ _ hS' fS.1 (by simp))
  have s1 := Heap.SameBut.update s''.heap S (Obj.mapSeq fun _ => #[u', v])
  obtain ⟨c2, hc2⟩ : ∃ c2, (s''.heap.update S (Obj.mapSeq fun _ => #[u', v])).get? S = some (seqObj "list" #[u', v] c2) := ⟨_, get?_update_seq hS2 fun _ => #[u', v]⟩
  show wpAny _ X.A.in1 (updateSeq S (fun _ => #[u', v]) >>= _) _ _ _
  refine wpAny_bind (wpAny_updateSeq hS2 rfl ?_)
  rw [nm]
  refine wpAny_pure ⟨plainId_quiet PySem.F.plain_min_loop _, min_loop (I := J) B.hr.hd B hl hSI (fun s3 F3 H3 v3 u3 i3 g3 r3 b3 q3 e3 => ?_) _ 0 _ F' H' u' v x kv d0 c2 rfl (by show 1 ≤ dr.length + 1; omega) (I5.turnedL (t' := s''.toks) (ch := [S]) (fun b o hb e => (s1.2 b (by simpa using hb)).trans e) fun b hb => by rw [List.mem_singleton.mp hb]; exact fS2) g' fI2 fS2 ⟨oI, (s1.2 J hSI.symm).trans hI2, hoc, hod⟩ hc2 ru (rx.mono g'.gF) rkv rep md rfl⟩
  subst e3
  exact ⟨v3, H3, i3, r3, k v3 F3 H3 q3 g3⟩
/-- min(e, key=f) -/
def wMinF (spc : Spc) (w : WE) : WE := fun S R => w S fun d S1 => match d with
  | .lst ds => ds ≠ [] ∧ ∃ kf : D → D, (∀ x ∈ ds, KeyOf spc S1.h x (kf x)) ∧ (∀ x ∈ ds, shD 8 (kf x) = true) ∧ AllAlike (ds.map fun x => (kf x).pd) ∧ Sortable (ds.map fun x => (kf x).pd) ∧ ds.length ≤ sizeLine ∧ R (argMin (fun x => (kf x).pd) ds.tail (ds.headD .non)) S1
  | _ => False
theorem de_minF {e : Expr} {x : Str} {p px kp pos : Pos} {w : WE} (G : FnOk X.prog X.w X.K X.mg X.base CX0 n f fd ps (spOf X.K 1 spc)) (hr : Room (n + 1) X.A) (hg : Gl X "min") (hm : X.mg "min" = none) (hgf : Gl X x) (hmf : X.mg x = some (.ref f)) (hb : Binds X.K fd ps []) (he : DE X Φ e w)
    (h1 : starEach [e] X.env = [(false, eval e X.env)] := by rfl) (hdb : (x == ("__debug__" : Str)) = false := by decide) : DE X Φ (.Call (.Name "min" p) [e] [⟨some "key", .Name x px, kp⟩] pos) (wMinF spc w) := fun E hE => PE.imp (pe_callBK cr_minF hg hm (by rfl) (pa_cons (he E hE) pa_nil h1) (pk_cons (pe_glob hgf hmf (v := .ref f) rfl hdb) pk_nil) (he := by rw [h1]; rfl) (hpl := by rw [h1]; rfl)) fun σ H Q => by
  rintro ⟨S, F, R, hR, hw, k⟩
  refine ⟨S, F, _, hR, hw, fun d S1 v F1 H1 hw1 r1 hR1 x1 => ?_⟩
  split at hw1
  · obtain ⟨k0, kf, k1, k2, k3, k4, k5, q⟩ := hw1
    cases r1 with
    | lst ha hs =>
      refine ⟨_, F1, S1.h, _, _, kf, rfl, rfl, ha, k0, ⟨G, hb, in1R hr, rfl, hR1.g.ext, hR1.g.obs, hs, k1, k2, k3, k4, k5⟩, fun v' F' H' rv g => ?_⟩
      exact k _ _ v' F' H' q rv (hR1.after g) (x1.trans g.gF)
  · exact hw1.elim
/-! ### any(e), e a tuple of ints -/
def wAnyT (w : WE) : WE := fun S R => w S fun d S1 => ∃ ns : List Int, d = .tup (ns.map .int) ∧ R (.bl (ns.any fun i => i != 0)) S1
def rAnyT (K : PySem.W.Frag) : List V → Hp → VK → Prop := fun vs H Q => ∃ (a : Addr) (ns : List Int), vs = [.ref a] ∧ SqT K H a (ns.map V.int) ∧ Q (.bl (ns.any fun i => i != 0)) H
theorem any_pd : ∀ ns : List Int, (ns.map PyData.int).any PyData.truthy = ns.any fun i => i != 0
  | [] => rfl
  | i :: ns => by rw [List.map_cons, List.any_cons, List.any_cons, any_pd ns]; rfl
theorem reads_ints {h : Heap} : ∀ {ns : List Int} {us : List Value}, Vals (ns.map V.int) us → ∃ as, ReadsAll h us (ns.map PyData.int) as
  | [], [], .nil => ⟨_, .nil⟩
  | i :: ns, _ :: us, .cons r t => by
    obtain ⟨tk, rfl⟩ := r
    obtain ⟨as, q⟩ := reads_ints (h := h) t
    exact ⟨_, .cons (.int i tk) q⟩
theorem plain_ints : ∀ ns : List Int, PyData.plainAll (ns.map PyData.int) = true
  | [] => rfl
  | i :: ns => by
    show (PyData.plain (.int i) && PyData.plainAll (ns.map PyData.int)) = true
    rw [plain_ints ns]; rfl
theorem cr_anyT (hc : X.calm = true) : CallR X (.builtin "any") (rAnyT X.K) := by
  intro pins s σ H vs us Q I0 r hq
  obtain ⟨a, ns, rfl, ha, q⟩ := hq
  obtain rfl := Vals.ref1 r
  obtain ⟨its, rv, p, hz⟩ := I0.tuple ha
  obtain ⟨as, hr⟩ := reads_ints (h := s.heap) rv
  refine PySem.W.any_tuple_data (vs := its.toArray) (I0.ok.hd hc) p (by simpa using hr) (plain_ints ns) (fun x hx => ?_) fun h' tk hk => ?_
  · obtain ⟨i, _, rfl⟩ := List.mem_map.mp hx
    exact trivial
  · rw [any_pd]
    exact ⟨.bl _, H, I0.kept hk, rfl, q⟩
theorem de_anyT {e : Expr} {p pos : Pos} {w : WE} (hc : X.calm = true) (hg : Gl X "any") (hm : X.mg "any" = none) (he : DE X Φ e w)
    (h1 : starEach [e] X.env = [(false, eval e X.env)] := by rfl) : DE X Φ (.Call (.Name "any" p) [e] [] pos) (wAnyT w) := fun E hE => PE.imp (pe_callB (cr_anyT hc) hg hm (by rfl) (pa_cons (he E hE) pa_nil h1) (he := h1) (hpl := by rfl)) fun σ H Q => by
  rintro ⟨S, F, R, hR, hw, k⟩
  refine ⟨S, F, _, hR, hw, fun d S1 v F1 H1 hw1 r1 hR1 x1 => ?_⟩
  obtain ⟨ns, rfl, q⟩ := hw1
  cases r1 with
  | tup ha hs =>
    have e := hs.ints
    subst e
    exact ⟨_, ns, rfl, hR1.g.ext.sqT ha, k _ _ _ F1 H1 q (.bl _) hR1 x1⟩
end
end VL

set_option Elab.async false
set_option linter.all false
set_option maxRecDepth 100000
set_option maxHeartbeats 400000
/-! VL15: dicts whose keys are ints and texts. -/
namespace VL
open PySem PySem.Spec PyProof.Rows L2
section
variable {κ : Type} [DecidableEq κ]
def look (l : List (κ × D)) (k : κ) : Option D := (l.find? fun kv => decide (kv.1 = k)).map (·.2)
def putP (l : List (κ × D)) (k : κ) (d : D) : List (κ × D) :=
  if (l.any fun kv => decide (kv.1 = k)) = true then l.map (fun kv => if kv.1 = k then (kv.1, d) else kv) else l ++ [(k, d)]
theorem look_nil {k : κ} : look [] k = none := rfl
theorem look_pos {p : κ × D} {r : List (κ × D)} {k : κ} (e : p.1 = k) : look (p :: r) k = some p.2 := by simp [look, List.find?_cons, e]
theorem look_neg {p : κ × D} {r : List (κ × D)} {k : κ} (e : ¬ p.1 = k) : look (p :: r) k = look r k := by simp [look, List.find?_cons, e]
theorem look_any (k : κ) : ∀ l : List (κ × D), (l.any fun kv => decide (kv.1 = k)) = (look l k).isSome
  | [] => rfl
  | p :: r => by
    rw [List.any_cons]
    by_cases e : p.1 = k
    · simp only [look_pos e, decide_eq_true e, Bool.true_or, Option.isSome_some]
    · rw [look_neg e, decide_eq_false e, Bool.false_or]; exact look_any k r
theorem look_map (k j : κ) (y : D) : ∀ l : List (κ × D), look (l.map fun kv => if kv.1 = k then (kv.1, y) else kv) j = (look l j).map fun x => if j = k then y else x
  | [] => rfl
  | p :: r => by
    have ih := look_map k j y r
    rw [List.map_cons]
    by_cases h : p.1 = k
    · rw [if_pos h]
      by_cases e : p.1 = j
      · rw [look_pos (p := (p.1, y)) e, look_pos e, Option.map_some, if_pos (e.symm.trans h)]
      · rw [look_neg (p := (p.1, y)) e, look_neg e, ih]
    · rw [if_neg h]
      by_cases e : p.1 = j
      · rw [look_pos (p := p) e, look_pos e, Option.map_some, if_neg (fun z => h (e.trans z))]
      · rw [look_neg (p := p) e, look_neg e, ih]
theorem look_snoc (k j : κ) (y : D) : ∀ l : List (κ × D), look l k = none → look (l ++ [(k, y)]) j = if j = k then some y else look l j
  | [], _ => by
    by_cases e : k = j
    · rw [if_pos e.symm]; exact look_pos (p := (k, y)) e
    · rw [if_neg (fun z => e z.symm)]; exact look_neg (p := (k, y)) e
  | p :: r, hn => by
    rw [List.cons_append]
    have hk : ¬ p.1 = k := fun z => by rw [look_pos z] at hn; cases hn
    rw [look_neg hk] at hn
    have ih := look_snoc k j y r hn
    by_cases e : p.1 = j
    · rw [look_pos e, look_pos e, if_neg (fun z => hk (e.trans z))]
    · rw [look_neg e, look_neg e, ih]
theorem look_put (l : List (κ × D)) (k j : κ) (y : D) : look (putP l k y) j = if j = k then some y else look l j := by
  unfold putP
  by_cases a : (l.any fun kv => decide (kv.1 = k)) = true
  · rw [if_pos a, look_map]
    rw [look_any] at a
    by_cases e : j = k
    · obtain ⟨x, hx⟩ := Option.isSome_iff_exists.mp a
      rw [if_pos e, e, hx, Option.map_some, if_pos rfl]
    · rw [if_neg e]
      cases look l j with
      | none => rfl
      | some x => rw [Option.map_some, if_neg e]
  · rw [if_neg a]
    refine look_snoc k j y l ?_
    rw [look_any] at a
    cases q : look l k with
    | none => rfl
    | some x => rw [q] at a; exact (a rfl).elim
theorem putP_new {l : List (κ × D)} {k : κ} (y : D) (h : look l k = none) : putP l k y = l ++ [(k, y)] := by
  unfold putP
  rw [look_any, h]
  exact if_neg (by decide)
/-- the table in the heap is that of the data -/
def RepT (K : PySem.W.Frag) (F : Hp) (kvs : List (κ × V)) (l : List (κ × D)) : Prop := kvs.map (·.1) = l.map (·.1) ∧ Reps K F (kvs.map (·.2)) (l.map (·.2))
variable {K : PySem.W.Frag} {F : Hp}
theorem RepT.nil : RepT K F ([] : List (κ × V)) [] := And.intro rfl .nil
theorem RepT.length {kvs : List (κ × V)} {l : List (κ × D)} (r : RepT K F kvs l) : kvs.length = l.length := by
  have := congrArg List.length r.1
  rwa [List.length_map, List.length_map] at this
theorem RepT.lk : ∀ {kvs : List (κ × V)} {l : List (κ × D)}, RepT K F kvs l → ∀ k, (∀ d, look l k = some d → ∃ v, valV kvs k = some v ∧ Rep K F v d) ∧ (look l k = none → valV kvs k = none)
  | [], [], _, k => And.intro (fun d h => by cases h) fun _ => rfl
  | [], _ :: _, r, _ => nomatch r.1
  | _ :: _, [], r, _ => nomatch r.1
  | (g, v) :: kvs, (g', x) :: l, ⟨e, r⟩, k => by
    rw [List.map_cons, List.map_cons] at e
    injection e with e1 e2
    have e1' : g = g' := e1
    subst e1'
    cases r with
    | cons r1 r2 =>
      by_cases q : g = k
      · rw [look_pos (p := (g, x)) q, valV_pos (p := (g, v)) q]
        exact ⟨fun d h => by cases h; exact ⟨v, rfl, r1⟩, fun h => nomatch h⟩
      · rw [look_neg (p := (g, x)) q, valV_neg (p := (g, v)) q]
        exact RepT.lk ⟨e2, r2⟩ k
theorem RepT.some_eq {kvs : List (κ × V)} {l : List (κ × D)} (r : RepT K F kvs l) {k : κ} : (valV kvs k).isSome = (look l k).isSome := by
  cases z : look l k with
  | none => rw [(r.lk k).2 z]; rfl
  | some d =>
    obtain ⟨u, h6, _⟩ := (r.lk k).1 d z
    rw [h6]; rfl
theorem RepT.put {kvs : List (κ × V)} {l : List (κ × D)} (r : RepT K F kvs l) (k : κ) {v : V} {d : D} (rv : Rep K F v d) : RepT K F (putK kvs k v) (putP l k d) := by
  have ea : (kvs.any fun kv => decide (kv.1 = k)) = (l.any fun kv => decide (kv.1 = k)) := by
    rw [valV_any, look_any]
    cases q : VL.look l k with
    | none => rw [(r.lk k).2 q]; rfl
    | some d =>
      obtain ⟨u, h, _⟩ := (r.lk k).1 d q
      rw [h]; rfl
  unfold putK putP
  rw [ea]
  split
  · have go : ∀ {kvs : List (κ × V)} {l : List (κ × D)}, RepT K F kvs l → RepT K F (kvs.map fun kv => if kv.1 = k then (kv.1, v) else kv) (l.map fun kv => if kv.1 = k then (kv.1, d) else kv) := by
      intro kvs
      induction kvs with
      | nil =>
        intro l r
        cases l with
        | nil => exact r
        | cons a b => exact nomatch r.1
      | cons p kvs ih =>
        intro l r
        cases l with
        | nil => exact nomatch r.1
        | cons a l =>
          obtain ⟨e, r⟩ := r
          rw [List.map_cons, List.map_cons] at e
          injection e with e1 e2
          cases r with
          | cons r1 r2 =>
            obtain ⟨h1, h2⟩ := ih ⟨e2, r2⟩
            rw [List.map_cons, List.map_cons]
            by_cases q : p.1 = k
            · rw [if_pos q, if_pos (e1.symm.trans q)]
              exact ⟨by rw [List.map_cons, List.map_cons, h1]; exact congrArg (· :: _) e1, .cons rv h2⟩
            · rw [if_neg q, if_neg (fun z => q (e1.trans z))]
              exact ⟨by rw [List.map_cons, List.map_cons, h1]; exact congrArg (· :: _) e1, .cons r1 h2⟩
    exact go r
  · exact ⟨by rw [List.map_append, List.map_append, r.1]; rfl, by rw [List.map_append, List.map_append]; exact r.2.append (.one rv)⟩
end
def keyD : D → Option Key
  | .int i => some (.inl i)
  | .str x => some (.inr x)
  | _ => none
/-- a dict as data -/
abbrev dcP (l : List (Key × D)) : D := .dct (l.map (·.1)) (l.map (·.2))
abbrev mdP (l : List (Key × D)) : Ob := .md (l.map (·.1)) (l.map (·.2))
section
variable {K : PySem.W.Frag} {E : En} {F F' H H' : Hp} {σ : L2.St} {S : Sg} {p a : Addr} {o : HO} {v : V} {d : D} {l : List (Key × D)}
theorem keyD_V {y : V} {k : Key} (r : Rep K F y d) (h : keyD d = some k) : y = kV k := by
  cases r <;> first | (cases h; rfl) | cases h
theorem Rep.dcP (r : Rep K F v (dcP l)) : ∃ a kvs, v = .ref a ∧ F a = some (.dK kvs) ∧ RepT K F kvs l := by
  cases r with
  | dct h1 h2 h3 => exact ⟨_, _, rfl, h1, h2, h3⟩
/-- a container that nobody owns changes -/
theorem Rel.over (R : Rel K E F H σ S) (nF : F p = none) (nh : S.h p = none) (nE : E.H p = none) (no : ∀ (i : Nat) (e : D), S.s[i]? = some (.o e) → σ[i]? ≠ some (some (.ref p))) : Rel K E F (upd H p o) σ S := by
  refine ⟨⟨fun b u e => ?_, R.g.gF, fun b h1 h2 h3 => TupO.upd (R.g.gN b h1 h2 h3) nF, fun b u h1 h2 h3 => ?_, fun b h1 => ?_, R.g.gO, fun a ob e => ?_⟩, R.len, R.frz, fun i d e => ?_, R.inj⟩
  · rw [upd_ne (fun z => by rw [z, nF] at e; cases e)]; exact R.g.ext _ _ e
  · rw [upd_ne (fun z => by rw [z, nE] at h1; cases h1)]; exact R.g.gH b u h1 h2 h3
  · by_cases hb : b = p
    · subst hb; rw [upd_same]; simp
    · rw [upd_ne hb]; exact R.g.gP b h1
  · obtain ⟨h1, h2⟩ := R.g.obs a ob e
    exact ⟨h1.mono (.refl _) (upd_ne fun z => by rw [z, nh] at e; cases e), h2⟩
  · obtain ⟨q, h1, h2, h3, h4, h5⟩ := R.own i d e
    exact ⟨q, h1, h2.mono (.refl _) (upd_ne fun z => no i d e (z ▸ h1)), h3, h4, h5⟩
/-- a fresh object stands aside while other things run -/
theorem Rel.aside (R : Rel K E F H σ S) (hp : H p = none) (hot : ∀ vs, o ≠ .tup vs) : Rel K ⟨F, upd H p o, S.h, owns σ S⟩ F (upd H p o) σ S ∧
    ∀ {F2 H2 σ2 S2}, Rel K ⟨F, upd H p o, S.h, owns σ S⟩ F2 H2 σ2 S2 → H2 p = some o ∧ F2 p = none ∧ S2.h p = none ∧ E.H p = none ∧ (∀ (i : Nat) (e : D), S2.s[i]? = some (.o e) → σ2[i]? ≠ some (some (.ref p))) ∧ Rel K E F2 H2 σ2 S2 := by
  obtain ⟨R1, nF, nh, nE, no⟩ := R.fresh (o := o) hp
  have now : ¬ owns σ S p := fun ⟨i, d, h1, h2⟩ => no i d h1 h2
  refine ⟨R1.enter, fun {F2 H2 σ2 S2} R2 => ⟨R2.g.gH p o upd_same nh now, (R2.g.gN p nF (by show upd H p o p ≠ none; rw [upd_same]; simp) now).elim id fun ⟨vs, z⟩ => by
    rw [show H2 p = some o from R2.g.gH p o upd_same nh now] at z
    exact (hot vs (Option.some.inj z)).elim, ?_, nE, fun i e h1 h2 => ?_, R1.leave R2⟩⟩
  · cases q : S2.h p with
    | none => rfl
    | some x =>
      rcases R2.g.gO p (by rw [q]; simp) with z | z | z
      · exact absurd nh z
      · rw [show (⟨F, upd H p o, S.h, owns σ S⟩ : En).H p = some o from upd_same] at z; cases z
      · exact absurd z now
  · obtain ⟨q, q1, q2, q3, q4, q5⟩ := R2.own i e h1
    rw [h2] at q1
    cases q1
    rcases q5 with z | z
    · rw [show (⟨F, upd H p o, S.h, owns σ S⟩ : En).H p = some o from upd_same] at z; cases z
    · exact absurd z now
end
theorem pe_ex {X : Cx} {e : Expr} {w : WE} (h : DE X Tr e w) : PE X e (fun σ H Q => ∃ E, LE X.K E w σ H Q) := ⟨fun pins s σ H Q I ⟨E, q⟩ => (h E trivial).run pins s σ H Q I q⟩
theorem u64 {n : Nat} (h : n + 64 < cLine) : n + 1 < cLine := by omega
/-! ### reads -/
def wDGet (wd wi : WE) : WE := fun S R => wd S fun x S1 => wi S1 fun y S2 => ∃ l k d, keyD y = some k ∧ (x = dcP l ∨ ∃ a, x = .obj a ∧ S2.h a = some (mdP l)) ∧ look l k = some d ∧ R d S2
/-- .. a name that owns the dict -/
def wDGetO (i : Nat) (wi : WE) : WE := fun S R => (∃ e, S.s[i]? = some (.o e)) ∧ wi S fun y S1 => ∃ l k d, keyD y = some k ∧ S1.s[i]? = some (.o (dcP l)) ∧ look l k = some d ∧ R d S1
/-- y in d -/
def wDIn (b : Bool) (wi wd : WE) : WE := fun S R => wi S fun y S1 => wd S1 fun x S2 => ∃ l k, keyD y = some k ∧ (x = dcP l ∨ ∃ a, x = .obj a ∧ S2.h a = some (mdP l)) ∧ R (.bl ((look l k).isSome == b)) S2
def wDInO (b : Bool) (wi : WE) (i : Nat) : WE := fun S R => wi S fun y S1 => ∃ l k, keyD y = some k ∧ S1.s[i]? = some (.o (dcP l)) ∧ R (.bl ((look l k).isSome == b)) S1
/-- {}, {k: v} -/
def wDNew : WE := fun S R => R (dcP []) S
def wDOne (wk wv : WE) : WE := fun S R => wk S fun x S1 => wv S1 fun d S2 => ∃ k, keyD x = some k ∧ R (dcP [(k, d)]) S2
/-- d[i] = v -/
def wDPut (wd wi wv : WE) : WS := fun D S => wv S fun d S1 => wd S1 fun x S2 => wi S2 fun y S3 => ∃ a l k, x = .obj a ∧ keyD y = some k ∧ S3.h a = some (mdP l) ∧ l.length < sizeLine ∧ D.nx (S3.ob a (mdP (putP l k d)))
def wDPutO (j : Nat) (wi wv : WE) : WS := fun D S => (∃ e, S.s[j]? = some (.o e)) ∧ wv S fun d S1 => (∃ e, S1.s[j]? = some (.o e)) ∧ wi S1 fun y S2 => ∃ l k, keyD y = some k ∧ S2.s[j]? = some (.o (dcP l)) ∧ l.length < sizeLine ∧ D.nx (S2.st j (.o (dcP (putP l k d))))
section
variable {X : Cx} {Φ : En → Prop} {W : L2.WX} {o e i value : Expr} {pos pos' p : Pos} {w wd wi wk wv : WE}
theorem ob_md {K : PySem.W.Frag} {F H : Hp} {a : Addr} {l : List (Key × D)} (h : ObAt K F H a (mdP l)) : ∃ kvs, H a = some (.dK kvs) ∧ RepT K F kvs l := let ⟨kvs, h1, h2, h3⟩ := h; ⟨kvs, h1, h2, h3⟩
theorem ow_md {K : PySem.W.Frag} {F H : Hp} {a : Addr} {l : List (Key × D)} (h : OwAt K F H a (dcP l)) : ∃ kvs, H a = some (.dK kvs) ∧ RepT K F kvs l := let ⟨kvs, h1, h2, h3⟩ := h; ⟨kvs, h1, h2, h3⟩
theorem dd_at {K : PySem.W.Frag} {E : En} {F1 F H : Hp} {σ : L2.St} {S : Sg} {x : D} {v : V} {l : List (Key × D)} (R : Rel K E F H σ S) (r : Rep K F1 v x) (e : Ext F1 F) (h : x = dcP l ∨ ∃ a, x = .obj a ∧ S.h a = some (mdP l)) : ∃ a kvs, v = .ref a ∧ H a = some (.dK kvs) ∧ RepT K F kvs l := by
  rcases h with rfl | ⟨a, rfl, h⟩
  · obtain ⟨a, kvs, h1, h2, h3⟩ := (r.mono e).dcP
    exact ⟨a, kvs, h1, R.g.ext _ _ h2, h3⟩
  · cases r
    obtain ⟨kvs, h1, h2⟩ := ob_md (R.g.obs _ _ h).1
    exact ⟨a, kvs, rfl, h1, h2⟩
theorem de_dget (hu : X.A.units + 64 < cLine) (ho : DE X Φ o wd) (hi : DE X Φ i wi) (hs : NoSl i) : DE X Φ (.Subscript o i pos) (wDGet wd wi) := fun E hE => PE.imp (pe_dget (u64 hu) (ho E hE) (hi E hE) hs) fun σ H Q => by
  rintro ⟨S, F, R, hR, hw, k⟩
  refine ⟨S, F, _, hR, hw, fun x S1 v1 F1 H1 hw1 r1 hR1 x1 => ⟨S1, F1, _, hR1, hw1, fun y S2 v2 F2 H2 hw2 r2 hR2 x2 => ?_⟩⟩
  obtain ⟨l, kk, d, h1, h2, h3, q⟩ := hw2
  obtain ⟨a, kvs, rfl, h4, h5⟩ := dd_at hR2 r1 x2 h2
  obtain ⟨u, h6, h7⟩ := (h5.lk kk).1 d h3
  rw [keyD_V r2 h1]
  refine ⟨a, u, rfl, ?_, k d S2 u F2 H2 q h7 hR2 (x1.trans x2)⟩
  rw [← h6]
  exact .k h4
theorem de_dgetO {x : Str} (j : Nat) (h : PE X (.Name x p) (tVar j)) (hu : X.A.units + 64 < cLine) (hi : DE X Φ i wi) (hs : NoSl i) : DE X Φ (.Subscript (.Name x p) i pos) (wDGetO j wi) := fun E hE => PE.imp (pe_dget (u64 hu) h (hi E hE) hs) fun σ H Q => by
  rintro ⟨S, F, R, hR, ⟨⟨e, he⟩, hw⟩, k⟩
  obtain ⟨q0, h0, _⟩ := hR.own j e he
  refine ⟨_, h0, S, F, _, hR, hw, fun y S1 v1 F1 H1 hw1 r1 hR1 x1 => ?_⟩
  obtain ⟨l, kk, d, h1, h2, h3, q⟩ := hw1
  obtain ⟨q1, g1, g2, _⟩ := hR1.own j _ h2
  rw [h0] at g1
  cases g1
  obtain ⟨kvs, h4, h5⟩ := ow_md g2
  obtain ⟨u, h6, h7⟩ := (h5.lk kk).1 d h3
  rw [keyD_V r1 h1]
  refine ⟨_, u, rfl, ?_, k d S1 u F1 H1 q h7 hR1 x1⟩
  rw [← h6]
  exact .k h4
theorem dn_dnew : DN X Φ (.Dict [] [] pos) wDNew := fun E hE => PE.imp pe_dnewK fun σ H Q => by
  rintro ⟨S, F, R, hR, hw, k⟩
  intro q hq
  obtain ⟨h1, h2, h3, h4, h5⟩ := hR.fresh (o := .dK []) hq
  exact k _ S q F _ hw ⟨⟨[], upd_same, rfl, .nil⟩, h2, h3, h4, h5⟩ h1 (.refl _)
theorem dn_done {kx vx : Expr} (hk : DE X Tr kx wk) (hv : DE X Tr vx wv) : DN X Φ (.Dict [some kx] [vx] pos) (wDOne wk wv) := fun E hE => PE.imp (pe_disp (pps_cons (pe_ex hk) (pe_ex hv) pps_nil) rfl rfl (by simp) (by simp)) fun σ H Q => by
  rintro ⟨S, F, R, hR, hw, k⟩
  intro q hq
  obtain ⟨R1, back⟩ := hR.aside (o := .dK []) hq (fun _ z => nomatch z)
  refine ⟨_, S, F, _, R1, hw, fun x S1 v1 F1 H1 hw1 r1 hR1 x1 => ⟨_, S1, F1, _, hR1, hw1, fun d S2 v2 F2 H2 hw2 r2 hR2 x2 => ?_⟩⟩
  obtain ⟨kk, h1, q2⟩ := hw2
  obtain ⟨b1, b2, b3, b4, b5, b6⟩ := back hR2
  refine ⟨b1, [(kk, v2)], by rw [keyD_V r1 h1]; rfl, by simp, ?_⟩
  exact k _ S2 q F2 _ q2 ⟨⟨_, upd_same, rfl, .one r2⟩, b2, b3, b4, b5⟩ (b6.over b2 b3 b4 b5) (x1.trans x2)
theorem din_go {E : En} {y x : Expr} (hi : PE X i (LE X.K E wi)) (b : Bool) {σ : L2.St} {H : Hp} {Q : V → Hp → Prop} (h : LE X.K E (wDIn b wi wd) σ H Q) : LE X.K E wi σ H fun y H1 => LE X.K E wd σ H1 fun x H2 => ∃ a o, x = .ref a ∧ DGet H2 a y o ∧ Q (.bl (o.isSome == b)) H2 := by
  obtain ⟨S, F, R, hR, hw, k⟩ := h
  refine ⟨S, F, _, hR, hw, fun y S1 v1 F1 H1 hw1 r1 hR1 x1 => ⟨S1, F1, _, hR1, hw1, fun x S2 v2 F2 H2 hw2 r2 hR2 x2 => ?_⟩⟩
  obtain ⟨l, kk, h1, h2, q⟩ := hw2
  obtain ⟨a, kvs, rfl, h4, h5⟩ := dd_at hR2 r2 (.refl _) h2
  rw [keyD_V r1 h1]
  refine ⟨a, _, rfl, .k h4, ?_⟩
  rw [h5.some_eq]
  exact k _ S2 _ F2 H2 q (.bl _) hR2 (x1.trans x2)
theorem eqT (b : Bool) : (b == true) = b := by cases b <;> rfl
theorem eqF (b : Bool) : (b == false) = !b := by cases b <;> rfl
theorem de_din (hu : X.A.units + 64 < cLine) (hi : DE X Φ i wi) (ho : DE X Φ o wd) (hm : behindInMarks .In o = false := by rfl) : DE X Φ (.Compare i [.In] [o] pos) (wDIn true wi wd) := fun E hE => PE.imp (pe_cmp (pc_din (u64 hu) (hi E hE) (ho E hE)) hm) fun σ H Q h => by
  have q := din_go (y := i) (x := o) (hi E hE) true h
  simp only [eqT] at q
  exact q
theorem de_dnotin (hu : X.A.units + 64 < cLine) (hi : DE X Φ i wi) (ho : DE X Φ o wd) (hm : behindInMarks .NotIn o = false := by rfl) : DE X Φ (.Compare i [.NotIn] [o] pos) (wDIn false wi wd) := fun E hE => PE.imp (pe_cmp (pc_dnotin (u64 hu) (hi E hE) (ho E hE)) hm) fun σ H Q h => by
  have q := din_go (y := i) (x := o) (hi E hE) false h
  simp only [eqF] at q
  exact q
theorem lt_bb {E : En} {w : WE} {σ : L2.St} {H : Hp} {Q : Bool → Hp → Prop} (h : LT X.K E (wBb w) σ H Q) : LE X.K E w σ H fun v H1 => ∃ b, v = .bl b ∧ Q b H1 := by
  obtain ⟨S, F, R, hR, hw, k⟩ := h
  refine ⟨S, F, _, hR, hw, fun d S1 v F1 H1 hw1 r1 hR1 x1 => ?_⟩
  split at hw1
  · cases r1
    exact ⟨_, rfl, k _ S1 F1 H1 hw1 hR1 x1⟩
  · exact hw1.elim
theorem dt_din (hu : X.A.units + 64 < cLine) (hi : DE X Φ i wi) (ho : DE X Φ o wd) (hm : behindInMarks .In o = false := by rfl) : DT X Φ (.Compare i [.In] [o] pos) (wBb (wDIn true wi wd)) := fun E hE => PT.imp (pt_cmp (pc_din (u64 hu) (hi E hE) (ho E hE)) hm) fun σ H Q h => by
  have q := din_go (y := i) (x := o) (hi E hE) true (lt_bb h)
  simp only [eqT] at q
  exact q
theorem dt_dnotin (hu : X.A.units + 64 < cLine) (hi : DE X Φ i wi) (ho : DE X Φ o wd) (hm : behindInMarks .NotIn o = false := by rfl) : DT X Φ (.Compare i [.NotIn] [o] pos) (wBb (wDIn false wi wd)) := fun E hE => PT.imp (pt_cmp (pc_dnotin (u64 hu) (hi E hE) (ho E hE)) hm) fun σ H Q h => by
  have q := din_go (y := i) (x := o) (hi E hE) false (lt_bb h)
  simp only [eqF] at q
  exact q
theorem dinO_go {E : En} {j : Nat} {v0 : Expr} (b : Bool) {σ : L2.St} {H : Hp} {Q : V → Hp → Prop} (h : LE X.K E (wDInO b wi j) σ H Q) : LE X.K E wi σ H fun y H1 => tVar j σ H1 fun x H2 => ∃ a o, x = .ref a ∧ DGet H2 a y o ∧ Q (.bl (o.isSome == b)) H2 := by
  obtain ⟨S, F, R, hR, hw, k⟩ := h
  refine ⟨S, F, _, hR, hw, fun y S1 v1 F1 H1 hw1 r1 hR1 x1 => ?_⟩
  obtain ⟨l, kk, h1, h2, q⟩ := hw1
  obtain ⟨q1, g1, g2, _⟩ := hR1.own j _ h2
  obtain ⟨kvs, h4, h5⟩ := ow_md g2
  rw [keyD_V r1 h1]
  refine ⟨_, g1, q1, _, rfl, .k h4, ?_⟩
  rw [h5.some_eq]
  exact k _ S1 _ F1 H1 q (.bl _) hR1 x1
theorem de_dinO {x : Str} (j : Nat) (h : PE X (.Name x p) (tVar j)) (hu : X.A.units + 64 < cLine) (hi : DE X Φ i wi) (hm : behindInMarks .In (.Name x p) = false := by rfl) : DE X Φ (.Compare i [.In] [.Name x p] pos) (wDInO true wi j) := fun E hE => PE.imp (pe_cmp (pc_din (u64 hu) (hi E hE) h) hm) fun σ H Q hh => by
  have q := dinO_go (v0 := i) true hh
  simp only [eqT] at q
  exact q
theorem de_dnotinO {x : Str} (j : Nat) (h : PE X (.Name x p) (tVar j)) (hu : X.A.units + 64 < cLine) (hi : DE X Φ i wi) (hm : behindInMarks .NotIn (.Name x p) = false := by rfl) : DE X Φ (.Compare i [.NotIn] [.Name x p] pos) (wDInO false wi j) := fun E hE => PE.imp (pe_cmp (pc_dnotin (u64 hu) (hi E hE) h) hm) fun σ H Q hh => by
  have q := dinO_go (v0 := i) false hh
  simp only [eqF] at q
  exact q
theorem dt_dinO {x : Str} (j : Nat) (h : PE X (.Name x p) (tVar j)) (hu : X.A.units + 64 < cLine) (hi : DE X Φ i wi) (hm : behindInMarks .In (.Name x p) = false := by rfl) : DT X Φ (.Compare i [.In] [.Name x p] pos) (wBb (wDInO true wi j)) := fun E hE => PT.imp (pt_cmp (pc_din (u64 hu) (hi E hE) h) hm) fun σ H Q hh => by
  have q := dinO_go (v0 := i) true (lt_bb hh)
  simp only [eqT] at q
  exact q
theorem dt_dnotinO {x : Str} (j : Nat) (h : PE X (.Name x p) (tVar j)) (hu : X.A.units + 64 < cLine) (hi : DE X Φ i wi) (hm : behindInMarks .NotIn (.Name x p) = false := by rfl) : DT X Φ (.Compare i [.NotIn] [.Name x p] pos) (wBb (wDInO false wi j)) := fun E hE => PT.imp (pt_cmp (pc_dnotin (u64 hu) (hi E hE) h) hm) fun σ H Q hh => by
  have q := dinO_go (v0 := i) false (lt_bb hh)
  simp only [eqF] at q
  exact q
theorem ds_dput (hu : X.A.units + 64 < cLine) (ho : DE X Tr o wd) (hi : DE X Tr i wi) (hv : DE X Tr value wv) (hs : swapsWith value (some (.Subscript o i pos')) pos.line X.env = pure false := by rfl) : DS X W (.Assign [.Subscript o i pos'] value pos) (wDPut wd wi wv) := fun E => PS.imp (ps_dput (u64 hu) (ho E trivial) (hi E trivial) (hv E trivial) hs) fun D σ H => by
  rintro ⟨S, F, R, hR, hw, k1, k2, k3, k4, k5⟩
  refine ⟨S, F, _, hR, hw, fun d S1 v1 F1 H1 hw1 r1 hR1 x1 => ⟨S1, F1, _, hR1, hw1, fun x S2 v2 F2 H2 hw2 r2 hR2 x2 => ⟨S2, F2, _, hR2, hw2, fun y S3 v3 F3 H3 hw3 r3 hR3 x3 => ?_⟩⟩⟩
  obtain ⟨a, l, kk, rfl, h1, h2, h3, q⟩ := hw3
  cases r2
  obtain ⟨kvs, g1, g2⟩ := ob_md (hR3.g.obs _ _ h2).1
  rw [keyD_V r3 h1]
  refine ⟨a, _, rfl, .k g1 (by rw [g2.length]; exact h3), k1 _ σ F3 _ q (hR3.obput (by rw [h2]; simp) ?_) ((x1.trans x2).trans x3)⟩
  obtain ⟨p1, p2⟩ := g2.put kk ((r1.mono x2).mono x3)
  exact ⟨_, upd_same, p1, p2⟩
theorem ds_dputO {x : Str} (j : Nat) (h : PE X (.Name x p) (tVar j)) (hu : X.A.units + 64 < cLine) (hi : DE X Tr i wi) (hv : DE X Tr value wv) (hs : swapsWith value (some (.Subscript (.Name x p) i pos')) pos.line X.env = pure false := by rfl) : DS X W (.Assign [.Subscript (.Name x p) i pos'] value pos) (wDPutO j wi wv) := fun E => PS.imp (ps_dput (u64 hu) h (hi E trivial) (hv E trivial) hs) fun D σ H => by
  rintro ⟨S, F, R, hR, ⟨⟨e, he⟩, hw⟩, k1, k2, k3, k4, k5⟩
  refine ⟨S, F, _, hR, hw, fun d S1 v1 F1 H1 hw1 r1 hR1 x1 => ?_⟩
  obtain ⟨⟨e1, he1⟩, hw1⟩ := hw1
  obtain ⟨q0, h0, _⟩ := hR1.own j e1 he1
  refine ⟨_, h0, S1, F1, _, hR1, hw1, fun y S2 v2 F2 H2 hw2 r2 hR2 x2 => ?_⟩
  obtain ⟨l, kk, h1, h2, h3, q⟩ := hw2
  obtain ⟨q1, g1, g2, _⟩ := hR2.own j _ h2
  rw [h0] at g1
  cases g1
  obtain ⟨kvs, h4, h5⟩ := ow_md g2
  rw [keyD_V r2 h1]
  refine ⟨_, _, rfl, .k h4 (by rw [h5.length]; exact h3), k1 _ σ F2 _ q (hR2.mut h2 h0 ?_) (x1.trans x2)⟩
  obtain ⟨p1, p2⟩ := h5.put kk (r1.mono x2)
  exact ⟨_, upd_same, p1, p2⟩
end
end VL

set_option Elab.async false
set_option linter.all false
set_option maxRecDepth 100000
set_option maxHeartbeats 400000
/-! VL16: d.update(e), list(d); dicts with tuple keys. -/
namespace VL
open PySem PySem.Spec PyProof.Rows L2
/-! ### d.update(e), both dicts of names of ours -/
def mrgP {κ : Type} [DecidableEq κ] (l m : List (κ × D)) : List (κ × D) := m.foldl (fun acc kv => putP acc kv.1 kv.2) l
theorem RepT.merge {K : PySem.W.Frag} {F : Hp} : ∀ {more : List (Key × V)} {m : List (Key × D)} {kvs : List (Key × V)} {l : List (Key × D)}, RepT K F more m → RepT K F kvs l → RepT K F (mergeK kvs more) (mrgP l m)
  | [], [], _, _, _, r => r
  | [], _ :: _, _, _, q, _ => nomatch q.1
  | _ :: _, [], _, _, q, _ => nomatch q.1
  | (g, v) :: more, (g', x) :: m, kvs, l, ⟨e, r⟩, q => by
    rw [List.map_cons, List.map_cons] at e
    injection e with e1 e2
    have e1' : g = g' := e1
    subst e1'
    cases r with
    | cons r1 r2 => exact RepT.merge (more := more) (m := m) (And.intro e2 r2) (q.put g r1)
def rUpdK : V → List V → Hp → VK → Prop := fun x xs H Q => ∃ (a b : Addr) (kvs more : List (Key × V)), x = .ref a ∧ xs = [.ref b] ∧ a ≠ b ∧ H a = some (.dK kvs) ∧ H b = some (.dK more) ∧ kvs.length + more.length ≤ sizeLine ∧ Q .non (upd H a (.dK (mergeK kvs more)))
theorem mt_updK {X : Cx} : MtR X "dict.update" rUpdK := by
  intro pins s σ H x xs v us Q I rx rs q
  obtain ⟨a, b, kvs, more, rfl, rfl, ne, ha, hb, hl, q⟩ := q
  cases rx
  obtain rfl := Vals.ref1 rs
  obtain ⟨z1, d1, vs1, r1, dd1⟩ := dk_of I.hok ha
  obtain ⟨z2, d2, vs2, r2, dd2⟩ := dk_of I.hok hb
  have l1 := r1.length
  have l2 := r2.length
  refine call_meetsIn PySem.F.slot_dict_update dd1.typeIs PySem.F.entry_dict_update (PySem.F.args_dict_update_2 _ _) (PySem.meets_dict_update (mixKind X.prog X.w) a b ne d2) ⟨vs1, vs2, dd1, dd2, by rw [← l1, ← l2]; exact hl, fun h' hmm _ hs => ?_⟩
  have hz := length_mergeK more kvs
  have he : ∃ q, h'.get? a = some q := let ⟨q, _, _, hq, _⟩ := hmm; ⟨q, hq⟩
  exact ⟨.non, _, d_write (t' := s.toks) I (by rw [ha]; exact True.intro) hs he (dk_new (by omega) d1 (r2.merge r1) hmm), rfl, q⟩
def wUpdO (i j : Nat) : WS := fun D S => ∃ l m, i ≠ j ∧ S.s[i]? = some (.o (dcP l)) ∧ S.s[j]? = some (.o (dcP m)) ∧ l.length + m.length ≤ sizeLine ∧ D.nx (S.st i (.o (dcP (mrgP l m))))
def kD : Key → D
  | .inl i => .int i
  | .inr x => .str x
theorem kD_rep {K : PySem.W.Frag} {F : Hp} : ∀ k : Key, Rep K F (kV k) (kD k)
  | .inl i => .int i
  | .inr x => .str x
/-- list(d), d a dict of a name of ours -/
def wKeysO (j : Nat) : WE := fun S R => ∃ l : List (Key × D), S.s[j]? = some (.o (dcP l)) ∧ R (.lst (l.map fun kv => kD kv.1)) S
section
variable {X : Cx} {Φ : En → Prop} {W : L2.WX} {x y : Str} {px py apos cpos pos p : Pos}
theorem ds_updO (i j : Nat) (hx : PE X (.Name x px) (tVar i)) (hy : PE X (.Name y py) (tVar j))
    (h : ∀ to te, PE X (.Name x px) to → PE X (.Name y py) te → PE X (.Call (.Attribute (.Name x px) "update" apos) [.Name y py] [] cpos) (tBM X.K "dict" rUpdK to (tCons te tNil)))
    (hs : swapsWith (.Call (.Attribute (.Name x px) "update" apos) [.Name y py] [] cpos) none pos.line X.env = pure false := by rfl) :
    DS X W (.Expr (.Call (.Attribute (.Name x px) "update" apos) [.Name y py] [] cpos) pos) (wUpdO i j) := fun E => PS.imp (ps_expr (h _ _ hx hy) hs) fun D σ H => by
  rintro ⟨S, F, R, hR, ⟨l, m, ne, hi, hj, hl, hw⟩, k1, k2, k3, k4, k5⟩
  obtain ⟨a, a1, a2, _⟩ := hR.own i _ hi
  obtain ⟨b, b1, b2, _⟩ := hR.own j _ hj
  obtain ⟨kvs, ha, ra⟩ := ow_md a2
  obtain ⟨more, hb, rb⟩ := ow_md b2
  have nab : a ≠ b := fun z => ne (hR.inj i j _ _ a hi hj a1 (z ▸ b1))
  refine ⟨_, a1, .inr (.inr (.inl ⟨rfl, .inl ⟨_, ha⟩⟩)), _, b1, a, b, kvs, more, rfl, rfl, nab, ha, hb, by rw [ra.length, rb.length]; exact hl, ?_⟩
  obtain ⟨p1, p2⟩ := rb.merge ra
  exact k1 _ _ F _ hw (hR.mut hi a1 ⟨_, upd_same, p1, p2⟩) (.refl _)
theorem dn_keysO (j : Nat) (hc : X.calm = true) (hx : PE X (.Name x px) (tVar j)) (hg : Gl X "list") (hm : X.mg "list" = none) (he : starEach [.Name x px] X.env = (false, eval (.Name x px) X.env) :: starEach [] X.env := by rfl) (hpl : (backTo pos (starEach [] X.env)).any (·.1) = false := by rfl) :
    DN X Φ (.Call (.Name "list" p) [.Name x px] [] pos) (wKeysO j) := fun E hE => PE.imp (pe_callTy (T := "list") (call_listD hc) hg hm (by decide +kernel) (pa_cons hx pa_nil he) (he := he) (hpl := hpl)) fun σ H Q => by
  rintro ⟨S, F, R, hR, ⟨l, hj, hw⟩, k⟩
  obtain ⟨b, b1, b2, _⟩ := hR.own j _ hj
  obtain ⟨kvs, hb, rb⟩ := ow_md b2
  refine ⟨_, b1, b, kvs, rfl, .inl hb, fun q hq => ?_⟩
  have rr : Reps X.K F (kvs.map fun kv => kV kv.1) (l.map fun kv => kD kv.1) := by
    have e1 : (kvs.map fun kv => kV kv.1) = (kvs.map (·.1)).map kV := by rw [List.map_map]; rfl
    have e2 : (l.map fun kv => kD kv.1) = (l.map (·.1)).map kD := by rw [List.map_map]; rfl
    rw [e1, e2, rb.1]
    generalize l.map (·.1) = ks
    induction ks with
    | nil => exact .nil
    | cons a ks ih => exact .cons (kD_rep a) ih
  obtain ⟨fr, hR'⟩ := fresh_of hR hq rr
  exact k _ S q F _ hw fr hR' (.refl _)
end
/-! ### dicts with tuple keys -/
abbrev dcuP (l : List (List Key × D)) : D := .dcu (l.map (·.1)) (l.map (·.2))
abbrev muP (l : List (List Key × D)) : Ob := .mu (l.map (·.1)) (l.map (·.2))
abbrev lkuP (u : HO) (l : List (List Key × D)) : Ob := .lku u (l.map (·.1)) (l.map (·.2))
def KeyU (y : D) (k : List Key) : Prop := y = .tup (k.map kD) ∨ y = .ktp (k.map kD)
theorem reps_keys {K : PySem.W.Frag} {F : Hp} : ∀ {k : List Key} {vs : List V}, Reps K F vs (k.map kD) → vs = k.map kV
  | [], _, .nil => rfl
  | a :: k, _, .cons r t => by
    rw [List.map_cons, reps_keys t]
    congr 1
    cases a with
    | inl i => cases r; rfl
    | inr x => cases r; rfl
theorem KeyU.at_ {K : PySem.W.Frag} {F : Hp} {v : V} {y : D} {k : List Key} (h : KeyU y k) (r : Rep K F v y) : ∃ b, v = .ref b ∧ SqT K F b (k.map kV) := by
  rcases h with rfl | rfl
  · cases r with
    | tup q s => rw [reps_keys s] at q; exact ⟨_, rfl, q⟩
  · cases r with
    | ktp q s => rw [reps_keys s] at q; exact ⟨_, rfl, .of q⟩
section
variable {X : Cx} {pins : List (Addr × Obj)} {σ : L2.St} {H : Hp} {s : Shared} {a b : Addr} {A : Around} {E : Value → Shared → Prop} {kvs : List (List Key × V)} {k : List Key}
theorem key_sq (I : Inv X pins σ H s) (h : SqT X.K H b (k.map kV)) : (tupleKind (mixKind X.prog X.w)).is s.heap k b := by
  obtain ⟨its, r, ⟨o, h1, h2, n, h3⟩, _⟩ := I.tuple h
  exact ⟨o, its.toArray, n, h1, h2, h3, by simpa using items_are r⟩
theorem u_getItem {v : V} {Q : Value → Shared → Prop} (hu : A.units + 1 < cLine) (I : Inv X pins σ H s) (e : Rd H a (.dT kvs)) (eb : SqT X.K H b (k.map kV)) (l : valV kvs k = some v) (h : ∀ w' s', Inv X pins σ H s' → RelV v w' → Q w' s') :
    wpAny (model X.prog X.w) A (getItem (.ref a) (.ref b)) Q E s := by
  obtain ⟨z, hd, xs, rel, dd⟩ := dt_rd I.hok e
  obtain ⟨w', hw, rw'⟩ := RelO.some_of (v := v) (o := (atKey xs k).map (·.2)) (by rw [← l]; exact rel.val k)
  obtain ⟨p, hp, hp2⟩ := Option.map_eq_some_iff.mp hw
  refine wpAny_getItem_heap (tupleKind_room_in1 hu) (key_sq I eb) dd hp ?_
  rw [hp2]
  exact h w' _ (I.tok _) rw'
theorem u_in {Q : Value → Shared → Prop} (hu : A.units + 1 < cLine) (I : Inv X pins σ H s) (e : Rd H a (.dT kvs)) (eb : SqT X.K H b (k.map kV)) (h : ∀ s', Inv X pins σ H s' → Q (.bool (valV kvs k).isSome) s') :
    wpAny (model X.prog X.w) A (compareOp .In (.ref b) (.ref a)) Q E s := by
  obtain ⟨z, hd, xs, rel, dd⟩ := dt_rd I.hok e
  refine wpAny_in_heap (tupleKind_room_in1 hu) (key_sq I eb) hd dd ?_
  have q := (rel.val k).isSome_eq
  rw [Option.isSome_map] at q
  rw [← q]
  exact h _ (I.tok _)
theorem u_notIn {Q : Value → Shared → Prop} (hu : A.units + 1 < cLine) (I : Inv X pins σ H s) (e : Rd H a (.dT kvs)) (eb : SqT X.K H b (k.map kV)) (h : ∀ s', Inv X pins σ H s' → Q (.bool (!(valV kvs k).isSome)) s') :
    wpAny (model X.prog X.w) A (compareOp .NotIn (.ref b) (.ref a)) Q E s := by
  obtain ⟨z, hd, xs, rel, dd⟩ := dt_rd I.hok e
  refine wpAny_notIn_heap (tupleKind_room_in1 hu) (key_sq I eb) hd dd ?_
  have q := (rel.val k).isSome_eq
  rw [Option.isSome_map] at q
  rw [← q]
  exact h _ (I.tok _)
end
def tUGet (K : PySem.W.Frag) (td ty : TE) : TE := fun σ H Q => td σ H fun x H1 => ty σ H1 fun y H2 => ∃ a b kvs k v, x = .ref a ∧ y = .ref b ∧ Rd H2 a (.dT kvs) ∧ SqT K H2 b (k.map kV) ∧ valV kvs k = some v ∧ Q v H2
def tUIn (K : PySem.W.Frag) (c : Bool) (ty td : TE) : TE := fun σ H Q => ty σ H fun y H1 => td σ H1 fun x H2 => ∃ a b kvs k, x = .ref a ∧ y = .ref b ∧ Rd H2 a (.dT kvs) ∧ SqT K H2 b (k.map kV) ∧ Q (.bl ((valV kvs k).isSome == c)) H2
section
variable {X : Cx} {o i : Expr} {td ty : TE} {pos : Pos}
theorem pe_uget (hu : X.A.units + 1 < cLine) (ho : PE X o td) (hi : PE X i ty) (hs : NoSl i) : PE X (.Subscript o i pos) (tUGet X.K td ty) := by
  refine ⟨fun pins s σ H Q I h => ?_⟩
  refine subD_of PySem.F.slot_dict_getitem.lookup hs (thn (ho.run pins s σ H _ I h) fun u s1 ⟨x, H1, I1, rx, q1⟩ => thn (hi.run pins s1 σ H1 _ I1 q1) fun iv s2 ⟨y, H2, I2, ry, a, b, kvs, k, v, ex, ey, g, gb, l, q2⟩ => ?_)
  subst ex ey
  obtain rfl : u = Value.ref a := rx
  obtain rfl : iv = Value.ref b := ry
  exact ⟨(let ⟨_, _, xs, _, dd⟩ := dt_rd I2.hok g; dd.typeIs), u_getItem hu I2 g gb l fun w' s3 I3 rw' => ⟨v, H2, I3, rw', q2⟩⟩
theorem pc_uin (hu : X.A.units + 1 < cLine) (hi : PE X i ty) (ho : PE X o td) : PC X .In i o (tUIn X.K true ty td) := by
  refine ⟨fun pins s σ H Q I h => ?_⟩
  refine thn (hi.run pins s σ H _ I h) fun iv s1 ⟨y, H1, I1, ry, q1⟩ => thn (ho.run pins s1 σ H1 _ I1 q1) fun u s2 ⟨x, H2, I2, rx, a, b, kvs, k, ex, ey, g, gb, q2⟩ => ?_
  subst ex ey
  obtain rfl : u = Value.ref a := rx
  obtain rfl : iv = Value.ref b := ry
  rw [eqT] at q2
  exact u_in hu I2 g gb fun s3 I3 => ⟨.bl _, H2, I3, rfl, q2⟩
theorem pc_unotin (hu : X.A.units + 1 < cLine) (hi : PE X i ty) (ho : PE X o td) : PC X .NotIn i o (tUIn X.K false ty td) := by
  refine ⟨fun pins s σ H Q I h => ?_⟩
  refine thn (hi.run pins s σ H _ I h) fun iv s1 ⟨y, H1, I1, ry, q1⟩ => thn (ho.run pins s1 σ H1 _ I1 q1) fun u s2 ⟨x, H2, I2, rx, a, b, kvs, k, ex, ey, g, gb, q2⟩ => ?_
  subst ex ey
  obtain rfl : u = Value.ref a := rx
  obtain rfl : iv = Value.ref b := ry
  rw [eqF] at q2
  exact u_notIn hu I2 g gb fun s3 I3 => ⟨.bl _, H2, I3, rfl, q2⟩
end
/-- the table of a dict with tuple keys, by what the value is -/
def UDict (x : D) (h : Oh) (l : List (List Key × D)) : Prop := x = dcuP l ∨ ∃ a, x = .obj a ∧ (h a = some (muP l) ∨ ∃ u, h a = some (lkuP u l))
def wUGet (wd wi : WE) : WE := fun S R => wd S fun x S1 => wi S1 fun y S2 => ∃ l k d, KeyU y k ∧ UDict x S2.h l ∧ look l k = some d ∧ R d S2
def wUGetO (j : Nat) (wi : WE) : WE := fun S R => (∃ e, S.s[j]? = some (.o e)) ∧ wi S fun y S1 => ∃ l k d, KeyU y k ∧ S1.s[j]? = some (.o (dcuP l)) ∧ look l k = some d ∧ R d S1
def wUIn (b : Bool) (wi wd : WE) : WE := fun S R => wi S fun y S1 => wd S1 fun x S2 => ∃ l k, KeyU y k ∧ UDict x S2.h l ∧ R (.bl ((look l k).isSome == b)) S2
def wUInO (b : Bool) (wi : WE) (j : Nat) : WE := fun S R => wi S fun y S1 => ∃ l k, KeyU y k ∧ S1.s[j]? = some (.o (dcuP l)) ∧ R (.bl ((look l k).isSome == b)) S1
def wUNew : WE := fun S R => R (dcuP []) S
/-- d[k] = v; k a tuple that is known to be one of ours -/
def wUPut (wd wi wv : WE) : WS := fun D S => wv S fun d S1 => wd S1 fun x S2 => wi S2 fun y S3 => ∃ a l k, x = .obj a ∧ y = .ktp (k.map kD) ∧ S3.h a = some (muP l) ∧ l.length < sizeLine ∧ D.nx (S3.ob a (muP (putP l k d)))
def wUPutO (j : Nat) (wi wv : WE) : WS := fun D S => (∃ e, S.s[j]? = some (.o e)) ∧ wv S fun d S1 => (∃ e, S1.s[j]? = some (.o e)) ∧ wi S1 fun y S2 => ∃ l k, y = .ktp (k.map kD) ∧ S2.s[j]? = some (.o (dcuP l)) ∧ l.length < sizeLine ∧ D.nx (S2.st j (.o (dcuP (putP l k d))))
/-- tuple(e), e a list: one of ours -/
def wKtp (w : WE) : WE := fun S R => w S fun d S1 => ∃ ds, d = .lst ds ∧ R (.ktp ds) S1
/-- .. as any tuple -/
def wUnk (w : WE) : WE := fun S R => w S fun d S1 => match d with
  | .ktp ds => R (.tup ds) S1
  | d => R d S1
section
variable {X : Cx} {Φ : En → Prop} {W : L2.WX} {o e i value : Expr} {pos pos' p : Pos} {w wd wi wk wv : WE}
theorem ob_mu {K : PySem.W.Frag} {F H : Hp} {a : Addr} {l : List (List Key × D)} (h : ObAt K F H a (muP l)) : ∃ kvs, H a = some (.dT kvs) ∧ RepT K F kvs l := let ⟨kvs, h1, h2, h3⟩ := h; ⟨kvs, h1, h2, h3⟩
theorem ob_lku {K : PySem.W.Frag} {F H : Hp} {a : Addr} {l : List (List Key × D)} {u : HO} (h : ObAt K F H a (lkuP u l)) : ∃ od kvs, H a = some (.frz od (.dT kvs)) ∧ RepT K F kvs l := let ⟨h0, od, kvs, h1, h2, h3⟩ := h; ⟨od, kvs, by rw [h0, h1], h2, h3⟩
theorem ow_mu {K : PySem.W.Frag} {F H : Hp} {a : Addr} {l : List (List Key × D)} (h : OwAt K F H a (dcuP l)) : ∃ kvs, H a = some (.dT kvs) ∧ RepT K F kvs l := let ⟨kvs, h1, h2, h3⟩ := h; ⟨kvs, h1, h2, h3⟩
theorem UDict.at_ {K : PySem.W.Frag} {E : En} {F1 F H : Hp} {σ : L2.St} {S : Sg} {x : D} {v : V} {l : List (List Key × D)} (R : Rel K E F H σ S) (r : Rep K F1 v x) (e : Ext F1 F) (h : UDict x S.h l) : ∃ a kvs, v = .ref a ∧ Rd H a (.dT kvs) ∧ RepT K F kvs l := by
  rcases h with rfl | ⟨a, rfl, h | ⟨u, h⟩⟩
  · cases r with
    | dcu h1 h2 h3 => exact ⟨_, _, rfl, .inl (R.g.ext _ _ (e _ _ h1)), h2, h3.mono e⟩
  · cases r
    obtain ⟨kvs, h1, h2⟩ := ob_mu (R.g.obs _ _ h).1
    exact ⟨a, kvs, rfl, .inl h1, h2⟩
  · cases r
    obtain ⟨od, kvs, h1, h2⟩ := ob_lku (R.g.obs _ _ h).1
    exact ⟨a, kvs, rfl, .inr ⟨od, h1⟩, h2⟩
theorem de_uget (hu : X.A.units + 64 < cLine) (ho : DE X Φ o wd) (hi : DE X Φ i wi) (hs : NoSl i) : DE X Φ (.Subscript o i pos) (wUGet wd wi) := fun E hE => PE.imp (pe_uget (u64 hu) (ho E hE) (hi E hE) hs) fun σ H Q => by
  rintro ⟨S, F, R, hR, hw, k⟩
  refine ⟨S, F, _, hR, hw, fun x S1 v1 F1 H1 hw1 r1 hR1 x1 => ⟨S1, F1, _, hR1, hw1, fun y S2 v2 F2 H2 hw2 r2 hR2 x2 => ?_⟩⟩
  obtain ⟨l, kk, d, h1, h2, h3, q⟩ := hw2
  obtain ⟨a, kvs, rfl, h4, h5⟩ := h2.at_ hR2 r1 x2
  obtain ⟨b, rfl, sb⟩ := h1.at_ r2
  obtain ⟨u, h6, h7⟩ := (h5.lk kk).1 d h3
  exact ⟨a, b, kvs, kk, u, rfl, rfl, h4, hR2.g.ext.sqT sb, h6, k d S2 u F2 H2 q h7 hR2 (x1.trans x2)⟩
theorem de_ugetO {x : Str} (j : Nat) (h : PE X (.Name x p) (tVar j)) (hu : X.A.units + 64 < cLine) (hi : DE X Φ i wi) (hs : NoSl i) : DE X Φ (.Subscript (.Name x p) i pos) (wUGetO j wi) := fun E hE => PE.imp (pe_uget (u64 hu) h (hi E hE) hs) fun σ H Q => by
  rintro ⟨S, F, R, hR, ⟨⟨e, he⟩, hw⟩, k⟩
  obtain ⟨q0, h0, _⟩ := hR.own j e he
  refine ⟨_, h0, S, F, _, hR, hw, fun y S1 v1 F1 H1 hw1 r1 hR1 x1 => ?_⟩
  obtain ⟨l, kk, d, h1, h2, h3, q⟩ := hw1
  obtain ⟨q1, g1, g2, _⟩ := hR1.own j _ h2
  rw [h0] at g1
  cases g1
  obtain ⟨kvs, h4, h5⟩ := ow_mu g2
  obtain ⟨b, rfl, sb⟩ := h1.at_ r1
  obtain ⟨u, h6, h7⟩ := (h5.lk kk).1 d h3
  exact ⟨_, b, kvs, kk, u, rfl, rfl, .inl h4, hR1.g.ext.sqT sb, h6, k d S1 u F1 H1 q h7 hR1 x1⟩
theorem uin_go {E : En} (b : Bool) {σ : L2.St} {H : Hp} {Q : V → Hp → Prop} (h : LE X.K E (wUIn b wi wd) σ H Q) : tUIn X.K b (LE X.K E wi) (LE X.K E wd) σ H Q := by
  obtain ⟨S, F, R, hR, hw, k⟩ := h
  refine ⟨S, F, _, hR, hw, fun y S1 v1 F1 H1 hw1 r1 hR1 x1 => ⟨S1, F1, _, hR1, hw1, fun x S2 v2 F2 H2 hw2 r2 hR2 x2 => ?_⟩⟩
  obtain ⟨l, kk, h1, h2, q⟩ := hw2
  obtain ⟨a, kvs, rfl, h4, h5⟩ := h2.at_ hR2 r2 (.refl _)
  obtain ⟨c, rfl, sb⟩ := h1.at_ r1
  refine ⟨a, c, kvs, kk, rfl, rfl, h4, hR2.g.ext.sqT (x2.sqT sb), ?_⟩
  rw [h5.some_eq]
  exact k _ S2 _ F2 H2 q (.bl _) hR2 (x1.trans x2)
theorem uinO_go {E : En} (j : Nat) (b : Bool) {σ : L2.St} {H : Hp} {Q : V → Hp → Prop} (h : LE X.K E (wUInO b wi j) σ H Q) : tUIn X.K b (LE X.K E wi) (tVar j) σ H Q := by
  obtain ⟨S, F, R, hR, hw, k⟩ := h
  refine ⟨S, F, _, hR, hw, fun y S1 v1 F1 H1 hw1 r1 hR1 x1 => ?_⟩
  obtain ⟨l, kk, h1, h2, q⟩ := hw1
  obtain ⟨q1, g1, g2, _⟩ := hR1.own j _ h2
  obtain ⟨kvs, h4, h5⟩ := ow_mu g2
  obtain ⟨c, rfl, sb⟩ := h1.at_ r1
  refine ⟨_, g1, q1, c, kvs, kk, rfl, rfl, .inl h4, hR1.g.ext.sqT sb, ?_⟩
  rw [h5.some_eq]
  exact k _ S1 _ F1 H1 q (.bl _) hR1 x1
theorem de_uin (hu : X.A.units + 64 < cLine) (hi : DE X Φ i wi) (ho : DE X Φ o wd) (hm : behindInMarks .In o = false := by rfl) : DE X Φ (.Compare i [.In] [o] pos) (wUIn true wi wd) := fun E hE => PE.imp (pe_cmp (pc_uin (u64 hu) (hi E hE) (ho E hE)) hm) fun σ H Q h => uin_go true h
theorem de_unotin (hu : X.A.units + 64 < cLine) (hi : DE X Φ i wi) (ho : DE X Φ o wd) (hm : behindInMarks .NotIn o = false := by rfl) : DE X Φ (.Compare i [.NotIn] [o] pos) (wUIn false wi wd) := fun E hE => PE.imp (pe_cmp (pc_unotin (u64 hu) (hi E hE) (ho E hE)) hm) fun σ H Q h => uin_go false h
theorem dt_uin (hu : X.A.units + 64 < cLine) (hi : DE X Φ i wi) (ho : DE X Φ o wd) (hm : behindInMarks .In o = false := by rfl) : DT X Φ (.Compare i [.In] [o] pos) (wBb (wUIn true wi wd)) := fun E hE => PT.imp (pt_cmp (pc_uin (u64 hu) (hi E hE) (ho E hE)) hm) fun σ H Q h => uin_go true (lt_bb h)
theorem dt_unotin (hu : X.A.units + 64 < cLine) (hi : DE X Φ i wi) (ho : DE X Φ o wd) (hm : behindInMarks .NotIn o = false := by rfl) : DT X Φ (.Compare i [.NotIn] [o] pos) (wBb (wUIn false wi wd)) := fun E hE => PT.imp (pt_cmp (pc_unotin (u64 hu) (hi E hE) (ho E hE)) hm) fun σ H Q h => uin_go false (lt_bb h)
theorem dt_uinO {x : Str} (j : Nat) (h : PE X (.Name x p) (tVar j)) (hu : X.A.units + 64 < cLine) (hi : DE X Φ i wi) (hm : behindInMarks .In (.Name x p) = false := by rfl) : DT X Φ (.Compare i [.In] [.Name x p] pos) (wBb (wUInO true wi j)) := fun E hE => PT.imp (pt_cmp (pc_uin (u64 hu) (hi E hE) h) hm) fun σ H Q hh => uinO_go j true (lt_bb hh)
theorem dt_unotinO {x : Str} (j : Nat) (h : PE X (.Name x p) (tVar j)) (hu : X.A.units + 64 < cLine) (hi : DE X Φ i wi) (hm : behindInMarks .NotIn (.Name x p) = false := by rfl) : DT X Φ (.Compare i [.NotIn] [.Name x p] pos) (wBb (wUInO false wi j)) := fun E hE => PT.imp (pt_cmp (pc_unotin (u64 hu) (hi E hE) h) hm) fun σ H Q hh => uinO_go j false (lt_bb hh)
theorem dn_unew : DN X Φ (.Dict [] [] pos) wUNew := fun E hE => PE.imp pe_dnewT fun σ H Q => by
  rintro ⟨S, F, R, hR, hw, k⟩
  intro q hq
  obtain ⟨h1, h2, h3, h4, h5⟩ := hR.fresh (o := .dT []) hq
  exact k _ S q F _ hw ⟨⟨[], upd_same, rfl, .nil⟩, h2, h3, h4, h5⟩ h1 (.refl _)
theorem ds_uput (hu : X.A.units + 64 < cLine) (ho : DE X Tr o wd) (hi : DE X Tr i wi) (hv : DE X Tr value wv) (hs : swapsWith value (some (.Subscript o i pos')) pos.line X.env = pure false := by rfl) : DS X W (.Assign [.Subscript o i pos'] value pos) (wUPut wd wi wv) := fun E => PS.imp (ps_dput (u64 hu) (ho E trivial) (hi E trivial) (hv E trivial) hs) fun D σ H => by
  rintro ⟨S, F, R, hR, hw, k1, k2, k3, k4, k5⟩
  refine ⟨S, F, _, hR, hw, fun d S1 v1 F1 H1 hw1 r1 hR1 x1 => ⟨S1, F1, _, hR1, hw1, fun x S2 v2 F2 H2 hw2 r2 hR2 x2 => ⟨S2, F2, _, hR2, hw2, fun y S3 v3 F3 H3 hw3 r3 hR3 x3 => ?_⟩⟩⟩
  obtain ⟨a, l, kk, rfl, rfl, h2, h3, q⟩ := hw3
  cases r2
  obtain ⟨kvs, g1, g2⟩ := ob_mu (hR3.g.obs _ _ h2).1
  cases r3 with
  | ktp fb sb =>
    rw [reps_keys sb] at fb
    refine ⟨a, _, rfl, .t g1 (hR3.g.ext _ _ fb) (by rw [g2.length]; exact h3), k1 _ σ F3 _ q (hR3.obput (by rw [h2]; simp) ?_) ((x1.trans x2).trans x3)⟩
    obtain ⟨p1, p2⟩ := g2.put kk ((r1.mono x2).mono x3)
    exact ⟨_, upd_same, p1, p2⟩
theorem ds_uputO {x : Str} (j : Nat) (h : PE X (.Name x p) (tVar j)) (hu : X.A.units + 64 < cLine) (hi : DE X Tr i wi) (hv : DE X Tr value wv) (hs : swapsWith value (some (.Subscript (.Name x p) i pos')) pos.line X.env = pure false := by rfl) : DS X W (.Assign [.Subscript (.Name x p) i pos'] value pos) (wUPutO j wi wv) := fun E => PS.imp (ps_dput (u64 hu) h (hi E trivial) (hv E trivial) hs) fun D σ H => by
  rintro ⟨S, F, R, hR, ⟨⟨e, he⟩, hw⟩, k1, k2, k3, k4, k5⟩
  refine ⟨S, F, _, hR, hw, fun d S1 v1 F1 H1 hw1 r1 hR1 x1 => ?_⟩
  obtain ⟨⟨e1, he1⟩, hw1⟩ := hw1
  obtain ⟨q0, h0, _⟩ := hR1.own j e1 he1
  refine ⟨_, h0, S1, F1, _, hR1, hw1, fun y S2 v2 F2 H2 hw2 r2 hR2 x2 => ?_⟩
  obtain ⟨l, kk, rfl, h2, h3, q⟩ := hw2
  obtain ⟨q1, g1, g2, _⟩ := hR2.own j _ h2
  rw [h0] at g1
  cases g1
  obtain ⟨kvs, h4, h5⟩ := ow_mu g2
  cases r2 with
  | ktp fb sb =>
    rw [reps_keys sb] at fb
    refine ⟨_, _, rfl, .t h4 (hR2.g.ext _ _ fb) (by rw [h5.length]; exact h3), k1 _ σ F2 _ q (hR2.mut h2 h0 ?_) (x1.trans x2)⟩
    obtain ⟨p1, p2⟩ := h5.put kk (r1.mono x2)
    exact ⟨_, upd_same, p1, p2⟩
theorem de_unk (h : DE X Φ e w) : DE X Φ e (wUnk w) := fun E hE => PE.imp (h E hE) fun σ H Q => by
  rintro ⟨S, F, R, hR, hw, k⟩
  refine ⟨S, F, _, hR, hw, fun d S1 v F1 H1 hw1 r1 hR1 x1 => ?_⟩
  split at hw1
  · cases r1 with
    | ktp fb sb => exact k _ S1 _ F1 H1 hw1 (.tup (.of fb) sb) hR1 x1
  · exact k _ S1 _ F1 H1 hw1 r1 hR1 x1
end
section
variable {K : PySem.W.Frag} {E : En} {F H : Hp} {σ : L2.St} {S : Sg} {q : Addr} {vs : List V}
/-- a tuple is frozen, whoever made it -/
theorem Rel.addTup (R : Rel K E F H σ S) (hF : F q = none) (hq : H q = some (.tup vs)) : Rel K E (upd F q (.tup vs)) H σ S := by
  have x : Ext F (upd F q (.tup vs)) := .new hF
  refine ⟨⟨fun b u e => ?_, R.g.gF.trans x, fun b h1 h2 h3 => ?_, R.g.gH, R.g.gP, R.g.gO, fun a ob e => ?_⟩, R.len, fun i d e => ?_, fun i d e => ?_, R.inj⟩
  · by_cases hb : b = q
    · subst hb; rw [upd_same] at e; cases e; exact hq
    · rw [upd_ne hb] at e; exact R.g.ext _ _ e
  · by_cases hb : b = q
    · subst hb; exact .inr ⟨vs, hq⟩
    · rw [upd_ne hb]; exact R.g.gN b h1 h2 h3
  · obtain ⟨h1, h2⟩ := R.g.obs a ob e
    have na : a ≠ q := fun z => TupO.ob h1 ⟨vs, by rw [z]; exact hq⟩
    exact ⟨h1.mono x rfl, by rw [upd_ne na]; exact h2⟩
  · obtain ⟨v, h1, h2⟩ := R.frz i d e
    exact ⟨v, h1, h2.mono x⟩
  · obtain ⟨p, h1, h2, h3, h4, h5⟩ := R.own i d e
    have np : p ≠ q := fun z => TupO.ow h2 ⟨vs, by rw [z]; exact hq⟩
    exact ⟨p, h1, h2.mono x rfl, by rw [upd_ne np]; exact h3, h4, h5⟩
theorem Rel.tupAt (R : Rel K E F H σ S) (hq : H q = some (.tup vs)) : ∃ F', Rel K E F' H σ S ∧ Ext F F' ∧ F' q = some (.tup vs) := by
  cases e : F q with
  | none => exact ⟨_, R.addTup e hq, .new e, upd_same⟩
  | some o =>
    have := R.g.ext _ _ e
    rw [hq] at this
    cases this
    exact ⟨F, R, .refl _, e⟩
end
theorem reps_ofkeys {K : PySem.W.Frag} {F : Hp} : ∀ k : List Key, Reps K F (k.map kV) (k.map kD)
  | [] => .nil
  | a :: k => .cons (kD_rep a) (reps_ofkeys k)
/-- the dict is locked while the loop runs -/
def unl (a : Addr) (u : HO) (l : List (List Key × D)) (D : We) : We :=
  { nx := fun S => S.h a = some (lkuP u l) ∧ D.nx (S.ob a (muP l)), rt := fun d S => S.h a = some (lkuP u l) ∧ D.rt d (S.ob a (muP l)), bk := fun S => S.h a = some (lkuP u l) ∧ D.bk (S.ob a (muP l)), ct := fun S => S.h a = some (lkuP u l) ∧ D.ct (S.ob a (muP l)) }
def wForUL (a : Addr) (u : HO) (l : List (List Key × D)) (g : WG) (tb : WS) (T : We) : List (List Key) → Sg → Prop
  | [], S => S.h a = some (lkuP u l) ∧ T.nx S
  | k :: ks, S => S.h a = some (lkuP u l) ∧ g (.ktp (k.map kD)) S fun S1 => tb { T with nx := wForUL a u l g tb T ks, ct := wForUL a u l g tb T ks, bk := T.nx } S1
def wForU (j : Nat) (g : WG) (tb : WS) : WS := fun D S => ∃ a l, S.s[j]? = some (.f (.obj a)) ∧ S.h a = some (muP l) ∧ ∀ u, wForUL a u l g tb (unl a u l D) (l.map (·.1)) (S.ob a (lkuP u l))
section
variable {X : Cx} {Φ : En → Prop} {W : L2.WX} {e : Expr} {w : WE} {pos p : Pos}
theorem ds_forU {x : Str} {g : WG} {tg : Expr} {body : List Stmt} {tb : WS} (j : Nat) (h : PE X (.Name x p) (tVar j)) (hp : PassesOwn (model X.prog X.w) X.A X.env X.xe) (hc : X.calm = true) (hg : DG X Tr tg g) (hb : DSs X W body tb)
    (hs : ∀ y, foldedSetIterable (.Name x p) X.env y = pure y := by intro _; rfl) : DS X W (.For tg (.Name x p) body [] pos) (wForU j g tb) := fun E => PS.imp (ps_lock (ps_for hp hc (pi_keys h) (hg E trivial) (hb E) hs)) fun D σ H => by
  rintro ⟨S, F, R, hR, ⟨a, l, hj, ha, hw⟩, k1, k2, k3, k4, k5⟩
  obtain ⟨v0, h0, r0⟩ := hR.frz j _ hj
  cases r0
  obtain ⟨kvs, g1, g2⟩ := ob_mu (hR.g.obs _ _ ha).1
  refine ⟨a, .dT kvs, g1, True.intro, fun od => ?_⟩
  have len : kvs.length = l.length := g2.length
  replace hw := hw (.frz od (.dT kvs))
  have hR0 : Rel X.K E F (upd H a (.frz od (.dT kvs))) σ (S.ob a (lkuP (.frz od (.dT kvs)) l)) := hR.obput (by rw [ha]; simp) ⟨upd_same, od, kvs, rfl, g2.1, g2.2⟩
  have back : ∀ {S' F' H' σ'}, Rel X.K E F' H' σ' S' → Ext F F' → S'.h a = some (lkuP (.frz od (.dT kvs)) l) → H' a = some (.frz od (.dT kvs)) ∧ Rel X.K E F' (upd H' a (.dT kvs)) σ' (S'.ob a (muP l)) := fun R' x' h' => ⟨(R'.g.obs _ _ h').1.1, R'.obput (by rw [h']; simp) ⟨kvs, upd_same, g2.1, g2.2.mono x'⟩⟩
  refine ⟨_, h0, a, od, rfl, .inr ⟨kvs, upd_same, ?_⟩⟩
  obtain ⟨ks, hks⟩ : ∃ ks, ks = l.map (·.1) := ⟨_, rfl⟩
  have g21 : kvs.map (·.1) = ks := by rw [hks]; exact g2.1
  rw [← hks] at hw
  have lk : ks.length = kvs.length := by rw [hks, List.length_map, len]
  refine ⟨fun i m σ H => m + i = kvs.length ∧ ∃ F2 S2, Rel X.K E F2 H σ S2 ∧ Ext F F2 ∧ wForUL a (.frz od (.dT kvs)) l g tb (unl a (.frz od (.dT kvs)) l R) (ks.drop i) S2, ⟨kvs.length, rfl, F, _, hR0, .refl _, hw⟩, fun i m σ2 H2 hW => ?_⟩
  obtain ⟨hm, F2, S2, hR2, x2, hw2⟩ := hW
  by_cases hi : i < kvs.length
  · have hi' : i < ks.length := by omega
    rw [List.drop_eq_getElem_cons hi'] at hw2
    obtain ⟨ha2, hw2⟩ := hw2
    obtain ⟨q1, _⟩ := back hR2 x2 ha2
    refine .inr ⟨⟨q1, hi⟩, fun σ' H' => ∃ F3 S3, Rel X.K E F3 H' σ' S3 ∧ Ext F F3 ∧ wForUL a (.frz od (.dT kvs)) l g tb (unl a (.frz od (.dT kvs)) l R) (ks.drop (i + 1)) S3, fun σ' H' hN => ⟨m - 1, by omega, by omega, hN⟩, fun x H3 hy => ?_⟩
    obtain ⟨rfl, k, v, q, e1, rfl, e3⟩ := hy
    have ek : ks[i]'hi' = k := by
      have z : (kvs.map (·.1))[i]? = some k := by rw [List.getElem?_map, e1]; rfl
      rw [g21, List.getElem?_eq_getElem hi'] at z
      exact Option.some.inj z
    obtain ⟨F3, hR3, x3, f3⟩ := hR2.tupAt e3
    rw [ek] at hw2
    refine ⟨S2, F3, _, _, hR3, .ktp f3 (reps_ofkeys k), hw2, fun S4 σ4 F4 H4 hw4 hR4 x4 => ?_⟩
    have x14 : Ext F F4 := (x2.trans x3).trans x4
    refine ⟨S4, F4, _, hR4, hw4, fun S' σ' F' H' q r x => ⟨F', S', r, x14.trans x, q⟩, fun S' σ' F' H' q r x => ?_, fun S' σ' F' H' q r x => ⟨F', S', r, x14.trans x, q⟩, fun d S' v σ' F' H' q rv r' x => ?_, fun c fs S' cls dd σ' F' H' q _ _ => q.elim⟩
    · obtain ⟨z1, z2⟩ := back r (x14.trans x) q.1
      exact ⟨z1, k1 _ σ' F' _ q.2 z2 (x14.trans x)⟩
    · obtain ⟨z1, z2⟩ := back r' (x14.trans x) q.1
      exact ⟨z1, k4 d _ v σ' F' _ q.2 rv z2 (x14.trans x)⟩
  · rw [List.drop_eq_nil_of_le (by omega)] at hw2
    obtain ⟨ha2, hw2⟩ := hw2
    obtain ⟨q1, q2⟩ := back hR2 x2 ha2
    exact .inl ⟨⟨q1, by omega⟩, q1, k1 _ σ2 F2 _ hw2.2 q2 x2⟩
theorem call_tupK (X : Cx) : CallR X (.type "tuple") (fun xs H Q => ∃ p ys, xs = [.ref p] ∧ SqL X.K H p ys ∧ ∀ l, H l = none → Q (.ref l) (upd H l (.tup ys))) := CallR.any fun xs H Q => by
  rintro ⟨p, ys, e, h, k⟩
  exact ⟨_, call_tuple_of, p, ys, e, .inl ⟨h, k⟩⟩
theorem de_ktp (hg : Gl X "tuple") (hm : X.mg "tuple" = none) (he : DE X Φ e w) (h1 : starEach [e] X.env = [(false, eval e X.env)] := by rfl) : DE X Φ (.Call (.Name "tuple" p) [e] [] pos) (wKtp w) := fun E hE => PE.imp (pe_callTy (T := "tuple") (call_tupK X) hg hm (by decide +kernel) (pa_cons (he E hE) pa_nil h1) (he := h1) (hpl := by rfl)) fun σ H Q => by
  rintro ⟨S, F, R, hR, hw, k⟩
  refine ⟨S, F, _, hR, hw, fun d S1 v F1 H1 hw1 r1 hR1 x1 => ?_⟩
  obtain ⟨ds, rfl, q⟩ := hw1
  cases r1 with
  | lst ha hs =>
    rename_i a vs
    refine ⟨_, _, rfl, .of (hR1.g.ext _ _ ha), fun t ht => ?_⟩
    have al := Al.one (o := .tup vs) hR1.g.ext ht
    exact k _ S1 _ _ _ q (.ktp upd_same (hs.mono al.xF)) (hR1.al al) (x1.trans al.xF)
end
/-! ### len(d), d a dict with tuple keys -/
section
variable {X : Cx} {pins : List (Addr × Obj)} {σ : L2.St} {H : Hp} {s : Shared} {a : Addr} {A : Around} {E : Value → Shared → Prop} {kvs : List (List Key × V)}
theorem u_len {Q : Value → Shared → Prop} (I : Inv X pins σ H s) (e : Rd H a (.dT kvs)) (h : ∀ t s', Inv X pins σ H s' → Q (.int kvs.length t) s') : wpAny (model X.prog X.w) A (call (.builtin "len") [.ref a]) Q E s := by
  obtain ⟨z, hd, xs, rel, o, es, ep, h1, h2, h3, h4, h5⟩ := dt_rd I.hok e
  have hm : s.heap.DictRaw a es ep := ⟨o, h1, h2, h3⟩
  have hn : es.size = kvs.length := by
    have l1 : kvs.length = xs.length := Paired.length rel
    rw [← Array.length_toList, h4, List.length_map, l1]
  have hz : ((es.size : Nat) : Int) < 2 ^ 63 := by rw [hn]; rw [sizeLine_eq] at z; omega
  refine Calls.call_function_entry kind_len plain_len entry_len (args_len1 _) ?_
  unfold Builtin.«len»
  refine wpAny_bind (m := oneArg "len" _) (wpAny_pure ?_)
  refine wpAny_bind (m := callSpecial? (.ref a) (Str.ofString "__len__")) (wpAny_callSpecial?_slot (name := Str.ofString "__len__") hm.typeIs PySem.F.slot_dict_len (call_len_raw hd hm ?_))
  refine wpAny_bind (wpAny_holding (wpAny_pure (wpAny_bind (wpAny_letGo ?_))))
  show wpAny _ _ (if ((es.size : Nat) : Int) < 0 then _ else _) _ _ _
  rw [if_neg (by omega)]
  show wpAny _ _ (if ((es.size : Nat) : Int) ≥ 2 ^ 63 then _ else _) _ _ _
  rw [if_neg (by omega)]
  rw [hn]
  exact wpAny_bind (wpAny_mkInt (wpAny_pure ⟨_, rfl, h _ _ (I.tok _)⟩))
theorem cr_ulen : CallR X (.builtin "len") (fun vs H Q => ∃ (a : Addr) (kvs : List (List Key × V)), vs = [.ref a] ∧ Rd H a (.dT kvs) ∧ Q (.int kvs.length) H) := by
  intro pins s σ H vs us Q I r hq
  obtain ⟨a, kvs, rfl, ha, q⟩ := hq
  obtain rfl := Vals.ref1 r
  exact u_len I ha fun t s' I' => ⟨.int _, H, I', ⟨t, rfl⟩, q⟩
def wULen (w : WE) : WE := fun S R => w S fun x S1 => ∃ l, UDict x S1.h l ∧ R (.int l.length) S1
theorem de_ulen {Φ : En → Prop} {e : Expr} {p pos : Pos} {w : WE} (hg : Gl X "len") (hm : X.mg "len" = none) (he : DE X Φ e w) (h1 : starEach [e] X.env = [(false, eval e X.env)] := by rfl) : DE X Φ (.Call (.Name "len" p) [e] [] pos) (wULen w) := fun E hE => PE.imp (pe_callB cr_ulen hg hm (by decide +kernel) (pa_cons (he E hE) pa_nil h1) (he := h1) (hpl := by rfl)) fun σ H Q => by
  rintro ⟨S, F, R, hR, hw, k⟩
  refine ⟨S, F, _, hR, hw, fun x S1 v F1 H1 hw1 r1 hR1 x1 => ?_⟩
  obtain ⟨l, h2, q⟩ := hw1
  obtain ⟨a, kvs, rfl, h4, h5⟩ := h2.at_ hR1 r1 (.refl _)
  exact ⟨a, kvs, rfl, h4, k _ S1 _ F1 H1 (by rw [h5.length]; exact q) (.int _) hR1 x1⟩
end
end VL

set_option Elab.async false
set_option linter.all false
set_option maxRecDepth 100000
set_option maxHeartbeats 4000000
/-! VL17: a comprehension whose step may raise. -/
namespace VL
open PySem PySem.Spec PyProof.Rows L2
/-! ### the frames that are looked at are those of the def -/
theorem note_of {x : Value} {e f : Env} (h : e.frame = f.frame) : noteFrame x e = noteFrame x f := by
  unfold noteFrame PySem.frameOf
  rw [h]
/-- what a comprehension's block ends in; an exception passes on over the def's frame -/
def BlkEnd (Mo : Model) (Ar : Around) (Ex : Value → Shared → Prop) (Qv : Value → Shared → Prop) (w : Value) (ce : Env) (r : Result) (t : Shared) : Prop :=
  match r with
  | .ok _ => ∃ m, t.heap.Ns ce.locals m ∧ ∀ g, Heap.SameBut ce.locals t.heap g → Qv w { t with heap := g }
  | .error x => ∃ m, t.heap.Ns ce.locals m ∧ ∀ g, Heap.SameBut ce.locals t.heap g → ∀ f : Env, f.frame = ce.frame → wpAny Mo Ar (passOn "comprehension.variables-let-go" x f : Sem Value) (fun _ _ => False) Ex { t with heap := g }
theorem comp_rule {Mo : Model} {Ar : Around} {Ex : Value → Shared → Prop} {t : Shared} {en : Env} {ex : Expr} {sc : Scope} {ps : Pos} {mk fst : Sem Value} {gn : Comprehension} {rs : List Comprehension} {cs : List (Str × Addr)} {Qv : Value → Shared → Prop}
    (h1 : clausesOf ex = gn :: rs) (h2 : ∀ x, foldedSetIterable gn.iter en x = pure x) (h3 : closureFor sc en = pure cs)
    (h4 : sc.kind = .function) (h5 : ∀ y ∈ sc.names, y.2 = .local → sc.names.lookup y.1 = some .local)
    (hb : wpAny Mo Ar fst (fun x t1 => wpAny Mo Ar (pyIter x) (fun i t2 => wpAny Mo Ar mk (fun w t3 =>
      wpAny Mo Ar (newFunctionEnv sc en.globals cs [] en.qual none .none (some en)) (fun ce t4 =>
        codeAny Mo Ar (.compStart ex 0 i w { ce with scope := relabel sc en }) (BlkEnd Mo Ar Ex Qv w { ce with scope := relabel sc en }) t4) Ex t3) Ex t2) Ex t1) Ex t) :
    wpAny Mo Ar (comprehension ex sc en ps mk false fst none) Qv Ex t := by
  unfold comprehension
  rw [h3, h1]
  refine wpAny_bind (wpAny_mono hb (fun x t1 q1 => ?_) fun _ _ z => z)
  refine wpAny_bind (wpAny_standAt (wpAny_bind (wpAny_of_eq (h2 x) (wpAny_bind (wpAny_holding (wpAny_mono q1 (fun i t2 q2 => ?_) fun _ _ z => z))))))
  refine wpAny_standIf (wpAny_bind (wpAny_mono q2 (fun w t3 q3 => ?_) fun _ _ z => z))
  refine wpAny_bind (wpAny_pure (wpAny_bind (wpAny_mono q3 (fun ce t4 q4 => ?_) fun _ _ z => z)))
  dsimp only
  have own : ∀ y ∈ (sc.names.filter fun y => (y.2 == .local || y.2 == .cell) && y.1 != (".0" : Str)).reverse, y.2 = .local → Env.kindOf { ce with scope := relabel sc en } y.1 = some .local := fun y hy hl =>
    lookup_relabel_local (h5 y (List.mem_filter.mp (List.mem_reverse.mp hy)).1 hl)
  refine wpAny_holding (wpAny_bind (wpAny_attempt (wpAny_holding (wpAny_run (codeAny_mono q4 fun r t5 hr => ?_)))))
  cases r with
  | ok f =>
    obtain ⟨m, k1, k2⟩ := hr
    refine wpAny_bind (wpAny_holding ?_)
    exact wpAny_comp_letGo (cenv := { ce with scope := relabel sc en }) h4 _ t5 m own k1 fun g m' _ hg => wpAny_pure (k2 g hg)
  | error x =>
    obtain ⟨m, k1, k2⟩ := hr
    refine wpAny_bind (wpAny_holding ?_)
    exact wpAny_comp_letGo (cenv := { ce with scope := relabel sc en }) h4 _ t5 m own k1 fun g m' _ hg => wpAny_mono (k2 g hg _ rfl) (fun _ _ z => z.elim) fun _ _ z => z
/-! ### an exception that comes out of a call within the block -/
/-- what a call lets out is taken -/
def TakesF (X : Cx) (W : L2.WX) : Prop := ∀ (pins : List (Addr × Obj)) (σ : L2.St) (H : Hp) (s : Shared) (E : XK) (u : Value) (s' : Shared), Inv X pins σ H s → (∀ cls d H', E cls d H' → W cls d σ H') → CX X.prog X.w X.stack H s E u s' → X.xe u s'
/-- a block's context, with a wish about exceptions -/
abbrev blkX (X : Cx) (s : Shared) (H : Hp) (scope : Scope) (ce : Env) (fp : List Addr) (xe : Value → Shared → Prop) : Cx := { X.blk s H scope ce fp with xe := xe }
theorem ok_xe {X : Cx} {xe : Value → Shared → Prop} (o : X.Ok) : Cx.Ok { X with xe := xe } := by
  obtain ⟨a1, a2, a3, a4, a5, a6, a7, a8, a9, b1, b2, b3, b4, b5, b6, b7, b8, b9⟩ := o
  exact ⟨a1, a2, a3, a4, a5, a6, a7, a8, a9, b1, b2, b3, b4, b5, b6, b7, b8, b9⟩
theorem inv_xe {X : Cx} {xe : Value → Shared → Prop} {pins : List (Addr × Obj)} {σ : L2.St} {H : Hp} {s : Shared} (I : Inv X pins σ H s) : Inv { X with xe := xe } pins σ H s := by
  obtain ⟨a1, a2, a3, a4, a5, a6, a7, a8, a9, b1, b2⟩ := I
  exact ⟨ok_xe a1, a2, a3, a4, a5, a6, a7, a8, a9, b1, b2⟩
theorem inv_blk {X : Cx} {s0 : Shared} {H0 : Hp} {scope : Scope} {ce : Env} {fp : List Addr} {xe : Value → Shared → Prop} {pins : List (Addr × Obj)} {σ : L2.St} {H : Hp} {s : Shared} (I : Inv (blkX X s0 H0 scope ce fp xe) pins σ H s) : Inv (X.blk s0 H0 scope ce fp) pins σ H s := by
  obtain ⟨⟨c1, c2, c3, c4, c5, c6, c7, c8, c9, d1, d2, d3, d4, d5, d6, d7, d8, d9⟩, a2, a3, a4, a5, a6, a7, a8, a9, b1, b2⟩ := I
  exact ⟨⟨c1, c2, c3, c4, c5, c6, c7, c8, c9, d1, d2, d3, d4, d5, d6, d7, d8, d9⟩, a2, a3, a4, a5, a6, a7, a8, a9, b1, b2⟩
/-- in the air of X: it flies -/
theorem fly_of {X : Cx} {pins : List (Addr × Obj)} {σ : L2.St} {H : Hp} {s s' : Shared} {E : XK} {u : Value} (I : Inv X pins σ H s) (c : CX X.prog X.w X.stack H s E u s') :
    ∃ (a : Addr) (B : Heap) (sI : Shared) (pins' : List (Addr × Obj)) (σ' : L2.St) (H' : Hp) (cls : Value) (d : Option Addr), u = .ref a ∧ Inv X pins' σ' H' sI ∧ (∀ b o, sI.heap.get? b = some o → b ∉ frs X.stack → B.get? b = some o) ∧ sI.heap.UpToSlots s'.heap ∧
      HandSPX.FlyingZ B X.stack a (Zc cls d) s'.heap ∧ H' a = none ∧ s'.os = sI.os ∧ AllBare s'.gens ∧ E cls d H' := by
  obtain ⟨a, B, sI, pins', σ', H', cls, d, e, I', nb, up, sky, na, os, ag, w⟩ := XE.of_call (W := fun cls d _ H' => E cls d H') I (fun _ _ _ h => h) c
  obtain ⟨a0, B0, H0, cls0, d0, e0, fl, _⟩ := c
  rw [e] at e0
  cases e0
  refine ⟨a, B, sI, pins', σ', H', cls, d, e, I', nb, up, ?_, na, os, ag, w⟩
  obtain ⟨_, _, _, oe, vs, T, oT, ts, he, hz, hd, h1, hnT, hTe, hT, hdT, h3⟩ := fl
  rcases sky with ⟨_, _, _, oe', vs', he', _, hd', h1'⟩ | z | ⟨_, _, _, oe', vs', T', oT', ts', he', _, hd', h1', _, _, hT', hdT', h3'⟩
  · rw [he] at he'; cases he'
    rw [hd] at hd'; cases hd'
    rw [h1] at h1'; cases h1'
  · exact z
  · rw [he] at he'; cases he'
    rw [hd] at hd'; cases hd'
    rw [h1] at h1'; cases h1'
    rw [hT] at hT'; cases hT'
    rw [hdT] at hdT'; cases hdT'
    rw [h3] at h3'; cases h3'
/-- the ground without the block's names -/
theorem held_less {B h g : Heap} {l : List Env} {a C : Addr} {Z : Obj → Prop} {fl : Value} {m : Str → Option Value} (st : B.StaysIn h) (fr : h.FunFrames B l) (tz : HandSPX.TracedZ h B a Z fl) (hC : h.Ns C m) (hl : C ∉ frs l) (sb : Heap.SameBut C h g) :
    (PySem.W.hideAll B [C]).StaysIn g ∧ g.FunFrames (PySem.W.hideAll B [C]) l ∧ HandSPX.TracedZ g (PySem.W.hideAll B [C]) a Z fl := by
  have less : ∀ b o, (PySem.W.hideAll B [C]).get? b = some o → B.get? b = some o ∧ b ≠ C := fun b o e => by
    refine ⟨PySem.W.of_hideAll _ e, fun z => ?_⟩
    rw [PySem.W.hideAll_none [C] (by rw [z]; exact List.mem_cons_self)] at e
    cases e
  obtain ⟨oC, es, ep, eC, dC, _⟩ := hC
  obtain ⟨oe, vs, T, oT, ts, he, hz, hd, h1, hnT, hTe, hT, hdT, h3⟩ := tz
  have na : a ≠ C := fun z => by
    rw [z, eC] at he; cases he
    rw [dC] at hd; cases hd
  have nT : T ≠ C := fun z => by
    rw [z, eC] at hT; cases hT
    rw [dC] at hdT; cases hdT
  have none_of : ∀ b, B.get? b = none → (PySem.W.hideAll B [C]).get? b = none := fun b e => by
    cases q : (PySem.W.hideAll B [C]).get? b with
    | none => rfl
    | some o => rw [(less b o q).1] at e; cases e
  refine ⟨fun b o e => ?_, ?_, oe, vs, T, oT, ts, (sb.2 a na).trans he, hz, hd, h1, none_of T hnT, hTe, (sb.2 T nT).trans hT, hdT, h3⟩
  · obtain ⟨e1, e2⟩ := less b o e
    exact (sb.2 b e2).trans (st b o e1)
  · have go : ∀ l : List Env, h.FunFrames B l → C ∉ frs l → g.FunFrames (PySem.W.hideAll B [C]) l := by
      intro l
      induction l with
      | nil => intro _ _; trivial
      | cons en r ih =>
        rintro ⟨k1, ⟨L, o, k2, k3, k4, k5⟩, k6⟩ hn
        have nL : L ≠ C := fun z => hn (List.mem_filterMap.mpr ⟨en, List.mem_cons_self, z ▸ k2⟩)
        refine ⟨k1, ⟨L, o, k2, none_of L k3, (sb.2 L nL).trans k4, k5⟩, ih k6 fun z => hn ?_⟩
        obtain ⟨e', h', q'⟩ := List.mem_filterMap.mp z
        exact List.mem_filterMap.mpr ⟨e', List.mem_cons_of_mem _ h', q'⟩
    exact go l fr hl
/-- it leaves the block, and is in the air of the def -/
theorem blk_out {X : Cx} {s0 : Shared} {H0 : Hp} {scope : Scope} {cl : List (Str × Addr)} {C : Addr} {fp : List Addr} {xe : Value → Shared → Prop} {W : L2.WX} {pins p0 : List (Addr × Obj)} {σ σ1 : L2.St} {H1 : Hp} {s1 s2 : Shared} {E : XK} {u w : Value} {Qv : Value → Shared → Prop}
    (hs : X.stack = X.env :: X.outer) (hf : X.env.frame = some X.env.locals) (tk : Takes X W) (I0 : Inv X pins σ H0 s0) (hC : C = s0.heap.objs.size)
    (hfp : ∀ b ∈ fp, FpOk X pins H0 b)
    (J : Inv (blkX X s0 H0 scope (compEnvC scope cl C X.env) fp xe) p0 σ1 H1 s1) (hE : ∀ cls d H', E cls d H' → W cls d σ H')
    (c : CX X.prog X.w X.stack H1 s1 E u s2) :
    notedBy (model X.prog X.w) X.A (compEnvC scope cl C X.env) (fun e t => BlkEnd (model X.prog X.w) X.A X.xe Qv w (compEnvC scope cl C X.env) (.error e) t) u s2 := by
  obtain ⟨a, B, sI, p1, σI, H2, cls, d, rfl, II, nb, up, fl, na, os, ag, w1⟩ := fly_of J c
  have II := inv_blk II
  have hst : X.stack = X.env :: X.outer := hs
  have nC : H2 C = none := II.free
  obtain ⟨mC, NC, _⟩ := II.loc
  have NC : sI.heap.Ns C mC := NC
  have I7 : Inv X pins σ H2 sI := I0.call' (ch := fp) II.os II.base II.hok II.bare fun b hb => ⟨(hfp b hb).2.2.2.1, (hfp b hb).2.1, (hfp b hb).2.2.2.2.1, (hfp b hb).2.2.2.2.2⟩
  have fC : FpOk X pins H2 C := I0.fpOk (Nat.le_of_eq hC.symm) nC
  have Cst : C ∉ frs X.stack := fun hm => by
    rw [hs] at hm
    rcases List.mem_cons.mp (show C ∈ X.env.locals :: frs X.outer from by unfold frs at hm ⊢; rw [List.filterMap_cons, hf] at hm; exact hm) with z | z
    · exact fC.2.1 z
    · exact fC.2.2.1 z
  have gone : ∀ b o, (PySem.W.hideAll sI.heap [C]).get? b = some o → sI.heap.get? b = some o ∧ b ≠ C := fun b o e => by
    refine ⟨PySem.W.of_hideAll _ e, fun z => ?_⟩
    rw [PySem.W.hideAll_none [C] (by rw [z]; exact List.mem_cons_self)] at e
    cases e
  have I8 : Inv X pins σ H2 { sI with heap := PySem.W.hideAll sI.heap [C], toks := sI.toks } :=
    I7.turned (t' := sI.toks) (fun b o hb e => PySem.W.hideAll_get [C] e (by simpa using hb)) fC.1 fC.2.1 fC.2.2.2.1 fC.2.2.2.2.1 fC.2.2.2.2.2
  unfold notedBy
  rw [note_of (f := X.env) (show (compEnvC scope cl C X.env).frame = X.env.frame from rfl)]
  have hfr : X.A.frames = some (X.env :: X.outer) := by rw [I0.ok.frames, hs]
  rw [hs] at fl
  refine HandSPX.looks_onZ Zc.steady hfr hf fl fun h3 hh up3 => ?_
  obtain ⟨z1, z2, z3, z4⟩ := hh
  have NC3 : h3.Ns C mC := up3.ns (up.ns NC)
  refine ⟨mC, NC3, fun g sb f hff => ?_⟩
  obtain ⟨y1, y2, y3⟩ := held_less z1 z3 z4 NC3 (by rw [← hs]; exact Cst) sb
  have hff : f.frame = some X.env.locals := hff.trans hf
  obtain ⟨oe, vs, T, oT, ts, he, hz, hd, h1, _⟩ := id y3
  unfold PySem.passOn
  refine wpAny_bind (wpAny_field he hd h1 ?_)
  rw [if_neg (show ¬ ((Value.ref T == Value.none) = true) from by simp)]
  have fin : wpAny (model X.prog X.w) X.A (setFlight (.ref a) f.frame) (fun _ t4 => wpAny (model X.prog X.w) X.A (throw (.ref a) : Sem Value) (fun _ _ => False) X.xe t4) X.xe { s2 with heap := g } := by
    refine HandSPX.setFlight_anyZ (s := { s2 with heap := g }) y1 y2 y3 fun h5 k1 k2 k3 k4 => wpAny_throw (tk _ _ ?_)
    refine ⟨a, PySem.W.hideAll B [C], { sI with heap := PySem.W.hideAll sI.heap [C], toks := sI.toks }, pins, σ, H2, cls, d, rfl, I8, fun b o e hb => ?_, fun b o e hn => ?_, .inr (.inr ?_), na, os, ag, hE _ _ _ w1⟩
    · obtain ⟨e1, e2⟩ := gone b o e
      exact PySem.W.hideAll_get [C] (nb b o e1 hb) (by simpa using e2)
    · obtain ⟨e1, e2⟩ := gone b o e
      obtain ⟨sl, q⟩ := (up.trans up3) b o e1 hn
      obtain ⟨sl2, q2⟩ := k4 b _ ((sb.2 b e2).trans q) hn
      exact ⟨sl2, q2⟩
    · rw [hs]
      refine ⟨k1, ?_, k2, by rw [hff] at k3; exact k3⟩
      cases q : (PySem.W.hideAll B [C]).get? a with
      | none => rfl
      | some o => rw [PySem.W.of_hideAll _ q] at z2; cases z2
  first
    | exact wpAny_bind (wpAny_pure (wpAny_bind fin))
    | exact wpAny_bind fin

section
variable {X : Cx} {pins : List (Addr × Obj)} {σ : L2.St} {H : Hp} {Q : VK} {elt tg iter : Expr} {ifs : List Expr} {scope : Scope} {own : List (Str × Nat)} {pos pos' : Pos} {wi : TI} {g : TG} {tt : TT} {te : L2.WX → TE} {W : L2.WX}
/-- the comprehension, its step may raise -/
theorem pe_lcX (calm : X.calm = true) (nd : X.N.Nodup) (hs0 : X.stack = X.env :: X.outer) (hf0 : X.env.frame = some X.env.locals) (tk : Takes X W) (pi : PI X tg iter wi) (ok : BlkOk X.N X.env.scope scope own)
    (pg : ∀ (s : Shared) (H : Hp) (C : Addr) (cl : List (Str × Addr)) (fp : List Addr), PG (X.blk s H scope (compEnvC scope cl C X.env) fp) tg g) (pt : ∀ (s : Shared) (H : Hp) (C : Addr) (cl : List (Str × Addr)) (fp : List Addr), PTs (X.blk s H scope (compEnvC scope cl C X.env) fp) ifs tt)
    (pe : ∀ (s : Shared) (H : Hp) (C : Addr) (cl : List (Str × Addr)) (fp : List Addr) (xe : Value → Shared → Prop) (W' : L2.WX), TakesF (blkX X s H scope (compEnvC scope cl C X.env) fp xe) W' → PE (blkX X s H scope (compEnvC scope cl C X.env) fp xe) elt (te W'))
    (fs : ∀ x, foldedSetIterable iter X.env x = pure x := by intro _; rfl) :
    PE X (.ListComp elt [⟨tg, iter, ifs, 0⟩] scope pos) (fun σ H Q => tLc wi g tt (te fun c d _ H' => W c d σ H') (own.map (·.2)) σ H Q) := by
  refine ⟨fun pins s σ H Q I tl => ?_⟩
  rw [eval_ListComp]
  have caps : ∀ y ∈ scope.names, y.2 = .free → ∃ c, X.env.cells.lookup y.1 = some c := fun y hy e => I.ok.has _ (ok.free y hy e)
  refine comp_rule rfl fs (closure_ok caps) ok.kind (fun y hy e => (ok.uniq y hy).trans (by rw [e])) ?_
  refine thn (pi.run pins s σ H _ I tl) fun xv s1 hx => thn hx fun itv s2 h2 => ?_
  obtain ⟨it, fp, tn, J, Hi, eit, Ii, Tn, sti, fpi, rest⟩ := h2
  subst eit
  refine wpAny_newObj_type (newEnv_comp ?_) (by show (0 : Nat) ≤ sizeLine; decide)
  generalize eD : s2.heap.objs.size = D
  have freeD : Hi D = none := Ii.hok.fresh (Nat.le_of_eq eD)
  obtain ⟨Wv, ⟨m0, w0⟩, turn⟩ := rest D freeD
  generalize es3 : ({ s2 with heap := s2.heap.push { cls := .type "list", data := .seq ([] : List Value).toArray } } : Shared) = s3
  have hp3 : s3.heap = s2.heap.push { cls := .type "list", data := .seq ([] : List Value).toArray } := by rw [← es3]
  have Il : Inv X pins σ (upd Hi D (.lst [])) s3 := by
    rw [← es3]
    refine Ii.laid (t' := s2.toks) (fun b o q => Heap.get?_push_of_some _ q) (Nat.le_of_eq eD) ⟨Nat.zero_le _, [], 0, .nil, ?_⟩
    rw [← eD]
    exact Heap.get?_push_size _ rfl
  have fpl : ∀ b ∈ fp, FpOk X pins (upd Hi D (.lst [])) b ∧ b < s3.heap.objs.size := fun b hb => by
    obtain ⟨o, q, _⟩ := Tn.obj _ _ sti b hb
    have lt := Heap.lt_size q
    have ne : b ≠ D := fun z => by rw [z, ← eD] at lt; exact Nat.lt_irrefl _ lt
    refine ⟨⟨(upd_ne ne).trans (fpi b hb).1, (fpi b hb).2⟩, ?_⟩
    rw [hp3, Heap.size_push]
    exact Nat.lt_succ_of_lt lt
  have stl : tn 0 s3.heap := Tn.keep _ _ _ sti fun b _ o q => by rw [hp3]; exact Heap.get?_push_of_some _ q
  have Ib := block_start Il ok nd fpl
  have pgB := pg s3 (upd Hi D (.lst [])) s3.heap.objs.size (cellsFrom (s3.heap.objs.size + 1) scope.names (cloFrom X.env.cells scope.names [])) fp
  have ptB := pt s3 (upd Hi D (.lst [])) s3.heap.objs.size (cellsFrom (s3.heap.objs.size + 1) scope.names (cloFrom X.env.cells scope.names [])) fp
  have peB := pe s3 (upd Hi D (.lst [])) s3.heap.objs.size (cellsFrom (s3.heap.objs.size + 1) scope.names (cloFrom X.env.cells scope.names [])) fp
    (notedBy (model X.prog X.w) X.A (compEnvC scope (cellsFrom (s3.heap.objs.size + 1) scope.names (cloFrom X.env.cells scope.names [])) s3.heap.objs.size X.env) (fun e t => BlkEnd (model X.prog X.w) X.A X.xe (EP X pins σ Q) (.ref D) (compEnvC scope (cellsFrom (s3.heap.objs.size + 1) scope.names (cloFrom X.env.cells scope.names [])) s3.heap.objs.size X.env) (.error e) t))
    (fun c d _ H' => W c d σ H')
    (fun p1 σ1 H1 s1 E u s2 J1 hE c => blk_out (pins := pins) (σ := σ) hs0 hf0 tk Il rfl (fun b hb => (fpl b hb).1) J1 hE c)
  show codeAny _ _ (.compStart (.ListComp elt [⟨tg, iter, ifs, 0⟩] scope pos) 0 (.ref it) (.ref D) (compEnvC scope (cellsFrom (s3.heap.objs.size + 1) scope.names (cloFrom X.env.cells scope.names [])) s3.heap.objs.size X.env))
    (BlkEnd (model X.prog X.w) X.A X.xe (EP X pins σ Q) (.ref D) (compEnvC scope (cellsFrom (s3.heap.objs.size + 1) scope.names (cloFrom X.env.cells scope.names [])) s3.heap.objs.size X.env)) { s3 with heap := pushCells (s3.heap.push { cls := .type "dict", data := .dict #[] }) scope.names }
  have nofp : ∀ b ∈ fp, (upd Hi D (.lst [])) b = none := fun b hb => (fpl b hb).1.1
  generalize ece : compEnvC scope (cellsFrom (s3.heap.objs.size + 1) scope.names (cloFrom X.env.cells scope.names [])) s3.heap.objs.size X.env = ce at Ib pgB ptB peB ⊢
  have lC : ce.locals = s3.heap.objs.size := by subst ece; rfl
  generalize eH3 : upd Hi D (.lst []) = H3 at Il Ib pgB ptB peB w0 nofp fpl
  generalize es4 : ({ s3 with heap := pushCells (s3.heap.push { cls := .type "dict", data := .dict #[] }) scope.names } : Shared) = s4 at Ib ⊢
  have st4 : tn 0 s4.heap := Tn.keep _ _ _ stl fun b _ o q => by rw [← es4]; exact pushCells_keeps _ _ _ _ (Heap.get?_push_of_some _ q)
  have still : ∀ {τ : L2.St} {K' : Hp} {r' : Shared}, Inv (X.blk s3 H3 scope ce fp) [] τ K' r' → (∀ b ∈ fp, K' b = none) → ∀ b ∈ fp, FpOk (X.blk s3 H3 scope ce fp) [] K' b := fun {τ K' r'} Iz nz b hb =>
    ⟨nz b hb, (Iz.ok.exf b hb).1, Iz.ok.exfs b hb, .inl hb, fun x c q => (Iz.ok.exf b hb).2 x c q, fun p hp => absurd (show p ∈ ([] : List (Addr × Obj)) ++ [] from hp) (by simp)⟩
  have loop : codeAny (model X.prog X.w) X.A (.compLoop (.ListComp elt [⟨tg, iter, ifs, 0⟩] scope pos) 0 (.ref it) (.ref D) ce) (BlkEnd (model X.prog X.w) X.A X.xe (EP X pins σ Q) (.ref D) ce) s4 := by
    refine compLoop_any (fun n t => ∃ i K', Inv (X.blk s3 H3 scope ce fp) [] (L2.wipe σ (own.map (·.2))) K' t ∧ tn i t.heap ∧ (∀ b ∈ fp, K' b = none) ∧ Wv i n K') ?_ m0 ⟨0, H3, Ib, st4, nofp, w0⟩
    rintro n s5 ⟨i, H5, I5, st5, n5, w5⟩
    rcases turn i n H5 w5 with ⟨stop, fin⟩ | ⟨go, Nx, hNx, step⟩
    · refine thnF (Tn.done (X.blk s3 H3 scope ce fp) rfl rfl rfl calm i [] s5 _ H5 (fun _ _ => False) I5 (still I5 n5) st5 stop) fun r s6 hr => ?_
      obtain ⟨er, I6⟩ := hr
      subst er
      have back : Inv X pins σ H5 s6 := Il.call' (ch := fp) I6.os I6.base I6.hok I6.bare fun b hb => ⟨(fpl b hb).1.2.2.2.1, (fpl b hb).1.2.1, (fpl b hb).1.2.2.2.2.1, (fpl b hb).1.2.2.2.2.2⟩
      have noC : H5 s3.heap.objs.size = none := by
        have z : H5 ce.locals = none := I6.free
        rwa [lC] at z
      obtain ⟨m, nsC, _⟩ := I6.loc
      obtain ⟨f0, f1, f2, f3, f4, f5⟩ := Il.fpOk (Nat.le_refl _) noC
      refine ⟨m, nsC, fun hg sb => ⟨.ref D, H5, ?_, rfl, fin⟩⟩
      rw [lC] at sb
      exact back.turned (t' := s6.toks) (fun b o hb q => (sb.2 b hb).trans q) f0 f1 f3 f4 f5
    · refine thnF (Tn.item (X.blk s3 H3 scope ce fp) rfl rfl rfl calm i [] s5 _ H5 (fun _ _ => False) I5 (still I5 n5) st5 go) fun r s6 hr => ?_
      obtain ⟨u, er, h6⟩ := hr
      subst er
      refine thnF h6 fun _ s7 h7 => ?_
      obtain ⟨x, H7, I7, r7, y7, st7, n7⟩ := h7
      have I7p := I7.pinned (still I7 n7) (Tn.obj _ _ st7)
      refine thnF (pgB.run _ s7 _ H7 x u _ I7p r7 (step x H7 y7)) fun _ s8 h8 => ?_
      obtain ⟨σ8, H8, I8, hw8, q8⟩ := h8
      refine thnF (ptB.run _ s8 σ8 H8 _ I8 q8) fun b s9 h9 => ?_
      obtain ⟨H9, I9, q9⟩ := h9
      have next : ∀ {t : Shared} {K' : Hp}, Inv (X.blk s3 H3 scope ce fp) ([] ++ pinsAt fp s7.heap) σ8 K' t → Nx K' → ∃ m, m < n ∧ ∃ i K', Inv (X.blk s3 H3 scope ce fp) [] (L2.wipe σ (own.map (·.2))) K' t ∧ tn i t.heap ∧ (∀ b ∈ fp, K' b = none) ∧ Wv i m K' := fun {t K'} It nx => by
        obtain ⟨m', lt, w'⟩ := hNx K' nx
        have held : ∀ b ∈ fp, ∀ o, s7.heap.get? b = some o → t.heap.get? b = some o ∧ K' b = none := fun b hb o q =>
          let z := It.pin (b, o) (List.mem_append_right _ (List.mem_append_right _ (mem_pinsAt hb q)))
          ⟨z.1, z.2.1⟩
        refine ⟨m', lt, i + 1, K', (It.unpinned (pins := [])).weak (by rw [← hw8, L2.wipe_length]) (fun j v q => ?_), Tn.keep _ _ _ st7 fun b hb o q => (held b hb o q).1, fun b hb => ?_, w'⟩
        · rw [← hw8] at q
          exact (L2.wipe_some q).1
        · obtain ⟨o, q, _⟩ := Tn.obj _ _ st7 b hb
          exact (held b hb o q).2
      cases b with
      | false =>
        simp only [Bool.false_eq_true, if_false] at q9 ⊢
        exact next I9 q9
      | true =>
        simp only [if_true] at q9 ⊢
        refine thn (peB.run _ s9 σ8 H9 _ (inv_xe I9) q9) fun z s10 h10 => ?_
        obtain ⟨yv, H10, I10, r10, acc, hD10, hz10, nx⟩ := h10
        exact app_ok (X := X.blk s3 H3 scope ce fp) (inv_blk I10) hD10 hz10 r10 fun s11 I11 => next I11 nx
  exact codeAny_compStart_list loop (Tn.self X.A 0 _ _ _ st4 loop)
end

/-! ### over plain data -/
section
variable {X : Cx} {Φ : En → Prop} {k n : Nat} {f : Addr} {fd : FuncData} {ps : List Str} {spc : Spc} {x : Str} {p pos : Pos} {e : Expr} {es : List Expr} {ws : WA} {W : L2.WX} {xx : Str → List (Str × D) → Sg → Prop}
/-- a call that may raise, within a block -/
theorem de_callF (F : FnOk X.prog X.w X.K X.mg X.base (L2.CX X.prog X.w) k f fd ps (spOfX X.K n spc)) (tk : TakesF X W) (hx : ∀ E, Φ E → Px X.K W xx E) (hr : Room k X.A) (hg : Gl X x) (hm : X.mg x = some (.ref f)) (hk : PySem.W.keepIn X.K (.ref f) = true) (hb : Binds X.K fd ps []) (ha : DA X Φ (e :: es) n ws)
    (hdb : (x == ("__debug__" : Str)) = false := by decide) (he : starEach (e :: es) X.env = (false, eval e X.env) :: starEach es X.env := by rfl) (hpl : (backTo pos (starEach es X.env)).any (·.1) = false := by rfl) :
    DE X Φ (.Call (.Name x p) (e :: es) [] pos) (wCallX spc ws xx) := fun E hE => PE.imp (pe_callS F hr hg hm hk hb (fun σ => fun pins H s e' s' I c => tk pins σ H s (L2.WE W σ) e' s' I (fun _ _ _ h => h) c) (ha E hE) hdb he hpl) fun σ H Q => by
  rintro ⟨S, F, R, hR, hw, k⟩
  refine ⟨S, F, _, hR, hw, fun ds S1 vs F1 H1 hw1 l1 r1 hR1 x1 => ?_⟩
  exact ⟨F1, ds, S1.h, _, _, l1, hR1.g.ext, r1, hR1.g.obs, hw1, fun r h' v F' H' hr rv g => k r _ v F' H' hr rv (hR1.after g) (x1.trans g.gF), fun c fs h' F' H' cls dd hy ax g => hx E hE c fs _ cls dd σ F' H' hy ax (hR1.after g)⟩
end
def noOwnA (s : List Sl) : Bool := s.all fun v => match v with
  | .o _ => false
  | _ => true
theorem noOwnA_get {s : List Sl} (h : noOwnA s = true) {i : Nat} {d : D} : s[i]? ≠ some (.o d) := fun e => by
  have := List.all_eq_true.mp h _ (List.mem_of_getElem? e)
  cases this
theorem noOwnA_vs {s : List Sl} (h : noOwnA s = true) (vs : List Nat) : noOwn s vs = true := by
  refine List.all_eq_true.mpr fun v _ => ?_
  cases e : s[v]? with
  | none => rfl
  | some x => cases x with
    | o d => exact absurd e (noOwnA_get h)
    | f d => rfl
    | u => rfl
/-- a comprehension whose step may raise -/
def wLcX (wi : WA) (g : WG) (tt : WT) (te : (Str → List (Str × D) → Sg → Prop) → WE) (vs : List Nat) (xx : Str → List (Str × D) → Sg → Prop) : WE := fun S R => wi S fun ds S1 => noOwnA S1.s = true ∧ ds.length ≤ 1000000 ∧
  wLcL g tt (te fun c fs S3 => xx c fs ⟨S1.s, S3.h⟩) vs S1.s (fun acc h => R (.lst acc) ⟨S1.s, h⟩) ds S1.h []
section
variable {X : Cx} {K : PySem.W.Frag} {E : En} {F F' F2 H H' H2 : Hp} {σ σ' : L2.St} {S : Sg} {vs : List Nat}
/-- behind a block that an exception leaves -/
theorem Rel.backX {S3 : Sg} {E' : En} (R : Rel K E F H σ S) (no : noOwnA S.s = true) (xF : Ext F F') (hE : E'.h = S.h) (ho : ∀ q, ¬ E'.ow q) (hF : E'.F = F2) (hH : E'.H = H2) (R3 : Rel K E' F' H' σ' S3) (gr : Gr K E F2 H2 S.h) : Rel K E F' H' σ ⟨S.s, S3.h⟩ := by
  obtain ⟨EF, EH, Eh, Eo⟩ := E'
  cases hF; cases hH; cases hE
  refine ⟨Gr.then gr (fun p hp => absurd hp (ho p)) R3.g, R.len, fun i d h => ?_, fun i d h => absurd h (noOwnA_get no), fun i j d e p h1 _ _ _ => absurd h1 (noOwnA_get no)⟩
  obtain ⟨v, h1, h2⟩ := R.frz i d h
  exact ⟨v, h1, h2.mono xF⟩
def LEXx (K : PySem.W.Frag) (W : L2.WX) (te : (Str → List (Str × D) → Sg → Prop) → WE) : TE := fun σ H Q => ∃ E xx, Px K W xx E ∧ LE K E (te xx) σ H Q
variable {p : Addr} {o : HO} {d : D} {v : V} {i : Nat}
theorem lcx_read {wi : WA} {gt : TG} {g : WG} {tt : WT} {te : (Str → List (Str × D) → Sg → Prop) → WE} {xx : Str → List (Str × D) → Sg → Prop} {W : L2.WX} {Q : VK} (ht : TgN K gt g vs) (hx : Px K W xx E) (hq : LN K E (wLcX wi g tt te vs xx) σ H Q) : tLc (LI K E wi) gt (LTx K tt) (LEXx K (fun c d _ H' => W c d σ H') te) vs σ H Q := by
  obtain ⟨S, F, R, hR, hw, k⟩ := hq
  refine ⟨S, F, _, hR, hw, fun ds S1 J F1 H1 hw1 fd hR1 x1 D0 hD => ?_⟩
  obtain ⟨noA, hl, hw1⟩ := hw1
  have no := noOwnA_vs noA vs
  obtain ⟨f0, hR1'⟩ := fresh_of hR1 hD (K := K) (E := E) (F := F1) (vs := []) (ds := []) .nil
  refine ⟨fun i m H => m + i = ds.length ∧ ∃ F2 h2 acc, Rel K E F2 H σ ⟨S1.s, h2⟩ ∧ Ext F1 F2 ∧ Fresh K E F2 H σ ⟨S1.s, h2⟩ D0 (.lst acc) ∧ acc.length ≤ i ∧ wLcL g tt (te fun c fs S3 => xx c fs ⟨S1.s, S3.h⟩) vs S1.s (fun acc h => R (.lst acc) ⟨S1.s, h⟩) (ds.drop i) h2 acc,
    ⟨ds.length, rfl, F1, S1.h, [], hR1', .refl _, f0, Nat.le_refl _, hw1⟩, fun i m H2 hW => ?_⟩
  obtain ⟨hm, F2, h2, acc, hR2, x2, f2, la, hw2⟩ := hW
  obtain ⟨go, stop⟩ := fd F2 H2 x2 hR2.g.ext
  by_cases hi : i < ds.length
  · have hd : ds[i]? = some ds[i] := List.getElem?_eq_getElem hi
    obtain ⟨g1, g2⟩ := go i _ hd
    rw [List.drop_eq_getElem_cons hi] at hw2
    refine .inr ⟨g1, fun H' => ∃ F3 h3 acc', Rel K E F3 H' σ ⟨S1.s, h3⟩ ∧ Ext F1 F3 ∧ Fresh K E F3 H' σ ⟨S1.s, h3⟩ D0 (.lst acc') ∧ acc'.length ≤ i + 1 ∧ wLcL g tt (te fun c fs S3 => xx c fs ⟨S1.s, S3.h⟩) vs S1.s (fun acc h => R (.lst acc) ⟨S1.s, h⟩) (ds.drop (i + 1)) h3 acc', fun H' hN => ⟨m - 1, by omega, by omega, hN⟩, fun x H3 hy => ?_⟩
    obtain ⟨F3, al, rx⟩ := g2 x H3 hy
    have hR3 := hR2.al al
    have hRw := (hR3.wipe vs).enter
    refine ht _ x (L2.wipe σ vs) _ F3 H3 _ _ _ hRw rx hw2 fun σ4 S4 hR4 hσ4 hw4 => ?_
    have hσ4' : L2.wipe σ4 vs = L2.wipe σ vs := hσ4.trans (wipe_wipe fun _ h => h)
    refine ⟨hσ4', _, S4, F3, _, hR4, hw4, fun b S5 F5 H5 hw5 hR5 x5 => ?_⟩
    have nown : ¬ owns (L2.wipe σ vs) ⟨wipeS S1.s vs, h2⟩ D0 := fun ⟨j, e, q1, q2⟩ => by
      have hj : j ∉ vs := fun z => by cases wipeS_in z q1
      have q1' : (wipeS S1.s vs)[j]? = some (.o e) := q1
      rw [wipeS_get hj] at q1'
      rw [wipe_get hj] at q2
      exact f2.no j e q1' q2
    have hD3 : ∃ u, H3 D0 = some u := Option.ne_none_iff_exists'.mp (by rw [al.xH.ne f2.at_.there]; exact f2.at_.there)
    obtain ⟨u, hu⟩ := hD3
    have fin : ∀ F6 H6 S6, Rel K ⟨F3, H3, h2, owns (L2.wipe σ vs) ⟨wipeS S1.s vs, h2⟩⟩ F6 H6 σ4 S6 → Ext F3 F6 → wipeS S6.s vs = wipeS S1.s vs → Rel K E F6 H6 σ ⟨S1.s, S6.h⟩ ∧ Fresh K E F6 H6 σ ⟨S1.s, S6.h⟩ D0 (.lst acc) := fun F6 H6 S6 hR6 x6 hs6 => by
      have hR7 := hR3.back (S3 := S6) no hs6 hσ4' x6 hR6 hR3.g
      have e6 : H6 D0 = some u := hR6.g.gH D0 u hu f2.nh nown
      have n3 : F3 D0 = none := (al.new D0 f2.nF f2.at_.there).elim id fun z => (TupO.ow f2.at_ z).elim
      have n6 : F6 D0 = none := (hR6.g.gN D0 n3 (by show H3 D0 ≠ none; rw [hu]; simp) nown).elim id fun z => (TupO.ow f2.at_ (by rw [e6, ← hu, al.xH.ne f2.at_.there] at z; exact z)).elim
      have h6 : S6.h D0 = none := by
        cases q : S6.h D0 with
        | none => rfl
        | some y =>
          rcases hR6.g.gO D0 (by rw [q]; simp) with z | z | z
          · exact absurd f2.nh z
          · have z' : H3 D0 = none := z
            rw [hu] at z'; cases z'
          · exact absurd z nown
      exact ⟨hR7, f2.at_.mono (al.xF.trans x6) (by rw [e6, ← hu]; exact al.xH.ne f2.at_.there), n6, h6, f2.nE, f2.no⟩
    cases b with
    | true =>
      refine L2.iteT ?_
      have px : Px K (fun c d _ H' => W c d σ H') (fun c fs S3 => xx c fs ⟨S1.s, S3.h⟩) ⟨F3, H3, h2, owns (L2.wipe σ vs) ⟨wipeS S1.s vs, h2⟩⟩ := fun c fs S' cls dd σ' F' H' q ax rr =>
        hx c fs ⟨S1.s, S'.h⟩ cls dd σ F' H' q ax (Rel.backX (S := ⟨S1.s, h2⟩) (E' := ⟨F3, H3, h2, owns (L2.wipe σ vs) ⟨wipeS S1.s vs, h2⟩⟩) (F := F3) (H := H3) (F2 := F3) (H2 := H3) hR3 noA rr.g.gF rfl (fun q ⟨j, e, q1, _⟩ => by
          have q1' : (wipeS S1.s vs)[j]? = some (.o e) := q1
          have hj : j ∉ vs := fun z => by cases wipeS_in z q1'
          rw [wipeS_get hj] at q1'
          exact noOwnA_get noA q1') rfl rfl rr hR3.g)
      refine ⟨_, _, px, S5, F5, _, hR5, br_t hw5, fun d S6 y F6 H6 hw6 r6 hR6 x6 => ?_⟩
      obtain ⟨hs6, hw6⟩ := hw6
      obtain ⟨hR7, f7⟩ := fin F6 H6 S6 hR6 (x5.trans x6) hs6
      obtain ⟨avs, ea, ra⟩ := f7.at_
      refine ⟨avs, ea, ?_, ?_⟩
      · have := ra.length
        have hz : (1000000 : Nat) < sizeLine := by decide
        omega
      · obtain ⟨hR8, f8⟩ := hR7.mutN (o := .lst (avs ++ [y])) (e := .lst (acc ++ [d])) f7 ⟨_, upd_same, ra.append (.one r6)⟩
        exact ⟨F6, S6.h, _, hR8, ((x2.trans al.xF).trans x5).trans x6, f8, by rw [List.length_append]; exact Nat.succ_le_succ la, hw6⟩
    | false =>
      refine L2.iteF ?_
      obtain ⟨hs6, hw6⟩ := br_f hw5
      obtain ⟨hR7, f7⟩ := fin F5 H5 S5 hR5 x5 hs6
      exact ⟨F5, S5.h, acc, hR7, (x2.trans al.xF).trans x5, f7, Nat.le_succ_of_le la, hw6⟩
  · refine .inl ⟨stop i (by omega), ?_⟩
    rw [List.drop_eq_nil_of_le (by omega)] at hw2
    exact k _ _ D0 F2 H2 hw2 f2 hR2 (x1.trans x2)
theorem dn_lcX {X : Cx} {W : L2.WX} {xx : Str → List (Str × D) → Sg → Prop} {gt : TG} {elt tg iter : Expr} {ifs : List Expr} {scope : Scope} {own : List (Str × Nat)} {pos : Pos} {wi : WA} {g : WG} {tt : WT} {te : (Str → List (Str × D) → Sg → Prop) → WE} (hc : X.calm = true) (hs0 : X.stack = X.env :: X.outer) (hf0 : X.env.frame = some X.env.locals) (tk : Takes X W) (hN : X.N.Nodup)
    (hi : DI X (Px X.K W xx) tg iter wi) (ok : BlkOk X.N X.env.scope scope own) (hT : TgN X.K gt g (own.map (·.2)))
    (hg : ∀ (s : Shared) (H : Hp) (C : Addr) (cl : List (Str × Addr)) (fp : List Addr), PG (X.blk s H scope (compEnvC scope cl C X.env) fp) tg gt) (ht : ∀ (s : Shared) (H : Hp) (C : Addr) (cl : List (Str × Addr)) (fp : List Addr), PTs (X.blk s H scope (compEnvC scope cl C X.env) fp) ifs (LTx X.K tt))
    (he : ∀ (s : Shared) (H : Hp) (C : Addr) (cl : List (Str × Addr)) (fp : List Addr) (xe : Value → Shared → Prop) (W' : L2.WX), TakesF (blkX X s H scope (compEnvC scope cl C X.env) fp xe) W' → ∀ xx', DE (blkX X s H scope (compEnvC scope cl C X.env) fp xe) (Px X.K W' xx') elt (te xx')) (hs : ∀ x, foldedSetIterable iter X.env x = pure x := by intro _; rfl) :
    DN X (Px X.K W xx) (.ListComp elt [⟨tg, iter, ifs, 0⟩] scope pos) (wLcX wi g tt te (own.map (·.2)) xx) := fun E hE =>
  PE.imp (pe_lcX (te := fun W' => LEXx X.K W' te) hc hN hs0 hf0 tk (hi E hE) ok hg ht (fun s H C cl fp xe W' tkF => ⟨fun pins s1 σ1 H1 Q1 I1 q1 => by
    obtain ⟨E1, xx1, px1, q1⟩ := q1
    exact (he s H C cl fp xe W' tkF xx1 E1 px1).run pins s1 σ1 H1 Q1 I1 q1⟩) hs) fun σ H Q q => lcx_read hT hE q
end
end VL

set_option Elab.async false
set_option linter.all false
set_option maxRecDepth 100000
set_option maxHeartbeats 4000000
/-! VL18: texts: split, str(int), int(text); a dict of the module's top with text keys. -/
namespace VL
open PySem PySem.Spec PyProof.Rows L2
theorem reps_strs {K : PySem.W.Frag} {F : Hp} : ∀ ys : List Str, Reps K F (ys.map V.str) (ys.map D.str)
  | [] => .nil
  | y :: ys => .cons (.str y) (reps_strs ys)
/-- s.split(t) -/
def wSplit (w we : WE) : WE := fun S R => w S fun d S1 => match d with
  | .str a => we S1 fun e S2 => match e with
    | .str b => (b.length == 0) = false ∧ a.length + 2 ≤ sizeLine ∧ R (.lst ((Txt.split a b).map D.str)) S2
    | _ => False
  | _ => False
def bStr : OC
  | [.int i], R => i.natAbs.log2 < 1920 ∧ R (.str (toString i))
  | _, _ => False
def bIntS : OC
  | [.str a], R => ∃ n, PySem.intText? a = some n ∧ a.length ≤ 640 ∧ R (.int n)
  | _, _ => False
section
variable {X : Cx} {Φ : En → Prop} {o e : Expr} {wo we : WE} {apos pos : Pos}
theorem de_split (ho : DE X Φ o wo) (he : DE X Φ e we) (hs : starEach [e] X.env = [(false, eval e X.env)] := by rfl) (hbase : attributeBase o "split" X.env (eval o X.env) = eval o X.env := by rfl) (hline : (apos.endLine == pos.line) = true := by rfl) :
    DE X Φ (.Call (.Attribute o "split" apos) [e] [] pos) (wSplit wo we) := fun E hE => PE.imp (pe_split (ho E hE) (he E hE) hs hbase hline) fun σ H Q => by
  rintro ⟨S, F, R, hR, hw, k⟩
  refine ⟨S, F, _, hR, hw, fun d S1 v F1 H1 hw1 r1 hR1 x1 => ?_⟩
  split at hw1
  · cases r1
    refine ⟨⟨_, rfl⟩, S1, F1, _, hR1, hw1, fun e S2 u F2 H2 hw2 r2 hR2 x2 => ?_⟩
    split at hw2
    · cases r2
      refine ⟨_, _, rfl, rfl, hw2.1, hw2.2.1, fun p hp => ?_⟩
      rename_i a _ b
      have al := Al.one (o := .lst ((Txt.split a b).map V.str)) hR2.g.ext hp
      exact k _ S2 _ _ _ hw2.2.2 (.lst upd_same (reps_strs _)) (hR2.al al) ((x1.trans x2).trans al.xF)
    · exact hw2.elim
  · exact hw1.elim
theorem cv_str : CallV X (.type "str") bStr := CallR.any fun xs H Q => by
  rintro ⟨F, ds, R, hx, r, hg, k⟩
  refine ⟨_, call_str_int, ?_⟩
  unfold bStr at hg
  split at hg
  · obtain ⟨v, rfl, q⟩ := r.one_of
    cases q
    exact ⟨_, rfl, hg.1, k _ _ F H hg.2 (.str _) (.refl hx)⟩
  · exact hg.elim
theorem cv_intS : CallV X (.type "int") bIntS := CallR.any fun xs H Q => by
  rintro ⟨F, ds, R, hx, r, hg, k⟩
  refine ⟨_, call_int_str, ?_⟩
  unfold bIntS at hg
  split at hg
  · obtain ⟨v, rfl, q⟩ := r.one_of
    cases q
    obtain ⟨n, h1, h2, h3⟩ := hg
    exact ⟨_, n, rfl, h1, h2, k _ _ F H h3 (.int _) (.refl hx)⟩
  · exact hg.elim
end
/-! ### a table of the top -/
def lookS (tab : List (Str × D)) (z : Str) : Option D := tab.lookup z
structure CTab (K : PySem.W.Frag) (w : World) (mg : Str → Option Value) (x : Str) (tab : List (Str × D)) : Prop where
  ex : ∃ d es n, KDict K w d es n ∧ mg x = some (.ref d) ∧ ∀ z e, lookS tab z = some e → ∃ u v, PySem.W.nsIn K d z = some (some u) ∧ RelV v u ∧ ∀ F, Rep K F v e
def wTab (tab : List (Str × D)) (we : WE) : WE := fun S R => we S fun d S1 => match d with
  | .str z => ∃ e, lookS tab z = some e ∧ R e S1
  | _ => False

section
variable {X : Cx} {Φ : En → Prop} {e : Expr} {we : WE} {x : Str} {p pos : Pos}
theorem ix_tab {d : Addr} {es : Array DictEntry} {n : Nat} (D : KDict X.K X.w d es n) : IxR X (fun x y H Q => ∃ (z : Str) (u0 : Value) (v0 : V), x = .ref d ∧ y = .str z ∧ PySem.W.nsIn X.K d z = some (some u0) ∧ RelV v0 u0 ∧ Q v0 H) := by
  intro value slice pins s σ H x y v u Q I rx ry h hs
  have ty : ∀ z : Unit, True := fun _ => trivial
  obtain ⟨z, u0, v0, rfl, rfl, e, r, q⟩ := h
  have tI := kd_type D I
  have run := op_item_kd D pins s σ H (.ref d) (.str z) v u Q I rx ry ⟨z, u0, v0, rfl, rfl, e, r, q⟩
  cases rx
  obtain ⟨t, rfl⟩ := ry
  exact tail_any tI PySem.F.slot_dict_getitem.lookup run hs
theorem CTab.de {tab : List (Str × D)} (c : CTab X.K X.w X.mg x tab) (hg : Gl X x) (he : DE X Φ e we) (hs : PlainIx e) (hd : (x == ("__debug__" : Str)) = false := by decide) : DE X Φ (.Subscript (.Name x p) e pos) (wTab tab we) := fun E hE => by
  obtain ⟨d, es, n, KD, hm, hl⟩ := c.ex
  refine PE.imp (pe_ix (ix_tab KD) (pe_glob (v := .ref d) hg hm rfl hd) (he E hE) hs) fun σ H Q => ?_
  rintro ⟨S, F, R, hR, hw, k⟩
  refine ⟨S, F, _, hR, hw, fun y S1 v1 F1 H1 hw1 r1 hR1 x1 => ?_⟩
  split at hw1
  · cases r1
    obtain ⟨e1, h1, h2⟩ := hw1
    obtain ⟨u, v, h3, h4, h5⟩ := hl _ _ h1
    exact ⟨_, u, v, rfl, rfl, h3, h4, k _ S1 _ F1 H1 h2 (h5 F1) hR1 x1⟩
  · exact hw1.elim
end

theorem tab_cons {k : Str} {d : D} {r : List (Str × D)} {P : Str → D → Prop} (h0 : P k d) (hr : ∀ z e, lookS r z = some e → P z e) : ∀ z e, lookS ((k, d) :: r) z = some e → P z e := fun z e h => by
  unfold lookS at h
  rw [List.lookup_cons] at h
  by_cases q : (z == k) = true
  · rw [q] at h
    cases h
    rw [eq_of_beq q]
    exact h0
  · have q : (z == k) = false := by simpa using q
    rw [q] at h
    exact hr z e h
theorem tab_nil {P : Str → D → Prop} : ∀ z e, lookS [] z = some e → P z e := fun z e h => by cases h
theorem rv_ref {p : Addr} : RelV (V.ref p) (Value.ref p) := rfl
end VL

set_option Elab.async false
set_option linter.all false
set_option maxRecDepth 100000
set_option maxHeartbeats 4000000
/-! VT: the tape, and what all laws share -/
namespace VL
open PySem PySem.Spec L2
/-- a tape: the script's numbers, the next place, what is left of a great number, the state of the drawing -/
def Tp (h : Oh) (a : Addr) : Prop := ∃ (ns : List Int) (i r s : Int), h a = some (.ml [.lst (ns.map .int), .int i, .int r, .int s]) ∧ ns.length ≤ 63 ∧ 0 ≤ i ∧ 0 ≤ r ∧ 0 ≤ s ∧ s < 2147483647
/-- nothing but the tape has changed -/
def But (a : Addr) (h h' : Oh) : Prop := ∀ b, b ≠ a → h' b = h b
theorem But.refl (a : Addr) (h : Oh) : But a h h := fun _ _ => rfl
theorem But.trans {a : Addr} {h h1 h2 : Oh} (x : But a h h1) (y : But a h1 h2) : But a h h2 := fun b n => (y b n).trans (x b n)
theorem But.put (a : Addr) (h : Oh) (o : Ob) : But a h (h.put a o) := fun b n => Oh.put_ne n
@[irreducible] def sp_next : Spc := fun ds h R _ => ∃ a m, ds = [.obj a, .int m] ∧ Tp h a ∧ 0 < m ∧ m < 2 ^ 60 ∧ ∀ v h', 0 ≤ v → v < m → Tp h' a → But a h h' → R (.int v) h'
theorem sp_next_out {ds : List D} {h : Oh} {R : D → Oh → Prop} {E : XC} (q : sp_next ds h R E) : ∃ a m, ds = [.obj a, .int m] ∧ Tp h a ∧ 0 < m ∧ m < 2 ^ 60 ∧ ∀ v h', 0 ≤ v → v < m → Tp h' a → But a h h' → R (.int v) h' := by
  unfold sp_next at q
  exact q
theorem draw {h : Oh} {a : Addr} {m : Int} {R : D → Oh → Prop} {E : XC} (hT : Tp h a) (h1 : 0 < m) (h2 : m < 2 ^ 60) (k : ∀ v h', 0 ≤ v → v < m → Tp h' a → But a h h' → R (.int v) h') : sp_next [.obj a, .int m] h R E := by
  unfold sp_next
  exact ⟨a, m, rfl, hT, h1, h2, k⟩
/-- law: the script goes in, True comes out -/
def sp_true : Spc := fun ds h R _ => ∃ ns : List Int, ds = [.scr ns] ∧ ns.length ≤ 63 ∧ ∀ h', R (.bl true) h'
theorem atI_map {α β : Type} {f : α → β} {xs : List α} {i : Int} (h0 : 0 ≤ i) (h : i < xs.length) : ∃ x, xs[i.toNat]? = some x ∧ atI (xs.map f) i = some (f x) := by
  have hi : i.toNat < xs.length := by omega
  refine ⟨xs[i.toNat], List.getElem?_eq_getElem hi, ?_⟩
  unfold atI ixN
  rw [if_pos h0, if_pos (by rw [List.length_map]; exact h)]
  show (xs.map f)[i.toNat]? = _
  rw [List.getElem?_map, List.getElem?_eq_getElem hi]
  rfl
theorem cdiv {i j : Int} (h : 0 < j) (h2 : j < 2 ^ 60) : CDivW i j := wide_div h (b := 60) (by omega) (by decide) (by decide)
theorem cdiv2 {i : Int} : CDivW i 2 := cdiv (by decide) (by decide)
theorem cmul {i j : Int} (a b : Nat) (ha : i.natAbs < 2 ^ a) (hb : j.natAbs < 2 ^ b) (h : a + b ≤ 134217728) : CMulX i j := mulx_ok ha hb h
theorem forc {g : WG} {tb : WS} {T : We} {x : D} {xs : List D} {S : Sg} (h : g x S fun S1 => tb { T with nx := wForL g tb T xs, ct := wForL g tb T xs, bk := T.nx } S1) : wForL g tb T (x :: xs) S := h
theorem forv {i : Nat} {tb : WS} {T : We} {x : D} {xs : List D} {S : Sg} (h : tb { T with nx := wForL (gVar i) tb T xs, ct := wForL (gVar i) tb T xs, bk := T.nx } (S.st i (.f x))) : wForL (gVar i) tb T (x :: xs) S := h
open PyProof.Rows
def w_next_6 : WS :=
  (wRet (wOp opMod (wCB bInt (wCons (wOp opDiv (wOp opMod (wOp opMul (wIx (wVar 0) (wC (.int 3))) (wC (.int 16807))) (wC (.int 2147483647))) (wC (.int 7))) wNil)) (wVar 1)))
def w_next_5 : WS :=
  (wSeq (wAsg (wOp opMod (wCB bInt (wCons (wOp opAdd (wOp opAdd (wOp opMul (wIx (wVar 0) (wC (.int 3))) (wC (.int 48271))) (wOp opMul (wVar 3) (wC (.int 69621)))) (wC (.int 11))) wNil)) (wC (.int 2147483647))) (gIxM (wVar 0) (wC (.int 3))))
  w_next_6)
def w_next_4 : WS :=
  (wSeq (wIfS (wBb (wOp opGe (wVar 3) (wOp opPow (wC (.int 10)) (wC (.int 18))))) (wSeq (wAsg (wOp opDiv (wVar 3) (wVar 1)) (gIxM (wVar 0) (wC (.int 2))))
  (wRet (wOp opMod (wCB bInt (wCons (wVar 3) wNil)) (wVar 1)))) wNext)
  w_next_5)
def w_next_3 : WS :=
  (wSeq (wIfS (wBb (wOp opLt (wIx (wVar 0) (wC (.int 1))) (wCB bLen (wCons (wIx (wVar 0) (wC (.int 0))) wNil)))) (wSeq (wAsg (wCB bAbs (wCons (wIx (wIx (wVar 0) (wC (.int 0))) (wIx (wVar 0) (wC (.int 1)))) wNil)) (gVar 3))
  (wAugM (wVar 0) (wC (.int 1)) opAddI (wC (.int 1)))) wNext)
  w_next_4)
def w_next_2 : WS :=
  (wSeq (wAsg (wC (.int 0)) (gVar 3))
  w_next_3)
def w_next_1 : WS :=
  (wSeq (wIfS (wBb (wOp opGt (wVar 2) (wC (.int 0)))) (wSeq (wAsg (wOp opDiv (wVar 2) (wVar 1)) (gIxM (wVar 0) (wC (.int 2))))
  (wRet (wOp opMod (wCB bInt (wCons (wVar 2) wNil)) (wVar 1)))) wNext)
  w_next_2)
def w_next : WS :=
  (wSeq (wAsg (wIx (wVar 0) (wC (.int 2))) (gVar 2))
  w_next_1)
theorem pk_next : Pk 2 2 sp_next w_next := by
  intro ds h R _ q
  obtain ⟨a, m, rfl, ⟨ns, i, r, s, hT, hn, hi, hr, hs, hs2⟩, hm, hm2, hR⟩ := sp_next_out q
  refine ⟨_, _, hT, rfl, ?_⟩
  refine br (fun e => ?_) (fun e => ?_)
  · refine ⟨cdiv hm hm2, a, _, 2, 2, rfl, rfl, hT, rfl, hm, ?_⟩
    refine hR _ _ (Int.emod_nonneg _ (by omega)) (Int.emod_lt_of_pos _ hm) ⟨ns, i, r / m, s, Oh.put_same, hn, hi, Int.ediv_nonneg hr (by omega), hs, hs2⟩ (But.put _ _ _)
  -- the rest, from any cell
  have rest : ∀ (h1 : Oh) (i1 c : Int), 0 ≤ c → h1 a = some (.ml [.lst (ns.map .int), .int i1, .int r, .int s]) → 0 ≤ i1 → But a h h1 →
      w_next_4 (Fi R) ⟨[.f (.obj a), .f (.int m), .f (.int r), .f (.int c)], h1⟩ := fun h1 i1 c hc hT1 hi1 hb => by
    refine ⟨⟨by decide, by decide, by decide⟩, ?_⟩
    refine br (fun e2 => ?_) (fun e2 => ?_)
    · refine ⟨cdiv hm hm2, a, _, 2, 2, rfl, rfl, hT1, rfl, hm, ?_⟩
      refine hR _ _ (Int.emod_nonneg _ (by omega)) (Int.emod_lt_of_pos _ hm) ⟨ns, i1, c / m, s, Oh.put_same, hn, hi1, Int.ediv_nonneg hc (by omega), hs, hs2⟩ (hb.trans (But.put _ _ _))
    · have hc2 : c < 10 ^ 18 := by
        have := of_decide_eq_false e2
        have e3 : ((10 : Int) ^ (18 : Int).toNat) = 10 ^ 18 := rfl
        rw [e3] at this
        omega
      refine ⟨_, _, hT1, rfl, cmul 32 17 (by omega) (by decide) (by decide), cmul 60 18 (by omega) (by decide) (by decide), ?_⟩
      refine ⟨(by decide : (0 : Int) < 2147483647), a, _, 3, 3, rfl, rfl, hT1, rfl, ?_⟩
      have b1 : 0 ≤ (s * 48271 + c * 69621 + 11) % 2147483647 := Int.emod_nonneg _ (by decide)
      have b2 : (s * 48271 + c * 69621 + 11) % 2147483647 < 2147483647 := Int.emod_lt_of_pos _ (by decide)
      refine ⟨_, _, Oh.put_same, rfl, cmul 32 17 (by omega) (by decide) (by decide), (by decide : (0 : Int) < 2147483647), wide_div (b := 4) (by decide) (by decide) (by decide) (by decide), hm, ?_⟩
      exact hR _ _ (Int.emod_nonneg _ (by omega)) (Int.emod_lt_of_pos _ hm) ⟨ns, i1, r, _, Oh.put_same, hn, hi1, hr, b1, b2⟩ (hb.trans (But.put _ _ _))
  refine ⟨_, _, hT, rfl, _, _, hT, rfl, ?_⟩
  refine br (fun e2 => ?_) (fun e2 => ?_)
  · have e3 : i < ns.length := by
      have := of_decide_eq_true e2
      rw [List.length_map] at this
      exact this
    obtain ⟨x, hx, ha⟩ := atI_map (f := D.int) hi e3
    refine ⟨_, _, hT, rfl, _, _, hT, rfl, _, ha, ?_⟩
    refine ⟨a, _, 1, _, rfl, rfl, hT, rfl, _, 1, hT, rfl, ?_⟩
    exact rest _ (i + 1) _ (by split <;> omega) Oh.put_same (by omega) (But.put _ _ _)
  · exact rest h i 0 (by decide) hT hi (But.refl _ _)
end VL

set_option Elab.async false
set_option linter.all false
set_option maxRecDepth 100000
set_option maxHeartbeats 4000000
/-! VP: bits of whole numbers -/
namespace VL
open PySem PySem.Spec L2
/-- how many bits are 1 -/
def pcf : Nat → Nat → Nat
  | 0, _ => 0
  | f + 1, n => if n = 0 then 0 else n % 2 + pcf f (n / 2)
def pc (n : Nat) : Nat := pcf n n
theorem pcf_eq : ∀ (f g n : Nat), n ≤ f → n ≤ g → pcf f n = pcf g n
  | 0, 0, n, _, _ => rfl
  | 0, g + 1, n, h, _ => by
    have : n = 0 := by omega
    subst this
    simp [pcf]
  | f + 1, 0, n, _, h => by
    have : n = 0 := by omega
    subst this
    simp [pcf]
  | f + 1, g + 1, n, h, k => by
    unfold pcf
    split
    · rfl
    · rw [pcf_eq f g (n / 2) (by omega) (by omega)]
theorem pc_step (n : Nat) : pc n = n % 2 + pc (n / 2) := by
  unfold pc
  cases n with
  | zero => rfl
  | succ n =>
    show (if n + 1 = 0 then 0 else (n + 1) % 2 + pcf n ((n + 1) / 2)) = _
    rw [if_neg (by omega), pcf_eq n ((n + 1) / 2) ((n + 1) / 2) (by omega) (Nat.le_refl _)]
theorem pc_zero : pc 0 = 0 := rfl
theorem and_halves (a b : Nat) : (a &&& b) / 2 = (a / 2) &&& (b / 2) := by
  have := Nat.and_div_two (a := a) (b := b)
  omega
theorem and_mod2 (a b : Nat) : (a &&& b) % 2 = (a % 2) * (b % 2) := by
  have := Nat.and_mod_two_pow (a := a) (b := b) (n := 1)
  simp only [Nat.pow_one] at this
  rw [this]
  rcases Nat.mod_two_eq_zero_or_one a with h | h <;> rcases Nat.mod_two_eq_zero_or_one b with k | k <;> rw [h, k] <;> rfl
/-- taking the lowest 1 away -/
theorem pc_pred : ∀ n : Nat, 0 < n → pc (n &&& (n - 1)) + 1 = pc n := fun n => by
  induction n using Nat.strongRecOn with
  | ind n ih =>
    intro h
    rw [pc_step (n &&& (n - 1)), pc_step n, and_halves, and_mod2]
    rcases Nat.mod_two_eq_zero_or_one n with e | e
    · have e1 : (n - 1) / 2 = n / 2 - 1 := by omega
      rw [e1, e, Nat.zero_mul]
      have := ih (n / 2) (by omega) (by omega)
      omega
    · have e1 : (n - 1) / 2 = n / 2 := by omega
      have e2 : (n - 1) % 2 = 0 := by omega
      rw [e1, e2, e, Nat.and_self]
      omega
end VL

set_option Elab.async false
set_option linter.all false
set_option maxRecDepth 100000
set_option maxHeartbeats 4000000
namespace VL
open PySem PySem.Spec L2
theorem bnot_bnot (x : Int) : Builtin.bitNot (Builtin.bitNot x) = x := by
  unfold Builtin.bitNot
  omega
theorem and_nn (a b : Nat) : Builtin.bitAnd a b = ((a &&& b : Nat) : Int) := by
  unfold Builtin.bitAnd
  rw [decide_eq_true (Int.natCast_nonneg a), decide_eq_true (Int.natCast_nonneg b)]
  rfl
theorem or_nn (a b : Nat) : Builtin.bitOr a b = ((a ||| b : Nat) : Int) := by
  have n1 : ∀ c : Nat, ¬ 0 ≤ Builtin.bitNot c := fun c => by unfold Builtin.bitNot; omega
  unfold Builtin.bitOr
  have e : Builtin.bitAnd (Builtin.bitNot a) (Builtin.bitNot b) = Builtin.bitNot (((Builtin.bitNot (Builtin.bitNot a)).toNat ||| (Builtin.bitNot (Builtin.bitNot b)).toNat : Nat) : Int) := by
    rw [Builtin.bitAnd, decide_eq_false (n1 a), decide_eq_false (n1 b)]
  rw [e, bnot_bnot, bnot_bnot, bnot_bnot, Int.toNat_natCast, Int.toNat_natCast]
/-- the bits 0, and the rest -/
theorem m2 (i : Nat) (h : i < 2) : i = 0 ∨ i = 1 := by omega
theorem and2 (a b i j : Nat) (hi : i < 2) (hj : j < 2) : (2 * a + i) &&& (2 * b + j) = 2 * (a &&& b) + i * j := by
  have h1 := and_halves (2 * a + i) (2 * b + j)
  have h2 := and_mod2 (2 * a + i) (2 * b + j)
  have e1 : (2 * a + i) / 2 = a := by omega
  have e2 : (2 * b + j) / 2 = b := by omega
  have e3 : (2 * a + i) % 2 = i := by omega
  have e4 : (2 * b + j) % 2 = j := by omega
  rw [e1, e2] at h1
  rw [e3, e4] at h2
  omega
theorem or2 (a b i j : Nat) (hi : i < 2) (hj : j < 2) : (2 * a + i) ||| (2 * b + j) = 2 * (a ||| b) + (i + j - i * j) := by
  have h1 := Nat.or_div_two (a := 2 * a + i) (b := 2 * b + j)
  have h2 := Nat.or_mod_two_pow (a := 2 * a + i) (b := 2 * b + j) (n := 1)
  simp only [Nat.pow_one] at h2
  have e1 : (2 * a + i) / 2 = a := by omega
  have e2 : (2 * b + j) / 2 = b := by omega
  have e3 : (2 * a + i) % 2 = i := by omega
  have e4 : (2 * b + j) % 2 = j := by omega
  rw [e1, e2] at h1
  rw [e3, e4] at h2
  have h3 : i ||| j = i + j - i * j := by
    rcases m2 i hi with rfl | rfl <;> rcases m2 j hj with rfl | rfl <;> rfl
  rw [h3] at h2
  omega
theorem xor2 (a b i j : Nat) (hi : i < 2) (hj : j < 2) : (2 * a + i) ^^^ (2 * b + j) = 2 * (a ^^^ b) + (i + j - 2 * (i * j)) := by
  have h1 := Nat.xor_div_two (a := 2 * a + i) (b := 2 * b + j)
  have h2 := Nat.xor_mod_two_pow (a := 2 * a + i) (b := 2 * b + j) (n := 1)
  simp only [Nat.pow_one] at h2
  have e1 : (2 * a + i) / 2 = a := by omega
  have e2 : (2 * b + j) / 2 = b := by omega
  have e3 : (2 * a + i) % 2 = i := by omega
  have e4 : (2 * b + j) % 2 = j := by omega
  rw [e1, e2] at h1
  rw [e3, e4] at h2
  have h3 : i ^^^ j = i + j - 2 * (i * j) := by
    rcases m2 i hi with rfl | rfl <;> rcases m2 j hj with rfl | rfl <;> rfl
  rw [h3] at h2
  omega
theorem pc2 (a i : Nat) (hi : i < 2) : pc (2 * a + i) = i + pc a := by
  rw [pc_step, show (2 * a + i) % 2 = i by omega, show (2 * a + i) / 2 = a by omega]
theorem or_xor_and : ∀ a b : Nat, (a ||| b) = (a ^^^ b) + (a &&& b) := fun a => by
  induction a using Nat.strongRecOn with
  | ind a ih =>
    intro b
    by_cases ha : a = 0
    · subst ha
      simp
    · have x := ih (a / 2) (by omega) (b / 2)
      have p1 := Nat.mod_lt a (show 0 < 2 by decide)
      have p2 := Nat.mod_lt b (show 0 < 2 by decide)
      have e1 := or2 (a / 2) (b / 2) (a % 2) (b % 2) p1 p2
      have e2 := xor2 (a / 2) (b / 2) (a % 2) (b % 2) p1 p2
      have e3 := and2 (a / 2) (b / 2) (a % 2) (b % 2) p1 p2
      rw [Nat.div_add_mod, Nat.div_add_mod] at e1 e2 e3
      rw [e1, e2, e3, x]
      rcases m2 _ p1 with q | q <;> rcases m2 _ p2 with q' | q' <;> rw [q, q'] <;> omega
theorem xor_nn (a b : Nat) : Builtin.bitXor a b = ((a ^^^ b : Nat) : Int) := by
  unfold Builtin.bitXor
  rw [or_nn, and_nn, or_xor_and a b]
  omega
theorem shr_nn (a q : Nat) : (a : Int) / 2 ^ (q : Int).toNat = ((a / 2 ^ q : Nat) : Int) := by
  rw [Int.toNat_natCast]
  push_cast
  rfl
theorem shl_nn (a q : Nat) : (a : Int) * 2 ^ (q : Int).toNat = ((a * 2 ^ q : Nat) : Int) := by
  rw [Int.toNat_natCast]
  push_cast
  rfl
theorem and1_nn (a : Nat) : Builtin.bitAnd a 1 = ((a % 2 : Nat) : Int) := by
  rw [show (1 : Int) = ((1 : Nat) : Int) from rfl, and_nn, Nat.and_one_is_mod]
theorem bits_nn (a : Nat) : Builtin.Int.intBits a = if a = 0 then 0 else a.log2 + 1 := by
  unfold Builtin.Int.intBits
  by_cases h : a = 0
  · subst h; rfl
  · rw [if_neg h, if_neg (by simpa using h)]
    rfl
theorem rint {R : D → Oh → Prop} {h : Oh} {i j : Int} (hR : R (.int j) h) (e : i = j) : R (.int i) h := e ▸ hR
end VL

set_option Elab.async false
set_option linter.all false
set_option maxRecDepth 100000
set_option maxHeartbeats 4000000
/-! VP: Paulis as masks: what the defs of paulis promise -/
namespace VL.P
open PySem PySem.Spec PyProof.Rows L2 VL
def k_NAMES : D := (.str "IXZY")
structure Pa where
  x : Nat
  z : Nat
  s : Nat
  deriving DecidableEq
def Pa.e (p : Pa) : D := .tup [.int p.x, .int p.z, .int p.s]
def Pa.w (p : Pa) : Nat := pc (p.x ||| p.z)
/-- a letter's sign -/
def lch (x z : Nat) : Nat := if x % 2 = 0 then (if z % 2 = 0 then 73 else 90) else (if z % 2 = 0 then 88 else 89)
def lets (m : Nat) : List Nat := (List.range (if m = 0 then 0 else m.log2 + 1)).filter fun q => m / 2 ^ q % 2 == 1
def cmt (p q : Pa) : Bool := pc (p.x &&& q.z) % 2 == pc (p.z &&& q.x) % 2
/-- the turns of a product, by quarters -/
def trn (p q : Pa) : Int := (2 * ((p.s : Int) + q.s) + pc (p.x &&& p.z) + pc (q.x &&& q.z) + 2 * pc (p.z &&& q.x) - pc ((p.x ^^^ q.x) &&& (p.z ^^^ q.z))) % 4
def prd (p q : Pa) : Pa := ⟨p.x ^^^ q.x, p.z ^^^ q.z, (trn p q / 2).toNat⟩
def sng (k q : Nat) : Pa := ⟨k % 2 * 2 ^ q, k / 2 * 2 ^ q, 0⟩
def rnk (p : Pa) : D := .tup [.int p.w, .int p.x, .int p.z]
def sp_ones : Spc := fun ds h R _ => ∃ n : Nat, ds = [.int n] ∧ R (.int (pc n)) h
def sp_weight : Spc := fun ds h R _ => ∃ p : Pa, ds = [p.e] ∧ R (.int p.w) h
def sp_letter : Spc := fun ds h R _ => ∃ (p : Pa) (q : Nat), ds = [p.e, .int q] ∧ R (.str ⟨#[lch (p.x / 2 ^ q) (p.z / 2 ^ q)]⟩) h
def sp_support : Spc := fun ds h R _ => ∃ p : Pa, ds = [p.e] ∧ p.x < 2 ^ 100 ∧ p.z < 2 ^ 100 ∧ R (.lst ((lets (p.x ||| p.z)).map fun q => .int (q : Nat))) h
def sp_commutes : Spc := fun ds h R _ => ∃ p q : Pa, ds = [p.e, q.e] ∧ R (.bl (cmt p q)) h
def sp_product : Spc := fun ds h R _ => ∃ p q : Pa, ds = [p.e, q.e] ∧ p.s < 2 ∧ q.s < 2 ∧ p.z < 2 ^ 100 ∧ R (prd p q).e h
def sp_part : Spc := fun ds h R _ => ∃ (p : Pa) (m : Nat), ds = [p.e, .int m] ∧ R (Pa.e ⟨p.x &&& m, p.z &&& m, 0⟩) h
def sp_shifted : Spc := fun ds h R _ => ∃ (p : Pa) (q : Nat), ds = [p.e, .int q] ∧ p.x < 2 ^ 100 ∧ p.z < 2 ^ 100 ∧ q ≤ 1000 ∧ R (Pa.e ⟨p.x * 2 ^ q, p.z * 2 ^ q, p.s⟩) h
def sp_single : Spc := fun ds h R _ => ∃ (k q : Nat), k < 4 ∧ q ≤ 1000 ∧ ds = [.str ⟨#[lch k (k / 2)]⟩, .int q] ∧ R (sng k q).e h
def sp_rank : Spc := fun ds h R _ => ∃ p : Pa, ds = [p.e] ∧ R (rnk p) h
def w_ones_b1_1 : WS :=
  (wAug 1 opAddI (wC (.int 1)))
def w_ones_b1 : WS :=
  (wSeq (wAug 0 opAnd (wOp opSub (wVar 0) (wC (.int 1))))
  w_ones_b1_1)
def w_ones_t1 : WT :=
  (wB (wVar 0))
def w_ones_2 : WS :=
  (wRet (wVar 1))
def w_ones_1 : WS :=
  (wSeq (wWhile w_ones_t1 w_ones_b1)
  w_ones_2)
def w_ones : WS :=
  (wSeq (wAsg (wC (.int 0)) (gVar 1))
  w_ones_1)
def w_weight : WS :=
  (wRet (wCall sp_ones (wCons (wOp opOr (wIx (wVar 0) (wC (.int 0))) (wIx (wVar 0) (wC (.int 1)))) wNil)))
def w_letter : WS :=
  (wRet (wIx (wC k_NAMES) (wOp opAdd (wOp opAnd (wOp opShr (wIx (wVar 0) (wC (.int 0))) (wVar 1)) (wC (.int 1))) (wOp opMulS (wC (.int 2)) (wOp opAnd (wOp opShr (wIx (wVar 0) (wC (.int 1))) (wVar 1)) (wC (.int 1)))))))
def w_support_1 : WS :=
  (wRet (wLc (wRng1 (wCons (wBits (wVar 1)) wNil)) (gVar 2) (wB (wOp opAnd (wOp opShr (wVar 1) (wVar 2)) (wC (.int 1)))) (wVar 2) [2]))
def w_support : WS :=
  (wSeq (wAsg (wOp opOr (wIx (wVar 0) (wC (.int 0))) (wIx (wVar 0) (wC (.int 1)))) (gVar 1))
  w_support_1)
def w_commutes : WS :=
  (wRet (wOp opEq (wOp opMod (wCall sp_ones (wCons (wOp opAnd (wIx (wVar 0) (wC (.int 0))) (wIx (wVar 1) (wC (.int 1)))) wNil)) (wC (.int 2))) (wOp opMod (wCall sp_ones (wCons (wOp opAnd (wIx (wVar 0) (wC (.int 1))) (wIx (wVar 1) (wC (.int 0)))) wNil)) (wC (.int 2)))))
def w_product_4 : WS :=
  (wRet (wTup (wCons (wVar 2) (wCons (wVar 3) (wCons (wOp opDiv (wVar 4) (wC (.int 2))) wNil)))))
def w_product_3 : WS :=
  (wSeq (wAsg (wOp opMod (wOp opSub (wOp opAdd (wVar 4) (wOp opMulS (wC (.int 2)) (wCall sp_ones (wCons (wOp opAnd (wIx (wVar 0) (wC (.int 1))) (wIx (wVar 1) (wC (.int 0)))) wNil)))) (wCall sp_ones (wCons (wOp opAnd (wVar 2) (wVar 3)) wNil))) (wC (.int 4))) (gVar 4))
  w_product_4)
def w_product_2 : WS :=
  (wSeq (wAsg (wOp opAdd (wOp opAdd (wOp opMulS (wC (.int 2)) (wOp opAdd (wIx (wVar 0) (wC (.int 2))) (wIx (wVar 1) (wC (.int 2))))) (wCall sp_ones (wCons (wOp opAnd (wIx (wVar 0) (wC (.int 0))) (wIx (wVar 0) (wC (.int 1)))) wNil))) (wCall sp_ones (wCons (wOp opAnd (wIx (wVar 1) (wC (.int 0))) (wIx (wVar 1) (wC (.int 1)))) wNil))) (gVar 4))
  w_product_3)
def w_product_1 : WS :=
  (wSeq (wAsg (wOp opXor (wIx (wVar 0) (wC (.int 1))) (wIx (wVar 1) (wC (.int 1)))) (gVar 3))
  w_product_2)
def w_product : WS :=
  (wSeq (wAsg (wOp opXor (wIx (wVar 0) (wC (.int 0))) (wIx (wVar 1) (wC (.int 0)))) (gVar 2))
  w_product_1)
def w_part : WS :=
  (wRet (wTup (wCons (wOp opAnd (wIx (wVar 0) (wC (.int 0))) (wVar 1)) (wCons (wOp opAnd (wIx (wVar 0) (wC (.int 1))) (wVar 1)) (wCons (wC (.int 0)) wNil)))))
def w_shifted : WS :=
  (wRet (wTup (wCons (wOp opShl (wIx (wVar 0) (wC (.int 0))) (wVar 1)) (wCons (wOp opShl (wIx (wVar 0) (wC (.int 1))) (wVar 1)) (wCons (wIx (wVar 0) (wC (.int 2))) wNil)))))
def w_single_1 : WS :=
  (wRet (wTup (wCons (wOp opShl (wOp opAnd (wVar 2) (wC (.int 1))) (wVar 1)) (wCons (wOp opShl (wOp opShr (wVar 2) (wC (.int 1))) (wVar 1)) (wCons (wC (.int 0)) wNil)))))
def w_single : WS :=
  (wSeq (wAsg (wM1 mIndex (wC k_NAMES) (wVar 0)) (gVar 2))
  w_single_1)
def w_rank : WS :=
  (wRet (wTup (wCons (wCall sp_weight (wCons (wVar 0) wNil)) (wCons (wIx (wVar 0) (wC (.int 0))) (wCons (wIx (wVar 0) (wC (.int 1))) wNil)))))
theorem pk_ones : Pk 1 1 sp_ones w_ones := by
  rintro ds h R _ ⟨n, rfl, hR⟩
  refine ⟨pc n + 1, ?_⟩
  have loop : ∀ (k n c : Nat), pc n = k → R (.int ((c + k : Nat) : Int)) h → wWhN w_ones_t1 w_ones_b1 { Fi R with nx := w_ones_2 (Fi R) } (k + 1) ⟨[.f (.int n), .f (.int c)], h⟩ := fun k => by
    induction k with
    | zero =>
      intro n c e hR
      have : n = 0 := by
        rcases Nat.eq_zero_or_pos n with q | q
        · exact q
        · have := pc_pred n q
          omega
      subst this
      exact whn (brF rfl hR)
    | succ k ih =>
      intro n c e hR
      have hn : 0 < n := by
        rcases Nat.eq_zero_or_pos n with q | q
        · subst q
          rw [pc_zero] at e
          omega
        · exact q
      have hp := pc_pred n hn
      refine whn (brT (by simpa using (show n ≠ 0 by omega)) ?_)
      have e1 : Builtin.bitAnd (n : Int) ((n : Int) - 1) = ((n &&& (n - 1) : Nat) : Int) := by
        rw [show (n : Int) - 1 = ((n - 1 : Nat) : Int) by omega, and_nn]
      have x := ih (n &&& (n - 1)) (c + 1) (by omega) (by rw [show c + 1 + k = c + (k + 1) by omega]; exact hR)
      rw [← e1] at x
      exact x
  exact loop (pc n) n 0 rfl (by rw [Nat.zero_add]; exact hR)
theorem pk_weight : Pk 1 0 sp_weight w_weight := by
  rintro ds h R _ ⟨p, rfl, hR⟩
  exact ⟨_, rfl, _, rfl, _, by rw [or_nn], hR⟩
end VL.P

set_option Elab.async false
set_option linter.all false
set_option maxRecDepth 100000
set_option maxHeartbeats 4000000
namespace VL.P
open PySem PySem.Spec PyProof.Rows L2 VL
theorem line4 : (4 : Nat) ≤ sizeLine := by decide
theorem cmul2 (i : Nat) (h : i < 2) : CMulX 2 (i : Int) := cmul 2 1 (by decide) (by omega) (by decide)
theorem pk_letter : Pk 2 0 sp_letter w_letter := by
  rintro ds h R _ ⟨p, q, rfl, hR⟩
  have h1 := Nat.mod_lt (p.x / 2 ^ q) (show 0 < 2 by decide)
  have h2 := Nat.mod_lt (p.z / 2 ^ q) (show 0 < 2 by decide)
  unfold lch at hR
  refine ⟨_, rfl, Int.natCast_nonneg q, _, rfl, Int.natCast_nonneg q, ?_, line4, ?_⟩
  · show CMulX 2 (Builtin.bitAnd ((p.z : Int) / 2 ^ (q : Int).toNat) 1)
    rw [shr_nn, and1_nn]
    exact cmul2 _ h2
  · show ∃ c, atI [73, 88, 90, 89] (Builtin.bitAnd ((p.x : Int) / 2 ^ (q : Int).toNat) 1 + 2 * Builtin.bitAnd ((p.z : Int) / 2 ^ (q : Int).toNat) 1) = some c ∧ R (.str ⟨#[c]⟩) h
    rw [shr_nn, and1_nn, shr_nn, and1_nn]
    rcases m2 _ h1 with e | e <;> rcases m2 _ h2 with e' | e' <;> (rw [e, e'] at hR ⊢; exact ⟨_, rfl, hR⟩)
theorem pk_commutes : Pk 2 0 sp_commutes w_commutes := by
  rintro ds h R _ ⟨p, q, rfl, hR⟩
  refine ⟨_, rfl, _, rfl, _, by rw [and_nn], by decide, _, rfl, _, rfl, _, by rw [and_nn], by decide, ?_⟩
  have e : ∀ a b : Nat, ((((a : Nat) : Int) % 2 == ((b : Nat) : Int) % 2) = (a % 2 == b % 2)) := fun a b => by
    rw [Bool.eq_iff_iff, beq_iff_eq, beq_iff_eq]
    omega
  show R (.bl ((((pc (p.x &&& q.z) : Nat) : Int) % 2 == ((pc (p.z &&& q.x) : Nat) : Int) % 2))) h
  rw [e]
  exact hR
theorem pk_rank : Pk 1 0 sp_rank w_rank := by
  rintro ds h R _ ⟨p, rfl, hR⟩
  exact ⟨p, rfl, _, rfl, _, rfl, hR⟩
theorem pk_part : Pk 2 0 sp_part w_part := by
  rintro ds h R _ ⟨p, m, rfl, hR⟩
  refine ⟨_, rfl, _, rfl, ?_⟩
  show R (.tup [.int (Builtin.bitAnd p.x m), .int (Builtin.bitAnd p.z m), .int 0]) h
  rw [and_nn, and_nn]
  exact hR
theorem pk_shifted : Pk 2 0 sp_shifted w_shifted := by
  rintro ds h R _ ⟨p, q, rfl, h1, h2, h3, hR⟩
  refine ⟨_, rfl, shl_ok (n := 100) (by simpa using h1) (by omega), _, rfl, shl_ok (n := 100) (by simpa using h2) (by omega), _, rfl, ?_⟩
  show R (.tup [.int ((p.x : Int) * 2 ^ (q : Int).toNat), .int ((p.z : Int) * 2 ^ (q : Int).toNat), .int p.s]) h
  rw [shl_nn, shl_nn]
  exact hR
theorem pk_single : Pk 2 1 sp_single w_single := by
  rintro ds h R _ ⟨k, q, hk, hq, rfl, hR⟩
  have c : k = 0 ∨ k = 1 ∨ k = 2 ∨ k = 3 := by omega
  have key : ∀ (c i j m : Nat), i < 2 → j < 2 → Builtin.Str.occurrences (Str.ofString "IXZY") ⟨#[c]⟩ 0 (Str.ofString "IXZY").length 1 = m :: [] → Builtin.bitAnd (m : Nat) 1 = (i : Nat) → ((m : Nat) : Int) / 2 ^ (1 : Int).toNat = (j : Nat) →
      R (Pa.e ⟨i * 2 ^ q, j * 2 ^ q, 0⟩) h → w_single (Fi R) ⟨[.f (.str ⟨#[c]⟩), .f (.int q), .u], h⟩ := fun c i j m hi hj ho e1 e2 hR => by
    refine ⟨m, _, ho, ?_, by decide, ?_, ?_⟩
    · show CShl (Builtin.bitAnd (m : Nat) 1) (q : Int)
      rw [e1]
      exact shl_ok (n := 1) (by omega) (by omega)
    · show CShl (((m : Nat) : Int) / 2 ^ (1 : Int).toNat) (q : Int)
      rw [e2]
      exact shl_ok (n := 1) (by omega) (by omega)
    · show R (.tup [.int (Builtin.bitAnd (m : Nat) 1 * 2 ^ (q : Int).toNat), .int (((m : Nat) : Int) / 2 ^ (1 : Int).toNat * 2 ^ (q : Int).toNat), .int 0]) h
      rw [e1, e2, shl_nn, shl_nn]
      exact hR
  rcases c with rfl | rfl | rfl | rfl
  · exact key 73 0 0 0 (by decide) (by decide) (by decide +kernel) (by decide +kernel) (by decide) hR
  · exact key 88 1 0 1 (by decide) (by decide) (by decide +kernel) (by decide +kernel) (by decide) hR
  · exact key 90 0 1 2 (by decide) (by decide) (by decide +kernel) (by decide +kernel) (by decide) hR
  · exact key 89 1 1 3 (by decide) (by decide) (by decide +kernel) (by decide +kernel) (by decide) hR
end VL.P

set_option Elab.async false
set_option linter.all false
set_option maxRecDepth 100000
set_option maxHeartbeats 4000000
namespace VL.P
open PySem PySem.Spec PyProof.Rows L2 VL
theorem pc_le (n : Nat) : pc n ≤ n := by
  induction n using Nat.strongRecOn with
  | ind n ih =>
    rw [pc_step]
    by_cases h : n = 0
    · subst h; exact Nat.le_refl _
    · have := ih (n / 2) (by omega)
      omega
theorem trn_nn (p q : Pa) : 0 ≤ trn p q / 2 := Int.ediv_nonneg (Int.emod_nonneg _ (by decide)) (by decide)
theorem trn_lt (p q : Pa) : trn p q < 4 := Int.emod_lt_of_pos _ (by decide)
theorem prd_s (p q : Pa) : (prd p q).s < 2 := by
  have := trn_lt p q
  have := trn_nn p q
  show (trn p q / 2).toNat < 2
  omega
theorem pk_product : Pk 2 3 sp_product w_product := by
  rintro ds h R _ ⟨p, q, rfl, hp, hq, hz, hR⟩
  refine ⟨_, rfl, _, rfl, ?_⟩
  change w_product_1 (Fi R) ⟨[.f p.e, .f q.e, .f (.int (Builtin.bitXor p.x q.x)), .u, .u], h⟩
  rw [xor_nn]
  refine ⟨_, rfl, _, rfl, ?_⟩
  change w_product_2 (Fi R) ⟨[.f p.e, .f q.e, .f (.int ((p.x ^^^ q.x : Nat) : Int)), .f (.int (Builtin.bitXor p.z q.z)), .u], h⟩
  rw [xor_nn]
  refine ⟨_, rfl, _, rfl, cmul 2 2 (by decide) (by omega) (by decide), _, rfl, _, rfl, p.x &&& p.z, by rw [and_nn], _, rfl, _, rfl, q.x &&& q.z, by rw [and_nn], ?_⟩
  change w_product_3 (Fi R) ⟨[.f p.e, .f q.e, .f (.int ((p.x ^^^ q.x : Nat) : Int)), .f (.int ((p.z ^^^ q.z : Nat) : Int)), .f (.int (2 * ((p.s : Int) + q.s) + pc (p.x &&& p.z) + pc (q.x &&& q.z)))], h⟩
  have hb : pc (p.z &&& q.x) < 2 ^ 100 := Nat.lt_of_le_of_lt (Nat.le_trans (pc_le _) Nat.and_le_left) hz
  refine ⟨_, rfl, _, rfl, p.z &&& q.x, by rw [and_nn], cmul 2 100 (by decide) (by simpa using hb) (by decide), (p.x ^^^ q.x) &&& (p.z ^^^ q.z), by rw [and_nn], by decide, ?_⟩
  change w_product_4 (Fi R) ⟨[.f p.e, .f q.e, .f (.int ((p.x ^^^ q.x : Nat) : Int)), .f (.int ((p.z ^^^ q.z : Nat) : Int)), .f (.int (trn p q))], h⟩
  refine ⟨cdiv2, ?_⟩
  change R (.tup [.int ((p.x ^^^ q.x : Nat) : Int), .int ((p.z ^^^ q.z : Nat) : Int), .int (trn p q / 2)]) h
  have e : trn p q / 2 = ((prd p q).s : Int) := by
    show _ = (((trn p q / 2).toNat : Nat) : Int)
    have := trn_nn p q
    omega
  rw [e]
  exact hR
/-- a comprehension whose steps are plain -/
theorem lcL_run {g : WG} {tt : WT} {te : WE} {vs : List Nat} {s0 : List Sl} {R : List D → Oh → Prop} {h : Oh} (step : D → Option D) : ∀ (xs acc : List D),
    (∀ x ∈ xs, ∀ C : Option D → Oh → Prop, C (step x) h → g x ⟨wipeS s0 vs, h⟩ fun S1 => tt S1 fun b S2 => Br b (te S2 fun d S3 => wipeS S3.s vs = wipeS s0 vs ∧ C (some d) S3.h) (wipeS S2.s vs = wipeS s0 vs ∧ C none S2.h)) →
    R (acc ++ xs.filterMap step) h → wLcL g tt te vs s0 R xs h acc
  | [], acc, _, hR => by rw [List.filterMap_nil, List.append_nil] at hR; exact hR
  | x :: xs, acc, hs, hR => by
    have ih := fun a => lcL_run (g := g) (tt := tt) (te := te) (vs := vs) (s0 := s0) (R := R) (h := h) step xs a fun y hy => hs y (List.mem_cons_of_mem _ hy)
    refine hs x List.mem_cons_self (fun o h' => wLcL g tt te vs s0 R xs h' (match o with | some d => acc ++ [d] | none => acc)) ?_
    cases e : step x with
    | none =>
      rw [List.filterMap_cons, e] at hR
      exact ih acc hR
    | some d =>
      rw [List.filterMap_cons, e] at hR
      refine ih (acc ++ [d]) ?_
      rw [List.append_assoc]
      exact hR
/-- of whole numbers, those with p -/
def keepI (p : Nat → Bool) : D → Option D
  | .int i => if p i.toNat then some (.int i) else none
  | _ => none
theorem fm_range (l : List Nat) (p : Nat → Bool) : (l.map fun k => D.int (k : Nat)).filterMap (keepI p) = (l.filter p).map fun q => D.int (q : Nat) := by
  induction l with
  | nil => rfl
  | cons a l ih =>
    have e : keepI p (.int (a : Nat)) = if p a then some (.int (a : Nat)) else none := rfl
    rw [List.map_cons, List.filterMap_cons, ih, e, List.filter_cons]
    cases p a <;> rfl
theorem pk_support : Pk 1 2 sp_support w_support := by
  rintro ds h R _ ⟨p, rfl, hx, hz, hR⟩
  refine ⟨_, rfl, _, rfl, ?_⟩
  change w_support_1 (Fi R) ⟨[.f p.e, .f (.int (Builtin.bitOr p.x p.z)), .u], h⟩
  rw [or_nn]
  unfold lets at hR
  have hm : (p.x ||| p.z) < 2 ^ 100 := Nat.or_lt_two_pow hx hz
  generalize p.x ||| p.z = m at hR hm
  have hb : (if m = 0 then 0 else m.log2 + 1) ≤ 100 := by
    split
    · omega
    · rename_i hne
      have := (Nat.log2_lt hne).mpr hm
      omega
  have e1 : ((Builtin.Int.intBits (m : Int) : Nat) : Int).toNat = (if m = 0 then 0 else m.log2 + 1) := by rw [bits_nn, Int.toNat_natCast]
  have e2 : (Builtin.Int.intBits (m : Int) : Nat) ≤ 100 := by rw [bits_nn]; exact hb
  refine ⟨⟨by omega, by omega⟩, rfl, ?_, ?_⟩
  · show ((List.range ((Builtin.Int.intBits (m : Int) : Nat) : Int).toNat).map _).length ≤ 1000000
    rw [List.length_map, List.length_range, e1]
    omega
  · refine lcL_run (keepI fun q => m / 2 ^ q % 2 == 1) _ _ (fun x hx C hC => ?_) ?_
    · obtain ⟨q, hq, rfl⟩ := List.mem_map.mp hx
      refine ⟨Int.natCast_nonneg q, ?_⟩
      have hC' : C (if (m / 2 ^ q % 2 == 1) then some (.int (q : Nat)) else none) h := hC
      show Br ((Builtin.bitAnd ((m : Int) / 2 ^ (q : Int).toNat) 1) != 0) _ _
      rw [shr_nn, and1_nn]
      rcases m2 _ (Nat.mod_lt (m / 2 ^ q) (show 0 < 2 by decide)) with e | e
      · rw [e] at hC' ⊢
        exact brF rfl ⟨rfl, hC'⟩
      · rw [e] at hC' ⊢
        exact brT rfl ⟨rfl, hC'⟩
    · show R (.lst ([] ++ List.filterMap _ ((List.range ((Builtin.Int.intBits (m : Int) : Nat) : Int).toNat).map _))) h
      rw [e1, List.nil_append, fm_range _ fun q => m / 2 ^ q % 2 == 1]
      exact hR
end VL.P

set_option Elab.async false
set_option linter.all false
set_option maxRecDepth 100000
set_option maxHeartbeats 400000
/-! VC0: sums of masks (spans), and taking leading bits away -/
namespace VL.C
open VL VL.P
/-- all sums: the list grows by each row -/
def spg {α : Type} (f : α → α → α) : List α → List α → List α
  | acc, [] => acc
  | acc, v :: l => spg f (acc ++ acc.map (f v)) l
def spN (l : List Nat) : List Nat := spg (· ^^^ ·) [0] l
inductive Sp (l : List Nat) : Nat → Prop
  | zero : Sp l 0
  | add {v u : Nat} : v ∈ l → Sp l u → Sp l (v ^^^ u)
theorem xx_cancel (a b : Nat) : a ^^^ (a ^^^ b) = b := by rw [← Nat.xor_assoc, Nat.xor_self, Nat.zero_xor]
theorem xx_left (a b c : Nat) : a ^^^ (b ^^^ c) = b ^^^ (a ^^^ c) := by rw [← Nat.xor_assoc, Nat.xor_comm a b, Nat.xor_assoc]
theorem Sp.mono {l l' : List Nat} (h : ∀ v ∈ l, v ∈ l') {u : Nat} (s : Sp l u) : Sp l' u := by
  induction s with
  | zero => exact .zero
  | add hv _ ih => exact .add (h _ hv) ih
theorem Sp.xor {l : List Nat} {a b : Nat} (s : Sp l a) (t : Sp l b) : Sp l (a ^^^ b) := by
  induction s with
  | zero => rw [Nat.zero_xor]; exact t
  | add hv _ ih => rw [Nat.xor_assoc]; exact .add hv ih
theorem Sp.one {l : List Nat} {v : Nat} (h : v ∈ l) : Sp l v := by
  have := Sp.add h (Sp.zero (l := l))
  rwa [Nat.xor_zero] at this
theorem Sp.cons {l : List Nat} {v s : Nat} : Sp (v :: l) s ↔ Sp l s ∨ Sp l (v ^^^ s) := by
  constructor
  · intro h
    induction h with
    | zero => exact .inl .zero
    | add hw _ ih =>
      rename_i w u _
      rcases List.mem_cons.mp hw with rfl | hw
      · rcases ih with ih | ih
        · exact .inr (by rw [xx_cancel]; exact ih)
        · exact .inl ih
      · rcases ih with ih | ih
        · exact .inl (.add hw ih)
        · exact .inr (by rw [xx_left]; exact .add hw ih)
  · rintro (h | h)
    · exact h.mono fun _ hx => List.mem_cons_of_mem _ hx
    · have := Sp.add (l := v :: l) (v := v) List.mem_cons_self (h.mono fun _ hx => List.mem_cons_of_mem _ hx)
      rwa [xx_cancel] at this
theorem Sp.nil {s : Nat} (h : Sp [] s) : s = 0 := by
  cases h with
  | zero => rfl
  | add hv => cases hv
theorem mem_spg : ∀ (l acc : List Nat) (u : Nat), u ∈ spg (· ^^^ ·) acc l ↔ ∃ a ∈ acc, ∃ s, Sp l s ∧ u = s ^^^ a
  | [], acc, u => by
    constructor
    · intro h
      exact ⟨u, h, 0, .zero, by rw [Nat.zero_xor]⟩
    · rintro ⟨a, ha, s, hs, rfl⟩
      rw [Sp.nil hs, Nat.zero_xor]
      exact ha
  | v :: l, acc, u => by
    show u ∈ spg (· ^^^ ·) (acc ++ acc.map (v ^^^ ·)) l ↔ _
    rw [mem_spg l]
    constructor
    · rintro ⟨a, ha, s, hs, rfl⟩
      rcases List.mem_append.mp ha with h | h
      · exact ⟨a, h, s, Sp.cons.mpr (.inl hs), rfl⟩
      · obtain ⟨b, hb, rfl⟩ := List.mem_map.mp h
        exact ⟨b, hb, v ^^^ s, Sp.cons.mpr (.inr (by rw [xx_cancel]; exact hs)), by rw [Nat.xor_assoc, xx_left]⟩
    · rintro ⟨a, ha, s, hs, rfl⟩
      rcases Sp.cons.mp hs with h | h
      · exact ⟨a, List.mem_append_left _ ha, s, h, rfl⟩
      · exact ⟨v ^^^ a, List.mem_append_right _ (List.mem_map.mpr ⟨a, ha, rfl⟩), v ^^^ s, h, by rw [xx_left, ← Nat.xor_assoc, xx_cancel]⟩
theorem mem_spN {l : List Nat} {u : Nat} : u ∈ spN l ↔ Sp l u := by
  unfold spN
  rw [mem_spg]
  constructor
  · rintro ⟨a, ha, s, hs, rfl⟩
    rw [List.mem_singleton.mp ha, Nat.xor_zero]
    exact hs
  · intro h
    exact ⟨0, List.mem_singleton.mpr rfl, u, h, by rw [Nat.xor_zero]⟩
theorem spg_app {α : Type} (f : α → α → α) : ∀ (l r acc : List α), spg f acc (l ++ r) = spg f (spg f acc l) r
  | [], r, acc => rfl
  | v :: l, r, acc => spg_app f l r _
theorem spN_snoc (l : List Nat) (v : Nat) : spN (l ++ [v]) = spN l ++ (spN l).map (v ^^^ ·) := by
  unfold spN
  rw [spg_app]
  rfl
theorem nodup_snoc {l : List Nat} {v : Nat} : (spN (l ++ [v])).Nodup ↔ (spN l).Nodup ∧ ¬ Sp l v := by
  rw [spN_snoc, List.nodup_append]
  constructor
  · rintro ⟨h1, h2, h3⟩
    refine ⟨h1, fun hv => ?_⟩
    have z1 : v ∈ spN l := mem_spN.mpr hv
    have z2 : v ∈ (spN l).map (v ^^^ ·) := List.mem_map.mpr ⟨0, mem_spN.mpr .zero, by rw [Nat.xor_zero]⟩
    exact h3 v z1 v z2 rfl
  · rintro ⟨h1, h2⟩
    refine ⟨h1, ?_, ?_⟩
    · refine List.Pairwise.map _ (fun a b hab => ?_) h1
      intro e
      have := congrArg (v ^^^ ·) e
      simp only [xx_cancel] at this
      exact hab this
    · rintro a ha b hb rfl
      obtain ⟨c, hc, e⟩ := List.mem_map.mp hb
      refine h2 ?_
      have := (mem_spN.mp ha).xor (mem_spN.mp hc)
      rw [← e, Nat.xor_assoc, Nat.xor_self, Nat.xor_zero] at this
      exact this
theorem spg_pre {α : Type} (f : α → α → α) : ∀ (l acc : List α), ∃ r, spg f acc l = acc ++ r
  | [], acc => ⟨[], by simp [spg]⟩
  | v :: l, acc => by
    obtain ⟨r, h⟩ := spg_pre f l (acc ++ acc.map (f v))
    exact ⟨acc.map (f v) ++ r, by show spg f (acc ++ acc.map (f v)) l = _; rw [h, List.append_assoc]⟩
theorem nodup_pre {l r : List Nat} (h : (spN (l ++ r)).Nodup) : (spN l).Nodup := by
  unfold spN at h ⊢
  rw [spg_app] at h
  obtain ⟨t, e⟩ := spg_pre (α := Nat) (· ^^^ ·) r (spg (· ^^^ ·) [0] l)
  rw [e] at h
  exact (List.nodup_append.mp h).1
/-! ### leading bits -/
theorem lead_bit {n : Nat} (h : n ≠ 0) : n.testBit n.log2 = true := by
  have h1 := Nat.log2_self_le h
  have h2 := @Nat.lt_log2_self n
  rw [Nat.testBit_eq_decide_div_mod_eq, decide_eq_true_eq]
  have : n / 2 ^ n.log2 = 1 := by
    apply Nat.div_eq_of_lt_le
    · rw [Nat.one_mul]; exact h1
    · rw [Nat.pow_succ] at h2
      omega
  rw [this]
theorem high_bit {n j : Nat} (h : n.log2 < j) : n.testBit j = false := by
  refine Nat.testBit_lt_two_pow ?_
  by_cases hn : n = 0
  · subst hn; exact Nat.pow_pos (by decide)
  · exact (Nat.log2_lt hn).mp h
theorem tb_lt {a b : Nat} (i : Nat) (h1 : a.testBit i = false) (h2 : b.testBit i = true) (h : ∀ j, i < j → a.testBit j = b.testBit j) : a < b := by
  have e : a / 2 ^ (i + 1) = b / 2 ^ (i + 1) := Nat.eq_of_testBit_eq fun j => by
    rw [Nat.testBit_div_two_pow, Nat.testBit_div_two_pow]
    exact h _ (by omega)
  rw [Nat.testBit_eq_decide_div_mod_eq, decide_eq_false_iff_not] at h1
  rw [Nat.testBit_eq_decide_div_mod_eq, decide_eq_true_eq] at h2
  rw [Nat.pow_succ, ← Nat.div_div_eq_div_mul, ← Nat.div_div_eq_div_mul] at e
  have lt : a / 2 ^ i < b / 2 ^ i := by omega
  exact Nat.lt_of_not_le fun hle => by
    have := Nat.div_le_div_right (c := 2 ^ i) hle
    omega
/-- the lesser of a and a + r -/
def mn (a r : Nat) : Nat := if a ^^^ r < a then a ^^^ r else a
theorem mn_or (a r : Nat) : mn a r = a ∨ mn a r = a ^^^ r := by
  unfold mn
  split
  · exact .inr rfl
  · exact .inl rfl
theorem mn_bit {a r : Nat} (h : r ≠ 0) : (mn a r).testBit r.log2 = false := by
  have hl := lead_bit h
  have hx : (a ^^^ r).testBit r.log2 = !(a.testBit r.log2) := by rw [Nat.testBit_xor, hl]; cases a.testBit r.log2 <;> rfl
  have hh : ∀ j, r.log2 < j → (a ^^^ r).testBit j = a.testBit j := fun j hj => by rw [Nat.testBit_xor, high_bit hj]; cases a.testBit j <;> rfl
  unfold mn
  cases q : a.testBit r.log2 with
  | true =>
    rw [q] at hx
    rw [if_pos (tb_lt r.log2 hx q fun j hj => hh j hj)]
    exact hx
  | false =>
    rw [q] at hx
    rw [if_neg (Nat.not_lt_of_gt (tb_lt r.log2 q hx fun j hj => (hh j hj).symm))]
    exact q
theorem mn_high {a r j : Nat} (h : r.log2 < j) : (mn a r).testBit j = a.testBit j := by
  rcases mn_or a r with e | e
  · rw [e]
  · rw [e, Nat.testBit_xor, high_bit h]; cases a.testBit j <;> rfl
/-- rows with leading bits, descending -/
structure Bas (R : List Nat) : Prop where
  nz : ∀ r ∈ R, r ≠ 0
  ld : R.Pairwise fun a b => b.log2 < a.log2
def red (R : List Nat) (v : Nat) : Nat := R.foldl mn v
theorem red_high : ∀ (R : List Nat) (v j : Nat), (∀ r ∈ R, r.log2 < j) → (red R v).testBit j = v.testBit j
  | [], _, _, _ => rfl
  | r :: R, v, j, h => by
    show (red R (mn v r)).testBit j = _
    rw [red_high R _ j fun x hx => h x (List.mem_cons_of_mem _ hx), mn_high (h r List.mem_cons_self)]
theorem red_bits : ∀ (R : List Nat) (v : Nat), Bas R → (∀ r ∈ R, (red R v).testBit r.log2 = false) ∧ Sp R (v ^^^ red R v)
  | [], v, _ => by
    refine ⟨fun r h => (by cases h), ?_⟩
    show Sp [] (v ^^^ v)
    rw [Nat.xor_self]
    exact .zero
  | r :: R, v, b => by
    have b2 := List.pairwise_cons.mp b.ld
    obtain ⟨h1, h2⟩ := red_bits R (mn v r) ⟨fun x hx => b.nz x (List.mem_cons_of_mem _ hx), b2.2⟩
    refine ⟨fun x hx => ?_, ?_⟩
    · show (red R (mn v r)).testBit x.log2 = false
      rcases List.mem_cons.mp hx with rfl | hx
      · rw [red_high R _ _ b2.1]
        exact mn_bit (b.nz _ List.mem_cons_self)
      · exact h1 x hx
    · show Sp (r :: R) (v ^^^ red R (mn v r))
      have h3 : Sp (r :: R) (mn v r ^^^ red R (mn v r)) := h2.mono fun _ hx => List.mem_cons_of_mem _ hx
      have h4 : Sp (r :: R) (v ^^^ mn v r) := by
        rcases mn_or v r with e | e
        · rw [e, Nat.xor_self]; exact .zero
        · rw [e, xx_cancel]; exact .one List.mem_cons_self
      have := h4.xor h3
      rwa [Nat.xor_assoc, xx_cancel] at this
theorem Sp.lt {R : List Nat} {k u : Nat} (h : ∀ r ∈ R, r < 2 ^ k) (s : Sp R u) : u < 2 ^ k := by
  induction s with
  | zero => exact Nat.pow_pos (by decide)
  | add hv _ ih => exact Nat.xor_lt_two_pow (h _ hv) ih
theorem bas_zero : ∀ (R : List Nat) (u : Nat), Bas R → Sp R u → (∀ r ∈ R, u.testBit r.log2 = false) → u = 0
  | [], u, _, s, _ => s.nil
  | r :: R, u, b, s, h => by
    have b2 := List.pairwise_cons.mp b.ld
    rcases Sp.cons.mp s with s | s
    · exact bas_zero R u ⟨fun x hx => b.nz x (List.mem_cons_of_mem _ hx), b2.2⟩ s fun x hx => h x (List.mem_cons_of_mem _ hx)
    · have hlt : r ^^^ u < 2 ^ r.log2 := s.lt fun x hx => by
        have h1 := b2.1 x hx
        exact (Nat.log2_lt (b.nz x (List.mem_cons_of_mem _ hx))).mp h1
      have h1 := Nat.testBit_lt_two_pow hlt
      rw [Nat.testBit_xor, lead_bit (b.nz r List.mem_cons_self), h r List.mem_cons_self] at h1
      cases h1
theorem red_zero {R : List Nat} {v : Nat} (b : Bas R) : red R v = 0 ↔ Sp R v := by
  obtain ⟨h1, h2⟩ := red_bits R v b
  constructor
  · intro e
    rw [e, Nat.xor_zero] at h2
    exact h2
  · intro s
    have h3 := s.xor h2
    rw [xx_cancel] at h3
    exact bas_zero R _ b h3 h1
theorem bas_more {R R' : List Nat} {v : Nat} (b : Bas R) (hn : red R v ≠ 0) (hp : R'.Perm (R ++ [red R v])) (hs : R'.Pairwise (· ≥ ·)) : Bas R' ∧ ∀ u, Sp R' u ↔ Sp R u ∨ Sp R (v ^^^ u) := by
  obtain ⟨h1, h2⟩ := red_bits R v b
  have ne : (R ++ [red R v]).Pairwise fun a b => a.log2 ≠ b.log2 := by
    refine List.pairwise_append.mpr ⟨b.ld.imp fun h => by omega, List.pairwise_singleton _ _, fun a ha c hc e => ?_⟩
    rw [List.mem_singleton.mp hc] at e
    have z := h1 a ha
    rw [e, lead_bit hn] at z
    cases z
  have ne' : R'.Pairwise fun a b => a.log2 ≠ b.log2 := (hp.pairwise_iff fun {a b} h => Ne.symm h).mpr ne
  have nz' : ∀ r ∈ R', r ≠ 0 := fun r hr => by
    rcases List.mem_append.mp (hp.mem_iff.mp hr) with z | z
    · exact b.nz r z
    · rw [List.mem_singleton.mp z]; exact hn
  refine ⟨⟨nz', (ne'.and hs).imp_of_mem fun {a c} ha hc h => ?_⟩, fun u => ?_⟩
  · have h3 : c.log2 ≤ a.log2 := by
      have hc0 := nz' c hc
      have ha0 := nz' a ha
      rw [Nat.le_log2 ha0]
      exact Nat.le_trans (Nat.log2_self_le hc0) h.2
    have := h.1
    omega
  · have e1 : Sp R' u ↔ Sp (red R v :: R) u := ⟨fun s => s.mono fun x hx => by
      rcases List.mem_append.mp (hp.mem_iff.mp hx) with z | z
      · exact List.mem_cons_of_mem _ z
      · rw [List.mem_singleton.mp z]; exact List.mem_cons_self, fun s => s.mono fun x hx => hp.mem_iff.mpr (by
      rcases List.mem_cons.mp hx with rfl | z
      · exact List.mem_append_right _ (List.mem_singleton.mpr rfl)
      · exact List.mem_append_left _ z)⟩
    rw [e1, Sp.cons]
    have e2 : Sp R (red R v ^^^ u) ↔ Sp R (v ^^^ u) := ⟨fun s => by
      have := h2.xor s
      rwa [Nat.xor_assoc, xx_cancel] at this, fun s => by
      have := h2.xor s
      rw [Nat.xor_comm v (red R v), Nat.xor_assoc, xx_cancel] at this
      exact this⟩
    rw [e2]
end VL.C

set_option Elab.async false
set_option linter.all false
set_option maxRecDepth 100000
set_option maxHeartbeats 400000
/-! VTs: the tape's step, where * serves texts too -/
namespace VL
open PySem PySem.Spec PyProof.Rows L2
def w_nextS_6 : WS :=
  (wRet (wOp opMod (wCB bInt (wCons (wOp opDiv (wOp opMod (wOp opMulS (wIx (wVar 0) (wC (.int 3))) (wC (.int 16807))) (wC (.int 2147483647))) (wC (.int 7))) wNil)) (wVar 1)))
def w_nextS_5 : WS :=
  (wSeq (wAsg (wOp opMod (wCB bInt (wCons (wOp opAdd (wOp opAdd (wOp opMulS (wIx (wVar 0) (wC (.int 3))) (wC (.int 48271))) (wOp opMulS (wVar 3) (wC (.int 69621)))) (wC (.int 11))) wNil)) (wC (.int 2147483647))) (gIxM (wVar 0) (wC (.int 3))))
  w_nextS_6)
def w_nextS_4 : WS :=
  (wSeq (wIfS (wBb (wOp opGe (wVar 3) (wOp opPow (wC (.int 10)) (wC (.int 18))))) (wSeq (wAsg (wOp opDiv (wVar 3) (wVar 1)) (gIxM (wVar 0) (wC (.int 2))))
  (wRet (wOp opMod (wCB bInt (wCons (wVar 3) wNil)) (wVar 1)))) wNext)
  w_nextS_5)
def w_nextS_3 : WS :=
  (wSeq (wIfS (wBb (wOp opLt (wIx (wVar 0) (wC (.int 1))) (wCB bLen (wCons (wIx (wVar 0) (wC (.int 0))) wNil)))) (wSeq (wAsg (wCB bAbs (wCons (wIx (wIx (wVar 0) (wC (.int 0))) (wIx (wVar 0) (wC (.int 1)))) wNil)) (gVar 3))
  (wAugM (wVar 0) (wC (.int 1)) opAddI (wC (.int 1)))) wNext)
  w_nextS_4)
def w_nextS_2 : WS :=
  (wSeq (wAsg (wC (.int 0)) (gVar 3))
  w_nextS_3)
def w_nextS_1 : WS :=
  (wSeq (wIfS (wBb (wOp opGt (wVar 2) (wC (.int 0)))) (wSeq (wAsg (wOp opDiv (wVar 2) (wVar 1)) (gIxM (wVar 0) (wC (.int 2))))
  (wRet (wOp opMod (wCB bInt (wCons (wVar 2) wNil)) (wVar 1)))) wNext)
  w_nextS_2)
def w_nextS : WS :=
  (wSeq (wAsg (wIx (wVar 0) (wC (.int 2))) (gVar 2))
  w_nextS_1)
theorem pk_nextS : Pk 2 2 sp_next w_nextS := by
  intro ds h R _ q
  obtain ⟨a, m, rfl, ⟨ns, i, r, s, hT, hn, hi, hr, hs, hs2⟩, hm, hm2, hR⟩ := sp_next_out q
  refine ⟨_, _, hT, rfl, ?_⟩
  refine br (fun e => ?_) (fun e => ?_)
  · refine ⟨cdiv hm hm2, a, _, 2, 2, rfl, rfl, hT, rfl, hm, ?_⟩
    refine hR _ _ (Int.emod_nonneg _ (by omega)) (Int.emod_lt_of_pos _ hm) ⟨ns, i, r / m, s, Oh.put_same, hn, hi, Int.ediv_nonneg hr (by omega), hs, hs2⟩ (But.put _ _ _)
  -- the rest, from any cell
  have rest : ∀ (h1 : Oh) (i1 c : Int), 0 ≤ c → h1 a = some (.ml [.lst (ns.map .int), .int i1, .int r, .int s]) → 0 ≤ i1 → But a h h1 →
      w_nextS_4 (Fi R) ⟨[.f (.obj a), .f (.int m), .f (.int r), .f (.int c)], h1⟩ := fun h1 i1 c hc hT1 hi1 hb => by
    refine ⟨⟨by decide, by decide, by decide⟩, ?_⟩
    refine br (fun e2 => ?_) (fun e2 => ?_)
    · refine ⟨cdiv hm hm2, a, _, 2, 2, rfl, rfl, hT1, rfl, hm, ?_⟩
      refine hR _ _ (Int.emod_nonneg _ (by omega)) (Int.emod_lt_of_pos _ hm) ⟨ns, i1, c / m, s, Oh.put_same, hn, hi1, Int.ediv_nonneg hc (by omega), hs, hs2⟩ (hb.trans (But.put _ _ _))
    · have hc2 : c < 10 ^ 18 := by
        have := of_decide_eq_false e2
        have e3 : ((10 : Int) ^ (18 : Int).toNat) = 10 ^ 18 := rfl
        rw [e3] at this
        omega
      refine ⟨_, _, hT1, rfl, cmul 32 17 (by omega) (by decide) (by decide), cmul 60 18 (by omega) (by decide) (by decide), ?_⟩
      refine ⟨(by decide : (0 : Int) < 2147483647), a, _, 3, 3, rfl, rfl, hT1, rfl, ?_⟩
      have b1 : 0 ≤ (s * 48271 + c * 69621 + 11) % 2147483647 := Int.emod_nonneg _ (by decide)
      have b2 : (s * 48271 + c * 69621 + 11) % 2147483647 < 2147483647 := Int.emod_lt_of_pos _ (by decide)
      refine ⟨_, _, Oh.put_same, rfl, cmul 32 17 (by omega) (by decide) (by decide), (by decide : (0 : Int) < 2147483647), wide_div (b := 4) (by decide) (by decide) (by decide) (by decide), hm, ?_⟩
      exact hR _ _ (Int.emod_nonneg _ (by omega)) (Int.emod_lt_of_pos _ hm) ⟨ns, i1, r, _, Oh.put_same, hn, hi1, hr, b1, b2⟩ (hb.trans (But.put _ _ _))
  refine ⟨_, _, hT, rfl, _, _, hT, rfl, ?_⟩
  refine br (fun e2 => ?_) (fun e2 => ?_)
  · have e3 : i < ns.length := by
      have := of_decide_eq_true e2
      rw [List.length_map] at this
      exact this
    obtain ⟨x, hx, ha⟩ := atI_map (f := D.int) hi e3
    refine ⟨_, _, hT, rfl, _, _, hT, rfl, _, ha, ?_⟩
    refine ⟨a, _, 1, _, rfl, rfl, hT, rfl, _, 1, hT, rfl, ?_⟩
    exact rest _ (i + 1) _ (by split <;> omega) Oh.put_same (by omega) (But.put _ _ _)
  · exact rest h i 0 (by decide) hT hi (But.refl _ _)
end VL

set_option Elab.async false
set_option linter.all false
set_option maxRecDepth 100000
set_option maxHeartbeats 400000
/-! VC1: codes: what the defs promise -/
namespace VL.C
open PySem PySem.Spec L2 VL VL.P
def mk (p : Pa) : Nat × Nat := (p.x, p.z)
def adP (a b : Nat × Nat) : Nat × Nat := (a.1 ^^^ b.1, a.2 ^^^ b.2)
def vx (n : Nat) (a : Nat × Nat) : Nat := (a.1 * 2 ^ n) ^^^ a.2
def spP (l : List (Nat × Nat)) : List (Nat × Nat) := spg adP [(0, 0)] l
structure Bd (n : Nat) (p : Pa) : Prop where
  x : p.x < 2 ^ n
  z : p.z < 2 ^ n
  s : p.s < 2
instance (n : Nat) (p : Pa) : Decidable (Bd n p) := decidable_of_iff (p.x < 2 ^ n ∧ p.z < 2 ^ n ∧ p.s < 2) ⟨fun h => ⟨h.1, h.2.1, h.2.2⟩, fun h => ⟨h.x, h.z, h.s⟩⟩
/-- the law's look at a code -/
def semL (ps : List Pa) (X Z : Pa) : Bool := ps.all (fun r => cmt r X && cmt r Z && ps.all (cmt r)) && decide ((spP (ps.map mk)).Nodup) && !cmt X Z
def IsC (n : Nat) (ps : List Pa) (X Z : Pa) : Prop := 1 ≤ n ∧ n ≤ 13 ∧ ps.length + 1 = n ∧ (∀ p ∈ ps, Bd n p) ∧ Bd n X ∧ Bd n Z ∧ semL ps X Z = true
/-- a value as a Pauli -/
def dP : D → Pa
  | .tup [.int x, .int z, .int s] => ⟨x.toNat, z.toNat, s.toNat⟩
  | _ => ⟨0, 0, 0⟩
def paD (n : Nat) : D → Bool
  | .tup [.int x, .int z, .int s] => decide (Bd n ⟨x.toNat, z.toNat, s.toNat⟩)
  | _ => false
def isC : D → D → D → D → Bool
  | .int k, .tup ds, x, z => decide (1 ≤ k) && decide (k ≤ 13) && decide ((ds.length : Int) = k - 1) && (ds ++ [x, z]).all (paD k.toNat) && semL (ds.map dP) (dP x) (dP z)
  | _, _, _, _ => false
/-- values that may stand for a Pauli -/
def DomV (d : D) : Prop := (∃ p : Pa, d = p.e ∧ Bd 13 p) ∨ d = .non ∨ ∃ p : Pa, d = .tup [p.e]
structure Dom (n g x z : D) : Prop where
  n : n = .non ∨ n = .bl true ∨ n = .str "3" ∨ ∃ k : Nat, k ≤ 14 ∧ n = .int k
  g : ∃ ps : List Pa, (g = .tup (ps.map Pa.e) ∨ g = .lst (ps.map Pa.e)) ∧ ps.length ≤ 13 ∧ ∀ p ∈ ps, Bd 13 p
  x : ∃ p : Pa, x = p.e ∧ Bd 13 p
  z : DomV z
/-- is it an int from 0 on -/
def ntD : D → Option Bool
  | .int i => some (decide (0 ≤ i))
  | .bl _ => some false
  | .non => some false
  | .str _ => some false
  | .tup _ => some false
  | .lst _ => some false
  | .dct _ _ => some false
  | _ => none
def k_MOST_QUBITS : D := (.int 13)
def nL (l : List Nat) : D := .lst (l.map fun n => .int (n : Nat))
def sp_is_integer : Spc := fun ds h R _ => ∃ d b, ds = [d] ∧ ntD d = some b ∧ R (.bl b) h
def sp_is_pauli : Spc := fun ds h R _ => ∃ (d : D) (n : Nat), ds = [d, .int n] ∧ n ≤ 13 ∧ DomV d ∧ R (.bl (paD n d)) h
def sp_reduced : Spc := fun ds h R _ => ∃ (r : Addr) (rows : List Nat) (p : Pa) (n : Nat), ds = [.obj r, p.e, .int n] ∧ h r = some (.ml (rows.map fun n => .int (n : Nat))) ∧ n ≤ 13 ∧ Bd n p ∧ R (.int (red rows (vx n (mk p)) : Nat)) h
def sp_independent : Spc := fun ds h R _ => ∃ (ps : List Pa) (n : Nat), ds = [.tup (ps.map Pa.e), .int n] ∧ n ≤ 13 ∧ ps.length ≤ 20 ∧ (∀ p ∈ ps, Bd n p) ∧ R (.bl (decide ((spP (ps.map mk)).Nodup))) h
def codeF (n g x z : D) : List (Str × D) := [("n", n), ("generators", g), ("x", x), ("z", z), ("table", .non), ("reps", .non)]
def sp_Code___init__ : Spc := fun ds h R Y => ∃ (a : Addr) (n g x z : D), ds = [.obj a, n, g, x, z] ∧ Dom n g x z ∧ h a = some (.ins "Code" []) ∧ (isC n g x z = true → R .non (h.put a (.ins "Code" (codeF n g x z)))) ∧ (isC n g x z = false → ∀ h', But a h h' → Y "NotValid" [] h')
abbrev sp__law_next : Spc := sp_next
def sp__law_ones : Spc := fun ds h R _ => ∃ n : Nat, ds = [.int n] ∧ R (.int (pc n)) h
def sp__law_commute : Spc := fun ds h R _ => ∃ p q : Pa, ds = [p.e, q.e] ∧ R (.bl (cmt p q)) h
def sp__law_times : Spc := fun ds h R _ => ∃ p q : Pa, ds = [p.e, q.e] ∧ Bd 13 p ∧ Bd 13 q ∧ R (prd p q).e h
/-- a gate of the law -/
def gt (g a b : Nat) (p : Pa) : Pa :=
  let xa := p.x / 2 ^ a % 2
  let za := p.z / 2 ^ a % 2
  if g = 0 then ⟨p.x ^^^ (xa ^^^ za) * 2 ^ a, p.z ^^^ (xa ^^^ za) * 2 ^ a, p.s ^^^ (xa &&& za)⟩
  else if g = 1 ∨ a = b then ⟨p.x, p.z ^^^ xa * 2 ^ a, p.s ^^^ (xa &&& za)⟩
  else
    let xb := p.x / 2 ^ b % 2
    let zb := p.z / 2 ^ b % 2
    ⟨p.x ^^^ xa * 2 ^ b, p.z ^^^ zb * 2 ^ a, p.s ^^^ ((xa &&& zb) &&& ((1 ^^^ xb) ^^^ za))⟩
def sp__law_gate : Spc := fun ds h R _ => ∃ (p : Pa) (g a b : Nat), ds = [p.e, .int g, .int a, .int b] ∧ a ≤ 13 ∧ b ≤ 13 ∧ R (gt g a b p).e h
/-- letters: 0 I, 1 X, 2 Z, 3 Y -/
def ch (k : Nat) : Nat := lch k (k / 2)
def tstr (s : Nat) (w : List Nat) : Str := ⟨(((if s = 1 then 45 else 43) : Nat) :: w.map ch).toArray⟩
def wm (b : Nat → Nat) : List Nat → Nat
  | [] => 0
  | k :: w => b k + 2 * wm b w
def bx (k : Nat) : Nat := k % 2
def bz (k : Nat) : Nat := k / 2
def wpa (w : List Nat) (s : Nat) : Pa := ⟨wm bx w, wm bz w, s⟩
def Wd (w : List Nat) : Prop := ∀ k ∈ w, k < 4
def sp__law_masks : Spc := fun ds h R _ => ∃ (s : Nat) (w : List Nat), ds = [.str (tstr s w)] ∧ s < 2 ∧ Wd w ∧ w.length ≤ 30 ∧ R (wpa w s).e h
/-- the six codes, by words -/
def cds : List (Nat × List (Nat × List Nat) × (Nat × List Nat) × (Nat × List Nat)) :=
  [(1, [], (0, [1]), (0, [2])),
   (3, [(0, [2, 2, 0]), (0, [0, 2, 2])], (0, [1, 1, 1]), (0, [2, 0, 0])),
   (4, [(0, [1, 1, 1, 1]), (0, [2, 2, 0, 0]), (0, [0, 0, 2, 2])], (0, [1, 1, 0, 0]), (0, [2, 0, 2, 0])),
   (5, [(0, [1, 2, 2, 1, 0]), (0, [0, 1, 2, 2, 1]), (0, [1, 0, 1, 2, 2]), (0, [2, 1, 0, 1, 2])], (0, [1, 1, 1, 1, 1]), (0, [2, 2, 2, 2, 2])),
   (2, [(0, [2, 2])], (0, [1, 1]), (0, [2, 0])),
   (3, [(1, [1, 1, 0]), (0, [0, 1, 1])], (0, [2, 2, 2]), (0, [1, 0, 0]))]
def cdD (c : Nat × List (Nat × List Nat) × (Nat × List Nat) × (Nat × List Nat)) : D := .tup [.int c.1, .lst (c.2.1.map fun t => .str (tstr t.1 t.2)), .str (tstr c.2.2.1.1 c.2.2.1.2), .str (tstr c.2.2.2.1 c.2.2.2.2)]
def sp__law_codes : Spc := fun ds h R _ => ds = [] ∧ R (.lst (cds.map cdD)) h
@[irreducible] def sp__law_changed : Spc := fun ds h R _ => ∃ (a : Addr) (c : _), c ∈ cds ∧ ds = [.obj a, cdD c] ∧ Tp h a ∧ ∀ n ps X Z h', n ≤ 5 → IsC n ps X Z → Tp h' a → But a h h' → R (.tup [.int (n : Nat), .lst (ps.map Pa.e), X.e, Z.e]) h'
theorem changed {h : Oh} {a : Addr} {c : Nat × List (Nat × List Nat) × (Nat × List Nat) × (Nat × List Nat)} {R : D → Oh → Prop} {E : XC} (hc : c ∈ cds) (hT : Tp h a) (k : ∀ n ps X Z h', n ≤ 5 → IsC n ps X Z → Tp h' a → But a h h' → R (.tup [.int (n : Nat), .lst (ps.map Pa.e), X.e, Z.e]) h') : sp__law_changed [.obj a, cdD c] h R E := by
  unfold sp__law_changed
  exact ⟨a, c, hc, rfl, hT, k⟩
theorem changed_out {ds : List D} {h : Oh} {R : D → Oh → Prop} {E : XC} (q : sp__law_changed ds h R E) : ∃ (a : Addr) (c : _), c ∈ cds ∧ ds = [.obj a, cdD c] ∧ Tp h a ∧ ∀ n ps X Z h', n ≤ 5 → IsC n ps X Z → Tp h' a → But a h h' → R (.tup [.int (n : Nat), .lst (ps.map Pa.e), X.e, Z.e]) h' := by
  unfold sp__law_changed at q
  exact q
def sp__law_is_pauli : Spc := sp_is_pauli
def sp__law_is_code : Spc := fun ds h R _ => ∃ n g x z, ds = [n, g, x, z] ∧ Dom n g x z ∧ (∀ ps : List Pa, g = .tup (ps.map Pa.e) → ps.length ≤ 5) ∧ R (.bl (isC n g x z)) h
end VL.C

set_option Elab.async false
set_option linter.all false
set_option maxRecDepth 100000
namespace VL.C
open PySem PySem.Spec L2 VL VL.P
def w_is_integer : WS :=
  (wRet (wAndV (wCB bIsi (wCons (wVar 0) (wCons (wC (.ty .tint)) wNil))) (wAndV (wNotV (wCB bIsi (wCons (wVar 0) (wCons (wC (.ty .tbool)) wNil)))) (wOp opGe (wVar 0) (wC (.int 0))))))
def w_is_pauli_1 : WS :=
  (wRet (wAndV (wOp opLt (wIx (wVar 0) (wC (.int 0))) (wOp opShl (wC (.int 1)) (wVar 1))) (wAndV (wOp opLt (wIx (wVar 0) (wC (.int 1))) (wOp opShl (wC (.int 1)) (wVar 1))) (wOp opLt (wIx (wVar 0) (wC (.int 2))) (wC (.int 2))))))
def w_is_pauli : WS :=
  (wSeq (wIfS (wOr (wNot (wB (wCB bIsi (wCons (wVar 0) (wCons (wC (.ty .ttup)) wNil))))) (wOr (wBb (wOp opNe (wCB bLen (wCons (wVar 0) wNil)) (wC (.int 3)))) (wNot (wB (wCB bAll (wCons (wLc (wItT (wVar 0)) (gVar 2) wYes (wCall sp_is_integer (wCons (wVar 2) wNil)) [2]) wNil)))))) (wRet (wC (.bl false))) wNext)
  w_is_pauli_1)
def w_reduced_b1 : WS :=
  (wAsg (wCB bMin (wCons (wVar 3) (wCons (wOp opXor (wVar 3) (wVar 4)) wNil))) (gVar 3))
def w_reduced_2 : WS :=
  (wRet (wVar 3))
def w_reduced_1 : WS :=
  (wSeq (wForO (wVar 0) (gVar 4) w_reduced_b1)
  w_reduced_2)
def w_reduced : WS :=
  (wSeq (wAsg (wOp opOr (wOp opShl (wIx (wVar 1) (wC (.int 0))) (wVar 2)) (wIx (wVar 1) (wC (.int 1)))) (gVar 3))
  w_reduced_1)
def w_independent_b1_3 : WS :=
  (wSortR 2)
def w_independent_b1_2 : WS :=
  (wSeq (wApp 2 (wVar 4))
  w_independent_b1_3)
def w_independent_b1_1 : WS :=
  (wSeq (wIfS (wBb (wOp opEq (wVar 4) (wC (.int 0)))) (wRet (wC (.bl false))) wNext)
  w_independent_b1_2)
def w_independent_b1 : WS :=
  (wSeq (wAsg (wLend 2 (wCall sp_reduced (wCons (wObj 2) (wCons (wVar 3) (wCons (wVar 1) wNil))))) (gVar 4))
  w_independent_b1_1)
def w_independent_2 : WS :=
  (wRet (wC (.bl true)))
def w_independent_1 : WS :=
  (wSeq (wFor (wItT (wVar 0)) (gVar 3) w_independent_b1)
  w_independent_2)
def w_independent : WS :=
  (wSeq (wSetO 2 (wLst wNil))
  w_independent_1)
def w_Code___init___b2 : WS :=
  (wIfS (wBb (wOp opNe (wCall sp_commutes (wCons (wIx (wVar 5) (wVar 6)) (wCons (wIx (wVar 5) (wVar 7)) wNil))) (wOrV (wOp opLt (wVar 7) (wOp opSub (wVar 1) (wC (.int 1)))) (wOp opLt (wVar 6) (wVar 1))))) (wRaise "NotValid") wNext)
def w_Code___init___b1 : WS :=
  (wFor (wRng1 (wCons (wVar 6) wNil)) (gVar 7) w_Code___init___b2)
def w_Code___init___10 : WS :=
  (wSetF "Code" "reps" (wVar 0) (wC .non))
def w_Code___init___9 : WS :=
  (wSeq (wSetF "Code" "table" (wVar 0) (wC .non))
  w_Code___init___10)
def w_Code___init___8 : WS :=
  (wSeq (wSetF "Code" "z" (wVar 0) (wVar 4))
  w_Code___init___9)
def w_Code___init___7 : WS :=
  (wSeq (wSetF "Code" "x" (wVar 0) (wVar 3))
  w_Code___init___8)
def w_Code___init___6 : WS :=
  (wSeq (wSetF "Code" "generators" (wVar 0) (wVar 2))
  w_Code___init___7)
def w_Code___init___5 : WS :=
  (wSeq (wSetF "Code" "n" (wVar 0) (wVar 1))
  w_Code___init___6)
def w_Code___init___4 : WS :=
  (wSeq (wIfS (wNot (wB (wCall sp_independent (wCons (wVar 2) (wCons (wVar 1) wNil))))) (wRaise "NotValid") wNext)
  w_Code___init___5)
def w_Code___init___3 : WS :=
  (wSeq (wFor (wRng1 (wCons (wCB bLen (wCons (wVar 5) wNil)) wNil)) (gVar 6) w_Code___init___b1)
  w_Code___init___4)
def w_Code___init___2 : WS :=
  (wSeq (wIfS (wOr (wBb (wOp opNe (wCB bLen (wCons (wVar 2) wNil)) (wOp opSub (wVar 1) (wC (.int 1))))) (wNot (wB (wCB bAll (wCons (wLc (wItL (wVar 5)) (gVar 8) wYes (wCall sp_is_pauli (wCons (wVar 8) (wCons (wVar 1) wNil))) [8]) wNil))))) (wRaise "NotValid") wNext)
  w_Code___init___3)
def w_Code___init___1 : WS :=
  (wSeq (wAsg (wOp opAdd (wCB bLstS (wCons (wVar 2) wNil)) (wLst (wCons (wVar 3) (wCons (wVar 4) wNil)))) (gVar 5))
  w_Code___init___2)
def w_Code___init__ : WS :=
  (wSeq (wIfS (wOr (wNot (wB (wCall sp_is_integer (wCons (wVar 1) wNil)))) (wOr (wNot (wBb (wChain opLe opLe (wC (.int 1)) (wVar 1) (wC k_MOST_QUBITS)))) (wNot (wB (wCB bIsi (wCons (wVar 2) (wCons (wC (.ty .ttup)) wNil))))))) (wRaise "NotValid") wNext)
  w_Code___init___1)
def w__law_codes : WS :=
  (wRet (wLst (wCons (wTup (wCons (wC (.int 1)) (wCons (wLst wNil) (wCons (wC (.str "+X")) (wCons (wC (.str "+Z")) wNil))))) (wCons (wTup (wCons (wC (.int 3)) (wCons (wLst (wCons (wC (.str "+ZZI")) (wCons (wC (.str "+IZZ")) wNil))) (wCons (wC (.str "+XXX")) (wCons (wC (.str "+ZII")) wNil))))) (wCons (wTup (wCons (wC (.int 4)) (wCons (wLst (wCons (wC (.str "+XXXX")) (wCons (wC (.str "+ZZII")) (wCons (wC (.str "+IIZZ")) wNil)))) (wCons (wC (.str "+XXII")) (wCons (wC (.str "+ZIZI")) wNil))))) (wCons (wTup (wCons (wC (.int 5)) (wCons (wLst (wCons (wC (.str "+XZZXI")) (wCons (wC (.str "+IXZZX")) (wCons (wC (.str "+XIXZZ")) (wCons (wC (.str "+ZXIXZ")) wNil))))) (wCons (wC (.str "+XXXXX")) (wCons (wC (.str "+ZZZZZ")) wNil))))) (wCons (wTup (wCons (wC (.int 2)) (wCons (wLst (wCons (wC (.str "+ZZ")) wNil)) (wCons (wC (.str "+XX")) (wCons (wC (.str "+ZI")) wNil))))) (wCons (wTup (wCons (wC (.int 3)) (wCons (wLst (wCons (wC (.str "-XXI")) (wCons (wC (.str "+IXX")) wNil))) (wCons (wC (.str "+ZZZ")) (wCons (wC (.str "+XII")) wNil))))) wNil))))))))
def w__law_masks_2 : WS :=
  (wRet (wTup (wCons (wVar 1) (wCons (wVar 2) (wCons (wCB bInt (wCons (wOp opEq (wIx (wVar 0) (wC (.int 0))) (wC (.str "-"))) wNil)) wNil)))))
def w__law_masks_1 : WS :=
  (wSeq (wAsg (wCB bSum (wCons (wLc (wRng1 (wCons (wOp opSub (wCB bLen (wCons (wVar 0) wNil)) (wC (.int 1))) wNil)) (gVar 3) (wBb (wOp opInD (wIx (wVar 0) (wOp opAdd (wVar 3) (wC (.int 1)))) (wC (.str "ZY")))) (wOp opShl (wC (.int 1)) (wVar 3)) [3]) wNil)) (gVar 2))
  w__law_masks_2)
def w__law_masks : WS :=
  (wSeq (wAsg (wCB bSum (wCons (wLc (wRng1 (wCons (wOp opSub (wCB bLen (wCons (wVar 0) wNil)) (wC (.int 1))) wNil)) (gVar 3) (wBb (wOp opInD (wIx (wVar 0) (wOp opAdd (wVar 3) (wC (.int 1)))) (wC (.str "XY")))) (wOp opShl (wC (.int 1)) (wVar 3)) [3]) wNil)) (gVar 1))
  w__law_masks_1)
def w__law_ones_b1_1 : WS :=
  (wAsg (wOp opDiv (wVar 0) (wC (.int 2))) (gVar 0))
def w__law_ones_b1 : WS :=
  (wSeq (wAsg (wOp opAdd (wVar 1) (wOp opMod (wVar 0) (wC (.int 2)))) (gVar 1))
  w__law_ones_b1_1)
def w__law_ones_t1 : WT :=
  (wBb (wOp opGt (wVar 0) (wC (.int 0))))
def w__law_ones_2 : WS :=
  (wRet (wVar 1))
def w__law_ones_1 : WS :=
  (wSeq (wWhile w__law_ones_t1 w__law_ones_b1)
  w__law_ones_2)
def w__law_ones : WS :=
  (wSeq (wAsg (wC (.int 0)) (gVar 1))
  w__law_ones_1)
def w__law_commute : WS :=
  (wRet (wOp opEq (wOp opMod (wOp opAdd (wCall sp__law_ones (wCons (wOp opAnd (wIx (wVar 0) (wC (.int 0))) (wIx (wVar 1) (wC (.int 1)))) wNil)) (wCall sp__law_ones (wCons (wOp opAnd (wIx (wVar 0) (wC (.int 1))) (wIx (wVar 1) (wC (.int 0)))) wNil))) (wC (.int 2))) (wC (.int 0))))
def w__law_times_3 : WS :=
  (wRet (wTup (wCons (wVar 3) (wCons (wVar 4) (wCons (wOp opDiv (wOp opMod (wOp opSub (wVar 2) (wCall sp__law_ones (wCons (wOp opAnd (wVar 3) (wVar 4)) wNil))) (wC (.int 4))) (wC (.int 2))) wNil)))))
def w__law_times_2 : WS :=
  (wSeq (wPar 3 4 (wCons (wOp opXor (wIx (wVar 0) (wC (.int 0))) (wIx (wVar 1) (wC (.int 0)))) (wCons (wOp opXor (wIx (wVar 0) (wC (.int 1))) (wIx (wVar 1) (wC (.int 1)))) wNil)))
  w__law_times_3)
def w__law_times_1 : WS :=
  (wSeq (wAsg (wOp opAdd (wOp opAdd (wVar 2) (wCall sp__law_ones (wCons (wOp opAnd (wIx (wVar 0) (wC (.int 0))) (wIx (wVar 0) (wC (.int 1)))) wNil))) (wCall sp__law_ones (wCons (wOp opAnd (wIx (wVar 1) (wC (.int 0))) (wIx (wVar 1) (wC (.int 1)))) wNil))) (gVar 2))
  w__law_times_2)
def w__law_times : WS :=
  (wSeq (wAsg (wOp opAdd (wOp opAdd (wOp opMulS (wC (.int 2)) (wIx (wVar 0) (wC (.int 2)))) (wOp opMulS (wC (.int 2)) (wIx (wVar 1) (wC (.int 2))))) (wOp opMulS (wC (.int 2)) (wCall sp__law_ones (wCons (wOp opAnd (wIx (wVar 0) (wC (.int 1))) (wIx (wVar 1) (wC (.int 0)))) wNil)))) (gVar 2))
  w__law_times_1)
def w__law_changed_b1_4 : WS :=
  (wAsg (wLc (wItL (wVar 3)) (gVar 12) wYes (wCall sp__law_gate (wCons (wVar 12) (wCons (wVar 9) (wCons (wVar 10) (wCons (wVar 11) wNil))))) [12]) (gVar 3))
def w__law_changed_b1_3 : WS :=
  (wSeq (wAsg (wLc (wItL (wVar 2)) (gVar 12) wYes (wCall sp__law_gate (wCons (wVar 12) (wCons (wVar 9) (wCons (wVar 10) (wCons (wVar 11) wNil))))) [12]) (gVar 2))
  w__law_changed_b1_4)
def w__law_changed_b1_2 : WS :=
  (wSeq (wAsg (wOp opMod (wOp opAdd (wOp opAdd (wVar 10) (wC (.int 1))) (wCall sp__law_next (wCons (wVar 0) (wCons (wCB bMax (wCons (wC (.int 1)) (wCons (wOp opSub (wVar 5) (wC (.int 1))) wNil))) wNil)))) (wVar 5)) (gVar 11))
  w__law_changed_b1_3)
def w__law_changed_b1_1 : WS :=
  (wSeq (wAsg (wCall sp__law_next (wCons (wVar 0) (wCons (wVar 5) wNil))) (gVar 10))
  w__law_changed_b1_2)
def w__law_changed_b1 : WS :=
  (wSeq (wAsg (wCall sp__law_next (wCons (wVar 0) (wCons (wC (.int 3)) wNil))) (gVar 9))
  w__law_changed_b1_1)
def w__law_changed_6 : WS :=
  (wRet (wTup (wCons (wVar 5) (wCons (wVar 2) (wCons (wIx (wVar 3) (wC (.int 0))) (wCons (wIx (wVar 3) (wC (.int 1))) wNil))))))
def w__law_changed_5 : WS :=
  (wSeq (wIfS (wAnd (wBb (wOp opGt (wCB bLen (wCons (wVar 2) wNil)) (wC (.int 0)))) (wBb (wOp opEq (wCall sp__law_next (wCons (wVar 0) (wCons (wC (.int 2)) wNil))) (wC (.int 0))))) (wAsg (wLst (wCons (wIx (wVar 3) (wC (.int 0))) (wCons (wCall sp__law_times (wCons (wIx (wVar 3) (wC (.int 1))) (wCons (wIx (wVar 2) (wC (.int 0))) wNil))) wNil))) (gVar 3)) wNext)
  w__law_changed_6)
def w__law_changed_4 : WS :=
  (wSeq (wIfS (wAnd (wBb (wOp opGt (wCB bLen (wCons (wVar 2) wNil)) (wC (.int 1)))) (wBb (wOp opEq (wCall sp__law_next (wCons (wVar 0) (wCons (wC (.int 2)) wNil))) (wC (.int 0))))) (wAsg (wOp opAdd (wLst (wCons (wCall sp__law_times (wCons (wIx (wVar 2) (wC (.int 0))) (wCons (wIx (wVar 2) (wC (.int 1))) wNil))) wNil)) (wSl (wVar 2) (wPart (wC (.int 1))) wNoPart)) (gVar 2)) wNext)
  w__law_changed_5)
def w__law_changed_3 : WS :=
  (wSeq (wFor (wRng1 (wCons (wCall sp__law_next (wCons (wVar 0) (wCons (wC (.int 6)) wNil))) wNil)) (gVar 4) w__law_changed_b1)
  w__law_changed_4)
def w__law_changed_2 : WS :=
  (wSeq (wAsg (wLst (wCons (wCall sp__law_masks (wCons (wVar 7) wNil)) (wCons (wCall sp__law_masks (wCons (wVar 8) wNil)) wNil))) (gVar 3))
  w__law_changed_3)
def w__law_changed_1 : WS :=
  (wSeq (wAsg (wLc (wItL (wVar 6)) (gVar 12) wYes (wCall sp__law_masks (wCons (wVar 12) wNil)) [12]) (gVar 2))
  w__law_changed_2)
def w__law_changed : WS :=
  (wSeq (wAsg (wVar 1) (gTp 4 (gsCons (gVar 5) (gsCons (gVar 6) (gsCons (gVar 7) (gsCons (gVar 8) gsNil))))))
  w__law_changed_1)
def w__law_gate_5 : WS :=
  (wRet (wTup (wCons (wOp opXor (wVar 4) (wOp opShl (wVar 7) (wVar 3))) (wCons (wOp opXor (wVar 5) (wOp opShl (wVar 10) (wVar 2))) (wCons (wOp opXor (wVar 6) (wOp opAnd (wOp opAnd (wVar 7) (wVar 10)) (wOp opXor (wOp opXor (wC (.int 1)) (wVar 9)) (wVar 8)))) wNil)))))
def w__law_gate_4 : WS :=
  (wSeq (wPar 9 10 (wCons (wOp opAnd (wOp opShr (wVar 4) (wVar 3)) (wC (.int 1))) (wCons (wOp opAnd (wOp opShr (wVar 5) (wVar 3)) (wC (.int 1))) wNil)))
  w__law_gate_5)
def w__law_gate_3 : WS :=
  (wSeq (wIfS (wOr (wBb (wOp opEq (wVar 1) (wC (.int 1)))) (wBb (wOp opEq (wVar 2) (wVar 3)))) (wRet (wTup (wCons (wVar 4) (wCons (wOp opXor (wVar 5) (wOp opShl (wVar 7) (wVar 2))) (wCons (wOp opXor (wVar 6) (wOp opAnd (wVar 7) (wVar 8))) wNil))))) wNext)
  w__law_gate_4)
def w__law_gate_2 : WS :=
  (wSeq (wIfS (wBb (wOp opEq (wVar 1) (wC (.int 0)))) (wRet (wTup (wCons (wOp opXor (wVar 4) (wOp opShl (wOp opXor (wVar 7) (wVar 8)) (wVar 2))) (wCons (wOp opXor (wVar 5) (wOp opShl (wOp opXor (wVar 7) (wVar 8)) (wVar 2))) (wCons (wOp opXor (wVar 6) (wOp opAnd (wVar 7) (wVar 8))) wNil))))) wNext)
  w__law_gate_3)
def w__law_gate_1 : WS :=
  (wSeq (wPar 7 8 (wCons (wOp opAnd (wOp opShr (wVar 4) (wVar 2)) (wC (.int 1))) (wCons (wOp opAnd (wOp opShr (wVar 5) (wVar 2)) (wC (.int 1))) wNil)))
  w__law_gate_2)
def w__law_gate : WS :=
  (wSeq (wAsg (wVar 0) (gTp 3 (gsCons (gVar 4) (gsCons (gVar 5) (gsCons (gVar 6) gsNil)))))
  w__law_gate_1)
def w__law_is_pauli_2 : WS :=
  (wRet (wAndV (wOp opLt (wIx (wVar 0) (wC (.int 0))) (wOp opShl (wC (.int 1)) (wVar 1))) (wAndV (wOp opLt (wIx (wVar 0) (wC (.int 1))) (wOp opShl (wC (.int 1)) (wVar 1))) (wOp opLt (wIx (wVar 0) (wC (.int 2))) (wC (.int 2))))))
def w__law_is_pauli_1 : WS :=
  (wSeq (wIfS (wNot (wB (wCB bAll (wCons (wLc (wItT (wVar 0)) (gVar 2) wYes (wAndV (wCB bIsi (wCons (wVar 2) (wCons (wC (.ty .tint)) wNil))) (wAndV (wNotV (wCB bIsi (wCons (wVar 2) (wCons (wC (.ty .tbool)) wNil)))) (wOp opGe (wVar 2) (wC (.int 0))))) [2]) wNil)))) (wRet (wC (.bl false))) wNext)
  w__law_is_pauli_2)
def w__law_is_pauli : WS :=
  (wSeq (wIfS (wOr (wNot (wB (wCB bIsi (wCons (wVar 0) (wCons (wC (.ty .ttup)) wNil))))) (wBb (wOp opNe (wCB bLen (wCons (wVar 0) wNil)) (wC (.int 3))))) (wRet (wC (.bl false))) wNext)
  w__law_is_pauli_1)
def w__law_is_code_b1_2 : WS :=
  (wAsg (wOp opAdd (wVar 4) (wLc (wItL (wVar 4)) (gVar 6) wYes (wCall sp__law_times (wCons (wVar 5) (wCons (wVar 6) wNil))) [6])) (gVar 4))
def w__law_is_code_b1_1 : WS :=
  (wSeq (wIfS (wNot (wB (wCB bAll (wCons (wLc (wItT (wVar 1)) (gVar 6) wYes (wCall sp__law_commute (wCons (wVar 5) (wCons (wVar 6) wNil))) [6]) wNil)))) (wRet (wC (.bl false))) wNext)
  w__law_is_code_b1_2)
def w__law_is_code_b1 : WS :=
  (wSeq (wIfS (wOr (wNot (wB (wCall sp__law_commute (wCons (wVar 5) (wCons (wVar 2) wNil))))) (wNot (wB (wCall sp__law_commute (wCons (wVar 5) (wCons (wVar 3) wNil)))))) (wRet (wC (.bl false))) wNext)
  w__law_is_code_b1_1)
def w__law_is_code_4 : WS :=
  (wRet (wAndV (wOp opEq (wLenSet (wLc (wItL (wVar 4)) (gVar 5) wYes (wSl (wVar 5) wNoPart (wPart (wC (.int 2)))) [5])) (wCB bLen (wCons (wVar 4) wNil))) (wNotV (wCall sp__law_commute (wCons (wVar 2) (wCons (wVar 3) wNil))))))
def w__law_is_code_3 : WS :=
  (wSeq (wFor (wItT (wVar 1)) (gVar 5) w__law_is_code_b1)
  w__law_is_code_4)
def w__law_is_code_2 : WS :=
  (wSeq (wAsg (wLst (wCons (wTup (wCons (wC (.int 0)) (wCons (wC (.int 0)) (wCons (wC (.int 0)) wNil)))) wNil)) (gVar 4))
  w__law_is_code_3)
def w__law_is_code_1 : WS :=
  (wSeq (wIfS (wOr (wBb (wOp opNe (wCB bLen (wCons (wVar 1) wNil)) (wOp opSub (wVar 0) (wC (.int 1))))) (wNot (wB (wCB bAll (wCons (wLc (wItL (wOp opAdd (wCB bLstS (wCons (wVar 1) wNil)) (wLst (wCons (wVar 2) (wCons (wVar 3) wNil))))) (gVar 5) wYes (wCall sp__law_is_pauli (wCons (wVar 5) (wCons (wVar 0) wNil))) [5]) wNil))))) (wRet (wC (.bl false))) wNext)
  w__law_is_code_2)
def w__law_is_code : WS :=
  (wSeq (wIfS (wOr (wNot (wB (wCB bIsi (wCons (wVar 0) (wCons (wC (.ty .tint)) wNil))))) (wOr (wB (wCB bIsi (wCons (wVar 0) (wCons (wC (.ty .tbool)) wNil)))) (wOr (wBb (wOp opLt (wVar 0) (wC (.int 1)))) (wOr (wBb (wOp opGt (wVar 0) (wC (.int 13)))) (wNot (wB (wCB bIsi (wCons (wVar 1) (wCons (wC (.ty .ttup)) wNil))))))))) (wRet (wC (.bl false))) wNext)
  w__law_is_code_1)
end VL.C

set_option Elab.async false
set_option linter.all false
set_option maxRecDepth 100000
set_option maxHeartbeats 400000
/-! VC2: the plain defs of codes -/
namespace VL.C
open PySem PySem.Spec PyProof.Rows L2 VL VL.P
theorem vx_ad (n : Nat) (a b : Nat × Nat) : vx n (adP a b) = vx n a ^^^ vx n b := by
  unfold vx adP
  have e : (a.1 ^^^ b.1) * 2 ^ n = (a.1 * 2 ^ n) ^^^ (b.1 * 2 ^ n) := by
    apply Nat.eq_of_testBit_eq
    intro j
    simp only [Nat.testBit_mul_two_pow, Nat.testBit_xor]
    cases decide (n ≤ j) <;> simp
  show ((a.1 ^^^ b.1) * 2 ^ n) ^^^ (a.2 ^^^ b.2) = _
  rw [e]
  rw [Nat.xor_assoc, xx_left (b.1 * 2 ^ n) a.2 b.2, ← Nat.xor_assoc]
theorem vx_inj {n : Nat} {a b : Nat × Nat} (ha : a.2 < 2 ^ n) (hb : b.2 < 2 ^ n) (h : vx n a = vx n b) : a = b := by
  unfold vx at h
  have key : ∀ c : Nat × Nat, c.2 < 2 ^ n → ∀ j, ((c.1 * 2 ^ n) ^^^ c.2).testBit j = if j < n then c.2.testBit j else c.1.testBit (j - n) := fun c hc j => by
    rw [Nat.testBit_xor, Nat.testBit_mul_two_pow]
    by_cases hj : j < n
    · rw [if_pos hj, decide_eq_false (by omega)]
      simp
    · rw [if_neg hj, decide_eq_true (by omega), Nat.testBit_lt_two_pow (Nat.lt_of_lt_of_le hc (Nat.pow_le_pow_right (by decide) (by omega)))]
      simp
  have h1 : a.1 = b.1 := Nat.eq_of_testBit_eq fun j => by
    have := congrArg (·.testBit (j + n)) h
    simp only [key a ha, key b hb] at this
    rw [if_neg (by omega), if_neg (by omega), Nat.add_sub_cancel] at this
    exact this
  have h2 : a.2 = b.2 := Nat.eq_of_testBit_eq fun j => by
    by_cases hj : j < n
    · have := congrArg (·.testBit j) h
      simp only [key a ha, key b hb] at this
      rw [if_pos hj, if_pos hj] at this
      exact this
    · rw [Nat.testBit_lt_two_pow (Nat.lt_of_lt_of_le ha (Nat.pow_le_pow_right (by decide) (by omega))), Nat.testBit_lt_two_pow (Nat.lt_of_lt_of_le hb (Nat.pow_le_pow_right (by decide) (by omega)))]
  exact Prod.ext h1 h2
theorem spg_map {α β : Type} {f : α → α → α} {g : β → β → β} {φ : α → β} (h : ∀ a b, φ (f a b) = g (φ a) (φ b)) : ∀ (l acc : List α), (spg f acc l).map φ = spg g (acc.map φ) (l.map φ)
  | [], _ => rfl
  | v :: l, acc => by
    show (spg f (acc ++ acc.map (f v)) l).map φ = spg g (acc.map φ ++ (acc.map φ).map (g (φ v))) (l.map φ)
    rw [spg_map h l, List.map_append, List.map_map, List.map_map]
    congr 2
    exact List.map_congr_left fun x _ => h v x
theorem vx_sp (n : Nat) (l : List (Nat × Nat)) : spN (l.map (vx n)) = (spP l).map (vx n) := by
  unfold spN spP
  rw [spg_map (vx_ad n)]
  congr 1
  show [0] = [vx n (0, 0)]
  unfold vx
  rw [Nat.zero_mul]
  rfl
theorem spg_all {α : Type} {f : α → α → α} {P : α → Prop} (h : ∀ a b, P a → P b → P (f a b)) : ∀ (l acc : List α), (∀ a ∈ acc, P a) → (∀ a ∈ l, P a) → ∀ a ∈ spg f acc l, P a
  | [], _, ha, _ => ha
  | v :: l, acc, ha, hl => by
    refine spg_all h l (acc ++ acc.map (f v)) (fun a hm => ?_) fun a hm => hl a (List.mem_cons_of_mem _ hm)
    rcases List.mem_append.mp hm with z | z
    · exact ha a z
    · obtain ⟨b, hb, rfl⟩ := List.mem_map.mp z
      exact h _ _ (hl v List.mem_cons_self) (ha b hb)
theorem nodup_map_on {α β : Type} {f : α → β} {l : List α} (h : ∀ a ∈ l, ∀ b ∈ l, f a = f b → a = b) : (l.map f).Nodup ↔ l.Nodup := by
  unfold List.Nodup
  rw [List.pairwise_map]
  constructor
  · exact fun p => p.imp fun hab e => hab (by rw [e])
  · exact fun p => p.imp_of_mem fun ha hb hab e => hab (h _ ha _ hb e)
theorem spP_lt {n : Nat} {l : List (Nat × Nat)} (h : ∀ a ∈ l, a.2 < 2 ^ n) : ∀ a ∈ spP l, a.2 < 2 ^ n :=
  spg_all (f := adP) (P := fun a => a.2 < 2 ^ n) (fun a b ha hb => Nat.xor_lt_two_pow ha hb) l [(0, 0)] (fun a ha => by rw [List.mem_singleton.mp ha]; exact Nat.pow_pos (by decide)) h
theorem nodup_vx {n : Nat} {l : List (Nat × Nat)} (h : ∀ a ∈ l, a.2 < 2 ^ n) : (spN (l.map (vx n))).Nodup ↔ (spP l).Nodup := by
  rw [vx_sp]
  have hb := spP_lt h
  exact nodup_map_on fun a ha b hb' e => vx_inj (hb a ha) (hb b hb') e
theorem vx_or {n : Nat} {p : Pa} (h : Bd n p) : (p.x * 2 ^ n ||| p.z) = vx n (mk p) := by
  unfold vx mk
  have := or_xor_and (p.x * 2 ^ n) p.z
  have e : (p.x * 2 ^ n) &&& p.z = 0 := Nat.eq_of_testBit_eq fun j => by
    rw [Nat.testBit_and, Nat.testBit_mul_two_pow, Nat.zero_testBit]
    by_cases hj : n ≤ j
    · rw [Nat.testBit_lt_two_pow (Nat.lt_of_lt_of_le h.z (Nat.pow_le_pow_right (by decide) hj))]
      simp
    · rw [decide_eq_false hj]
      simp
  rw [e, Nat.add_zero] at this
  exact this
/-! ### the defs -/
theorem pk_is_integer : Pk 1 0 sp_is_integer w_is_integer := by
  rintro ds h R _ ⟨d, b, rfl, hb, hR⟩
  cases d <;> cases hb
  case int i =>
    refine ⟨true, rfl, ?_⟩
    exact brT rfl ⟨false, rfl, brT rfl hR⟩
  case bl i =>
    exact ⟨true, rfl, brT rfl ⟨true, rfl, brF rfl hR⟩⟩
  all_goals
    exact ⟨false, rfl, brF rfl hR⟩
theorem nat_dec (i n : Nat) : decide ((i : Int) < ((1 : Int) * 2 ^ ((n : Nat) : Int).toNat)) = decide (i < 2 ^ n) := by
  have e1 : (1 : Int) * 2 ^ ((n : Nat) : Int).toNat = ((2 ^ n : Nat) : Int) := by rw [show (1 : Int) = ((1 : Nat) : Int) from rfl, shl_nn, Nat.one_mul]
  rw [e1]
  exact decide_eq_decide.mpr Int.ofNat_lt
theorem paD_e (n : Nat) (p : Pa) : paD n p.e = (decide (p.x < 2 ^ n) && (decide (p.z < 2 ^ n) && decide (p.s < 2))) := by
  show decide (Bd n ⟨(p.x : Int).toNat, (p.z : Int).toNat, (p.s : Int).toNat⟩) = _
  rw [Bool.eq_iff_iff]
  simp only [decide_eq_true_eq, Bool.and_eq_true, Int.toNat_natCast]
  exact ⟨fun h => ⟨h.x, h.z, h.s⟩, fun h => ⟨h.1, h.2.1, h.2.2⟩⟩
theorem shl1_ok {n : Nat} (h : n ≤ 13) : CShl 1 (n : Int) := shl_ok (n := 1) (by decide) (by omega)
theorem pa_end {R : D → Oh → Prop} {h : Oh} {p : Pa} {n : Nat} (hn : n ≤ 13) (hR : R (.bl (paD n p.e)) h) : w_is_pauli_1 (Fi R) ⟨[.f p.e, .f (.int n), .u], h⟩ := by
  rw [paD_e] at hR
  refine ⟨_, rfl, shl1_ok hn, ?_⟩
  show Br (decide ((p.x : Int) < ((1 : Int) * 2 ^ ((n : Nat) : Int).toNat))) _ _
  rw [nat_dec]
  refine br (fun e => ?_) (fun e => ?_)
  · rw [e] at hR
    refine ⟨_, rfl, shl1_ok hn, ?_⟩
    show Br (decide ((p.z : Int) < ((1 : Int) * 2 ^ ((n : Nat) : Int).toNat))) _ _
    rw [nat_dec]
    refine br (fun e2 => ?_) (fun e2 => ?_)
    · rw [e2] at hR
      refine ⟨_, rfl, ?_⟩
      have e3 : decide ((p.s : Int) < 2) = decide (p.s < 2) := decide_eq_decide.mpr (by omega)
      show R (.bl (decide ((p.s : Int) < 2))) h
      rw [e3]
      exact hR
    · rw [e2] at hR
      exact hR
  · rw [e] at hR
    exact hR
theorem pk_is_pauli : Pk 2 1 sp_is_pauli w_is_pauli := by
  rintro ds h R _ ⟨d, n, rfl, hn, hd, hR⟩
  rcases hd with ⟨p, rfl, _⟩ | rfl | ⟨p, rfl⟩
  · refine ⟨true, rfl, brF rfl (brF rfl ?_)⟩
    refine ⟨rfl, (by show (3 : Nat) ≤ 1000000; decide), ?_⟩
    refine lcL_run (fun _ => some (.bl true)) _ _ (fun x hx C hC => ?_) ?_
    · refine brT rfl ⟨x, true, rfl, ?_, rfl, hC⟩
      have hx' : x ∈ [D.int p.x, D.int p.z, D.int p.s] := hx
      simp only [List.mem_cons, List.not_mem_nil, or_false] at hx'
      rcases hx' with rfl | rfl | rfl <;> exact congrArg some (decide_eq_true (Int.natCast_nonneg _))
    · refine ⟨[true, true, true], rfl, ?_⟩
      exact brF rfl (pa_end hn hR)
  · exact ⟨false, rfl, brT rfl (brT rfl hR)⟩
  · exact ⟨true, rfl, brF rfl (brT rfl (brT rfl hR))⟩
theorem pk__law_ones : Pk 1 1 sp__law_ones w__law_ones := by
  rintro ds h R _ ⟨n, rfl, hR⟩
  refine ⟨n + 1, ?_⟩
  have loop : ∀ (k n c : Nat), n ≤ k → R (.int ((c + pc n : Nat) : Int)) h → wWhN w__law_ones_t1 w__law_ones_b1 { Fi R with nx := w__law_ones_2 (Fi R) } (k + 1) ⟨[.f (.int n), .f (.int c)], h⟩ := fun k => by
    induction k with
    | zero =>
      intro n c e hR
      have : n = 0 := by omega
      subst this
      exact whn (brF rfl hR)
    | succ k ih =>
      intro n c e hR
      by_cases hn : n = 0
      · subst hn
        exact whn (brF rfl hR)
      · refine whn (brT (by simpa using Nat.pos_of_ne_zero hn) ?_)
        refine ⟨by decide, cdiv2, ?_⟩
        have x := ih (n / 2) (c + n % 2) (by omega) (by rw [show c + n % 2 + pc (n / 2) = c + pc n by rw [pc_step n]; omega]; exact hR)
        have e1 : (n : Int) / 2 = ((n / 2 : Nat) : Int) := rfl
        have e2 : (c : Int) + (n : Int) % 2 = ((c + n % 2 : Nat) : Int) := rfl
        rw [← e1, ← e2] at x
        exact x
  exact loop n n 0 (Nat.le_refl _) (by rw [Nat.zero_add]; exact hR)
theorem pk__law_commute : Pk 2 0 sp__law_commute w__law_commute := by
  rintro ds h R _ ⟨p, q, rfl, hR⟩
  refine ⟨_, rfl, _, rfl, _, by rw [and_nn], _, rfl, _, rfl, _, by rw [and_nn], by decide, ?_⟩
  have e : ∀ a b : Nat, ((((a : Nat) : Int) + (b : Nat)) % 2 == 0) = (a % 2 == b % 2) := fun a b => by
    rw [Bool.eq_iff_iff, beq_iff_eq, beq_iff_eq]
    omega
  show R (.bl ((((pc (p.x &&& q.z) : Nat) : Int) + ((pc (p.z &&& q.x) : Nat) : Int)) % 2 == 0)) h
  rw [e]
  exact hR
theorem pcb {a b : Nat} (h : a < 2 ^ 13) : pc (a &&& b) < 2 ^ 13 := Nat.lt_of_le_of_lt (Nat.le_trans (pc_le _) Nat.and_le_left) h
theorem pk__law_times : Pk 2 3 sp__law_times w__law_times := by
  rintro ds h R _ ⟨p, q, rfl, hp, hq, hR⟩
  have hps := hp.s
  have hqs := hq.s
  refine ⟨_, rfl, cmul 2 2 (by decide) (by omega) (by decide), _, rfl, cmul 2 2 (by decide) (by omega) (by decide), _, rfl, _, rfl, _, by rw [and_nn], cmul 2 13 (by decide) (by have := pcb (b := q.x) hp.z; simpa using this) (by decide), ?_⟩
  refine ⟨_, rfl, _, rfl, _, by rw [and_nn], _, rfl, _, rfl, _, by rw [and_nn], ?_⟩
  refine ⟨_, rfl, _, rfl, _, rfl, _, rfl, ?_⟩
  change w__law_times_3 (Fi R) ⟨[.f p.e, .f q.e, .f (.int (2 * (p.s : Int) + 2 * (q.s : Int) + 2 * (pc (p.z &&& q.x) : Nat) + (pc (p.x &&& p.z) : Nat) + (pc (q.x &&& q.z) : Nat))), .f (.int (Builtin.bitXor p.x q.x)), .f (.int (Builtin.bitXor p.z q.z))], h⟩
  rw [xor_nn, xor_nn]
  refine ⟨_, by rw [and_nn], by decide, cdiv2, ?_⟩
  have e : (2 * (p.s : Int) + 2 * (q.s : Int) + 2 * ((pc (p.z &&& q.x) : Nat) : Int) + ((pc (p.x &&& p.z) : Nat) : Int) + ((pc (q.x &&& q.z) : Nat) : Int) - ((pc ((p.x ^^^ q.x) &&& (p.z ^^^ q.z)) : Nat) : Int)) % 4 / 2 = ((prd p q).s : Int) := by
    show _ = (((trn p q / 2).toNat : Nat) : Int)
    have h1 := trn_nn p q
    have h2 : (2 * (p.s : Int) + 2 * (q.s : Int) + 2 * ((pc (p.z &&& q.x) : Nat) : Int) + ((pc (p.x &&& p.z) : Nat) : Int) + ((pc (q.x &&& q.z) : Nat) : Int) - ((pc ((p.x ^^^ q.x) &&& (p.z ^^^ q.z)) : Nat) : Int)) % 4 = trn p q := by
      unfold trn
      congr 1
      omega
    rw [h2]
    omega
  change R (.tup [.int ((p.x ^^^ q.x : Nat) : Int), .int ((p.z ^^^ q.z : Nat) : Int), .int ((2 * (p.s : Int) + 2 * (q.s : Int) + 2 * ((pc (p.z &&& q.x) : Nat) : Int) + ((pc (p.x &&& p.z) : Nat) : Int) + ((pc (q.x &&& q.z) : Nat) : Int) - ((pc ((p.x ^^^ q.x) &&& (p.z ^^^ q.z)) : Nat) : Int)) % 4 / 2)]) h
  rw [e]
  exact hR
end VL.C

set_option Elab.async false
set_option linter.all false
set_option maxRecDepth 100000
set_option maxHeartbeats 400000
/-! VC3: independent rows, and what is a code -/
namespace VL.C
open PySem PySem.Spec PyProof.Rows L2 VL VL.P
theorem pk_reduced : Pk 3 2 sp_reduced w_reduced := by
  rintro ds h R _ ⟨a, rows, p, n, rfl, ha, hn, hb, hR⟩
  refine ⟨_, rfl, shl_ok (n := 13) (by have := Nat.lt_of_lt_of_le hb.x (Nat.pow_le_pow_right (show 0 < 2 by decide) hn); simpa using this) (by omega), _, rfl, ?_⟩
  change w_reduced_1 (Fi R) ⟨[.f (.obj a), .f p.e, .f (.int n), .f (.int (Builtin.bitOr ((p.x : Int) * 2 ^ (n : Int).toNat) p.z)), .u], h⟩
  rw [shl_nn, or_nn, vx_or hb]
  refine ⟨a, _, rfl, ha, ?_⟩
  have loop : ∀ (l : List Nat) (v : Nat) (u : Sl), R (.int (red l v : Nat)) h → wForOL a (rows.map fun n => .int (n : Nat)) (gVar 4) w_reduced_b1 { Fi R with nx := w_reduced_2 (Fi R) } (l.map fun n => .int (n : Nat)) ⟨[.f (.obj a), .f p.e, .f (.int n), .f (.int v), u], h⟩ := fun l => by
    induction l with
    | nil => exact fun v u hR => ⟨ha, hR⟩
    | cons r l ih =>
      intro v u hR
      refine foroc ha ?_
      have e : (if Builtin.bitXor (v : Int) (r : Int) < (v : Int) then Builtin.bitXor (v : Int) (r : Int) else (v : Int)) = ((mn v r : Nat) : Int) := by
        rw [xor_nn]
        unfold mn
        by_cases q : v ^^^ r < v
        · rw [if_pos q, if_pos (by omega)]
        · rw [if_neg q, if_neg (by omega)]
      have x := ih (mn v r) (.f (.int r)) hR
      rw [← e] at x
      exact x
  exact loop rows _ .u hR
theorem indep_cons {n : Nat} {ps : List Pa} {p : Pa} (hb : ∀ q ∈ ps, Bd n q) (hp : Bd n p) : (spP ((ps ++ [p]).map mk)).Nodup ↔ (spP (ps.map mk)).Nodup ∧ ¬ Sp ((ps.map mk).map (vx n)) (vx n (mk p)) := by
  have h1 : ∀ a ∈ (ps ++ [p]).map mk, a.2 < 2 ^ n := fun a ha => by
    obtain ⟨q, hq, rfl⟩ := List.mem_map.mp ha
    rcases List.mem_append.mp hq with z | z
    · exact (hb q z).z
    · rw [List.mem_singleton.mp z]; exact hp.z
  have h2 : ∀ a ∈ ps.map mk, a.2 < 2 ^ n := fun a ha => by
    obtain ⟨q, hq, rfl⟩ := List.mem_map.mp ha
    exact (hb q hq).z
  rw [← nodup_vx h1, ← nodup_vx h2, List.map_append, List.map_append]
  exact nodup_snoc
theorem indep_pre {ps qs : List Pa} {n : Nat} (hb : ∀ q ∈ ps ++ qs, Bd n q) (h : (spP ((ps ++ qs).map mk)).Nodup) : (spP (ps.map mk)).Nodup := by
  have h1 : ∀ a ∈ (ps ++ qs).map mk, a.2 < 2 ^ n := fun a ha => by
    obtain ⟨q, hq, rfl⟩ := List.mem_map.mp ha
    exact (hb q hq).z
  have h2 : ∀ a ∈ ps.map mk, a.2 < 2 ^ n := fun a ha => by
    obtain ⟨q, hq, rfl⟩ := List.mem_map.mp ha
    exact (hb q (List.mem_append_left _ hq)).z
  rw [← nodup_vx h2]
  rw [← nodup_vx h1, List.map_append, List.map_append] at h
  exact nodup_pre h
theorem ints_nat : ∀ {ns : List Int} {l : List Nat}, ns.Perm (l.map fun n => ((n : Nat) : Int)) → ∃ m : List Nat, ns = m.map (fun n => ((n : Nat) : Int)) ∧ m.Perm l := fun {ns l} h => by
  have e : ns = (ns.map Int.toNat).map fun n => ((n : Nat) : Int) := by
    rw [List.map_map]
    refine (List.map_id _).symm.trans (List.map_congr_left fun x hx => ?_)
    obtain ⟨y, _, rfl⟩ := List.mem_map.mp (h.mem_iff.mp hx)
    rfl
  refine ⟨ns.map Int.toNat, e, ?_⟩
  have h2 := h.map Int.toNat
  rw [List.map_map] at h2
  have e2 : l.map (Int.toNat ∘ fun n => ((n : Nat) : Int)) = l := (List.map_congr_left fun x _ => rfl).trans (List.map_id l)
  rw [e2] at h2
  exact h2
theorem pk_independent : Pk 2 3 sp_independent w_independent := by
  rintro ds h R _ ⟨ps, n, rfl, hn, hlen, hb, hR⟩
  have loop : ∀ (qs done : List Pa) (rows : List Nat) (u1 u2 : Sl), ps = done ++ qs → (spP (done.map mk)).Nodup → Bas rows → (∀ u, Sp rows u ↔ Sp ((done.map mk).map (vx n)) u) → rows.length = done.length → (∀ d, u1 ≠ .o d) → (∀ d, u2 ≠ .o d) →
      wForL (gVar 3) w_independent_b1 { Fi R with nx := w_independent_2 (Fi R) } (qs.map Pa.e) ⟨[.f (.tup (ps.map Pa.e)), .f (.int n), .o (nL rows), u1, u2], h⟩ := fun qs => by
    induction qs with
    | nil =>
      intro done rows u1 u2 e hd _ _ _ _ _
      rw [List.append_nil] at e
      rw [e, decide_eq_true hd] at hR
      exact hR
    | cons p qs ih =>
      intro done rows u1 u2 e hd hB hS hL n1 n2
      have hbp : Bd n p := hb p (by rw [e]; simp)
      have hbd : ∀ q ∈ done, Bd n q := fun q hq => hb q (by rw [e]; exact List.mem_append_left _ hq)
      refine forv ?_
      refine ⟨⟨_, rfl⟩, _, rfl, fun r hr => ?_⟩
      refine ⟨r, rows, p, n, rfl, Oh.put_same, hn, hbp, r, _, rfl, Oh.put_same, ?_⟩
      change w_independent_b1_1 { nx := wForL (gVar 3) w_independent_b1 { Fi R with nx := w_independent_2 (Fi R) } (qs.map Pa.e), rt := (Fi R).rt, bk := w_independent_2 (Fi R), ct := wForL (gVar 3) w_independent_b1 { Fi R with nx := w_independent_2 (Fi R) } (qs.map Pa.e) } ⟨[.f (.tup (ps.map Pa.e)), .f (.int n), .o (nL rows), .f p.e, .f (.int (red rows (vx n (mk p)) : Nat))], (h.put r (obOf (nL rows))).del r⟩
      rw [Oh.del_put (show h r = none from hr)]
      have key := red_zero (v := vx n (mk p)) hB
      rw [hS] at key
      refine br (fun q => ?_) (fun q => ?_)
      · have q' : red rows (vx n (mk p)) = 0 := by simpa using q
        have no : ¬ (spP (ps.map mk)).Nodup := fun z => by
          have e2 : ps = (done ++ [p]) ++ qs := by rw [e]; simp
          rw [e2] at z
          have z2 := indep_pre (n := n) (by rw [← e2]; exact hb) z
          exact ((indep_cons hbd hbp).mp z2).2 (key.mp q')
        rw [decide_eq_false no] at hR
        exact hR
      · have q' : red rows (vx n (mk p)) ≠ 0 := by simpa using q
        have e3 : (rows.map fun n => D.int (n : Nat)) ++ [D.int (red rows (vx n (mk p)) : Nat)] = (rows ++ [red rows (vx n (mk p))]).map fun n => D.int (n : Nat) := by rw [List.map_append]; rfl
        refine ⟨⟨_, rfl⟩, _, rfl, ?_, ?_⟩
        · have hz : (1000000 : Nat) < sizeLine := by decide
          have hl : ps.length = done.length + (qs.length + 1) := by rw [e, List.length_append]; rfl
          rw [List.length_map, hL]
          omega
        · refine ⟨(rows ++ [red rows (vx n (mk p))]).map fun n => ((n : Nat) : Int), ?_, fun ns' h1 h2 => ?_⟩
          · show some (Sl.o (.lst ((rows.map fun n => D.int (n : Nat)) ++ [D.int (red rows (vx n (mk p)) : Nat)]))) = _
            rw [e3, List.map_map]
            rfl
          · obtain ⟨m, rfl, hm⟩ := ints_nat h1
            have hs : m.Pairwise (· ≥ ·) := by
              rw [List.pairwise_map] at h2
              exact h2.imp fun h => by omega
            obtain ⟨b1, b2⟩ := bas_more hB q' hm hs
            have e4 : (m.map fun n => ((n : Nat) : Int)).map D.int = m.map fun n => D.int (n : Nat) := by rw [List.map_map]; rfl
            rw [e4]
            refine ih (done ++ [p]) m _ _ (by rw [e]; simp) ((indep_cons hbd hbp).mpr ⟨hd, fun z => q' (key.mpr z)⟩) b1 (fun u => ?_) (by rw [hm.length_eq, List.length_append, List.length_append, hL]; rfl) (fun d z => by cases z) (fun d z => by cases z)
            rw [b2, hS, hS]
            have e5 : ((done ++ [p]).map mk).map (vx n) = (done.map mk).map (vx n) ++ [vx n (mk p)] := by rw [List.map_append, List.map_append]; rfl
            rw [e5]
            refine (Sp.cons (l := (done.map mk).map (vx n)) (v := vx n (mk p)) (s := u)).symm.trans ⟨fun s => s.mono fun x hx => ?_, fun s => s.mono fun x hx => ?_⟩
            · rcases List.mem_cons.mp hx with rfl | z
              · exact List.mem_append_right _ (List.mem_singleton.mpr rfl)
              · exact List.mem_append_left _ z
            · rcases List.mem_append.mp hx with z | z
              · exact List.mem_cons_of_mem _ z
              · rw [List.mem_singleton.mp z]; exact List.mem_cons_self
  exact loop ps [] [] .u .u rfl (by decide) ⟨(fun r h => by cases h), List.Pairwise.nil⟩ (fun u => Iff.rfl) rfl (fun d z => nomatch z) (fun d z => nomatch z)
end VL.C

set_option Elab.async false
set_option linter.all false
set_option maxRecDepth 100000
set_option maxHeartbeats 400000
/-! VC4: a code is made -/
namespace VL.C
open PySem PySem.Spec PyProof.Rows L2 VL VL.P
theorem atI_nat {α : Type} {xs : List α} {k : Nat} {x : α} (h : xs[k]? = some x) : atI xs (k : Int) = some x := by
  obtain ⟨h1, _⟩ := List.getElem?_eq_some_iff.mp h
  unfold atI ixN
  rw [if_pos (Int.natCast_nonneg k), if_pos (by omega)]
  exact h
theorem cmt_comm (p q : Pa) : cmt p q = cmt q p := by
  unfold cmt
  rw [Nat.and_comm p.x, Nat.and_comm p.z, Bool.eq_iff_iff, beq_iff_eq, beq_iff_eq]
  exact eq_comm
theorem cmt_self (p : Pa) : cmt p p = true := by
  unfold cmt
  rw [Nat.and_comm, beq_self_eq_true]
def okp (ps : List Pa) (X Z : Pa) (i o : Nat) : Bool := cmt ((ps ++ [X, Z]).getD i ⟨0, 0, 0⟩) ((ps ++ [X, Z]).getD o ⟨0, 0, 0⟩) == (decide (o < ps.length) || decide (i < ps.length + 1))
theorem getD_ps {ps : List Pa} {X Z : Pa} {i : Nat} (h : i < ps.length) : (ps ++ [X, Z]).getD i ⟨0, 0, 0⟩ = ps[i] := by
  rw [List.getD_eq_getElem?_getD, List.getElem?_append_left h, List.getElem?_eq_getElem h]
  rfl
theorem getD_X {ps : List Pa} {X Z : Pa} : (ps ++ [X, Z]).getD ps.length ⟨0, 0, 0⟩ = X := by
  rw [List.getD_eq_getElem?_getD, List.getElem?_append_right (Nat.le_refl _), Nat.sub_self]
  rfl
theorem getD_Z {ps : List Pa} {X Z : Pa} : (ps ++ [X, Z]).getD (ps.length + 1) ⟨0, 0, 0⟩ = Z := by
  rw [List.getD_eq_getElem?_getD, List.getElem?_append_right (Nat.le_succ _), show ps.length + 1 - ps.length = 1 by omega]
  rfl
theorem okp_all (ps : List Pa) (X Z : Pa) : (∀ i < ps.length + 2, ∀ o < i, okp ps X Z i o = true) ↔ (ps.all (fun r => cmt r X && cmt r Z && ps.all (cmt r)) && !cmt X Z) = true := by
  simp only [Bool.and_eq_true, List.all_eq_true, Bool.not_eq_true', okp, beq_iff_eq]
  constructor
  · intro h
    refine ⟨fun r hr => ?_, ?_⟩
    · obtain ⟨j, hj, rfl⟩ := List.getElem_of_mem hr
      refine ⟨⟨?_, ?_⟩, fun q hq => ?_⟩
      · have := h ps.length (by omega) j hj
        rw [getD_X, getD_ps hj, decide_eq_true hj, cmt_comm] at this
        exact this
      · have := h (ps.length + 1) (by omega) j (by omega)
        rw [getD_Z, getD_ps hj, decide_eq_true hj, cmt_comm] at this
        exact this
      · obtain ⟨l, hl, rfl⟩ := List.getElem_of_mem hq
        rcases Nat.lt_trichotomy j l with e | e | e
        · have := h l (by omega) j e
          rw [getD_ps hl, getD_ps hj, decide_eq_true hj, cmt_comm] at this
          exact this
        · subst e
          exact cmt_self _
        · have := h j (by omega) l e
          rw [getD_ps hl, getD_ps hj, decide_eq_true hl] at this
          exact this
    · have := h (ps.length + 1) (by omega) ps.length (by omega)
      rw [getD_Z, getD_X, decide_eq_false (by omega), decide_eq_false (by omega), cmt_comm] at this
      exact this
  · rintro ⟨h1, h2⟩ i hi o ho
    by_cases c1 : i < ps.length
    · have ho' : o < ps.length := by omega
      rw [getD_ps c1, getD_ps ho', decide_eq_true ho']
      exact (h1 _ (List.getElem_mem c1)).2 _ (List.getElem_mem ho')
    · by_cases c2 : i = ps.length
      · subst c2
        rw [getD_X, getD_ps ho, decide_eq_true ho, cmt_comm]
        exact (h1 _ (List.getElem_mem ho)).1.1
      · have c3 : i = ps.length + 1 := by omega
        subst c3
        by_cases c4 : o < ps.length
        · rw [getD_Z, getD_ps c4, decide_eq_true c4, cmt_comm]
          exact (h1 _ (List.getElem_mem c4)).1.2
        · have c5 : o = ps.length := by omega
          subst c5
          rw [getD_Z, getD_X, decide_eq_false (by omega), decide_eq_false (by omega), cmt_comm]
          exact h2
theorem dP_e (p : Pa) : dP p.e = p := by
  show (⟨(p.x : Int).toNat, (p.z : Int).toNat, (p.s : Int).toNat⟩ : Pa) = p
  simp only [Int.toNat_natCast]
theorem dP_map (ps : List Pa) : (ps.map Pa.e).map dP = ps := by
  rw [List.map_map]
  exact (List.map_congr_left fun p _ => dP_e p).trans (List.map_id ps)
theorem paD_bd {n : Nat} {p : Pa} : paD n p.e = true ↔ Bd n p := by
  rw [paD_e]
  simp only [Bool.and_eq_true, decide_eq_true_eq]
  exact ⟨fun h => ⟨h.1, h.2.1, h.2.2⟩, fun h => ⟨h.x, h.z, h.s⟩⟩
/-- the state of __init__ -/
def stC (a : Addr) (n g x z r : D) (u6 u7 u8 : Sl) (h : Oh) : Sg := ⟨[.f (.obj a), .f n, .f g, .f x, .f z, .f r, u6, u7, u8], h⟩
section
variable {R : D → Oh → Prop} {Y : XC} {h : Oh} {a : Addr} {n : Nat} {ps : List Pa} {X Z : Pa}
abbrev rws (ps : List Pa) (X Z : Pa) : D := .lst ((ps ++ [X, Z]).map Pa.e)
theorem rws_at {i : Nat} (hi : i < ps.length + 2) : atI ((ps ++ [X, Z]).map Pa.e) (i : Int) = some (((ps ++ [X, Z]).getD i ⟨0, 0, 0⟩).e) := by
  refine atI_nat ?_
  have hl : i < (ps ++ [X, Z]).length := by rw [List.length_append]; exact hi
  rw [List.getElem?_map, List.getD_eq_getElem?_getD, List.getElem?_eq_getElem hl]
  rfl
theorem inner (hn : ps.length + 1 = n) (T : We) {i : Nat} (hi : i < ps.length + 2) (u8 : Sl) : ∀ (l : List Nat) (u : Sl), (∀ o ∈ l, o < i) →
    ((∀ o ∈ l, okp ps X Z i o = true) → ∀ u, T.nx (stC a (.int n) (.tup (ps.map Pa.e)) X.e Z.e (rws ps X Z) (.f (.int i)) u u8 h)) →
    (¬ (∀ o ∈ l, okp ps X Z i o = true) → ∀ u, T.xx "NotValid" [] (stC a (.int n) (.tup (ps.map Pa.e)) X.e Z.e (rws ps X Z) (.f (.int i)) u u8 h)) →
    wForL (gVar 7) w_Code___init___b2 T (l.map fun k => .int (k : Nat)) (stC a (.int n) (.tup (ps.map Pa.e)) X.e Z.e (rws ps X Z) (.f (.int i)) u u8 h)
  | [], u, _, h1, _ => h1 (fun o ho => by cases ho) u
  | o :: l, u, hl, h1, h2 => by
    have ho : o < i := hl o List.mem_cons_self
    have ih := inner hn T hi u8 l (.f (.int o)) (fun o ho => hl o (List.mem_cons_of_mem _ ho))
    refine forv ?_
    refine ⟨_, rws_at hi, _, rws_at (by omega), _, _, rfl, ?_⟩
    have e1 : decide ((o : Int) < (n : Int) - 1) = decide (o < ps.length) := decide_eq_decide.mpr (by omega)
    have e2 : decide ((i : Int) < (n : Int)) = decide (i < ps.length + 1) := decide_eq_decide.mpr (by omega)
    have fin : ∀ b, b = (decide (o < ps.length) || decide (i < ps.length + 1)) →
        Br (!(cmt ((ps ++ [X, Z]).getD i ⟨0, 0, 0⟩) ((ps ++ [X, Z]).getD o ⟨0, 0, 0⟩) == b)) (T.xx "NotValid" [] (stC a (.int n) (.tup (ps.map Pa.e)) X.e Z.e (rws ps X Z) (.f (.int i)) (.f (.int o)) u8 h))
          (wForL (gVar 7) w_Code___init___b2 T (l.map fun k => .int (k : Nat)) (stC a (.int n) (.tup (ps.map Pa.e)) X.e Z.e (rws ps X Z) (.f (.int i)) (.f (.int o)) u8 h)) := fun b hb => by
      subst hb
      change Br (!(okp ps X Z i o)) _ _
      cases q : okp ps X Z i o with
      | false => exact brT rfl (h2 (fun z => by rw [z o List.mem_cons_self] at q; cases q) _)
      | true =>
        refine brF rfl (ih (fun z => h1 fun y hy => ?_) fun z => h2 fun w => z fun y hy => w y (List.mem_cons_of_mem _ hy))
        rcases List.mem_cons.mp hy with rfl | hy
        · exact q
        · exact z y hy
    show Br (decide ((o : Int) < (n : Int) - 1)) _ _
    rw [e1]
    refine br (fun q => ?_) (fun q => ?_)
    · exact fin true (by rw [q]; rfl)
    · refine fin (decide ((i : Int) < (n : Int))) (by rw [e2, q]; rfl)
theorem outer (hn : ps.length + 1 = n) (T : We) (u8 : Sl) : ∀ (l : List Nat) (u6 u7 : Sl), (∀ i ∈ l, i < ps.length + 2) → ps.length ≤ 100 →
    ((∀ i ∈ l, ∀ o < i, okp ps X Z i o = true) → ∀ u6 u7, T.nx (stC a (.int n) (.tup (ps.map Pa.e)) X.e Z.e (rws ps X Z) u6 u7 u8 h)) →
    (¬ (∀ i ∈ l, ∀ o < i, okp ps X Z i o = true) → ∀ u6 u7, T.xx "NotValid" [] (stC a (.int n) (.tup (ps.map Pa.e)) X.e Z.e (rws ps X Z) u6 u7 u8 h)) →
    wForL (gVar 6) w_Code___init___b1 T (l.map fun k => .int (k : Nat)) (stC a (.int n) (.tup (ps.map Pa.e)) X.e Z.e (rws ps X Z) u6 u7 u8 h)
  | [], u6, u7, _, _, h1, _ => h1 (fun o ho => by cases ho) u6 u7
  | i :: l, u6, u7, hl, hp, h1, h2 => by
    have hi : i < ps.length + 2 := hl i List.mem_cons_self
    refine forv ?_
    refine ⟨⟨by omega, by omega⟩, ?_⟩
    rw [Int.toNat_natCast]
    refine inner hn _ hi u8 (List.range i) u7 (fun o ho => List.mem_range.mp ho) (fun z u => ?_) (fun z u => ?_)
    · refine outer hn T u8 l _ _ (fun o ho => hl o (List.mem_cons_of_mem _ ho)) hp (fun w => h1 fun y hy => ?_) fun w => h2 fun v => w fun y hy => v y (List.mem_cons_of_mem _ hy)
      rcases List.mem_cons.mp hy with rfl | hy
      · exact fun o ho => z o (List.mem_range.mpr ho)
      · exact w y hy
    · exact h2 (fun w => z fun o ho => w i List.mem_cons_self o (List.mem_range.mp ho)) _ _
end
end VL.C

set_option Elab.async false
set_option linter.all false
set_option maxRecDepth 100000
set_option maxHeartbeats 400000
namespace VL.C
open PySem PySem.Spec PyProof.Rows L2 VL VL.P
theorem fm_some {α β : Type} (f : α → β) : ∀ l : List α, l.filterMap (fun d => some (f d)) = l.map f
  | [] => rfl
  | a :: l => by rw [List.filterMap_cons, List.map_cons, fm_some f l]
theorem lenLine {n : Nat} (h : n ≤ 1000000) : n ≤ sizeLine := Nat.le_trans h (by decide)
section
variable {R : D → Oh → Prop} {Y : XC} {h : Oh} {a : Addr}
theorem fields (n g x z r : D) (u6 u7 u8 : Sl) (ha : h a = some (.ins "Code" [])) (hR : R .non (h.put a (.ins "Code" (codeF n g x z)))) : w_Code___init___5 (FiX R Y) (stC a n g x z r u6 u7 u8 h) := by
  refine ⟨a, _, rfl, ha, by decide, ?_⟩
  refine ⟨a, _, rfl, Oh.put_same, (by show (1 : Nat) < 1000; decide), ?_⟩
  refine ⟨a, _, rfl, Oh.put_same, (by show (2 : Nat) < 1000; decide), ?_⟩
  refine ⟨a, _, rfl, Oh.put_same, (by show (3 : Nat) < 1000; decide), ?_⟩
  refine ⟨a, _, rfl, Oh.put_same, (by show (4 : Nat) < 1000; decide), ?_⟩
  refine ⟨a, _, rfl, Oh.put_same, (by show (5 : Nat) < 1000; decide), ?_⟩
  show R .non ((((((h.put a _).put a _).put a _).put a _).put a _).put a _)
  rw [Oh.put_put, Oh.put_put, Oh.put_put, Oh.put_put, Oh.put_put]
  exact hR
theorem isC_int (k : Int) (ps : List Pa) (x z : D) : isC (.int k) (.tup (ps.map Pa.e)) x z = (decide (1 ≤ k) && decide (k ≤ 13) && decide (((ps.map Pa.e).length : Int) = k - 1) && ((ps.map Pa.e) ++ [x, z]).all (paD k.toNat) && semL ps (dP x) (dP z)) := by
  show (decide (1 ≤ k) && decide (k ≤ 13) && decide (((ps.map Pa.e).length : Int) = k - 1) && ((ps.map Pa.e) ++ [x, z]).all (paD k.toNat) && semL ((ps.map Pa.e).map dP) (dP x) (dP z)) = _
  rw [dP_map]
/-- behind the first look -/
theorem init1 {n : Nat} {ps : List Pa} {x z : D} (h1 : 1 ≤ n) (h2 : n ≤ 13) (hb : ∀ p ∈ ps, Bd 13 p) (hl : ps.length ≤ 13) (hx : ∃ p : Pa, x = p.e ∧ Bd 13 p) (hz : DomV z) (ha : h a = some (.ins "Code" []))
    (hT : isC (.int n) (.tup (ps.map Pa.e)) x z = true → R .non (h.put a (.ins "Code" (codeF (.int n) (.tup (ps.map Pa.e)) x z)))) (hF : isC (.int n) (.tup (ps.map Pa.e)) x z = false → Y "NotValid" [] h) :
    w_Code___init___1 (FiX R Y) (stC a (.int n) (.tup (ps.map Pa.e)) x z .non .u .u .u h) := by
  rw [isC_int] at hT hF
  have lm : (ps.map Pa.e).length = ps.length := List.length_map _
  refine ⟨lenLine (by show (ps.map Pa.e).length + 2 ≤ 1000000; omega), ?_⟩
  change w_Code___init___2 (FiX R Y) (stC a (.int n) (.tup (ps.map Pa.e)) x z (.lst (ps.map Pa.e ++ [x, z])) .u .u .u h)
  have rest : ((ps.map Pa.e).length : Int) = (n : Int) - 1 → ((ps.map Pa.e) ++ [x, z]).all (paD n) = true → w_Code___init___3 (FiX R Y) (stC a (.int n) (.tup (ps.map Pa.e)) x z (.lst (ps.map Pa.e ++ [x, z])) .u .u .u h) := fun e1 e2 => by
    rw [decide_eq_true (show (1 : Int) ≤ n by omega), decide_eq_true (show (n : Int) ≤ 13 by omega), decide_eq_true e1, Int.toNat_natCast, e2] at hT hF
    simp only [Bool.true_and] at hT hF
    have e3 : ps.length + 1 = n := by omega
    obtain ⟨X, rfl, hX⟩ := hx
    have all := List.all_eq_true.mp e2
    obtain ⟨Z, rfl, hZ⟩ : ∃ Z : Pa, z = Z.e ∧ Bd 13 Z := by
      have hz2 := all z (by simp)
      rcases hz with h | rfl | ⟨p, rfl⟩
      · exact h
      · cases hz2
      · cases hz2
    rw [dP_e, dP_e] at hT hF
    have bd : ∀ p ∈ ps, Bd n p := fun p hp => paD_bd.mp (all _ (List.mem_append_left _ (List.mem_map.mpr ⟨p, hp, rfl⟩)))
    have er : ps.map Pa.e ++ [X.e, Z.e] = (ps ++ [X, Z]).map Pa.e := by rw [List.map_append]; rfl
    rw [er]
    refine ⟨⟨?_, ?_⟩, ?_⟩
    · show -(2 : Int) ^ 62 ≤ (((ps ++ [X, Z]).map Pa.e).length : Nat)
      omega
    · show ((((ps ++ [X, Z]).map Pa.e).length : Nat) : Int) < 2 ^ 62
      rw [List.length_map, List.length_append]
      show ((ps.length + 2 : Nat) : Int) < 2 ^ 62
      omega
    have e4 : ((((ps ++ [X, Z]).map Pa.e).length : Nat) : Int).toNat = ps.length + 2 := by rw [List.length_map, List.length_append]; rfl
    rw [e4]
    have sem : semL ps X Z = (ps.all (fun r => cmt r X && cmt r Z && ps.all (cmt r)) && !cmt X Z && decide ((spP (ps.map mk)).Nodup)) := by
      unfold semL
      rw [Bool.and_assoc, Bool.and_comm (decide _), ← Bool.and_assoc]
    rw [sem] at hT hF
    have key := okp_all ps X Z
    refine outer e3 _ .u (List.range (ps.length + 2)) .u .u (fun i hi => List.mem_range.mp hi) (by omega) (fun w u6 u7 => ?_) fun w u6 u7 => ?_
    · rw [key.mp fun i hi => w i (List.mem_range.mpr hi), Bool.true_and] at hT hF
      refine ⟨ps, n, rfl, h2, by omega, bd, ?_⟩
      show Br (!(decide ((spP (ps.map mk)).Nodup))) _ _
      refine br (fun q => ?_) fun q => ?_
      · exact hF (by simpa using q)
      · exact fields _ _ _ _ _ _ _ _ ha (hT (by simpa using q))
    · have q : (ps.all (fun r => cmt r X && cmt r Z && ps.all (cmt r)) && !cmt X Z) = false := by
        cases q : (ps.all (fun r => cmt r X && cmt r Z && ps.all (cmt r)) && !cmt X Z) with
        | false => rfl
        | true => exact absurd (fun i hi => key.mpr q i (List.mem_range.mp hi)) w
      rw [q] at hF
      exact hF rfl
  refine br (fun q => ?_) fun q => ?_
  · refine brT rfl ?_
    have : ¬ ((ps.map Pa.e).length : Int) = (n : Int) - 1 := by simpa using q
    rw [decide_eq_false this] at hF
    exact hF (by simp)
  · have e1 : ((ps.map Pa.e).length : Int) = (n : Int) - 1 := by simpa using q
    refine ⟨rfl, (by show (ps.map Pa.e ++ [x, z]).length ≤ 1000000; rw [List.length_append]; show (ps.map Pa.e).length + 2 ≤ _; omega), ?_⟩
    refine lcL_run (fun d => some (.bl (paD n d))) _ _ (fun d hd C hC => ?_) ?_
    · refine brT rfl ⟨d, n, rfl, h2, ?_, rfl, hC⟩
      rcases List.mem_append.mp hd with w | w
      · obtain ⟨p, hp, rfl⟩ := List.mem_map.mp w
        exact .inl ⟨p, rfl, hb p hp⟩
      · simp only [List.mem_cons, List.not_mem_nil, or_false] at w
        rcases w with rfl | rfl
        · obtain ⟨p, e, hp⟩ := hx
          exact .inl ⟨p, e, hp⟩
        · exact hz
    · refine ⟨(ps.map Pa.e ++ [x, z]).map (paD n), ?_, ?_⟩
      · show [] ++ List.filterMap _ _ = _
        rw [List.nil_append, fm_some, List.map_map]
        rfl
      · show Br (!(List.all ((ps.map Pa.e ++ [x, z]).map (paD n)) id)) _ _
        have e : List.all ((ps.map Pa.e ++ [x, z]).map (paD n)) id = (ps.map Pa.e ++ [x, z]).all (paD n) := by rw [List.all_map]; rfl
        rw [e]
        cases q : (ps.map Pa.e ++ [x, z]).all (paD n) with
        | false =>
          rw [Int.toNat_natCast, q] at hF
          refine brT rfl (hF ?_)
          rw [Bool.and_false, Bool.false_and]
        | true => exact brF rfl (rest e1 q)
end
theorem pk_Code___init__ : PkX 5 4 sp_Code___init__ w_Code___init__ := by
  rintro ds h R Y _ ⟨a, n, g, x, z, rfl, dom, ha, hT, hF⟩
  have hF' := fun e => hF e h (But.refl _ _)
  obtain ⟨ps, hg, hl, hb⟩ := dom.g
  have fail1 : ∀ b, ntD n = some b → b = false → isC n g x z = false → w_Code___init__ (FiX R Y) ⟨[D.obj a, n, g, x, z].map .f ++ List.replicate 4 .u, h⟩ := fun b h1 h2 h3 => by
    subst h2
    exact ⟨n, false, rfl, h1, brT rfl (brT rfl (hF' h3))⟩
  rcases dom.n with rfl | rfl | rfl | ⟨k, hk, rfl⟩
  · exact fail1 false rfl rfl rfl
  · exact fail1 false rfl rfl rfl
  · exact fail1 false rfl rfl rfl
  · refine ⟨_, true, rfl, congrArg some (decide_eq_true (Int.natCast_nonneg k)), brF rfl ?_⟩
    show Br (decide ((1 : Int) ≤ (k : Int))) _ _
    refine br (fun q1 => ?_) fun q1 => ?_
    · show Br (!(decide ((k : Int) ≤ 13))) _ _
      refine br (fun q2 => ?_) fun q2 => ?_
      · refine brT rfl (hF' ?_)
        have : decide ((k : Int) ≤ 13) = false := by simpa using q2
        rcases hg with rfl | rfl
        · rw [isC_int, this]; simp
        · rfl
      · have hk1 : 1 ≤ k := by have := of_decide_eq_true q1; omega
        have hk2 : k ≤ 13 := by
          have : decide ((k : Int) ≤ 13) = true := by simpa using q2
          have := of_decide_eq_true this
          omega
        rcases hg with rfl | rfl
        · exact ⟨true, rfl, brF rfl (init1 hk1 hk2 hb hl dom.x dom.z ha hT hF')⟩
        · exact ⟨false, rfl, brT rfl (hF' rfl)⟩
    · refine brT rfl (brT rfl (hF' ?_))
      rcases hg with rfl | rfl
      · rw [isC_int, q1]; rfl
      · rfl
end VL.C

set_option Elab.async false
set_option linter.all false
set_option maxRecDepth 100000
set_option maxHeartbeats 400000
/-! VC6: the law's look at a code -/
namespace VL.C
open PySem PySem.Spec PyProof.Rows L2 VL VL.P
theorem pk__law_is_pauli : Pk 2 1 sp__law_is_pauli w__law_is_pauli := by
  rintro ds h R _ ⟨d, n, rfl, hn, hd, hR⟩
  rcases hd with ⟨p, rfl, _⟩ | rfl | ⟨p, rfl⟩
  · refine ⟨true, rfl, brF rfl (brF rfl ?_)⟩
    refine ⟨rfl, (by show (3 : Nat) ≤ 1000000; decide), ?_⟩
    refine lcL_run (fun _ => some (.bl true)) _ _ (fun x hx C hC => ?_) ?_
    · have hx' : x ∈ [D.int p.x, D.int p.z, D.int p.s] := hx
      simp only [List.mem_cons, List.not_mem_nil, or_false] at hx'
      obtain ⟨k, rfl⟩ : ∃ k : Nat, x = .int k := by
        rcases hx' with e | e | e
        · exact ⟨_, e⟩
        · exact ⟨_, e⟩
        · exact ⟨_, e⟩
      refine brT rfl ⟨true, rfl, brT rfl ⟨false, rfl, brT rfl ?_⟩⟩
      show _ ∧ C (some (.bl (decide ((0 : Int) ≤ (k : Int))))) h
      rw [decide_eq_true (Int.natCast_nonneg k)]
      exact ⟨rfl, hC⟩
    · refine ⟨[true, true, true], rfl, ?_⟩
      exact brF rfl (pa_end hn hR)
  · exact ⟨false, rfl, brT rfl (brT rfl hR)⟩
  · exact ⟨true, rfl, brF rfl (brT rfl hR)⟩
/-! ### as many members as items -/
theorem sub_len {α : Type} [DecidableEq α] : ∀ (L ks : List α), L.Nodup → (∀ x ∈ L, x ∈ ks) → L.length ≤ ks.length ∧ (ks.length ≤ L.length → ks.Perm L)
  | [], ks, _, _ => ⟨Nat.zero_le _, fun h => by
    have : ks = [] := List.length_eq_zero_iff.mp (Nat.le_zero.mp h)
    rw [this]⟩
  | a :: L, ks, hn, hs => by
    have ha : a ∈ ks := hs a List.mem_cons_self
    have p := List.perm_cons_erase ha
    obtain ⟨h1, h2⟩ := List.nodup_cons.mp hn
    obtain ⟨i1, i2⟩ := sub_len L (ks.erase a) h2 fun x hx => (List.mem_erase_of_ne (fun e => by subst e; exact h1 hx)).mpr (hs x (List.mem_cons_of_mem _ hx))
    have e := p.length_eq
    rw [List.length_cons] at e
    exact ⟨by rw [List.length_cons]; omega, fun h => p.trans ((i2 (by rw [List.length_cons] at h; omega)).cons a)⟩
theorem set_len {α : Type} [DecidableEq α] {L ks : List α} (hn : L.Nodup) (hm : ∀ x, x ∈ L ↔ x ∈ ks) : (L.length = ks.length) ↔ ks.Nodup := by
  obtain ⟨h1, h2⟩ := sub_len L ks hn fun x hx => (hm x).mp hx
  constructor
  · intro e
    exact (h2 (by omega)).nodup_iff.mpr hn
  · intro k
    have := (sub_len ks L k fun x hx => (hm x).mpr hx).1
    omega
theorem bd_prd {p q : Pa} {n : Nat} (hp : Bd n p) (hq : Bd n q) : Bd n (prd p q) := ⟨Nat.xor_lt_two_pow hp.x hq.x, Nat.xor_lt_two_pow hp.z hq.z, prd_s p q⟩
theorem bd0 (n : Nat) : Bd n ⟨0, 0, 0⟩ := ⟨Nat.pow_pos (by decide), Nat.pow_pos (by decide), by decide⟩
/-- the products, as the law lists them -/
def pds (acc : List Pa) (ps : List Pa) : List Pa := spg prd acc ps
theorem pds_mk (ps : List Pa) : (pds [⟨0, 0, 0⟩] ps).map mk = spP (ps.map mk) := spg_map (φ := mk) (g := adP) (fun _ _ => rfl) ps _
theorem spg_len {α : Type} (f : α → α → α) : ∀ (l acc : List α), (spg f acc l).length = acc.length * 2 ^ l.length
  | [], acc => by simp [spg]
  | v :: l, acc => by
    show (spg f (acc ++ acc.map (f v)) l).length = _
    rw [spg_len f l, List.length_append, List.length_map, List.length_cons, Nat.pow_succ]
    rw [← Nat.two_mul, Nat.mul_comm 2, Nat.mul_assoc, Nat.mul_comm 2]
section
variable {R : D → Oh → Prop} {h : Oh} {n : Nat} {ps : List Pa} {X Z : Pa}
def stL (n g x z p : D) (u5 u6 : Sl) (h : Oh) : Sg := ⟨[.f n, .f g, .f x, .f z, .f p, u5, u6], h⟩
theorem code_end (hX : Bd 13 X) (hZ : Bd 13 Z) (pl : List Pa) (hl : pl.length < 64) (g : D) (n : D) (u5 u6 : Sl) (h5 : ∀ d, u5 ≠ .o d) (hR : R (.bl (decide ((pl.map mk).Nodup) && !cmt X Z)) h) : w__law_is_code_4 (Fi R) (stL n g X.e Z.e (.lst (pl.map Pa.e)) u5 u6 h) := by
  refine ⟨?_, (by show (pl.map Pa.e).length ≤ 1000000; rw [List.length_map]; omega), ?_⟩
  · cases u5 with
    | o d => exact absurd rfl (h5 d)
    | u => rfl
    | f d => rfl
  refine lcL_run (fun d => some (tupI [((dP d).x : Int), ((dP d).z : Int)])) _ _ (fun d hd C hC => ?_) ?_
  · obtain ⟨p, hp, rfl⟩ := List.mem_map.mp hd
    rw [dP_e] at hC
    exact brT rfl ⟨rfl, hC⟩
  rw [List.nil_append, fm_some]
  have e1 : (pl.map Pa.e).map (fun d => tupI [((dP d).x : Int), ((dP d).z : Int)]) = ((pl.map mk).map fun a => [((a.1 : Nat) : Int), ((a.2 : Nat) : Int)]).map tupI := by
    rw [List.map_map, List.map_map, List.map_map]
    refine List.map_congr_left fun p _ => ?_
    show tupI [((dP p.e).x : Int), ((dP p.e).z : Int)] = _
    rw [dP_e]
    rfl
  refine ⟨_, congrArg D.lst e1, by rw [List.length_map, List.length_map]; exact hl, fun L n1 n2 => ?_⟩
  have key := set_len n1 n2
  have inj : ((pl.map mk).map fun a => [((a.1 : Nat) : Int), ((a.2 : Nat) : Int)]).Nodup ↔ (pl.map mk).Nodup := nodup_map_on fun a _ b _ e => by
    injection e with e1 e2
    injection e2 with e2 _
    exact Prod.ext (by omega) (by omega)
  rw [inj, List.length_map, List.length_map] at key
  show Br (((L.length : Nat) : Int) == (((pl.map Pa.e).length : Nat) : Int)) _ _
  have e2 : (((L.length : Nat) : Int) == (((pl.map Pa.e).length : Nat) : Int)) = decide ((pl.map mk).Nodup) := by
    rw [List.length_map, Bool.eq_iff_iff, beq_iff_eq, decide_eq_true_iff, ← key]
    omega
  rw [e2]
  refine br (fun q => ?_) fun q => ?_
  · rw [q] at hR
    exact ⟨X, Z, rfl, hR⟩
  · rw [q] at hR
    exact hR
theorem code_loop (hps : ps.length ≤ 5) (hb : ∀ p ∈ ps, Bd 13 p) (hX : Bd 13 X) (hZ : Bd 13 Z) (hR : R (.bl (semL ps X Z)) h) : ∀ (qs dn : List Pa) (u5 u6 : Sl), (∀ d, u5 ≠ .o d) → (∀ d, u6 ≠ .o d) → ps = dn ++ qs → (∀ r ∈ dn, (cmt r X && cmt r Z && ps.all (cmt r)) = true) →
    wForL (gVar 5) w__law_is_code_b1 { Fi R with nx := w__law_is_code_4 (Fi R) } (qs.map Pa.e) (stL (.int n) (.tup (ps.map Pa.e)) X.e Z.e (.lst ((pds [⟨0, 0, 0⟩] dn).map Pa.e)) u5 u6 h)
  | [], dn, u5, u6, h5, h6, e, hd => by
    rw [List.append_nil] at e
    subst e
    refine code_end hX hZ _ (by unfold pds; rw [spg_len]; have : 2 ^ ps.length ≤ 2 ^ 5 := Nat.pow_le_pow_right (by decide) hps; show 1 * _ < 64; omega) _ _ u5 u6 h5 ?_
    have e : semL ps X Z = (decide (((pds [⟨0, 0, 0⟩] ps).map mk).Nodup) && !cmt X Z) := by
      unfold semL
      rw [List.all_eq_true.mpr hd, Bool.true_and, pds_mk]
    rw [← e]
    exact hR
  | q :: qs, dn, u5, u6, h5, h6, e, hd => by
    have hq : q ∈ ps := by rw [e]; simp
    have no : (cmt q X && cmt q Z && ps.all (cmt q)) = false → semL ps X Z = false := fun z => by
      unfold semL
      have : ps.all (fun r => cmt r X && cmt r Z && ps.all (cmt r)) = false := by
        cases w : ps.all (fun r => cmt r X && cmt r Z && ps.all (cmt r)) with
        | false => rfl
        | true => rw [List.all_eq_true.mp w q hq] at z; cases z
      rw [this]
      rfl
    have hlen : (pds [⟨0, 0, 0⟩] dn).length ≤ 32 := by
      unfold pds
      rw [spg_len]
      have h1 : dn.length ≤ ps.length := by rw [e, List.length_append]; omega
      have : 2 ^ dn.length ≤ 2 ^ 5 := Nat.pow_le_pow_right (by decide) (by omega)
      show 1 * _ ≤ 32
      omega
    refine forv ?_
    refine ⟨q, X, rfl, ?_⟩
    refine br (fun b1 => ?_) fun b1 => ?_
    · have : cmt q X = false := by simpa using b1
      rw [no (by rw [this]; rfl)] at hR
      exact brT rfl hR
    refine ⟨q, Z, rfl, ?_⟩
    refine br (fun b2 => ?_) fun b2 => ?_
    · have : cmt q Z = false := by simpa using b2
      rw [no (by rw [this, Bool.and_false]; rfl)] at hR
      exact hR
    have c1 : cmt q X = true := by simpa using b1
    have c2 : cmt q Z = true := by simpa using b2
    have no6 : noOwn (stL (.int n) (.tup (ps.map Pa.e)) X.e Z.e (.lst ((pds [⟨0, 0, 0⟩] dn).map Pa.e)) (.f q.e) u6 h).s [6] = true := by
      cases u6 with
      | o d => exact absurd rfl (h6 d)
      | u => rfl
      | f d => rfl
    refine ⟨no6, (by show (ps.map Pa.e).length ≤ 1000000; rw [List.length_map]; omega), ?_⟩
    refine lcL_run (fun d => some (.bl (cmt q (dP d)))) _ _ (fun d hd C hC => ?_) ?_
    · obtain ⟨p, hp, rfl⟩ := List.mem_map.mp hd
      rw [dP_e] at hC
      exact brT rfl ⟨q, p, rfl, rfl, hC⟩
    rw [List.nil_append, fm_some]
    have e1 : (ps.map Pa.e).map (fun d => D.bl (cmt q (dP d))) = (ps.map (cmt q)).map D.bl := by
      rw [List.map_map, List.map_map]
      refine List.map_congr_left fun p _ => ?_
      show D.bl (cmt q (dP p.e)) = _
      rw [dP_e]
      rfl
    refine ⟨ps.map (cmt q), e1, ?_⟩
    have e2 : (ps.map (cmt q)).all id = ps.all (cmt q) := by rw [List.all_map]; rfl
    show Br (!((ps.map (cmt q)).all id)) _ _
    rw [e2]
    refine br (fun b3 => ?_) fun b3 => ?_
    · have : ps.all (cmt q) = false := by simpa using b3
      rw [no (by rw [this, Bool.and_false])] at hR
      exact hR
    have c3 : ps.all (cmt q) = true := by
      cases w : ps.all (cmt q) with
      | true => rfl
      | false => rw [w] at b3; cases b3
    refine ⟨no6, (by show ((pds [⟨0, 0, 0⟩] dn).map Pa.e).length ≤ 1000000; rw [List.length_map]; omega), ?_⟩
    have bd : ∀ p ∈ pds [⟨0, 0, 0⟩] dn, Bd 13 p := spg_all (fun a b ha hb => bd_prd ha hb) dn _ (fun a ha => by rw [List.mem_singleton.mp ha]; exact bd0 13) fun a ha => hb a (by rw [e]; exact List.mem_append_left _ ha)
    refine lcL_run (fun d => some (prd q (dP d)).e) _ _ (fun d hd C hC => ?_) ?_
    · obtain ⟨p, hp, rfl⟩ := List.mem_map.mp hd
      rw [dP_e] at hC
      exact brT rfl ⟨q, p, rfl, hb q hq, bd p hp, rfl, hC⟩
    rw [List.nil_append, fm_some]
    have e3 : ((pds [⟨0, 0, 0⟩] dn).map Pa.e).map (fun d => (prd q (dP d)).e) = ((pds [⟨0, 0, 0⟩] dn).map (prd q)).map Pa.e := by
      rw [List.map_map, List.map_map]
      refine List.map_congr_left fun p _ => ?_
      show (prd q (dP p.e)).e = _
      rw [dP_e]
      rfl
    have e4 : (pds [⟨0, 0, 0⟩] dn).map Pa.e ++ ((pds [⟨0, 0, 0⟩] dn).map (prd q)).map Pa.e = (pds [⟨0, 0, 0⟩] (dn ++ [q])).map Pa.e := by
      rw [← List.map_append]
      unfold pds
      rw [spg_app]
      rfl
    refine ⟨lenLine ?_, ?_⟩
    · rw [List.length_map, List.length_map, List.length_map]; omega
    · have x := code_loop hps hb hX hZ hR qs (dn ++ [q]) (.f q.e) u6 (fun d z => by cases z) h6 (by rw [e]; simp) fun r hr => by
        rcases List.mem_append.mp hr with w | w
        · exact hd r w
        · rw [List.mem_singleton.mp w, c1, c2, c3]; rfl
      rw [← e4, ← e3] at x
      exact x
end
theorem pk__law_is_code : Pk 4 3 sp__law_is_code w__law_is_code := by
  rintro ds h R _ ⟨n, g, x, z, rfl, dom, hg5, hR⟩
  obtain ⟨ps, hg, hl, hb⟩ := dom.g
  rcases dom.n with rfl | rfl | rfl | ⟨k, hk, rfl⟩
  · exact ⟨false, rfl, brT rfl (brT rfl hR)⟩
  · exact ⟨true, rfl, brF rfl ⟨true, rfl, brT rfl (brT rfl hR)⟩⟩
  · exact ⟨false, rfl, brT rfl (brT rfl hR)⟩
  · refine ⟨true, rfl, brF rfl ⟨false, rfl, brF rfl ?_⟩⟩
    refine br (fun q1 => ?_) fun q1 => ?_
    · refine brT rfl ?_
      have q1' : decide ((1 : Int) ≤ k) = false := by
        have := of_decide_eq_true q1
        exact decide_eq_false (by omega)
      rcases hg with rfl | rfl
      · rw [isC_int, q1'] at hR; exact hR
      · exact hR
    have k1 : 1 ≤ k := by have := of_decide_eq_false q1; omega
    refine br (fun q2 => ?_) fun q2 => ?_
    · refine brT rfl ?_
      have q2' : decide ((k : Int) ≤ 13) = false := by
        have := of_decide_eq_true q2
        exact decide_eq_false (by omega)
      rcases hg with rfl | rfl
      · rw [isC_int, q2', Bool.and_false, Bool.false_and, Bool.false_and, Bool.false_and] at hR; exact hR
      · exact hR
    have k13 : k ≤ 13 := by have := of_decide_eq_false q2; omega
    rcases hg with rfl | rfl
    · refine ⟨true, rfl, brF rfl ?_⟩
      have hp5 := hg5 ps rfl
      rw [isC_int, decide_eq_true (show (1 : Int) ≤ k by omega), decide_eq_true (show (k : Int) ≤ 13 by omega), Int.toNat_natCast, Bool.true_and, Bool.true_and] at hR
      have lm : (ps.map Pa.e).length = ps.length := List.length_map _
      change w__law_is_code_1 (Fi R) ⟨[.f (.int k), .f (.tup (ps.map Pa.e)), .f x, .f z, .u, .u, .u], h⟩
      refine br (fun q => ?_) fun q => ?_
      · refine brT rfl ?_
        have : ¬ ((ps.map Pa.e).length : Int) = (k : Int) - 1 := by simpa using q
        rw [decide_eq_false this] at hR
        exact hR
      · have e1 : ((ps.map Pa.e).length : Int) = (k : Int) - 1 := by simpa using q
        rw [decide_eq_true e1, Bool.true_and] at hR
        refine ⟨lenLine (by show (ps.map Pa.e).length + 2 ≤ 1000000; omega), rfl, (by show (ps.map Pa.e ++ [x, z]).length ≤ 1000000; rw [List.length_append]; show (ps.map Pa.e).length + 2 ≤ _; omega), ?_⟩
        refine lcL_run (fun d => some (.bl (paD k d))) _ _ (fun d hd C hC => ?_) ?_
        · refine brT rfl ⟨d, k, rfl, k13, ?_, rfl, hC⟩
          have hd' : d ∈ ps.map Pa.e ++ [x, z] := hd
          rcases List.mem_append.mp hd' with w | w
          · obtain ⟨p, hp, rfl⟩ := List.mem_map.mp w
            exact .inl ⟨p, rfl, hb p hp⟩
          · simp only [List.mem_cons, List.not_mem_nil, or_false] at w
            rcases w with rfl | rfl
            · obtain ⟨p, e, hp⟩ := dom.x
              exact .inl ⟨p, e, hp⟩
            · exact dom.z
        · refine ⟨(ps.map Pa.e ++ [x, z]).map (paD k), ?_, ?_⟩
          · show [] ++ List.filterMap _ _ = _
            rw [List.nil_append, fm_some, List.map_map]
            rfl
          · show Br (!(List.all ((ps.map Pa.e ++ [x, z]).map (paD k)) id)) _ _
            have e : List.all ((ps.map Pa.e ++ [x, z]).map (paD k)) id = (ps.map Pa.e ++ [x, z]).all (paD k) := by rw [List.all_map]; rfl
            rw [e]
            cases q : (ps.map Pa.e ++ [x, z]).all (paD k) with
            | false => rw [q] at hR; exact brT rfl hR
            | true =>
              rw [q, Bool.true_and] at hR
              refine brF rfl ?_
              obtain ⟨X, rfl, hX⟩ := dom.x
              obtain ⟨Z, rfl, hZ⟩ : ∃ Z : Pa, z = Z.e ∧ Bd 13 Z := by
                have hz2 := List.all_eq_true.mp q z (by simp)
                rcases dom.z with h | rfl | ⟨p, rfl⟩
                · exact h
                · cases hz2
                · cases hz2
              rw [dP_e, dP_e] at hR
              exact code_loop hp5 hb hX hZ hR ps [] .u .u (fun d z => by cases z) (fun d z => by cases z) rfl (fun r hr => by cases hr)
    · exact ⟨false, rfl, brT rfl hR⟩
end VL.C

set_option Elab.async false
set_option linter.all false
set_option maxRecDepth 100000
set_option maxHeartbeats 400000
/-! VC7: the law's gates and texts -/
namespace VL.C
open PySem PySem.Spec PyProof.Rows L2 VL VL.P
theorem and_1 (a q : Nat) : Builtin.bitAnd ((a : Int) / 2 ^ ((q : Nat) : Int).toNat) 1 = ((a / 2 ^ q % 2 : Nat) : Int) := by rw [shr_nn, and1_nn]
theorem shlb {b q : Nat} (h : b < 2) (hq : q ≤ 13) : CShl (b : Int) (q : Int) := shl_ok (n := 1) (by omega) (by omega)
theorem xor_lt2 {a b : Nat} (ha : a < 2) (hb : b < 2) : a ^^^ b < 2 := Nat.xor_lt_two_pow (n := 1) ha hb
theorem bit_lt (a q : Nat) : a / 2 ^ q % 2 < 2 := Nat.mod_lt _ (by decide)
theorem pk__law_gate : Pk 4 7 sp__law_gate w__law_gate := by
  rintro ds h R _ ⟨p, g, a, b, rfl, ha, hb, hR⟩
  refine ⟨rfl, ?_⟩
  refine ⟨Int.natCast_nonneg a, Int.natCast_nonneg a, ?_⟩
  change w__law_gate_2 (Fi R) ⟨[.f p.e, .f (.int g), .f (.int a), .f (.int b), .f (.int p.x), .f (.int p.z), .f (.int p.s), .f (.int (Builtin.bitAnd ((p.x : Int) / 2 ^ ((a : Nat) : Int).toNat) 1)), .f (.int (Builtin.bitAnd ((p.z : Int) / 2 ^ ((a : Nat) : Int).toNat) 1)), .u, .u], h⟩
  rw [and_1, and_1]
  unfold gt at hR
  dsimp only at hR
  have l1 := bit_lt p.x a
  have l2 := bit_lt p.z a
  show Br ((g : Int) == 0) _ _
  refine br (fun q => ?_) fun q => ?_
  · have : g = 0 := by simpa using q
    rw [if_pos this] at hR
    refine ⟨?_, ?_, ?_⟩
    · show CShl (Builtin.bitXor _ _) _
      rw [xor_nn]
      exact shlb (xor_lt2 l1 l2) ha
    · show CShl (Builtin.bitXor _ _) _
      rw [xor_nn]
      exact shlb (xor_lt2 l1 l2) ha
    · show R (.tup [.int (Builtin.bitXor p.x (Builtin.bitXor ((p.x / 2 ^ a % 2 : Nat) : Int) ((p.z / 2 ^ a % 2 : Nat) : Int) * 2 ^ ((a : Nat) : Int).toNat)), .int (Builtin.bitXor p.z (Builtin.bitXor ((p.x / 2 ^ a % 2 : Nat) : Int) ((p.z / 2 ^ a % 2 : Nat) : Int) * 2 ^ ((a : Nat) : Int).toNat)), .int (Builtin.bitXor p.s (Builtin.bitAnd ((p.x / 2 ^ a % 2 : Nat) : Int) ((p.z / 2 ^ a % 2 : Nat) : Int)))]) h
      rw [xor_nn, shl_nn, xor_nn, xor_nn, and_nn, xor_nn]
      exact hR
  have ng : ¬ g = 0 := by simpa using q
  rw [if_neg ng] at hR
  have two : g = 1 ∨ a = b → R (.tup [.int p.x, .int (Builtin.bitXor p.z (((p.x / 2 ^ a % 2 : Nat) : Int) * 2 ^ ((a : Nat) : Int).toNat)), .int (Builtin.bitXor p.s (Builtin.bitAnd ((p.x / 2 ^ a % 2 : Nat) : Int) ((p.z / 2 ^ a % 2 : Nat) : Int)))]) h := fun z => by
    rw [if_pos z] at hR
    rw [shl_nn, xor_nn, and_nn, xor_nn]
    exact hR
  show Br ((g : Int) == 1) _ _
  refine br (fun q1 => ?_) fun q1 => ?_
  · have : g = 1 := by
      have : (g : Int) = 1 := by simpa using q1
      omega
    exact brT rfl ⟨shlb l1 ha, two (.inl this)⟩
  have ng1 : ¬ g = 1 := by
    have : ¬ (g : Int) = 1 := by simpa using q1
    omega
  show Br ((a : Int) == b) _ _
  refine br (fun q2 => ?_) fun q2 => ?_
  · have : a = b := by
      have : (a : Int) = b := by simpa using q2
      omega
    exact ⟨shlb l1 ha, two (.inr this)⟩
  have nab : ¬ a = b := by
    have : ¬ (a : Int) = b := by simpa using q2
    omega
  rw [if_neg (by simp [ng1, nab])] at hR
  refine ⟨Int.natCast_nonneg b, Int.natCast_nonneg b, ?_⟩
  change w__law_gate_5 (Fi R) ⟨[.f p.e, .f (.int g), .f (.int a), .f (.int b), .f (.int p.x), .f (.int p.z), .f (.int p.s), .f (.int ((p.x / 2 ^ a % 2 : Nat) : Int)), .f (.int ((p.z / 2 ^ a % 2 : Nat) : Int)), .f (.int (Builtin.bitAnd ((p.x : Int) / 2 ^ ((b : Nat) : Int).toNat) 1)), .f (.int (Builtin.bitAnd ((p.z : Int) / 2 ^ ((b : Nat) : Int).toNat) 1))], h⟩
  rw [and_1, and_1]
  refine ⟨shlb l1 hb, shlb (bit_lt p.z b) ha, ?_⟩
  show R (.tup [.int (Builtin.bitXor p.x (((p.x / 2 ^ a % 2 : Nat) : Int) * 2 ^ ((b : Nat) : Int).toNat)), .int (Builtin.bitXor p.z (((p.z / 2 ^ b % 2 : Nat) : Int) * 2 ^ ((a : Nat) : Int).toNat)), .int (Builtin.bitXor p.s (Builtin.bitAnd (Builtin.bitAnd ((p.x / 2 ^ a % 2 : Nat) : Int) ((p.z / 2 ^ b % 2 : Nat) : Int)) (Builtin.bitXor (Builtin.bitXor 1 ((p.x / 2 ^ b % 2 : Nat) : Int)) ((p.z / 2 ^ a % 2 : Nat) : Int))))]) h
  rw [shl_nn, shl_nn, xor_nn, xor_nn, and_nn, show (1 : Int) = ((1 : Nat) : Int) from rfl, xor_nn, xor_nn, and_nn, xor_nn]
  exact hR
/-! ### words -/
theorem tstr_len (s : Nat) (w : List Nat) : (tstr s w).length = w.length + 1 := by
  show ((((if s = 1 then 45 else 43) : Nat) :: w.map ch).toArray).size = _
  rw [List.size_toArray, List.length_cons, List.length_map]
theorem tstr_at {s : Nat} {w : List Nat} {i k : Nat} (h : w[i]? = some k) : atI (tstr s w).cps.toList (((i : Nat) : Int) + 1) = some (ch k) := by
  have e : ((i : Nat) : Int) + 1 = ((i + 1 : Nat) : Int) := by omega
  rw [e]
  refine atI_nat ?_
  show (w.map ch)[i]? = _
  rw [List.getElem?_map, h]
  rfl
theorem ch_in {k : Nat} (h : k < 4) : (!(Builtin.Str.occurrences (Str.ofString "XY") ⟨#[ch k]⟩ 0 (Str.ofString "XY").length 1).isEmpty) = (bx k == 1) := by
  have c : k = 0 ∨ k = 1 ∨ k = 2 ∨ k = 3 := by omega
  rcases c with rfl | rfl | rfl | rfl <;> decide +kernel
theorem ch_inz {k : Nat} (h : k < 4) : (!(Builtin.Str.occurrences (Str.ofString "ZY") ⟨#[ch k]⟩ 0 (Str.ofString "ZY").length 1).isEmpty) = (bz k == 1) := by
  have c : k = 0 ∨ k = 1 ∨ k = 2 ∨ k = 3 := by omega
  rcases c with rfl | rfl | rfl | rfl <;> decide +kernel
/-- the powers that b picks -/
def pks (b : Nat → Nat) (w : List Nat) : D → Option D
  | .int i => if (match w[i.toNat]? with | some k => b k == 1 | none => false) then some (.int ((2 ^ i.toNat : Nat) : Int)) else none
  | _ => none
theorem pks_list (b : Nat → Nat) (w : List Nat) : ∀ (l : List Nat), ∃ ns : List Nat, (l.map fun k => D.int (k : Nat)).filterMap (pks b w) = ns.map (fun n => .int (n : Nat)) ∧ ns = (l.filter fun i => match w[i]? with | some k => b k == 1 | none => false).map (2 ^ ·)
  | [] => ⟨[], rfl, rfl⟩
  | a :: l => by
    obtain ⟨ns, h1, h2⟩ := pks_list b w l
    have e : pks b w (.int (a : Nat)) = if (match w[a]? with | some k => b k == 1 | none => false) then some (.int ((2 ^ a : Nat) : Int)) else none := rfl
    rw [List.map_cons, List.filterMap_cons, e, h1]
    refine ⟨_, ?_, rfl⟩
    rw [List.filter_cons, h2]
    cases (match w[a]? with | some k => b k == 1 | none => false) <;> rfl
theorem pks_sum (b : Nat → Nat) : ∀ (w : List Nat), (∀ k ∈ w, b k < 2) → (((List.range w.length).filter fun i => match w[i]? with | some k => b k == 1 | none => false).map (2 ^ ·)).sum = wm b w
  | [], _ => rfl
  | k :: w, h => by
    have ih := pks_sum b w fun x hx => h x (List.mem_cons_of_mem _ hx)
    have hk := h k List.mem_cons_self
    rw [List.length_cons, List.range_succ_eq_map, List.filter_cons, List.filter_map]
    have e : (((List.range w.length).filter ((fun i => match (k :: w)[i]? with | some k => b k == 1 | none => false) ∘ Nat.succ)).map Nat.succ).map (2 ^ ·) = (((List.range w.length).filter fun i => match w[i]? with | some k => b k == 1 | none => false).map (2 ^ ·)).map (2 * ·) := by
      rw [List.map_map, List.map_map]
      refine List.map_congr_left fun x _ => ?_
      show 2 ^ (x + 1) = 2 * 2 ^ x
      rw [Nat.pow_succ, Nat.mul_comm]
    have e2 : ∀ l : List Nat, (l.map (2 * ·)).sum = 2 * l.sum := fun l => by
      induction l with
      | nil => rfl
      | cons a l ih => rw [List.map_cons, List.sum_cons, List.sum_cons, ih]; omega
    have e3 : ∀ l : List Nat, (List.map (2 ^ ·) (if (b k == 1) = true then 0 :: l else l)).sum = b k + (List.map (2 ^ ·) l).sum := fun l => by
      rcases m2 _ hk with q | q
      · rw [q]; simp
      · rw [q]; simp
    refine (e3 _).trans ?_
    rw [e, e2, ih]
    rfl
theorem sum_cast : ∀ ns : List Nat, (ns.map fun (n : Nat) => (n : Int)).sum = ((ns.sum : Nat) : Int)
  | [] => rfl
  | n :: ns => by rw [List.map_cons, List.sum_cons, List.sum_cons, sum_cast ns]; omega
theorem get4 {w : List Nat} (hw : Wd w) {i : Nat} (h : i < w.length) : ∃ k, w[i]? = some k ∧ k < 4 := ⟨w[i], List.getElem?_eq_getElem h, hw _ (List.getElem_mem h)⟩
theorem bx_lt {k : Nat} : bx k < 2 := Nat.mod_lt _ (by decide)
theorem bz_lt {k : Nat} (h : k < 4) : bz k < 2 := by unfold bz; omega
theorem pks_at {b : Nat → Nat} {w : List Nat} {i k : Nat} (h : w[i]? = some k) : pks b w (.int (i : Nat)) = if (b k == 1) then some (.int ((2 ^ i : Nat) : Int)) else none := by
  show (if (match w[i]? with | some k => b k == 1 | none => false) then _ else _) = _
  rw [h]
  rfl
theorem range_mem {n : Nat} {x : D} (h : x ∈ (List.range ((n : Nat) : Int).toNat).map fun k => D.int (k : Nat)) : ∃ i < n, x = .int (i : Nat) := by
  obtain ⟨i, hi, rfl⟩ := List.mem_map.mp h
  rw [Int.toNat_natCast, List.mem_range] at hi
  exact ⟨i, hi, rfl⟩
theorem range_len (n : Nat) : ((List.range ((n : Nat) : Int).toNat).map fun k => D.int (k : Nat)).length = n := by rw [List.length_map, List.length_range, Int.toNat_natCast]
theorem len1 (s : Nat) (w : List Nat) : (((tstr s w).length : Nat) : Int) - 1 = ((w.length : Nat) : Int) := by rw [tstr_len]; omega
theorem tstr_line {s : Nat} {w : List Nat} (h : w.length ≤ 30) : (tstr s w).length ≤ sizeLine := lenLine (by rw [tstr_len]; omega)
theorem sg_int (s : Nat) (w : List Nat) (hs : s < 2) : (if ((⟨#[(if s = 1 then 45 else 43 : Nat)]⟩ : Str) == Str.ofString "-") = true then (1 : Int) else 0) = (s : Nat) := by
  rcases m2 s hs with rfl | rfl
  · decide +kernel
  · decide +kernel
theorem pk__law_masks : Pk 1 3 sp__law_masks w__law_masks := by
  rintro ds h R _ ⟨s, w, rfl, hs, hw, hl, hR⟩
  have ll := tstr_line (s := s) hl
  have e0 := len1 s w
  have one : ∀ i : Nat, (1 : Int) * 2 ^ ((i : Nat) : Int).toNat = ((2 ^ i : Nat) : Int) := fun i => by rw [show (1 : Int) = ((1 : Nat) : Int) from rfl, shl_nn, Nat.one_mul]
  have e1 : ((((tstr s w).length : Nat) : Int) - 1).toNat = w.length := by rw [e0, Int.toNat_natCast]
  refine ⟨ll, ⟨by omega, by omega⟩, rfl, ?_, ?_⟩
  · show ((List.range ((((tstr s w).length : Nat) : Int) - 1).toNat).map _).length ≤ 1000000
    rw [e1, List.length_map, List.length_range]
    omega
  refine lcL_run (pks bx w) _ _ (fun x hx C hC => ?_) ?_
  · rw [e0] at hx
    obtain ⟨i, hi, rfl⟩ := range_mem hx
    obtain ⟨k, hk, k4⟩ := get4 hw hi
    rw [pks_at hk] at hC
    refine ⟨ll, ch k, tstr_at hk, ?_⟩
    refine br (fun e => ?_) (fun e => ?_)
    · rw [(ch_in k4).symm.trans e] at hC
      refine ⟨shl_ok (n := 1) (by decide) (by omega), rfl, ?_⟩
      show C (some (.int ((1 : Int) * 2 ^ ((i : Nat) : Int).toNat))) h
      rw [one]
      exact hC
    · rw [(ch_in k4).symm.trans e] at hC
      exact ⟨rfl, hC⟩
  obtain ⟨ns, n1, n2⟩ := pks_list bx w (List.range w.length)
  have hs1 : ns.sum = wm bx w := by rw [n2]; exact pks_sum bx w fun k _ => bx_lt
  refine ⟨ns.map fun (n : Nat) => (n : Int), ?_, ?_⟩
  · show [] ++ List.filterMap (pks bx w) ((List.range ((((tstr s w).length : Nat) : Int) - 1).toNat).map _) = _
    rw [e1, List.nil_append, n1, List.map_map]
    rfl
  rw [sum_cast, hs1]
  change w__law_masks_1 (Fi R) ⟨[.f (.str (tstr s w)), .f (.int (wm bx w : Nat)), .u, .u], h⟩
  refine ⟨ll, ⟨by omega, by omega⟩, rfl, ?_, ?_⟩
  · show ((List.range ((((tstr s w).length : Nat) : Int) - 1).toNat).map _).length ≤ 1000000
    rw [e1, List.length_map, List.length_range]
    omega
  refine lcL_run (pks bz w) _ _ (fun x hx C hC => ?_) ?_
  · rw [e0] at hx
    obtain ⟨i, hi, rfl⟩ := range_mem hx
    obtain ⟨k, hk, k4⟩ := get4 hw hi
    rw [pks_at hk] at hC
    refine ⟨ll, ch k, tstr_at hk, ?_⟩
    refine br (fun e => ?_) (fun e => ?_)
    · rw [(ch_inz k4).symm.trans e] at hC
      refine ⟨shl_ok (n := 1) (by decide) (by omega), rfl, ?_⟩
      show C (some (.int ((1 : Int) * 2 ^ ((i : Nat) : Int).toNat))) h
      rw [one]
      exact hC
    · rw [(ch_inz k4).symm.trans e] at hC
      exact ⟨rfl, hC⟩
  obtain ⟨ns, n1, n2⟩ := pks_list bz w (List.range w.length)
  have hs2 : ns.sum = wm bz w := by rw [n2]; exact pks_sum bz w fun k hk => bz_lt (hw k hk)
  refine ⟨ns.map fun (n : Nat) => (n : Int), ?_, ?_⟩
  · show [] ++ List.filterMap (pks bz w) ((List.range ((((tstr s w).length : Nat) : Int) - 1).toNat).map _) = _
    rw [e1, List.nil_append, n1, List.map_map]
    rfl
  rw [sum_cast, hs2]
  refine ⟨ll, (if s = 1 then 45 else 43), atI_nat (k := 0) (by rfl), ?_⟩
  show R (.tup [.int (wm bx w : Nat), .int (wm bz w : Nat), .int (if ((⟨#[(if s = 1 then 45 else 43 : Nat)]⟩ : Str) == Str.ofString "-") = true then (1 : Int) else 0)]) h
  rw [sg_int s w hs]
  exact hR
theorem cds_str : ∀ c ∈ cds, True := fun _ _ => trivial
theorem pk__law_codes : Pk 0 0 sp__law_codes w__law_codes := by
  rintro ds h R _ ⟨rfl, hR⟩
  exact hR
end VL.C

set_option Elab.async false
set_option linter.all false
set_option maxRecDepth 100000
set_option maxHeartbeats 400000
/-! VC8: gates and products lead codes to codes -/
namespace VL.C
open VL VL.P
/-! ### parities -/
theorem pc_xor : ∀ a b : Nat, pc (a ^^^ b) + 2 * pc (a &&& b) = pc a + pc b := fun a => by
  induction a using Nat.strongRecOn with
  | ind a ih =>
    intro b
    by_cases ha : a = 0
    · subst ha
      rw [Nat.zero_xor, Nat.zero_and, pc_zero]
      omega
    · have x := ih (a / 2) (by omega) (b / 2)
      have p1 := Nat.mod_lt a (show 0 < 2 by decide)
      have p2 := Nat.mod_lt b (show 0 < 2 by decide)
      have e2 := xor2 (a / 2) (b / 2) (a % 2) (b % 2) p1 p2
      have e3 := and2 (a / 2) (b / 2) (a % 2) (b % 2) p1 p2
      rw [Nat.div_add_mod, Nat.div_add_mod] at e2 e3
      rw [e2, e3, pc_step a, pc_step b]
      rcases m2 _ p1 with q | q <;> rcases m2 _ p2 with q' | q' <;> rw [q, q'] <;> (rw [pc2 _ _ (by decide), pc2 _ _ (by decide)]; omega)
theorem xor_and (a b c : Nat) : (a ^^^ b) &&& c = (a &&& c) ^^^ (b &&& c) := Nat.eq_of_testBit_eq fun j => by
  simp only [Nat.testBit_and, Nat.testBit_xor]
  cases a.testBit j <;> cases b.testBit j <;> cases c.testBit j <;> rfl
theorem par_xor (a b c : Nat) : pc ((a ^^^ b) &&& c) % 2 = (pc (a &&& c) + pc (b &&& c)) % 2 := by
  rw [xor_and]
  have := pc_xor (a &&& c) (b &&& c)
  omega
theorem par_xor' (a b c : Nat) : pc (c &&& (a ^^^ b)) % 2 = (pc (c &&& a) + pc (c &&& b)) % 2 := by
  rw [Nat.and_comm, par_xor, Nat.and_comm a, Nat.and_comm b]
def B (x i : Nat) : Nat := x / 2 ^ i % 2
theorem B_lt (x i : Nat) : B x i < 2 := Nat.mod_lt _ (by decide)
theorem B_tb (x i : Nat) : B x i = (x.testBit i).toNat := by
  unfold B
  rw [Nat.testBit_eq_decide_div_mod_eq]
  rcases m2 _ (Nat.mod_lt (x / 2 ^ i) (show 0 < 2 by decide)) with q | q <;> rw [q] <;> rfl
theorem pc_pow (i : Nat) : pc (2 ^ i) = 1 := by
  induction i with
  | zero => rfl
  | succ i ih =>
    have := pc2 (2 ^ i) 0 (by decide)
    rw [Nat.pow_succ, Nat.mul_comm, ← Nat.add_zero (2 * 2 ^ i), this, ih]
theorem pc_bit {t : Nat} (ht : t < 2) (i y : Nat) : pc ((t * 2 ^ i) &&& y) = t * B y i := by
  rcases m2 t ht with rfl | rfl
  · rw [Nat.zero_mul, Nat.zero_and, Nat.zero_mul]; rfl
  · rw [Nat.one_mul, Nat.one_mul, B_tb]
    have e : 2 ^ i &&& y = if y.testBit i then 2 ^ i else 0 := Nat.eq_of_testBit_eq fun j => by
      rw [Nat.testBit_and, Nat.testBit_two_pow]
      by_cases h : i = j
      · subst h
        rw [decide_eq_true rfl, Bool.true_and]
        cases y.testBit i with
        | true => rw [if_pos rfl, Nat.testBit_two_pow_self]
        | false => simp
      · rw [decide_eq_false h, Bool.false_and]
        split
        · rw [Nat.testBit_two_pow, decide_eq_false h]
        · rw [Nat.zero_testBit]
    rw [e]
    cases y.testBit i with
    | true => rw [if_pos rfl, pc_pow]; rfl
    | false => rfl
theorem pc_bit' {t : Nat} (ht : t < 2) (i y : Nat) : pc (y &&& (t * 2 ^ i)) = t * B y i := by rw [Nat.and_comm, pc_bit ht]
theorem B_bit {t : Nat} (ht : t < 2) (i j : Nat) : B (t * 2 ^ i) j = if i = j then t else 0 := by
  rcases m2 t ht with rfl | rfl
  · rw [Nat.zero_mul, ite_self, B_tb, Nat.zero_testBit]; rfl
  · rw [Nat.one_mul, B_tb, Nat.testBit_two_pow]
    by_cases h : i = j
    · rw [decide_eq_true h, if_pos h]; rfl
    · rw [decide_eq_false h, if_neg h]; rfl
theorem B_xor (x y j : Nat) : B (x ^^^ y) j = (B x j + B y j) % 2 := by
  rw [B_tb, B_tb, B_tb, Nat.testBit_xor]
  cases x.testBit j <;> cases y.testBit j <;> rfl
def om (p q : Pa) : Nat := (pc (p.x &&& q.z) + pc (p.z &&& q.x)) % 2
theorem cmt_om (p q : Pa) : cmt p q = decide (om p q = 0) := by
  unfold cmt om
  rw [Bool.eq_iff_iff, beq_iff_eq, decide_eq_true_iff]
  omega
theorem om_gt (g a b : Nat) (p q : Pa) : om (gt g a b p) (gt g a b q) = om p q := by
  have b1 := B_lt p.x a
  have b2 := B_lt p.z a
  have b3 := B_lt q.x a
  have b4 := B_lt q.z a
  have c1 := B_lt p.x b
  have c2 := B_lt p.z b
  have c3 := B_lt q.x b
  have c4 := B_lt q.z b
  unfold gt om
  dsimp only
  have fx : ∀ x : Nat, x / 2 ^ a % 2 = B x a := fun _ => rfl
  have fb : ∀ x : Nat, x / 2 ^ b % 2 = B x b := fun _ => rfl
  simp only [fx, fb]
  have h2 : ∀ u v : Nat, u < 2 → v < 2 → u ^^^ v < 2 := fun u v hu hv => xor_lt2 hu hv
  have hx : ∀ u v : Nat, u < 2 → v < 2 → u ^^^ v = (u + v) % 2 := fun u v hu hv => by rcases m2 u hu with rfl | rfl <;> rcases m2 v hv with rfl | rfl <;> rfl
  by_cases g0 : g = 0
  · rw [if_pos g0, if_pos g0]
    dsimp only
    have u := h2 _ _ b1 b2
    have v := h2 _ _ b3 b4
    have e1 := par_xor p.x ((B p.x a ^^^ B p.z a) * 2 ^ a) (q.z ^^^ (B q.x a ^^^ B q.z a) * 2 ^ a)
    have e2 := par_xor' q.z ((B q.x a ^^^ B q.z a) * 2 ^ a) p.x
    have e3 := par_xor p.z ((B p.x a ^^^ B p.z a) * 2 ^ a) (q.x ^^^ (B q.x a ^^^ B q.z a) * 2 ^ a)
    have e4 := par_xor' q.x ((B q.x a ^^^ B q.z a) * 2 ^ a) p.z
    rw [pc_bit u, B_xor, B_bit v, if_pos rfl] at e1
    rw [pc_bit' v] at e2
    rw [pc_bit u, B_xor, B_bit v, if_pos rfl] at e3
    rw [pc_bit' v] at e4
    have hU := hx _ _ b1 b2
    have hV := hx _ _ b3 b4
    generalize B p.x a ^^^ B p.z a = U at *
    generalize B q.x a ^^^ B q.z a = V at *
    generalize B p.x a = i1 at *
    generalize B p.z a = i2 at *
    generalize B q.x a = i3 at *
    generalize B q.z a = i4 at *
    rcases m2 i1 b1 with rfl | rfl <;> rcases m2 i2 b2 with rfl | rfl <;> rcases m2 i3 b3 with rfl | rfl <;> rcases m2 i4 b4 with rfl | rfl <;> subst hU <;> subst hV <;> simp only [Nat.zero_add, Nat.add_zero, Nat.reduceAdd, Nat.reduceMod, Nat.zero_mul, Nat.one_mul, Nat.mul_zero, Nat.mul_one] at e1 e2 e3 e4 ⊢ <;> omega
  rw [if_neg g0, if_neg g0]
  by_cases g1 : g = 1 ∨ a = b
  · rw [if_pos g1, if_pos g1]
    dsimp only
    have e2 := par_xor' q.z (B q.x a * 2 ^ a) p.x
    have e3 := par_xor p.z (B p.x a * 2 ^ a) q.x
    rw [pc_bit' b3] at e2
    rw [pc_bit b1] at e3
    generalize B p.x a = i1 at *
    generalize B q.x a = i3 at *
    rcases m2 i1 b1 with rfl | rfl <;> rcases m2 i3 b3 with rfl | rfl <;> simp only [Nat.zero_add, Nat.add_zero, Nat.zero_mul, Nat.one_mul, Nat.mul_zero, Nat.mul_one] at e2 e3 ⊢ <;> omega
  · rw [if_neg g1, if_neg g1]
    dsimp only
    have ab : a ≠ b := fun e => g1 (.inr e)
    have e1 := par_xor p.x (B p.x a * 2 ^ b) (q.z ^^^ B q.z b * 2 ^ a)
    have e2 := par_xor' q.z (B q.z b * 2 ^ a) p.x
    have e3 := par_xor p.z (B p.z b * 2 ^ a) (q.x ^^^ B q.x a * 2 ^ b)
    have e4 := par_xor' q.x (B q.x a * 2 ^ b) p.z
    rw [pc_bit b1, B_xor, B_bit c4, if_neg ab] at e1
    rw [pc_bit' c4] at e2
    rw [pc_bit c2, B_xor, B_bit b3, if_neg (Ne.symm ab)] at e3
    rw [pc_bit' b3] at e4
    generalize B p.x a = i1 at *
    generalize B p.z b = i2 at *
    generalize B q.x a = i3 at *
    generalize B q.z b = i4 at *
    rcases m2 i1 b1 with rfl | rfl <;> rcases m2 i2 c2 with rfl | rfl <;> rcases m2 i3 b3 with rfl | rfl <;> rcases m2 i4 c4 with rfl | rfl <;> simp only [Nat.zero_add, Nat.add_zero, Nat.reduceAdd, Nat.reduceMod, Nat.zero_mul, Nat.one_mul, Nat.mul_zero, Nat.mul_one] at e1 e2 e3 e4 ⊢ <;> omega
theorem cmt_gt (g a b : Nat) (p q : Pa) : cmt (gt g a b p) (gt g a b q) = cmt p q := by rw [cmt_om, cmt_om, om_gt]
theorem cmt_prd (p q r : Pa) : cmt (prd p q) r = (cmt p r == cmt q r) := by
  rw [cmt_om, cmt_om, cmt_om]
  have e1 := par_xor p.x q.x r.z
  have e2 := par_xor p.z q.z r.x
  have h : om (prd p q) r = (om p r + om q r) % 2 := by
    show (pc ((p.x ^^^ q.x) &&& r.z) + pc ((p.z ^^^ q.z) &&& r.x)) % 2 = _
    unfold om
    omega
  have h1 : om p r < 2 := Nat.mod_lt _ (by decide)
  have h2 : om q r < 2 := Nat.mod_lt _ (by decide)
  rw [h]
  rcases m2 _ h1 with q1 | q1 <;> rcases m2 _ h2 with q2 | q2 <;> rw [q1, q2] <;> rfl
/-! ### gates on masks -/
def gm (g a b : Nat) (m : Nat × Nat) : Nat × Nat :=
  if g = 0 then (m.1 ^^^ (B m.1 a ^^^ B m.2 a) * 2 ^ a, m.2 ^^^ (B m.1 a ^^^ B m.2 a) * 2 ^ a)
  else if g = 1 ∨ a = b then (m.1, m.2 ^^^ B m.1 a * 2 ^ a)
  else (m.1 ^^^ B m.1 a * 2 ^ b, m.2 ^^^ B m.2 b * 2 ^ a)
theorem mk_gt (g a b : Nat) (p : Pa) : mk (gt g a b p) = gm g a b (mk p) := by
  unfold gt gm mk
  dsimp only
  split
  · rfl
  · split <;> rfl
theorem tbit (x a i j : Nat) : (B x a * 2 ^ i).testBit j = (decide (i = j) && x.testBit a) := by
  rw [B_tb]
  cases x.testBit a with
  | true =>
    show (1 * 2 ^ i).testBit j = _
    rw [Nat.one_mul, Nat.testBit_two_pow, Bool.and_true]
  | false =>
    show (0 * 2 ^ i).testBit j = _
    rw [Nat.zero_mul, Nat.zero_testBit, Bool.and_false]
theorem tbit2 (x z a i j : Nat) : ((B x a ^^^ B z a) * 2 ^ i).testBit j = (decide (i = j) && (x.testBit a ^^ z.testBit a)) := by
  have e : B x a ^^^ B z a = B (x ^^^ z) a := by
    rw [B_tb, B_tb, B_tb, Nat.testBit_xor]
    cases x.testBit a <;> cases z.testBit a <;> rfl
  rw [e, tbit, Nat.testBit_xor]
theorem gm_ad (g a b : Nat) (u v : Nat × Nat) : gm g a b (adP u v) = adP (gm g a b u) (gm g a b v) := by
  unfold gm adP
  dsimp only
  split
  · refine Prod.ext (Nat.eq_of_testBit_eq fun j => ?_) (Nat.eq_of_testBit_eq fun j => ?_) <;>
    · simp only [Nat.testBit_xor, tbit2]
      cases decide (a = j) <;> cases u.1.testBit j <;> cases v.1.testBit j <;> cases u.2.testBit j <;> cases v.2.testBit j <;> cases u.1.testBit a <;> cases v.1.testBit a <;> cases u.2.testBit a <;> cases v.2.testBit a <;> rfl
  · split
    · refine Prod.ext rfl (Nat.eq_of_testBit_eq fun j => ?_)
      simp only [Nat.testBit_xor, tbit]
      cases decide (a = j) <;> cases u.2.testBit j <;> cases v.2.testBit j <;> cases u.1.testBit a <;> cases v.1.testBit a <;> rfl
    · refine Prod.ext (Nat.eq_of_testBit_eq fun j => ?_) (Nat.eq_of_testBit_eq fun j => ?_)
      · simp only [Nat.testBit_xor, tbit]
        cases decide (b = j) <;> cases u.1.testBit j <;> cases v.1.testBit j <;> cases u.1.testBit a <;> cases v.1.testBit a <;> rfl
      · simp only [Nat.testBit_xor, tbit]
        cases decide (a = j) <;> cases u.2.testBit j <;> cases v.2.testBit j <;> cases u.2.testBit b <;> cases v.2.testBit b <;> rfl
theorem gm_gm (g a b : Nat) (m : Nat × Nat) : gm g a b (gm g a b m) = m := by
  unfold gm
  by_cases g0 : g = 0
  · simp only [if_pos g0]
    refine Prod.ext (Nat.eq_of_testBit_eq fun j => ?_) (Nat.eq_of_testBit_eq fun j => ?_) <;>
    · simp only [Nat.testBit_xor, tbit2, decide_true]
      cases decide (a = j) <;> cases m.1.testBit j <;> cases m.2.testBit j <;> cases m.1.testBit a <;> cases m.2.testBit a <;> rfl
  · simp only [if_neg g0]
    by_cases g1 : g = 1 ∨ a = b
    · simp only [if_pos g1]
      refine Prod.ext rfl (Nat.eq_of_testBit_eq fun j => ?_)
      simp only [Nat.testBit_xor, tbit]
      cases decide (a = j) <;> cases m.2.testBit j <;> cases m.1.testBit a <;> rfl
    · simp only [if_neg g1]
      have ab : a ≠ b := fun e => g1 (.inr e)
      refine Prod.ext (Nat.eq_of_testBit_eq fun j => ?_) (Nat.eq_of_testBit_eq fun j => ?_)
      · simp only [Nat.testBit_xor, tbit, decide_eq_false (Ne.symm ab)]
        cases decide (b = j) <;> cases m.1.testBit j <;> cases m.1.testBit a <;> rfl
      · simp only [Nat.testBit_xor, tbit, decide_eq_false ab]
        cases decide (a = j) <;> cases m.2.testBit j <;> cases m.2.testBit b <;> rfl
theorem gm_zero (g a b : Nat) : gm g a b (0, 0) = (0, 0) := by
  have h := gm_ad g a b (0, 0) (0, 0)
  have e : adP (0, 0) (0, 0) = ((0, 0) : Nat × Nat) := rfl
  rw [e] at h
  rw [h]
  unfold adP
  rw [Nat.xor_self, Nat.xor_self]
theorem spP_gm (g a b : Nat) (l : List (Nat × Nat)) : spP (l.map (gm g a b)) = (spP l).map (gm g a b) := by
  unfold spP
  rw [spg_map (gm_ad g a b)]
  show _ = spg adP [gm g a b (0, 0)] _
  rw [gm_zero]
theorem nodup_gm (g a b : Nat) (l : List (Nat × Nat)) : (spP (l.map (gm g a b))).Nodup ↔ (spP l).Nodup := by
  rw [spP_gm]
  exact nodup_map_on fun u _ v _ e => by
    have := congrArg (gm g a b) e
    rwa [gm_gm, gm_gm] at this
theorem semL_gt (g a b : Nat) (ps : List Pa) (X Z : Pa) : semL (ps.map (gt g a b)) (gt g a b X) (gt g a b Z) = semL ps X Z := by
  unfold semL
  have e : (ps.map (gt g a b)).map mk = (ps.map mk).map (gm g a b) := by
    rw [List.map_map, List.map_map]
    exact List.map_congr_left fun p _ => mk_gt g a b p
  rw [e, cmt_gt, decide_eq_decide.mpr (nodup_gm g a b (ps.map mk)), List.all_map]
  congr 2
  refine List.all_congr rfl fun p => ?_
  show (cmt (gt g a b p) (gt g a b X) && cmt (gt g a b p) (gt g a b Z) && (ps.map (gt g a b)).all (cmt (gt g a b p))) = _
  rw [cmt_gt, cmt_gt, List.all_map]
  congr 1
  refine List.all_congr rfl fun q => ?_
  exact cmt_gt g a b p q
end VL.C

set_option Elab.async false
set_option linter.all false
set_option maxRecDepth 100000
set_option maxHeartbeats 400000
/-! VC9: the codes that the law makes are codes -/
namespace VL.C
open PySem PySem.Spec PyProof.Rows L2 VL VL.P
theorem bd_gt {n g a b : Nat} {p : Pa} (ha : a < n) (hb : b < n) (hp : Bd n p) : Bd n (gt g a b p) := by
  have bit : ∀ t i : Nat, t < 2 → i < n → t * 2 ^ i < 2 ^ n := fun t i ht hi => by
    have h1 : 2 ^ i < 2 ^ n := Nat.pow_lt_pow_right (by decide) hi
    rcases m2 t ht with rfl | rfl
    · rw [Nat.zero_mul]; exact Nat.pow_pos (by decide)
    · rw [Nat.one_mul]; exact h1
  have an : ∀ u v : Nat, u < 2 → u &&& v < 2 := fun u v hu => Nat.lt_of_le_of_lt Nat.and_le_left hu
  have l1 := bit_lt p.x a
  have l2 := bit_lt p.z a
  unfold gt
  dsimp only
  split
  · exact ⟨Nat.xor_lt_two_pow hp.x (bit _ _ (xor_lt2 l1 l2) ha), Nat.xor_lt_two_pow hp.z (bit _ _ (xor_lt2 l1 l2) ha), xor_lt2 hp.s (an _ _ l1)⟩
  · split
    · exact ⟨hp.x, Nat.xor_lt_two_pow hp.z (bit _ _ l1 ha), xor_lt2 hp.s (an _ _ l1)⟩
    · exact ⟨Nat.xor_lt_two_pow hp.x (bit _ _ l1 hb), Nat.xor_lt_two_pow hp.z (bit _ _ (bit_lt p.z b) ha), xor_lt2 hp.s (an _ _ (an _ _ l1))⟩
theorem isc_gt {n g a b : Nat} {ps : List Pa} {X Z : Pa} (ha : a < n) (hb : b < n) (h : IsC n ps X Z) : IsC n (ps.map (gt g a b)) (gt g a b X) (gt g a b Z) := by
  obtain ⟨h1, h2, h3, h4, h5, h6, h7⟩ := h
  refine ⟨h1, h2, by rw [List.length_map]; exact h3, fun p hp => ?_, bd_gt ha hb h5, bd_gt ha hb h6, by rw [semL_gt]; exact h7⟩
  obtain ⟨q, hq, rfl⟩ := List.mem_map.mp hp
  exact bd_gt ha hb (h4 q hq)
theorem semL_iff {ps : List Pa} {X Z : Pa} : semL ps X Z = true ↔ (∀ r ∈ ps, cmt r X = true ∧ cmt r Z = true ∧ ∀ q ∈ ps, cmt r q = true) ∧ (spP (ps.map mk)).Nodup ∧ cmt X Z = false := by
  unfold semL
  simp only [Bool.and_eq_true, List.all_eq_true, decide_eq_true_eq, Bool.not_eq_true']
  constructor
  · rintro ⟨⟨h1, h2⟩, h3⟩
    exact ⟨fun r hr => ⟨(h1 r hr).1.1, (h1 r hr).1.2, (h1 r hr).2⟩, h2, h3⟩
  · rintro ⟨h1, h2, h3⟩
    exact ⟨⟨fun r hr => ⟨⟨(h1 r hr).1, (h1 r hr).2.1⟩, (h1 r hr).2.2⟩, h2⟩, h3⟩
theorem spg_perm {α : Type} (f : α → α → α) : ∀ (l : List α) {acc acc' : List α}, acc.Perm acc' → (spg f acc l).Perm (spg f acc' l)
  | [], _, _, h => h
  | v :: l, _, _, h => spg_perm f l (h.append (h.map (f v)))
theorem ad0 (u : Nat × Nat) : adP u (0, 0) = u := by
  unfold adP
  rw [Nat.xor_zero, Nat.xor_zero]
theorem ad_comm (u v : Nat × Nat) : adP u v = adP v u := by
  unfold adP
  rw [Nat.xor_comm, Nat.xor_comm u.2]
theorem ad_ad (u v : Nat × Nat) : adP v (adP u v) = u := by
  unfold adP
  dsimp only
  rw [Nat.xor_comm u.1, Nat.xor_comm u.2, xx_cancel, xx_cancel]
theorem spP_swap (u v : Nat × Nat) (l : List (Nat × Nat)) : (spP (adP u v :: v :: l)).Perm (spP (u :: v :: l)) := by
  show (spg adP (([(0, 0)] ++ [adP (adP u v) (0, 0)]) ++ [adP v (0, 0), adP v (adP (adP u v) (0, 0))]) l).Perm (spg adP (([(0, 0)] ++ [adP u (0, 0)]) ++ [adP v (0, 0), adP v (adP u (0, 0))]) l)
  refine spg_perm adP l ?_
  rw [ad0, ad0, ad0, ad_ad, ad_comm v u]
  show [(0, 0), adP u v, v, u].Perm [(0, 0), u, v, adP u v]
  refine List.Perm.cons _ ?_
  refine (List.Perm.swap v (adP u v) [u]).trans ?_
  refine (List.Perm.cons v (List.Perm.swap u (adP u v) [])).trans ?_
  exact List.Perm.swap u v [adP u v]
theorem isc_row {n : Nat} {p q : Pa} {ps : List Pa} {X Z : Pa} (h : IsC n (p :: q :: ps) X Z) : IsC n (prd p q :: q :: ps) X Z := by
  obtain ⟨h1, h2, h3, h4, h5, h6, h7⟩ := h
  have hp := h4 p List.mem_cons_self
  have hq := h4 q (List.mem_cons_of_mem _ List.mem_cons_self)
  obtain ⟨c1, c2, c3⟩ := semL_iff.mp h7
  refine ⟨h1, h2, h3, fun r hr => ?_, h5, h6, semL_iff.mpr ⟨?_, ?_, c3⟩⟩
  · rcases List.mem_cons.mp hr with rfl | hr
    · exact bd_prd hp hq
    · exact h4 r (List.mem_cons_of_mem _ hr)
  · have cp := c1 p List.mem_cons_self
    have cq := c1 q (List.mem_cons_of_mem _ List.mem_cons_self)
    have key : ∀ r ∈ q :: ps, cmt (prd p q) r = true := fun r hr => by
      rw [cmt_prd, cp.2.2 r (List.mem_cons_of_mem _ hr), cq.2.2 r (List.mem_cons_of_mem _ hr)]; rfl
    intro r hr
    rcases List.mem_cons.mp hr with rfl | hr
    · refine ⟨by rw [cmt_prd, cp.1, cq.1]; rfl, by rw [cmt_prd, cp.2.1, cq.2.1]; rfl, fun r hr => ?_⟩
      rcases List.mem_cons.mp hr with rfl | hr
      · exact cmt_self _
      · exact key r hr
    · have cr := c1 r (List.mem_cons_of_mem _ hr)
      refine ⟨cr.1, cr.2.1, fun s hs => ?_⟩
      rcases List.mem_cons.mp hs with rfl | hs
      · rw [cmt_comm]; exact key r hr
      · exact cr.2.2 s (List.mem_cons_of_mem _ hs)
  · have e : (prd p q :: q :: ps).map mk = adP (mk p) (mk q) :: mk q :: ps.map mk := rfl
    rw [e, (spP_swap (mk p) (mk q) (ps.map mk)).nodup_iff]
    exact c2
theorem isc_log {n : Nat} {p : Pa} {ps : List Pa} {X Z : Pa} (h : IsC n (p :: ps) X Z) : IsC n (p :: ps) X (prd Z p) := by
  obtain ⟨h1, h2, h3, h4, h5, h6, h7⟩ := h
  have hp := h4 p List.mem_cons_self
  obtain ⟨c1, c2, c3⟩ := semL_iff.mp h7
  have cp := c1 p List.mem_cons_self
  refine ⟨h1, h2, h3, h4, h5, bd_prd h6 hp, semL_iff.mpr ⟨fun r hr => ?_, c2, ?_⟩⟩
  · have cr := c1 r hr
    refine ⟨cr.1, ?_, cr.2.2⟩
    rw [cmt_comm, cmt_prd, cmt_comm Z r, cr.2.1, cmt_comm p r, cr.2.2 p List.mem_cons_self]; rfl
  · rw [cmt_comm, cmt_prd, cmt_comm Z X, c3, cp.1]; rfl
def rowsOf (c : Nat × List (Nat × List Nat) × (Nat × List Nat) × (Nat × List Nat)) : List Pa := c.2.1.map fun t => wpa t.2 t.1
instance (n : Nat) (ps : List Pa) (X Z : Pa) : Decidable (IsC n ps X Z) := by unfold IsC; infer_instance
theorem cds_ok : ∀ c ∈ cds, IsC c.1 (rowsOf c) (wpa c.2.2.1.2 c.2.2.1.1) (wpa c.2.2.2.2 c.2.2.2.1) ∧ c.1 ≤ 5 := by decide +kernel
def tok (t : Nat × List Nat) : Bool := decide (t.1 < 2) && t.2.all (fun k => decide (k < 4)) && decide (t.2.length ≤ 30)
theorem cds_tok : ∀ c ∈ cds, (c.2.1.all tok && tok c.2.2.1 && tok c.2.2.2) = true := by decide +kernel
theorem tok_iff {t : Nat × List Nat} (h : tok t = true) : t.1 < 2 ∧ Wd t.2 ∧ t.2.length ≤ 30 := by
  unfold tok at h
  simp only [Bool.and_eq_true, decide_eq_true_eq, List.all_eq_true] at h
  exact ⟨h.1.1, fun k hk => h.1.2 k hk, h.2⟩
theorem IsC.b13 {n : Nat} {ps : List Pa} {X Z : Pa} (h : IsC n ps X Z) : (∀ p ∈ ps, Bd 13 p) ∧ Bd 13 X ∧ Bd 13 Z := by
  have up : ∀ p, Bd n p → Bd 13 p := fun p hp => ⟨Nat.lt_of_lt_of_le hp.x (Nat.pow_le_pow_right (by decide) h.2.1), Nat.lt_of_lt_of_le hp.z (Nat.pow_le_pow_right (by decide) h.2.1), hp.s⟩
  exact ⟨fun p hp => up p (h.2.2.2.1 p hp), up X h.2.2.2.2.1, up Z h.2.2.2.2.2.1⟩
section
variable {R : D → Oh → Prop} {h0 h : Oh} {a : Addr} {n : Nat} {ps : List Pa} {X Z : Pa}
def stG (a : Addr) (c : D) (rows lg : D) (t : Sl) (n : Nat) (g x z : D) (s9 s10 s11 : Sl) (h : Oh) : Sg := ⟨[.f (.obj a), .f c, .f rows, .f lg, t, .f (.int n), .f g, .f x, .f z, s9, s10, s11, .u], h⟩
abbrev rL (ps : List Pa) : D := .lst (ps.map Pa.e)
theorem chg_end (T0 : Tp h a) (b0 : But a h0 h) (hn : n ≤ 5) (hc : IsC n ps X Z) (k : ∀ n ps X Z h', n ≤ 5 → IsC n ps X Z → Tp h' a → But a h0 h' → R (.tup [.int (n : Nat), .lst (ps.map Pa.e), X.e, Z.e]) h') (c g x z : D) (t s9 s10 s11 : Sl) :
    w__law_changed_4 (Fi R) (stG a c (rL ps) (.lst [X.e, Z.e]) t n g x z s9 s10 s11 h) := by
  obtain ⟨b1, b2, b3⟩ := hc.b13
  have five : ∀ (ps : List Pa) (h : Oh), Tp h a → But a h0 h → IsC n ps X Z → w__law_changed_5 (Fi R) (stG a c (rL ps) (.lst [X.e, Z.e]) t n g x z s9 s10 s11 h) := fun ps h hT hb hc => by
    obtain ⟨b1, b2, b3⟩ := hc.b13
    have six : ∀ (h : Oh) (Z : Pa), Tp h a → But a h0 h → IsC n ps X Z → w__law_changed_6 (Fi R) (stG a c (rL ps) (.lst [X.e, Z.e]) t n g x z s9 s10 s11 h) := fun h Z hT hb hc =>
      ⟨_, atI_nat (k := 0) rfl, _, atI_nat (k := 1) rfl, k n ps X Z h hn hc hT hb⟩
    refine br (fun q => ?_) fun q => ?_
    · refine draw hT (by decide) (by decide) fun v h2 v0 v1 hT2 hb2 => ?_
      refine br (fun q2 => ?_) fun q2 => ?_
      · cases ps with
        | nil => exact absurd q (by decide)
        | cons p ps =>
          refine ⟨_, atI_nat (k := 0) rfl, _, atI_nat (k := 1) rfl, _, atI_nat (k := 0) rfl, Z, p, rfl, b3, b1 p List.mem_cons_self, ?_⟩
          exact six h2 (prd Z p) hT2 (hb.trans hb2) (isc_log hc)
      · exact six h2 Z hT2 (hb.trans hb2) hc
    · exact brF rfl (six h Z hT hb hc)
  refine br (fun q => ?_) fun q => ?_
  · refine draw T0 (by decide) (by decide) fun v h2 v0 v1 hT2 hb2 => ?_
    refine br (fun q2 => ?_) fun q2 => ?_
    · match ps, hc, q with
      | [], _, q => exact absurd q (by decide)
      | [_], _, q => exact absurd (of_decide_eq_true q) (by show ¬ ((1 : Int) < ((1 : Nat) : Int)); decide)
      | p :: q :: ps, hc, _ =>
        have b1 := hc.b13.1
        have hl : ps.length ≤ 13 := by
          have := hc.2.2.1
          rw [List.length_cons, List.length_cons] at this
          omega
        refine ⟨_, atI_nat (k := 0) rfl, _, atI_nat (k := 1) rfl, p, q, rfl, b1 p List.mem_cons_self, b1 q (List.mem_cons_of_mem _ List.mem_cons_self), ?_⟩
        have ec : cutD ((p :: q :: ps).map Pa.e) (some 1) none = (q :: ps).map Pa.e := by
          unfold cutD
          have e0 : ((p :: q :: ps).map Pa.e).length = ps.length + 2 := by rw [List.length_map]; rfl
          have e1 : HT.sIx ((p :: q :: ps).map Pa.e).length 0 (some 1) = 1 := by
            rw [e0]
            unfold HT.sIx
            simp
          have e2 : HT.sIx ((p :: q :: ps).map Pa.e).length ((p :: q :: ps).map Pa.e).length none = ps.length + 2 := by rw [e0]; rfl
          rw [e1, e2]
          show ((q :: ps).map Pa.e).take (ps.length + 2 - 1) = _
          exact List.take_of_length_le (by rw [List.length_map, List.length_cons]; omega)
        have x := five (prd p q :: q :: ps) h2 hT2 (b0.trans hb2) (isc_row hc)
        have e5 : rL (prd p q :: q :: ps) = .lst ([(prd p q).e] ++ cutD ((p :: q :: ps).map Pa.e) (some 1) none) := by rw [ec]; rfl
        rw [e5] at x
        refine ⟨lenLine (by show 1 + (cutD ((p :: q :: ps).map Pa.e) (some 1) none).length ≤ 1000000; rw [ec, List.length_map, List.length_cons]; omega), x⟩
    · exact five ps h2 hT2 (b0.trans hb2) hc
  · exact brF rfl (five ps h T0 b0 hc)
theorem chg_loop (hn : n ≤ 5) (k : ∀ n ps X Z h', n ≤ 5 → IsC n ps X Z → Tp h' a → But a h0 h' → R (.tup [.int (n : Nat), .lst (ps.map Pa.e), X.e, Z.e]) h') (c g x z : D) : ∀ (l : List Nat) (h : Oh) (ps : List Pa) (X Z : Pa) (t s9 s10 s11 : Sl), Tp h a → But a h0 h → IsC n ps X Z →
    wForL (gVar 4) w__law_changed_b1 { Fi R with nx := w__law_changed_4 (Fi R) } (l.map fun k => .int (k : Nat)) (stG a c (rL ps) (.lst [X.e, Z.e]) t n g x z s9 s10 s11 h)
  | [], h, ps, X, Z, t, s9, s10, s11, hT, hb, hc => chg_end hT hb hn hc k c g x z t s9 s10 s11
  | i :: l, h, ps, X, Z, t, s9, s10, s11, hT, hb, hc => by
    have hn1 := hc.1
    refine forv ?_
    refine draw hT (by decide) (by decide) fun gv h1 g0 g1 hT1 hb1 => ?_
    refine draw hT1 (by show (0 : Int) < n; omega) (by show (n : Int) < 2 ^ 60; omega) fun av h2 a0 a1 hT2 hb2 => ?_
    have em : ∃ m : Nat, (if ((n : Int) - 1) > 1 then ((n : Int) - 1) else 1) = (m : Int) ∧ 0 < m ∧ m < 100 := by
      split
      · exact ⟨n - 1, by omega, by omega, by omega⟩
      · exact ⟨1, rfl, by decide, by decide⟩
    obtain ⟨m, em, m0, m1⟩ := em
    show sp_next [.obj a, .int (if ((n : Int) - 1) > 1 then ((n : Int) - 1) else 1)] h2 _ _
    rw [em]
    refine draw hT2 (by omega) (by omega) fun bv h3 bb0 bb1 hT3 hb3 => ?_
    have hb' : But a h0 h3 := ((hb.trans hb1).trans hb2).trans hb3
    obtain ⟨g', rfl⟩ : ∃ g' : Nat, gv = (g' : Int) := ⟨gv.toNat, by omega⟩
    obtain ⟨a', rfl⟩ : ∃ a' : Nat, av = (a' : Int) := ⟨av.toNat, by omega⟩
    obtain ⟨b', eb, hb5⟩ : ∃ b' : Nat, (((a' : Int) + 1 + bv) % (n : Int)) = (b' : Int) ∧ b' < n := by
      have h1 := Int.emod_nonneg ((a' : Int) + 1 + bv) (show (n : Int) ≠ 0 by omega)
      have h2 := Int.emod_lt_of_pos ((a' : Int) + 1 + bv) (show (0 : Int) < n by omega)
      exact ⟨(((a' : Int) + 1 + bv) % (n : Int)).toNat, by omega, by omega⟩
    have ha5 : a' < n := by omega
    refine ⟨(by show (0 : Int) < n; omega), ?_⟩
    show w__law_changed_b1_3 { nx := wForL (gVar 4) w__law_changed_b1 { Fi R with nx := w__law_changed_4 (Fi R) } (l.map fun k => .int (k : Nat)), rt := (Fi R).rt, bk := w__law_changed_4 (Fi R), ct := wForL (gVar 4) w__law_changed_b1 { Fi R with nx := w__law_changed_4 (Fi R) } (l.map fun k => .int (k : Nat)) } (stG a c (rL ps) (.lst [X.e, Z.e]) (.f (.int (i : Nat))) n g x z (.f (.int g')) (.f (.int a')) (.f (.int (((a' : Int) + 1 + bv) % (n : Int)))) h3)
    rw [eb]
    have step : ∀ d : D, ∀ p : Pa, d = p.e → (gt g' a' b' (dP d)).e = (gt g' a' b' p).e := fun d p e => by rw [e, dP_e]
    have hl : ps.length ≤ 13 := by have := hc.2.2.1; omega
    refine ⟨rfl, (by show (ps.map Pa.e).length ≤ 1000000; rw [List.length_map]; omega), ?_⟩
    refine lcL_run (fun d => some (gt g' a' b' (dP d)).e) _ _ (fun d hd C hC => ?_) ?_
    · obtain ⟨p, hp, rfl⟩ := List.mem_map.mp hd
      rw [dP_e] at hC
      exact brT rfl ⟨p, g', a', b', rfl, by omega, by omega, rfl, hC⟩
    rw [List.nil_append, fm_some]
    have e3 : (ps.map Pa.e).map (fun d => (gt g' a' b' (dP d)).e) = (ps.map (gt g' a' b')).map Pa.e := by
      rw [List.map_map, List.map_map]
      refine List.map_congr_left fun p _ => ?_
      show (gt g' a' b' (dP p.e)).e = _
      rw [dP_e]
      rfl
    show w__law_changed_b1_4 { nx := wForL (gVar 4) w__law_changed_b1 { Fi R with nx := w__law_changed_4 (Fi R) } (l.map fun k => .int (k : Nat)), rt := (Fi R).rt, bk := w__law_changed_4 (Fi R), ct := wForL (gVar 4) w__law_changed_b1 { Fi R with nx := w__law_changed_4 (Fi R) } (l.map fun k => .int (k : Nat)) } (stG a c (.lst ((ps.map Pa.e).map (fun d => (gt g' a' b' (dP d)).e))) (.lst [X.e, Z.e]) (.f (.int (i : Nat))) n g x z (.f (.int g')) (.f (.int a')) (.f (.int b')) h3)
    rw [e3]
    refine ⟨rfl, (by show (2 : Nat) ≤ 1000000; decide), ?_⟩
    refine lcL_run (fun d => some (gt g' a' b' (dP d)).e) _ _ (fun d hd C hC => ?_) ?_
    · have hd' : d ∈ [X.e, Z.e] := hd
      obtain ⟨p, rfl⟩ : ∃ p : Pa, d = p.e := by
        simp only [List.mem_cons, List.not_mem_nil, or_false] at hd'
        rcases hd' with e | e
        · exact ⟨X, e⟩
        · exact ⟨Z, e⟩
      rw [dP_e] at hC
      exact brT rfl ⟨p, g', a', b', rfl, by omega, by omega, rfl, hC⟩
    rw [List.nil_append, fm_some]
    have x := chg_loop hn k c g x z l h3 (ps.map (gt g' a' b')) (gt g' a' b' X) (gt g' a' b' Z) (.f (.int (i : Nat))) (.f (.int g')) (.f (.int a')) (.f (.int b')) hT3 hb' (isc_gt ha5 hb5 hc)
    have e4 : [X.e, Z.e].map (fun d => (gt g' a' b' (dP d)).e) = [(gt g' a' b' X).e, (gt g' a' b' Z).e] := by
      show [(gt g' a' b' (dP X.e)).e, (gt g' a' b' (dP Z.e)).e] = _
      rw [dP_e, dP_e]
    rw [← e4] at x
    exact x
end
theorem lcL_inv' {g : WG} {tt : WT} {te : WE} {vs : List Nat} {s0 : List Sl} {R : List D → Oh → Prop} {h : Oh} {α : Type} {f : α → D} {e : α → D} : ∀ {rs : List α} {acc : List D},
    (∀ t ∈ rs, ∀ C : Option D → Oh → Prop, C (some (e t)) h → g (f t) ⟨wipeS s0 vs, h⟩ fun S1 => tt S1 fun b S2 => Br b (te S2 fun d S3 => wipeS S3.s vs = wipeS s0 vs ∧ C (some d) S3.h) (wipeS S2.s vs = wipeS s0 vs ∧ C none S2.h)) →
    R (acc ++ rs.map e) h → wLcL g tt te vs s0 R (rs.map f) h acc
  | [], acc, _, hR => by rw [List.map_nil, List.append_nil] at hR; exact hR
  | x :: xs, acc, hs, hR => by
    refine hs x List.mem_cons_self (fun o h' => wLcL g tt te vs s0 R (xs.map f) h' (match o with | some d => acc ++ [d] | none => acc)) ?_
    refine lcL_inv' (fun t ht => hs t (List.mem_cons_of_mem _ ht)) ?_
    rw [List.append_assoc]
    exact hR
theorem pk__law_changed : Pk 2 11 sp__law_changed w__law_changed := by
  intro ds h R _ q
  obtain ⟨a, c, hc, rfl, hT, k⟩ := changed_out q
  obtain ⟨ok, h5⟩ := cds_ok c hc
  have tk := cds_tok c hc
  rw [Bool.and_eq_true, Bool.and_eq_true, List.all_eq_true] at tk
  obtain ⟨⟨t1, t2⟩, t3⟩ := tk
  obtain ⟨n, rs, xs, zs⟩ := c
  refine ⟨rfl, rfl, ?_, ?_⟩
  · show (rs.map fun t => D.str (tstr t.1 t.2)).length ≤ 1000000
    have h3 : (rowsOf (n, rs, xs, zs)).length + 1 = n := ok.2.2.1
    unfold rowsOf at h3
    rw [List.length_map] at h3 ⊢
    have h4 : rs.length + 1 = n := h3
    have h6 : n ≤ 5 := h5
    omega
  refine lcL_inv' (rs := rs) (e := fun t => (wpa t.2 t.1).e) (fun t ht C hC => ?_) ?_
  · obtain ⟨u1, u2, u3⟩ := tok_iff (t1 t ht)
    exact brT rfl ⟨t.1, t.2, rfl, u1, u2, u3, rfl, hC⟩
  · have e : rs.map (fun t => (wpa t.2 t.1).e) = (rowsOf (n, rs, xs, zs)).map Pa.e := by
      unfold rowsOf
      rw [List.map_map]
      rfl
    rw [List.nil_append, e]
    obtain ⟨u1, u2, u3⟩ := tok_iff t2
    obtain ⟨v1, v2, v3⟩ := tok_iff t3
    refine ⟨xs.1, xs.2, rfl, u1, u2, u3, zs.1, zs.2, rfl, v1, v2, v3, ?_⟩
    refine draw hT (by decide) (by decide) fun v h2 v0 v1 hT2 hb2 => ?_
    refine ⟨⟨by omega, by omega⟩, ?_⟩
    exact chg_loop h5 k _ _ _ _ (List.range v.toNat) h2 (rowsOf (n, rs, xs, zs)) _ _ .u .u .u .u hT2 hb2 ok
end VL.C

set_option Elab.async false
set_option linter.all false
set_option maxRecDepth 100000
set_option maxHeartbeats 400000
/-! VD0: signs of products; the group that the generators make; taking leading bits away, unsorted -/
namespace VL.C
open VL VL.P
def id0 : Pa := ⟨0, 0, 0⟩
def tau (p : Pa) : Int := (2 * (p.s : Int) + pc (p.x &&& p.z)) % 4
theorem cmt_eq {p q : Pa} : cmt p q = true ↔ pc (p.x &&& q.z) % 2 = pc (p.z &&& q.x) % 2 := by
  unfold cmt
  exact beq_iff_eq
theorem par4 (a b c d : Nat) : pc ((a ^^^ b) &&& (c ^^^ d)) % 2 = (pc (a &&& c) + pc (a &&& d) + pc (b &&& c) + pc (b &&& d)) % 2 := by
  have e1 := par_xor a b (c ^^^ d)
  have e2 := par_xor' c d a
  have e3 := par_xor' c d b
  omega
theorem tau_prd {p q : Pa} (h : cmt p q = true) : tau (prd p q) = (tau p + tau q + 2 * pc (p.z &&& q.x)) % 4 := by
  have h' := cmt_eq.mp h
  have e := par4 p.x q.x p.z q.z
  have c : pc (q.x &&& p.z) = pc (p.z &&& q.x) := by rw [Nat.and_comm]
  unfold tau
  show (2 * ((trn p q / 2).toNat : Int) + pc ((p.x ^^^ q.x) &&& (p.z ^^^ q.z))) % 4 = _
  unfold trn
  generalize pc ((p.x ^^^ q.x) &&& (p.z ^^^ q.z)) = A at *
  generalize pc (p.x &&& p.z) = B1 at *
  generalize pc (q.x &&& q.z) = B2 at *
  generalize pc (p.z &&& q.x) = C at *
  generalize pc (p.x &&& q.z) = C2 at *
  omega
theorem tau_inj {p q : Pa} (hp : p.s < 2) (hq : q.s < 2) (hm : mk p = mk q) (h : tau p = tau q) : p = q := by
  obtain ⟨x, z, s⟩ := p
  obtain ⟨x', z', s'⟩ := q
  have h1 : x = x' := congrArg Prod.fst hm
  have h2 : z = z' := congrArg Prod.snd hm
  subst h1 h2
  have hp' : s < 2 := hp
  have hq' : s' < 2 := hq
  unfold tau at h
  dsimp only at h
  have : s = s' := by omega
  rw [this]
theorem mk_prd (p q : Pa) : mk (prd p q) = adP (mk p) (mk q) := rfl
theorem ad_assoc (a b c : Nat × Nat) : adP (adP a b) c = adP a (adP b c) := by
  unfold adP
  rw [Nat.xor_assoc, Nat.xor_assoc]
theorem prd_assoc {a b c : Pa} (h1 : cmt a b = true) (h2 : cmt a c = true) (h3 : cmt b c = true) : prd (prd a b) c = prd a (prd b c) := by
  refine tau_inj (prd_s _ _) (prd_s _ _) (by rw [mk_prd, mk_prd, mk_prd, mk_prd, ad_assoc]) ?_
  have h12 : cmt (prd a b) c = true := by rw [cmt_prd, h2, h3]; rfl
  have h23 : cmt a (prd b c) = true := by rw [cmt_comm, cmt_prd, cmt_comm b a, cmt_comm c a, h1, h2]; rfl
  rw [tau_prd h12, tau_prd h1, tau_prd h23, tau_prd h3]
  have e1 := par_xor a.z b.z c.x
  have e2 := par_xor' b.x c.x a.z
  show ((tau a + tau b + 2 * pc (a.z &&& b.x)) % 4 + tau c + 2 * pc ((a.z ^^^ b.z) &&& c.x)) % 4 = (tau a + (tau b + tau c + 2 * pc (b.z &&& c.x)) % 4 + 2 * pc (a.z &&& (b.x ^^^ c.x))) % 4
  omega
theorem prd_comm {a b : Pa} (h : cmt a b = true) : prd a b = prd b a := by
  have h' : cmt b a = true := by rw [cmt_comm]; exact h
  refine tau_inj (prd_s _ _) (prd_s _ _) (by rw [mk_prd, mk_prd, ad_comm]) ?_
  rw [tau_prd h, tau_prd h']
  have e := cmt_eq.mp h
  rw [Nat.and_comm a.x] at e
  omega
theorem prd_self (p : Pa) : prd p p = id0 := by
  refine tau_inj (prd_s _ _) (by decide) (by rw [mk_prd]; unfold adP mk id0; rw [Nat.xor_self, Nat.xor_self]) ?_
  rw [tau_prd (cmt_self p)]
  have e : pc (p.x &&& p.z) = pc (p.z &&& p.x) := by rw [Nat.and_comm]
  have e0 : tau id0 = 0 := by decide
  rw [e0]
  unfold tau
  omega
theorem cmt_id (p : Pa) : cmt id0 p = true := by
  refine cmt_eq.mpr ?_
  show pc (0 &&& p.z) % 2 = pc (0 &&& p.x) % 2
  rw [Nat.zero_and, Nat.zero_and]
theorem prd_id {p : Pa} (h : p.s < 2) : prd id0 p = p := by
  refine tau_inj (prd_s _ _) h (by rw [mk_prd]; show adP (0, 0) (mk p) = mk p; rw [ad_comm, ad0]) ?_
  rw [tau_prd (cmt_id p)]
  have e0 : tau id0 = 0 := by decide
  have e1 : pc (id0.z &&& p.x) = 0 := by show pc (0 &&& p.x) = 0; rw [Nat.zero_and]; rfl
  rw [e0, e1]
  unfold tau
  omega
theorem prd_id' {p : Pa} (h : p.s < 2) : prd p id0 = p := by
  rw [prd_comm (by rw [cmt_comm]; exact cmt_id p)]
  exact prd_id h
/-- the other sign, or not -/
def xs (b : Nat) (p : Pa) : Pa := ⟨p.x, p.z, p.s ^^^ b⟩
theorem xs_prd {b : Nat} {p q : Pa} (hb : b < 2) (hp : p.s < 2) : prd (xs b p) q = xs b (prd p q) := by
  rcases m2 b hb with rfl | rfl
  · have e : ∀ p, xs 0 p = p := fun p => by unfold xs; rw [Nat.xor_zero]
    rw [e, e]
  · unfold prd xs
    congr 1
    unfold trn
    dsimp only
    generalize (pc ((p.x ^^^ q.x) &&& (p.z ^^^ q.z))) = A
    rcases m2 p.s hp with h | h <;> rw [h]
    · show (((2 * (((0 ^^^ 1 : Nat) : Int) + q.s) + pc (p.x &&& p.z) + pc (q.x &&& q.z) + 2 * pc (p.z &&& q.x) - A) % 4) / 2).toNat = ((2 * (((0 : Nat) : Int) + q.s) + pc (p.x &&& p.z) + pc (q.x &&& q.z) + 2 * pc (p.z &&& q.x) - A) % 4 / 2).toNat ^^^ 1
      have hx : ∀ u : Nat, u < 2 → u ^^^ 1 = 1 - u := fun u hu => by rcases m2 u hu with rfl | rfl <;> rfl
      rw [hx 0 (by decide), hx _ (by omega)]
      omega
    · have hx : ∀ u : Nat, u < 2 → u ^^^ 1 = 1 - u := fun u hu => by rcases m2 u hu with rfl | rfl <;> rfl
      show (((2 * (((1 ^^^ 1 : Nat) : Int) + q.s) + pc (p.x &&& p.z) + pc (q.x &&& q.z) + 2 * pc (p.z &&& q.x) - A) % 4) / 2).toNat = ((2 * (((1 : Nat) : Int) + q.s) + pc (p.x &&& p.z) + pc (q.x &&& q.z) + 2 * pc (p.z &&& q.x) - A) % 4 / 2).toNat ^^^ 1
      rw [hx 1 (by decide), hx _ (by omega)]
      omega
theorem cmt_xs (b : Nat) (p q : Pa) : cmt (xs b p) q = cmt p q := rfl
theorem mk_xs (b : Nat) (p : Pa) : mk (xs b p) = mk p := rfl
/-! ### the group -/
/-- products of some of the rows, times what stands in acc -/
def pms (acc ps : List Pa) : List Pa := spg (fun g r => prd r g) acc ps
theorem pms_ind {P : Pa → Prop} {acc ps : List Pa} (h0 : ∀ a ∈ acc, P a) (h1 : ∀ g ∈ ps, ∀ a, P a → P (prd a g)) : ∀ r ∈ pms acc ps, P r := by
  induction ps generalizing acc with
  | nil => exact h0
  | cons g ps ih =>
    refine ih (acc := acc ++ acc.map fun r => prd r g) (fun a ha => ?_) fun q hq => h1 q (List.mem_cons_of_mem _ hq)
    rcases List.mem_append.mp ha with ha | ha
    · exact h0 a ha
    · obtain ⟨b, hb, rfl⟩ := List.mem_map.mp ha
      exact h1 g List.mem_cons_self b (h0 b hb)
theorem pms_snoc (acc l : List Pa) (g : Pa) : pms acc (l ++ [g]) = pms acc l ++ (pms acc l).map (prd · g) := by
  unfold pms
  rw [spg_app]
  rfl
def AC (ps : List Pa) : Prop := ∀ r ∈ ps, ∀ q ∈ ps, cmt r q = true
theorem pms_cmt {acc ps : List Pa} {q : Pa} (h0 : ∀ a ∈ acc, cmt a q = true) (h1 : ∀ g ∈ ps, cmt g q = true) : ∀ r ∈ pms acc ps, cmt r q = true :=
  pms_ind h0 fun g hg a ha => by rw [cmt_prd, ha, h1 g hg]; rfl
abbrev prods (ps : List Pa) : List Pa := pms [id0] ps
theorem prods_cmt {ps : List Pa} {q : Pa} (h1 : ∀ g ∈ ps, cmt g q = true) : ∀ r ∈ prods ps, cmt r q = true := pms_cmt (fun a ha => by rw [List.mem_singleton.mp ha]; exact cmt_id q) h1
theorem prods_AC {ps : List Pa} (h : AC ps) : AC (prods ps) := fun r hr q hq => prods_cmt (fun g hg => by rw [cmt_comm]; exact prods_cmt (fun g' hg' => h g' hg' g hg) q hq) r hr
theorem prods_s {ps : List Pa} : ∀ r ∈ prods ps, r.s < 2 := pms_ind (fun a ha => by rw [List.mem_singleton.mp ha]; decide) fun g _ a _ => prd_s a g
theorem prods_id (ps : List Pa) : id0 ∈ prods ps := by
  obtain ⟨r, e⟩ := spg_pre (fun g r => prd r g) ps [id0]
  show id0 ∈ spg (fun g r => prd r g) [id0] ps
  rw [e]
  exact List.mem_cons_self
theorem rev_ind {α : Type} {P : List α → Prop} (h0 : P []) (h1 : ∀ l a, P l → P (l ++ [a])) (l : List α) : P l := by
  have : ∀ l : List α, P l.reverse := fun l => by
    induction l with
    | nil => exact h0
    | cons a l ih => rw [List.reverse_cons]; exact h1 _ _ ih
  have h := this l.reverse
  rwa [List.reverse_reverse] at h
theorem AC.pre {l : List Pa} {g : Pa} (h : AC (l ++ [g])) : AC l := fun r hr q hq => h r (List.mem_append_left _ hr) q (List.mem_append_left _ hq)
theorem prods_mul (ps : List Pa) : AC ps → ∀ a ∈ prods ps, ∀ b ∈ prods ps, prd a b ∈ prods ps := by
  refine rev_ind (P := fun ps => AC ps → ∀ a ∈ prods ps, ∀ b ∈ prods ps, prd a b ∈ prods ps) (fun _ a ha b hb => ?_) (fun l g ih hc a ha b hb => ?_) ps
  · have ea : a = id0 := List.mem_singleton.mp ha
    have eb : b = id0 := List.mem_singleton.mp hb
    subst ea eb
    exact List.mem_singleton.mpr (by decide)
  · have ih := ih hc.pre
    have C := prods_AC hc.pre
    have cg : ∀ r ∈ prods l, cmt r g = true := prods_cmt fun q hq => hc q (List.mem_append_left _ hq) g (List.mem_append_right _ List.mem_cons_self)
    have cg' : ∀ r ∈ prods l, cmt g r = true := fun r hr => by rw [cmt_comm]; exact cg r hr
    show prd a b ∈ pms [id0] (l ++ [g])
    rw [pms_snoc]
    have ha' : a ∈ pms [id0] (l ++ [g]) := ha
    have hb' : b ∈ pms [id0] (l ++ [g]) := hb
    rw [pms_snoc] at ha' hb'
    rcases List.mem_append.mp ha' with ha | ha <;> rcases List.mem_append.mp hb' with hb | hb
    · exact List.mem_append_left _ (ih a ha b hb)
    · obtain ⟨b', yb, rfl⟩ := List.mem_map.mp hb
      exact List.mem_append_right _ (List.mem_map.mpr ⟨_, ih a ha b' yb, prd_assoc (C a ha b' yb) (cg a ha) (cg b' yb)⟩)
    · obtain ⟨a', ya, rfl⟩ := List.mem_map.mp ha
      refine List.mem_append_right _ (List.mem_map.mpr ⟨_, ih a' ya b hb, ?_⟩)
      rw [prd_assoc (C a' ya b hb) (cg a' ya) (cg b hb), prd_assoc (cg a' ya) (C a' ya b hb) (cg' b hb), prd_comm (cg b hb)]
    · obtain ⟨a', ya, rfl⟩ := List.mem_map.mp ha
      obtain ⟨b', yb, rfl⟩ := List.mem_map.mp hb
      refine List.mem_append_left _ ?_
      have e : prd (prd a' g) (prd b' g) = prd a' b' := by
        have c1 : cmt g (prd b' g) = true := by rw [cmt_comm, cmt_prd, cg b' yb, cmt_self]; rfl
        have c2 : cmt a' (prd b' g) = true := by rw [cmt_comm, cmt_prd, C b' yb a' ya, cg' a' ya]; rfl
        rw [prd_assoc (cg a' ya) c2 c1, prd_comm c1, prd_assoc (cg b' yb) (cg b' yb) (cmt_self g), prd_self, prd_id' (prods_s b' yb)]
      rw [e]
      exact ih a' ya b' yb
theorem prods_gen (ps : List Pa) : (∀ p ∈ ps, p.s < 2) → ∀ g ∈ ps, g ∈ prods ps := by
  refine rev_ind (P := fun ps => (∀ p ∈ ps, p.s < 2) → ∀ g ∈ ps, g ∈ prods ps) (fun _ _ h => (nomatch h)) (fun l g ih hs q hq => ?_) ps
  show q ∈ pms [id0] (l ++ [g])
  rw [pms_snoc]
  rcases List.mem_append.mp hq with hq | hq
  · exact List.mem_append_left _ (ih (fun p hp => hs p (List.mem_append_left _ hp)) q hq)
  · rw [List.mem_singleton.mp hq]
    exact List.mem_append_right _ (List.mem_map.mpr ⟨id0, prods_id l, prd_id (hs g (List.mem_append_right _ List.mem_cons_self))⟩)
theorem prods_mk (ps : List Pa) : (prods ps).map mk = spP (ps.map mk) := spg_map (φ := mk) (g := adP) (fun g r => by show mk (prd r g) = _; rw [mk_prd, ad_comm]) ps [id0]
theorem inj_of_nodup {α β : Type} {f : α → β} : ∀ {l : List α}, (l.map f).Nodup → ∀ a ∈ l, ∀ b ∈ l, f a = f b → a = b
  | [], _, _, h, _, _, _ => nomatch h
  | c :: l, h, a, ha, b, hb, e => by
    rw [List.map_cons, List.nodup_cons] at h
    rcases List.mem_cons.mp ha with ea | ya <;> rcases List.mem_cons.mp hb with eb | yb
    · rw [ea, eb]
    · exact absurd (List.mem_map.mpr ⟨b, yb, by rw [← e, ea]⟩) h.1
    · exact absurd (List.mem_map.mpr ⟨a, ya, by rw [e, eb]⟩) h.1
    · exact inj_of_nodup h.2 a ya b yb e
theorem prods_inj {ps : List Pa} (h : (spP (ps.map mk)).Nodup) : ∀ a ∈ prods ps, ∀ b ∈ prods ps, mk a = mk b → a = b := inj_of_nodup (by rw [prods_mk]; exact h)
/-- the products of L with all: from the left, or each with L ahead -/
theorem pms_left {L : Pa} {ps : List Pa} (hL : ∀ g ∈ ps, cmt L g = true) (h : AC ps) : ∀ acc : List Pa, (∀ a ∈ acc, cmt L a = true ∧ ∀ g ∈ ps, cmt a g = true) → pms (acc.map (prd L)) ps = (pms acc ps).map (prd L) := by
  induction ps with
  | nil => intro acc _; rfl
  | cons g ps ih =>
    intro acc ha
    show pms (acc.map (prd L) ++ (acc.map (prd L)).map fun r => prd r g) ps = (pms (acc ++ acc.map fun r => prd r g) ps).map (prd L)
    rw [← ih (fun q hq => hL q (List.mem_cons_of_mem _ hq)) (fun r hr q hq => h r (List.mem_cons_of_mem _ hr) q (List.mem_cons_of_mem _ hq)) (acc ++ acc.map fun r => prd r g) (fun a hm => ?_), List.map_append, List.map_map, List.map_map]
    · congr 2
      refine List.map_congr_left fun a hm => ?_
      exact prd_assoc (ha a hm).1 (hL g List.mem_cons_self) ((ha a hm).2 g List.mem_cons_self)
    · rcases List.mem_append.mp hm with hm | hm
      · exact ⟨(ha a hm).1, fun q hq => (ha a hm).2 q (List.mem_cons_of_mem _ hq)⟩
      · obtain ⟨b, hb, rfl⟩ := List.mem_map.mp hm
        refine ⟨by rw [cmt_comm, cmt_prd, cmt_comm b L, cmt_comm g L, (ha b hb).1, hL g List.mem_cons_self]; rfl, fun q hq => ?_⟩
        rw [cmt_prd, (ha b hb).2 q (List.mem_cons_of_mem _ hq), h g List.mem_cons_self q (List.mem_cons_of_mem _ hq)]
        rfl
theorem pms_cos {L : Pa} {ps : List Pa} (hs : L.s < 2) (hL : ∀ g ∈ ps, cmt L g = true) (h : AC ps) : pms [L] ps = (prods ps).map (prd L) := by
  rw [← pms_left hL h [id0] fun a ha => by rw [List.mem_singleton.mp ha]; exact ⟨by rw [cmt_comm]; exact cmt_id L, fun g _ => cmt_id g⟩]
  show pms [L] ps = pms [prd L id0] ps
  rw [prd_id' hs]
theorem prods_bd {n : Nat} {acc ps : List Pa} (h0 : ∀ p ∈ acc, Bd n p) (h : ∀ p ∈ ps, Bd n p) : ∀ r ∈ pms acc ps, Bd n r := pms_ind h0 fun g hg a ha => bd_prd ha (h g hg)
theorem pms_len : ∀ (ps acc : List Pa), (pms acc ps).length = acc.length * 2 ^ ps.length
  | [], acc => by show acc.length = _; simp
  | g :: ps, acc => by
    show (pms (acc ++ acc.map fun r => prd r g) ps).length = _
    rw [pms_len ps, List.length_append, List.length_map, List.length_cons, Nat.pow_succ, ← Nat.two_mul, Nat.mul_comm 2, Nat.mul_assoc, Nat.mul_comm 2]
/-! ### leading bits, unsorted -/
/-- each row has 0 where an earlier row leads -/
structure Tri (R : List Nat) : Prop where
  nz : ∀ r ∈ R, r ≠ 0
  ld : R.Pairwise fun a b => b.testBit a.log2 = false
theorem Sp.bit0 {R : List Nat} {j u : Nat} (h : ∀ r ∈ R, r.testBit j = false) (s : Sp R u) : u.testBit j = false := by
  induction s with
  | zero => exact Nat.zero_testBit j
  | add hv _ ih => rw [Nat.testBit_xor, h _ hv, ih]; rfl
theorem tri_zero : ∀ (R : List Nat) (u : Nat), Tri R → Sp R u → (∀ r ∈ R, u.testBit r.log2 = false) → u = 0
  | [], u, _, s, _ => s.nil
  | r :: R, u, b, s, h => by
    have b2 := List.pairwise_cons.mp b.ld
    have b3 : Tri R := ⟨fun x hx => b.nz x (List.mem_cons_of_mem _ hx), b2.2⟩
    rcases Sp.cons.mp s with s | s
    · exact tri_zero R u b3 s fun x hx => h x (List.mem_cons_of_mem _ hx)
    · have h1 := s.bit0 (j := r.log2) b2.1
      rw [Nat.testBit_xor, lead_bit (b.nz r List.mem_cons_self), h r List.mem_cons_self] at h1
      cases h1
/-- v with the leading bits of the rows taken away, row by row -/
def cl1 (v r : Nat) : Nat := if v.testBit r.log2 = true then v ^^^ r else v
def clN (R : List Nat) (v : Nat) : Nat := R.foldl cl1 v
theorem cl1_bit {v r : Nat} (h : r ≠ 0) : (cl1 v r).testBit r.log2 = false := by
  unfold cl1
  split
  · rename_i q
    rw [Nat.testBit_xor, q, lead_bit h]; rfl
  · rename_i q
    simpa using q
theorem cl1_keep {v r j : Nat} (h : r.testBit j = false) : (cl1 v r).testBit j = v.testBit j := by
  unfold cl1
  split
  · rw [Nat.testBit_xor, h]; cases v.testBit j <;> rfl
  · rfl
theorem clN_keep {j : Nat} : ∀ (R : List Nat) (v : Nat), (∀ r ∈ R, r.testBit j = false) → (clN R v).testBit j = v.testBit j
  | [], _, _ => rfl
  | r :: R, v, h => by
    show (clN R (cl1 v r)).testBit j = _
    rw [clN_keep R _ fun x hx => h x (List.mem_cons_of_mem _ hx), cl1_keep (h r List.mem_cons_self)]
theorem clN_bits : ∀ (R : List Nat) (v : Nat), Tri R → (∀ r ∈ R, (clN R v).testBit r.log2 = false) ∧ Sp R (v ^^^ clN R v)
  | [], v, _ => ⟨fun r h => (nomatch h), by show Sp [] (v ^^^ v); rw [Nat.xor_self]; exact .zero⟩
  | r :: R, v, b => by
    have b2 := List.pairwise_cons.mp b.ld
    obtain ⟨h1, h2⟩ := clN_bits R (cl1 v r) ⟨fun x hx => b.nz x (List.mem_cons_of_mem _ hx), b2.2⟩
    refine ⟨fun x hx => ?_, ?_⟩
    · show (clN R (cl1 v r)).testBit x.log2 = false
      rcases List.mem_cons.mp hx with rfl | hx
      · rw [clN_keep R _ b2.1]
        exact cl1_bit (b.nz _ List.mem_cons_self)
      · exact h1 x hx
    · show Sp (r :: R) (v ^^^ clN R (cl1 v r))
      have h3 : Sp (r :: R) (cl1 v r ^^^ clN R (cl1 v r)) := h2.mono fun _ hx => List.mem_cons_of_mem _ hx
      have h4 : Sp (r :: R) (v ^^^ cl1 v r) := by
        unfold cl1
        split
        · rw [xx_cancel]; exact .one List.mem_cons_self
        · rw [Nat.xor_self]; exact .zero
      have := h4.xor h3
      rwa [Nat.xor_assoc, xx_cancel] at this
theorem clN_zero {R : List Nat} {v : Nat} (b : Tri R) : clN R v = 0 ↔ Sp R v := by
  obtain ⟨h1, h2⟩ := clN_bits R v b
  constructor
  · intro e
    rw [e, Nat.xor_zero] at h2
    exact h2
  · intro s
    have h3 := s.xor h2
    rw [xx_cancel] at h3
    exact tri_zero R _ b h3 h1
theorem tri_more {R : List Nat} {v : Nat} (b : Tri R) (hn : clN R v ≠ 0) : Tri (R ++ [clN R v]) ∧ ∀ u, Sp (R ++ [clN R v]) u ↔ Sp R u ∨ Sp R (v ^^^ u) := by
  obtain ⟨h1, h2⟩ := clN_bits R v b
  refine ⟨⟨fun r hr => ?_, List.pairwise_append.mpr ⟨b.ld, List.pairwise_singleton _ _, fun a ha c hc => ?_⟩⟩, fun u => ?_⟩
  · rcases List.mem_append.mp hr with z | z
    · exact b.nz r z
    · rw [List.mem_singleton.mp z]; exact hn
  · rw [List.mem_singleton.mp hc]; exact h1 a ha
  · have e1 : Sp (R ++ [clN R v]) u ↔ Sp (clN R v :: R) u := ⟨fun s => s.mono fun x hx => by
      rcases List.mem_append.mp hx with z | z
      · exact List.mem_cons_of_mem _ z
      · rw [List.mem_singleton.mp z]; exact List.mem_cons_self, fun s => s.mono fun x hx => by
      rcases List.mem_cons.mp hx with rfl | z
      · exact List.mem_append_right _ (List.mem_singleton.mpr rfl)
      · exact List.mem_append_left _ z⟩
    rw [e1, Sp.cons]
    have e2 : Sp R (clN R v ^^^ u) ↔ Sp R (v ^^^ u) := ⟨fun s => by
      have := h2.xor s
      rwa [Nat.xor_assoc, xx_cancel] at this, fun s => by
      have := h2.xor s
      rw [Nat.xor_comm v (clN R v), Nat.xor_assoc, xx_cancel] at this
      exact this⟩
    rw [e2]
end VL.C

set_option Elab.async false
set_option linter.all false
set_option maxRecDepth 100000
set_option maxHeartbeats 400000
/-! VD1: what a code's methods promise: syndromes, logical Paulis, representatives, what acts -/
namespace VL.C
open PySem PySem.Spec PyProof.Rows L2 VL VL.P
def codeFR (n g x z t r : D) : List (Str × D) := [("n", n), ("generators", g), ("x", x), ("z", z), ("table", t), ("reps", r)]
/-- letters: 0 I, 1 X, 2 Z, 3 Y -/
def nmS : Nat → Str
  | 0 => "I"
  | 1 => "X"
  | 2 => "Z"
  | _ => "Y"
structure CodeB (h : Oh) (o : Addr) (n : Nat) (ps : List Pa) (X Z : Pa) (t r : D) : Prop where
  ok : IsC n ps X Z
  n5 : n ≤ 5
  at_ : h o = some (.ins "Code" (codeFR (.int n) (.tup (ps.map Pa.e)) X.e Z.e t r))
def lgc (X Z : Pa) : Nat → Pa
  | 1 => X
  | 2 => Z
  | _ => ⟨(prd X Z).x, (prd X Z).z, 1 - (prd X Z).s⟩
def ltP (p q : Pa) : Bool := PySem.W.dataLt (rnk p).pd (rnk q).pd
/-- the first of the least -/
def amin : List Pa → Pa → Pa
  | [], b => b
  | x :: xs, b => amin xs (if ltP x b = true then x else b)
def lst (l : List Pa) : Pa := amin l.tail (l.headD id0)
/-- the least representative -/
def rp (ps : List Pa) (X Z : Pa) (k : Nat) : Pa := if k = 0 then id0 else lst (pms [lgc X Z k] ps)
def repT (ps : List Pa) (X Z : Pa) : List (Key × D) := [(.inr "X", (rp ps X Z 1).e), (.inr "Y", (rp ps X Z 3).e), (.inr "Z", (rp ps X Z 2).e)]
def CodeAt (h : Oh) (o : Addr) (n : Nat) (ps : List Pa) (X Z : Pa) (t : D) : Prop := ∃ r, CodeB h o n ps X Z t r ∧ (r = .non ∨ ∃ d, r = .obj d ∧ d ≠ o ∧ h d = some (mdP (repT ps X Z)))
def Keep (o : Addr) (h h' : Oh) : Prop := ∀ b, b ≠ o → h b ≠ none → h' b = h b
theorem Keep.refl (o : Addr) (h : Oh) : Keep o h h := fun _ _ _ => rfl
theorem Keep.trans {o : Addr} {h h' h2 : Oh} (a : Keep o h h') (b : Keep o h' h2) : Keep o h h2 := fun c h1 h2 => (b c h1 (by rw [a c h1 h2]; exact h2)).trans (a c h1 h2)
def syn (ps : List Pa) (p : Pa) : List Int := ps.map fun g => 1 - (if cmt p g = true then 1 else 0)
/-- how p acts -/
def knd (p X Z : Pa) : Nat := (if cmt p Z = true then 0 else 1) + 2 * (if cmt p X = true then 0 else 1)
def rst (ps : List Pa) (X Z p : Pa) : Pa := if knd p X Z = 0 then p else prd p (rp ps X Z (knd p X Z))
def cl (n : Nat) (p r : Pa) : Pa := if (vx n (mk p)).testBit (vx n (mk r)).log2 = true then prd p r else p
def clr (n : Nat) (R : List Pa) (p : Pa) : Pa := R.foldl (cl n) p
def crw (n : Nat) (ps : List Pa) : List Pa := ps.foldl (fun R g => R ++ [clr n R g]) []
def sgn (n : Nat) (ps : List Pa) (X Z p : Pa) : Nat := (clr n (crw n ps) (rst ps X Z p)).s
def sp_Code_syndrome : Spc := fun ds h R _ => ∃ (o : Addr) (p : Pa) (n : Nat) (ps : List Pa) (X Z : Pa) (t r : D), ds = [.obj o, p.e] ∧ CodeB h o n ps X Z t r ∧ R (.tup ((syn ps p).map .int)) h
def sp_Code_logical : Spc := fun ds h R _ => ∃ (o : Addr) (k n : Nat) (ps : List Pa) (X Z : Pa) (t r : D), ds = [.obj o, .str (nmS k)] ∧ 1 ≤ k ∧ k < 4 ∧ CodeB h o n ps X Z t r ∧ R (lgc X Z k).e h
def sp_Code_coset : Spc := fun ds h R _ => ∃ (o : Addr) (p : Pa) (n : Nat) (ps : List Pa) (X Z : Pa) (t r : D), ds = [.obj o, p.e] ∧ Bd 13 p ∧ CodeB h o n ps X Z t r ∧ R (.lst ((pms [p] ps).map Pa.e)) h
@[irreducible] def sp_Code_rep : Spc := fun ds h R _ => ∃ (o : Addr) (k n : Nat) (ps : List Pa) (X Z : Pa) (t : D), ds = [.obj o, .str (nmS k)] ∧ 1 ≤ k ∧ k < 4 ∧ CodeAt h o n ps X Z t ∧ ∀ h', CodeAt h' o n ps X Z t → Keep o h h' → R (rp ps X Z k).e h'
def sp_Code_cleared : Spc := fun ds h R _ => ∃ (o a : Addr) (p : Pa) (rows : List Pa) (n : Nat) (ps : List Pa) (X Z : Pa) (t r : D), ds = [.obj o, p.e, .obj a] ∧ CodeB h o n ps X Z t r ∧ h a = some (.ml (rows.map Pa.e)) ∧ Bd n p ∧ (∀ q ∈ rows, Bd n q ∧ vx n (mk q) ≠ 0) ∧ R (clr n rows p).e h
def sp_Code_sign_in : Spc := fun ds h R _ => ∃ (o : Addr) (p : Pa) (n : Nat) (ps : List Pa) (X Z : Pa) (t r : D), ds = [.obj o, p.e] ∧ CodeB h o n ps X Z t r ∧ Bd n p ∧ R (.int ((clr n (crw n ps) p).s : Nat)) h
def noSyn (ps : List Pa) (p : Pa) : Bool := ps.all (cmt p)
@[irreducible] def sp_Code_classified : Spc := fun ds h R Y => ∃ (o : Addr) (p : Pa) (n : Nat) (ps : List Pa) (X Z : Pa) (t : D), ds = [.obj o, p.e] ∧ CodeAt h o n ps X Z t ∧ Bd n p ∧
  (noSyn ps p = true → ∀ h', CodeAt h' o n ps X Z t → Keep o h h' → R (.tup [.int (sgn n ps X Z p : Nat), .str (nmS (knd p X Z))]) h') ∧ (noSyn ps p = false → Y "NotValid" [] h)
@[irreducible] def sp_Code_acts : Spc := fun ds h R Y => ∃ (o : Addr) (p : Pa) (n : Nat) (ps : List Pa) (X Z : Pa) (t : D), ds = [.obj o, p.e] ∧ CodeAt h o n ps X Z t ∧ Bd n p ∧
  (noSyn ps p = true → ∀ h', CodeAt h' o n ps X Z t → Keep o h h' → R (.str (nmS (knd p X Z))) h') ∧ (noSyn ps p = false → Y "NotValid" [] h)
section
variable {R : D → Oh → Prop} {Y : XC} {h : Oh} {o : Addr} {n k : Nat} {ps : List Pa} {X Z p : Pa} {t : D}
theorem rep_in (h1 : 1 ≤ k) (h4 : k < 4) (hc : CodeAt h o n ps X Z t) (kk : ∀ h', CodeAt h' o n ps X Z t → Keep o h h' → R (rp ps X Z k).e h') : sp_Code_rep [.obj o, .str (nmS k)] h R Y := by
  unfold sp_Code_rep
  exact ⟨o, k, n, ps, X, Z, t, rfl, h1, h4, hc, kk⟩
theorem rep_out {ds : List D} (q : sp_Code_rep ds h R Y) : ∃ (o : Addr) (k n : Nat) (ps : List Pa) (X Z : Pa) (t : D), ds = [.obj o, .str (nmS k)] ∧ 1 ≤ k ∧ k < 4 ∧ CodeAt h o n ps X Z t ∧ ∀ h', CodeAt h' o n ps X Z t → Keep o h h' → R (rp ps X Z k).e h' := by
  unfold sp_Code_rep at q
  exact q
theorem classified_in (hc : CodeAt h o n ps X Z t) (hb : Bd n p) (kk : noSyn ps p = true → ∀ h', CodeAt h' o n ps X Z t → Keep o h h' → R (.tup [.int (sgn n ps X Z p : Nat), .str (nmS (knd p X Z))]) h') (ky : noSyn ps p = false → Y "NotValid" [] h) : sp_Code_classified [.obj o, p.e] h R Y := by
  unfold sp_Code_classified
  exact ⟨o, p, n, ps, X, Z, t, rfl, hc, hb, kk, ky⟩
theorem classified_out {ds : List D} (q : sp_Code_classified ds h R Y) : ∃ (o : Addr) (p : Pa) (n : Nat) (ps : List Pa) (X Z : Pa) (t : D), ds = [.obj o, p.e] ∧ CodeAt h o n ps X Z t ∧ Bd n p ∧
  (noSyn ps p = true → ∀ h', CodeAt h' o n ps X Z t → Keep o h h' → R (.tup [.int (sgn n ps X Z p : Nat), .str (nmS (knd p X Z))]) h') ∧ (noSyn ps p = false → Y "NotValid" [] h) := by
  unfold sp_Code_classified at q
  exact q
theorem acts_in (hc : CodeAt h o n ps X Z t) (hb : Bd n p) (kk : noSyn ps p = true → ∀ h', CodeAt h' o n ps X Z t → Keep o h h' → R (.str (nmS (knd p X Z))) h') (ky : noSyn ps p = false → Y "NotValid" [] h) : sp_Code_acts [.obj o, p.e] h R Y := by
  unfold sp_Code_acts
  exact ⟨o, p, n, ps, X, Z, t, rfl, hc, hb, kk, ky⟩
theorem acts_out {ds : List D} (q : sp_Code_acts ds h R Y) : ∃ (o : Addr) (p : Pa) (n : Nat) (ps : List Pa) (X Z : Pa) (t : D), ds = [.obj o, p.e] ∧ CodeAt h o n ps X Z t ∧ Bd n p ∧
  (noSyn ps p = true → ∀ h', CodeAt h' o n ps X Z t → Keep o h h' → R (.str (nmS (knd p X Z))) h') ∧ (noSyn ps p = false → Y "NotValid" [] h) := by
  unfold sp_Code_acts at q
  exact q
end
def sp__law_rank : Spc := sp_rank
def sp__law_products : Spc := fun ds h R _ => ∃ ps : List Pa, ds = [.lst (ps.map Pa.e)] ∧ ps.length ≤ 5 ∧ (∀ p ∈ ps, Bd 13 p) ∧ R (.lst ((prods ps).map Pa.e)) h
def sp__law_logical : Spc := fun ds h R _ => ∃ (X Z : Pa) (k : Nat), ds = [X.e, Z.e, .str (nmS k)] ∧ 1 ≤ k ∧ k < 4 ∧ Bd 13 X ∧ Bd 13 Z ∧ R (lgc X Z k).e h
@[irreducible] def sp__law_refused : Spc := fun ds h R _ => ∃ (o : Addr) (p : Pa) (n : Nat) (ps : List Pa) (X Z : Pa) (t : D), ds = [.obj o, p.e] ∧ CodeAt h o n ps X Z t ∧ Bd n p ∧ ∀ h', CodeAt h' o n ps X Z t → Keep o h h' → R (.bl (!noSyn ps p)) h'
end VL.C

set_option Elab.async false
set_option linter.all false
set_option maxRecDepth 100000
namespace VL.C
open PySem PySem.Spec L2 VL VL.P
def w_Code_syndrome : WS :=
  (wRet (wCB bTup (wCons (wLc (wItT (wFld "Code" "generators" (wVar 0))) (gVar 2) wYes (wOp opSub (wC (.int 1)) (wCB bInt (wCons (wCall sp_commutes (wCons (wVar 1) (wCons (wVar 2) wNil))) wNil))) [2]) wNil)))
def w_Code_logical_3 : WS :=
  (wRet (wTup (wCons (wVar 2) (wCons (wVar 3) (wCons (wOp opSub (wC (.int 1)) (wVar 4)) wNil)))))
def w_Code_logical_2 : WS :=
  (wSeq (wAsg (wCall sp_product (wCons (wFld "Code" "x" (wVar 0)) (wCons (wFld "Code" "z" (wVar 0)) wNil))) (gTp 3 (gsCons (gVar 2) (gsCons (gVar 3) (gsCons (gVar 4) gsNil)))))
  w_Code_logical_3)
def w_Code_logical_1 : WS :=
  (wSeq (wIfS (wBb (wOp opEq (wVar 1) (wC (.str "Z")))) (wRet (wFld "Code" "z" (wVar 0))) wNext)
  w_Code_logical_2)
def w_Code_logical : WS :=
  (wSeq (wIfS (wBb (wOp opEq (wVar 1) (wC (.str "X")))) (wRet (wFld "Code" "x" (wVar 0))) wNext)
  w_Code_logical_1)
def w_Code_rep_b1 : WS :=
  (wDPut (wFld "Code" "reps" (wVar 0)) (wVar 2) (wMinF sp_rank (wMeth "Code" "coset" sp_Code_coset (wVar 0) (wCons (wMeth "Code" "logical" sp_Code_logical (wVar 0) (wCons (wVar 2) wNil)) wNil))))
def w_Code_rep_1 : WS :=
  (wRet (wDGet (wFld "Code" "reps" (wVar 0)) (wVar 1)))
def w_Code_rep : WS :=
  (wSeq (wIfS (wBb (wOp opIsN (wFld "Code" "reps" (wVar 0)) (wC .non))) (wSeq (wSetFM "Code" "reps" (wVar 0) wDNew)
  (wFor (wItS (wC (.str "XYZ"))) (gVar 2) w_Code_rep_b1)) wNext)
  w_Code_rep_1)
def w_Code_coset_b1 : WS :=
  (wAsg (wOp opAdd (wVar 2) (wLc (wItL (wVar 2)) (gVar 4) wYes (wCall sp_product (wCons (wVar 4) (wCons (wVar 3) wNil))) [4])) (gVar 2))
def w_Code_coset_2 : WS :=
  (wRet (wVar 2))
def w_Code_coset_1 : WS :=
  (wSeq (wFor (wItT (wFld "Code" "generators" (wVar 0))) (gVar 3) w_Code_coset_b1)
  w_Code_coset_2)
def w_Code_coset : WS :=
  (wSeq (wAsg (wLst (wCons (wVar 1) wNil)) (gVar 2))
  w_Code_coset_1)
def w_Code_classified_4 : WS :=
  (wRet (wTup (wCons (wMeth "Code" "sign_in" sp_Code_sign_in (wVar 0) (wCons (wVar 3) wNil)) (wCons (wVar 2) wNil))))
def w_Code_classified_3 : WS :=
  (wSeq (wIfS (wBb (wOp opNe (wVar 2) (wC (.str "I")))) (wAsg (wCall sp_product (wCons (wVar 1) (wCons (wMeth "Code" "rep" sp_Code_rep (wVar 0) (wCons (wVar 2) wNil)) wNil))) (gVar 3)) wNext)
  w_Code_classified_4)
def w_Code_classified_2 : WS :=
  (wSeq (wAsg (wVar 1) (gVar 3))
  w_Code_classified_3)
def w_Code_classified_1 : WS :=
  (wSeq (wAsg (wIx (wC (.str "IZXY")) (wOp opAdd (wCB bInt (wCons (wNotV (wCall sp_commutes (wCons (wVar 1) (wCons (wFld "Code" "x" (wVar 0)) wNil)))) wNil)) (wOp opMulS (wC (.int 2)) (wCB bInt (wCons (wNotV (wCall sp_commutes (wCons (wVar 1) (wCons (wFld "Code" "z" (wVar 0)) wNil)))) wNil))))) (gVar 2))
  w_Code_classified_2)
def w_Code_classified : WS :=
  (wSeq (wIfS (wB (wAnyT (wMeth "Code" "syndrome" sp_Code_syndrome (wVar 0) (wCons (wVar 1) wNil)))) (wRaise "NotValid") wNext)
  w_Code_classified_1)
def w_Code_sign_in_b1 : WS :=
  (wApp 2 (wLend 2 (wMeth "Code" "cleared" sp_Code_cleared (wVar 0) (wCons (wVar 3) (wCons (wObj 2) wNil)))))
def w_Code_sign_in_2 : WS :=
  (wRet (wIx (wLend 2 (wMeth "Code" "cleared" sp_Code_cleared (wVar 0) (wCons (wVar 1) (wCons (wObj 2) wNil)))) (wC (.int 2))))
def w_Code_sign_in_1 : WS :=
  (wSeq (wFor (wItT (wFld "Code" "generators" (wVar 0))) (gVar 3) w_Code_sign_in_b1)
  w_Code_sign_in_2)
def w_Code_sign_in : WS :=
  (wSeq (wSetO 2 (wLst wNil))
  w_Code_sign_in_1)
def w_Code_cleared_b1_2 : WS :=
  (wIfS (wB (wOp opAnd (wOp opOr (wOp opShl (wIx (wVar 1) (wC (.int 0))) (wFld "Code" "n" (wVar 0))) (wIx (wVar 1) (wC (.int 1)))) (wVar 5))) (wAsg (wCall sp_product (wCons (wVar 1) (wCons (wVar 3) wNil))) (gVar 1)) wNext)
def w_Code_cleared_b1_1 : WS :=
  (wSeq (wAsg (wOp opShl (wC (.int 1)) (wOp opSub (wBits (wVar 4)) (wC (.int 1)))) (gVar 5))
  w_Code_cleared_b1_2)
def w_Code_cleared_b1 : WS :=
  (wSeq (wAsg (wOp opOr (wOp opShl (wIx (wVar 3) (wC (.int 0))) (wFld "Code" "n" (wVar 0))) (wIx (wVar 3) (wC (.int 1)))) (gVar 4))
  w_Code_cleared_b1_1)
def w_Code_cleared_1 : WS :=
  (wRet (wVar 1))
def w_Code_cleared : WS :=
  (wSeq (wForO (wVar 2) (gVar 3) w_Code_cleared_b1)
  w_Code_cleared_1)
def w_Code_acts : WS :=
  (fun T => wRet ((fun xx => (wIx (wMethX "Code" "classified" sp_Code_classified (wVar 0) (wCons (wVar 1) wNil) xx) (wC (.int 1)))) T.xx) T)
def w__law_rank : WS :=
  (wRet (wTup (wCons (wCall sp__law_ones (wCons (wOp opOr (wIx (wVar 0) (wC (.int 0))) (wIx (wVar 0) (wC (.int 1)))) wNil)) (wCons (wIx (wVar 0) (wC (.int 0))) (wCons (wIx (wVar 0) (wC (.int 1))) wNil)))))
def w__law_products_b1 : WS :=
  (wAsg (wOp opAdd (wVar 1) (wLc (wItL (wVar 1)) (gVar 3) wYes (wCall sp__law_times (wCons (wVar 3) (wCons (wVar 2) wNil))) [3])) (gVar 1))
def w__law_products_2 : WS :=
  (wRet (wVar 1))
def w__law_products_1 : WS :=
  (wSeq (wFor (wItL (wVar 0)) (gVar 2) w__law_products_b1)
  w__law_products_2)
def w__law_products : WS :=
  (wSeq (wAsg (wLst (wCons (wTup (wCons (wC (.int 0)) (wCons (wC (.int 0)) (wCons (wC (.int 0)) wNil)))) wNil)) (gVar 1))
  w__law_products_1)
def w__law_logical_3 : WS :=
  (wRet (wTup (wCons (wIx (wVar 3) (wC (.int 0))) (wCons (wIx (wVar 3) (wC (.int 1))) (wCons (wOp opSub (wC (.int 1)) (wIx (wVar 3) (wC (.int 2)))) wNil)))))
def w__law_logical_2 : WS :=
  (wSeq (wAsg (wCall sp__law_times (wCons (wVar 0) (wCons (wVar 1) wNil))) (gVar 3))
  w__law_logical_3)
def w__law_logical_1 : WS :=
  (wSeq (wIfS (wBb (wOp opEq (wVar 2) (wC (.str "Z")))) (wRet (wVar 1)) wNext)
  w__law_logical_2)
def w__law_logical : WS :=
  (wSeq (wIfS (wBb (wOp opEq (wVar 2) (wC (.str "X")))) (wRet (wVar 0)) wNext)
  w__law_logical_1)
def w__law_refused_1 : WS :=
  (wRet (wC (.bl false)))
def w__law_refused : WS :=
  (wSeq (wTry "NotValid" (fun T => wDrop ((fun xx => (wMethX "Code" "classified" sp_Code_classified (wVar 0) (wCons (wVar 1) wNil) xx)) T.xx) T) (wRet (wC (.bl true))))
  w__law_refused_1)
end VL.C

set_option Elab.async false
set_option linter.all false
set_option maxRecDepth 100000
set_option maxHeartbeats 400000
/-! VD2: syndrome, logical, coset, cleared, sign_in walked -/
namespace VL.C
open PySem PySem.Spec PyProof.Rows L2 VL VL.P
theorem len5 {h : Oh} {o : Addr} {n : Nat} {ps : List Pa} {X Z : Pa} {t r : D} (c : CodeB h o n ps X Z t r) : ps.length ≤ 4 := by
  have h1 := c.ok.2.2.1
  have h2 := c.n5
  omega
theorem pk_Code_syndrome : Pk 2 1 sp_Code_syndrome w_Code_syndrome := by
  rintro ds h R _ ⟨o, p, n, ps, X, Z, t, r, rfl, hc, hR⟩
  have l5 := len5 hc
  refine ⟨o, _, _, rfl, hc.at_, rfl, rfl, (by show (ps.map Pa.e).length ≤ 1000000; rw [List.length_map]; omega), ?_⟩
  refine lcL_inv' (f := Pa.e) (e := fun g => D.int (1 - (if cmt p g = true then 1 else 0))) (fun g hg C hC => ?_) ?_
  · refine brT rfl ⟨p, g, rfl, ?_⟩
    exact ⟨rfl, hC⟩
  · show R (.tup ([] ++ ps.map fun g => D.int (1 - (if cmt p g = true then 1 else 0)))) h
    have e : (syn ps p).map D.int = ps.map fun g => D.int (1 - (if cmt p g = true then 1 else 0)) := by
      unfold syn
      rw [List.map_map]
      rfl
    rw [List.nil_append, ← e]
    exact hR
theorem pk_Code_logical : Pk 2 3 sp_Code_logical w_Code_logical := by
  rintro ds h R _ ⟨o, k, n, ps, X, Z, t, r, rfl, h1, h4, hc, hR⟩
  have b := hc.ok.b13
  have c : k = 1 ∨ k = 2 ∨ k = 3 := by omega
  rcases c with rfl | rfl | rfl
  · refine brT (by decide) ?_
    exact ⟨o, _, _, rfl, hc.at_, rfl, hR⟩
  · refine brF (by decide) (brT (by decide) ?_)
    exact ⟨o, _, _, rfl, hc.at_, rfl, hR⟩
  · refine brF (by decide) (brF (by decide) ?_)
    refine ⟨o, _, _, rfl, hc.at_, rfl, o, _, _, rfl, hc.at_, rfl, X, Z, rfl, b.2.1.s, b.2.2.s, ?_, ?_⟩
    · exact Nat.lt_of_lt_of_le b.2.1.z (Nat.pow_le_pow_right (by decide) (by decide))
    · refine ⟨rfl, ?_⟩
      show R (.tup [.int (prd X Z).x, .int (prd X Z).z, .int (1 - ((prd X Z).s : Int))]) h
      have e : (1 : Int) - ((prd X Z).s : Int) = ((1 - (prd X Z).s : Nat) : Int) := by
        have := prd_s X Z
        omega
      rw [e]
      exact hR
theorem pk_Code_coset : Pk 2 3 sp_Code_coset w_Code_coset := by
  rintro ds h R _ ⟨o, p, n, ps, X, Z, t, r, rfl, hp, hc, hR⟩
  have l5 := len5 hc
  have b := hc.ok.b13
  refine ⟨o, _, _, rfl, hc.at_, rfl, ?_⟩
  have loop : ∀ (qs dn : List Pa) (u3 u4 : Sl), ps = dn ++ qs → (∀ d, u4 ≠ .o d) → wForL (gVar 3) w_Code_coset_b1 { Fi R with nx := w_Code_coset_2 (Fi R) } (qs.map Pa.e) ⟨[.f (.obj o), .f p.e, .f (.lst ((pms [p] dn).map Pa.e)), u3, u4], h⟩ := fun qs => by
    induction qs with
    | nil =>
      intro dn u3 u4 e _
      rw [List.append_nil] at e
      rw [← e]
      exact hR
    | cons q qs ih =>
      intro dn u3 u4 e n4
      have hq : q ∈ ps := by rw [e]; simp
      have hlen : (pms [p] dn).length ≤ 16 := by
        rw [pms_len]
        have h1 : dn.length ≤ ps.length := by rw [e, List.length_append]; omega
        have : 2 ^ dn.length ≤ 2 ^ 4 := Nat.pow_le_pow_right (by decide) (by omega)
        show 1 * _ ≤ 16
        omega
      have bd : ∀ a ∈ pms [p] dn, Bd 13 a := prods_bd (fun a ha => by rw [List.mem_singleton.mp ha]; exact hp) fun a ha => b.1 a (by rw [e]; exact List.mem_append_left _ ha)
      have no4 : noOwn [.f (.obj o), .f p.e, .f (.lst ((pms [p] dn).map Pa.e)), .f q.e, u4] [4] = true := by
        cases u4 with
        | o d => exact absurd rfl (n4 d)
        | u => rfl
        | f d => rfl
      refine forv ?_
      refine ⟨no4, (by show ((pms [p] dn).map Pa.e).length ≤ 1000000; rw [List.length_map]; omega), ?_⟩
      refine lcL_inv' (f := Pa.e) (e := fun a => (prd a q).e) (fun a ha C hC => ?_) ?_
      · refine brT rfl ⟨a, q, rfl, (bd a ha).s, (b.1 q hq).s, Nat.lt_of_lt_of_le (bd a ha).z (Nat.pow_le_pow_right (by decide) (by decide)), ?_⟩
        exact ⟨rfl, hC⟩
      · refine ⟨lenLine ?_, ?_⟩
        · rw [List.nil_append, List.length_map, List.length_map]; omega
        · have x := ih (dn ++ [q]) (.f q.e) u4 (by rw [e]; simp) n4
          have e4 : (pms [p] dn).map Pa.e ++ ([] ++ (pms [p] dn).map fun a => (prd a q).e) = (pms [p] (dn ++ [q])).map Pa.e := by
            rw [pms_snoc, List.map_append, List.map_map]
            rfl
          rw [← e4] at x
          exact x
  exact loop ps [] .u .u rfl (fun d z => nomatch z)
theorem and_two (y i : Nat) : y &&& 2 ^ i = (y.testBit i).toNat * 2 ^ i := Nat.eq_of_testBit_eq fun j => by
  rw [Nat.testBit_and, Nat.testBit_two_pow]
  by_cases h : i = j
  · subst h
    rw [decide_eq_true rfl, Bool.and_true]
    cases y.testBit i with
    | true => rw [show true.toNat = 1 from rfl, Nat.one_mul, Nat.testBit_two_pow_self]
    | false => rw [show false.toNat = 0 from rfl, Nat.zero_mul, Nat.zero_testBit]
  · rw [decide_eq_false h, Bool.and_false]
    cases y.testBit i with
    | true => rw [show true.toNat = 1 from rfl, Nat.one_mul, Nat.testBit_two_pow, decide_eq_false h]
    | false => rw [show false.toNat = 0 from rfl, Nat.zero_mul, Nat.zero_testBit]
theorem cleared_turn {T : We} {h : Oh} {o a : Addr} {p q : Pa} {n : Nat} {ps : List Pa} {X Z : Pa} {t r : D} {u4 u5 : Sl} (hc : CodeB h o n ps X Z t r) (hp : Bd n p) (hq : Bd n q) (nz : vx n (mk q) ≠ 0)
    (k : ∀ u4 u5, T.nx ⟨[.f (.obj o), .f (cl n p q).e, .f (.obj a), .f q.e, u4, u5], h⟩) : w_Code_cleared_b1 T ⟨[.f (.obj o), .f p.e, .f (.obj a), .f q.e, u4, u5], h⟩ := by
  have h5 := hc.n5
  have sh : ∀ q : Pa, Bd n q → CShl (q.x : Int) (n : Int) := fun q hq => shl_ok (n := 5) (by have := Nat.lt_of_lt_of_le hq.x (Nat.pow_le_pow_right (show 0 < 2 by decide) h5); simpa using this) (by omega)
  refine ⟨_, rfl, o, _, _, rfl, hc.at_, rfl, sh q hq, _, rfl, ?_⟩
  change w_Code_cleared_b1_1 T ⟨[.f (.obj o), .f p.e, .f (.obj a), .f q.e, .f (.int (Builtin.bitOr ((q.x : Int) * 2 ^ (n : Int).toNat) q.z)), u5], h⟩
  rw [shl_nn, or_nn, vx_or hq]
  have lt : vx n (mk q) < 2 ^ 10 := by
    have h1 : q.x * 2 ^ n < 2 ^ 5 * 2 ^ 5 := by
      have e1 : q.x < 2 ^ 5 := Nat.lt_of_lt_of_le hq.x (Nat.pow_le_pow_right (by decide) h5)
      have e2 : 2 ^ n ≤ 2 ^ 5 := Nat.pow_le_pow_right (by decide) h5
      have e3 : q.x * 2 ^ n ≤ q.x * 2 ^ 5 := Nat.mul_le_mul_left _ e2
      omega
    have h2 : q.z < 2 ^ 10 := Nat.lt_of_lt_of_le hq.z (Nat.pow_le_pow_right (by decide) (by omega))
    have h3 : q.x * 2 ^ n < 2 ^ 10 := by
      have : (2 : Nat) ^ 5 * 2 ^ 5 = 2 ^ 10 := by decide
      omega
    exact Nat.xor_lt_two_pow (n := 10) h3 h2
  have lg : (vx n (mk q)).log2 < 10 := (Nat.log2_lt nz).mpr lt
  have eb : ((Builtin.Int.intBits ((vx n (mk q) : Nat) : Int) : Nat) : Int) - 1 = (((vx n (mk q)).log2 : Nat) : Int) := by
    rw [bits_nn, if_neg nz]
    omega
  refine ⟨?_, ?_⟩
  · show CShl 1 (((Builtin.Int.intBits ((vx n (mk q) : Nat) : Int) : Nat) : Int) - 1)
    rw [eb]
    exact shl1_ok (by omega)
  · change w_Code_cleared_b1_2 T ⟨[.f (.obj o), .f p.e, .f (.obj a), .f q.e, .f (.int (vx n (mk q) : Nat)), .f (.int ((1 : Int) * 2 ^ (((Builtin.Int.intBits ((vx n (mk q) : Nat) : Int) : Nat) : Int) - (1 : Int)).toNat))], h⟩
    rw [eb, show (1 : Int) = ((1 : Nat) : Int) from rfl, shl_nn, Nat.one_mul]
    refine ⟨_, rfl, o, _, _, rfl, hc.at_, rfl, sh p hp, _, rfl, ?_⟩
    show Br (Builtin.bitAnd (Builtin.bitOr ((p.x : Int) * 2 ^ (n : Int).toNat) p.z) ((2 ^ (vx n (mk q)).log2 : Nat) : Int) != 0) _ _
    rw [shl_nn, or_nn, vx_or hp, and_nn, and_two]
    unfold cl at k
    have h0 : 0 < 2 ^ (vx n (mk q)).log2 := Nat.pow_pos (by decide)
    cases e : (vx n (mk p)).testBit (vx n (mk q)).log2 with
    | true =>
      rw [e, if_pos rfl] at k
      refine brT (by rw [show true.toNat = 1 from rfl, Nat.one_mul]; exact bne_iff_ne.mpr (by exact_mod_cast Nat.ne_of_gt h0)) ⟨p, q, rfl, hp.s, hq.s, Nat.lt_of_lt_of_le hp.z (Nat.pow_le_pow_right (by decide) (by omega)), ?_⟩
      exact k _ _
    | false =>
      rw [e, if_neg (by decide)] at k
      exact brF (by rw [show false.toNat = 0 from rfl, Nat.zero_mul]; rfl) (k _ _)
theorem pk_Code_cleared : Pk 3 3 sp_Code_cleared w_Code_cleared := by
  rintro ds h R _ ⟨o, a, p, rows, n, ps, X, Z, t, r, rfl, hc, ha, hp, hr, hR⟩
  refine ⟨a, _, rfl, ha, ?_⟩
  have loop : ∀ (l : List Pa) (p : Pa) (u3 u4 u5 : Sl), (∀ q ∈ l, Bd n q ∧ vx n (mk q) ≠ 0) → Bd n p → R (clr n l p).e h → wForOL a (rows.map Pa.e) (gVar 3) w_Code_cleared_b1 { Fi R with nx := w_Code_cleared_1 (Fi R) } (l.map Pa.e) ⟨[.f (.obj o), .f p.e, .f (.obj a), u3, u4, u5], h⟩ := fun l => by
    induction l with
    | nil => exact fun p u3 u4 u5 _ _ hR => ⟨ha, hR⟩
    | cons q l ih =>
      intro p u3 u4 u5 hl hp hR
      obtain ⟨bq, nq⟩ := hl q List.mem_cons_self
      refine foroc ha (cleared_turn hc hp bq nq fun u4 u5 => ?_)
      refine ih (cl n p q) (.f q.e) u4 u5 (fun y hy => hl y (List.mem_cons_of_mem _ hy)) ?_ hR
      unfold cl
      split
      · exact bd_prd hp bq
      · exact hp
  exact loop rows p .u .u .u hr hp hR
theorem crw_snoc (n : Nat) (l : List Pa) (g : Pa) : crw n (l ++ [g]) = crw n l ++ [clr n (crw n l) g] := by
  unfold crw
  rw [List.foldl_append]
  rfl
theorem vx_cl {n : Nat} {p r : Pa} : vx n (mk (cl n p r)) = cl1 (vx n (mk p)) (vx n (mk r)) := by
  unfold cl cl1
  split
  · rw [mk_prd, vx_ad]
  · rfl
theorem vx_clr {n : Nat} : ∀ (R : List Pa) (p : Pa), vx n (mk (clr n R p)) = clN (R.map fun r => vx n (mk r)) (vx n (mk p))
  | [], p => rfl
  | r :: R, p => by
    show vx n (mk (clr n R (cl n p r))) = clN (R.map fun r => vx n (mk r)) (cl1 (vx n (mk p)) (vx n (mk r)))
    rw [vx_clr R, vx_cl]
theorem bd_clr {n : Nat} : ∀ (R : List Pa) (p : Pa), Bd n p → (∀ r ∈ R, Bd n r) → Bd n (clr n R p)
  | [], p, h, _ => h
  | r :: R, p, h, hr => by
    refine bd_clr R (cl n p r) ?_ fun q hq => hr q (List.mem_cons_of_mem _ hq)
    unfold cl
    split
    · exact bd_prd h (hr r List.mem_cons_self)
    · exact h
/-- what the rows are -/
structure Rws (n : Nat) (ps R : List Pa) : Prop where
  bd : ∀ r ∈ R, Bd n r
  tri : Tri (R.map fun r => vx n (mk r))
  sp : ∀ u, Sp (R.map fun r => vx n (mk r)) u ↔ Sp ((ps.map mk).map (vx n)) u
theorem rws_ok (n : Nat) (ps : List Pa) : (∀ p ∈ ps, Bd n p) → (spP (ps.map mk)).Nodup → Rws n ps (crw n ps) := by
  refine rev_ind (P := fun ps => (∀ p ∈ ps, Bd n p) → (spP (ps.map mk)).Nodup → Rws n ps (crw n ps)) (fun _ _ => ⟨fun r h => (nomatch h), ⟨fun r h => (nomatch h), List.Pairwise.nil⟩, fun u => Iff.rfl⟩) (fun l g ih hb hn => ?_) ps
  have hbl : ∀ p ∈ l, Bd n p := fun p hp => hb p (List.mem_append_left _ hp)
  have hbg : Bd n g := hb g (List.mem_append_right _ List.mem_cons_self)
  obtain ⟨n1, n2⟩ := (indep_cons hbl hbg).mp hn
  obtain ⟨i1, i2, i3⟩ := ih hbl n1
  have nz : clN ((crw n l).map fun r => vx n (mk r)) (vx n (mk g)) ≠ 0 := fun z => n2 ((i3 _).mp ((clN_zero i2).mp z))
  obtain ⟨t1, t2⟩ := tri_more i2 nz
  have e : (crw n (l ++ [g])).map (fun r => vx n (mk r)) = (crw n l).map (fun r => vx n (mk r)) ++ [clN ((crw n l).map fun r => vx n (mk r)) (vx n (mk g))] := by
    rw [crw_snoc, List.map_append, ← vx_clr]
    rfl
  refine ⟨fun r hr => ?_, by rw [e]; exact t1, fun u => ?_⟩
  · rw [crw_snoc] at hr
    rcases List.mem_append.mp hr with z | z
    · exact i1 r z
    · rw [List.mem_singleton.mp z]; exact bd_clr _ _ hbg i1
  · rw [e, t2, i3, i3]
    have e5 : ((l ++ [g]).map mk).map (vx n) = (l.map mk).map (vx n) ++ [vx n (mk g)] := by rw [List.map_append, List.map_append]; rfl
    rw [e5]
    refine (Sp.cons (l := (l.map mk).map (vx n)) (v := vx n (mk g)) (s := u)).symm.trans ⟨fun s => s.mono fun x hx => ?_, fun s => s.mono fun x hx => ?_⟩
    · rcases List.mem_cons.mp hx with rfl | z
      · exact List.mem_append_right _ (List.mem_singleton.mpr rfl)
      · exact List.mem_append_left _ z
    · rcases List.mem_append.mp hx with z | z
      · exact List.mem_cons_of_mem _ z
      · rw [List.mem_singleton.mp z]; exact List.mem_cons_self
theorem crw_len (n : Nat) (ps : List Pa) : (crw n ps).length = ps.length := by
  refine rev_ind (P := fun ps => (crw n ps).length = ps.length) rfl (fun l g ih => ?_) ps
  rw [crw_snoc, List.length_append, List.length_append, ih]
  rfl
theorem crw_ok {n : Nat} {ps dn qs : List Pa} {X Z : Pa} (h : IsC n ps X Z) (e : ps = dn ++ qs) : ∀ q ∈ crw n dn, Bd n q ∧ vx n (mk q) ≠ 0 := by
  have hb := h.2.2.2.1
  have hn := (semL_iff.mp h.2.2.2.2.2.2).2.1
  rw [e] at hn hb
  obtain ⟨i1, i2, _⟩ := rws_ok n dn (fun p hp => hb p (List.mem_append_left _ hp)) (indep_pre hb hn)
  exact fun q hq => ⟨i1 q hq, i2.nz _ (List.mem_map.mpr ⟨q, hq, rfl⟩)⟩
theorem pk_Code_sign_in : Pk 2 2 sp_Code_sign_in w_Code_sign_in := by
  rintro ds h R _ ⟨o, p, n, ps, X, Z, t, r, rfl, hc, hp, hR⟩
  have l5 := len5 hc
  have hb := hc.ok.2.2.2.1
  refine ⟨o, _, _, rfl, hc.at_, rfl, ?_⟩
  have cb : ∀ {a : Addr} {u : Ob}, h a = none → CodeB (h.put a u) o n ps X Z t r := fun {a u} ha => ⟨hc.ok, hc.n5, by rw [Oh.put_ne (fun z => by rw [← z, hc.at_] at ha; cases ha)]; exact hc.at_⟩
  have loop : ∀ (qs dn : List Pa) (u3 : Sl), ps = dn ++ qs → (∀ d, u3 ≠ .o d) → wForL (gVar 3) w_Code_sign_in_b1 { Fi R with nx := w_Code_sign_in_2 (Fi R) } (qs.map Pa.e) ⟨[.f (.obj o), .f p.e, .o (.lst ((crw n dn).map Pa.e)), u3], h⟩ := fun qs => by
    induction qs with
    | nil =>
      intro dn u3 e _
      rw [List.append_nil] at e
      subst e
      refine ⟨⟨_, rfl⟩, o, _, rfl, hc.at_, rfl, _, rfl, fun a ha => ?_⟩
      have ha' : h a = none := ha
      refine ⟨o, a, p, crw n ps, n, ps, X, Z, t, r, rfl, cb ha', Oh.put_same, hp, crw_ok (qs := []) hc.ok (by simp), a, _, rfl, Oh.put_same, ?_⟩
      show ∃ d, atI [D.int ((clr n (crw n ps) p).x : Nat), .int ((clr n (crw n ps) p).z : Nat), .int ((clr n (crw n ps) p).s : Nat)] 2 = some d ∧ R d ((h.put a (obOf (.lst ((crw n ps).map Pa.e)))).del a)
      rw [Oh.del_put ha']
      exact ⟨_, rfl, hR⟩
    | cons q qs ih =>
      intro dn u3 e n3
      refine forv ?_
      have hq : q ∈ ps := by rw [e]; simp
      refine ⟨⟨_, rfl⟩, ⟨_, rfl⟩, o, _, rfl, hc.at_, rfl, _, rfl, fun a ha => ?_⟩
      have ha' : h a = none := ha
      refine ⟨o, a, q, crw n dn, n, ps, X, Z, t, r, rfl, cb ha', Oh.put_same, hb q hq, crw_ok hc.ok e, a, _, rfl, Oh.put_same, ?_⟩
      show ∃ ds, some (Sl.o (D.lst ((crw n dn).map Pa.e))) = some (Sl.o (.lst ds)) ∧ ds.length < sizeLine ∧ wForL (gVar 3) w_Code_sign_in_b1 { Fi R with nx := w_Code_sign_in_2 (Fi R) } (qs.map Pa.e) ⟨[.f (.obj o), .f p.e, .o (.lst (ds ++ [(clr n (crw n dn) q).e])), .f q.e], (h.put a (obOf (.lst ((crw n dn).map Pa.e)))).del a⟩
      rw [Oh.del_put ha']
      refine ⟨_, rfl, ?_, ?_⟩
      · rw [List.length_map, crw_len]
        have h1 : dn.length ≤ ps.length := by rw [e, List.length_append]; omega
        have : (1000 : Nat) < sizeLine := by decide
        omega
      · have x := ih (dn ++ [q]) (.f q.e) (by rw [e]; simp) (fun d z => nomatch z)
        rw [crw_snoc, List.map_append] at x
        exact x
  exact loop ps [] .u rfl (fun d z => nomatch z)
end VL.C

set_option Elab.async false
set_option linter.all false
set_option maxRecDepth 100000
set_option maxHeartbeats 400000
/-! VD3: rep, classified, acts walked -/
namespace VL.C
open PySem PySem.Spec PyProof.Rows L2 VL VL.P
def kfR : D → D
  | .tup [.int x, .int z, _] => rnk ⟨x.toNat, z.toNat, 0⟩
  | _ => .non
theorem kfR_e (p : Pa) : kfR p.e = rnk p := rfl
theorem argMin_e : ∀ (l : List Pa) (b : Pa), argMin (fun x => (kfR x).pd) (l.map Pa.e) b.e = (amin l b).e
  | [], b => rfl
  | x :: l, b => by
    rw [List.map_cons, argMin_cons]
    show _ = (amin l (if ltP x b = true then x else b)).e
    rw [← argMin_e l]
    congr 1
    show (if PySem.W.dataLt (rnk x).pd (rnk b).pd = true then x.e else b.e) = _
    unfold ltP
    split <;> rfl
theorem key_facts {sp : Spc} (hsp : ∀ (p : Pa) (h : Oh), KeyOf sp h p.e (rnk p)) {l : List Pa} {h : Oh} : (∀ x ∈ l.map Pa.e, KeyOf sp h x (kfR x)) ∧ (∀ x ∈ l.map Pa.e, shD 8 (kfR x) = true) ∧ PySem.W.AllAlike ((l.map Pa.e).map fun x => (kfR x).pd) ∧ PySem.W.Sortable ((l.map Pa.e).map fun x => (kfR x).pd) := by
  have m : ∀ d ∈ ((l.map Pa.e).map fun x => (kfR x).pd), ∃ a b c : Int, d = .tuple [.int a, .int b, .int c] := fun d hd => by
    obtain ⟨x, hx, rfl⟩ := List.mem_map.mp hd
    obtain ⟨p, _, rfl⟩ := List.mem_map.mp hx
    exact ⟨_, _, _, rfl⟩
  refine ⟨fun x hx => ?_, fun x hx => ?_, fun d hd d' hd' => ?_, .inl fun d hd => ?_⟩
  · obtain ⟨p, _, rfl⟩ := List.mem_map.mp hx
    exact hsp p h
  · obtain ⟨p, _, rfl⟩ := List.mem_map.mp hx
    rfl
  · obtain ⟨a, b, c, rfl⟩ := m d hd
    obtain ⟨a', b', c', rfl⟩ := m d' hd'
    rfl
  · obtain ⟨a, b, c, rfl⟩ := m d hd
    exact ⟨_, _, rfl⟩
theorem rank_key (p : Pa) (h : Oh) : KeyOf sp_rank h p.e (rnk p) := ⟨p, rfl, rfl, rfl⟩
theorem min_val {l : List Pa} (hne : l ≠ []) : argMin (fun x => (kfR x).pd) (l.map Pa.e).tail ((l.map Pa.e).headD .non) = (lst l).e := by
  cases l with
  | nil => exact absurd rfl hne
  | cons x l => exact argMin_e l x
theorem amin_mem : ∀ (l : List Pa) (b : Pa), amin l b = b ∨ amin l b ∈ l
  | [], b => .inl rfl
  | x :: l, b => by
    show amin l (if ltP x b = true then x else b) = b ∨ amin l (if ltP x b = true then x else b) ∈ x :: l
    rcases amin_mem l (if ltP x b = true then x else b) with h | h
    · rw [h]
      split
      · exact .inr List.mem_cons_self
      · exact .inl rfl
    · exact .inr (List.mem_cons_of_mem _ h)
theorem lst_mem {l : List Pa} (h : l ≠ []) : lst l ∈ l := by
  cases l with
  | nil => exact absurd rfl h
  | cons x l =>
    rcases amin_mem l x with q | q
    · show amin l x ∈ _
      rw [q]; exact List.mem_cons_self
    · exact List.mem_cons_of_mem _ q
theorem pms_ne (a : Pa) (ps : List Pa) : pms [a] ps ≠ [] := fun e => by
  have := congrArg List.length e
  rw [pms_len] at this
  have h : 0 < 2 ^ ps.length := Nat.pow_pos (by decide)
  simp at this
theorem bd_lgc {n : Nat} {X Z : Pa} (hX : Bd n X) (hZ : Bd n Z) (k : Nat) : Bd n (lgc X Z k) := by
  have b := bd_prd hX hZ
  unfold lgc
  split
  · exact hX
  · exact hZ
  · exact ⟨b.x, b.z, by show 1 - _ < 2; omega⟩
theorem bd_rp {n : Nat} {ps : List Pa} {X Z : Pa} (h : IsC n ps X Z) (k : Nat) : Bd n (rp ps X Z k) := by
  unfold rp
  split
  · exact bd0 n
  · exact prods_bd (fun p hp => by rw [List.mem_singleton.mp hp]; exact bd_lgc h.2.2.2.2.1 h.2.2.2.2.2.1 k) h.2.2.2.1 _ (lst_mem (pms_ne _ _))
theorem pms4 {h : Oh} {o : Addr} {n : Nat} {ps : List Pa} {X Z : Pa} {t r : D} (c : CodeB h o n ps X Z t r) (a : Pa) : (pms [a] ps).length ≤ 16 := by
  rw [pms_len]
  have : 2 ^ ps.length ≤ 2 ^ 4 := Nat.pow_le_pow_right (by decide) (len5 c)
  show 1 * _ ≤ 16
  omega
theorem CodeB.put {h : Oh} {o q : Addr} {n : Nat} {ps : List Pa} {X Z : Pa} {t r : D} {u : Ob} (c : CodeB h o n ps X Z t r) (ne : q ≠ o) : CodeB (h.put q u) o n ps X Z t r := ⟨c.ok, c.n5, by rw [Oh.put_ne (Ne.symm ne)]; exact c.at_⟩
theorem rep_turn {T : We} {H : Oh} {o q : Addr} {k n : Nat} {ps : List Pa} {X Z : Pa} {t : D} {l : List (Key × D)} {u1 : Sl} (h1 : 1 ≤ k) (h4 : k < 4) (hc : CodeB H o n ps X Z t (.obj q)) (hq : H q = some (mdP l)) (hl : l.length < 100)
    (kk : T.nx ⟨[.f (.obj o), u1, .f (.str (nmS k))], H.put q (mdP (putP l (.inr (nmS k)) (rp ps X Z k).e))⟩) : w_Code_rep_b1 T ⟨[.f (.obj o), u1, .f (.str (nmS k))], H⟩ := by
  have b := hc.ok.b13
  refine ⟨o, _, rfl, hc.at_, rfl, o, _, rfl, hc.at_, rfl, o, k, n, ps, X, Z, t, .obj q, rfl, h1, h4, hc, ?_⟩
  refine ⟨o, lgc X Z k, n, ps, X, Z, t, .obj q, rfl, bd_lgc b.2.1 b.2.2 k, hc, ?_⟩
  obtain ⟨k1, k2, k3, k4⟩ := key_facts rank_key (l := pms [lgc X Z k] ps) (h := H)
  refine ⟨fun e => pms_ne _ _ (List.map_eq_nil_iff.mp e), kfR, k1, k2, k3, k4, by rw [List.length_map]; exact lenLine (by have := pms4 hc (lgc X Z k); omega), ?_⟩
  rw [min_val (pms_ne (lgc X Z k) ps)]
  refine ⟨o, _, _, rfl, hc.at_, rfl, q, l, .inr (nmS k), rfl, rfl, hq, ?_, ?_⟩
  · have : (1000 : Nat) < sizeLine := by decide
    omega
  · have e : rp ps X Z k = lst (pms [lgc X Z k] ps) := by
      unfold rp
      rw [if_neg (by omega)]
    rw [← e]
    exact kk
theorem rep_end {R : D → Oh → Prop} {h : Oh} {o q : Addr} {k n : Nat} {ps : List Pa} {X Z : Pa} {t : D} {u2 : Sl} (h1 : 1 ≤ k) (h4 : k < 4) (hc : CodeB h o n ps X Z t (.obj q)) (hq : h q = some (mdP (repT ps X Z)))
    (hR : R (rp ps X Z k).e h) : w_Code_rep_1 (Fi R) ⟨[.f (.obj o), .f (.str (nmS k)), u2], h⟩ := by
  refine ⟨o, _, _, rfl, hc.at_, rfl, repT ps X Z, .inr (nmS k), (rp ps X Z k).e, rfl, .inr ⟨q, rfl, hq⟩, ?_, hR⟩
  have c : k = 1 ∨ k = 2 ∨ k = 3 := by omega
  rcases c with rfl | rfl | rfl <;> rfl
theorem put3 (ps : List Pa) (X Z : Pa) : putP (putP (putP [] (.inr (nmS 1)) (rp ps X Z 1).e) (.inr (nmS 3)) (rp ps X Z 3).e) (.inr (nmS 2)) (rp ps X Z 2).e = repT ps X Z := rfl
theorem pk_Code_rep : Pk 2 1 sp_Code_rep w_Code_rep := by
  intro ds h R _ q
  obtain ⟨o, k, n, ps, X, Z, t, rfl, h1, h4, hc, kk⟩ := rep_out q
  obtain ⟨r, cb, hr | ⟨d, hr, nd, hd⟩⟩ := hc
  · subst hr
    refine ⟨o, _, _, rfl, cb.at_, rfl, brT rfl ?_⟩
    intro a ha
    have ha' : h a = none := ha
    have ne : a ≠ o := fun z => by rw [z, cb.at_] at ha'; cases ha'
    have a0 := (cb.put (u := mdP []) ne).at_
    refine ⟨o, _, rfl, a0, (by show 6 < 1000; decide), ?_⟩
    have C0 : CodeB ((h.put a (mdP [])).put o (.ins "Code" (codeFR (.int n) (.tup (ps.map Pa.e)) X.e Z.e t (.obj a)))) o n ps X Z t (.obj a) := ⟨cb.ok, cb.n5, Oh.put_same⟩
    have D0 : ((h.put a (mdP [])).put o (.ins "Code" (codeFR (.int n) (.tup (ps.map Pa.e)) X.e Z.e t (.obj a)))) a = some (mdP []) := by rw [Oh.put_ne ne, Oh.put_same]
    have K0 : Keep o h ((h.put a (mdP [])).put o (.ins "Code" (codeFR (.int n) (.tup (ps.map Pa.e)) X.e Z.e t (.obj a)))) := fun b hb hb2 => by
      rw [Oh.put_ne hb, Oh.put_ne (fun z => hb2 (by rw [z]; exact ha'))]
    change wForL (gVar 2) w_Code_rep_b1 { Fi R with nx := w_Code_rep_1 (Fi R) } [.str (nmS 1), .str (nmS 3), .str (nmS 2)] ⟨[.f (.obj o), .f (.str (nmS k)), .u], ((h.put a (mdP [])).put o (.ins "Code" (codeFR (.int n) (.tup (ps.map Pa.e)) X.e Z.e t (.obj a))))⟩
    generalize ((h.put a (mdP [])).put o (.ins "Code" (codeFR (.int n) (.tup (ps.map Pa.e)) X.e Z.e t (.obj a)))) = H0 at *
    refine forv (rep_turn (k := 1) (l := []) (by decide) (by decide) C0 D0 (by decide) ?_)
    dsimp only
    refine forv ?_
    refine (rep_turn (k := 3) (l := putP [] (.inr (nmS 1)) (rp ps X Z 1).e) (by decide) (by decide) (C0.put ne) Oh.put_same (by show 1 < 100; decide) ?_)
    rw [Oh.put_put]
    dsimp only
    refine forv ?_
    refine (rep_turn (k := 2) (l := putP (putP [] (.inr (nmS 1)) (rp ps X Z 1).e) (.inr (nmS 3)) (rp ps X Z 3).e) (by decide) (by decide) (C0.put ne) Oh.put_same (by show 2 < 100; decide) ?_)
    rw [Oh.put_put, put3]
    have C3 := C0.put (u := mdP (repT ps X Z)) ne
    exact rep_end h1 h4 C3 Oh.put_same (kk _ ⟨_, C3, .inr ⟨a, rfl, ne, Oh.put_same⟩⟩ fun b hb hb2 => by
      rw [Oh.put_ne (fun z => hb2 (by rw [z]; exact ha'))]
      exact K0 b hb hb2)
  · subst hr
    refine ⟨o, _, _, rfl, cb.at_, rfl, brF rfl ?_⟩
    exact rep_end h1 h4 cb hd (kk h ⟨_, cb, .inr ⟨d, rfl, nd, hd⟩⟩ (Keep.refl o h))
theorem syn_any : ∀ (ps : List Pa) (p : Pa), (syn ps p).any (fun i => i != 0) = !noSyn ps p
  | [], p => rfl
  | g :: ps, p => by
    show (((1 : Int) - (if cmt p g = true then 1 else 0) != 0) || (syn ps p).any (fun i => i != 0)) = !(cmt p g && noSyn ps p)
    rw [syn_any ps p]
    cases cmt p g <;> rfl
theorem knd_lt (p X Z : Pa) : knd p X Z < 4 := by
  unfold knd
  split <;> split <;> omega
theorem bd_rst {n : Nat} {ps : List Pa} {X Z p : Pa} (h : IsC n ps X Z) (hp : Bd n p) : Bd n (rst ps X Z p) := by
  unfold rst
  split
  · exact hp
  · exact bd_prd hp (bd_rp h _)
theorem name_is (p X Z : Pa) : ∃ c, atI (⟨#[73, 90, 88, 89]⟩ : Str).cps.toList (((if (!cmt p X) = true then 1 else 0) : Int) + 2 * (if (!cmt p Z) = true then 1 else 0)) = some c ∧ (⟨#[c]⟩ : Str) = nmS (knd p X Z) := by
  unfold knd
  cases cmt p X <;> cases cmt p Z
  · exact ⟨89, rfl, by decide⟩
  · exact ⟨90, rfl, by decide⟩
  · exact ⟨88, rfl, by decide⟩
  · exact ⟨73, rfl, by decide⟩
theorem nm_I {k : Nat} (h : k < 4) : (nmS k != ("I" : Str)) = decide (k ≠ 0) := by
  have c : k = 0 ∨ k = 1 ∨ k = 2 ∨ k = 3 := by omega
  rcases c with rfl | rfl | rfl | rfl <;> decide
theorem pk_Code_classified : PkX 2 2 sp_Code_classified w_Code_classified := by
  intro ds h R Y _ q
  obtain ⟨o, p, n, ps, X, Z, t, rfl, hc, hp, hT, hF⟩ := classified_out q
  have hcA := hc
  obtain ⟨r, cb, _⟩ := hc
  have b := cb.ok.b13
  refine ⟨o, _, rfl, cb.at_, rfl, o, p, n, ps, X, Z, t, r, rfl, cb, syn ps p, rfl, ?_⟩
  show Br ((syn ps p).any fun i => i != 0) _ _
  rw [syn_any]
  cases e : noSyn ps p with
  | false => exact brT rfl (hF e)
  | true =>
    replace hT := hT e
    refine brF rfl ?_
    have hm : ∀ b : Bool, CMulX 2 (if b = true then 1 else 0) := fun b => by cases b <;> exact cmul2 _ (by decide)
    refine ⟨o, _, _, rfl, cb.at_, rfl, p, X, rfl, o, _, _, rfl, cb.at_, rfl, p, Z, rfl, hm _, ?_⟩
    obtain ⟨c, n1, n2⟩ := name_is p X Z
    refine ⟨by decide, c, n1, ?_⟩
    rw [n2]
    have k4 := knd_lt p X Z
    have hrst : rst ps X Z p = if knd p X Z = 0 then p else prd p (rp ps X Z (knd p X Z)) := rfl
    have hsg : sgn n ps X Z p = (clr n (crw n ps) (rst ps X Z p)).s := rfl
    have brs := bd_rst (ps := ps) cb.ok hp
    rw [hsg] at hT
    generalize rst ps X Z p = w at *
    generalize knd p X Z = k at *
    show Br (nmS k != ("I" : Str)) _ _
    rw [nm_I k4]
    refine br (fun q => ?_) fun q => ?_
    · have k0 : k ≠ 0 := of_decide_eq_true q
      rw [if_neg k0] at hrst
      subst hrst
      refine ⟨o, _, rfl, cb.at_, rfl, rep_in (by omega) k4 hcA fun h' hc' kp => ?_⟩
      obtain ⟨r', cb', _⟩ := id hc'
      refine ⟨p, _, rfl, hp.s, (bd_rp cb.ok k).s, Nat.lt_of_lt_of_le hp.z (Nat.pow_le_pow_right (by decide) (by have := cb.n5; omega)), ?_⟩
      exact ⟨o, _, rfl, cb'.at_, rfl, o, _, n, ps, X, Z, t, r', rfl, cb', brs, hT h' hc' kp⟩
    · have k0 : k = 0 := by simpa using of_decide_eq_false q
      rw [if_pos k0] at hrst
      subst hrst
      exact ⟨o, _, rfl, cb.at_, rfl, o, _, n, ps, X, Z, t, r, rfl, cb, brs, hT h hcA (Keep.refl o h)⟩
theorem pk_Code_acts : PkX 2 0 sp_Code_acts w_Code_acts := by
  intro ds h R Y _ q
  obtain ⟨o, p, n, ps, X, Z, t, rfl, hc, hp, hT, hF⟩ := acts_out q
  obtain ⟨r, cb, _⟩ := id hc
  refine ⟨o, _, rfl, cb.at_, rfl, classified_in hc hp (fun e h' hc' kp => ?_) hF⟩
  exact ⟨_, rfl, hT e h' hc' kp⟩
end VL.C

set_option Elab.async false
set_option linter.all false
set_option maxRecDepth 100000
set_option maxHeartbeats 400000
/-! VD4: the law's own products, logical Paulis; what acts, told -/
namespace VL.C
open PySem PySem.Spec PyProof.Rows L2 VL VL.P
theorem pk__law_rank : Pk 1 0 sp__law_rank w__law_rank := by
  rintro ds h R _ ⟨p, rfl, hR⟩
  refine ⟨_, rfl, _, rfl, p.x ||| p.z, by rw [or_nn], ?_⟩
  exact ⟨_, rfl, _, rfl, hR⟩
theorem law_rank_key (p : Pa) (h : Oh) : KeyOf sp__law_rank h p.e (rnk p) := ⟨p, rfl, rfl, rfl⟩
theorem pk__law_products : Pk 1 3 sp__law_products w__law_products := by
  rintro ds h R _ ⟨ps, rfl, l5, hb, hR⟩
  have loop : ∀ (qs dn : List Pa) (u2 u3 : Sl), ps = dn ++ qs → (∀ d, u3 ≠ .o d) → wForL (gVar 2) w__law_products_b1 { Fi R with nx := w__law_products_2 (Fi R) } (qs.map Pa.e) ⟨[.f (.lst (ps.map Pa.e)), .f (.lst ((prods dn).map Pa.e)), u2, u3], h⟩ := fun qs => by
    induction qs with
    | nil =>
      intro dn u2 u3 e _
      rw [List.append_nil] at e
      rw [← e]
      exact hR
    | cons q qs ih =>
      intro dn u2 u3 e n3
      have hq : q ∈ ps := by rw [e]; simp
      have hlen : (prods dn).length ≤ 32 := by
        rw [pms_len]
        have h1 : dn.length ≤ ps.length := by rw [e, List.length_append]; omega
        have : 2 ^ dn.length ≤ 2 ^ 5 := Nat.pow_le_pow_right (by decide) (by omega)
        show 1 * _ ≤ 32
        omega
      have bd : ∀ a ∈ prods dn, Bd 13 a := prods_bd (fun a ha => by rw [List.mem_singleton.mp ha]; exact bd0 13) fun a ha => hb a (by rw [e]; exact List.mem_append_left _ ha)
      have no3 : noOwn [.f (.lst (ps.map Pa.e)), .f (.lst ((prods dn).map Pa.e)), .f q.e, u3] [3] = true := by
        cases u3 with
        | o d => exact absurd rfl (n3 d)
        | u => rfl
        | f d => rfl
      refine forv ?_
      refine ⟨no3, (by show ((prods dn).map Pa.e).length ≤ 1000000; rw [List.length_map]; omega), ?_⟩
      refine lcL_inv' (f := Pa.e) (e := fun a => (prd a q).e) (fun a ha C hC => ?_) ?_
      · refine brT rfl ⟨a, q, rfl, bd a ha, hb q hq, ?_⟩
        exact ⟨rfl, hC⟩
      · refine ⟨lenLine ?_, ?_⟩
        · rw [List.nil_append, List.length_map, List.length_map]; omega
        · have x := ih (dn ++ [q]) (.f q.e) u3 (by rw [e]; simp) n3
          have e4 : (prods dn).map Pa.e ++ ([] ++ (prods dn).map fun a => (prd a q).e) = (prods (dn ++ [q])).map Pa.e := by
            show _ = (pms [id0] (dn ++ [q])).map Pa.e
            rw [pms_snoc, List.map_append, List.map_map]
            rfl
          rw [← e4] at x
          exact x
  exact loop ps [] .u .u rfl (fun d z => nomatch z)
theorem pk__law_logical : Pk 3 1 sp__law_logical w__law_logical := by
  rintro ds h R _ ⟨X, Z, k, rfl, h1, h4, hX, hZ, hR⟩
  have c : k = 1 ∨ k = 2 ∨ k = 3 := by omega
  rcases c with rfl | rfl | rfl
  · exact brT (by decide) hR
  · exact brF (by decide) (brT (by decide) hR)
  · refine brF (by decide) (brF (by decide) ?_)
    refine ⟨X, Z, rfl, hX, hZ, _, rfl, _, rfl, _, rfl, ?_⟩
    show R (.tup [.int (prd X Z).x, .int (prd X Z).z, .int (1 - ((prd X Z).s : Int))]) h
    have e : (1 : Int) - ((prd X Z).s : Int) = ((1 - (prd X Z).s : Nat) : Int) := by
      have := prd_s X Z
      omega
    rw [e]
    exact hR
theorem refused_in {R : D → Oh → Prop} {Y : XC} {h : Oh} {o : Addr} {n : Nat} {ps : List Pa} {X Z p : Pa} {t : D} (hc : CodeAt h o n ps X Z t) (hb : Bd n p) (kk : ∀ h', CodeAt h' o n ps X Z t → Keep o h h' → R (.bl (!noSyn ps p)) h') : sp__law_refused [.obj o, p.e] h R Y := by
  unfold sp__law_refused
  exact ⟨o, p, n, ps, X, Z, t, rfl, hc, hb, kk⟩
theorem pk__law_refused : Pk 2 0 sp__law_refused w__law_refused := by
  intro ds h R _ q
  unfold sp__law_refused at q
  obtain ⟨o, p, n, ps, X, Z, t, rfl, hc, hp, kk⟩ := q
  obtain ⟨r, cb, _⟩ := id hc
  refine ⟨o, _, rfl, cb.at_, rfl, classified_in hc hp (fun e h' hc' kp => ?_) fun e => ?_⟩
  · have x := kk h' hc' kp
    rw [e] at x
    exact x
  · have x := kk h hc (Keep.refl o h)
    rw [e] at x
    exact ⟨rfl, x⟩
/-! ### what acts -/
section
variable {n : Nat} {ps : List Pa} {X Z : Pa}
theorem lgc_cmt (h : IsC n ps X Z) (k : Nat) : (∀ g ∈ ps, cmt (lgc X Z k) g = true) := fun g hg => by
  obtain ⟨c1, _, _⟩ := semL_iff.mp h.2.2.2.2.2.2
  have cx : cmt X g = true := by rw [cmt_comm]; exact (c1 g hg).1
  have cz : cmt Z g = true := by rw [cmt_comm]; exact (c1 g hg).2.1
  unfold lgc
  split
  · exact cx
  · exact cz
  · show cmt (prd X Z) g = true
    rw [cmt_prd, cx, cz]; rfl
theorem ac (h : IsC n ps X Z) : AC ps := fun r hr q hq => ((semL_iff.mp h.2.2.2.2.2.2).1 r hr).2.2 q hq
theorem lgc_X (h : IsC n ps X Z) {k : Nat} (h1 : 1 ≤ k) (h4 : k < 4) : cmt (lgc X Z k) X = decide (k / 2 = 0) ∧ cmt (lgc X Z k) Z = decide (k % 2 = 0) := by
  have c3 : cmt X Z = false := (semL_iff.mp h.2.2.2.2.2.2).2.2
  have c3' : cmt Z X = false := by rw [cmt_comm]; exact c3
  have c : k = 1 ∨ k = 2 ∨ k = 3 := by omega
  rcases c with rfl | rfl | rfl
  · exact ⟨cmt_self X, c3⟩
  · exact ⟨c3', cmt_self Z⟩
  · constructor
    · show cmt (prd X Z) X = _
      rw [cmt_prd, cmt_self, c3']; rfl
    · show cmt (prd X Z) Z = _
      rw [cmt_prd, cmt_self, c3]; rfl
/-- the representative is the logical Pauli times a product of generators -/
theorem rp_is (h : IsC n ps X Z) {k : Nat} (h1 : 1 ≤ k) : ∃ r ∈ prods ps, rp ps X Z k = prd (lgc X Z k) r := by
  have hm : rp ps X Z k ∈ pms [lgc X Z k] ps := by
    unfold rp
    rw [if_neg (by omega)]
    exact lst_mem (pms_ne _ _)
  rw [pms_cos (bd_lgc h.2.2.2.2.1 h.2.2.2.2.2.1 k).s (lgc_cmt h k) (ac h)] at hm
  obtain ⟨r, hr, e⟩ := List.mem_map.mp hm
  exact ⟨r, hr, e.symm⟩
theorem prods_X (h : IsC n ps X Z) : ∀ r ∈ prods ps, cmt r X = true ∧ cmt r Z = true := fun r hr => ⟨prods_cmt (fun g hg => ((semL_iff.mp h.2.2.2.2.2.2).1 g hg).1) r hr, prods_cmt (fun g hg => ((semL_iff.mp h.2.2.2.2.2.2).1 g hg).2.1) r hr⟩
theorem rp_cmt (h : IsC n ps X Z) (k : Nat) : ∀ g ∈ ps, cmt (rp ps X Z k) g = true := fun g hg => by
  by_cases k0 : k = 0
  · unfold rp; rw [if_pos k0]; exact cmt_id g
  · obtain ⟨r, hr, e⟩ := rp_is h (k := k) (by omega)
    rw [e, cmt_prd, lgc_cmt h k g hg, prods_cmt (fun g' hg' => ac h g' hg' g hg) r hr]; rfl
/-- what the law draws -/
def drawn (ps : List Pa) (X Z : Pa) (k : Nat) (r : Pa) (b : Nat) : Pa := xs b (prd (rp ps X Z k) r)
theorem drawn_noSyn (h : IsC n ps X Z) {k b : Nat} {r : Pa} (hr : r ∈ prods ps) : noSyn ps (drawn ps X Z k r b) = true := by
  unfold noSyn drawn
  rw [List.all_eq_true]
  intro g hg
  rw [cmt_xs, cmt_prd, rp_cmt h k g hg, prods_cmt (fun g' hg' => ac h g' hg' g hg) r hr]; rfl
theorem drawn_knd (h : IsC n ps X Z) {k b : Nat} {r : Pa} (h4 : k < 4) (hr : r ∈ prods ps) : knd (drawn ps X Z k r b) X Z = k := by
  obtain ⟨p1, p2⟩ := prods_X h r hr
  unfold knd drawn
  rw [cmt_xs, cmt_xs, cmt_prd, cmt_prd, p1, p2]
  by_cases k0 : k = 0
  · subst k0
    unfold rp
    rw [if_pos rfl, cmt_id, cmt_id]; rfl
  · obtain ⟨s, hs, e⟩ := rp_is h (k := k) (by omega)
    obtain ⟨q1, q2⟩ := prods_X h s hs
    obtain ⟨l1, l2⟩ := lgc_X h (k := k) (by omega) h4
    rw [e, cmt_prd, cmt_prd, q1, q2, l1, l2]
    have c : k = 1 ∨ k = 2 ∨ k = 3 := by omega
    rcases c with rfl | rfl | rfl <;> decide
theorem drawn_rst (h : IsC n ps X Z) {k b : Nat} {r : Pa} (h4 : k < 4) (hb : b < 2) (hr : r ∈ prods ps) : rst ps X Z (drawn ps X Z k r b) = xs b r := by
  have rs := prods_s r hr
  have hk := drawn_knd h (b := b) h4 hr
  unfold rst
  rw [hk]
  by_cases k0 : k = 0
  · rw [if_pos k0]
    unfold drawn rp
    rw [if_pos k0, prd_id rs]
  · rw [if_neg k0]
    unfold drawn
    have cr : cmt (rp ps X Z k) r = true := by
      rw [cmt_comm]
      exact prods_cmt (fun g hg => by rw [cmt_comm]; exact rp_cmt h k g hg) r hr
    have c2 : cmt (prd (rp ps X Z k) r) (rp ps X Z k) = true := by rw [cmt_prd, cmt_self, cmt_comm r, cr]; rfl
    rw [xs_prd hb (prd_s _ _), prd_comm c2]
    congr 1
    rw [← prd_assoc (cmt_self _) cr cr, prd_self, prd_id rs]
/-- taking rows of the group away stays in it, with the same sign -/
theorem clr_in (hA : AC ps) {b : Nat} (hb : b < 2) : ∀ (R : List Pa), (∀ r ∈ R, r ∈ prods ps) → ∀ g ∈ prods ps, ∃ g' ∈ prods ps, clr n R (xs b g) = xs b g'
  | [], _, g, hg => ⟨g, hg, rfl⟩
  | r :: R, hR, g, hg => by
    show ∃ g' ∈ prods ps, clr n R (cl n (xs b g) r) = xs b g'
    unfold cl
    split
    · rw [xs_prd hb (prods_s g hg)]
      exact clr_in hA hb R (fun q hq => hR q (List.mem_cons_of_mem _ hq)) _ (prods_mul ps hA g hg r (hR r List.mem_cons_self))
    · exact clr_in hA hb R (fun q hq => hR q (List.mem_cons_of_mem _ hq)) g hg
theorem xs0 (p : Pa) : xs 0 p = p := by unfold xs; rw [Nat.xor_zero]
theorem crw_in (hA : AC ps) (hs : ∀ p ∈ ps, p.s < 2) : ∀ (qs dn : List Pa), ps = dn ++ qs → ∀ r ∈ crw n dn, r ∈ prods ps := fun qs dn => by
  refine rev_ind (P := fun dn => ∀ qs, ps = dn ++ qs → ∀ r ∈ crw n dn, r ∈ prods ps) (fun _ _ r h => (nomatch h)) (fun l g ih qs e r hr => ?_) dn qs
  have e2 : ps = l ++ (g :: qs) := by rw [e]; simp
  have ih := ih _ e2
  rw [crw_snoc] at hr
  rcases List.mem_append.mp hr with z | z
  · exact ih r z
  · rw [List.mem_singleton.mp z]
    obtain ⟨g', h1, h2⟩ := clr_in (n := n) hA (b := 0) (by decide) (crw n l) ih g (prods_gen ps hs g (by rw [e2]; simp))
    rw [xs0, xs0] at h2
    rw [h2]; exact h1
theorem drawn_sgn (h : IsC n ps X Z) {k b : Nat} {r : Pa} (h4 : k < 4) (hb : b < 2) (hr : r ∈ prods ps) : sgn n ps X Z (drawn ps X Z k r b) = b := by
  have hA := ac h
  have hbd := h.2.2.2.1
  have hn := (semL_iff.mp h.2.2.2.2.2.2).2.1
  unfold sgn
  rw [drawn_rst h h4 hb hr]
  obtain ⟨g', h1, h2⟩ := clr_in (n := n) hA hb (crw n ps) (crw_in hA (fun p hp => (hbd p hp).s) [] ps (by simp)) r hr
  have W := rws_ok n ps hbd hn
  have bg : Bd n g' := prods_bd (fun a ha => by rw [List.mem_singleton.mp ha]; exact bd0 n) hbd g' h1
  have hz : vx n (mk g') = 0 := by
    have e1 : vx n (mk g') = vx n (mk (clr n (crw n ps) (xs b r))) := by rw [h2, mk_xs]
    rw [e1, vx_clr, mk_xs, clN_zero W.tri, W.sp]
    have m1 : mk r ∈ spP (ps.map mk) := by rw [← prods_mk]; exact List.mem_map.mpr ⟨r, hr, rfl⟩
    have m2 : vx n (mk r) ∈ spN ((ps.map mk).map (vx n)) := by rw [vx_sp]; exact List.mem_map.mpr ⟨_, m1, rfl⟩
    exact mem_spN.mp m2
  have e0 : mk g' = mk id0 := vx_inj (n := n) bg.z (bd0 n).z (by rw [hz]; show 0 = (0 * 2 ^ n) ^^^ 0; rw [Nat.zero_mul]; rfl)
  have eg := prods_inj hn g' h1 id0 (prods_id ps) e0
  rw [h2, eg]
  show 0 ^^^ b = b
  rw [Nat.zero_xor]
end
end VL.C

set_option Elab.async false
set_option linter.all false
set_option maxRecDepth 100000
set_option maxHeartbeats 400000
/-! S_k07: texts of codes: what the defs promise -/
namespace K07
open PySem PySem.Spec PyProof.Rows L2 VL VL.P VL.C
def k_NAMES_paulis : D := (.str "IXZY")
def k_MOST_QUBITS : D := (.int 13)
def k_NAMES_catalogue : D := (.tup [(.str "one"), (.str "three"), (.str "four"), (.str "five"), (.str "seven"), (.str "nine"), (.str "thirteen")])
def k_ROUND : D := (.int 13)
def k_ROWS : List (Str × D) := [("one", (.tup [(.tup []), (.str "+X"), (.str "+Z")])), ("three", (.tup [(.tup [(.str "+ZZI"), (.str "+IZZ")]), (.str "+XXX"), (.str "+ZII")])), ("four", (.tup [(.tup [(.str "+XXXX"), (.str "+ZZII"), (.str "+IIZZ")]), (.str "+XXII"), (.str "+ZIZI")])), ("five", (.tup [(.tup [(.str "+XZZXI"), (.str "+IXZZX"), (.str "+XIXZZ"), (.str "+ZXIXZ")]), (.str "+XXXXX"), (.str "+ZZZZZ")])), ("seven", (.tup [(.tup [(.str "+IIIXXXX"), (.str "+IXXIIXX"), (.str "+XIXIXIX"), (.str "+IIIZZZZ"), (.str "+IZZIIZZ"), (.str "+ZIZIZIZ")]), (.str "+XXXXXXX"), (.str "+ZZZZZZZ")])), ("nine", (.tup [(.tup [(.str "+ZZIIIIIII"), (.str "+IZZIIIIII"), (.str "+IIIZZIIII"), (.str "+IIIIZZIII"), (.str "+IIIIIIZZI"), (.str "+IIIIIIIZZ"), (.str "+XXXXXXIII"), (.str "+IIIXXXXXX")]), (.str "+ZZZZZZZZZ"), (.str "+XXXXXXXXX")]))]
/-! ### texts -/
/-- the letters of a Pauli -/
def wrd (n : Nat) (p : Pa) : List Nat := (List.range n).map fun k => p.x / 2 ^ k % 2 + 2 * (p.z / 2 ^ k % 2)
def txp (n : Nat) (p : Pa) : Str := tstr p.s (wrd n p)
def num (n : Nat) : Str := Str.ofString (toString ((n : Nat) : Int))
def cdS : Str := "code "
def xS : Str := "x "
def zS : Str := "z "
def nlS : Str := "\n"
def rowsT (n : Nat) (ps : List Pa) (X Z : Pa) : List Str := (cdS ++ num n) :: (ps.map (txp n) ++ [xS ++ txp n X, zS ++ txp n Z])
def ctx (n : Nat) (ps : List Pa) (X Z : Pa) : Str := Txt.join nlS (rowsT n ps X Z ++ [Str.empty])
/-- a sign as a letter: I X Z Y -/
def unch (c : Nat) : Nat := if c = 88 then 1 else if c = 90 then 2 else if c = 89 then 3 else 0
def isL (c : Nat) : Bool := decide (c ∈ [73, 88, 90, 89])
/-- the Pauli of a text -/
def po (a : Str) : Option Pa := match TL.tl a with
  | c :: l => if (c = 43 ∨ c = 45) ∧ l ≠ [] ∧ l.all isL = true then some (wpa (l.map unch) (if c = 45 then 1 else 0)) else none
  | [] => none
def tpo (n : Nat) (a : Str) : Option Pa := if a.length = n + 1 then po a else none
def tpos (n : Nat) : List Str → Option (List Pa)
  | [] => some []
  | a :: r => match tpo n a, tpos n r with
    | some p, some ps => some (p :: ps)
    | _, _ => none
def nums : List Str := (List.range 13).map fun k => num (k + 1)
def two (a : Str) : Str := cutS a none (some 2)
def rest (a : Str) : Str := cutS a (some 2) none
/-- what the rows say -/
def prsN (rows : List Str) (n : Nat) : Option (Nat × List Pa × Pa × Pa) :=
  if rows.length = n + 3 ∧ two (rows.getD n Str.empty) = xS ∧ two (rows.getD (n + 1) Str.empty) = zS ∧ rows.getD (n + 2) Str.empty = Str.empty then
    (match tpos n ((rows.drop 1).take (n - 1)), tpo n (rest (rows.getD n Str.empty)), tpo n (rest (rows.getD (n + 1) Str.empty)) with
    | some ps, some X, some Z => some (n, ps, X, Z)
    | _, _, _ => none)
  else none
def codeS : Str := "code"
def spS : Str := " "
def numOf (b : Str) : Option Nat := ((List.range 13).find? fun k => num (k + 1) == b).map (· + 1)
def prsR (rows : List Str) : Option (Nat × List Pa × Pa × Pa) := match Txt.split (rows.headD Str.empty) spS with
  | [a, b] => if a = codeS then (match numOf b with
    | some n => prsN rows n
    | none => none) else none
  | _ => none
def prs (x : Str) : Option (Nat × List Pa × Pa × Pa) := prsR (Txt.split x nlS)
/-! ### objects -/
def Pres (h h' : Oh) : Prop := ∀ b ob, h b = some ob → h' b = some ob
theorem Pres.refl (h : Oh) : Pres h h := fun _ _ q => q
theorem Pres.trans {a b c : Oh} (x : Pres a b) (y : Pres b c) : Pres a c := fun p o q => y p o (x p o q)
structure CodeX (h : Oh) (o : Addr) (n : Nat) (ps : List Pa) (X Z : Pa) : Prop where
  ok : IsC n ps X Z
  at_ : h o = some (.ins "Code" (codeF (.int n) (.tup (ps.map Pa.e)) X.e Z.e))
theorem CodeX.pres {h h' : Oh} {o : Addr} {n : Nat} {ps : List Pa} {X Z : Pa} (c : CodeX h o n ps X Z) (p : Pres h h') : CodeX h' o n ps X Z := ⟨c.ok, p _ _ c.at_⟩
/-! ### the known codes -/
def pw (s : Nat) (w : List Nat) : Pa := wpa w s
def ar (p : Nat) : Pa := wpa ((List.range 13).map fun k => if k = p then 1 else if k = (p + 1) % 13 ∨ k = (p + 2) % 13 ∨ k = (p + 11) % 13 ∨ k = (p + 12) % 13 then 2 else 0) 0
def kc : Nat → Nat × List Pa × Pa × Pa
  | 0 => (1, [], pw 0 [1], pw 0 [2])
  | 1 => (3, [pw 0 [2, 2, 0], pw 0 [0, 2, 2]], pw 0 [1, 1, 1], pw 0 [2, 0, 0])
  | 2 => (4, [pw 0 [1, 1, 1, 1], pw 0 [2, 2, 0, 0], pw 0 [0, 0, 2, 2]], pw 0 [1, 1, 0, 0], pw 0 [2, 0, 2, 0])
  | 3 => (5, [pw 0 [1, 2, 2, 1, 0], pw 0 [0, 1, 2, 2, 1], pw 0 [1, 0, 1, 2, 2], pw 0 [2, 1, 0, 1, 2]], pw 0 [1, 1, 1, 1, 1], pw 0 [2, 2, 2, 2, 2])
  | 4 => (7, [pw 0 [0, 0, 0, 1, 1, 1, 1], pw 0 [0, 1, 1, 0, 0, 1, 1], pw 0 [1, 0, 1, 0, 1, 0, 1], pw 0 [0, 0, 0, 2, 2, 2, 2], pw 0 [0, 2, 2, 0, 0, 2, 2], pw 0 [2, 0, 2, 0, 2, 0, 2]], pw 0 [1, 1, 1, 1, 1, 1, 1], pw 0 [2, 2, 2, 2, 2, 2, 2])
  | 5 => (9, [pw 0 [2, 2, 0, 0, 0, 0, 0, 0, 0], pw 0 [0, 2, 2, 0, 0, 0, 0, 0, 0], pw 0 [0, 0, 0, 2, 2, 0, 0, 0, 0], pw 0 [0, 0, 0, 0, 2, 2, 0, 0, 0], pw 0 [0, 0, 0, 0, 0, 0, 2, 2, 0], pw 0 [0, 0, 0, 0, 0, 0, 0, 2, 2], pw 0 [1, 1, 1, 1, 1, 1, 0, 0, 0], pw 0 [0, 0, 0, 1, 1, 1, 1, 1, 1]], pw 0 [2, 2, 2, 2, 2, 2, 2, 2, 2], pw 0 [1, 1, 1, 1, 1, 1, 1, 1, 1])
  | _ => (13, (List.range 12).map fun k => prd (ar k) (ar (k + 1)), pw 0 (List.replicate 13 2), ar 0)
def nm : Nat → Str
  | 0 => "one"
  | 1 => "three"
  | 2 => "four"
  | 3 => "five"
  | 4 => "seven"
  | 5 => "nine"
  | _ => "thirteen"
/-! ### promises -/
abbrev sp_is_integer : Spc := VL.C.sp_is_integer
abbrev sp_is_pauli : Spc := VL.C.sp_is_pauli
abbrev sp_ones : Spc := VL.P.sp_ones
abbrev sp_weight : Spc := VL.P.sp_weight
abbrev sp_letter : Spc := VL.P.sp_letter
abbrev sp_commutes : Spc := VL.P.sp_commutes
abbrev sp_product : Spc := VL.P.sp_product
abbrev sp_single : Spc := VL.P.sp_single
abbrev sp_rank : Spc := VL.P.sp_rank
def sp_text_of : Spc := fun ds h R _ => ∃ (p : Pa) (n : Nat), ds = [p.e, .int n] ∧ n ≤ 13 ∧ p.s < 2 ∧ R (.str (txp n p)) h
def sp_pauli_of : Spc := fun ds h R Y => ∃ a : Str, ds = [.str a] ∧ a.length ≤ 30 ∧ (∀ p, po a = some p → R p.e h) ∧ (po a = none → Y "NotValid" [] h)
abbrev sp_reduced : Spc := VL.C.sp_reduced
abbrev sp_independent : Spc := VL.C.sp_independent
abbrev sp_Code___init__ : Spc := VL.C.sp_Code___init__
def sp_Code_logical : Spc := fun ds h R _ => ∃ (o : Addr) (k n : Nat) (ps : List Pa) (X Z : Pa), ds = [.obj o, .str (nmS k)] ∧ 1 ≤ k ∧ k < 4 ∧ CodeX h o n ps X Z ∧ R (lgc X Z k).e h
def sp_Code_coset : Spc := fun ds h R _ => ∃ (o : Addr) (p : Pa) (n : Nat) (ps : List Pa) (X Z : Pa), ds = [.obj o, p.e] ∧ Bd 13 p ∧ CodeX h o n ps X Z ∧ n ≤ 9 ∧ R (.lst ((pms [p] ps).map Pa.e)) h
/-- the least logical Pauli -/
def lls (ps : List Pa) (X Z : Pa) : Pa := lst ([1, 3, 2].map fun k => lst (pms [lgc X Z k] ps))
def sp_Code_least_logical : Spc := fun ds h R _ => ∃ (o : Addr) (n : Nat) (ps : List Pa) (X Z : Pa), ds = [.obj o] ∧ CodeX h o n ps X Z ∧ n ≤ 9 ∧ R (Pa.e ⟨(lls ps X Z).x, (lls ps X Z).z, 0⟩) h
def sp_Code_distance : Spc := fun ds h R _ => ∃ (o : Addr) (n : Nat) (ps : List Pa) (X Z : Pa), ds = [.obj o] ∧ CodeX h o n ps X Z ∧ n ≤ 9 ∧ R (.int ((lls ps X Z).w : Nat)) h
def sp_code_text : Spc := fun ds h R _ => ∃ (o : Addr) (n : Nat) (ps : List Pa) (X Z : Pa), ds = [.obj o] ∧ CodeX h o n ps X Z ∧ R (.str (ctx n ps X Z)) h
def sp_text_pauli : Spc := fun ds h R Y => ∃ (a : Str) (n : Nat), ds = [.str a, .int n] ∧ a.length ≤ 100000 ∧ n ≤ 13 ∧ (∀ p, tpo n a = some p → R p.e h) ∧ (tpo n a = none → Y "NotValid" [] h)
/-- a value as a code -/
def asC : D → Option (Nat × List Pa × Pa × Pa)
  | .str x => (match prs x with
    | some (n, ps, X, Z) => if semL ps X Z = true then some (n, ps, X, Z) else none
    | none => none)
  | _ => none
def strO : D → Bool
  | .str x => decide (x.length ≤ 100000)
  | .non => true
  | .int _ => true
  | .lst _ => true
  | _ => false
def sp_read_code : Spc := fun ds h R Y => ∃ d : D, ds = [d] ∧ strO d = true ∧ (∀ n ps X Z a h', asC d = some (n, ps, X, Z) → CodeX h' a n ps X Z → Pres h h' → R (.obj a) h') ∧ (asC d = none → ∀ h', Pres h h' → Y "NotValid" [] h')
def sp_around : Spc := fun ds h R _ => ∃ p : Nat, ds = [.int p] ∧ p ≤ 12 ∧ R (ar p).e h
def sp_known : Spc := fun ds h R _ => ∃ i : Nat, ds = [.str (nm i)] ∧ i ≤ 6 ∧ ∀ a h', Pres h h' → CodeX h' a (kc i).1 (kc i).2.1 (kc i).2.2.1 (kc i).2.2.2 → R (.obj a) h'
abbrev sp__law_next : Spc := VL.C.sp__law_next
abbrev sp__law_codes : Spc := VL.C.sp__law_codes
abbrev sp__law_masks : Spc := VL.C.sp__law_masks
abbrev sp__law_ones : Spc := VL.C.sp__law_ones
abbrev sp__law_times : Spc := VL.C.sp__law_times
abbrev sp__law_changed : Spc := VL.C.sp__law_changed
abbrev sp__law_gate : Spc := VL.C.sp__law_gate
def sp__law_word : Spc := fun ds h R _ => ∃ (p : Pa) (n : Nat), ds = [p.e, .int n] ∧ n ≤ 13 ∧ p.s < 2 ∧ R (.str (txp n p)) h
def sp__law_text : Spc := fun ds h R _ => ∃ (n : Nat) (ps : List Pa) (X Z : Pa), ds = [.int n, .lst (ps.map Pa.e), X.e, Z.e] ∧ IsC n ps X Z ∧ R (.str (ctx n ps X Z)) h
@[irreducible] def sp__law_read : Spc := fun ds h R _ => ∃ d : D, ds = [d] ∧ strO d = true ∧ (∀ n ps X Z a h', asC d = some (n, ps, X, Z) → CodeX h' a n ps X Z → Pres h h' → R (.obj a) h') ∧ (asC d = none → ∀ h', Pres h h' → R .non h')
@[irreducible] def sp__law_spoilt : Spc := fun ds h R _ => ∃ (t : Addr) (x : Str), ds = [.obj t, .str x] ∧ Tp h t ∧ 0 < x.length ∧ x.length ≤ 1000 ∧ ∀ y h', y.length ≤ 3000 → Tp h' t → But t h h' → R (.str y) h'
def sp_law : Spc := sp_true
end K07

set_option Elab.async false
set_option linter.all false
set_option maxRecDepth 100000
namespace K07
open PySem PySem.Spec L2 VL

def w_is_integer : WS :=
  (wRet (wAndV (wCB bIsi (wCons (wVar 0) (wCons (wC (.ty .tint)) wNil))) (wAndV (wNotV (wCB bIsi (wCons (wVar 0) (wCons (wC (.ty .tbool)) wNil)))) (wOp opGe (wVar 0) (wC (.int 0))))))
def w_is_pauli_1 : WS :=
  (wRet (wAndV (wOp opLt (wIx (wVar 0) (wC (.int 0))) (wOp opShl (wC (.int 1)) (wVar 1))) (wAndV (wOp opLt (wIx (wVar 0) (wC (.int 1))) (wOp opShl (wC (.int 1)) (wVar 1))) (wOp opLt (wIx (wVar 0) (wC (.int 2))) (wC (.int 2))))))
def w_is_pauli : WS :=
  (wSeq (wIfS (wOr (wNot (wB (wCB bIsi (wCons (wVar 0) (wCons (wC (.ty .ttup)) wNil))))) (wOr (wBb (wOp opNe (wCB bLen (wCons (wVar 0) wNil)) (wC (.int 3)))) (wNot (wB (wCB bAll (wCons (wLc (wItT (wVar 0)) (gVar 2) wYes (wCall sp_is_integer (wCons (wVar 2) wNil)) [2]) wNil)))))) (wRet (wC (.bl false))) wNext)
  w_is_pauli_1)
def w_ones_b1_1 : WS :=
  (wAug 1 opAddI (wC (.int 1)))
def w_ones_b1 : WS :=
  (wSeq (wAug 0 opAnd (wOp opSub (wVar 0) (wC (.int 1))))
  w_ones_b1_1)
def w_ones_t1 : WT :=
  (wB (wVar 0))
def w_ones_2 : WS :=
  (wRet (wVar 1))
def w_ones_1 : WS :=
  (wSeq (wWhile w_ones_t1 w_ones_b1)
  w_ones_2)
def w_ones : WS :=
  (wSeq (wAsg (wC (.int 0)) (gVar 1))
  w_ones_1)
def w_weight : WS :=
  (wRet (wCall sp_ones (wCons (wOp opOr (wIx (wVar 0) (wC (.int 0))) (wIx (wVar 0) (wC (.int 1)))) wNil)))
def w_letter : WS :=
  (wRet (wIx (wC k_NAMES_paulis) (wOp opAdd (wOp opAnd (wOp opShr (wIx (wVar 0) (wC (.int 0))) (wVar 1)) (wC (.int 1))) (wOp opMulS (wC (.int 2)) (wOp opAnd (wOp opShr (wIx (wVar 0) (wC (.int 1))) (wVar 1)) (wC (.int 1)))))))
def w_commutes : WS :=
  (wRet (wOp opEq (wOp opMod (wCall sp_ones (wCons (wOp opAnd (wIx (wVar 0) (wC (.int 0))) (wIx (wVar 1) (wC (.int 1)))) wNil)) (wC (.int 2))) (wOp opMod (wCall sp_ones (wCons (wOp opAnd (wIx (wVar 0) (wC (.int 1))) (wIx (wVar 1) (wC (.int 0)))) wNil)) (wC (.int 2)))))
def w_product_4 : WS :=
  (wRet (wTup (wCons (wVar 2) (wCons (wVar 3) (wCons (wOp opDiv (wVar 4) (wC (.int 2))) wNil)))))
def w_product_3 : WS :=
  (wSeq (wAsg (wOp opMod (wOp opSub (wOp opAdd (wVar 4) (wOp opMulS (wC (.int 2)) (wCall sp_ones (wCons (wOp opAnd (wIx (wVar 0) (wC (.int 1))) (wIx (wVar 1) (wC (.int 0)))) wNil)))) (wCall sp_ones (wCons (wOp opAnd (wVar 2) (wVar 3)) wNil))) (wC (.int 4))) (gVar 4))
  w_product_4)
def w_product_2 : WS :=
  (wSeq (wAsg (wOp opAdd (wOp opAdd (wOp opMulS (wC (.int 2)) (wOp opAdd (wIx (wVar 0) (wC (.int 2))) (wIx (wVar 1) (wC (.int 2))))) (wCall sp_ones (wCons (wOp opAnd (wIx (wVar 0) (wC (.int 0))) (wIx (wVar 0) (wC (.int 1)))) wNil))) (wCall sp_ones (wCons (wOp opAnd (wIx (wVar 1) (wC (.int 0))) (wIx (wVar 1) (wC (.int 1)))) wNil))) (gVar 4))
  w_product_3)
def w_product_1 : WS :=
  (wSeq (wAsg (wOp opXor (wIx (wVar 0) (wC (.int 1))) (wIx (wVar 1) (wC (.int 1)))) (gVar 3))
  w_product_2)
def w_product : WS :=
  (wSeq (wAsg (wOp opXor (wIx (wVar 0) (wC (.int 0))) (wIx (wVar 1) (wC (.int 0)))) (gVar 2))
  w_product_1)
def w_single_1 : WS :=
  (wRet (wTup (wCons (wOp opShl (wOp opAnd (wVar 2) (wC (.int 1))) (wVar 1)) (wCons (wOp opShl (wOp opShr (wVar 2) (wC (.int 1))) (wVar 1)) (wCons (wC (.int 0)) wNil)))))
def w_single : WS :=
  (wSeq (wAsg (wM1 mIndex (wC k_NAMES_paulis) (wVar 0)) (gVar 2))
  w_single_1)
def w_rank : WS :=
  (wRet (wTup (wCons (wCall sp_weight (wCons (wVar 0) wNil)) (wCons (wIx (wVar 0) (wC (.int 0))) (wCons (wIx (wVar 0) (wC (.int 1))) wNil)))))
def w_text_of : WS :=
  (wRet (wOp opAdd (wIx (wC (.str "+-")) (wIx (wVar 0) (wC (.int 2)))) (wM1 mJoin (wC (.str "")) (wLc (wRng1 (wCons (wVar 1) wNil)) (gVar 2) wYes (wCall sp_letter (wCons (wVar 0) (wCons (wVar 2) wNil))) [2]))))
def w_pauli_of_b1_1 : WS :=
  (wIfS (wBb (wOp opNe (wIx (wVar 0) (wOp opAdd (wVar 2) (wC (.int 1)))) (wC (.str "I")))) (wAsg (wCall sp_product (wCons (wVar 1) (wCons (wCall sp_single (wCons (wIx (wVar 0) (wOp opAdd (wVar 2) (wC (.int 1)))) (wCons (wVar 2) wNil))) wNil))) (gVar 1)) wNext)
def w_pauli_of_b1 : WS :=
  (wSeq (wIfS (wBb (wOp opNotInD (wIx (wVar 0) (wOp opAdd (wVar 2) (wC (.int 1)))) (wC k_NAMES_paulis))) (wRaise "NotValid") wNext)
  w_pauli_of_b1_1)
def w_pauli_of_3 : WS :=
  (wRet (wVar 1))
def w_pauli_of_2 : WS :=
  (wSeq (wFor (wRng1 (wCons (wOp opSub (wCB bLen (wCons (wVar 0) wNil)) (wC (.int 1))) wNil)) (gVar 2) w_pauli_of_b1)
  w_pauli_of_3)
def w_pauli_of_1 : WS :=
  (wSeq (wAsg (wTup (wCons (wC (.int 0)) (wCons (wC (.int 0)) (wCons (wM1 mIndex (wC (.str "+-")) (wIx (wVar 0) (wC (.int 0)))) wNil)))) (gVar 1))
  w_pauli_of_2)
def w_pauli_of : WS :=
  (wSeq (wIfS (wOr (wNot (wB (wCB bIsi (wCons (wVar 0) (wCons (wC (.ty .tstr)) wNil))))) (wOr (wBb (wOp opLt (wCB bLen (wCons (wVar 0) wNil)) (wC (.int 2)))) (wBb (wOp opNotInD (wIx (wVar 0) (wC (.int 0))) (wC (.str "+-")))))) (wRaise "NotValid") wNext)
  w_pauli_of_1)
def w_reduced_b1 : WS :=
  (wAsg (wCB bMin (wCons (wVar 3) (wCons (wOp opXor (wVar 3) (wVar 4)) wNil))) (gVar 3))
def w_reduced_2 : WS :=
  (wRet (wVar 3))
def w_reduced_1 : WS :=
  (wSeq (wForO (wVar 0) (gVar 4) w_reduced_b1)
  w_reduced_2)
def w_reduced : WS :=
  (wSeq (wAsg (wOp opOr (wOp opShl (wIx (wVar 1) (wC (.int 0))) (wVar 2)) (wIx (wVar 1) (wC (.int 1)))) (gVar 3))
  w_reduced_1)
def w_independent_b1_3 : WS :=
  (wSortR 2)
def w_independent_b1_2 : WS :=
  (wSeq (wApp 2 (wVar 4))
  w_independent_b1_3)
def w_independent_b1_1 : WS :=
  (wSeq (wIfS (wBb (wOp opEq (wVar 4) (wC (.int 0)))) (wRet (wC (.bl false))) wNext)
  w_independent_b1_2)
def w_independent_b1 : WS :=
  (wSeq (wAsg (wLend 2 (wCall sp_reduced (wCons (wObj 2) (wCons (wVar 3) (wCons (wVar 1) wNil))))) (gVar 4))
  w_independent_b1_1)
def w_independent_2 : WS :=
  (wRet (wC (.bl true)))
def w_independent_1 : WS :=
  (wSeq (wFor (wItT (wVar 0)) (gVar 3) w_independent_b1)
  w_independent_2)
def w_independent : WS :=
  (wSeq (wSetO 2 (wLst wNil))
  w_independent_1)
def w_Code___init___b2 : WS :=
  (wIfS (wBb (wOp opNe (wCall sp_commutes (wCons (wIx (wVar 5) (wVar 6)) (wCons (wIx (wVar 5) (wVar 7)) wNil))) (wOrV (wOp opLt (wVar 7) (wOp opSub (wVar 1) (wC (.int 1)))) (wOp opLt (wVar 6) (wVar 1))))) (wRaise "NotValid") wNext)
def w_Code___init___b1 : WS :=
  (wFor (wRng1 (wCons (wVar 6) wNil)) (gVar 7) w_Code___init___b2)
def w_Code___init___10 : WS :=
  (wSetF "Code" "reps" (wVar 0) (wC .non))
def w_Code___init___9 : WS :=
  (wSeq (wSetF "Code" "table" (wVar 0) (wC .non))
  w_Code___init___10)
def w_Code___init___8 : WS :=
  (wSeq (wSetF "Code" "z" (wVar 0) (wVar 4))
  w_Code___init___9)
def w_Code___init___7 : WS :=
  (wSeq (wSetF "Code" "x" (wVar 0) (wVar 3))
  w_Code___init___8)
def w_Code___init___6 : WS :=
  (wSeq (wSetF "Code" "generators" (wVar 0) (wVar 2))
  w_Code___init___7)
def w_Code___init___5 : WS :=
  (wSeq (wSetF "Code" "n" (wVar 0) (wVar 1))
  w_Code___init___6)
def w_Code___init___4 : WS :=
  (wSeq (wIfS (wNot (wB (wCall sp_independent (wCons (wVar 2) (wCons (wVar 1) wNil))))) (wRaise "NotValid") wNext)
  w_Code___init___5)
def w_Code___init___3 : WS :=
  (wSeq (wFor (wRng1 (wCons (wCB bLen (wCons (wVar 5) wNil)) wNil)) (gVar 6) w_Code___init___b1)
  w_Code___init___4)
def w_Code___init___2 : WS :=
  (wSeq (wIfS (wOr (wBb (wOp opNe (wCB bLen (wCons (wVar 2) wNil)) (wOp opSub (wVar 1) (wC (.int 1))))) (wNot (wB (wCB bAll (wCons (wLc (wItL (wVar 5)) (gVar 8) wYes (wCall sp_is_pauli (wCons (wVar 8) (wCons (wVar 1) wNil))) [8]) wNil))))) (wRaise "NotValid") wNext)
  w_Code___init___3)
def w_Code___init___1 : WS :=
  (wSeq (wAsg (wOp opAdd (wCB bLstS (wCons (wVar 2) wNil)) (wLst (wCons (wVar 3) (wCons (wVar 4) wNil)))) (gVar 5))
  w_Code___init___2)
def w_Code___init__ : WS :=
  (wSeq (wIfS (wOr (wNot (wB (wCall sp_is_integer (wCons (wVar 1) wNil)))) (wOr (wNot (wBb (wChain opLe opLe (wC (.int 1)) (wVar 1) (wC k_MOST_QUBITS)))) (wNot (wB (wCB bIsi (wCons (wVar 2) (wCons (wC (.ty .ttup)) wNil))))))) (wRaise "NotValid") wNext)
  w_Code___init___1)
def w_Code_logical_3 : WS :=
  (wRet (wTup (wCons (wVar 2) (wCons (wVar 3) (wCons (wOp opSub (wC (.int 1)) (wVar 4)) wNil)))))
def w_Code_logical_2 : WS :=
  (wSeq (wAsg (wCall sp_product (wCons (wFld "Code" "x" (wVar 0)) (wCons (wFld "Code" "z" (wVar 0)) wNil))) (gTp 3 (gsCons (gVar 2) (gsCons (gVar 3) (gsCons (gVar 4) gsNil)))))
  w_Code_logical_3)
def w_Code_logical_1 : WS :=
  (wSeq (wIfS (wBb (wOp opEq (wVar 1) (wC (.str "Z")))) (wRet (wFld "Code" "z" (wVar 0))) wNext)
  w_Code_logical_2)
def w_Code_logical : WS :=
  (wSeq (wIfS (wBb (wOp opEq (wVar 1) (wC (.str "X")))) (wRet (wFld "Code" "x" (wVar 0))) wNext)
  w_Code_logical_1)
def w_Code_coset_b1 : WS :=
  (wAsg (wOp opAdd (wVar 2) (wLc (wItL (wVar 2)) (gVar 4) wYes (wCall sp_product (wCons (wVar 4) (wCons (wVar 3) wNil))) [4])) (gVar 2))
def w_Code_coset_2 : WS :=
  (wRet (wVar 2))
def w_Code_coset_1 : WS :=
  (wSeq (wFor (wItT (wFld "Code" "generators" (wVar 0))) (gVar 3) w_Code_coset_b1)
  w_Code_coset_2)
def w_Code_coset : WS :=
  (wSeq (wAsg (wLst (wCons (wVar 1) wNil)) (gVar 2))
  w_Code_coset_1)
def w_Code_least_logical_2 : WS :=
  (wRet (wTup (wCons (wIx (wVar 2) (wC (.int 0))) (wCons (wIx (wVar 2) (wC (.int 1))) (wCons (wC (.int 0)) wNil)))))
def w_Code_least_logical_1 : WS :=
  (wSeq (wAsg (wMinF sp_rank (wVar 1)) (gVar 2))
  w_Code_least_logical_2)
def w_Code_least_logical : WS :=
  (wSeq (wAsg (wLc (wItS (wC (.str "XYZ"))) (gVar 3) wYes (wMinF sp_rank (wMeth "Code" "coset" sp_Code_coset (wVar 0) (wCons (wMeth "Code" "logical" sp_Code_logical (wVar 0) (wCons (wVar 3) wNil)) wNil))) [3]) (gVar 1))
  w_Code_least_logical_1)
def w_Code_distance : WS :=
  (wRet (wIx (wCall sp_rank (wCons (wMeth "Code" "least_logical" sp_Code_least_logical (wVar 0) wNil) wNil)) (wC (.int 0))))
def w_code_text_2 : WS :=
  (wRet (wM1 mJoin (wC (.str "")) (wLc (wItL (wVar 1)) (gVar 3) wYes (wOp opAdd (wVar 3) (wC (.str "\n"))) [3])))
def w_code_text_1 : WS :=
  (wSeq (wAsg (wOp opAdd (wVar 1) (wLst (wCons (wOp opAdd (wC (.str "x ")) (wCall sp_text_of (wCons (wFld "Code" "x" (wVar 0)) (wCons (wFld "Code" "n" (wVar 0)) wNil)))) (wCons (wOp opAdd (wC (.str "z ")) (wCall sp_text_of (wCons (wFld "Code" "z" (wVar 0)) (wCons (wFld "Code" "n" (wVar 0)) wNil)))) wNil)))) (gVar 1))
  w_code_text_2)
def w_code_text : WS :=
  (wSeq (wAsg (wOp opAdd (wLst (wCons (wOp opAdd (wC (.str "code ")) (wCB bStr (wCons (wFld "Code" "n" (wVar 0)) wNil))) wNil)) (wLc (wItT (wFld "Code" "generators" (wVar 0))) (gVar 2) wYes (wCall sp_text_of (wCons (wVar 2) (wCons (wFld "Code" "n" (wVar 0)) wNil))) [2])) (gVar 1))
  w_code_text_1)
def w_text_pauli_1 : WS :=
  (fun T => wRet ((fun xx => (wCallX sp_pauli_of (wCons (wVar 0) wNil) xx)) T.xx) T)
def w_text_pauli : WS :=
  (wSeq (wIfS (wBb (wOp opNe (wCB bLen (wCons (wVar 0) wNil)) (wOp opAdd (wVar 1) (wC (.int 1))))) (wRaise "NotValid") wNext)
  w_text_pauli_1)
def w_read_code_7 : WS :=
  (fun T => wRet ((fun xx => (wMakeX "Code" sp_Code___init__ (wCons (wVar 3) (wCons (wVar 4) (wCons (wCallX sp_text_pauli (wCons (wSl (wIx (wVar 1) (wVar 3)) (wPart (wC (.int 2))) wNoPart) (wCons (wVar 3) wNil)) xx) (wCons (wCallX sp_text_pauli (wCons (wSl (wIx (wVar 1) (wOp opAdd (wVar 3) (wC (.int 1)))) (wPart (wC (.int 2))) wNoPart) (wCons (wVar 3) wNil)) xx) wNil)))) xx)) T.xx) T)
def w_read_code_6 : WS :=
  (wSeq (fun T => wAsg ((fun xx => (wCB bTup (wCons (wLcX (wItL (wSl (wVar 1) (wPart (wC (.int 1))) (wPart (wVar 3)))) (gVar 5) wYes (fun xx => (wCallX sp_text_pauli (wCons (wVar 5) (wCons (wVar 3) wNil)) xx)) [5] xx) wNil))) T.xx) (gVar 4) T)
  w_read_code_7)
def w_read_code_5 : WS :=
  (wSeq (wIfS (wOr (wBb (wOp opNe (wCB bLen (wCons (wVar 1) wNil)) (wOp opAdd (wVar 3) (wC (.int 3))))) (wOr (wBb (wOp opNe (wSl (wIx (wVar 1) (wVar 3)) wNoPart (wPart (wC (.int 2)))) (wC (.str "x ")))) (wOr (wBb (wOp opNe (wSl (wIx (wVar 1) (wOp opAdd (wVar 3) (wC (.int 1)))) wNoPart (wPart (wC (.int 2)))) (wC (.str "z ")))) (wBb (wOp opNe (wIx (wVar 1) (wOp opAdd (wVar 3) (wC (.int 2)))) (wC (.str ""))))))) (wRaise "NotValid") wNext)
  w_read_code_6)
def w_read_code_4 : WS :=
  (wSeq (wAsg (wCB bIntS (wCons (wIx (wVar 2) (wC (.int 1))) wNil)) (gVar 3))
  w_read_code_5)
def w_read_code_3 : WS :=
  (wSeq (wIfS (wOr (wBb (wOp opNe (wCB bLen (wCons (wVar 2) wNil)) (wC (.int 2)))) (wOr (wBb (wOp opNe (wIx (wVar 2) (wC (.int 0))) (wC (.str "code")))) (wBb (wOp opNotInD (wIx (wVar 2) (wC (.int 1))) (wLc (wRng2 (wCons (wC (.int 1)) (wCons (wOp opAdd (wC k_MOST_QUBITS) (wC (.int 1))) wNil))) (gVar 3) wYes (wCB bStr (wCons (wVar 3) wNil)) [3]))))) (wRaise "NotValid") wNext)
  w_read_code_4)
def w_read_code_2 : WS :=
  (wSeq (wAsg (wSplit (wIx (wVar 1) (wC (.int 0))) (wC (.str " "))) (gVar 2))
  w_read_code_3)
def w_read_code_1 : WS :=
  (wSeq (wAsg (wSplit (wVar 0) (wC (.str "\n"))) (gVar 1))
  w_read_code_2)
def w_read_code : WS :=
  (wSeq (wIfS (wNot (wB (wCB bIsi (wCons (wVar 0) (wCons (wC (.ty .tstr)) wNil))))) (wRaise "NotValid") wNext)
  w_read_code_1)
def w_around_b1 : WS :=
  (wAsg (wC (.str "Z")) (gIxO 1 (wOp opMod (wOp opAdd (wVar 0) (wVar 2)) (wC k_ROUND))))
def w_around_3 : WS :=
  (wRet (wCall sp_pauli_of (wCons (wOp opAdd (wC (.str "+")) (wM1 mJoin (wC (.str "")) (wVar 1))) wNil)))
def w_around_2 : WS :=
  (wSeq (wFor (wItT (wTup (wCons (wC (.int 1)) (wCons (wC (.int 2)) (wCons (wOp opSub (wC k_ROUND) (wC (.int 2))) (wCons (wOp opSub (wC k_ROUND) (wC (.int 1))) wNil)))))) (gVar 2) w_around_b1)
  w_around_3)
def w_around_1 : WS :=
  (wSeq (wAsg (wC (.str "X")) (gIxO 1 (wVar 0)))
  w_around_2)
def w_around : WS :=
  (wSeq (wSetO 1 (wOp opRep (wLst (wCons (wC (.str "I")) wNil)) (wC k_ROUND)))
  w_around_1)
def w_known_3 : WS :=
  (wRet (wMake "Code" sp_Code___init__ (wCons (wOp opSub (wCB bLen (wCons (wVar 3) wNil)) (wC (.int 1))) (wCons (wCB bTup (wCons (wLc (wItT (wVar 2)) (gVar 6) wYes (wCall sp_pauli_of (wCons (wVar 6) wNil)) [6]) wNil)) (wCons (wCall sp_pauli_of (wCons (wVar 3) wNil)) (wCons (wCall sp_pauli_of (wCons (wVar 4) wNil)) wNil))))))
def w_known_2 : WS :=
  (wSeq (wAsg (wTab k_ROWS (wVar 0)) (gTp 3 (gsCons (gVar 2) (gsCons (gVar 3) (gsCons (gVar 4) gsNil)))))
  w_known_3)
def w_known_1 : WS :=
  (wSeq (wIfS (wBb (wOp opNotInD (wVar 0) (wC k_NAMES_catalogue))) (wRaise "NotValid") wNext)
  w_known_2)
def w_known : WS :=
  (wSeq (wIfS (wBb (wOp opEq (wVar 0) (wC (.str "thirteen")))) (wSeq (wAsg (wLc (wRng1 (wCons (wOp opSub (wC k_ROUND) (wC (.int 1))) wNil)) (gVar 5) wYes (wCall sp_product (wCons (wCall sp_around (wCons (wVar 5) wNil)) (wCons (wCall sp_around (wCons (wOp opAdd (wVar 5) (wC (.int 1))) wNil)) wNil))) [5]) (gVar 1))
  (wRet (wMake "Code" sp_Code___init__ (wCons (wC k_ROUND) (wCons (wCB bTup (wCons (wVar 1) wNil)) (wCons (wCall sp_pauli_of (wCons (wOp opAdd (wC (.str "+")) (wOp opMulS (wC (.str "Z")) (wC k_ROUND))) wNil)) (wCons (wCall sp_around (wCons (wC (.int 0)) wNil)) wNil))))))) wNext)
  w_known_1)
def w__law_next_6 : WS :=
  (wRet (wOp opMod (wCB bInt (wCons (wOp opDiv (wOp opMod (wOp opMulS (wIx (wVar 0) (wC (.int 3))) (wC (.int 16807))) (wC (.int 2147483647))) (wC (.int 7))) wNil)) (wVar 1)))
def w__law_next_5 : WS :=
  (wSeq (wAsg (wOp opMod (wCB bInt (wCons (wOp opAdd (wOp opAdd (wOp opMulS (wIx (wVar 0) (wC (.int 3))) (wC (.int 48271))) (wOp opMulS (wVar 3) (wC (.int 69621)))) (wC (.int 11))) wNil)) (wC (.int 2147483647))) (gIxM (wVar 0) (wC (.int 3))))
  w__law_next_6)
def w__law_next_4 : WS :=
  (wSeq (wIfS (wBb (wOp opGe (wVar 3) (wOp opPow (wC (.int 10)) (wC (.int 18))))) (wSeq (wAsg (wOp opDiv (wVar 3) (wVar 1)) (gIxM (wVar 0) (wC (.int 2))))
  (wRet (wOp opMod (wCB bInt (wCons (wVar 3) wNil)) (wVar 1)))) wNext)
  w__law_next_5)
def w__law_next_3 : WS :=
  (wSeq (wIfS (wBb (wOp opLt (wIx (wVar 0) (wC (.int 1))) (wCB bLen (wCons (wIx (wVar 0) (wC (.int 0))) wNil)))) (wSeq (wAsg (wCB bAbs (wCons (wIx (wIx (wVar 0) (wC (.int 0))) (wIx (wVar 0) (wC (.int 1)))) wNil)) (gVar 3))
  (wAugM (wVar 0) (wC (.int 1)) opAddI (wC (.int 1)))) wNext)
  w__law_next_4)
def w__law_next_2 : WS :=
  (wSeq (wAsg (wC (.int 0)) (gVar 3))
  w__law_next_3)
def w__law_next_1 : WS :=
  (wSeq (wIfS (wBb (wOp opGt (wVar 2) (wC (.int 0)))) (wSeq (wAsg (wOp opDiv (wVar 2) (wVar 1)) (gIxM (wVar 0) (wC (.int 2))))
  (wRet (wOp opMod (wCB bInt (wCons (wVar 2) wNil)) (wVar 1)))) wNext)
  w__law_next_2)
def w__law_next : WS :=
  (wSeq (wAsg (wIx (wVar 0) (wC (.int 2))) (gVar 2))
  w__law_next_1)
def w__law_codes : WS :=
  (wRet (wLst (wCons (wTup (wCons (wC (.int 1)) (wCons (wLst wNil) (wCons (wC (.str "+X")) (wCons (wC (.str "+Z")) wNil))))) (wCons (wTup (wCons (wC (.int 3)) (wCons (wLst (wCons (wC (.str "+ZZI")) (wCons (wC (.str "+IZZ")) wNil))) (wCons (wC (.str "+XXX")) (wCons (wC (.str "+ZII")) wNil))))) (wCons (wTup (wCons (wC (.int 4)) (wCons (wLst (wCons (wC (.str "+XXXX")) (wCons (wC (.str "+ZZII")) (wCons (wC (.str "+IIZZ")) wNil)))) (wCons (wC (.str "+XXII")) (wCons (wC (.str "+ZIZI")) wNil))))) (wCons (wTup (wCons (wC (.int 5)) (wCons (wLst (wCons (wC (.str "+XZZXI")) (wCons (wC (.str "+IXZZX")) (wCons (wC (.str "+XIXZZ")) (wCons (wC (.str "+ZXIXZ")) wNil))))) (wCons (wC (.str "+XXXXX")) (wCons (wC (.str "+ZZZZZ")) wNil))))) (wCons (wTup (wCons (wC (.int 2)) (wCons (wLst (wCons (wC (.str "+ZZ")) wNil)) (wCons (wC (.str "+XX")) (wCons (wC (.str "+ZI")) wNil))))) (wCons (wTup (wCons (wC (.int 3)) (wCons (wLst (wCons (wC (.str "-XXI")) (wCons (wC (.str "+IXX")) wNil))) (wCons (wC (.str "+ZZZ")) (wCons (wC (.str "+XII")) wNil))))) wNil))))))))
def w__law_masks_2 : WS :=
  (wRet (wTup (wCons (wVar 1) (wCons (wVar 2) (wCons (wCB bInt (wCons (wOp opEq (wIx (wVar 0) (wC (.int 0))) (wC (.str "-"))) wNil)) wNil)))))
def w__law_masks_1 : WS :=
  (wSeq (wAsg (wCB bSum (wCons (wLc (wRng1 (wCons (wOp opSub (wCB bLen (wCons (wVar 0) wNil)) (wC (.int 1))) wNil)) (gVar 3) (wBb (wOp opInD (wIx (wVar 0) (wOp opAdd (wVar 3) (wC (.int 1)))) (wC (.str "ZY")))) (wOp opShl (wC (.int 1)) (wVar 3)) [3]) wNil)) (gVar 2))
  w__law_masks_2)
def w__law_masks : WS :=
  (wSeq (wAsg (wCB bSum (wCons (wLc (wRng1 (wCons (wOp opSub (wCB bLen (wCons (wVar 0) wNil)) (wC (.int 1))) wNil)) (gVar 3) (wBb (wOp opInD (wIx (wVar 0) (wOp opAdd (wVar 3) (wC (.int 1)))) (wC (.str "XY")))) (wOp opShl (wC (.int 1)) (wVar 3)) [3]) wNil)) (gVar 1))
  w__law_masks_1)
def w__law_ones_b1_1 : WS :=
  (wAsg (wOp opDiv (wVar 0) (wC (.int 2))) (gVar 0))
def w__law_ones_b1 : WS :=
  (wSeq (wAsg (wOp opAdd (wVar 1) (wOp opMod (wVar 0) (wC (.int 2)))) (gVar 1))
  w__law_ones_b1_1)
def w__law_ones_t1 : WT :=
  (wBb (wOp opGt (wVar 0) (wC (.int 0))))
def w__law_ones_2 : WS :=
  (wRet (wVar 1))
def w__law_ones_1 : WS :=
  (wSeq (wWhile w__law_ones_t1 w__law_ones_b1)
  w__law_ones_2)
def w__law_ones : WS :=
  (wSeq (wAsg (wC (.int 0)) (gVar 1))
  w__law_ones_1)
def w__law_times_3 : WS :=
  (wRet (wTup (wCons (wVar 3) (wCons (wVar 4) (wCons (wOp opDiv (wOp opMod (wOp opSub (wVar 2) (wCall sp__law_ones (wCons (wOp opAnd (wVar 3) (wVar 4)) wNil))) (wC (.int 4))) (wC (.int 2))) wNil)))))
def w__law_times_2 : WS :=
  (wSeq (wPar 3 4 (wCons (wOp opXor (wIx (wVar 0) (wC (.int 0))) (wIx (wVar 1) (wC (.int 0)))) (wCons (wOp opXor (wIx (wVar 0) (wC (.int 1))) (wIx (wVar 1) (wC (.int 1)))) wNil)))
  w__law_times_3)
def w__law_times_1 : WS :=
  (wSeq (wAsg (wOp opAdd (wOp opAdd (wVar 2) (wCall sp__law_ones (wCons (wOp opAnd (wIx (wVar 0) (wC (.int 0))) (wIx (wVar 0) (wC (.int 1)))) wNil))) (wCall sp__law_ones (wCons (wOp opAnd (wIx (wVar 1) (wC (.int 0))) (wIx (wVar 1) (wC (.int 1)))) wNil))) (gVar 2))
  w__law_times_2)
def w__law_times : WS :=
  (wSeq (wAsg (wOp opAdd (wOp opAdd (wOp opMulS (wC (.int 2)) (wIx (wVar 0) (wC (.int 2)))) (wOp opMulS (wC (.int 2)) (wIx (wVar 1) (wC (.int 2))))) (wOp opMulS (wC (.int 2)) (wCall sp__law_ones (wCons (wOp opAnd (wIx (wVar 0) (wC (.int 1))) (wIx (wVar 1) (wC (.int 0)))) wNil)))) (gVar 2))
  w__law_times_1)
def w__law_changed_b1_4 : WS :=
  (wAsg (wLc (wItL (wVar 3)) (gVar 12) wYes (wCall sp__law_gate (wCons (wVar 12) (wCons (wVar 9) (wCons (wVar 10) (wCons (wVar 11) wNil))))) [12]) (gVar 3))
def w__law_changed_b1_3 : WS :=
  (wSeq (wAsg (wLc (wItL (wVar 2)) (gVar 12) wYes (wCall sp__law_gate (wCons (wVar 12) (wCons (wVar 9) (wCons (wVar 10) (wCons (wVar 11) wNil))))) [12]) (gVar 2))
  w__law_changed_b1_4)
def w__law_changed_b1_2 : WS :=
  (wSeq (wAsg (wOp opMod (wOp opAdd (wOp opAdd (wVar 10) (wC (.int 1))) (wCall sp__law_next (wCons (wVar 0) (wCons (wCB bMax (wCons (wC (.int 1)) (wCons (wOp opSub (wVar 5) (wC (.int 1))) wNil))) wNil)))) (wVar 5)) (gVar 11))
  w__law_changed_b1_3)
def w__law_changed_b1_1 : WS :=
  (wSeq (wAsg (wCall sp__law_next (wCons (wVar 0) (wCons (wVar 5) wNil))) (gVar 10))
  w__law_changed_b1_2)
def w__law_changed_b1 : WS :=
  (wSeq (wAsg (wCall sp__law_next (wCons (wVar 0) (wCons (wC (.int 3)) wNil))) (gVar 9))
  w__law_changed_b1_1)
def w__law_changed_6 : WS :=
  (wRet (wTup (wCons (wVar 5) (wCons (wVar 2) (wCons (wIx (wVar 3) (wC (.int 0))) (wCons (wIx (wVar 3) (wC (.int 1))) wNil))))))
def w__law_changed_5 : WS :=
  (wSeq (wIfS (wAnd (wBb (wOp opGt (wCB bLen (wCons (wVar 2) wNil)) (wC (.int 0)))) (wBb (wOp opEq (wCall sp__law_next (wCons (wVar 0) (wCons (wC (.int 2)) wNil))) (wC (.int 0))))) (wAsg (wLst (wCons (wIx (wVar 3) (wC (.int 0))) (wCons (wCall sp__law_times (wCons (wIx (wVar 3) (wC (.int 1))) (wCons (wIx (wVar 2) (wC (.int 0))) wNil))) wNil))) (gVar 3)) wNext)
  w__law_changed_6)
def w__law_changed_4 : WS :=
  (wSeq (wIfS (wAnd (wBb (wOp opGt (wCB bLen (wCons (wVar 2) wNil)) (wC (.int 1)))) (wBb (wOp opEq (wCall sp__law_next (wCons (wVar 0) (wCons (wC (.int 2)) wNil))) (wC (.int 0))))) (wAsg (wOp opAdd (wLst (wCons (wCall sp__law_times (wCons (wIx (wVar 2) (wC (.int 0))) (wCons (wIx (wVar 2) (wC (.int 1))) wNil))) wNil)) (wSl (wVar 2) (wPart (wC (.int 1))) wNoPart)) (gVar 2)) wNext)
  w__law_changed_5)
def w__law_changed_3 : WS :=
  (wSeq (wFor (wRng1 (wCons (wCall sp__law_next (wCons (wVar 0) (wCons (wC (.int 6)) wNil))) wNil)) (gVar 4) w__law_changed_b1)
  w__law_changed_4)
def w__law_changed_2 : WS :=
  (wSeq (wAsg (wLst (wCons (wCall sp__law_masks (wCons (wVar 7) wNil)) (wCons (wCall sp__law_masks (wCons (wVar 8) wNil)) wNil))) (gVar 3))
  w__law_changed_3)
def w__law_changed_1 : WS :=
  (wSeq (wAsg (wLc (wItL (wVar 6)) (gVar 12) wYes (wCall sp__law_masks (wCons (wVar 12) wNil)) [12]) (gVar 2))
  w__law_changed_2)
def w__law_changed : WS :=
  (wSeq (wAsg (wVar 1) (gTp 4 (gsCons (gVar 5) (gsCons (gVar 6) (gsCons (gVar 7) (gsCons (gVar 8) gsNil))))))
  w__law_changed_1)
def w__law_gate_5 : WS :=
  (wRet (wTup (wCons (wOp opXor (wVar 4) (wOp opShl (wVar 7) (wVar 3))) (wCons (wOp opXor (wVar 5) (wOp opShl (wVar 10) (wVar 2))) (wCons (wOp opXor (wVar 6) (wOp opAnd (wOp opAnd (wVar 7) (wVar 10)) (wOp opXor (wOp opXor (wC (.int 1)) (wVar 9)) (wVar 8)))) wNil)))))
def w__law_gate_4 : WS :=
  (wSeq (wPar 9 10 (wCons (wOp opAnd (wOp opShr (wVar 4) (wVar 3)) (wC (.int 1))) (wCons (wOp opAnd (wOp opShr (wVar 5) (wVar 3)) (wC (.int 1))) wNil)))
  w__law_gate_5)
def w__law_gate_3 : WS :=
  (wSeq (wIfS (wOr (wBb (wOp opEq (wVar 1) (wC (.int 1)))) (wBb (wOp opEq (wVar 2) (wVar 3)))) (wRet (wTup (wCons (wVar 4) (wCons (wOp opXor (wVar 5) (wOp opShl (wVar 7) (wVar 2))) (wCons (wOp opXor (wVar 6) (wOp opAnd (wVar 7) (wVar 8))) wNil))))) wNext)
  w__law_gate_4)
def w__law_gate_2 : WS :=
  (wSeq (wIfS (wBb (wOp opEq (wVar 1) (wC (.int 0)))) (wRet (wTup (wCons (wOp opXor (wVar 4) (wOp opShl (wOp opXor (wVar 7) (wVar 8)) (wVar 2))) (wCons (wOp opXor (wVar 5) (wOp opShl (wOp opXor (wVar 7) (wVar 8)) (wVar 2))) (wCons (wOp opXor (wVar 6) (wOp opAnd (wVar 7) (wVar 8))) wNil))))) wNext)
  w__law_gate_3)
def w__law_gate_1 : WS :=
  (wSeq (wPar 7 8 (wCons (wOp opAnd (wOp opShr (wVar 4) (wVar 2)) (wC (.int 1))) (wCons (wOp opAnd (wOp opShr (wVar 5) (wVar 2)) (wC (.int 1))) wNil)))
  w__law_gate_2)
def w__law_gate : WS :=
  (wSeq (wAsg (wVar 0) (gTp 3 (gsCons (gVar 4) (gsCons (gVar 5) (gsCons (gVar 6) gsNil)))))
  w__law_gate_1)
def w__law_word_1 : WS :=
  (wRet (wOp opAdd (wIx (wC (.str "+-")) (wIx (wVar 0) (wC (.int 2)))) (wM1 mJoin (wC (.str "")) (wVar 2))))
def w__law_word : WS :=
  (wSeq (wAsg (wLc (wRng1 (wCons (wVar 1) wNil)) (gVar 3) wYes (wIx (wC (.str "IXZY")) (wOp opAdd (wOp opAnd (wOp opShr (wIx (wVar 0) (wC (.int 0))) (wVar 3)) (wC (.int 1))) (wOp opMulS (wC (.int 2)) (wOp opAnd (wOp opShr (wIx (wVar 0) (wC (.int 1))) (wVar 3)) (wC (.int 1)))))) [3]) (gVar 2))
  w__law_word_1)
def w__law_text_1 : WS :=
  (wRet (wOp opAdd (wM1 mJoin (wC (.str "\n")) (wOp opAdd (wVar 4) (wLst (wCons (wOp opAdd (wC (.str "x ")) (wCall sp__law_word (wCons (wVar 2) (wCons (wVar 0) wNil)))) (wCons (wOp opAdd (wC (.str "z ")) (wCall sp__law_word (wCons (wVar 3) (wCons (wVar 0) wNil)))) wNil))))) (wC (.str "\n"))))
def w__law_text : WS :=
  (wSeq (wAsg (wOp opAdd (wLst (wCons (wOp opAdd (wC (.str "code ")) (wCB bStr (wCons (wVar 0) wNil))) wNil)) (wLc (wItL (wVar 1)) (gVar 5) wYes (wCall sp__law_word (wCons (wVar 5) (wCons (wVar 0) wNil))) [5])) (gVar 4))
  w__law_text_1)
def w__law_read : WS :=
  (wTry "NotValid" (fun T => wRet ((fun xx => (wCallX sp_read_code (wCons (wVar 0) wNil) xx)) T.xx) T) (wRet (wC .non)))
def w__law_spoilt_2 : WS :=
  (wRet (wOp opAdd (wOp opAdd (wSl (wVar 1) wNoPart (wPart (wVar 2))) (wVar 3)) (wSl (wVar 1) (wPart (wOp opAdd (wVar 2) (wCall sp__law_next (wCons (wVar 0) (wCons (wC (.int 2)) wNil))))) wNoPart)))
def w__law_spoilt_1 : WS :=
  (wSeq (wAsg (wIx (wLst (wCons (wC (.str "")) (wCons (wC (.str "X")) (wCons (wC (.str "Z")) (wCons (wC (.str "I")) (wCons (wC (.str " ")) (wCons (wC (.str "\n")) (wCons (wC (.str "+")) (wCons (wC (.str "-")) (wCons (wC (.str "1")) (wCons (wC (.str "x")) wNil))))))))))) (wCall sp__law_next (wCons (wVar 0) (wCons (wC (.int 10)) wNil)))) (gVar 3))
  w__law_spoilt_2)
def w__law_spoilt : WS :=
  (wSeq (wAsg (wCall sp__law_next (wCons (wVar 0) (wCons (wCB bLen (wCons (wVar 1) wNil)) wNil))) (gVar 2))
  w__law_spoilt_1)
def w_law_b1_7 : WS :=
  (wIfS (wAnd (wBb (wOp opNotN (wVar 10) (wC .non))) (wBb (wOp opNe (wCall sp_code_text (wCons (wVar 10) wNil)) (wVar 9)))) (wRet (wC (.bl false))) wNext)
def w_law_b1_6 : WS :=
  (wSeq (wAsg (wCall sp__law_read (wCons (wVar 9) wNil)) (gVar 10))
  w_law_b1_7)
def w_law_b1_5 : WS :=
  (wSeq (wAsg (wCall sp__law_spoilt (wCons (wVar 1) (wCons (wVar 7) wNil))) (gVar 9))
  w_law_b1_6)
def w_law_b1_4 : WS :=
  (wSeq (wIfS (wBb (wOp opNe (wTup (wCons (wFld "Code" "n" (wVar 8)) (wCons (wFld "Code" "generators" (wVar 8)) (wCons (wFld "Code" "x" (wVar 8)) (wCons (wFld "Code" "z" (wVar 8)) wNil))))) (wTup (wCons (wVar 11) (wCons (wCB bTup (wCons (wVar 12) wNil)) (wCons (wVar 13) (wCons (wVar 14) wNil))))))) (wRet (wC (.bl false))) wNext)
  w_law_b1_5)
def w_law_b1_3 : WS :=
  (wSeq (wIfS (wOr (wBb (wOp opIsN (wVar 8) (wC .non))) (wOr (wBb (wOp opNe (wCall sp_code_text (wCons (wVar 8) wNil)) (wVar 7))) (wBb (wOp opNe (wCall sp_code_text (wCons (wMake "Code" sp_Code___init__ (wCons (wVar 11) (wCons (wCB bTup (wCons (wVar 12) wNil)) (wCons (wVar 13) (wCons (wVar 14) wNil))))) wNil)) (wVar 7))))) (wRet (wC (.bl false))) wNext)
  w_law_b1_4)
def w_law_b1_2 : WS :=
  (wSeq (wAsg (wCall sp__law_read (wCons (wVar 7) wNil)) (gVar 8))
  w_law_b1_3)
def w_law_b1_1 : WS :=
  (wSeq (wAsg (wCall sp__law_text (wCons (wVar 11) (wCons (wVar 12) (wCons (wVar 13) (wCons (wVar 14) wNil))))) (gVar 7))
  w_law_b1_2)
def w_law_b1 : WS :=
  (wSeq (wAsg (wCall sp__law_changed (wCons (wVar 1) (wCons (wIx (wCall sp__law_codes wNil) (wCall sp__law_next (wCons (wVar 1) (wCons (wC (.int 6)) wNil)))) wNil))) (gTp 4 (gsCons (gVar 11) (gsCons (gVar 12) (gsCons (gVar 13) (gsCons (gVar 14) gsNil))))))
  w_law_b1_1)
def w_law_b2 : WS :=
  (wIfS (wBb (wOp opNotN (wCall sp__law_read (wCons (wVar 3) wNil)) (wC .non))) (wRet (wC (.bl false))) wNext)
def w_law_9 : WS :=
  (wRet (wOp opEq (wCall sp_code_text (wCons (wCall sp_read_code (wCons (wCall sp_code_text (wCons (wVar 5) wNil)) wNil)) wNil)) (wCall sp_code_text (wCons (wVar 5) wNil))))
def w_law_8 : WS :=
  (wSeq (wIfS (wBb (wOp opNe (wTup (wCons (wFld "Code" "n" (wVar 6)) (wCons (wFld "Code" "z" (wVar 6)) (wCons (wFld "Code" "x" (wVar 6)) wNil)))) (wTup (wCons (wC (.int 13)) (wCons (wCall sp__law_masks (wCons (wC (.str "+XZZIIIIIIIIZZ")) wNil)) (wCons (wTup (wCons (wC (.int 0)) (wCons (wC (.int 8191)) (wCons (wC (.int 0)) wNil)))) wNil)))))) (wRet (wC (.bl false))) wNext)
  w_law_9)
def w_law_7 : WS :=
  (wSeq (wAsg (wCall sp_known (wCons (wC (.str "thirteen")) wNil)) (gVar 6))
  w_law_8)
def w_law_6 : WS :=
  (wSeq (wIfS (wBb (wOp opNe (wTup (wCons (wFld "Code" "n" (wVar 5)) (wCons (wMeth "Code" "distance" sp_Code_distance (wVar 5) wNil) wNil))) (wIx (wTup (wCons (wTup (wCons (wC (.int 1)) (wCons (wC (.int 1)) wNil))) (wCons (wTup (wCons (wC (.int 3)) (wCons (wC (.int 1)) wNil))) (wCons (wTup (wCons (wC (.int 4)) (wCons (wC (.int 2)) wNil))) (wCons (wTup (wCons (wC (.int 5)) (wCons (wC (.int 3)) wNil))) (wCons (wTup (wCons (wC (.int 7)) (wCons (wC (.int 3)) wNil))) (wCons (wTup (wCons (wC (.int 9)) (wCons (wC (.int 3)) wNil))) wNil))))))) (wVar 4)))) (wRet (wC (.bl false))) wNext)
  w_law_7)
def w_law_5 : WS :=
  (wSeq (wAsg (wCall sp_known (wCons (wIx (wC k_NAMES_catalogue) (wVar 4)) wNil)) (gVar 5))
  w_law_6)
def w_law_4 : WS :=
  (wSeq (wAsg (wCall sp__law_next (wCons (wVar 1) (wCons (wC (.int 6)) wNil))) (gVar 4))
  w_law_5)
def w_law_3 : WS :=
  (wSeq (wIfS (wBb (wOp opNe (wC k_NAMES_catalogue) (wTup (wCons (wC (.str "one")) (wCons (wC (.str "three")) (wCons (wC (.str "four")) (wCons (wC (.str "five")) (wCons (wC (.str "seven")) (wCons (wC (.str "nine")) (wCons (wC (.str "thirteen")) wNil)))))))))) (wRet (wC (.bl false))) wNext)
  w_law_4)
def w_law_2 : WS :=
  (wSeq (wFor (wItL (wLst (wCons (wC .non) (wCons (wC (.int 5)) (wCons (wC (.str "")) (wCons (wC (.str "code 1")) (wCons (wC (.str "code 0\n")) (wCons (wLst (wCons (wC (.str "code 1")) wNil)) (wCons (wC (.str "code 1\nx +X\nz +X\n")) (wCons (wC (.str "code 01\nx +X\nz +Z\n")) wNil)))))))))) (gVar 3) w_law_b2)
  w_law_3)
def w_law_1 : WS :=
  (wSeq (wFor (wRng1 (wCons (wOp opAdd (wC (.int 1)) (wCall sp__law_next (wCons (wVar 1) (wCons (wC (.int 3)) wNil)))) wNil)) (gVar 2) w_law_b1)
  w_law_2)
def w_law : WS :=
  (wSeq (wSetM 1 (wLst (wCons (wCB bLstS (wCons (wVar 0) wNil)) (wCons (wC (.int 0)) (wCons (wC (.int 0)) (wCons (wC (.int 19)) wNil))))))
  w_law_1)
end K07

set_option Elab.async false
set_option linter.all false
set_option maxRecDepth 100000
set_option maxHeartbeats 400000
/-! M_k07: texts of codes, in plain mathematics -/
namespace K07
open PySem PySem.Spec PyProof.Rows L2 VL VL.P VL.C
theorem unch_ch {k : Nat} (h : k < 4) : unch (ch k) = k := by
  have : ∀ k : Fin 4, unch (ch k.1) = k.1 := by decide
  exact this ⟨k, h⟩
theorem isL_ch {k : Nat} (h : k < 4) : isL (ch k) = true := by
  have : ∀ k : Fin 4, isL (ch k.1) = true := by decide
  exact this ⟨k, h⟩
theorem isL_cases {c : Nat} (h : isL c = true) : c = 73 ∨ c = 88 ∨ c = 90 ∨ c = 89 := by
  unfold isL at h
  simpa using h
theorem ch_unch {c : Nat} (h : isL c = true) : ch (unch c) = c ∧ unch c < 4 := by
  rcases isL_cases h with rfl | rfl | rfl | rfl <;> decide
theorem map_unch : ∀ {w : List Nat}, Wd w → (w.map ch).map unch = w
  | [], _ => rfl
  | k :: w, h => by
    rw [List.map_cons, List.map_cons, unch_ch (h k List.mem_cons_self), map_unch fun x hx => h x (List.mem_cons_of_mem _ hx)]
theorem map_ch : ∀ {l : List Nat}, l.all isL = true → (l.map unch).map ch = l
  | [], _ => rfl
  | c :: l, h => by
    rw [List.all_cons, Bool.and_eq_true] at h
    rw [List.map_cons, List.map_cons, (ch_unch h.1).1, map_ch h.2]
theorem wd_unch {l : List Nat} (h : l.all isL = true) : Wd (l.map unch) := fun k hk => by
  obtain ⟨c, hc, rfl⟩ := List.mem_map.mp hk
  exact (ch_unch (List.all_eq_true.mp h c hc)).2
theorem tl_tstr (s : Nat) (w : List Nat) : TL.tl (tstr s w) = (if s = 1 then 45 else 43) :: w.map ch := rfl
theorem po_tstr {s : Nat} {w : List Nat} (hs : s < 2) (hw : Wd w) (hne : w ≠ []) : po (tstr s w) = some (wpa w s) := by
  unfold po
  rw [tl_tstr]
  have ha : (w.map ch).all isL = true := by
    rw [List.all_map]
    exact List.all_eq_true.mpr fun k hk => isL_ch (hw k hk)
  dsimp only
  rw [if_pos ⟨by rcases m2 s hs with rfl | rfl <;> decide, fun e => hne (List.map_eq_nil_iff.mp e), ha⟩, map_unch hw]
  rcases m2 s hs with rfl | rfl <;> rfl
theorem po_some {a : Str} {p : Pa} (h : po a = some p) : ∃ s w, a = tstr s w ∧ p = wpa w s ∧ s < 2 ∧ Wd w ∧ w ≠ [] := by
  unfold po at h
  split at h
  · rename_i c l e
    split at h
    · rename_i q
      obtain ⟨q1, q2, q3⟩ := q
      refine ⟨if c = 45 then 1 else 0, l.map unch, TL.ext_tl ?_, (Option.some.inj h).symm, by split <;> omega, wd_unch q3, fun z => q2 (List.map_eq_nil_iff.mp z)⟩
      rw [e, tl_tstr, map_ch q3]
      rcases q1 with rfl | rfl <;> rfl
    · cases h
  · cases h
/-! ### words -/
theorem wrd_len (n : Nat) (p : Pa) : (wrd n p).length = n := by unfold wrd; rw [List.length_map, List.length_range]
theorem wrd_wd (n : Nat) (p : Pa) : Wd (wrd n p) := fun k hk => by
  obtain ⟨i, _, rfl⟩ := List.mem_map.mp hk
  have := Nat.mod_lt (p.x / 2 ^ i) (show 0 < 2 by decide)
  have := Nat.mod_lt (p.z / 2 ^ i) (show 0 < 2 by decide)
  omega
theorem wrd_succ (n : Nat) (p : Pa) : wrd (n + 1) p = (p.x % 2 + 2 * (p.z % 2)) :: wrd n ⟨p.x / 2, p.z / 2, p.s⟩ := by
  unfold wrd
  rw [List.range_succ_eq_map, List.map_cons, List.map_map]
  congr 1
  · simp
  · refine List.map_congr_left fun k _ => ?_
    show p.x / 2 ^ (k + 1) % 2 + 2 * (p.z / 2 ^ (k + 1) % 2) = p.x / 2 / 2 ^ k % 2 + 2 * (p.z / 2 / 2 ^ k % 2)
    rw [Nat.pow_succ, Nat.mul_comm, Nat.div_div_eq_div_mul, Nat.div_div_eq_div_mul]
theorem bx_b {i j : Nat} (hi : i < 2) (hj : j < 2) : bx (i + 2 * j) = i ∧ bz (i + 2 * j) = j := by
  unfold bx bz
  omega
theorem wpa_wrd : ∀ {n : Nat} {p : Pa}, Bd n p → wpa (wrd n p) p.s = p
  | 0, p, h => by
    obtain ⟨x, z, s⟩ := p
    have h1 := h.x
    have h2 := h.z
    have e1 : x = 0 := by have h1 : x < 1 := h1; omega
    have e2 : z = 0 := by have h2 : z < 1 := h2; omega
    subst e1 e2
    rfl
  | n + 1, p, h => by
    have hb : Bd n ⟨p.x / 2, p.z / 2, p.s⟩ := by
      have h1 := h.x
      have h2 := h.z
      rw [Nat.pow_succ] at h1 h2
      exact ⟨by show p.x / 2 < 2 ^ n; omega, by show p.z / 2 < 2 ^ n; omega, h.s⟩
    have ih := wpa_wrd hb
    rw [wrd_succ]
    have i1 : p.x % 2 < 2 := Nat.mod_lt _ (by decide)
    have i2 : p.z % 2 < 2 := Nat.mod_lt _ (by decide)
    have e := bx_b i1 i2
    unfold wpa at ih ⊢
    have ix := congrArg Pa.x ih
    have iz := congrArg Pa.z ih
    dsimp only at ix iz
    obtain ⟨x, z, s⟩ := p
    dsimp only at *
    unfold wm
    rw [e.1, e.2, ix, iz]
    congr 1 <;> omega
theorem wm_lt {b : Nat → Nat} : ∀ {w : List Nat}, (∀ k ∈ w, b k < 2) → wm b w < 2 ^ w.length
  | [], _ => by unfold wm; exact Nat.one_pos
  | k :: w, h => by
    have h1 := h k List.mem_cons_self
    have h2 := wm_lt (b := b) (w := w) fun x hx => h x (List.mem_cons_of_mem _ hx)
    unfold wm
    rw [List.length_cons, Nat.pow_succ]
    omega
theorem bd_wpa {w : List Nat} {s : Nat} (hw : Wd w) (hs : s < 2) : Bd w.length (wpa w s) :=
  ⟨wm_lt fun k hk => Nat.mod_lt _ (by decide), wm_lt fun k hk => by have := hw k hk; unfold bz; omega, hs⟩
theorem wrd_wpa : ∀ {w : List Nat} {s : Nat}, Wd w → wrd w.length (wpa w s) = w
  | [], _, _ => rfl
  | k :: w, s, h => by
    have hk := h k List.mem_cons_self
    have ih := wrd_wpa (w := w) (s := s) fun x hx => h x (List.mem_cons_of_mem _ hx)
    rw [List.length_cons, wrd_succ]
    have e1 : (wpa (k :: w) s).x = k % 2 + 2 * wm bx w := rfl
    have e2 : (wpa (k :: w) s).z = k / 2 + 2 * wm bz w := rfl
    have e3 : (wpa (k :: w) s).s = s := rfl
    rw [e1, e2, e3]
    have d1 : (k % 2 + 2 * wm bx w) / 2 = wm bx w := by omega
    have d2 : (k / 2 + 2 * wm bz w) / 2 = wm bz w := by omega
    rw [d1, d2]
    have ih : wrd w.length ⟨wm bx w, wm bz w, s⟩ = w := ih
    rw [ih]
    congr 1
    omega
theorem txp_wpa {w : List Nat} {s : Nat} (hw : Wd w) : txp w.length (wpa w s) = tstr s w := by
  unfold txp
  rw [wrd_wpa hw]
  rfl
theorem txp_len (n : Nat) (p : Pa) : (txp n p).length = n + 1 := by
  unfold txp
  rw [tstr_len, wrd_len]
theorem tpo_txp {n : Nat} {p : Pa} (h : Bd n p) (hn : 1 ≤ n) : tpo n (txp n p) = some p := by
  unfold tpo
  rw [if_pos (txp_len n p)]
  unfold txp
  rw [po_tstr h.s (wrd_wd n p) (fun e => by have := wrd_len n p; rw [e] at this; simp at this; omega), wpa_wrd h]
theorem tpo_some {n : Nat} {a : Str} {p : Pa} (h : tpo n a = some p) : a = txp n p ∧ Bd n p := by
  unfold tpo at h
  split at h
  · rename_i hl
    obtain ⟨s, w, rfl, rfl, hs, hw, _⟩ := po_some h
    have e : w.length = n := by rw [tstr_len] at hl; omega
    subst e
    exact ⟨(txp_wpa hw).symm, bd_wpa hw hs⟩
  · cases h
theorem tpos_txp {n : Nat} (hn : 1 ≤ n) : ∀ {ps : List Pa}, (∀ p ∈ ps, Bd n p) → tpos n (ps.map (txp n)) = some ps
  | [], _ => rfl
  | p :: ps, h => by
    rw [List.map_cons]
    unfold tpos
    rw [tpo_txp (h p List.mem_cons_self) hn, tpos_txp hn fun x hx => h x (List.mem_cons_of_mem _ hx)]
theorem tpos_some {n : Nat} : ∀ {l : List Str} {ps : List Pa}, tpos n l = some ps → l = ps.map (txp n) ∧ ∀ p ∈ ps, Bd n p
  | [], ps, h => by
    unfold tpos at h
    cases h
    exact ⟨rfl, fun p hp => by cases hp⟩
  | a :: l, ps, h => by
    unfold tpos at h
    split at h
    · rename_i p qs h1 h2
      cases h
      obtain ⟨e1, b1⟩ := tpo_some h1
      obtain ⟨e2, b2⟩ := tpos_some h2
      refine ⟨by rw [List.map_cons, ← e1, ← e2], fun q hq => ?_⟩
      rcases List.mem_cons.mp hq with rfl | hq
      · exact b1
      · exact b2 q hq
    · cases h
/-! ### signs that are not there -/
theorem txp_free {n : Nat} {p : Pa} {c : Nat} (h : c ≠ 43 ∧ c ≠ 45 ∧ isL c = false) : c ∉ TL.tl (txp n p) := fun hm => by
  unfold txp at hm
  rw [tl_tstr] at hm
  rcases List.mem_cons.mp hm with e | e
  · split at e <;> omega
  · obtain ⟨k, hk, rfl⟩ := List.mem_map.mp e
    rw [isL_ch (wrd_wd n p k hk)] at h
    exact absurd h.2.2 (by decide)
theorem tl_num (n : Nat) : TL.tl (num n) = TL.numL n := TL.tl_num n
theorem num_free {n c : Nat} (h : c < 48) : c ∉ TL.tl (num n) := by
  rw [tl_num]
  exact TL.numL_free (.inl h)
theorem app_free {a b : Str} {c : Nat} (h1 : c ∉ TL.tl a) (h2 : c ∉ TL.tl b) : c ∉ TL.tl (a ++ b) := by
  rw [TL.tl_append]
  exact fun h => (List.mem_append.mp h).elim h1 h2
theorem nl_one : TL.tl nlS = [10] := by decide +kernel
theorem sp_one : TL.tl spS = [32] := by decide +kernel
theorem lit_free : (10 ∉ TL.tl cdS ∧ 10 ∉ TL.tl xS ∧ 10 ∉ TL.tl zS ∧ 32 ∉ TL.tl codeS) := by decide +kernel
theorem rowsT_free {n : Nat} {ps : List Pa} {X Z : Pa} : ∀ r ∈ rowsT n ps X Z ++ [Str.empty], 10 ∉ TL.tl r := fun r hr => by
  unfold rowsT at hr
  rcases List.mem_append.mp hr with hr | hr
  · rcases List.mem_cons.mp hr with rfl | hr
    · exact app_free lit_free.1 (num_free (by decide))
    · rcases List.mem_append.mp hr with hr | hr
      · obtain ⟨p, _, rfl⟩ := List.mem_map.mp hr
        exact txp_free (by decide)
      · rcases List.mem_cons.mp hr with rfl | hr
        · exact app_free lit_free.2.1 (txp_free (by decide))
        · rw [List.mem_singleton.mp hr]
          exact app_free lit_free.2.2.1 (txp_free (by decide))
  · rw [List.mem_singleton.mp hr]
    decide +kernel
theorem split_ctx {n : Nat} {ps : List Pa} {X Z : Pa} : Txt.split (ctx n ps X Z) nlS = rowsT n ps X Z ++ [Str.empty] :=
  TL.split_join (S := []) nl_one (by decide +kernel) (by simp) rowsT_free
theorem first_ctx (n : Nat) : Txt.split (cdS ++ num n) spS = [codeS, num n] := by
  have e : cdS ++ num n = Txt.join spS [codeS, num n] := by
    rw [TL.join_eq]
    show _ = codeS ++ spS ++ num n
    have : cdS = codeS ++ spS := by decide +kernel
    rw [this]
  rw [e]
  refine TL.split_join (S := []) sp_one (by decide +kernel) (by simp) fun p hp => ?_
  rcases List.mem_cons.mp hp with rfl | hp
  · exact lit_free.2.2.2
  · rw [List.mem_singleton.mp hp]
    exact num_free (by decide)
theorem numOf_num {n : Nat} (h1 : 1 ≤ n) (h2 : n ≤ 13) : numOf (num n) = some n := by
  have : ∀ k : Fin 13, numOf (num (k.1 + 1)) = some (k.1 + 1) := by decide +kernel
  have e := this ⟨n - 1, by omega⟩
  have e1 : n - 1 + 1 = n := by omega
  dsimp only at e
  rwa [e1] at e
theorem numOf_some {b : Str} {n : Nat} (h : numOf b = some n) : b = num n ∧ 1 ≤ n ∧ n ≤ 13 := by
  unfold numOf at h
  cases e : (List.range 13).find? fun k => num (k + 1) == b with
  | none => rw [e] at h; cases h
  | some k =>
    rw [e] at h
    cases h
    have h1 := List.find?_some e
    have h2 := List.mem_range.mp (List.mem_of_find?_eq_some e)
    exact ⟨(eq_of_beq h1).symm, Nat.succ_le_succ (Nat.zero_le _), h2⟩
end K07

set_option Elab.async false
set_option linter.all false
set_option maxRecDepth 100000
set_option maxHeartbeats 400000
/-! M2_k07: read_code and code_text lead to each other -/
namespace K07
open PySem PySem.Spec PyProof.Rows L2 VL VL.P VL.C
theorem two_app {a b : Str} (h : a.length = 2) : two (a ++ b) = a ∧ rest (a ++ b) = b := by
  have hl : (TL.tl a).length = 2 := by rw [← TL.len_tl]; exact h
  have hl2 : (a ++ b).length = 2 + b.length := by rw [TL.len_tl, TL.tl_append, List.length_append, hl, ← TL.len_tl]
  have i0 : HT.sIx (a ++ b).length 0 none = 0 := rfl
  have i2 : HT.sIx (a ++ b).length (a ++ b).length (some 2) = 2 := by
    unfold HT.sIx
    rw [hl2]
    simp
  have i3 : HT.sIx (a ++ b).length 0 (some 2) = 2 := by
    unfold HT.sIx
    rw [hl2]
    simp
  have i4 : HT.sIx (a ++ b).length (a ++ b).length none = (a ++ b).length := rfl
  constructor
  · apply TL.ext_tl
    unfold two cutS
    rw [i0, i2, TL.tl_mk, List.drop_zero]
    show ((TL.tl (a ++ b)).take 2) = _
    rw [TL.tl_append, ← hl, List.take_left]
  · apply TL.ext_tl
    unfold rest cutS
    rw [i3, i4, TL.tl_mk]
    show (((TL.tl (a ++ b)).drop 2).take _) = _
    rw [TL.tl_append, ← hl, List.drop_left, hl2, hl]
    exact List.take_of_length_le (by rw [← TL.len_tl]; omega)
theorem two_rest {a : Str} (h : (two a).length = 2) : a = two a ++ rest a := by
  have h2 : 2 ≤ a.length := by
    unfold two cutS at h
    rw [TL.len_tl, TL.tl_mk, List.length_take, List.length_drop, ← TL.len_tl] at h
    have i0 : HT.sIx a.length 0 none = 0 := rfl
    rw [i0] at h
    omega
  have i0 : HT.sIx a.length 0 none = 0 := rfl
  have i2 : HT.sIx a.length a.length (some 2) = 2 := by
    unfold HT.sIx
    simp
    omega
  have i3 : HT.sIx a.length 0 (some 2) = 2 := by
    unfold HT.sIx
    simp
    omega
  have i4 : HT.sIx a.length a.length none = a.length := rfl
  apply TL.ext_tl
  rw [TL.tl_append]
  unfold two rest cutS
  rw [i0, i2, i3, i4, TL.tl_mk, TL.tl_mk, List.drop_zero]
  show TL.tl a = (TL.tl a).take 2 ++ ((TL.tl a).drop 2).take _
  rw [List.take_of_length_le (l := (TL.tl a).drop 2) (by rw [List.length_drop, ← TL.len_tl]; omega), List.take_append_drop]
theorem x_len : xS.length = 2 ∧ zS.length = 2 := by decide +kernel
theorem rows_len (n : Nat) (ps : List Pa) (X Z : Pa) : (rowsT n ps X Z ++ [Str.empty]).length = ps.length + 4 := by
  unfold rowsT
  simp
theorem rows_get {n : Nat} {ps : List Pa} {X Z : Pa} (hl : ps.length + 1 = n) : (rowsT n ps X Z ++ [Str.empty]).getD n Str.empty = xS ++ txp n X ∧ (rowsT n ps X Z ++ [Str.empty]).getD (n + 1) Str.empty = zS ++ txp n Z ∧
    (rowsT n ps X Z ++ [Str.empty]).getD (n + 2) Str.empty = Str.empty ∧ ((rowsT n ps X Z ++ [Str.empty]).drop 1).take (n - 1) = ps.map (txp n) := by
  have e : rowsT n ps X Z ++ [Str.empty] = (cdS ++ num n) :: (ps.map (txp n) ++ [xS ++ txp n X, zS ++ txp n Z, Str.empty]) := by
    unfold rowsT
    simp
  have hm : (ps.map (txp n)).length + 1 = n := by rw [List.length_map]; exact hl
  rw [e]
  generalize ps.map (txp n) = l at hm
  generalize (cdS ++ num n) = c
  subst hm
  refine ⟨?_, ?_, ?_, ?_⟩
  · rw [List.getD_cons_succ, List.getD_eq_getElem?_getD, List.getElem?_append_right (Nat.le_refl _), Nat.sub_self]
    rfl
  · rw [List.getD_cons_succ, List.getD_eq_getElem?_getD, List.getElem?_append_right (by omega)]
    have : l.length + 1 - l.length = 1 := by omega
    rw [this]
    rfl
  · rw [show l.length + 1 + 2 = l.length + 2 + 1 from rfl, List.getD_cons_succ, List.getD_eq_getElem?_getD, List.getElem?_append_right (by omega)]
    have : l.length + 2 - l.length = 2 := by omega
    rw [this]
    rfl
  · show ((l ++ _).take (l.length + 1 - 1)) = l
    rw [Nat.add_sub_cancel, List.take_left]
/-- a code's text is read as that code -/
theorem prs_ctx {n : Nat} {ps : List Pa} {X Z : Pa} (h : IsC n ps X Z) : prs (ctx n ps X Z) = some (n, ps, X, Z) := by
  obtain ⟨h1, h13, hl, hp, hX, hZ, _⟩ := h
  unfold prs
  rw [split_ctx]
  unfold prsR
  have hd : (rowsT n ps X Z ++ [Str.empty]).headD Str.empty = cdS ++ num n := rfl
  rw [hd, first_ctx]
  dsimp only
  rw [if_pos rfl, numOf_num h1 h13]
  dsimp only
  unfold prsN
  obtain ⟨g1, g2, g3, g4⟩ := rows_get (X := X) (Z := Z) hl
  rw [g1, g2, g3, g4, (two_app x_len.1).1, (two_app x_len.1).2, (two_app x_len.2).1, (two_app x_len.2).2, if_pos ⟨by rw [rows_len]; omega, rfl, rfl, rfl⟩, tpos_txp h1 hp, tpo_txp hX h1, tpo_txp hZ h1]
/-- and what is read is the text of that code -/
theorem prs_some {x : Str} {n : Nat} {ps : List Pa} {X Z : Pa} (h : prs x = some (n, ps, X, Z)) : x = ctx n ps X Z ∧ 1 ≤ n ∧ n ≤ 13 ∧ ps.length + 1 = n ∧ (∀ p ∈ ps, Bd n p) ∧ Bd n X ∧ Bd n Z := by
  unfold prs at h
  have js := StrLaws.join_split x nlS
  generalize Txt.split x nlS = rows at h js
  unfold prsR at h
  split at h
  · rename_i a b e
    have jf := StrLaws.join_split (rows.headD Str.empty) spS
    rw [e] at jf
    split at h
    · rename_i ea
      subst ea
      split at h
      · rename_i m hm
        obtain ⟨rfl, m1, m13⟩ := numOf_some hm
        unfold prsN at h
        split at h
        · rename_i q
          obtain ⟨q1, q2, q3, q4⟩ := q
          split at h
          · rename_i gs X' Z' t1 t2 t3
            cases h
            obtain ⟨e1, b1⟩ := tpos_some t1
            obtain ⟨e2, b2⟩ := tpo_some t2
            obtain ⟨e3, b3⟩ := tpo_some t3
            have r2 := two_rest (a := rows.getD n Str.empty) (by rw [q2]; exact x_len.1)
            have r3 := two_rest (a := rows.getD (n + 1) Str.empty) (by rw [q3]; exact x_len.2)
            rw [q2, e2] at r2
            rw [q3, e3] at r3
            have lp : ps.length + 1 = n := by
              have := congrArg List.length e1
              rw [List.length_map, List.length_take, List.length_drop] at this
              omega
            have hd : rows.headD Str.empty = cdS ++ num n := by
              rw [← jf]
              show codeS ++ spS ++ num n = cdS ++ num n
              have : cdS = codeS ++ spS := by decide +kernel
              rw [this]
            have er : rows = rowsT n ps X Z ++ [Str.empty] := by
              obtain ⟨g1, g2, g3, g4⟩ := rows_get (X := X) (Z := Z) lp
              have len2 := rows_len n ps X Z
              refine List.ext_getElem (by omega) fun i i1 i2 => ?_
              have gD : ∀ (l : List Str) (i : Nat) (h : i < l.length), l[i] = l.getD i Str.empty := fun l i h => by rw [List.getD_eq_getElem?_getD, List.getElem?_eq_getElem h]; rfl
              rw [gD, gD]
              by_cases i0 : i = 0
              · subst i0
                cases rows with
                | nil => exact absurd i1 (by simp)
                | cons r rs => exact hd
              · by_cases ix : i = n
                · subst ix
                  rw [g1, r2]
                · by_cases iz : i = n + 1
                  · subst iz
                    rw [g2, r3]
                  · by_cases ie : i = n + 2
                    · subst ie
                      rw [g3, q4]
                    · have lt : i < n := by omega
                      have e5 : ∀ (l : List Str), l.getD i Str.empty = ((l.drop 1).take (n - 1)).getD (i - 1) Str.empty := fun l => by
                        rw [List.getD_eq_getElem?_getD, List.getD_eq_getElem?_getD, List.getElem?_take_of_lt (by omega), List.getElem?_drop]
                        have : 1 + (i - 1) = i := by omega
                        rw [this]
                      rw [e5 rows, e5 (rowsT n ps X Z ++ [Str.empty]), g4, e1]
            refine ⟨?_, m1, m13, lp, b1, b2, b3⟩
            rw [← js, er]
            exact (TL.join_eq _ _).symm
          · cases h
        · cases h
      · cases h
    · cases h
  · cases h
theorem asC_ctx {n : Nat} {ps : List Pa} {X Z : Pa} (h : IsC n ps X Z) : asC (.str (ctx n ps X Z)) = some (n, ps, X, Z) := by
  unfold asC
  dsimp only
  rw [prs_ctx h]
  dsimp only
  rw [if_pos h.2.2.2.2.2.2]
theorem asC_some {x : Str} {n : Nat} {ps : List Pa} {X Z : Pa} (h : asC (.str x) = some (n, ps, X, Z)) : x = ctx n ps X Z ∧ IsC n ps X Z := by
  unfold asC at h
  dsimp only at h
  split at h
  · rename_i n' ps' X' Z' e
    split at h
    · rename_i q
      cases h
      obtain ⟨e1, e2, e3, e4, e5, e6, e7⟩ := prs_some e
      exact ⟨e1, e2, e3, e4, e5, e6, e7, q⟩
    · cases h
  · cases h
/-! ### the same text, otherwise joined -/
theorem joinL_nl : ∀ {l : List (List Nat)}, l ≠ [] → TL.joinL [10] (l ++ [[]]) = TL.joinL [] (l.map (· ++ [10])) ∧ TL.joinL [10] (l ++ [[]]) = TL.joinL [10] l ++ [10]
  | [], h => absurd rfl h
  | [a], _ => ⟨by simp [TL.joinL], by simp [TL.joinL]⟩
  | a :: b :: r, _ => by
    obtain ⟨i1, i2⟩ := joinL_nl (l := b :: r) (by simp)
    constructor
    · show a ++ ([10] ++ TL.joinL [10] ((b :: r) ++ [[]])) = (a ++ [10]) ++ ([] ++ TL.joinL [] ((b :: r).map (· ++ [10])))
      rw [i1]
      simp
    · show a ++ ([10] ++ TL.joinL [10] ((b :: r) ++ [[]])) = (a ++ ([10] ++ TL.joinL [10] (b :: r))) ++ [10]
      rw [i2]
      simp
theorem ctx_joins (n : Nat) (ps : List Pa) (X Z : Pa) : Txt.join Str.empty ((rowsT n ps X Z).map (· ++ nlS)) = ctx n ps X Z ∧ Txt.join nlS (rowsT n ps X Z) ++ nlS = ctx n ps X Z := by
  have ne : (rowsT n ps X Z).map TL.tl ≠ [] := by unfold rowsT; simp
  obtain ⟨j1, j2⟩ := joinL_nl ne
  unfold ctx
  constructor
  · apply TL.ext_tl
    rw [TL.join_eq, TL.join_eq, TL.tl_join, TL.tl_join, nl_one, List.map_append, List.map_map]
    have e : (rowsT n ps X Z).map (TL.tl ∘ fun x => x ++ nlS) = ((rowsT n ps X Z).map TL.tl).map (· ++ [10]) := by
      rw [List.map_map]
      refine List.map_congr_left fun a _ => ?_
      show TL.tl (a ++ nlS) = TL.tl a ++ [10]
      rw [TL.tl_append, nl_one]
    rw [e]
    exact j1.symm
  · apply TL.ext_tl
    rw [TL.join_eq, TL.join_eq, TL.tl_append, TL.tl_join, TL.tl_join, nl_one, List.map_append]
    exact j2.symm
end K07

set_option Elab.async false
set_option linter.all false
set_option maxRecDepth 100000
set_option maxHeartbeats 400000
/-! P_k07: words and texts walked -/
namespace K07
open PySem PySem.Spec PyProof.Rows L2 VL VL.P VL.C
theorem pk_is_integer : Pk 1 0 sp_is_integer w_is_integer := VL.C.pk_is_integer
theorem pk_is_pauli : Pk 2 1 sp_is_pauli w_is_pauli := VL.C.pk_is_pauli
theorem pk_ones : Pk 1 1 sp_ones w_ones := VL.P.pk_ones
theorem pk_weight : Pk 1 0 sp_weight w_weight := VL.P.pk_weight
theorem pk_letter : Pk 2 0 sp_letter w_letter := VL.P.pk_letter
theorem pk_commutes : Pk 2 0 sp_commutes w_commutes := VL.P.pk_commutes
theorem pk_product : Pk 2 3 sp_product w_product := VL.P.pk_product
theorem pk_single : Pk 2 1 sp_single w_single := VL.P.pk_single
theorem pk_rank : Pk 1 0 sp_rank w_rank := VL.P.pk_rank
theorem pk_reduced : Pk 3 2 sp_reduced w_reduced := VL.C.pk_reduced
theorem pk_independent : Pk 2 3 sp_independent w_independent := VL.C.pk_independent
theorem pk_Code___init__ : PkX 5 4 sp_Code___init__ w_Code___init__ := VL.C.pk_Code___init__
theorem pk__law_next : Pk 2 2 sp__law_next w__law_next := pk_nextS
theorem pk__law_codes : Pk 0 0 sp__law_codes w__law_codes := VL.C.pk__law_codes
theorem pk__law_masks : Pk 1 3 sp__law_masks w__law_masks := VL.C.pk__law_masks
theorem pk__law_ones : Pk 1 1 sp__law_ones w__law_ones := VL.C.pk__law_ones
theorem pk__law_times : Pk 2 3 sp__law_times w__law_times := VL.C.pk__law_times
theorem pk__law_changed : Pk 2 11 sp__law_changed w__law_changed := VL.C.pk__law_changed
theorem pk__law_gate : Pk 4 7 sp__law_gate w__law_gate := VL.C.pk__law_gate
/-! ### letters joined -/
theorem joinL_ones : ∀ l : List Nat, TL.joinL [] (l.map fun c => [c]) = l
  | [] => rfl
  | [c] => rfl
  | c :: d :: r => by
    show [c] ++ ([] ++ TL.joinL [] ((d :: r).map fun c => [c])) = _
    rw [joinL_ones (d :: r)]
    rfl
theorem join_ones (l : List Nat) : Txt.join Str.empty (l.map fun c => (⟨#[c]⟩ : Str)) = ⟨l.toArray⟩ := by
  apply TL.ext_tl
  rw [TL.join_eq, TL.tl_join, List.map_map]
  exact joinL_ones l
theorem ones_sum : ∀ l : List Nat, ((l.map fun c => (⟨#[c]⟩ : Str)).map (·.length)).sum = l.length
  | [] => rfl
  | c :: r => by
    rw [List.map_cons, List.map_cons, List.sum_cons, ones_sum r, List.length_cons]
    show 1 + _ = _
    omega
theorem mjoin {l : List Nat} {R : D → Prop} (h : l.length ≤ 1000) (hR : R (.str ⟨l.toArray⟩)) : mJoin (Str.ofString "") (.lst (l.map fun c => D.str ⟨#[c]⟩)) R := by
  refine ⟨l.map fun c => ⟨#[c]⟩, by rw [List.map_map]; rfl, ?_, ?_⟩
  · rw [ones_sum]
    show l.length + _ * 0 ≤ _
    omega
  · have e : Txt.join (Str.ofString "") (l.map fun c => (⟨#[c]⟩ : Str)) = ⟨l.toArray⟩ := join_ones l
    rw [e]
    exact hR
theorem lch_ch (x z : Nat) : lch x z = ch (x % 2 + 2 * (z % 2)) := by
  unfold ch lch
  have h1 := Nat.mod_lt x (show 0 < 2 by decide)
  have h2 := Nat.mod_lt z (show 0 < 2 by decide)
  rcases m2 _ h1 with e | e <;> rcases m2 _ h2 with e' | e' <;> rw [e, e'] <;> rfl
theorem lch_wrd (n : Nat) (p : Pa) : (List.range n).map (fun k => lch (p.x / 2 ^ k) (p.z / 2 ^ k)) = (wrd n p).map ch := by
  unfold wrd
  rw [List.map_map]
  refine List.map_congr_left fun k _ => ?_
  exact lch_ch _ _
theorem at_pm {s : Nat} (h : s < 2) : atI (Str.ofString "+-").cps.toList ((s : Nat) : Int) = some (if s = 1 then 45 else 43) := by
  rcases m2 s h with rfl | rfl <;> decide +kernel
theorem cat_txp {n : Nat} {p : Pa} {l : List Nat} (e : l = (wrd n p).map ch) : (⟨#[if p.s = 1 then 45 else 43]⟩ : Str) ++ (⟨l.toArray⟩ : Str) = txp n p := by
  apply TL.ext_tl
  rw [TL.tl_append]
  subst e
  rfl
theorem pk_text_of : Pk 2 1 sp_text_of w_text_of := by
  rintro ds h R _ ⟨p, n, rfl, hn, hs, hR⟩
  refine ⟨_, rfl, by decide, _, at_pm hs, ⟨by omega, by omega⟩, rfl, by rw [List.length_map, List.length_range, Int.toNat_natCast]; omega, ?_⟩
  refine lcL_inv' (f := fun k : Nat => D.int (k : Nat)) (e := fun k : Nat => D.str ⟨#[lch (p.x / 2 ^ k) (p.z / 2 ^ k)]⟩) (fun k hk C hC => ?_) ?_
  · exact brT rfl ⟨p, k, rfl, rfl, hC⟩
  · rw [List.nil_append, Int.toNat_natCast]
    have e : (List.range n).map (fun k => D.str ⟨#[lch (p.x / 2 ^ k) (p.z / 2 ^ k)]⟩) = ((List.range n).map fun k => lch (p.x / 2 ^ k) (p.z / 2 ^ k)).map fun c => D.str ⟨#[c]⟩ := by rw [List.map_map]; rfl
    rw [e]
    refine mjoin (by rw [List.length_map, List.length_range]; omega) ⟨?_, ?_⟩
    · show 1 + _ ≤ sizeLine
      refine lenLine ?_
      show 1 + (((List.range n).map fun k => lch (p.x / 2 ^ k) (p.z / 2 ^ k)).toArray).size ≤ _
      rw [List.size_toArray, List.length_map, List.length_range]
      omega
    · rw [cat_txp (lch_wrd n p)]
      exact hR
end K07

set_option Elab.async false
set_option linter.all false
set_option maxRecDepth 100000
set_option maxHeartbeats 400000
/-! P2_k07: pauli_of walked -/
namespace K07
open PySem PySem.Spec PyProof.Rows L2 VL VL.P VL.C
theorem pk__law_word : Pk 2 2 sp__law_word w__law_word := by
  rintro ds h R _ ⟨p, n, rfl, hn, hs, hR⟩
  refine ⟨⟨by omega, by omega⟩, rfl, by rw [List.length_map, List.length_range, Int.toNat_natCast]; omega, ?_⟩
  refine lcL_inv' (f := fun k : Nat => D.int (k : Nat)) (e := fun k : Nat => D.str ⟨#[lch (p.x / 2 ^ k) (p.z / 2 ^ k)]⟩) (fun k hk C hC => ?_) ?_
  · refine brT rfl ?_
    have h1 := Nat.mod_lt (p.x / 2 ^ k) (show 0 < 2 by decide)
    have h2 := Nat.mod_lt (p.z / 2 ^ k) (show 0 < 2 by decide)
    unfold lch at hC
    refine ⟨_, rfl, Int.natCast_nonneg k, _, rfl, Int.natCast_nonneg k, ?_, line4, ?_⟩
    · show CMulX 2 (Builtin.bitAnd ((p.z : Int) / 2 ^ (k : Int).toNat) 1)
      rw [shr_nn, and1_nn]
      exact cmul2 _ h2
    · show ∃ c, atI [73, 88, 90, 89] (Builtin.bitAnd ((p.x : Int) / 2 ^ (k : Int).toNat) 1 + 2 * Builtin.bitAnd ((p.z : Int) / 2 ^ (k : Int).toNat) 1) = some c ∧ _ = _ ∧ C (some (.str ⟨#[c]⟩)) h
      rw [shr_nn, and1_nn, shr_nn, and1_nn]
      rcases m2 _ h1 with e | e <;> rcases m2 _ h2 with e' | e' <;> (rw [e, e'] at hC ⊢; exact ⟨_, rfl, rfl, hC⟩)
  · rw [List.nil_append, Int.toNat_natCast]
    have e : (List.range n).map (fun k => D.str ⟨#[lch (p.x / 2 ^ k) (p.z / 2 ^ k)]⟩) = ((List.range n).map fun k => lch (p.x / 2 ^ k) (p.z / 2 ^ k)).map fun c => D.str ⟨#[c]⟩ := by rw [List.map_map]; rfl
    rw [e]
    change w__law_word_1 (Fi R) ⟨[.f p.e, .f (.int n), .f (.lst (((List.range n).map fun k => lch (p.x / 2 ^ k) (p.z / 2 ^ k)).map fun c => D.str ⟨#[c]⟩)), .u], h⟩
    refine ⟨_, rfl, by decide, _, at_pm hs, ?_⟩
    refine mjoin (l := (List.range n).map fun k => lch (p.x / 2 ^ k) (p.z / 2 ^ k)) (R := fun z => opAdd (.str ⟨#[if p.s = 1 then 45 else 43]⟩) z fun z => R z h) (by rw [List.length_map, List.length_range]; omega) ⟨?_, ?_⟩
    · show 1 + _ ≤ sizeLine
      refine lenLine ?_
      show 1 + (((List.range n).map fun k => lch (p.x / 2 ^ k) (p.z / 2 ^ k)).toArray).size ≤ _
      rw [List.size_toArray, List.length_map, List.length_range]
      omega
    · rw [cat_txp (lch_wrd n p)]
      exact hR
/-! ### one letter more -/
theorem and_hi : ∀ (q : Nat) {x z i j : Nat}, x < 2 ^ q → z < 2 ^ q → (x + i * 2 ^ q) &&& (z + j * 2 ^ q) = (x &&& z) + (i &&& j) * 2 ^ q
  | 0, x, z, i, j, hx, hz => by
    have e1 : x = 0 := by have : x < 1 := hx; omega
    have e2 : z = 0 := by have : z < 1 := hz; omega
    subst e1 e2
    simp
  | q + 1, x, z, i, j, hx, hz => by
    rw [Nat.pow_succ] at hx hz ⊢
    have ih := and_hi q (x := x / 2) (z := z / 2) (i := i) (j := j) (by omega) (by omega)
    have e1 : x + i * (2 ^ q * 2) = 2 * (x / 2 + i * 2 ^ q) + x % 2 := by rw [← Nat.mul_assoc]; omega
    have e2 : z + j * (2 ^ q * 2) = 2 * (z / 2 + j * 2 ^ q) + z % 2 := by rw [← Nat.mul_assoc]; omega
    have i1 : x % 2 < 2 := Nat.mod_lt _ (by decide)
    have i2 : z % 2 < 2 := Nat.mod_lt _ (by decide)
    rw [e1, e2, and2 _ _ _ _ i1 i2, ih]
    have e3 := and2 (x / 2) (z / 2) (x % 2) (z % 2) i1 i2
    have e4 : 2 * (x / 2) + x % 2 = x := by omega
    have e5 : 2 * (z / 2) + z % 2 = z := by omega
    rw [e4, e5] at e3
    rw [e3, ← Nat.mul_assoc]
    omega
theorem xor_hi {q x i : Nat} (h : x < 2 ^ q) : x ^^^ (i * 2 ^ q) = x + i * 2 ^ q := by
  have e := and_hi q (x := x) (z := 0) (i := 0) (j := i) h (Nat.two_pow_pos q)
  rw [Nat.zero_mul, Nat.add_zero, Nat.zero_add, Nat.and_zero, Nat.zero_and, Nat.zero_mul] at e
  have a := Bits.nat_xor_add_and x (i * 2 ^ q)
  rw [e] at a
  omega
theorem pc_hi : ∀ (q : Nat) {x i : Nat}, x < 2 ^ q → pc (x + i * 2 ^ q) = pc x + pc i
  | 0, x, i, hx => by
    have e1 : x = 0 := by have : x < 1 := hx; omega
    subst e1
    simp [show pc 0 = 0 from by decide]
  | q + 1, x, i, hx => by
    rw [Nat.pow_succ] at hx ⊢
    have ih := pc_hi q (x := x / 2) (i := i) (by omega)
    rw [pc_step, pc_step x]
    have e1 : (x + i * (2 ^ q * 2)) % 2 = x % 2 := by rw [← Nat.mul_assoc]; omega
    have e2 : (x + i * (2 ^ q * 2)) / 2 = x / 2 + i * 2 ^ q := by rw [← Nat.mul_assoc]; omega
    rw [e1, e2, ih]
    omega
theorem prd_hi {p : Pa} {q k : Nat} (hx : p.x < 2 ^ q) (hz : p.z < 2 ^ q) (hs : p.s < 2) (hk : k < 4) : prd p (sng k q) = ⟨p.x + bx k * 2 ^ q, p.z + bz k * 2 ^ q, p.s⟩ := by
  have z1 : p.z &&& (sng k q).x = 0 := by
    show p.z &&& (k % 2 * 2 ^ q) = 0
    have e := and_hi q (x := p.z) (z := 0) (i := 0) (j := k % 2) hz (Nat.two_pow_pos q)
    rw [Nat.zero_mul, Nat.add_zero, Nat.zero_add, Nat.and_zero, Nat.zero_and, Nat.zero_mul] at e
    exact e
  have x1 : p.x ^^^ (sng k q).x = p.x + bx k * 2 ^ q := xor_hi hx
  have x2 : p.z ^^^ (sng k q).z = p.z + bz k * 2 ^ q := xor_hi hz
  have a1 : pc ((sng k q).x &&& (sng k q).z) = pc (bx k &&& bz k) := by
    have e := and_hi q (x := 0) (z := 0) (i := bx k) (j := bz k) (Nat.two_pow_pos q) (Nat.two_pow_pos q)
    rw [Nat.zero_add, Nat.zero_add, Nat.zero_and, Nat.zero_add] at e
    show pc (bx k * 2 ^ q &&& bz k * 2 ^ q) = _
    rw [e]
    have := pc_hi q (x := 0) (i := bx k &&& bz k) (Nat.two_pow_pos q)
    rw [Nat.zero_add] at this
    rw [this, show pc 0 = 0 from by decide, Nat.zero_add]
  have a2 : pc ((p.x + bx k * 2 ^ q) &&& (p.z + bz k * 2 ^ q)) = pc (p.x &&& p.z) + pc (bx k &&& bz k) := by
    rw [and_hi q hx hz, pc_hi q (Nat.lt_of_le_of_lt Nat.and_le_left hx)]
  have t : trn p (sng k q) = 2 * (p.s : Int) := by
    unfold trn
    rw [x1, x2, a1, a2, z1, show pc 0 = 0 from by decide]
    have : (sng k q).s = 0 := rfl
    rw [this]
    omega
  unfold prd
  rw [t, x1, x2]
  congr 1
  omega
theorem wm_app {b : Nat → Nat} : ∀ (w : List Nat) (k : Nat), wm b (w ++ [k]) = wm b w + b k * 2 ^ w.length
  | [], k => by
    show wm b [k] = _
    unfold wm
    unfold wm
    show b k + 2 * 0 = 0 + b k * 1
    omega
  | a :: w, k => by
    show wm b (a :: (w ++ [k])) = wm b (a :: w) + b k * 2 ^ (w.length + 1)
    unfold wm
    rw [wm_app w k, Nat.pow_succ, ← Nat.mul_assoc]
    omega
theorem wpa_app {w : List Nat} {s k : Nat} (hw : Wd w) (hs : s < 2) (hk : k < 4) : prd (wpa w s) (sng k w.length) = wpa (w ++ [k]) s := by
  have b := bd_wpa hw hs
  rw [prd_hi b.x b.z b.s hk]
  unfold wpa
  rw [wm_app, wm_app]
theorem wpa_app0 (w : List Nat) (s : Nat) : wpa (w ++ [0]) s = wpa w s := by
  unfold wpa
  rw [wm_app, wm_app]
  have e1 : bx 0 = 0 := rfl
  have e2 : bz 0 = 0 := rfl
  rw [e1, e2]
  simp
end K07

set_option Elab.async false
set_option linter.all false
set_option maxRecDepth 100000
set_option maxHeartbeats 400000
/-! P3_k07: pauli_of, text_pauli, code_text walked -/
namespace K07
open PySem PySem.Spec PyProof.Rows L2 VL VL.P VL.C
theorem in_names (c : Nat) : (!(Builtin.Str.occurrences (Str.ofString "IXZY") ⟨#[c]⟩ 0 (Str.ofString "IXZY").length 1).isEmpty) = isL c := by
  rw [StrLaws.found_one]
  have e : (Str.ofString "IXZY").cps.toList = [73, 88, 90, 89] := by decide +kernel
  rw [e]
  rfl
theorem in_pm (c : Nat) : (!(Builtin.Str.occurrences (Str.ofString "+-") ⟨#[c]⟩ 0 (Str.ofString "+-").length 1).isEmpty) = decide (c = 43 ∨ c = 45) := by
  rw [StrLaws.found_one]
  have e : (Str.ofString "+-").cps.toList = [43, 45] := by decide +kernel
  rw [e]
  simp
theorem eq_I (c : Nat) : ((⟨#[c]⟩ : Str) == Str.ofString "I") = decide (c = 73) := by
  have e : Str.ofString "I" = ⟨#[73]⟩ := by decide +kernel
  rw [e, Bool.eq_iff_iff, beq_iff_eq, decide_eq_true_eq]
  constructor
  · intro h
    have := congrArg TL.tl h
    simpa using this
  · rintro rfl
    rfl
section
variable {R : D → Oh → Prop} {Y : XC} {h : Oh} {a : Str} {c s : Nat} {l : List Nat}
theorem at_tl (ha : TL.tl a = c :: l) {n : Nat} {d : Nat} (hd : l[n]? = some d) : atI a.cps.toList ((n : Int) + 1) = some d := by
  have e : ((n : Int) + 1) = ((n + 1 : Nat) : Int) := by omega
  rw [e]
  refine VL.C.atI_nat ?_
  show (TL.tl a)[n + 1]? = _
  rw [ha]
  exact hd
theorem po_loop (ha : TL.tl a = c :: l) (hl : l.length ≤ 30) (hs : s < 2) (hY : l.all isL = false → Y "NotValid" [] h) (hR : l.all isL = true → R (wpa (l.map unch) s).e h) : ∀ (r dn : List Nat) (q : Sl), l = dn ++ r → dn.all isL = true →
    wForL (gVar 2) w_pauli_of_b1 { FiX R Y with nx := w_pauli_of_3 (FiX R Y) } ((List.range' dn.length r.length).map fun k => D.int (k : Nat)) ⟨[.f (.str a), .f (wpa (dn.map unch) s).e, q], h⟩
  | [], dn, q, e, hd => by
    rw [List.append_nil] at e
    subst e
    exact hR hd
  | d :: r, dn, q, e, hd => by
    have ll : a.length ≤ sizeLine := by rw [TL.len_tl, ha]; exact lenLine (by rw [List.length_cons]; omega)
    have hn : l[dn.length]? = some d := by rw [e, List.getElem?_append_right (Nat.le_refl _), Nat.sub_self]; rfl
    have at_ := at_tl ha hn
    have ln : dn.length ≤ 30 := by rw [e, List.length_append] at hl; omega
    rw [List.length_cons, List.range'_succ, List.map_cons]
    refine forv ?_
    refine ⟨ll, d, at_, ?_⟩
    have nxt : ∀ u, d = u → isL u = true → wForL (gVar 2) w_pauli_of_b1 { FiX R Y with nx := w_pauli_of_3 (FiX R Y) } ((List.range' (dn.length + 1) r.length).map fun k => D.int (k : Nat)) ⟨[.f (.str a), .f (wpa ((dn ++ [u]).map unch) s).e, .f (.int dn.length)], h⟩ := fun u eu hu => by
      have z := po_loop ha hl hs hY hR r (dn ++ [u]) (.f (.int dn.length)) (by rw [e, eu, List.append_assoc]; rfl) (by rw [List.all_append, hd, List.all_cons, hu]; rfl)
      rw [List.length_append] at z
      exact z
    cases hi : isL d with
    | false =>
      refine brT (by rw [in_names, hi]; rfl) ?_
      exact hY (by rw [e, List.all_append, List.all_cons, hi]; simp)
    | true =>
      refine brF (by rw [in_names, hi]; rfl) ?_
      refine ⟨ll, d, at_, ?_⟩
      have wd : Wd (dn.map unch) := wd_unch hd
      by_cases h73 : d = 73
      · refine brF (by rw [eq_I, decide_eq_true h73]; rfl) ?_
        have z := nxt d rfl hi
        rw [List.map_append] at z
        have e0 : unch d = 0 := by rw [h73]; rfl
        rw [List.map_cons, e0, List.map_nil, wpa_app0] at z
        exact z
      · refine brT (by rw [eq_I, decide_eq_false h73]; rfl) ?_
        refine ⟨ll, d, at_, ?_⟩
        obtain ⟨cu, ku⟩ := ch_unch hi
        refine ⟨unch d, dn.length, ku, by omega, by rw [← show ch (unch d) = lch (unch d) (unch d / 2) from rfl, cu], ?_⟩
        have bw := bd_wpa wd hs
        rw [List.length_map] at bw
        refine ⟨_, _, rfl, bw.s, by show (0 : Nat) < 2; decide, Nat.lt_of_lt_of_le bw.z (Nat.pow_le_pow_right (by decide) (by omega)), ?_⟩
        have z := nxt d rfl hi
        rw [List.map_append, List.map_cons, List.map_nil, ← wpa_app wd hs ku, List.length_map] at z
        exact z
theorem po_eq (ha : TL.tl a = c :: l) : po a = if (c = 43 ∨ c = 45) ∧ l ≠ [] ∧ l.all isL = true then some (wpa (l.map unch) (if c = 45 then 1 else 0)) else none := by
  unfold po
  rw [ha]
end
theorem pk_pauli_of : PkX 1 2 sp_pauli_of w_pauli_of := by
  rintro ds h R Y _ ⟨a, rfl, hl, hS, hN⟩
  have ll : a.length ≤ sizeLine := lenLine (by omega)
  refine ⟨true, rfl, ?_⟩
  refine brF rfl ⟨ll, ?_⟩
  cases ha : TL.tl a with
  | nil =>
    have l0 : a.length = 0 := by rw [TL.len_tl, ha]; rfl
    refine brT (by rw [l0]; rfl) (brT rfl ?_)
    exact hN (by unfold po; rw [ha])
  | cons c l =>
    have l1 : a.length = l.length + 1 := by rw [TL.len_tl, ha]; rfl
    have pe := po_eq ha
    by_cases h0 : l = []
    · subst h0
      refine brT (by rw [l1]; rfl) (brT rfl ?_)
      exact hN (by rw [pe, if_neg (fun z => z.2.1 rfl)])
    · have h2 : 1 ≤ l.length := by cases l with
        | nil => exact absurd rfl h0
        | cons => exact Nat.succ_le_succ (Nat.zero_le _)
      refine brF (by rw [l1]; exact decide_eq_false (by omega)) ?_
      have at0 : atI a.cps.toList 0 = some c := by
        refine VL.C.atI_nat (k := 0) ?_
        show (TL.tl a)[0]? = _
        rw [ha]
        rfl
      refine ⟨ll, c, at0, ?_⟩
      by_cases hc : c = 43 ∨ c = 45
      · show Br (!(!(Builtin.Str.occurrences (Str.ofString "+-") ⟨#[c]⟩ 0 (Str.ofString "+-").length 1).isEmpty)) _ _
        refine brF (by rw [in_pm, decide_eq_true hc]; rfl) ?_
        refine ⟨ll, c, at0, ?_⟩
        have main : ∀ s : Nat, s < 2 → (if c = 45 then 1 else 0) = s → w_pauli_of_2 (FiX R Y) ⟨[.f (.str a), .f (.tup [.int 0, .int 0, .int s]), .u], h⟩ := fun s hs es => by
          refine ⟨ll, ⟨by omega, by omega⟩, ?_⟩
          have er : (List.range (((a.length : Nat) : Int) - 1).toNat).map (fun i : Nat => D.int (i : Nat)) = (List.range' 0 l.length).map fun k => D.int (k : Nat) := by
            have : (((a.length : Nat) : Int) - 1).toNat = l.length := by omega
            rw [this, List.range_eq_range']
          rw [er]
          refine po_loop ha (by omega) hs (fun z => hN ?_) (fun z => hS _ ?_) l [] .u rfl rfl
          · rw [pe, if_neg (fun q => by rw [q.2.2] at z; cases z)]
          · rw [pe, if_pos ⟨hc, h0, z⟩, es]
        rcases hc with rfl | rfl
        · exact ⟨0, [], by decide +kernel, main 0 (by decide) rfl⟩
        · exact ⟨1, [], by decide +kernel, main 1 (by decide) rfl⟩
      · show Br (!(!(Builtin.Str.occurrences (Str.ofString "+-") ⟨#[c]⟩ 0 (Str.ofString "+-").length 1).isEmpty)) _ _
        refine brT (by rw [in_pm, decide_eq_false hc]; rfl) ?_
        exact hN (by rw [pe, if_neg (fun z => hc z.1)])
theorem pk_text_pauli : PkX 2 0 sp_text_pauli w_text_pauli := by
  rintro ds h R Y _ ⟨a, n, rfl, hl, hn, hS, hN⟩
  refine ⟨lenLine (by omega), ?_⟩
  unfold tpo at hS hN
  by_cases e : a.length = n + 1
  · rw [if_pos e] at hS hN
    refine brF ?_ ?_
    · show (!(((a.length : Nat) : Int) == (n : Int) + 1)) = false
      rw [e]
      simp
    · exact ⟨a, rfl, by omega, hS, hN⟩
  · rw [if_neg e] at hS hN
    refine brT ?_ (hN rfl)
    show (!(((a.length : Nat) : Int) == (n : Int) + 1)) = true
    have : ¬ ((a.length : Nat) : Int) = (n : Int) + 1 := by omega
    simp [this]
end K07

set_option Elab.async false
set_option linter.all false
set_option maxRecDepth 100000
set_option maxHeartbeats 400000
/-! P4_k07: code_text, the law's text walked -/
namespace K07
open PySem PySem.Spec PyProof.Rows L2 VL VL.P VL.C
theorem num_len {n : Nat} (h : n ≤ 13) : (num n).length ≤ 2 := by
  rw [TL.len_tl, tl_num]
  exact TL.numL_len (by decide) (by omega)
theorem app_len (a b : Str) : (a ++ b).length = a.length + b.length := by rw [TL.len_tl, TL.tl_append, List.length_append, ← TL.len_tl, ← TL.len_tl]
theorem lit_len : cdS.length = 5 ∧ xS.length = 2 ∧ zS.length = 2 ∧ nlS.length = 1 := by decide +kernel
theorem log_num {n : Nat} (h : n ≤ 13) : ((n : Nat) : Int).natAbs.log2 < 1920 := by
  have : ∀ k : Fin 14, (((k.1 : Nat) : Int)).natAbs.log2 < 1920 := by decide +kernel
  exact this ⟨n, by omega⟩
theorem row_len {n : Nat} {ps : List Pa} {X Z : Pa} (hn : n ≤ 13) : ∀ r ∈ rowsT n ps X Z, r.length ≤ 16 := fun r hr => by
  unfold rowsT at hr
  obtain ⟨l1, l2, l3, _⟩ := lit_len
  rcases List.mem_cons.mp hr with rfl | hr
  · rw [app_len]
    have := num_len hn
    omega
  · rcases List.mem_append.mp hr with hr | hr
    · obtain ⟨p, _, rfl⟩ := List.mem_map.mp hr
      rw [txp_len]
      omega
    · rcases List.mem_cons.mp hr with rfl | hr
      · rw [app_len, txp_len]
        omega
      · rw [List.mem_singleton.mp hr, app_len, txp_len]
        omega
theorem sum_le {c : Nat} : ∀ {ys : List Str}, (∀ y ∈ ys, y.length ≤ c) → (ys.map (·.length)).sum ≤ c * ys.length
  | [], _ => Nat.zero_le _
  | y :: ys, h => by
    have h1 := h y List.mem_cons_self
    have h2 := sum_le (c := c) (ys := ys) fun z hz => h z (List.mem_cons_of_mem _ hz)
    rw [List.map_cons, List.sum_cons, List.length_cons, Nat.mul_succ]
    omega
theorem rowsT_len (n : Nat) (ps : List Pa) (X Z : Pa) : (rowsT n ps X Z).length = ps.length + 3 := by
  have := rows_len n ps X Z
  rw [List.length_append] at this
  simp at this
  omega
/-- the rows, as data -/
def rowsD (n : Nat) (ps : List Pa) (X Z : Pa) : D := .lst ((rowsT n ps X Z).map D.str)
theorem rows_is (n : Nat) (ps : List Pa) (X Z : Pa) : (.lst (([D.str (cdS ++ num n)] ++ ([] ++ ps.map fun p => D.str (txp n p))) ++ [D.str (xS ++ txp n X), D.str (zS ++ txp n Z)]) : D) = rowsD n ps X Z := by
  unfold rowsD rowsT
  simp
theorem mjoin0 {ys : List Str} {a : Str} {R : D → Prop} (h : (ys.map (·.length)).sum + ys.length * a.length ≤ 16777216) (hR : R (.str (Txt.join a ys))) : mJoin a (.lst (ys.map D.str)) R := ⟨ys, rfl, h, hR⟩
theorem joinL_len : ∀ l : List (List Nat), (TL.joinL [] l).length = (l.map List.length).sum
  | [] => rfl
  | [p] => by
    show p.length = p.length + 0
    omega
  | p :: q :: r => by
    show (p ++ ([] ++ TL.joinL [] (q :: r))).length = p.length + ((q :: r).map List.length).sum
    rw [List.nil_append, List.length_append, joinL_len (q :: r)]
theorem ctx_len {n : Nat} {ps : List Pa} {X Z : Pa} (hn : n ≤ 13) (hl : ps.length + 1 = n) : (ctx n ps X Z).length ≤ 300 ∧ 0 < (ctx n ps X Z).length := by
  obtain ⟨l1, l2, l3, l4⟩ := lit_len
  have e := (ctx_joins n ps X Z).1
  have rl := rowsT_len n ps X Z
  rw [← e, TL.len_tl, TL.join_eq, TL.tl_join]
  have e0 : TL.tl Str.empty = [] := rfl
  rw [e0, joinL_len, List.map_map]
  have e1 : (List.map (List.length ∘ TL.tl) (List.map (fun x => x ++ nlS) (rowsT n ps X Z))) = ((rowsT n ps X Z).map (· ++ nlS)).map (·.length) := List.map_congr_left fun a _ => (TL.len_tl a).symm
  rw [e1]
  constructor
  · have := sum_le (c := 17) (ys := (rowsT n ps X Z).map (· ++ nlS)) fun y hy => by
      obtain ⟨r, hr, rfl⟩ := List.mem_map.mp hy
      have := row_len hn r hr
      rw [app_len]
      omega
    rw [List.length_map, rl] at this
    omega
  · unfold rowsT
    rw [List.map_cons, List.map_cons, List.sum_cons, app_len, l4]
    omega
theorem pk_code_text : Pk 1 3 sp_code_text w_code_text := by
  rintro ds h R _ ⟨o, n, ps, X, Z, rfl, hc, hR⟩
  obtain ⟨h1, h13, hl, hp, hX, hZ, _⟩ := hc.ok
  obtain ⟨l1, l2, l3, l4⟩ := lit_len
  have at_ := hc.at_
  have ln := num_len h13
  refine ⟨o, _, _, rfl, at_, rfl, log_num h13, lenLine (by show cdS.length + (num n).length ≤ _; omega), ?_⟩
  refine ⟨o, _, _, rfl, at_, rfl, rfl, by rw [List.length_map]; omega, ?_⟩
  refine lcL_inv' (f := Pa.e) (e := fun p => D.str (txp n p)) (fun p hpm C hC => ?_) ?_
  · exact brT rfl ⟨o, _, _, rfl, at_, rfl, p, n, rfl, h13, (hp p hpm).s, rfl, hC⟩
  refine ⟨lenLine (by rw [List.length_append, List.length_map]; show 1 + (0 + _) ≤ _; omega), ?_⟩
  change w_code_text_1 (Fi R) ⟨[.f (.obj o), .f (.lst ([D.str (cdS ++ num n)] ++ ([] ++ ps.map fun p => D.str (txp n p)))), .u, .u], h⟩
  refine ⟨o, _, _, rfl, at_, rfl, o, _, _, rfl, at_, rfl, X, n, rfl, h13, hX.s, lenLine (by show xS.length + (txp n X).length ≤ _; rw [txp_len]; omega), ?_⟩
  refine ⟨o, _, _, rfl, at_, rfl, o, _, _, rfl, at_, rfl, Z, n, rfl, h13, hZ.s, lenLine (by show zS.length + (txp n Z).length ≤ _; rw [txp_len]; omega), ?_⟩
  refine ⟨lenLine (by rw [List.length_append, List.length_append, List.length_map]; show (1 + (0 + _)) + 2 ≤ _; omega), ?_⟩
  change w_code_text_2 (Fi R) ⟨[.f (.obj o), .f (.lst (([D.str (cdS ++ num n)] ++ ([] ++ ps.map fun p => D.str (txp n p))) ++ [D.str (xS ++ txp n X), D.str (zS ++ txp n Z)])), .u, .u], h⟩
  rw [rows_is]
  have rl := rowsT_len n ps X Z
  refine ⟨rfl, by rw [List.length_map, rl]; omega, ?_⟩
  refine lcL_inv' (f := D.str) (e := fun r => D.str (r ++ nlS)) (fun r hr C hC => ?_) ?_
  · exact brT rfl ⟨lenLine (by have := row_len h13 r hr; show r.length + nlS.length ≤ _; omega), rfl, hC⟩
  rw [List.nil_append]
  have e : (rowsT n ps X Z).map (fun r => D.str (r ++ nlS)) = ((rowsT n ps X Z).map (· ++ nlS)).map D.str := by rw [List.map_map]; rfl
  rw [e]
  refine mjoin0 (a := Str.ofString "") ?_ ?_
  · have := sum_le (c := 17) (ys := (rowsT n ps X Z).map (· ++ nlS)) fun y hy => by
      obtain ⟨r, hr, rfl⟩ := List.mem_map.mp hy
      have := row_len h13 r hr
      rw [app_len]
      omega
    rw [List.length_map, rl] at this
    have e0 : (Str.ofString "").length = 0 := rfl
    rw [e0, Nat.mul_zero]
    omega
  · have e : Txt.join (Str.ofString "") ((rowsT n ps X Z).map (· ++ nlS)) = ctx n ps X Z := (ctx_joins n ps X Z).1
    rw [e]
    exact hR
theorem pk__law_text : Pk 4 2 sp__law_text w__law_text := by
  rintro ds h R _ ⟨n, ps, X, Z, rfl, hc, hR⟩
  obtain ⟨h1, h13, hl, hp, hX, hZ, _⟩ := hc
  obtain ⟨l1, l2, l3, l4⟩ := lit_len
  have ln := num_len h13
  refine ⟨log_num h13, lenLine (by show cdS.length + (num n).length ≤ _; omega), ?_⟩
  refine ⟨rfl, by rw [List.length_map]; omega, ?_⟩
  refine lcL_inv' (f := Pa.e) (e := fun p => D.str (txp n p)) (fun p hpm C hC => ?_) ?_
  · exact brT rfl ⟨p, n, rfl, h13, (hp p hpm).s, rfl, hC⟩
  refine ⟨lenLine (by rw [List.length_append, List.length_map]; show 1 + (0 + _) ≤ _; omega), ?_⟩
  change w__law_text_1 (Fi R) ⟨[.f (.int n), .f (.lst (ps.map Pa.e)), .f X.e, .f Z.e, .f (.lst ([D.str (cdS ++ num n)] ++ ([] ++ ps.map fun p => D.str (txp n p)))), .u], h⟩
  refine ⟨X, n, rfl, h13, hX.s, lenLine (by show xS.length + (txp n X).length ≤ _; rw [txp_len]; omega), ?_⟩
  refine ⟨Z, n, rfl, h13, hZ.s, lenLine (by show zS.length + (txp n Z).length ≤ _; rw [txp_len]; omega), ?_⟩
  refine ⟨lenLine (by rw [List.length_append, List.length_append, List.length_map]; show (1 + (0 + _)) + 2 ≤ _; omega), ?_⟩
  have rl := rowsT_len n ps X Z
  change mJoin nlS (.lst (([D.str (cdS ++ num n)] ++ ([] ++ ps.map fun p => D.str (txp n p))) ++ [D.str (xS ++ txp n X), D.str (zS ++ txp n Z)])) fun z => opAdd z (.str nlS) fun z => R z h
  rw [rows_is]
  have sl := sum_le (c := 16) (ys := rowsT n ps X Z) (row_len h13)
  rw [rl] at sl
  refine mjoin0 (by rw [rl, l4]; omega) ?_
  have e := (ctx_joins n ps X Z).2
  refine ⟨lenLine ?_, ?_⟩
  · have e2 := congrArg Str.length e
    rw [app_len] at e2
    have := (ctx_len (X := X) (Z := Z) h13 hl).1
    show (Txt.join nlS (rowsT n ps X Z)).length + nlS.length ≤ _
    omega
  · rw [e]
    exact hR
end K07

set_option Elab.async false
set_option linter.all false
set_option maxRecDepth 100000
set_option maxHeartbeats 400000
/-! P5_k07: read_code walked -/
namespace K07
open PySem PySem.Spec PyProof.Rows L2 VL VL.P VL.C
/-! ### the rows of a text -/
theorem split_ne (x y : Str) : Txt.split x y ≠ [] := by
  unfold Txt.split
  split
  · simp
  · split
    · simp
    · exact List.ne_nil_of_length_pos (by rw [length_partsBetween]; omega)
theorem joinL_mem {S : List Nat} : ∀ {l : List (List Nat)} {p : List Nat}, p ∈ l → p.length ≤ (TL.joinL S l).length
  | [q], p, h => by
    rw [List.mem_singleton.mp h]
    exact Nat.le_refl _
  | a :: q :: r, p, h => by
    show p.length ≤ (a ++ (S ++ TL.joinL S (q :: r))).length
    rw [List.length_append, List.length_append]
    rcases List.mem_cons.mp h with rfl | h
    · omega
    · have := joinL_mem (S := S) h
      omega
theorem split_mem {x y p : Str} (h : p ∈ Txt.split x y) : p.length ≤ x.length := by
  have e := StrLaws.join_split x y
  have := joinL_mem (S := TL.tl y) (l := (Txt.split x y).map TL.tl) (p := TL.tl p) (List.mem_map.mpr ⟨p, h, rfl⟩)
  rw [← TL.tl_join, e, ← TL.len_tl, ← TL.len_tl] at this
  exact this
theorem at_D {L : List Str} {k : Nat} (h : k < L.length) : atI (L.map D.str) (k : Int) = some (.str (L.getD k Str.empty)) := by
  refine VL.C.atI_nat ?_
  rw [List.getElem?_map, List.getD_eq_getElem?_getD, List.getElem?_eq_getElem h]
  rfl
theorem in_nums (b : Str) : inD (.str b) ((List.range 13).map fun k => D.str (num (k + 1))) = (numOf b).isSome := by
  unfold inD numOf
  rw [Option.isSome_map, List.any_map, Bool.eq_iff_iff, List.any_eq_true, List.find?_isSome]
  exact Iff.rfl
theorem cut_D (L : List Str) (m : Nat) (h1 : 1 ≤ m) (h2 : m ≤ L.length) : VL.cutD (L.map D.str) (some 1) (some (m : Int)) = ((L.drop 1).take (m - 1)).map D.str := by
  have i1 : HT.sIx (L.map D.str).length 0 (some 1) = 1 := by
    rw [show (some (1 : Int)) = some ((1 : Nat) : Int) from rfl, HT.sIx_nat, List.length_map]
    omega
  have i2 : HT.sIx (L.map D.str).length (L.map D.str).length (some (m : Int)) = m := by
    rw [HT.sIx_nat, List.length_map]
    omega
  unfold VL.cutD
  rw [i1, i2, List.map_take, List.map_drop]
theorem Bd.mono {n m : Nat} {p : Pa} (h : Bd n p) (hm : n ≤ m) : Bd m p := ⟨Nat.lt_of_lt_of_le h.x (Nat.pow_le_pow_right (by decide) hm), Nat.lt_of_lt_of_le h.z (Nat.pow_le_pow_right (by decide) hm), h.s⟩
theorem isC_sem {n : Nat} {ps : List Pa} {X Z : Pa} (h1 : 1 ≤ n) (h2 : n ≤ 13) (h3 : ps.length + 1 = n) (h4 : ∀ p ∈ ps, Bd n p) (h5 : Bd n X) (h6 : Bd n Z) : isC (.int n) (.tup (ps.map Pa.e)) X.e Z.e = semL ps X Z := by
  have e2 : (ps.map Pa.e).map dP = ps := by
    rw [List.map_map]
    exact (List.map_congr_left fun p _ => dP_e p).trans (List.map_id ps)
  rw [isC_int, dP_e, dP_e, decide_eq_true (show (1 : Int) ≤ n by omega), decide_eq_true (show (n : Int) ≤ 13 by omega), decide_eq_true (show (((ps.map Pa.e).length : Nat) : Int) = (n : Int) - 1 by rw [List.length_map]; omega), Int.toNat_natCast]
  have e : (ps.map Pa.e ++ [X.e, Z.e]).all (paD n) = true := by
    rw [List.all_eq_true]
    intro d hd
    rcases List.mem_append.mp hd with hd | hd
    · obtain ⟨p, hp, rfl⟩ := List.mem_map.mp hd
      exact paD_bd.mpr (h4 p hp)
    · simp only [List.mem_cons, List.not_mem_nil, or_false] at hd
      rcases hd with rfl | rfl
      · exact paD_bd.mpr h5
      · exact paD_bd.mpr h6
  rw [e]
  rfl
/-- a step that may raise, through the rows -/
theorem gens_loop {R : List D → Oh → Prop} {Y : XC} {h : Oh} {s0 : List Sl} {m : Nat} {d4 : Sl} (hm : m ≤ 13) {sx sL sF : Sl} (e0 : s0 = [sx, sL, sF, .f (.int m), d4, .u]) : ∀ (as : List Str) (acc : List D), (∀ a ∈ as, a.length ≤ 100000) →
    (∀ ps, tpos m as = some ps → R (acc ++ ps.map Pa.e) h) → (tpos m as = none → Y "NotValid" [] h) →
    wLcL (gVar 5) wYes (wCallX sp_text_pauli (wCons (wVar 5) (wCons (wVar 3) wNil)) fun c fs S3 => Y c fs S3.h) [5] s0 R (as.map D.str) h acc
  | [], acc, _, hR, _ => by
    have := hR [] rfl
    rw [List.map_nil, List.append_nil] at this
    exact this
  | a :: as, acc, hl, hR, hN => by
    subst e0
    refine brT rfl ⟨a, m, rfl, hl a List.mem_cons_self, hm, fun p hp => ⟨rfl, ?_⟩, fun hp => ?_⟩
    · refine gens_loop (Y := Y) hm rfl as (acc ++ [p.e]) (fun b hb => hl b (List.mem_cons_of_mem _ hb)) (fun ps q => ?_) (fun q => ?_)
      · have := hR (p :: ps) (by unfold tpos; rw [hp, q])
        rw [List.map_cons] at this
        rw [List.append_assoc]
        exact this
      · exact hN (by unfold tpos; rw [hp, q])
    · exact hN (by unfold tpos; rw [hp])
section
variable {R : D → Oh → Prop} {Y : XC} {h : Oh} {x : Str} {L : List Str}
theorem asC_none (e : prsR (Txt.split x nlS) = none) : asC (.str x) = none := by
  unfold asC prs
  dsimp only
  rw [e]
theorem asC_is {n : Nat} {ps : List Pa} {X Z : Pa} (e : prsR (Txt.split x nlS) = some (n, ps, X, Z)) : asC (.str x) = if semL ps X Z = true then some (n, ps, X, Z) else none := by
  unfold asC prs
  dsimp only
  rw [e]
theorem cutS_len (a : Str) (lo hi : Option Int) : (cutS a lo hi).length ≤ a.length := by
  rw [TL.len_tl, TL.len_tl]
  unfold cutS
  rw [TL.tl_mk, List.length_take, List.length_drop]
  show min _ (a.cps.toList.length - _) ≤ a.cps.toList.length
  omega
/-- the end: a code is made -/
theorem rd_make {n : Nat} {ps : List Pa} {X Z : Pa} (h1 : 1 ≤ n) (h2 : n ≤ 13) (h3 : ps.length + 1 = n) (h4 : ∀ p ∈ ps, Bd n p) (h5 : Bd n X) (h6 : Bd n Z)
    (hR : semL ps X Z = true → ∀ a h', CodeX h' a n ps X Z → Pres h h' → R (.obj a) h') (hY : semL ps X Z = false → ∀ h', Pres h h' → Y "NotValid" [] h') (a : Addr) (ha : h a = none) :
    sp_Code___init__ [.obj a, .int n, .tup (ps.map Pa.e), X.e, Z.e] (h.put a (.ins "Code" [])) (fun r h' => r = .non ∧ R (.obj a) h') Y := by
  have e := isC_sem h1 h2 h3 h4 h5 h6
  have pr : ∀ h', But a (h.put a (.ins "Code" [])) h' → Pres h h' := fun h' bt b ob q => by
    have nb : b ≠ a := fun z => by rw [z, ha] at q; cases q
    rw [bt b nb, Oh.put_ne nb]
    exact q
  refine ⟨a, .int n, .tup (ps.map Pa.e), X.e, Z.e, rfl, ⟨.inr (.inr (.inr ⟨n, by omega, rfl⟩)), ⟨ps, .inl rfl, by omega, fun p hp => Bd.mono (h4 p hp) h2⟩, ⟨X, rfl, Bd.mono h5 h2⟩, .inl ⟨Z, rfl, Bd.mono h6 h2⟩⟩, Oh.put_same, fun q => ⟨rfl, ?_⟩, fun q h' bt => ?_⟩
  · rw [e] at q
    exact hR q a _ ⟨⟨h1, h2, h3, h4, h5, h6, q⟩, Oh.put_same⟩ (pr _ fun b nb => by rw [Oh.put_ne nb])
  · rw [e] at q
    exact hY q h' (pr h' bt)
end
end K07

set_option Elab.async false
set_option linter.all false
set_option maxRecDepth 100000
set_option maxHeartbeats 400000
/-! P6_k07: read_code walked -/
namespace K07
open PySem PySem.Spec PyProof.Rows L2 VL VL.P VL.C
theorem bne_t {a b : Str} (h : ¬ a = b) : (!(a == b)) = true := by
  rw [show (a == b) = false from by simpa using h]
  rfl
theorem gens_loop' {R : List D → Oh → Prop} {Y : XC} {h : Oh} {s0 : List Sl} {m : Nat} {d4 : Sl} (hm : m ≤ 13) {sx sL sF : Sl} (e0 : s0 = [sx, sL, sF, .f (.int m), d4, .u]) {xs : List D} {as : List Str} (ex : xs = as.map D.str) (hl : ∀ a ∈ as, a.length ≤ 100000)
    (hR : ∀ ps, tpos m as = some ps → R (ps.map Pa.e) h) (hN : tpos m as = none → Y "NotValid" [] h) :
    wLcL (gVar 5) wYes (wCallX sp_text_pauli (wCons (wVar 5) (wCons (wVar 3) wNil)) fun c fs S3 => Y c fs S3.h) [5] s0 R xs h [] := by
  subst ex
  exact gens_loop hm e0 as [] hl hR hN
section
variable {R : D → Oh → Prop} {Y : XC} {h : Oh} {x : Str} {L : List Str}
theorem rd_tail {F : D} {n : Nat} (h1 : 1 ≤ n) (h13 : n ≤ 13) (hx : ∀ r ∈ L, r.length ≤ 100000) (hL : L.length ≤ 100002)
    (hR : ∀ ps X Z, prsN L n = some (n, ps, X, Z) → ∀ a, h a = none → sp_Code___init__ [.obj a, .int n, .tup (ps.map Pa.e), X.e, Z.e] (h.put a (.ins "Code" [])) (fun r h' => r = .non ∧ R (.obj a) h') Y)
    (hY : prsN L n = none → Y "NotValid" [] h) :
    w_read_code_5 (FiX R Y) ⟨[.f (.str x), .f (.lst (L.map D.str)), .f F, .f (.int n), .u, .u], h⟩ := by
  unfold prsN at hR hY
  have gd : ∀ k, k < L.length → (L.getD k Str.empty).length ≤ 100000 := fun k hk => by
    rw [List.getD_eq_getElem?_getD, List.getElem?_eq_getElem hk]
    exact hx _ (List.getElem_mem hk)
  by_cases hl : L.length = n + 3
  · refine brF ?_ ?_
    · show (!((((L.map D.str).length : Nat) : Int) == (n : Int) + 3)) = false
      rw [List.length_map, hl]
      simp
    have an : atI (L.map D.str) (n : Int) = some (.str (L.getD n Str.empty)) := at_D (by omega)
    have an1 : atI (L.map D.str) ((n : Int) + 1) = some (.str (L.getD (n + 1) Str.empty)) := at_D (k := n + 1) (by omega)
    have an2 : atI (L.map D.str) ((n : Int) + 2) = some (.str (L.getD (n + 2) Str.empty)) := at_D (k := n + 2) (by omega)
    have gn := gd n (by omega)
    have gn1 := gd (n + 1) (by omega)
    refine ⟨_, an, lenLine (by omega), ?_⟩
    by_cases hx2 : two (L.getD n Str.empty) = xS
    · refine brF ?_ ?_
      · show (!(two (L.getD n Str.empty) == xS)) = false
        rw [hx2]
        simp
      refine ⟨_, an1, lenLine (by omega), ?_⟩
      by_cases hz2 : two (L.getD (n + 1) Str.empty) = zS
      · refine brF ?_ ?_
        · show (!(two (L.getD (n + 1) Str.empty) == zS)) = false
          rw [hz2]
          simp
        refine ⟨_, an2, ?_⟩
        by_cases he : L.getD (n + 2) Str.empty = Str.empty
        · refine brF ?_ ?_
          · show (!(L.getD (n + 2) Str.empty == Str.empty)) = false
            rw [he]
            rfl
          rw [if_pos ⟨hl, hx2, hz2, he⟩] at hY
          have hR : ∀ ps X Z, (match tpos n ((L.drop 1).take (n - 1)), tpo n (rest (L.getD n Str.empty)), tpo n (rest (L.getD (n + 1) Str.empty)) with
              | some ps, some X, some Z => some (n, ps, X, Z)
              | _, _, _ => none) = some (n, ps, X, Z) → ∀ a, h a = none → sp_Code___init__ [.obj a, .int n, .tup (ps.map Pa.e), X.e, Z.e] (h.put a (.ins "Code" [])) (fun r h' => r = .non ∧ R (.obj a) h') Y := fun ps X Z q => hR ps X Z (by rw [if_pos ⟨hl, hx2, hz2, he⟩]; exact q)
          change w_read_code_6 (FiX R Y) ⟨[.f (.str x), .f (.lst (L.map D.str)), .f F, .f (.int n), .u, .u], h⟩
          have ec := cut_D L n h1 (by omega)
          have mem : ∀ a ∈ (L.drop 1).take (n - 1), a.length ≤ 100000 := fun a ha => hx a (List.mem_of_mem_drop (List.mem_of_mem_take ha))
          refine ⟨rfl, (by show (VL.cutD (L.map D.str) (some 1) (some (n : Int))).length ≤ _; rw [ec, List.length_map, List.length_take]; omega), ?_⟩
          refine gens_loop' (Y := Y) h13 rfl ec mem (fun ps hps => ?_) (fun hps => hY (by rw [hps]))
          change w_read_code_7 (FiX R Y) ⟨[.f (.str x), .f (.lst (L.map D.str)), .f F, .f (.int n), .f (.tup (ps.map Pa.e)), .u], h⟩
          refine ⟨_, an, lenLine (by omega), rest (L.getD n Str.empty), n, rfl, Nat.le_trans (cutS_len _ _ _) gn, h13, fun X hX => ?_, fun hX => hY (by rw [hps, hX])⟩
          refine ⟨_, an1, lenLine (by omega), rest (L.getD (n + 1) Str.empty), n, rfl, Nat.le_trans (cutS_len _ _ _) gn1, h13, fun Z hZ => ?_, fun hZ => hY (by rw [hps, hX, hZ])⟩
          exact hR ps X Z (by rw [hps, hX, hZ])
        · refine brT ?_ ?_
          · exact bne_t he
          · exact hY (if_neg fun z => he z.2.2.2)
      · refine brT ?_ (brT rfl ?_)
        · exact bne_t hz2
        · exact hY (if_neg fun z => hz2 z.2.2.1)
    · refine brT ?_ (brT rfl ?_)
      · exact bne_t hx2
      · exact hY (if_neg fun z => hx2 z.2.1)
  · refine brT ?_ (brT rfl ?_)
    · show (!((((L.map D.str).length : Nat) : Int) == (n : Int) + 3)) = true
      rw [List.length_map]
      have : ¬ ((L.length : Nat) : Int) = (n : Int) + 3 := by omega
      simp [this]
    · exact hY (if_neg fun z => hl z.1)
end
theorem pk_read_code : PkX 1 5 sp_read_code w_read_code := by
  rintro ds h R Y _ ⟨d, rfl, hd, hR, hN⟩
  have nstr : isi d .tstr = some false → asC d = none → w_read_code (FiX R Y) ⟨[d].map .f ++ List.replicate 5 .u, h⟩ := fun q1 q2 => ⟨false, q1, brT rfl (hN q2 h (Pres.refl h))⟩
  cases d with
  | str x =>
    have hx : x.length ≤ 100000 := by simpa [strO] using hd
    refine ⟨true, rfl, brF rfl ?_⟩
    refine ⟨by decide +kernel, lenLine (by omega), ?_⟩
    have e1 : ∀ t, prsR (Txt.split x nlS) = t → prsR (Txt.split x nlS) = t := fun t q => q
    have asn := asC_none (x := x)
    have asi := fun n ps X Z => asC_is (x := x) (n := n) (ps := ps) (X := X) (Z := Z)
    have ne := split_ne x nlS
    have mem : ∀ r ∈ Txt.split x nlS, r.length ≤ 100000 := fun r hr => Nat.le_trans (split_mem hr) hx
    have hL : (Txt.split x nlS).length ≤ 100002 := Nat.le_trans (split_le x nlS) (by omega)
    have ps_some : ∀ n ps X Z, prsR (Txt.split x nlS) = some (n, ps, X, Z) → 1 ≤ n ∧ n ≤ 13 ∧ ps.length + 1 = n ∧ (∀ p ∈ ps, Bd n p) ∧ Bd n X ∧ Bd n Z := fun n ps X Z q => (prs_some (x := x) q).2
    change w_read_code_2 (FiX R Y) ⟨[.f (.str x), .f (.lst ((Txt.split x nlS).map D.str)), .u, .u, .u, .u], h⟩
    generalize Txt.split x nlS = L at *
    cases L with
    | nil => exact absurd rfl ne
    | cons r0 rs =>
      have l0 := mem r0 List.mem_cons_self
      refine ⟨.str r0, VL.C.atI_nat (k := 0) rfl, by decide +kernel, lenLine (by omega), ?_⟩
      change w_read_code_3 (FiX R Y) ⟨[.f (.str x), .f (.lst ((r0 :: rs).map D.str)), .f (.lst ((Txt.split r0 spS).map D.str)), .u, .u, .u], h⟩
      have pe : prsR (r0 :: rs) = (match Txt.split r0 spS with
        | [a, b] => if a = codeS then (match numOf b with
          | some n => prsN (r0 :: rs) n
          | none => none) else none
        | _ => none) := rfl
      generalize eF : Txt.split r0 spS = F at pe ⊢
      have bad : F.length ≠ 2 → prsR (r0 :: rs) = none → w_read_code_3 (FiX R Y) ⟨[.f (.str x), .f (.lst ((r0 :: rs).map D.str)), .f (.lst (F.map D.str)), .u, .u, .u], h⟩ := fun q1 q2 => by
        refine brT ?_ (brT rfl (hN (asn q2) h (Pres.refl h)))
        show (!((((F.map D.str).length : Nat) : Int) == 2)) = true
        rw [List.length_map]
        have : ¬ ((F.length : Nat) : Int) = 2 := by omega
        simp [this]
      match F, eF, pe, bad with
      | [], _, pe, bad => exact bad (by decide) pe
      | [a], _, pe, bad => exact bad (by simp) pe
      | a :: b :: c :: r, _, pe, bad => exact bad (by simp) pe
      | [a, b], _, pe, _ =>
        dsimp only at pe
        refine brF rfl ⟨_, rfl, ?_⟩
        by_cases ha : a = codeS
        · rw [if_pos ha] at pe
          refine brF ?_ ?_
          · show (!(a == codeS)) = false
            rw [ha]
            simp
          refine ⟨_, rfl, ⟨by decide, by decide, by decide, by decide⟩, rfl, by decide, ?_⟩
          refine lcL_inv' (f := fun k : Nat => D.int (1 + (k : Nat))) (e := fun k : Nat => D.str (num (k + 1))) (rs := List.range 13) (fun k hk C hC => ?_) ?_
          · refine brT rfl ?_
            have ek : (1 : Int) + (k : Nat) = ((k + 1 : Nat) : Int) := by omega
            have k13 := List.mem_range.mp hk
            show ((1 : Int) + (k : Nat)).natAbs.log2 < 1920 ∧ _ = _ ∧ C (some (.str (Str.ofString (toString ((1 : Int) + (k : Nat)))))) h
            rw [ek]
            exact ⟨log_num (by omega), rfl, hC⟩
          rw [List.nil_append]
          refine ⟨rfl, ?_⟩
          show Br (!inD (.str b) ((List.range 13).map fun k => D.str (num (k + 1)))) _ _
          rw [in_nums]
          cases hb : numOf b with
          | none =>
            rw [hb] at pe
            exact brT rfl (hN (asn pe) h (Pres.refl h))
          | some n =>
            rw [hb] at pe
            dsimp only at pe
            obtain ⟨rfl, n1, n13⟩ := numOf_some hb
            refine brF rfl ⟨_, rfl, n, TL.int_num (Nat.le_trans (TL.numL_len (k := 2) (by decide) (by omega)) (by decide)), ?_, ?_⟩
            · exact Nat.le_trans (num_len n13) (by decide)
            change w_read_code_5 (FiX R Y) ⟨[.f (.str x), .f (.lst ((r0 :: rs).map D.str)), .f (.lst ([a, num n].map D.str)), .f (.int n), .u, .u], h⟩
            refine rd_tail n1 n13 mem hL (fun ps X Z q a' ha' => ?_) (fun q => hN (asn (by rw [pe, q])) h (Pres.refl h))
            have q' := pe.trans q
            obtain ⟨p1, p2, p3, p4, p5, p6⟩ := ps_some n ps X Z q'
            have ai := asi n ps X Z q'
            refine rd_make p1 p2 p3 p4 p5 p6 (fun sem a2 h' hc hp => hR n ps X Z a2 h' (by rw [ai, if_pos sem]) hc hp) (fun sem h' hp => hN (by rw [ai, if_neg (by rw [sem]; decide)]) h' hp) a' ha'
        · rw [if_neg ha] at pe
          refine brT (bne_t ha) (brT rfl ?_)
          exact hN (asn pe) h (Pres.refl h)
  | non => exact nstr rfl rfl
  | int i => exact nstr rfl rfl
  | lst l => exact nstr rfl rfl
  | _ => cases hd
end K07

set_option Elab.async false
set_option linter.all false
set_option maxRecDepth 100000
set_option maxHeartbeats 400000
/-! P7_k07: the methods of codes of up to nine qubits; what the law reads and spoils -/
namespace K07
open PySem PySem.Spec PyProof.Rows L2 VL VL.P VL.C
section
variable {R : D → Oh → Prop} {Y : XC} {h : Oh}
theorem read_in {d : D} (hd : strO d = true) (hR : ∀ n ps X Z a h', asC d = some (n, ps, X, Z) → CodeX h' a n ps X Z → Pres h h' → R (.obj a) h') (hN : asC d = none → ∀ h', Pres h h' → R .non h') : sp__law_read [d] h R Y := by
  unfold sp__law_read
  exact ⟨d, rfl, hd, hR, hN⟩
theorem spoilt_in {t : Addr} {x : Str} (hT : Tp h t) (h0 : 0 < x.length) (h1 : x.length ≤ 1000) (k : ∀ y h', y.length ≤ 3000 → Tp h' t → But t h h' → R (.str y) h') : sp__law_spoilt [.obj t, .str x] h R Y := by
  unfold sp__law_spoilt
  exact ⟨t, x, rfl, hT, h0, h1, k⟩
end
theorem pk__law_read : Pk 1 0 sp__law_read w__law_read := by
  intro ds h R _ q
  unfold sp__law_read at q
  obtain ⟨d, rfl, hd, hR, hN⟩ := q
  exact ⟨d, rfl, hd, fun n ps X Z a h' q1 q2 q3 => hR n ps X Z a h' q1 q2 q3, fun q1 h' q2 => ⟨rfl, hN q1 h' q2⟩⟩
def odds : List Str := ["", "X", "Z", "I", " ", "\n", "+", "-", "1", "x"]
theorem odds_len : ∀ s ∈ odds, s.length ≤ 1 := by decide +kernel
theorem pk__law_spoilt : Pk 2 2 sp__law_spoilt w__law_spoilt := by
  intro ds h R _ q
  unfold sp__law_spoilt at q
  obtain ⟨t, x, rfl, hT, h0, h1, k⟩ := q
  refine ⟨lenLine (by omega), ?_⟩
  refine draw hT (by omega) (by omega) fun v ha v0 v1 hT1 hb1 => ?_
  change w__law_spoilt_1 (Fi R) ⟨[.f (.obj t), .f (.str x), .f (.int v), .u], ha⟩
  refine draw hT1 (by decide) (by decide) fun u hb u0 u1 hT2 hb2 => ?_
  obtain ⟨s, hs, e⟩ := atI_map (f := D.str) (xs := odds) u0 u1
  have hs1 := odds_len s (List.mem_of_getElem? hs)
  refine ⟨.str s, e, ?_⟩
  change w__law_spoilt_2 (Fi R) ⟨[.f (.obj t), .f (.str x), .f (.int v), .f (.str s)], hb⟩
  have c1 := cutS_len x none (some v)
  refine ⟨lenLine (by omega), lenLine (by show (cutS x none (some v)).length + s.length ≤ _; omega), ?_⟩
  refine draw hT2 (by decide) (by decide) fun u2 hc u20 u21 hT3 hb3 => ?_
  have c2 := cutS_len x (some (v + u2)) none
  refine ⟨lenLine (by omega), lenLine (by show (cutS x none (some v) ++ s).length + (cutS x (some (v + u2)) none).length ≤ _; rw [app_len]; omega), ?_⟩
  exact k _ _ (by rw [app_len, app_len]; omega) hT3 ((hb1.trans hb2).trans hb3)
/-! ### methods -/
theorem pk_Code_logical : Pk 2 3 sp_Code_logical w_Code_logical := by
  rintro ds h R _ ⟨o, k, n, ps, X, Z, rfl, h1, h4, hc, hR⟩
  have b := hc.ok.b13
  have at_ := hc.at_
  have c : k = 1 ∨ k = 2 ∨ k = 3 := by omega
  rcases c with rfl | rfl | rfl
  · refine brT (by decide +kernel) ?_
    exact ⟨o, _, _, rfl, at_, rfl, hR⟩
  · refine brF (by decide +kernel) (brT (by decide +kernel) ?_)
    exact ⟨o, _, _, rfl, at_, rfl, hR⟩
  · refine brF (by decide +kernel) (brF (by decide +kernel) ?_)
    refine ⟨o, _, _, rfl, at_, rfl, o, _, _, rfl, at_, rfl, X, Z, rfl, b.2.1.s, b.2.2.s, Nat.lt_of_lt_of_le b.2.1.z (Nat.pow_le_pow_right (by decide) (by decide)), ?_⟩
    refine ⟨rfl, ?_⟩
    show R (.tup [.int (prd X Z).x, .int (prd X Z).z, .int (1 - ((prd X Z).s : Int))]) h
    have e : (1 : Int) - ((prd X Z).s : Int) = ((1 - (prd X Z).s : Nat) : Int) := by
      have := prd_s X Z
      omega
    rw [e]
    exact hR
theorem pk_Code_coset : Pk 2 3 sp_Code_coset w_Code_coset := by
  rintro ds h R _ ⟨o, p, n, ps, X, Z, rfl, hp, hc, h9, hR⟩
  have l5 : ps.length ≤ 8 := by have := hc.ok.2.2.1; omega
  have b := hc.ok.b13
  refine ⟨o, _, _, rfl, hc.at_, rfl, ?_⟩
  have loop : ∀ (qs dn : List Pa) (u3 u4 : Sl), ps = dn ++ qs → (∀ d, u4 ≠ .o d) → wForL (gVar 3) w_Code_coset_b1 { Fi R with nx := w_Code_coset_2 (Fi R) } (qs.map Pa.e) ⟨[.f (.obj o), .f p.e, .f (.lst ((pms [p] dn).map Pa.e)), u3, u4], h⟩ := fun qs => by
    induction qs with
    | nil =>
      intro dn u3 u4 e _
      rw [List.append_nil] at e
      rw [← e]
      exact hR
    | cons q qs ih =>
      intro dn u3 u4 e n4
      have hq : q ∈ ps := by rw [e]; simp
      have hlen : (pms [p] dn).length ≤ 256 := by
        rw [pms_len]
        have h1 : dn.length ≤ ps.length := by rw [e, List.length_append]; omega
        have : 2 ^ dn.length ≤ 2 ^ 8 := Nat.pow_le_pow_right (by decide) (by omega)
        show 1 * _ ≤ 256
        omega
      have bd : ∀ a ∈ pms [p] dn, Bd 13 a := prods_bd (fun a ha => by rw [List.mem_singleton.mp ha]; exact hp) fun a ha => b.1 a (by rw [e]; exact List.mem_append_left _ ha)
      have no4 : noOwn [.f (.obj o), .f p.e, .f (.lst ((pms [p] dn).map Pa.e)), .f q.e, u4] [4] = true := by
        cases u4 with
        | o d => exact absurd rfl (n4 d)
        | u => rfl
        | f d => rfl
      refine forv ?_
      refine ⟨no4, (by show ((pms [p] dn).map Pa.e).length ≤ 1000000; rw [List.length_map]; omega), ?_⟩
      refine lcL_inv' (f := Pa.e) (e := fun a => (prd a q).e) (fun a ha C hC => ?_) ?_
      · refine brT rfl ⟨a, q, rfl, (bd a ha).s, (b.1 q hq).s, Nat.lt_of_lt_of_le (bd a ha).z (Nat.pow_le_pow_right (by decide) (by decide)), ?_⟩
        exact ⟨rfl, hC⟩
      · refine ⟨lenLine ?_, ?_⟩
        · rw [List.nil_append, List.length_map, List.length_map]; omega
        · have x := ih (dn ++ [q]) (.f q.e) u4 (by rw [e]; simp) n4
          have e4 : (pms [p] dn).map Pa.e ++ ([] ++ (pms [p] dn).map fun a => (prd a q).e) = (pms [p] (dn ++ [q])).map Pa.e := by
            rw [pms_snoc, List.map_append, List.map_map]
            rfl
          rw [← e4] at x
          exact x
  exact loop ps [] .u .u rfl (fun d z => nomatch z)
theorem pk_Code_least_logical : Pk 1 3 sp_Code_least_logical w_Code_least_logical := by
  rintro ds h R _ ⟨o, n, ps, X, Z, rfl, hc, h9, kk⟩
  have b := hc.ok.b13
  have l5 : ps.length ≤ 8 := by have := hc.ok.2.2.1; omega
  refine ⟨rfl, by decide, ?_⟩
  refine lcL_inv' (f := fun k : Nat => D.str (nmS k)) (e := fun k : Nat => (lst (pms [lgc X Z k] ps)).e) (rs := [1, 3, 2]) (fun k hk C hC => ?_) ?_
  · have hk4 : 1 ≤ k ∧ k < 4 := by
      simp only [List.mem_cons, List.not_mem_nil, or_false] at hk
      omega
    refine brT rfl ⟨o, _, rfl, hc.at_, rfl, o, _, rfl, hc.at_, rfl, o, k, n, ps, X, Z, rfl, hk4.1, hk4.2, hc, ?_⟩
    refine ⟨o, lgc X Z k, n, ps, X, Z, rfl, bd_lgc b.2.1 b.2.2 k, hc, h9, ?_⟩
    obtain ⟨k1, k2, k3, k5⟩ := key_facts rank_key (l := pms [lgc X Z k] ps) (h := h)
    have pl : (pms [lgc X Z k] ps).length ≤ 256 := by
      rw [pms_len]
      have : 2 ^ ps.length ≤ 2 ^ 8 := Nat.pow_le_pow_right (by decide) l5
      show 1 * _ ≤ 256
      omega
    refine ⟨fun e => pms_ne _ _ (List.map_eq_nil_iff.mp e), kfR, k1, k2, k3, k5, by rw [List.length_map]; exact lenLine (by omega), ?_⟩
    rw [min_val (pms_ne (lgc X Z k) ps)]
    exact ⟨rfl, hC⟩
  · show w_Code_least_logical_1 (Fi R) ⟨[.f (.obj o), .f (.lst (([1, 3, 2].map fun k => lst (pms [lgc X Z k] ps)).map Pa.e)), .u, .u], h⟩
    obtain ⟨k1, k2, k3, k5⟩ := key_facts rank_key (l := [1, 3, 2].map fun k => lst (pms [lgc X Z k] ps)) (h := h)
    refine ⟨fun e => by simp at e, kfR, k1, k2, k3, k5, by show 3 ≤ _; exact lenLine (by decide), ?_⟩
    rw [min_val (l := [1, 3, 2].map fun k => lst (pms [lgc X Z k] ps)) (by simp)]
    refine ⟨_, rfl, _, rfl, ?_⟩
    exact kk
theorem pk_Code_distance : Pk 1 0 sp_Code_distance w_Code_distance := by
  rintro ds h R _ ⟨o, n, ps, X, Z, rfl, hc, h9, kk⟩
  refine ⟨o, _, rfl, hc.at_, rfl, o, n, ps, X, Z, rfl, hc, h9, ?_⟩
  exact ⟨_, rfl, _, rfl, kk⟩
end K07

set_option Elab.async false
set_option linter.all false
set_option maxRecDepth 100000
set_option maxHeartbeats 400000
/-! P8_k07: the known codes -/
namespace K07
open PySem PySem.Spec PyProof.Rows L2 VL VL.P VL.C
def ysA (p : Nat) : List Str := (List.range 13).map fun k => if k = (p + 12) % 13 then "Z" else if k = (p + 11) % 13 then "Z" else if k = (p + 2) % 13 then "Z" else if k = (p + 1) % 13 then "Z" else if k = p then "X" else "I"
def strA (p : Nat) : Str := (Str.ofString "+") ++ Txt.join (Str.ofString "") (ysA p)
theorem strA_po : ∀ p : Fin 13, po (strA p.1) = some (ar p.1) := by decide +kernel
def lenB (p : Nat) : Bool := Nat.ble (strA p).length 30 && (Nat.ble ((ysA p).map (·.length)).sum 100 && Nat.ble (Txt.join (Str.ofString "") (ysA p)).length 100)
theorem lenA : ∀ p : Fin 13, lenB p.1 = true := by decide +kernel
theorem around_end {R : D → Oh → Prop} {h : Oh} {p : Nat} (hp : p < 13) {u2 : Sl} {ds : List D} (e : ds = (ysA p).map D.str) (hR : R (ar p).e h) : w_around_3 (Fi R) ⟨[.f (.int p), .o (.lst ds), u2], h⟩ := by
  subst e
  have h1 := strA_po ⟨p, hp⟩
  have hl := lenA ⟨p, hp⟩
  unfold lenB at hl
  rw [Bool.and_eq_true, Bool.and_eq_true, Nat.ble_eq, Nat.ble_eq, Nat.ble_eq] at hl
  obtain ⟨h2, h3, h4⟩ := hl
  dsimp only at h1 h2 h3 h4
  have e0 : (Str.ofString "").length = 0 := rfl
  have e1 : (Str.ofString "+").length = 1 := by decide +kernel
  have b1 : ((ysA p).map (·.length)).sum + (ysA p).length * (Str.ofString "").length ≤ 16777216 := by rw [e0, Nat.mul_zero]; omega
  refine ⟨ysA p, rfl, b1, ?_⟩
  refine ⟨lenLine (by rw [e1]; omega), ?_⟩
  refine ⟨strA p, rfl, h2, fun q hq => ?_, fun hn => ?_⟩
  · have e : q = ar p := Option.some.inj (hq.symm.trans h1)
    rw [e]
    exact hR
  · exact absurd (hn.symm.trans h1) (by simp)
theorem pk_around : Pk 1 2 sp_around w_around := by
  rintro ds h R _ ⟨p, rfl, hp, hR⟩
  have fin := fun (u2 : Sl) (ds : List D) (e : ds = (ysA p).map D.str) => around_end (R := R) (h := h) (u2 := u2) (show p < 13 by omega) e hR
  have c : p = 0 ∨ p = 1 ∨ p = 2 ∨ p = 3 ∨ p = 4 ∨ p = 5 ∨ p = 6 ∨ p = 7 ∨ p = 8 ∨ p = 9 ∨ p = 10 ∨ p = 11 ∨ p = 12 := by omega
  rcases c with rfl | rfl | rfl | rfl | rfl | rfl | rfl | rfl | rfl | rfl | rfl | rfl | rfl
  all_goals
    refine ⟨by decide, by decide, by decide, ?_⟩
    refine ⟨⟨_, rfl⟩, _, _, _, rfl, rfl, rfl, ?_⟩
    show wForL (gVar 2) w_around_b1 { Fi R with nx := w_around_3 (Fi R) } [.int 1, .int 2, .int 11, .int 12] ⟨[.f (.int _), .o (.lst _), .u], h⟩
    refine forv ?_
    refine ⟨⟨_, rfl⟩, by decide, _, _, _, rfl, rfl, rfl, ?_⟩
    dsimp only
    refine forv ?_
    refine ⟨⟨_, rfl⟩, by decide, _, _, _, rfl, rfl, rfl, ?_⟩
    dsimp only
    refine forv ?_
    refine ⟨⟨_, rfl⟩, by decide, _, _, _, rfl, rfl, rfl, ?_⟩
    dsimp only
    refine forv ?_
    refine ⟨⟨_, rfl⟩, by decide, _, _, _, rfl, rfl, rfl, ?_⟩
    dsimp only
    exact fin _ _ rfl
end K07

set_option Elab.async false
set_option linter.all false
set_option maxRecDepth 100000
set_option maxHeartbeats 400000
/-! P9_k07: the known codes are codes -/
namespace K07
open PySem PySem.Spec PyProof.Rows L2 VL VL.P VL.C
/-- put into a descending list -/
def insd (v : Nat) : List Nat → List Nat
  | [] => [v]
  | x :: xs => if v ≤ x then x :: insd v xs else v :: x :: xs
theorem insd_perm (v : Nat) : ∀ l, (insd v l).Perm (l ++ [v])
  | [] => .refl _
  | x :: xs => by
    unfold insd
    split
    · exact (insd_perm v xs).cons x
    · exact (List.perm_append_comm (l₁ := [v]) (l₂ := x :: xs))
theorem insd_mem {v y : Nat} {l : List Nat} (h : y ∈ insd v l) : y = v ∨ y ∈ l := by
  have := (insd_perm v l).mem_iff.mp h
  rcases List.mem_append.mp this with z | z
  · exact .inr z
  · exact .inl (List.mem_singleton.mp z)
theorem insd_sorted (v : Nat) : ∀ {l : List Nat}, l.Pairwise (· ≥ ·) → (insd v l).Pairwise (· ≥ ·)
  | [], _ => List.pairwise_singleton _ _
  | x :: xs, h => by
    obtain ⟨h1, h2⟩ := List.pairwise_cons.mp h
    unfold insd
    split
    · rename_i q
      refine List.pairwise_cons.mpr ⟨fun y hy => ?_, insd_sorted v h2⟩
      rcases insd_mem hy with rfl | hy
      · exact q
      · exact h1 y hy
    · rename_i q
      refine List.pairwise_cons.mpr ⟨fun y hy => ?_, h⟩
      rcases List.mem_cons.mp hy with rfl | hy
      · show y ≤ v
        omega
      · have : x ≥ y := h1 y hy
        show y ≤ v
        omega
def gs : List Nat → List Nat → Bool
  | _, [] => true
  | R, v :: vs => !(red R v == 0) && gs (insd (red R v) R) vs
theorem gs_ok {n : Nat} : ∀ (qs done : List Pa) (rows : List Nat), (∀ p ∈ done ++ qs, Bd n p) → (spP (done.map mk)).Nodup → Bas rows → rows.Pairwise (· ≥ ·) → (∀ u, Sp rows u ↔ Sp ((done.map mk).map (vx n)) u) →
    gs rows (qs.map fun p => vx n (mk p)) = true → (spP ((done ++ qs).map mk)).Nodup
  | [], done, rows, _, hd, _, _, _, _ => by rw [List.append_nil]; exact hd
  | p :: qs, done, rows, hb, hd, hB, hP, hS, hg => by
    have hbp : Bd n p := hb p (by simp)
    have hbd : ∀ q ∈ done, Bd n q := fun q hq => hb q (List.mem_append_left _ hq)
    rw [List.map_cons] at hg
    unfold gs at hg
    rw [Bool.and_eq_true] at hg
    obtain ⟨g1, g2⟩ := hg
    have q' : red rows (vx n (mk p)) ≠ 0 := by simpa using g1
    have key := red_zero (v := vx n (mk p)) hB
    rw [hS] at key
    obtain ⟨b1, b2⟩ := bas_more hB q' (insd_perm _ rows) (insd_sorted _ hP)
    have e5 : ((done ++ [p]).map mk).map (vx n) = (done.map mk).map (vx n) ++ [vx n (mk p)] := by rw [List.map_append, List.map_append]; rfl
    have r := gs_ok qs (done ++ [p]) (insd (red rows (vx n (mk p))) rows) (by rw [List.append_assoc]; exact hb) ((indep_cons hbd hbp).mpr ⟨hd, fun z => q' (key.mpr z)⟩) b1 (insd_sorted _ hP) (fun u => by
      rw [b2, hS, hS, e5]
      refine (Sp.cons (l := (done.map mk).map (vx n)) (v := vx n (mk p)) (s := u)).symm.trans ⟨fun s => s.mono fun x hx => ?_, fun s => s.mono fun x hx => ?_⟩
      · rcases List.mem_cons.mp hx with rfl | z
        · exact List.mem_append_right _ (List.mem_singleton.mpr rfl)
        · exact List.mem_append_left _ z
      · rcases List.mem_append.mp hx with z | z
        · exact List.mem_cons_of_mem _ z
        · rw [List.mem_singleton.mp z]; exact List.mem_cons_self) g2
    rw [List.append_assoc] at r
    exact r
def chk (c : Nat × List Pa × Pa × Pa) : Bool :=
  decide (1 ≤ c.1) && decide (c.1 ≤ 13) && decide (c.2.1.length + 1 = c.1) && c.2.1.all (fun p => decide (Bd c.1 p)) && decide (Bd c.1 c.2.2.1) && decide (Bd c.1 c.2.2.2) &&
  c.2.1.all (fun r => cmt r c.2.2.1 && cmt r c.2.2.2 && c.2.1.all (cmt r)) && gs [] (c.2.1.map fun p => vx c.1 (mk p)) && !cmt c.2.2.1 c.2.2.2
theorem chk_isC {n : Nat} {ps : List Pa} {X Z : Pa} (h : chk (n, ps, X, Z) = true) : IsC n ps X Z := by
  unfold chk at h
  simp only [Bool.and_eq_true, decide_eq_true_eq] at h
  obtain ⟨⟨⟨⟨⟨⟨⟨⟨h1, h2⟩, h3⟩, h4⟩, h5⟩, h6⟩, h7⟩, h8⟩, h9⟩ := h
  have hb : ∀ p ∈ ps, Bd n p := fun p hp => of_decide_eq_true (List.all_eq_true.mp h4 p hp)
  have nd := gs_ok (n := n) ps [] [] (by rw [List.nil_append]; exact hb) (by decide) ⟨(fun r h => by cases h), List.Pairwise.nil⟩ List.Pairwise.nil (fun u => Iff.rfl) h8
  rw [List.nil_append] at nd
  refine ⟨h1, h2, h3, hb, h5, h6, ?_⟩
  unfold semL
  rw [h7, decide_eq_true nd, h9]
  rfl
theorem kc_chk : ∀ i : Fin 7, chk (kc i.1) = true := by decide +kernel
theorem kc_ok {i : Nat} (h : i ≤ 6) : IsC (kc i).1 (kc i).2.1 (kc i).2.2.1 (kc i).2.2.2 := chk_isC (kc_chk ⟨i, by omega⟩)
theorem kc_dist : ∀ i : Fin 6, (lls (kc i.1).2.1 (kc i.1).2.2.1 (kc i.1).2.2.2).w = [1, 1, 2, 3, 3, 3].getD i.1 0 := by decide +kernel
end K07

set_option Elab.async false
set_option linter.all false
set_option maxRecDepth 100000
set_option maxHeartbeats 400000
/-! Pa_k07: known walked -/
namespace K07
open PySem PySem.Spec PyProof.Rows L2 VL VL.P VL.C
section
variable {R : D → Oh → Prop} {Y : XC} {h : Oh}
/-- a text that is a Pauli's -/
theorem po_in {a : Str} {p : Pa} (hl : a.length ≤ 30) (e : po a = some p) (hR : R p.e h) : sp_pauli_of [.str a] h R Y := by
  refine ⟨a, rfl, hl, fun q hq => ?_, fun hn => absurd (hn.symm.trans e) (by simp)⟩
  have : q = p := Option.some.inj (hq.symm.trans e)
  rw [this]
  exact hR
theorem ar_bd : ∀ k : Fin 13, Bd 13 (ar k.1) := by decide +kernel
theorem kn_make {i : Nat} (hi : i ≤ 6) (hR : ∀ a h', Pres h h' → CodeX h' a (kc i).1 (kc i).2.1 (kc i).2.2.1 (kc i).2.2.2 → R (.obj a) h') (a : Addr) (ha : h a = none) :
    sp_Code___init__ [.obj a, .int (kc i).1, .tup ((kc i).2.1.map Pa.e), (kc i).2.2.1.e, (kc i).2.2.2.e] (h.put a (.ins "Code" [])) (fun r h' => r = .non ∧ R (.obj a) h') NX := by
  have c := kc_ok hi
  obtain ⟨h1, h2, h3, h4, h5, h6, h7⟩ := c
  exact rd_make h1 h2 h3 h4 h5 h6 (fun _ a h' q p => hR a h' p q) (fun q => by rw [h7] at q; cases q) a ha
end
theorem t13 : po (Str.ofString "+" ++ Txt.mul (Str.ofString "Z") 13) = some (pw 0 (List.replicate 13 2)) := by decide +kernel
theorem t13l : (Str.ofString "+" ++ Txt.mul (Str.ofString "Z") 13).length = 14 ∧ (Txt.mul (Str.ofString "Z") 13).length = 13 ∧ (Str.ofString "+").length = 1 := by decide +kernel
theorem mul13 : MulOk (Str.ofString "Z") 13 := by
  unfold MulOk
  decide +kernel
theorem known13 {R : D → Oh → Prop} {Y : XC} {h : Oh} (hR : ∀ a h', Pres h h' → CodeX h' a (kc 6).1 (kc 6).2.1 (kc 6).2.2.1 (kc 6).2.2.2 → R (.obj a) h') : w_known (FiX R Y) ⟨[.f (.str "thirteen"), .u, .u, .u, .u, .u, .u], h⟩ := by
  refine brT (by decide +kernel) ?_
  refine ⟨by decide, rfl, by decide, ?_⟩
  refine lcL_inv' (f := fun k : Nat => D.int (k : Nat)) (e := fun k : Nat => (prd (ar k) (ar (k + 1))).e) (rs := List.range 12) (fun k hk C hC => ?_) ?_
  · have k12 := List.mem_range.mp hk
    have b1 := ar_bd ⟨k, by omega⟩
    have b2 := ar_bd ⟨k + 1, by omega⟩
    refine brT rfl ⟨k, rfl, by omega, k + 1, rfl, by omega, ar k, ar (k + 1), rfl, b1.s, b2.s, Nat.lt_of_lt_of_le b1.z (Nat.pow_le_pow_right (by decide) (by decide)), rfl, hC⟩
  rw [List.nil_append]
  refine ⟨mul13, ?_⟩
  refine ⟨by rw [t13l.2.1, t13l.2.2]; decide, ?_⟩
  refine ⟨_, rfl, by rw [t13l.1]; decide, fun q hq => ?_, fun hn => absurd (hn.symm.trans t13) (by simp)⟩
  have eq : q = pw 0 (List.replicate 13 2) := Option.some.inj (hq.symm.trans t13)
  subst eq
  refine ⟨0, rfl, by decide, ?_⟩
  intro a ha
  have z := kn_make (i := 6) (by decide) hR a ha
  have e : (kc 6).2.1.map Pa.e = (List.range 12).map fun k => (prd (ar k) (ar (k + 1))).e := by
    show ((List.range 12).map fun k => prd (ar k) (ar (k + 1))).map Pa.e = _
    rw [List.map_map]
    rfl
  rw [e] at z
  exact z
/-- the words of a known code -/
def kw : Nat → List (List Nat) × List Nat × List Nat
  | 0 => ([], [1], [2])
  | 1 => ([[2, 2, 0], [0, 2, 2]], [1, 1, 1], [2, 0, 0])
  | 2 => ([[1, 1, 1, 1], [2, 2, 0, 0], [0, 0, 2, 2]], [1, 1, 0, 0], [2, 0, 2, 0])
  | 3 => ([[1, 2, 2, 1, 0], [0, 1, 2, 2, 1], [1, 0, 1, 2, 2], [2, 1, 0, 1, 2]], [1, 1, 1, 1, 1], [2, 2, 2, 2, 2])
  | 4 => ([[0, 0, 0, 1, 1, 1, 1], [0, 1, 1, 0, 0, 1, 1], [1, 0, 1, 0, 1, 0, 1], [0, 0, 0, 2, 2, 2, 2], [0, 2, 2, 0, 0, 2, 2], [2, 0, 2, 0, 2, 0, 2]], [1, 1, 1, 1, 1, 1, 1], [2, 2, 2, 2, 2, 2, 2])
  | _ => ([[2, 2, 0, 0, 0, 0, 0, 0, 0], [0, 2, 2, 0, 0, 0, 0, 0, 0], [0, 0, 0, 2, 2, 0, 0, 0, 0], [0, 0, 0, 0, 2, 2, 0, 0, 0], [0, 0, 0, 0, 0, 0, 2, 2, 0], [0, 0, 0, 0, 0, 0, 0, 2, 2], [1, 1, 1, 1, 1, 1, 0, 0, 0], [0, 0, 0, 1, 1, 1, 1, 1, 1]], [2, 2, 2, 2, 2, 2, 2, 2, 2], [1, 1, 1, 1, 1, 1, 1, 1, 1])
def kwD (t : List (List Nat) × List Nat × List Nat) : D := .tup [.tup (t.1.map fun w => .str (tstr 0 w)), .str (tstr 0 t.2.1), .str (tstr 0 t.2.2)]
def wdb (w : List Nat) : Bool := w.all fun k => Nat.blt k 4
theorem wdb_ok {w : List Nat} (h : wdb w = true) : Wd w := fun k hk => by
  have := List.all_eq_true.mp h k hk
  rw [Nat.blt_eq] at this
  exact this
def kwB (i : Nat) : Bool := (kw i).1.all (fun w => wdb w && Nat.ble w.length 9 && Nat.ble 1 w.length) && (wdb (kw i).2.1 && Nat.ble 1 (kw i).2.1.length && Nat.ble (kw i).2.1.length 9) && (wdb (kw i).2.2 && Nat.ble 1 (kw i).2.2.length && Nat.ble (kw i).2.2.length 9) &&
  decide ((kw i).1.map (pw 0) = (kc i).2.1) && decide (pw 0 (kw i).2.1 = (kc i).2.2.1) && decide (pw 0 (kw i).2.2 = (kc i).2.2.2) && decide ((kw i).2.1.length = (kc i).1) && Nat.ble (kw i).1.length 20
theorem kw_ok : ∀ i : Fin 6, kwB i.1 = true := by decide +kernel
theorem known_tail {R : D → Oh → Prop} {Y : XC} {h : Oh} {i : Nat} (hi : i < 6) (hR : ∀ a h', Pres h h' → CodeX h' a (kc i).1 (kc i).2.1 (kc i).2.2.1 (kc i).2.2.2 → R (.obj a) h') {d : D} :
    w_known_3 (FiX R Y) ⟨[.f d, .u, .f (.tup ((kw i).1.map fun w => .str (tstr 0 w))), .f (.str (tstr 0 (kw i).2.1)), .f (.str (tstr 0 (kw i).2.2)), .u, .u], h⟩ := by
  have ok := kw_ok ⟨i, hi⟩
  unfold kwB at ok
  simp only [Bool.and_eq_true, decide_eq_true_eq, List.all_eq_true, Nat.ble_eq] at ok
  obtain ⟨⟨⟨⟨⟨⟨⟨o1, ⟨o2, o3⟩, o4⟩, ⟨o5, o6⟩, o7⟩, o8⟩, o9⟩, o10⟩, o11⟩, o12⟩ := ok
  have z := fun a ha => kn_make (i := i) (by omega) hR a ha
  rw [← o8, ← o9, ← o10, ← o11] at z
  generalize kw i = t at *
  obtain ⟨rs, x, zz⟩ := t
  dsimp only at *
  have ne : ∀ w : List Nat, 1 ≤ w.length → w ≠ [] := fun w hw e => by rw [e] at hw; cases hw
  have e0 := len1 0 x
  refine ⟨lenLine (by rw [tstr_len]; omega), rfl, by rw [List.length_map]; omega, ?_⟩
  refine lcL_inv' (f := fun w => D.str (tstr 0 w)) (e := fun w => (pw 0 w).e) (rs := rs) (fun w hw C hC => ?_) ?_
  · obtain ⟨⟨w1, w2⟩, w3⟩ := o1 w hw
    refine brT rfl ⟨_, rfl, by rw [tstr_len]; omega, fun q hq => ?_, fun hn => absurd (hn.symm.trans (po_tstr (by decide) (wdb_ok w1) (ne w w3))) (by simp)⟩
    have eq : q = pw 0 w := Option.some.inj (hq.symm.trans (po_tstr (by decide) (wdb_ok w1) (ne w w3)))
    subst eq
    exact ⟨rfl, hC⟩
  rw [List.nil_append]
  refine ⟨_, rfl, by rw [tstr_len]; omega, fun q hq => ?_, fun hn => absurd (hn.symm.trans (po_tstr (by decide) (wdb_ok o2) (ne x o3))) (by simp)⟩
  have eq : q = pw 0 x := Option.some.inj (hq.symm.trans (po_tstr (by decide) (wdb_ok o2) (ne x o3)))
  subst eq
  refine ⟨_, rfl, by rw [tstr_len]; omega, fun q hq => ?_, fun hn => absurd (hn.symm.trans (po_tstr (by decide) (wdb_ok o5) (ne zz o6))) (by simp)⟩
  have eq : q = pw 0 zz := Option.some.inj (hq.symm.trans (po_tstr (by decide) (wdb_ok o5) (ne zz o6)))
  subst eq
  intro a ha
  have z := z a ha
  rw [List.map_map] at z
  show sp_Code___init__ (.obj a :: [.int (((tstr 0 x).length : Int) - 1), .tup (rs.map fun w => (pw 0 w).e), (pw 0 x).e, (pw 0 zz).e]) _ _ _
  rw [e0]
  exact z
theorem tab_row : ∀ i : Fin 6, lookS k_ROWS (nm i.1) = some (kwD (kw i.1)) := by
  intro i
  match i with
  | ⟨0, _⟩ => rfl
  | ⟨1, _⟩ => rfl
  | ⟨2, _⟩ => rfl
  | ⟨3, _⟩ => rfl
  | ⟨4, _⟩ => rfl
  | ⟨5, _⟩ => rfl
theorem not13 : ∀ i : Fin 6, ((nm i.1 == Str.ofString "thirteen") = false) ∧ inOk (.str (nm i.1)) [.str "one", .str "three", .str "four", .str "five", .str "seven", .str "nine", .str "thirteen"] = true ∧
    inD (.str (nm i.1)) [.str "one", .str "three", .str "four", .str "five", .str "seven", .str "nine", .str "thirteen"] = true := by decide +kernel
theorem pk_known : PkX 1 6 sp_known w_known := by
  rintro ds h R Y _ ⟨i, rfl, hi, hR⟩
  by_cases h6 : i = 6
  · subst h6
    exact known13 hR
  · have i6 : i < 6 := by omega
    obtain ⟨n1, n2, n3⟩ := not13 ⟨i, i6⟩
    refine brF n1 ?_
    refine ⟨n2, brF (by show (!inD (.str (nm i)) _) = false; rw [n3]; rfl) ?_⟩
    refine ⟨_, tab_row ⟨i, i6⟩, rfl, ?_⟩
    exact known_tail i6 hR
end K07

set_option Elab.async false
set_option linter.all false
set_option maxRecDepth 100000
set_option maxHeartbeats 400000
/-! Pb_k07: the law -/
namespace K07
open PySem PySem.Spec PyProof.Rows L2 VL VL.P VL.C
def bads : List D := [.non, .int 5, .str "", .str "code 1", .str "code 0\n", .lst [.str "code 1"], .str "code 1\nx +X\nz +X\n", .str "code 01\nx +X\nz +Z\n"]
theorem bads_none : bads.all (fun d => (asC d).isNone && strO d) = true := by decide +kernel
theorem Tp.pres {h h' : Oh} {a : Addr} (T : Tp h a) (p : Pres h h') : Tp h' a := by
  obtain ⟨ns, i, r, s, q, q2⟩ := T
  exact ⟨ns, i, r, s, p _ _ q, q2⟩
mutual
theorem eqD_self : ∀ (n : Nat) (d : D), shD n d = true → eqD d d = true
  | _, .non, _ => rfl
  | _, .bl _, _ => by unfold eqD; simp
  | _, .int _, _ => by unfold eqD; simp
  | _, .str _, _ => by unfold eqD; simp
  | n + 1, .tup ds, h => by unfold shD at h; unfold eqD; exact eqDs_self n ds h
  | n + 1, .lst ds, h => by unfold shD at h; unfold eqD; exact eqDs_self n ds h
  | 0, .tup _, h => by unfold shD at h; cases h
  | 0, .lst _, h => by unfold shD at h; cases h
  | _, .dct _ _, h => by unfold shD at h; cases h
  | _, .dcu _ _, h => by unfold shD at h; cases h
  | _, .obj _, h => by unfold shD at h; cases h
  | _, .scr _, h => by unfold shD at h; cases h
  | _, .ty _, h => by unfold shD at h; cases h
  | _, .ktp _, h => by unfold shD at h; cases h
theorem eqDs_self : ∀ (n : Nat) (ds : List D), ds.all (shD n) = true → eqDs ds ds = true
  | _, [], _ => rfl
  | n, d :: ds, h => by
    rw [List.all_cons, Bool.and_eq_true] at h
    unfold eqDs
    rw [eqD_self n d h.1, eqDs_self n ds h.2]
    rfl
end
theorem shD_code (n : Nat) (ps : List Pa) (X Z : Pa) : shD 8 (.tup [.int n, .tup (ps.map Pa.e), X.e, Z.e]) = true := by
  have e : (ps.map Pa.e).all (shD 6) = true := by
    rw [List.all_map]
    exact List.all_eq_true.mpr fun p _ => rfl
  show ([.int n, .tup (ps.map Pa.e), X.e, Z.e] : List D).all (shD 7) = true
  rw [List.all_cons, List.all_cons]
  have e2 : shD 7 (.tup (ps.map Pa.e)) = true := e
  rw [e2]
  rfl
theorem mk_code {n : Nat} {ps : List Pa} {X Z : Pa} {h : Oh} {Q : Oh → Prop} {a : Addr} (hc : IsC n ps X Z) (ha : h a = none) (hQ : ∀ h', CodeX h' a n ps X Z → Pres h h' → Q h') :
    sp_Code___init__ [.obj a, .int n, .tup (ps.map Pa.e), X.e, Z.e] (h.put a (.ins "Code" [])) (fun r h' => r = .non ∧ Q h') NX := by
  obtain ⟨i1, i2, i3, i4, i5, i6, i7⟩ := hc
  have z := rd_make (R := fun d h' => d = .obj a → Q h') (Y := NX) i1 i2 i3 i4 i5 i6 (fun _ b h' cx pr e => by cases e; exact hQ h' cx pr) (fun q => by rw [i7] at q; cases q) a ha
  obtain ⟨a', n', g, x, z', e, dom, at_, ok, no⟩ := z
  exact ⟨a', n', g, x, z', e, dom, at_, fun q => ⟨(ok q).1, (ok q).2 rfl⟩, no⟩
def stL (s0 : D) (a : Addr) (u2 u3 u4 u5 u6 u7 u8 u9 u10 u11 u12 u13 u14 : Sl) (h : Oh) : Sg := ⟨[.f s0, .f (.obj a), u2, u3, u4, u5, u6, u7, u8, u9, u10, u11, u12, u13, u14], h⟩
theorem same_str (a : Str) : (!(a == a)) = false := by simp
theorem law_turn {T : We} {s0 : D} {a : Addr} {u2 u3 u4 u5 u6 u7 u8 u9 u10 u11 u12 u13 u14 : Sl} {h : Oh} (hT : Tp h a) (k : ∀ u7 u8 u9 u10 u11 u12 u13 u14 h', Tp h' a → T.nx (stL s0 a u2 u3 u4 u5 u6 u7 u8 u9 u10 u11 u12 u13 u14 h')) :
    w_law_b1 T (stL s0 a u2 u3 u4 u5 u6 u7 u8 u9 u10 u11 u12 u13 u14 h) := by
  refine ⟨rfl, ?_⟩
  refine draw hT (by decide) (by decide) fun v h1 v0 v1 hT1 _ => ?_
  obtain ⟨v', rfl⟩ := Int.eq_ofNat_of_zero_le v0
  have hv : v' < cds.length := by show v' < 6; omega
  refine ⟨cdD cds[v'], VL.C.atI_nat (by rw [List.getElem?_map, List.getElem?_eq_getElem hv]; rfl), ?_⟩
  refine changed (List.getElem_mem hv) hT1 fun n ps X Z h2 hn hc hT2 _ => ?_
  refine ⟨rfl, ?_⟩
  change w_law_b1_1 T (stL s0 a u2 u3 u4 u5 u6 u7 u8 u9 u10 (.f (.int n)) (.f (.lst (ps.map Pa.e))) (.f X.e) (.f Z.e) h2)
  refine ⟨n, ps, X, Z, rfl, hc, ?_⟩
  change w_law_b1_2 T (stL s0 a u2 u3 u4 u5 u6 (.f (.str (ctx n ps X Z))) u8 u9 u10 (.f (.int n)) (.f (.lst (ps.map Pa.e))) (.f X.e) (.f Z.e) h2)
  obtain ⟨cl1, cl2⟩ := ctx_len (X := X) (Z := Z) hc.2.1 hc.2.2.1
  have ac := asC_ctx hc
  refine read_in (by show decide _ = true; exact decide_eq_true (by omega)) (fun n' ps' X' Z' c h3 e cx pr => ?_) (fun e => absurd (e.symm.trans ac) (by simp))
  have ee := e.symm.trans ac
  simp only [Option.some.injEq, Prod.mk.injEq] at ee
  obtain ⟨rfl, rfl, rfl, rfl⟩ := ee
  change w_law_b1_3 T (stL s0 a u2 u3 u4 u5 u6 (.f (.str (ctx n' ps' X' Z'))) (.f (.obj c)) u9 u10 (.f (.int n')) (.f (.lst (ps'.map Pa.e))) (.f X'.e) (.f Z'.e) h3)
  have hT3 := Tp.pres hT2 pr
  refine brF rfl ?_
  refine ⟨c, n', ps', X', Z', rfl, cx, ?_⟩
  refine brF (same_str _) ?_
  refine fun a3 ha2 => mk_code hc ha2 fun h4 cx4 pr4 => ?_
  refine ⟨a3, n', ps', X', Z', rfl, cx4, ?_⟩
  refine brF (same_str _) ?_
  have cy := cx.pres pr4
  have hT4 := Tp.pres hT3 pr4
  change w_law_b1_4 T (stL s0 a u2 u3 u4 u5 u6 (.f (.str (ctx n' ps' X' Z'))) (.f (.obj c)) u9 u10 (.f (.int n')) (.f (.lst (ps'.map Pa.e))) (.f X'.e) (.f Z'.e) h4)
  refine ⟨c, _, _, rfl, cy.at_, rfl, c, _, _, rfl, cy.at_, rfl, c, _, _, rfl, cy.at_, rfl, c, _, _, rfl, cy.at_, rfl, ?_⟩
  have sh := shD_code n' ps' X' Z'
  refine ⟨sh, sh, ?_⟩
  refine brF (by show (!eqD _ _) = false; rw [eqD_self 8 _ sh]; rfl) ?_
  change w_law_b1_5 T (stL s0 a u2 u3 u4 u5 u6 (.f (.str (ctx n' ps' X' Z'))) (.f (.obj c)) u9 u10 (.f (.int n')) (.f (.lst (ps'.map Pa.e))) (.f X'.e) (.f Z'.e) h4)
  refine spoilt_in hT4 cl2 (by omega) fun y h5 hy hT5 _ => ?_
  change w_law_b1_6 T (stL s0 a u2 u3 u4 u5 u6 (.f (.str (ctx n' ps' X' Z'))) (.f (.obj c)) (.f (.str y)) u10 (.f (.int n')) (.f (.lst (ps'.map Pa.e))) (.f X'.e) (.f Z'.e) h5)
  refine read_in (by show decide _ = true; exact decide_eq_true (by omega)) (fun n2 ps2 X2 Z2 o h6 e cx2 pr2 => ?_) (fun e h6 pr2 => ?_)
  · refine brT rfl ?_
    refine ⟨o, n2, ps2, X2, Z2, rfl, cx2, ?_⟩
    obtain ⟨ey, _⟩ := asC_some e
    refine brF (by show (!(ctx n2 ps2 X2 Z2 == y)) = false; rw [ey]; exact same_str _) ?_
    exact k _ _ _ _ _ _ _ _ h6 (Tp.pres hT5 pr2)
  · refine brF rfl (brF rfl ?_)
    exact k _ _ _ _ _ _ _ _ h6 (Tp.pres hT5 pr2)
theorem law_loop {T : We} {s0 : D} {a : Addr} {u3 u4 u5 u6 : Sl} (k : ∀ u2 u7 u8 u9 u10 u11 u12 u13 u14 h', Tp h' a → T.nx (stL s0 a u2 u3 u4 u5 u6 u7 u8 u9 u10 u11 u12 u13 u14 h')) : ∀ (l : List D) (u2 u7 u8 u9 u10 u11 u12 u13 u14 : Sl) (h : Oh), Tp h a →
    wForL (gVar 2) w_law_b1 T l (stL s0 a u2 u3 u4 u5 u6 u7 u8 u9 u10 u11 u12 u13 u14 h)
  | [], _, _, _, _, _, _, _, _, _, h, hT => k _ _ _ _ _ _ _ _ _ h hT
  | d :: l, u2, u7, u8, u9, u10, u11, u12, u13, u14, h, hT => by
    refine forv ?_
    exact law_turn (u2 := .f d) hT fun u7 u8 u9 u10 u11 u12 u13 u14 h' hT' => law_loop k l _ _ _ _ _ _ _ _ _ h' hT'
theorem bad_loop {T : We} {s0 : D} {a : Addr} {u2 u4 u5 u6 u7 u8 u9 u10 u11 u12 u13 u14 : Sl} (k : ∀ u3 h', Tp h' a → T.nx (stL s0 a u2 u3 u4 u5 u6 u7 u8 u9 u10 u11 u12 u13 u14 h')) : ∀ (l : List D) (u3 : Sl) (h : Oh), l.all (fun d => (asC d).isNone && strO d) = true → Tp h a →
    wForL (gVar 3) w_law_b2 T l (stL s0 a u2 u3 u4 u5 u6 u7 u8 u9 u10 u11 u12 u13 u14 h)
  | [], u3, h, _, hT => k u3 h hT
  | d :: l, u3, h, hl, hT => by
    rw [List.all_cons, Bool.and_eq_true, Bool.and_eq_true] at hl
    obtain ⟨⟨e1, e2⟩, e3⟩ := hl
    have en : asC d = none := Option.isNone_iff_eq_none.mp e1
    refine forv ?_
    refine read_in e2 (fun n ps X Z o h' e _ _ => absurd (e.symm.trans en) (by simp)) (fun _ h' pr => ?_)
    refine brF rfl ?_
    exact bad_loop k l _ h' e3 (Tp.pres hT pr)
end K07

set_option Elab.async false
set_option linter.all false
set_option maxRecDepth 100000
set_option maxHeartbeats 400000
/-! Pc_k07: the law's end -/
namespace K07
open PySem PySem.Spec PyProof.Rows L2 VL VL.P VL.C
theorem names_at : ∀ v : Fin 6, atI [D.str "one", .str "three", .str "four", .str "five", .str "seven", .str "nine", .str "thirteen"] ((v.1 : Nat) : Int) = some (.str (nm v.1)) := by
  intro v
  match v with
  | ⟨0, _⟩ => rfl
  | ⟨1, _⟩ => rfl
  | ⟨2, _⟩ => rfl
  | ⟨3, _⟩ => rfl
  | ⟨4, _⟩ => rfl
  | ⟨5, _⟩ => rfl
def toldD : Nat → D
  | 0 => .tup [.int 1, .int 1]
  | 1 => .tup [.int 3, .int 1]
  | 2 => .tup [.int 4, .int 2]
  | 3 => .tup [.int 5, .int 3]
  | 4 => .tup [.int 7, .int 3]
  | _ => .tup [.int 9, .int 3]
theorem told_at : ∀ v : Fin 6, atI [D.tup [.int 1, .int 1], .tup [.int 3, .int 1], .tup [.int 4, .int 2], .tup [.int 5, .int 3], .tup [.int 7, .int 3], .tup [.int 9, .int 3]] ((v.1 : Nat) : Int) = some (toldD v.1) := by
  intro v
  match v with
  | ⟨0, _⟩ => rfl
  | ⟨1, _⟩ => rfl
  | ⟨2, _⟩ => rfl
  | ⟨3, _⟩ => rfl
  | ⟨4, _⟩ => rfl
  | ⟨5, _⟩ => rfl
theorem told_is {v : Nat} (h : v < 6) : (.tup [.int (kc v).1, .int ((lls (kc v).2.1 (kc v).2.2.1 (kc v).2.2.2).w : Nat)] : D) = toldD v := by
  have e := kc_dist ⟨v, h⟩
  dsimp only at e
  rw [e]
  have c : v = 0 ∨ v = 1 ∨ v = 2 ∨ v = 3 ∨ v = 4 ∨ v = 5 := by omega
  rcases c with rfl | rfl | rfl | rfl | rfl | rfl <;> rfl
theorem kc_n9 {v : Nat} (h : v < 6) : (kc v).1 ≤ 9 := by
  have c : v = 0 ∨ v = 1 ∨ v = 2 ∨ v = 3 ∨ v = 4 ∨ v = 5 := by omega
  rcases c with rfl | rfl | rfl | rfl | rfl | rfl <;> decide
theorem great_is : ((.tup [.int (kc 6).1, (kc 6).2.2.2.e, (kc 6).2.2.1.e] : D)) = .tup [.int 13, (wpa [1, 2, 2, 0, 0, 0, 0, 0, 0, 0, 0, 2, 2] 0).e, .tup [.int 0, .int 8191, .int 0]] := by
  have e1 : (kc 6).2.2.2 = wpa [1, 2, 2, 0, 0, 0, 0, 0, 0, 0, 0, 2, 2] 0 := by decide +kernel
  have e2 : (kc 6).2.2.1 = ⟨0, 8191, 0⟩ := by decide +kernel
  rw [e1, e2]
  rfl
theorem pk_law : Pk 1 14 sp_law w_law := by
  rintro ds h R _ ⟨ns, rfl, hl, hR⟩
  intro a ha
  have hT : Tp (h.put a (.ml [.lst (ns.map .int), .int 0, .int 0, .int 19])) a := ⟨ns, 0, 0, 19, Oh.put_same, hl, by decide, by decide, by decide, by decide⟩
  change w_law_1 (Fi R) (stL (.scr ns) a .u .u .u .u .u .u .u .u .u .u .u .u .u (h.put a (.ml [.lst (ns.map .int), .int 0, .int 0, .int 19])))
  refine draw hT (by decide) (by decide) fun v h1 v0 v1 hT1 _ => ?_
  refine ⟨⟨by omega, by omega⟩, ?_⟩
  refine law_loop (T := { Fi R with nx := w_law_2 (Fi R) }) (fun u2 u7 u8 u9 u10 u11 u12 u13 u14 h2 hT2 => ?_) _ _ _ _ _ _ _ _ _ _ _ hT1
  refine bad_loop (T := { Fi R with nx := w_law_3 (Fi R) }) (fun u3 h3 hT3 => ?_) bads _ h2 bads_none hT2
  change w_law_3 (Fi R) (stL (.scr ns) a u2 u3 .u .u .u u7 u8 u9 u10 u11 u12 u13 u14 h3)
  refine ⟨by decide +kernel, by decide +kernel, ?_⟩
  refine brF (by decide +kernel) ?_
  change w_law_4 (Fi R) (stL (.scr ns) a u2 u3 .u .u .u u7 u8 u9 u10 u11 u12 u13 u14 h3)
  refine draw hT3 (by decide) (by decide) fun w h4 w0 w1 hT4 _ => ?_
  obtain ⟨v, rfl⟩ := Int.eq_ofNat_of_zero_le w0
  have hv : v < 6 := by omega
  change w_law_5 (Fi R) (stL (.scr ns) a u2 u3 (.f (.int v)) .u .u u7 u8 u9 u10 u11 u12 u13 u14 h4)
  refine ⟨_, names_at ⟨v, hv⟩, v, rfl, by show v ≤ 6; omega, fun o h5 pr5 cx => ?_⟩
  change w_law_6 (Fi R) (stL (.scr ns) a u2 u3 (.f (.int v)) (.f (.obj o)) .u u7 u8 u9 u10 u11 u12 u13 u14 h5)
  refine ⟨o, _, _, rfl, cx.at_, rfl, o, _, rfl, cx.at_, rfl, o, _, _, _, _, rfl, cx, kc_n9 hv, ?_⟩
  refine ⟨_, told_at ⟨v, hv⟩, ?_⟩
  have et := told_is hv
  have sh : shD 8 (toldD v) = true := by
    have c : v = 0 ∨ v = 1 ∨ v = 2 ∨ v = 3 ∨ v = 4 ∨ v = 5 := by omega
    rcases c with rfl | rfl | rfl | rfl | rfl | rfl <;> rfl
  show opNe (.tup [.int (kc v).1, .int ((lls (kc v).2.1 (kc v).2.2.1 (kc v).2.2.2).w : Nat)]) (toldD v) _
  rw [et]
  have ne : ∀ {C : D → Prop}, (C (.bl false)) → opNe (toldD v) (toldD v) C := fun {C} hC => by
    have c : v = 0 ∨ v = 1 ∨ v = 2 ∨ v = 3 ∨ v = 4 ∨ v = 5 := by omega
    rcases c with rfl | rfl | rfl | rfl | rfl | rfl <;> exact ⟨rfl, rfl, hC⟩
  refine ne (brF rfl ?_)
  change w_law_7 (Fi R) (stL (.scr ns) a u2 u3 (.f (.int v)) (.f (.obj o)) .u u7 u8 u9 u10 u11 u12 u13 u14 h5)
  refine ⟨6, rfl, by decide, fun g h6 pr6 cg => ?_⟩
  have cx6 := cx.pres pr6
  change w_law_8 (Fi R) (stL (.scr ns) a u2 u3 (.f (.int v)) (.f (.obj o)) (.f (.obj g)) u7 u8 u9 u10 u11 u12 u13 u14 h6)
  refine ⟨g, _, _, rfl, cg.at_, rfl, g, _, _, rfl, cg.at_, rfl, g, _, _, rfl, cg.at_, rfl, ?_⟩
  refine ⟨0, [1, 2, 2, 0, 0, 0, 0, 0, 0, 0, 0, 2, 2], rfl, by decide, by unfold Wd; decide, by decide, ?_⟩
  refine ⟨by decide +kernel, by decide +kernel, ?_⟩
  refine brF (by decide +kernel) ?_
  change w_law_9 (Fi R) (stL (.scr ns) a u2 u3 (.f (.int v)) (.f (.obj o)) (.f (.obj g)) u7 u8 u9 u10 u11 u12 u13 u14 h6)
  obtain ⟨cl1, cl2⟩ := ctx_len (X := (kc v).2.2.1) (Z := (kc v).2.2.2) cx.ok.2.1 cx.ok.2.2.1
  have ac := asC_ctx cx.ok
  refine ⟨o, _, _, _, _, rfl, cx6, ?_⟩
  refine ⟨_, rfl, by show decide _ = true; exact decide_eq_true (by omega), fun n' ps' X' Z' b h7 e cb pr7 => ?_, fun e => absurd (e.symm.trans ac) (by simp)⟩
  have ee := e.symm.trans ac
  simp only [Option.some.injEq, Prod.mk.injEq] at ee
  obtain ⟨rfl, rfl, rfl, rfl⟩ := ee
  refine ⟨b, _, _, _, _, rfl, cb, o, _, _, _, _, rfl, cx6.pres pr7, ?_⟩
  show R (.bl (ctx (kc v).1 (kc v).2.1 (kc v).2.2.1 (kc v).2.2.2 == ctx (kc v).1 (kc v).2.1 (kc v).2.2.1 (kc v).2.2.2)) h7
  rw [show (ctx (kc v).1 (kc v).2.1 (kc v).2.2.1 (kc v).2.2.2 == ctx (kc v).1 (kc v).2.1 (kc v).2.2.1 (kc v).2.2.2) = true from by simp]
  exact hR h7
end K07

set_option Elab.async false
set_option linter.all false
set_option maxRecDepth 100000
set_option maxHeartbeats 4000000
namespace K07
open PySem PySem.Spec L2 VL
def topS (i : Nat) : Stmt := PySem.Challenge.pw_mendedgates_k07_texts_of_codes_and_known.main.body.getD i (.Pass ⟨0, 0, 0, 0⟩)
abbrev s_is_integer : Stmt := topS 6
theorem sc_is_integer : FnScope ["value"] ["value"] (defScope s_is_integer) := ⟨rfl, rfl, rfl, by decide +kernel, rfl, by decide +kernel, by decide +kernel⟩
abbrev s_is_pauli : Stmt := topS 7
theorem sc_is_pauli : FnScope ["value", "n", "part"] ["value", "n"] (defScope s_is_pauli) := ⟨rfl, rfl, rfl, by decide +kernel, rfl, by decide +kernel, by decide +kernel⟩
abbrev s_ones : Stmt := topS 8
theorem sc_ones : FnScope ["mask", "count"] ["mask"] (defScope s_ones) := ⟨rfl, rfl, rfl, by decide +kernel, rfl, by decide +kernel, by decide +kernel⟩
abbrev s_weight : Stmt := topS 9
theorem sc_weight : FnScope ["pauli"] ["pauli"] (defScope s_weight) := ⟨rfl, rfl, rfl, by decide +kernel, rfl, by decide +kernel, by decide +kernel⟩
abbrev s_letter : Stmt := topS 10
theorem sc_letter : FnScope ["pauli", "qubit"] ["pauli", "qubit"] (defScope s_letter) := ⟨rfl, rfl, rfl, by decide +kernel, rfl, by decide +kernel, by decide +kernel⟩
abbrev s_commutes : Stmt := topS 11
theorem sc_commutes : FnScope ["one", "other"] ["one", "other"] (defScope s_commutes) := ⟨rfl, rfl, rfl, by decide +kernel, rfl, by decide +kernel, by decide +kernel⟩
abbrev s_product : Stmt := topS 12
theorem sc_product : FnScope ["one", "other", "x", "z", "turns"] ["one", "other"] (defScope s_product) := ⟨rfl, rfl, rfl, by decide +kernel, rfl, by decide +kernel, by decide +kernel⟩
abbrev s_single : Stmt := topS 13
theorem sc_single : FnScope ["name", "qubit", "kind"] ["name", "qubit"] (defScope s_single) := ⟨rfl, rfl, rfl, by decide +kernel, rfl, by decide +kernel, by decide +kernel⟩
abbrev s_rank : Stmt := topS 14
theorem sc_rank : FnScope ["pauli"] ["pauli"] (defScope s_rank) := ⟨rfl, rfl, rfl, by decide +kernel, rfl, by decide +kernel, by decide +kernel⟩
abbrev s_text_of : Stmt := topS 15
theorem sc_text_of : FnScope ["pauli", "n", "qubit"] ["pauli", "n"] (defScope s_text_of) := ⟨rfl, rfl, rfl, by decide +kernel, rfl, by decide +kernel, by decide +kernel⟩
abbrev s_pauli_of : Stmt := topS 16
theorem sc_pauli_of : FnScope ["text", "found", "qubit"] ["text"] (defScope s_pauli_of) := ⟨rfl, rfl, rfl, by decide +kernel, rfl, by decide +kernel, by decide +kernel⟩
abbrev s_reduced : Stmt := topS 19
theorem sc_reduced : FnScope ["rows", "pauli", "n", "value", "row"] ["rows", "pauli", "n"] (defScope s_reduced) := ⟨rfl, rfl, rfl, by decide +kernel, rfl, by decide +kernel, by decide +kernel⟩
abbrev s_independent : Stmt := topS 20
theorem sc_independent : FnScope ["paulis", "n", "rows", "pauli", "value"] ["paulis", "n"] (defScope s_independent) := ⟨rfl, rfl, rfl, by decide +kernel, rfl, by decide +kernel, by decide +kernel⟩
abbrev s_Code___init__ : Stmt := inClass (topS 21) 0
theorem sc_Code___init__ : FnScope ["self", "n", "generators", "x", "z", "rows", "at", "other", "row"] ["self", "n", "generators", "x", "z"] (defScope s_Code___init__) := ⟨rfl, rfl, rfl, by decide +kernel, rfl, by decide +kernel, by decide +kernel⟩
abbrev s_Code_logical : Stmt := inClass (topS 21) 4
theorem sc_Code_logical : FnScope ["self", "name", "x", "z", "sign"] ["self", "name"] (defScope s_Code_logical) := ⟨rfl, rfl, rfl, by decide +kernel, rfl, by decide +kernel, by decide +kernel⟩
abbrev s_Code_coset : Stmt := inClass (topS 21) 6
theorem sc_Code_coset : FnScope ["self", "pauli", "rows", "generator", "row"] ["self", "pauli"] (defScope s_Code_coset) := ⟨rfl, rfl, rfl, by decide +kernel, rfl, by decide +kernel, by decide +kernel⟩
abbrev s_Code_least_logical : Stmt := inClass (topS 21) 11
theorem sc_Code_least_logical : FnScope ["self", "rows", "best", "name"] ["self"] (defScope s_Code_least_logical) := ⟨rfl, rfl, rfl, by decide +kernel, rfl, by decide +kernel, by decide +kernel⟩
abbrev s_Code_distance : Stmt := inClass (topS 21) 12
theorem sc_Code_distance : FnScope ["self"] ["self"] (defScope s_Code_distance) := ⟨rfl, rfl, rfl, by decide +kernel, rfl, by decide +kernel, by decide +kernel⟩
abbrev s_code_text : Stmt := topS 22
theorem sc_code_text : FnScope ["code", "rows", "generator", "row"] ["code"] (defScope s_code_text) := ⟨rfl, rfl, rfl, by decide +kernel, rfl, by decide +kernel, by decide +kernel⟩
abbrev s_text_pauli : Stmt := topS 23
theorem sc_text_pauli : FnScope ["text", "n"] ["text", "n"] (defScope s_text_pauli) := ⟨rfl, rfl, rfl, by decide +kernel, rfl, by decide +kernel, by decide +kernel⟩
abbrev s_read_code : Stmt := topS 24
theorem sc_read_code : FnScope ["text", "rows", "first", "n", "generators", "row"] ["text"] (defScope s_read_code) := ⟨rfl, rfl, rfl, by decide +kernel, rfl, by decide +kernel, by decide +kernel⟩
abbrev s_around : Stmt := topS 29
theorem sc_around : FnScope ["place", "letters", "step"] ["place"] (defScope s_around) := ⟨rfl, rfl, rfl, by decide +kernel, rfl, by decide +kernel, by decide +kernel⟩
abbrev s_known : Stmt := topS 30
theorem sc_known : FnScope ["name", "generators", "texts", "x", "z", "place", "text"] ["name"] (defScope s_known) := ⟨rfl, rfl, rfl, by decide +kernel, rfl, by decide +kernel, by decide +kernel⟩
abbrev s__law_next : Stmt := topS 32
theorem sc__law_next : FnScope ["tape", "many", "rest", "cell"] ["tape", "many"] (defScope s__law_next) := ⟨rfl, rfl, rfl, by decide +kernel, rfl, by decide +kernel, by decide +kernel⟩
abbrev s__law_codes : Stmt := topS 33
theorem sc__law_codes : FnScope [] [] (defScope s__law_codes) := ⟨rfl, rfl, rfl, by decide +kernel, rfl, by decide +kernel, by decide +kernel⟩
abbrev s__law_masks : Stmt := topS 34
theorem sc__law_masks : FnScope ["text", "x", "z", "k"] ["text"] (defScope s__law_masks) := ⟨rfl, rfl, rfl, by decide +kernel, rfl, by decide +kernel, by decide +kernel⟩
abbrev s__law_ones : Stmt := topS 35
theorem sc__law_ones : FnScope ["mask", "count"] ["mask"] (defScope s__law_ones) := ⟨rfl, rfl, rfl, by decide +kernel, rfl, by decide +kernel, by decide +kernel⟩
abbrev s__law_times : Stmt := topS 37
theorem sc__law_times : FnScope ["one", "other", "turns", "x", "z"] ["one", "other"] (defScope s__law_times) := ⟨rfl, rfl, rfl, by decide +kernel, rfl, by decide +kernel, by decide +kernel⟩
abbrev s__law_changed : Stmt := topS 38
theorem sc__law_changed : FnScope ["tape", "code", "rows", "logical", "turn", "n", "generators", "x", "z", "gate", "a", "b", "row"] ["tape", "code"] (defScope s__law_changed) := ⟨rfl, rfl, rfl, by decide +kernel, rfl, by decide +kernel, by decide +kernel⟩
abbrev s__law_gate : Stmt := topS 39
theorem sc__law_gate : FnScope ["row", "gate", "a", "b", "x", "z", "sign", "xa", "za", "xb", "zb"] ["row", "gate", "a", "b"] (defScope s__law_gate) := ⟨rfl, rfl, rfl, by decide +kernel, rfl, by decide +kernel, by decide +kernel⟩
abbrev s__law_word : Stmt := topS 40
theorem sc__law_word : FnScope ["pauli", "n", "letters", "k"] ["pauli", "n"] (defScope s__law_word) := ⟨rfl, rfl, rfl, by decide +kernel, rfl, by decide +kernel, by decide +kernel⟩
abbrev s__law_text : Stmt := topS 41
theorem sc__law_text : FnScope ["n", "rows", "x", "z", "found", "row"] ["n", "rows", "x", "z"] (defScope s__law_text) := ⟨rfl, rfl, rfl, by decide +kernel, rfl, by decide +kernel, by decide +kernel⟩
abbrev s__law_read : Stmt := topS 42
theorem sc__law_read : FnScope ["text"] ["text"] (defScope s__law_read) := ⟨rfl, rfl, rfl, by decide +kernel, rfl, by decide +kernel, by decide +kernel⟩
abbrev s__law_spoilt : Stmt := topS 43
theorem sc__law_spoilt : FnScope ["tape", "text", "at", "odd"] ["tape", "text"] (defScope s__law_spoilt) := ⟨rfl, rfl, rfl, by decide +kernel, rfl, by decide +kernel, by decide +kernel⟩
abbrev s_law : Stmt := topS 44
theorem sc_law : FnScope ["script", "tape", "turn", "value", "at", "told", "great", "text", "code", "spoilt", "other", "n", "rows", "x", "z"] ["script"] (defScope s_law) := ⟨rfl, rfl, rfl, by decide +kernel, rfl, by decide +kernel, by decide +kernel⟩
/-- what the top has written -/
structure Txt (K : PySem.W.Frag) (w : World) (mg : Str → Option Value) (A : Nat → Addr) (B : Nat → FuncData) : Prop where
  z_len : mg "len" = none
  z_abs : mg "abs" = none
  z_max : mg "max" = none
  z_min : mg "min" = none
  z_int : mg "int" = none
  z_sum : mg "sum" = none
  z_all : mg "all" = none
  z_tuple : mg "tuple" = none
  z_list : mg "list" = none
  z_isinstance : mg "isinstance" = none
  z_range : mg "range" = none
  z_bool : mg "bool" = none
  z_str : mg "str" = none
  c_NAMES_paulis : Cst K mg "NAMES_paulis" k_NAMES_paulis
  c_MOST_QUBITS : Cst K mg "MOST_QUBITS" k_MOST_QUBITS
  c_NAMES_catalogue : Cst K mg "NAMES_catalogue" k_NAMES_catalogue
  c_ROUND : Cst K mg "ROUND" k_ROUND
  c_ROWS : CTab K w mg "ROWS" k_ROWS
  x_NotValid : ExcT K mg "NotValid"
  k_Code : ClsT K "Code"
  n_Code_generators : NoF K "Code" "generators"
  n_Code_n : NoF K "Code" "n"
  n_Code_reps : NoF K "Code" "reps"
  n_Code_table : NoF K "Code" "table"
  n_Code_x : NoF K "Code" "x"
  n_Code_z : NoF K "Code" "z"
  d_is_integer : DefAt K mg "is_integer" s_is_integer ["value"] (A 0) (B 0)
  d_is_pauli : DefAt K mg "is_pauli" s_is_pauli ["value", "n"] (A 1) (B 1)
  d_ones : DefAt K mg "ones" s_ones ["mask"] (A 2) (B 2)
  d_weight : DefAt K mg "weight" s_weight ["pauli"] (A 3) (B 3)
  d_letter : DefAt K mg "letter" s_letter ["pauli", "qubit"] (A 4) (B 4)
  d_commutes : DefAt K mg "commutes" s_commutes ["one", "other"] (A 5) (B 5)
  d_product : DefAt K mg "product" s_product ["one", "other"] (A 6) (B 6)
  d_single : DefAt K mg "single" s_single ["name", "qubit"] (A 7) (B 7)
  d_rank : DefAt K mg "rank" s_rank ["pauli"] (A 8) (B 8)
  d_text_of : DefAt K mg "text_of" s_text_of ["pauli", "n"] (A 9) (B 9)
  d_pauli_of : DefAt K mg "pauli_of" s_pauli_of ["text"] (A 10) (B 10)
  d_reduced : DefAt K mg "reduced" s_reduced ["rows", "pauli", "n"] (A 11) (B 11)
  d_independent : DefAt K mg "independent" s_independent ["paulis", "n"] (A 12) (B 12)
  d_Code___init__ : InitAt K mg "Code" "Code.__init__" s_Code___init__ ["self", "n", "generators", "x", "z"] (A 13) (B 13)
  d_Code_logical : MethAt K "Code" "logical" "Code.logical" s_Code_logical ["self", "name"] (A 14) (B 14)
  d_Code_coset : MethAt K "Code" "coset" "Code.coset" s_Code_coset ["self", "pauli"] (A 15) (B 15)
  d_Code_least_logical : MethAt K "Code" "least_logical" "Code.least_logical" s_Code_least_logical ["self"] (A 16) (B 16)
  d_Code_distance : MethAt K "Code" "distance" "Code.distance" s_Code_distance ["self"] (A 17) (B 17)
  d_code_text : DefAt K mg "code_text" s_code_text ["code"] (A 18) (B 18)
  d_text_pauli : DefAt K mg "text_pauli" s_text_pauli ["text", "n"] (A 19) (B 19)
  d_read_code : DefAt K mg "read_code" s_read_code ["text"] (A 20) (B 20)
  d_around : DefAt K mg "around" s_around ["place"] (A 21) (B 21)
  d_known : DefAt K mg "known" s_known ["name"] (A 22) (B 22)
  d__law_next : DefAt K mg "_law_next" s__law_next ["tape", "many"] (A 23) (B 23)
  d__law_codes : DefAt K mg "_law_codes" s__law_codes [] (A 24) (B 24)
  d__law_masks : DefAt K mg "_law_masks" s__law_masks ["text"] (A 25) (B 25)
  d__law_ones : DefAt K mg "_law_ones" s__law_ones ["mask"] (A 26) (B 26)
  d__law_times : DefAt K mg "_law_times" s__law_times ["one", "other"] (A 27) (B 27)
  d__law_changed : DefAt K mg "_law_changed" s__law_changed ["tape", "code"] (A 28) (B 28)
  d__law_gate : DefAt K mg "_law_gate" s__law_gate ["row", "gate", "a", "b"] (A 29) (B 29)
  d__law_word : DefAt K mg "_law_word" s__law_word ["pauli", "n"] (A 30) (B 30)
  d__law_text : DefAt K mg "_law_text" s__law_text ["n", "rows", "x", "z"] (A 31) (B 31)
  d__law_read : DefAt K mg "_law_read" s__law_read ["text"] (A 32) (B 32)
  d__law_spoilt : DefAt K mg "_law_spoilt" s__law_spoilt ["tape", "text"] (A 33) (B 33)
  d_law : DefAt K mg "law" s_law ["script"] (A 34) (B 34)
section
variable {P : Program} {w : World} {K : PySem.W.Frag} {mg : Str → Option Value} {base : Heap} {A : Nat → Addr} {B : Nat → FuncData}
theorem ok_is_integer (T : Txt K w mg A B) : FnOk P w K mg base CX0 1 (A 0) (B 0) ["value"] (spOf K 1 sp_is_integer) := by
  refine fn_ok (ws := w_is_integer) T.d_is_integer.fn sc_is_integer rfl (fun cdv A outer s H E hr => ?_) pk_is_integer
  exact (dss_one (ds_ret (de_and (de_cb cv_isi (by rfl) T.z_isinstance (by decide +kernel) (da_cons (de_var 0 (pv 0)) (da_cons (de_ty .tint (by rfl) T.z_int (by decide +kernel)) da_nil))) (de_and (de_not (de_cb cv_isi (by rfl) T.z_isinstance (by decide +kernel) (da_cons (de_var 0 (pv 0)) (da_cons (de_ty .tbool (by rfl) T.z_bool (by decide +kernel)) da_nil)))) (de_one (de_cmp ov_ge (de_var 0 (pv 0)) de_int (nomark _)))))))
theorem ok_ones (T : Txt K w mg A B) : FnOk P w K mg base CX0 1 (A 2) (B 2) ["mask"] (spOf K 1 sp_ones) := by
  refine fn_ok (ws := w_ones) T.d_ones.fn sc_ones rfl (fun cdv A outer s H E hr => ?_) pk_ones
  exact (dss_cons (ds_set 1 de_int (fun _ he => ps_set (i := 1) sc_ones.nd rfl (by first | exact .inl rfl | exact .inr rfl) he))
      (dss_cons (ds_while PassesOwn.never (dt_tru (de_var 0 (pv 0))) (dss_cons (ds_aug 0 iv_and (de_op ov_sub (de_var 0 (pv 0)) de_int) (fun _ _ he hp => ps_aug (i := 0) sc_ones.nd rfl (by first | exact .inl rfl | exact .inr rfl) he hp))
      (dss_one (ds_aug 1 iv_add de_int (fun _ _ he hp => ps_aug (i := 1) sc_ones.nd rfl (by first | exact .inl rfl | exact .inr rfl) he hp)))))
      (dss_one (ds_ret (de_var 1 (pv 1))))))
theorem ok_letter (T : Txt K w mg A B) : FnOk P w K mg base CX0 1 (A 4) (B 4) ["pauli", "qubit"] (spOf K 2 sp_letter) := by
  refine fn_ok (ws := w_letter) T.d_letter.fn sc_letter rfl (fun cdv A outer s H E hr => ?_) pk_letter
  exact (dss_one (ds_ret (de_ix (T.c_NAMES_paulis.de rfl) (de_op ov_add (de_op ov_and (de_op ov_shr (de_ix (de_var 0 (pv 0)) de_int (fun _ _ => rfl)) (de_var 1 (pv 1))) de_int) (de_op ov_mulS de_int (de_op ov_and (de_op ov_shr (de_ix (de_var 0 (pv 0)) de_int (fun _ _ => rfl)) (de_var 1 (pv 1))) de_int))) (fun _ _ => rfl))))
theorem ok_single (T : Txt K w mg A B) : FnOk P w K mg base CX0 1 (A 7) (B 7) ["name", "qubit"] (spOf K 2 sp_single) := by
  refine fn_ok (ws := w_single) T.d_single.fn sc_single rfl (fun cdv A outer s H E hr => ?_) pk_single
  exact (dss_cons (ds_set 2 (de_index (T.c_NAMES_paulis.de rfl) (de_var 0 (pv 0))) (fun _ he => ps_set (i := 2) sc_single.nd rfl (by first | exact .inl rfl | exact .inr rfl) he))
      (dss_one (ds_ret (de_tup (da_cons (de_op ov_shl (de_op ov_and (de_var 2 (pv 2)) de_int) (de_var 1 (pv 1))) (da_cons (de_op ov_shl (de_op ov_shr (de_var 2 (pv 2)) de_int) (de_var 1 (pv 1))) (da_cons de_int da_nil)))))))
theorem ok_reduced (T : Txt K w mg A B) : FnOk P w K mg base CX0 1 (A 11) (B 11) ["rows", "pauli", "n"] (spOf K 3 sp_reduced) := by
  refine fn_ok (ws := w_reduced) T.d_reduced.fn sc_reduced rfl (fun cdv A outer s H E hr => ?_) pk_reduced
  exact (dss_cons (ds_set 3 (de_op ov_or (de_op ov_shl (de_ix (de_var 1 (pv 1)) de_int (fun _ _ => rfl)) (de_var 2 (pv 2))) (de_ix (de_var 1 (pv 1)) de_int (fun _ _ => rfl))) (fun _ he => ps_set (i := 3) sc_reduced.nd rfl (by first | exact .inl rfl | exact .inr rfl) he))
      (dss_cons (ds_forO PassesOwn.never rfl (de_var 0 (pv 0)) (dg_var 4 (pg_name (i := 4) sc_reduced.nd rfl (by first | exact .inl rfl | exact .inr rfl))) (dss_one (ds_set 3 (de_cb (cv_min rfl) (by rfl) T.z_min (by decide +kernel) (da_cons (de_var 3 (pv 3)) (da_cons (de_op ov_xor (de_var 3 (pv 3)) (de_var 4 (pv 4))) da_nil))) (fun _ he => ps_set (i := 3) sc_reduced.nd rfl (by first | exact .inl rfl | exact .inr rfl) he))))
      (dss_one (ds_ret (de_var 3 (pv 3))))))
theorem ok__law_next (T : Txt K w mg A B) : FnOk P w K mg base CX0 1 (A 23) (B 23) ["tape", "many"] (spOf K 2 sp__law_next) := by
  refine fn_ok (ws := w__law_next) T.d__law_next.fn sc__law_next rfl (fun cdv A outer s H E hr => ?_) pk__law_next
  exact (dss_cons (ds_set 2 (de_ix (de_var 0 (pv 0)) de_int (fun _ _ => rfl)) (fun _ he => ps_set (i := 2) sc__law_next.nd rfl (by first | exact .inl rfl | exact .inr rfl) he))
      (dss_cons (ds_if (dt_cmp ov_gt (de_var 2 (pv 2)) de_int (nomark _)) (dss_cons (ds_asg (de_op ov_div (de_var 2 (pv 2)) (de_var 1 (pv 1))) (dg_ixM (de_var 0 (pv 0)) de_int))
      (dss_one (ds_ret (de_op ov_mod (de_cty cv_int (by rfl) T.z_int (by decide +kernel) (da_cons (de_var 2 (pv 2)) da_nil)) (de_var 1 (pv 1)))))) dss_nil)
      (dss_cons (ds_set 3 de_int (fun _ he => ps_set (i := 3) sc__law_next.nd rfl (by first | exact .inl rfl | exact .inr rfl) he))
      (dss_cons (ds_if (dt_cmp ov_lt (de_ix (de_var 0 (pv 0)) de_int (fun _ _ => rfl)) (de_cb cv_len (by rfl) T.z_len (by decide +kernel) (da_cons (de_ix (de_var 0 (pv 0)) de_int (fun _ _ => rfl)) da_nil)) (nomark _)) (dss_cons (ds_set 3 (de_cb cv_abs (by rfl) T.z_abs (by decide +kernel) (da_cons (de_ix (de_ix (de_var 0 (pv 0)) de_int (fun _ _ => rfl)) (de_ix (de_var 0 (pv 0)) de_int (fun _ _ => rfl)) (fun _ _ => rfl)) da_nil)) (fun _ he => ps_set (i := 3) sc__law_next.nd rfl (by first | exact .inl rfl | exact .inr rfl) he))
      (dss_one (ds_augM iv_add (de_var 0 (pv 0)) de_int de_int))) dss_nil)
      (dss_cons (ds_if (dt_cmp ov_ge (de_var 3 (pv 3)) (de_op ov_pow de_int de_int) (nomark _)) (dss_cons (ds_asg (de_op ov_div (de_var 3 (pv 3)) (de_var 1 (pv 1))) (dg_ixM (de_var 0 (pv 0)) de_int))
      (dss_one (ds_ret (de_op ov_mod (de_cty cv_int (by rfl) T.z_int (by decide +kernel) (da_cons (de_var 3 (pv 3)) da_nil)) (de_var 1 (pv 1)))))) dss_nil)
      (dss_cons (ds_asg (de_op ov_mod (de_cty cv_int (by rfl) T.z_int (by decide +kernel) (da_cons (de_op ov_add (de_op ov_add (de_op ov_mulS (de_ix (de_var 0 (pv 0)) de_int (fun _ _ => rfl)) de_int) (de_op ov_mulS (de_var 3 (pv 3)) de_int)) de_int) da_nil)) de_int) (dg_ixM (de_var 0 (pv 0)) de_int))
      (dss_one (ds_ret (de_op ov_mod (de_cty cv_int (by rfl) T.z_int (by decide +kernel) (da_cons (de_op ov_div (de_op ov_mod (de_op ov_mulS (de_ix (de_var 0 (pv 0)) de_int (fun _ _ => rfl)) de_int) de_int) de_int) da_nil)) (de_var 1 (pv 1)))))))))))
theorem ok__law_codes (T : Txt K w mg A B) : FnOk P w K mg base CX0 1 (A 24) (B 24) [] (spOf K 0 sp__law_codes) := by
  refine fn_ok (ws := w__law_codes) T.d__law_codes.fn sc__law_codes rfl (fun cdv A outer s H E hr => ?_) pk__law_codes
  exact (dss_one (ds_ret (de_new (dn_lst (da_cons (de_tup (da_cons de_int (da_cons (de_new (dn_lst da_nil)) (da_cons de_str (da_cons de_str da_nil))))) (da_cons (de_tup (da_cons de_int (da_cons (de_new (dn_lst (da_cons de_str (da_cons de_str da_nil)))) (da_cons de_str (da_cons de_str da_nil))))) (da_cons (de_tup (da_cons de_int (da_cons (de_new (dn_lst (da_cons de_str (da_cons de_str (da_cons de_str da_nil))))) (da_cons de_str (da_cons de_str da_nil))))) (da_cons (de_tup (da_cons de_int (da_cons (de_new (dn_lst (da_cons de_str (da_cons de_str (da_cons de_str (da_cons de_str da_nil)))))) (da_cons de_str (da_cons de_str da_nil))))) (da_cons (de_tup (da_cons de_int (da_cons (de_new (dn_lst (da_cons de_str da_nil))) (da_cons de_str (da_cons de_str da_nil))))) (da_cons (de_tup (da_cons de_int (da_cons (de_new (dn_lst (da_cons de_str (da_cons de_str da_nil)))) (da_cons de_str (da_cons de_str da_nil))))) da_nil))))))))))
theorem ok__law_masks (T : Txt K w mg A B) : FnOk P w K mg base CX0 1 (A 25) (B 25) ["text"] (spOf K 1 sp__law_masks) := by
  refine fn_ok (ws := w__law_masks) T.d__law_masks.fn sc__law_masks rfl (fun cdv A outer s H E hr => ?_) pk__law_masks
  exact (dss_cons (ds_set 1 (de_cb (cv_sum rfl) (by rfl) T.z_sum (by decide +kernel) (da_cons (de_new (dn_lc (own := [("k", 3)]) rfl sc__law_masks.nd (di_rng1 (by rfl) T.z_range (da_cons (de_op ov_sub (de_cb cv_len (by rfl) T.z_len (by decide +kernel) (da_cons (de_var 0 (pv 0)) da_nil)) de_int) da_nil)) (blkOk_by (N := ["text", "x", "z", "k"]) (sc := defScope s__law_masks) (by decide +kernel)) (tg_one (by decide)) (fun _ _ _ _ _ => pg_name (i := 3) sc__law_masks.nd rfl (Or.inl rfl)) (fun _ _ _ _ _ => pts_x1 (dt_cmp (ov_inD (Room65 hr)) (de_ix (de_var 0 (pv 0)) (de_op ov_add (de_var 3 (pv 3)) de_int) (fun _ _ => rfl)) de_str (by rfl))) (fun _ _ _ _ _ => (de_op ov_shl de_int (de_var 3 (pv 3)))))) da_nil)) (fun _ he => ps_set (i := 1) sc__law_masks.nd rfl (by first | exact .inl rfl | exact .inr rfl) he))
      (dss_cons (ds_set 2 (de_cb (cv_sum rfl) (by rfl) T.z_sum (by decide +kernel) (da_cons (de_new (dn_lc (own := [("k", 3)]) rfl sc__law_masks.nd (di_rng1 (by rfl) T.z_range (da_cons (de_op ov_sub (de_cb cv_len (by rfl) T.z_len (by decide +kernel) (da_cons (de_var 0 (pv 0)) da_nil)) de_int) da_nil)) (blkOk_by (N := ["text", "x", "z", "k"]) (sc := defScope s__law_masks) (by decide +kernel)) (tg_one (by decide)) (fun _ _ _ _ _ => pg_name (i := 3) sc__law_masks.nd rfl (Or.inl rfl)) (fun _ _ _ _ _ => pts_x1 (dt_cmp (ov_inD (Room65 hr)) (de_ix (de_var 0 (pv 0)) (de_op ov_add (de_var 3 (pv 3)) de_int) (fun _ _ => rfl)) de_str (by rfl))) (fun _ _ _ _ _ => (de_op ov_shl de_int (de_var 3 (pv 3)))))) da_nil)) (fun _ he => ps_set (i := 2) sc__law_masks.nd rfl (by first | exact .inl rfl | exact .inr rfl) he))
      (dss_one (ds_ret (de_tup (da_cons (de_var 1 (pv 1)) (da_cons (de_var 2 (pv 2)) (da_cons (de_cty cv_int (by rfl) T.z_int (by decide +kernel) (da_cons (de_cmp (ov_eq hr.units) (de_ix (de_var 0 (pv 0)) de_int (fun _ _ => rfl)) de_str (nomark _)) da_nil)) da_nil))))))))
theorem ok__law_ones (T : Txt K w mg A B) : FnOk P w K mg base CX0 1 (A 26) (B 26) ["mask"] (spOf K 1 sp__law_ones) := by
  refine fn_ok (ws := w__law_ones) T.d__law_ones.fn sc__law_ones rfl (fun cdv A outer s H E hr => ?_) pk__law_ones
  exact (dss_cons (ds_set 1 de_int (fun _ he => ps_set (i := 1) sc__law_ones.nd rfl (by first | exact .inl rfl | exact .inr rfl) he))
      (dss_cons (ds_while PassesOwn.never (dt_cmp ov_gt (de_var 0 (pv 0)) de_int (nomark _)) (dss_cons (ds_set 1 (de_op ov_add (de_var 1 (pv 1)) (de_op ov_mod (de_var 0 (pv 0)) de_int)) (fun _ he => ps_set (i := 1) sc__law_ones.nd rfl (by first | exact .inl rfl | exact .inr rfl) he))
      (dss_one (ds_set 0 (de_op ov_div (de_var 0 (pv 0)) de_int) (fun _ he => ps_set (i := 0) sc__law_ones.nd rfl (by first | exact .inl rfl | exact .inr rfl) he)))))
      (dss_one (ds_ret (de_var 1 (pv 1))))))
theorem ok__law_gate (T : Txt K w mg A B) : FnOk P w K mg base CX0 1 (A 29) (B 29) ["row", "gate", "a", "b"] (spOf K 4 sp__law_gate) := by
  refine fn_ok (ws := w__law_gate) T.d__law_gate.fn sc__law_gate rfl (fun cdv A outer s H E hr => ?_) pk__law_gate
  exact (dss_cons (ds_asg (de_var 0 (pv 0)) (dg_tup rfl (dgs_cons (dg_var 4 (pg_name (i := 4) sc__law_gate.nd rfl (by first | exact .inl rfl | exact .inr rfl))) (dgs_cons (dg_var 5 (pg_name (i := 5) sc__law_gate.nd rfl (by first | exact .inl rfl | exact .inr rfl))) (dgs_cons (dg_var 6 (pg_name (i := 6) sc__law_gate.nd rfl (by first | exact .inl rfl | exact .inr rfl))) dgs_nil)))))
      (dss_cons (ds_par 7 8 (da_cons (de_op ov_and (de_op ov_shr (de_var 4 (pv 4)) (de_var 2 (pv 2))) de_int) (da_cons (de_op ov_and (de_op ov_shr (de_var 5 (pv 5)) (de_var 2 (pv 2))) de_int) da_nil)) (fun _ h => ps_par rfl sc__law_gate.nd rfl rfl (by decide) rfl rfl h (by rfl)))
      (dss_cons (ds_if (dt_cmp (ov_eq hr.units) (de_var 1 (pv 1)) de_int (nomark _)) (dss_one (ds_ret (de_tup (da_cons (de_op ov_xor (de_var 4 (pv 4)) (de_op ov_shl (de_op ov_xor (de_var 7 (pv 7)) (de_var 8 (pv 8))) (de_var 2 (pv 2)))) (da_cons (de_op ov_xor (de_var 5 (pv 5)) (de_op ov_shl (de_op ov_xor (de_var 7 (pv 7)) (de_var 8 (pv 8))) (de_var 2 (pv 2)))) (da_cons (de_op ov_xor (de_var 6 (pv 6)) (de_op ov_and (de_var 7 (pv 7)) (de_var 8 (pv 8)))) da_nil)))))) dss_nil)
      (dss_cons (ds_if (DW.pt (dw_or (dt_cmp (ov_eq hr.units) (de_var 1 (pv 1)) de_int (nomark _)) (dw_or1 (dt_cmp (ov_eq hr.units) (de_var 2 (pv 2)) (de_var 3 (pv 3)) (nomark _))))) (dss_one (ds_ret (de_tup (da_cons (de_var 4 (pv 4)) (da_cons (de_op ov_xor (de_var 5 (pv 5)) (de_op ov_shl (de_var 7 (pv 7)) (de_var 2 (pv 2)))) (da_cons (de_op ov_xor (de_var 6 (pv 6)) (de_op ov_and (de_var 7 (pv 7)) (de_var 8 (pv 8)))) da_nil)))))) dss_nil)
      (dss_cons (ds_par 9 10 (da_cons (de_op ov_and (de_op ov_shr (de_var 4 (pv 4)) (de_var 3 (pv 3))) de_int) (da_cons (de_op ov_and (de_op ov_shr (de_var 5 (pv 5)) (de_var 3 (pv 3))) de_int) da_nil)) (fun _ h => ps_par rfl sc__law_gate.nd rfl rfl (by decide) rfl rfl h (by rfl)))
      (dss_one (ds_ret (de_tup (da_cons (de_op ov_xor (de_var 4 (pv 4)) (de_op ov_shl (de_var 7 (pv 7)) (de_var 3 (pv 3)))) (da_cons (de_op ov_xor (de_var 5 (pv 5)) (de_op ov_shl (de_var 10 (pv 10)) (de_var 2 (pv 2)))) (da_cons (de_op ov_xor (de_var 6 (pv 6)) (de_op ov_and (de_op ov_and (de_var 7 (pv 7)) (de_var 10 (pv 10))) (de_op ov_xor (de_op ov_xor de_int (de_var 9 (pv 9))) (de_var 8 (pv 8))))) da_nil)))))))))))
theorem ok__law_word (T : Txt K w mg A B) : FnOk P w K mg base CX0 1 (A 30) (B 30) ["pauli", "n"] (spOf K 2 sp__law_word) := by
  refine fn_ok (ws := w__law_word) T.d__law_word.fn sc__law_word rfl (fun cdv A outer s H E hr => ?_) pk__law_word
  exact (dss_cons (ds_setLcF (own := [("k", 3)]) (i := 2) rfl sc__law_word.nd rfl rfl (sw_true rfl rfl rfl (by decide +kernel)) (di_rng1 (by rfl) T.z_range (da_cons (de_var 1 (pv 1)) da_nil)) (blkOk_by (N := ["pauli", "n", "letters", "k"]) (sc := defScope s__law_word) (by decide +kernel)) (tg_one (by decide)) (fun _ _ _ _ _ => pg_name (i := 3) sc__law_word.nd rfl (Or.inl rfl)) (fun _ _ _ _ _ => pts_x0) (fun _ _ _ _ _ => (de_ix de_str (de_op ov_add (de_op ov_and (de_op ov_shr (de_ix (de_var 0 (pv 0)) de_int (fun _ _ => rfl)) (de_var 3 (pv 3))) de_int) (de_op ov_mulS de_int (de_op ov_and (de_op ov_shr (de_ix (de_var 0 (pv 0)) de_int (fun _ _ => rfl)) (de_var 3 (pv 3))) de_int))) (fun _ _ => rfl))))
      (dss_one (ds_ret (de_op ov_add (de_ix de_str (de_ix (de_var 0 (pv 0)) de_int (fun _ _ => rfl)) (fun _ _ => rfl)) (de_join de_str (de_var 2 (pv 2)))))))
theorem ok_is_pauli (T : Txt K w mg A B) : FnOk P w K mg base CX0 2 (A 1) (B 1) ["value", "n"] (spOf K 2 sp_is_pauli) := by
  have G_is_integer : FnOk P w K mg base CX0 1 (A 0) (B 0) ["value"] (spOf K 1 sp_is_integer) := ok_is_integer T
  refine fn_ok (ws := w_is_pauli) T.d_is_pauli.fn sc_is_pauli rfl (fun cdv A outer s H E hr => ?_) pk_is_pauli
  exact (dss_cons (ds_if (DW.pt (dw_or (dt_not (dt_tru (de_cb cv_isi (by rfl) T.z_isinstance (by decide +kernel) (da_cons (de_var 0 (pv 0)) (da_cons (de_ty .ttup (by rfl) T.z_tuple (by decide +kernel)) da_nil))))) (dw_or (dt_cmp (ov_ne hr.units) (de_cb cv_len (by rfl) T.z_len (by decide +kernel) (da_cons (de_var 0 (pv 0)) da_nil)) de_int (nomark _)) (dw_or1 (dt_not (dt_tru (de_cb (cv_all rfl) (by rfl) T.z_all (by decide +kernel) (da_cons (de_new (dn_lc (own := [("part", 2)]) rfl sc_is_pauli.nd (di_tup (de_var 0 (pv 0))) (blkOk_by (N := ["value", "n", "part"]) (sc := defScope s_is_pauli) (by decide +kernel)) (tg_one (by decide)) (fun _ _ _ _ _ => pg_name (i := 2) sc_is_pauli.nd rfl (Or.inl rfl)) (fun _ _ _ _ _ => pts_x0) (fun _ _ _ _ _ => (de_call G_is_integer (hr.mono (by decide)) (by rfl) T.d_is_integer.gl T.d_is_integer.fn.kp T.d_is_integer.bd (da_cons (de_var 2 (pv 2)) da_nil))))) da_nil)))))))) (dss_one (ds_ret de_bl)) dss_nil)
      (dss_one (ds_ret (de_and (de_cmp ov_lt (de_ix (de_var 0 (pv 0)) de_int (fun _ _ => rfl)) (de_op ov_shl de_int (de_var 1 (pv 1))) (nomark _)) (de_and (de_cmp ov_lt (de_ix (de_var 0 (pv 0)) de_int (fun _ _ => rfl)) (de_op ov_shl de_int (de_var 1 (pv 1))) (nomark _)) (de_one (de_cmp ov_lt (de_ix (de_var 0 (pv 0)) de_int (fun _ _ => rfl)) de_int (nomark _))))))))
theorem ok_weight (T : Txt K w mg A B) : FnOk P w K mg base CX0 2 (A 3) (B 3) ["pauli"] (spOf K 1 sp_weight) := by
  have G_ones : FnOk P w K mg base CX0 1 (A 2) (B 2) ["mask"] (spOf K 1 sp_ones) := ok_ones T
  refine fn_ok (ws := w_weight) T.d_weight.fn sc_weight rfl (fun cdv A outer s H E hr => ?_) pk_weight
  exact (dss_one (ds_ret (de_call G_ones (hr.mono (by decide)) (by rfl) T.d_ones.gl T.d_ones.fn.kp T.d_ones.bd (da_cons (de_op ov_or (de_ix (de_var 0 (pv 0)) de_int (fun _ _ => rfl)) (de_ix (de_var 0 (pv 0)) de_int (fun _ _ => rfl))) da_nil))))
theorem ok_commutes (T : Txt K w mg A B) : FnOk P w K mg base CX0 2 (A 5) (B 5) ["one", "other"] (spOf K 2 sp_commutes) := by
  have G_ones : FnOk P w K mg base CX0 1 (A 2) (B 2) ["mask"] (spOf K 1 sp_ones) := ok_ones T
  refine fn_ok (ws := w_commutes) T.d_commutes.fn sc_commutes rfl (fun cdv A outer s H E hr => ?_) pk_commutes
  exact (dss_one (ds_ret (de_cmp (ov_eq hr.units) (de_op ov_mod (de_call G_ones (hr.mono (by decide)) (by rfl) T.d_ones.gl T.d_ones.fn.kp T.d_ones.bd (da_cons (de_op ov_and (de_ix (de_var 0 (pv 0)) de_int (fun _ _ => rfl)) (de_ix (de_var 1 (pv 1)) de_int (fun _ _ => rfl))) da_nil)) de_int) (de_op ov_mod (de_call G_ones (hr.mono (by decide)) (by rfl) T.d_ones.gl T.d_ones.fn.kp T.d_ones.bd (da_cons (de_op ov_and (de_ix (de_var 0 (pv 0)) de_int (fun _ _ => rfl)) (de_ix (de_var 1 (pv 1)) de_int (fun _ _ => rfl))) da_nil)) de_int) (nomark _))))
theorem ok_product (T : Txt K w mg A B) : FnOk P w K mg base CX0 2 (A 6) (B 6) ["one", "other"] (spOf K 2 sp_product) := by
  have G_ones : FnOk P w K mg base CX0 1 (A 2) (B 2) ["mask"] (spOf K 1 sp_ones) := ok_ones T
  refine fn_ok (ws := w_product) T.d_product.fn sc_product rfl (fun cdv A outer s H E hr => ?_) pk_product
  exact (dss_cons (ds_set 2 (de_op ov_xor (de_ix (de_var 0 (pv 0)) de_int (fun _ _ => rfl)) (de_ix (de_var 1 (pv 1)) de_int (fun _ _ => rfl))) (fun _ he => ps_set (i := 2) sc_product.nd rfl (by first | exact .inl rfl | exact .inr rfl) he))
      (dss_cons (ds_set 3 (de_op ov_xor (de_ix (de_var 0 (pv 0)) de_int (fun _ _ => rfl)) (de_ix (de_var 1 (pv 1)) de_int (fun _ _ => rfl))) (fun _ he => ps_set (i := 3) sc_product.nd rfl (by first | exact .inl rfl | exact .inr rfl) he))
      (dss_cons (ds_set 4 (de_op ov_add (de_op ov_add (de_op ov_mulS de_int (de_op ov_add (de_ix (de_var 0 (pv 0)) de_int (fun _ _ => rfl)) (de_ix (de_var 1 (pv 1)) de_int (fun _ _ => rfl)))) (de_call G_ones (hr.mono (by decide)) (by rfl) T.d_ones.gl T.d_ones.fn.kp T.d_ones.bd (da_cons (de_op ov_and (de_ix (de_var 0 (pv 0)) de_int (fun _ _ => rfl)) (de_ix (de_var 0 (pv 0)) de_int (fun _ _ => rfl))) da_nil))) (de_call G_ones (hr.mono (by decide)) (by rfl) T.d_ones.gl T.d_ones.fn.kp T.d_ones.bd (da_cons (de_op ov_and (de_ix (de_var 1 (pv 1)) de_int (fun _ _ => rfl)) (de_ix (de_var 1 (pv 1)) de_int (fun _ _ => rfl))) da_nil))) (fun _ he => ps_set (i := 4) sc_product.nd rfl (by first | exact .inl rfl | exact .inr rfl) he))
      (dss_cons (ds_set 4 (de_op ov_mod (de_op ov_sub (de_op ov_add (de_var 4 (pv 4)) (de_op ov_mulS de_int (de_call G_ones (hr.mono (by decide)) (by rfl) T.d_ones.gl T.d_ones.fn.kp T.d_ones.bd (da_cons (de_op ov_and (de_ix (de_var 0 (pv 0)) de_int (fun _ _ => rfl)) (de_ix (de_var 1 (pv 1)) de_int (fun _ _ => rfl))) da_nil)))) (de_call G_ones (hr.mono (by decide)) (by rfl) T.d_ones.gl T.d_ones.fn.kp T.d_ones.bd (da_cons (de_op ov_and (de_var 2 (pv 2)) (de_var 3 (pv 3))) da_nil))) de_int) (fun _ he => ps_set (i := 4) sc_product.nd rfl (by first | exact .inl rfl | exact .inr rfl) he))
      (dss_one (ds_ret (de_tup (da_cons (de_var 2 (pv 2)) (da_cons (de_var 3 (pv 3)) (da_cons (de_op ov_div (de_var 4 (pv 4)) de_int) da_nil))))))))))
theorem ok_text_of (T : Txt K w mg A B) : FnOk P w K mg base CX0 2 (A 9) (B 9) ["pauli", "n"] (spOf K 2 sp_text_of) := by
  have G_letter : FnOk P w K mg base CX0 1 (A 4) (B 4) ["pauli", "qubit"] (spOf K 2 sp_letter) := ok_letter T
  refine fn_ok (ws := w_text_of) T.d_text_of.fn sc_text_of rfl (fun cdv A outer s H E hr => ?_) pk_text_of
  exact (dss_one (ds_ret (de_op ov_add (de_ix de_str (de_ix (de_var 0 (pv 0)) de_int (fun _ _ => rfl)) (fun _ _ => rfl)) (de_join de_str (de_new (dn_lc (own := [("qubit", 2)]) rfl sc_text_of.nd (di_rng1 (by rfl) T.z_range (da_cons (de_var 1 (pv 1)) da_nil)) (blkOk_by (N := ["pauli", "n", "qubit"]) (sc := defScope s_text_of) (by decide +kernel)) (tg_one (by decide)) (fun _ _ _ _ _ => pg_name (i := 2) sc_text_of.nd rfl (Or.inl rfl)) (fun _ _ _ _ _ => pts_x0) (fun _ _ _ _ _ => (de_call G_letter (hr.mono (by decide)) (by rfl) T.d_letter.gl T.d_letter.fn.kp T.d_letter.bd (da_cons (de_var 0 (pv 0)) (da_cons (de_var 2 (pv 2)) da_nil))))))))))
theorem ok_independent (T : Txt K w mg A B) : FnOk P w K mg base CX0 2 (A 12) (B 12) ["paulis", "n"] (spOf K 2 sp_independent) := by
  have G_reduced : FnOk P w K mg base CX0 1 (A 11) (B 11) ["rows", "pauli", "n"] (spOf K 3 sp_reduced) := ok_reduced T
  refine fn_ok (ws := w_independent) T.d_independent.fn sc_independent rfl (fun cdv A outer s H E hr => ?_) pk_independent
  exact (dss_cons (ds_setO 2 (dn_lst da_nil) (fun _ he => ps_set (i := 2) sc_independent.nd rfl (by first | exact .inl rfl | exact .inr rfl) he))
      (dss_cons (ds_for PassesOwn.never rfl (di_tup (de_var 0 (pv 0))) (dg_var 3 (pg_name (i := 3) sc_independent.nd rfl (by first | exact .inl rfl | exact .inr rfl))) (dss_cons (ds_set 4 (de_lend 2 (de_call G_reduced (hr.mono (by decide)) (by rfl) T.d_reduced.gl T.d_reduced.fn.kp T.d_reduced.bd (da_cons (de_obj 2 (pv 2)) (da_cons (de_var 3 (pv 3)) (da_cons (de_var 1 (pv 1)) da_nil))))) (fun _ he => ps_set (i := 4) sc_independent.nd rfl (by first | exact .inl rfl | exact .inr rfl) he))
      (dss_cons (ds_if (dt_cmp (ov_eq hr.units) (de_var 4 (pv 4)) de_int (nomark _)) (dss_one (ds_ret de_bl)) dss_nil)
      (dss_cons (ds_app 2 (pv 2) (de_var 4 (pv 4)) (fun _ _ hx he => pe_bm PySem.F.plainAttrs_list PySem.F.slot_list_append PySem.F.type_list_append mt_append hx (pa_cons he pa_nil)))
      (dss_one (ds_sortR 2 (pv 2) (fun _ _ hx hk => pe_bm0K PySem.F.plainAttrs_list PySem.F.slot_list_sort PySem.F.type_list_sort mt_sortR hx hk)))))))
      (dss_one (ds_ret de_bl))))
theorem ok__law_times (T : Txt K w mg A B) : FnOk P w K mg base CX0 2 (A 27) (B 27) ["one", "other"] (spOf K 2 sp__law_times) := by
  have G__law_ones : FnOk P w K mg base CX0 1 (A 26) (B 26) ["mask"] (spOf K 1 sp__law_ones) := ok__law_ones T
  refine fn_ok (ws := w__law_times) T.d__law_times.fn sc__law_times rfl (fun cdv A outer s H E hr => ?_) pk__law_times
  exact (dss_cons (ds_set 2 (de_op ov_add (de_op ov_add (de_op ov_mulS de_int (de_ix (de_var 0 (pv 0)) de_int (fun _ _ => rfl))) (de_op ov_mulS de_int (de_ix (de_var 1 (pv 1)) de_int (fun _ _ => rfl)))) (de_op ov_mulS de_int (de_call G__law_ones (hr.mono (by decide)) (by rfl) T.d__law_ones.gl T.d__law_ones.fn.kp T.d__law_ones.bd (da_cons (de_op ov_and (de_ix (de_var 0 (pv 0)) de_int (fun _ _ => rfl)) (de_ix (de_var 1 (pv 1)) de_int (fun _ _ => rfl))) da_nil)))) (fun _ he => ps_set (i := 2) sc__law_times.nd rfl (by first | exact .inl rfl | exact .inr rfl) he))
      (dss_cons (ds_set 2 (de_op ov_add (de_op ov_add (de_var 2 (pv 2)) (de_call G__law_ones (hr.mono (by decide)) (by rfl) T.d__law_ones.gl T.d__law_ones.fn.kp T.d__law_ones.bd (da_cons (de_op ov_and (de_ix (de_var 0 (pv 0)) de_int (fun _ _ => rfl)) (de_ix (de_var 0 (pv 0)) de_int (fun _ _ => rfl))) da_nil))) (de_call G__law_ones (hr.mono (by decide)) (by rfl) T.d__law_ones.gl T.d__law_ones.fn.kp T.d__law_ones.bd (da_cons (de_op ov_and (de_ix (de_var 1 (pv 1)) de_int (fun _ _ => rfl)) (de_ix (de_var 1 (pv 1)) de_int (fun _ _ => rfl))) da_nil))) (fun _ he => ps_set (i := 2) sc__law_times.nd rfl (by first | exact .inl rfl | exact .inr rfl) he))
      (dss_cons (ds_par 3 4 (da_cons (de_op ov_xor (de_ix (de_var 0 (pv 0)) de_int (fun _ _ => rfl)) (de_ix (de_var 1 (pv 1)) de_int (fun _ _ => rfl))) (da_cons (de_op ov_xor (de_ix (de_var 0 (pv 0)) de_int (fun _ _ => rfl)) (de_ix (de_var 1 (pv 1)) de_int (fun _ _ => rfl))) da_nil)) (fun _ h => ps_par rfl sc__law_times.nd rfl rfl (by decide) rfl rfl h (by rfl)))
      (dss_one (ds_ret (de_tup (da_cons (de_var 3 (pv 3)) (da_cons (de_var 4 (pv 4)) (da_cons (de_op ov_div (de_op ov_mod (de_op ov_sub (de_var 2 (pv 2)) (de_call G__law_ones (hr.mono (by decide)) (by rfl) T.d__law_ones.gl T.d__law_ones.fn.kp T.d__law_ones.bd (da_cons (de_op ov_and (de_var 3 (pv 3)) (de_var 4 (pv 4))) da_nil))) de_int) de_int) da_nil)))))))))
theorem ok__law_text (T : Txt K w mg A B) : FnOk P w K mg base CX0 2 (A 31) (B 31) ["n", "rows", "x", "z"] (spOf K 4 sp__law_text) := by
  have G__law_word : FnOk P w K mg base CX0 1 (A 30) (B 30) ["pauli", "n"] (spOf K 2 sp__law_word) := ok__law_word T
  refine fn_ok (ws := w__law_text) T.d__law_text.fn sc__law_text rfl (fun cdv A outer s H E hr => ?_) pk__law_text
  exact (dss_cons (ds_set 4 (de_op ov_add (de_new (dn_lst (da_cons (de_op ov_add de_str (de_cty cv_str (by rfl) T.z_str (by decide +kernel) (da_cons (de_var 0 (pv 0)) da_nil))) da_nil))) (de_new (dn_lc (own := [("row", 5)]) rfl sc__law_text.nd (di_list (de_var 1 (pv 1))) (blkOk_by (N := ["n", "rows", "x", "z", "found", "row"]) (sc := defScope s__law_text) (by decide +kernel)) (tg_one (by decide)) (fun _ _ _ _ _ => pg_name (i := 5) sc__law_text.nd rfl (Or.inl rfl)) (fun _ _ _ _ _ => pts_x0) (fun _ _ _ _ _ => (de_call G__law_word (hr.mono (by decide)) (by rfl) T.d__law_word.gl T.d__law_word.fn.kp T.d__law_word.bd (da_cons (de_var 5 (pv 5)) (da_cons (de_var 0 (pv 0)) da_nil))))))) (fun _ he => ps_set (i := 4) sc__law_text.nd rfl (by first | exact .inl rfl | exact .inr rfl) he))
      (dss_one (ds_ret (de_op ov_add (de_join de_str (de_op ov_add (de_var 4 (pv 4)) (de_new (dn_lst (da_cons (de_op ov_add de_str (de_call G__law_word (hr.mono (by decide)) (by rfl) T.d__law_word.gl T.d__law_word.fn.kp T.d__law_word.bd (da_cons (de_var 2 (pv 2)) (da_cons (de_var 0 (pv 0)) da_nil)))) (da_cons (de_op ov_add de_str (de_call G__law_word (hr.mono (by decide)) (by rfl) T.d__law_word.gl T.d__law_word.fn.kp T.d__law_word.bd (da_cons (de_var 3 (pv 3)) (da_cons (de_var 0 (pv 0)) da_nil)))) da_nil)))))) de_str))))
theorem ok__law_spoilt (T : Txt K w mg A B) : FnOk P w K mg base CX0 2 (A 33) (B 33) ["tape", "text"] (spOf K 2 sp__law_spoilt) := by
  have G__law_next : FnOk P w K mg base CX0 1 (A 23) (B 23) ["tape", "many"] (spOf K 2 sp__law_next) := ok__law_next T
  refine fn_ok (ws := w__law_spoilt) T.d__law_spoilt.fn sc__law_spoilt rfl (fun cdv A outer s H E hr => ?_) pk__law_spoilt
  exact (dss_cons (ds_set 2 (de_call G__law_next (hr.mono (by decide)) (by rfl) T.d__law_next.gl T.d__law_next.fn.kp T.d__law_next.bd (da_cons (de_var 0 (pv 0)) (da_cons (de_cb cv_len (by rfl) T.z_len (by decide +kernel) (da_cons (de_var 1 (pv 1)) da_nil)) da_nil))) (fun _ he => ps_set (i := 2) sc__law_spoilt.nd rfl (by first | exact .inl rfl | exact .inr rfl) he))
      (dss_cons (ds_set 3 (de_ix (de_new (dn_lst (da_cons de_str (da_cons de_str (da_cons de_str (da_cons de_str (da_cons de_str (da_cons de_str (da_cons de_str (da_cons de_str (da_cons de_str (da_cons de_str da_nil)))))))))))) (de_call G__law_next (hr.mono (by decide)) (by rfl) T.d__law_next.gl T.d__law_next.fn.kp T.d__law_next.bd (da_cons (de_var 0 (pv 0)) (da_cons de_int da_nil))) (fun _ _ => rfl)) (fun _ he => ps_set (i := 3) sc__law_spoilt.nd rfl (by first | exact .inl rfl | exact .inr rfl) he))
      (dss_one (ds_ret (de_op ov_add (de_op ov_add (de_sl (de_var 1 (pv 1)) do_none (do_some (de_var 2 (pv 2)))) (de_var 3 (pv 3))) (de_sl (de_var 1 (pv 1)) (do_some (de_op ov_add (de_var 2 (pv 2)) (de_call G__law_next (hr.mono (by decide)) (by rfl) T.d__law_next.gl T.d__law_next.fn.kp T.d__law_next.bd (da_cons (de_var 0 (pv 0)) (da_cons de_int da_nil))))) do_none))))))
theorem ok_rank (T : Txt K w mg A B) : FnOk P w K mg base CX0 3 (A 8) (B 8) ["pauli"] (spOf K 1 sp_rank) := by
  have G_weight : FnOk P w K mg base CX0 2 (A 3) (B 3) ["pauli"] (spOf K 1 sp_weight) := ok_weight T
  refine fn_ok (ws := w_rank) T.d_rank.fn sc_rank rfl (fun cdv A outer s H E hr => ?_) pk_rank
  exact (dss_one (ds_ret (de_tup (da_cons (de_call G_weight (hr.mono (by decide)) (by rfl) T.d_weight.gl T.d_weight.fn.kp T.d_weight.bd (da_cons (de_var 0 (pv 0)) da_nil)) (da_cons (de_ix (de_var 0 (pv 0)) de_int (fun _ _ => rfl)) (da_cons (de_ix (de_var 0 (pv 0)) de_int (fun _ _ => rfl)) da_nil))))))
theorem ok_pauli_of (T : Txt K w mg A B) : FnOk P w K mg base (L2.CX P w) 3 (A 10) (B 10) ["text"] (spOfX K 1 sp_pauli_of) := by
  have G_product : FnOk P w K mg base CX0 2 (A 6) (B 6) ["one", "other"] (spOf K 2 sp_product) := ok_product T
  have G_single : FnOk P w K mg base CX0 1 (A 7) (B 7) ["name", "qubit"] (spOf K 2 sp_single) := ok_single T
  refine fn_okX (ws := w_pauli_of) T.d_pauli_of.fn sc_pauli_of rfl (fun cdv A outer s H E hr => ?_) pk_pauli_of
  exact (dss_cons (ds_if (DW.pt (dw_or (dt_not (dt_tru (de_cb cv_isi (by rfl) T.z_isinstance (by decide +kernel) (da_cons (de_var 0 (pv 0)) (da_cons (de_ty .tstr (by rfl) T.z_str (by decide +kernel)) da_nil))))) (dw_or (dt_cmp ov_lt (de_cb cv_len (by rfl) T.z_len (by decide +kernel) (da_cons (de_var 0 (pv 0)) da_nil)) de_int (nomark _)) (dw_or1 (dt_cmp (ov_notInD (Room65 hr)) (de_ix (de_var 0 (pv 0)) de_int (fun _ _ => rfl)) de_str (by rfl)))))) (dss_one (ds_raise rfl (takes_of rfl rfl rfl rfl) (pmk_own0 PySem.F.excBase_ValueError T.x_NotValid.xP T.x_NotValid.gC T.x_NotValid.kP (raises_own T.x_NotValid.bP T.x_NotValid.tP) (by rfl)))) dss_nil)
      (dss_cons (ds_set 1 (de_tup (da_cons de_int (da_cons de_int (da_cons (de_index de_str (de_ix (de_var 0 (pv 0)) de_int (fun _ _ => rfl))) da_nil)))) (fun _ he => ps_set (i := 1) sc_pauli_of.nd rfl (by first | exact .inl rfl | exact .inr rfl) he))
      (dss_cons (ds_for (passes_of rfl) rfl (di_rng1 (by rfl) T.z_range (da_cons (de_op ov_sub (de_cb cv_len (by rfl) T.z_len (by decide +kernel) (da_cons (de_var 0 (pv 0)) da_nil)) de_int) da_nil)) (dg_var 2 (pg_name (i := 2) sc_pauli_of.nd rfl (by first | exact .inl rfl | exact .inr rfl))) (dss_cons (ds_if (dt_cmp (ov_notInD (Room65 hr)) (de_ix (de_var 0 (pv 0)) (de_op ov_add (de_var 2 (pv 2)) de_int) (fun _ _ => rfl)) (T.c_NAMES_paulis.de rfl) (by rfl)) (dss_one (ds_raise rfl (takes_of rfl rfl rfl rfl) (pmk_own0 PySem.F.excBase_ValueError T.x_NotValid.xP T.x_NotValid.gC T.x_NotValid.kP (raises_own T.x_NotValid.bP T.x_NotValid.tP) (by rfl)))) dss_nil)
      (dss_one (ds_if (dt_cmp (ov_ne hr.units) (de_ix (de_var 0 (pv 0)) (de_op ov_add (de_var 2 (pv 2)) de_int) (fun _ _ => rfl)) de_str (nomark _)) (dss_one (ds_set 1 (de_call G_product (hr.mono (by decide)) (by rfl) T.d_product.gl T.d_product.fn.kp T.d_product.bd (da_cons (de_var 1 (pv 1)) (da_cons (de_call G_single (hr.mono (by decide)) (by rfl) T.d_single.gl T.d_single.fn.kp T.d_single.bd (da_cons (de_ix (de_var 0 (pv 0)) (de_op ov_add (de_var 2 (pv 2)) de_int) (fun _ _ => rfl)) (da_cons (de_var 2 (pv 2)) da_nil))) da_nil))) (fun _ he => ps_set (i := 1) sc_pauli_of.nd rfl (by first | exact .inl rfl | exact .inr rfl) he))) dss_nil))))
      (dss_one (ds_ret (de_var 1 (pv 1)))))))
theorem ok_Code___init__ (T : Txt K w mg A B) : FnOk P w K mg base (L2.CX P w) 3 (A 13) (B 13) ["self", "n", "generators", "x", "z"] (spOfX K 5 sp_Code___init__) := by
  have G_independent : FnOk P w K mg base CX0 2 (A 12) (B 12) ["paulis", "n"] (spOf K 2 sp_independent) := ok_independent T
  have G_is_integer : FnOk P w K mg base CX0 1 (A 0) (B 0) ["value"] (spOf K 1 sp_is_integer) := ok_is_integer T
  have G_commutes : FnOk P w K mg base CX0 2 (A 5) (B 5) ["one", "other"] (spOf K 2 sp_commutes) := ok_commutes T
  have G_is_pauli : FnOk P w K mg base CX0 2 (A 1) (B 1) ["value", "n"] (spOf K 2 sp_is_pauli) := ok_is_pauli T
  refine fn_okX (ws := w_Code___init__) T.d_Code___init__.fn sc_Code___init__ rfl (fun cdv A outer s H E hr => ?_) pk_Code___init__
  exact (dss_cons (ds_if (DW.pt (dw_or (dt_not (dt_tru (de_call G_is_integer (hr.mono (by decide)) (by rfl) T.d_is_integer.gl T.d_is_integer.fn.kp T.d_is_integer.bd (da_cons (de_var 1 (pv 1)) da_nil)))) (dw_or (dt_not (dt_chain ov_le ov_le de_int (de_var 1 (pv 1)) (T.c_MOST_QUBITS.de rfl) (by rfl))) (dw_or1 (dt_not (dt_tru (de_cb cv_isi (by rfl) T.z_isinstance (by decide +kernel) (da_cons (de_var 2 (pv 2)) (da_cons (de_ty .ttup (by rfl) T.z_tuple (by decide +kernel)) da_nil))))))))) (dss_one (ds_raise rfl (takes_of rfl rfl rfl rfl) (pmk_own0 PySem.F.excBase_ValueError T.x_NotValid.xP T.x_NotValid.gC T.x_NotValid.kP (raises_own T.x_NotValid.bP T.x_NotValid.tP) (by rfl)))) dss_nil)
      (dss_cons (ds_set 5 (de_op ov_add (de_cty (cv_lstS rfl) (by rfl) T.z_list (by decide +kernel) (da_cons (de_var 2 (pv 2)) da_nil)) (de_new (dn_lst (da_cons (de_var 3 (pv 3)) (da_cons (de_var 4 (pv 4)) da_nil))))) (fun _ he => ps_set (i := 5) sc_Code___init__.nd rfl (by first | exact .inl rfl | exact .inr rfl) he))
      (dss_cons (ds_if (DW.pt (dw_or (dt_cmp (ov_ne hr.units) (de_cb cv_len (by rfl) T.z_len (by decide +kernel) (da_cons (de_var 2 (pv 2)) da_nil)) (de_op ov_sub (de_var 1 (pv 1)) de_int) (nomark _)) (dw_or1 (dt_not (dt_tru (de_cb (cv_all rfl) (by rfl) T.z_all (by decide +kernel) (da_cons (de_new (dn_lc (own := [("row", 8)]) rfl sc_Code___init__.nd (di_list (de_var 5 (pv 5))) (blkOk_by (N := ["self", "n", "generators", "x", "z", "rows", "at", "other", "row"]) (sc := defScope s_Code___init__) (by decide +kernel)) (tg_one (by decide)) (fun _ _ _ _ _ => pg_name (i := 8) sc_Code___init__.nd rfl (Or.inl rfl)) (fun _ _ _ _ _ => pts_x0) (fun _ _ _ _ _ => (de_call G_is_pauli (hr.mono (by decide)) (by rfl) T.d_is_pauli.gl T.d_is_pauli.fn.kp T.d_is_pauli.bd (da_cons (de_var 8 (pv 8)) (da_cons (de_var 1 (pv 1)) da_nil)))))) da_nil))))))) (dss_one (ds_raise rfl (takes_of rfl rfl rfl rfl) (pmk_own0 PySem.F.excBase_ValueError T.x_NotValid.xP T.x_NotValid.gC T.x_NotValid.kP (raises_own T.x_NotValid.bP T.x_NotValid.tP) (by rfl)))) dss_nil)
      (dss_cons (ds_for (passes_of rfl) rfl (di_rng1 (by rfl) T.z_range (da_cons (de_cb cv_len (by rfl) T.z_len (by decide +kernel) (da_cons (de_var 5 (pv 5)) da_nil)) da_nil)) (dg_var 6 (pg_name (i := 6) sc_Code___init__.nd rfl (by first | exact .inl rfl | exact .inr rfl))) (dss_one (ds_for (passes_of rfl) rfl (di_rng1 (by rfl) T.z_range (da_cons (de_var 6 (pv 6)) da_nil)) (dg_var 7 (pg_name (i := 7) sc_Code___init__.nd rfl (by first | exact .inl rfl | exact .inr rfl))) (dss_one (ds_if (dt_cmp (ov_ne hr.units) (de_call G_commutes (hr.mono (by decide)) (by rfl) T.d_commutes.gl T.d_commutes.fn.kp T.d_commutes.bd (da_cons (de_ix (de_var 5 (pv 5)) (de_var 6 (pv 6)) (fun _ _ => rfl)) (da_cons (de_ix (de_var 5 (pv 5)) (de_var 7 (pv 7)) (fun _ _ => rfl)) da_nil))) (de_or (de_cmp ov_lt (de_var 7 (pv 7)) (de_op ov_sub (de_var 1 (pv 1)) de_int) (nomark _)) (de_one (de_cmp ov_lt (de_var 6 (pv 6)) (de_var 1 (pv 1)) (nomark _)))) (nomark _)) (dss_one (ds_raise rfl (takes_of rfl rfl rfl rfl) (pmk_own0 PySem.F.excBase_ValueError T.x_NotValid.xP T.x_NotValid.gC T.x_NotValid.kP (raises_own T.x_NotValid.bP T.x_NotValid.tP) (by rfl)))) dss_nil)))))
      (dss_cons (ds_if (dt_not (dt_tru (de_call G_independent (hr.mono (by decide)) (by rfl) T.d_independent.gl T.d_independent.fn.kp T.d_independent.bd (da_cons (de_var 2 (pv 2)) (da_cons (de_var 1 (pv 1)) da_nil))))) (dss_one (ds_raise rfl (takes_of rfl rfl rfl rfl) (pmk_own0 PySem.F.excBase_ValueError T.x_NotValid.xP T.x_NotValid.gC T.x_NotValid.kP (raises_own T.x_NotValid.bP T.x_NotValid.tP) (by rfl)))) dss_nil)
      (dss_cons (ds_fld (de_var 0 (pv 0)) (de_var 1 (pv 1)) T.k_Code T.n_Code_n)
      (dss_cons (ds_fld (de_var 0 (pv 0)) (de_var 2 (pv 2)) T.k_Code T.n_Code_generators)
      (dss_cons (ds_fld (de_var 0 (pv 0)) (de_var 3 (pv 3)) T.k_Code T.n_Code_x)
      (dss_cons (ds_fld (de_var 0 (pv 0)) (de_var 4 (pv 4)) T.k_Code T.n_Code_z)
      (dss_cons (ds_fld (de_var 0 (pv 0)) de_non T.k_Code T.n_Code_table)
      (dss_one (ds_fld (de_var 0 (pv 0)) de_non T.k_Code T.n_Code_reps))))))))))))
theorem ok_Code_logical (T : Txt K w mg A B) : FnOk P w K mg base CX0 3 (A 14) (B 14) ["self", "name"] (spOf K 2 sp_Code_logical) := by
  have G_product : FnOk P w K mg base CX0 2 (A 6) (B 6) ["one", "other"] (spOf K 2 sp_product) := ok_product T
  refine fn_ok (ws := w_Code_logical) T.d_Code_logical.fn sc_Code_logical rfl (fun cdv A outer s H E hr => ?_) pk_Code_logical
  exact (dss_cons (ds_if (dt_cmp (ov_eq hr.units) (de_var 1 (pv 1)) de_str (nomark _)) (dss_one (ds_ret (de_fld (de_var 0 (pv 0)) T.k_Code T.n_Code_x))) dss_nil)
      (dss_cons (ds_if (dt_cmp (ov_eq hr.units) (de_var 1 (pv 1)) de_str (nomark _)) (dss_one (ds_ret (de_fld (de_var 0 (pv 0)) T.k_Code T.n_Code_z))) dss_nil)
      (dss_cons (ds_asg (de_call G_product (hr.mono (by decide)) (by rfl) T.d_product.gl T.d_product.fn.kp T.d_product.bd (da_cons (de_fld (de_var 0 (pv 0)) T.k_Code T.n_Code_x) (da_cons (de_fld (de_var 0 (pv 0)) T.k_Code T.n_Code_z) da_nil))) (dg_tup rfl (dgs_cons (dg_var 2 (pg_name (i := 2) sc_Code_logical.nd rfl (by first | exact .inl rfl | exact .inr rfl))) (dgs_cons (dg_var 3 (pg_name (i := 3) sc_Code_logical.nd rfl (by first | exact .inl rfl | exact .inr rfl))) (dgs_cons (dg_var 4 (pg_name (i := 4) sc_Code_logical.nd rfl (by first | exact .inl rfl | exact .inr rfl))) dgs_nil)))))
      (dss_one (ds_ret (de_tup (da_cons (de_var 2 (pv 2)) (da_cons (de_var 3 (pv 3)) (da_cons (de_op ov_sub de_int (de_var 4 (pv 4))) da_nil)))))))))
theorem ok_Code_coset (T : Txt K w mg A B) : FnOk P w K mg base CX0 3 (A 15) (B 15) ["self", "pauli"] (spOf K 2 sp_Code_coset) := by
  have G_product : FnOk P w K mg base CX0 2 (A 6) (B 6) ["one", "other"] (spOf K 2 sp_product) := ok_product T
  refine fn_ok (ws := w_Code_coset) T.d_Code_coset.fn sc_Code_coset rfl (fun cdv A outer s H E hr => ?_) pk_Code_coset
  exact (dss_cons (ds_set 2 (de_new (dn_lst (da_cons (de_var 1 (pv 1)) da_nil))) (fun _ he => ps_set (i := 2) sc_Code_coset.nd rfl (by first | exact .inl rfl | exact .inr rfl) he))
      (dss_cons (ds_for PassesOwn.never rfl (di_tup (de_fld (de_var 0 (pv 0)) T.k_Code T.n_Code_generators)) (dg_var 3 (pg_name (i := 3) sc_Code_coset.nd rfl (by first | exact .inl rfl | exact .inr rfl))) (dss_one (ds_set 2 (de_op ov_add (de_var 2 (pv 2)) (de_new (dn_lc (own := [("row", 4)]) rfl sc_Code_coset.nd (di_list (de_var 2 (pv 2))) (blkOk_by (N := ["self", "pauli", "rows", "generator", "row"]) (sc := defScope s_Code_coset) (by decide +kernel)) (tg_one (by decide)) (fun _ _ _ _ _ => pg_name (i := 4) sc_Code_coset.nd rfl (Or.inl rfl)) (fun _ _ _ _ _ => pts_x0) (fun _ _ _ _ _ => (de_call G_product (hr.mono (by decide)) (by rfl) T.d_product.gl T.d_product.fn.kp T.d_product.bd (da_cons (de_var 4 (pv 4)) (da_cons (de_var 3 (pv 3)) da_nil))))))) (fun _ he => ps_set (i := 2) sc_Code_coset.nd rfl (by first | exact .inl rfl | exact .inr rfl) he))))
      (dss_one (ds_ret (de_var 2 (pv 2))))))
theorem ok_code_text (T : Txt K w mg A B) : FnOk P w K mg base CX0 3 (A 18) (B 18) ["code"] (spOf K 1 sp_code_text) := by
  have G_text_of : FnOk P w K mg base CX0 2 (A 9) (B 9) ["pauli", "n"] (spOf K 2 sp_text_of) := ok_text_of T
  refine fn_ok (ws := w_code_text) T.d_code_text.fn sc_code_text rfl (fun cdv A outer s H E hr => ?_) pk_code_text
  exact (dss_cons (ds_set 1 (de_op ov_add (de_new (dn_lst (da_cons (de_op ov_add de_str (de_cty cv_str (by rfl) T.z_str (by decide +kernel) (da_cons (de_fld (de_var 0 (pv 0)) T.k_Code T.n_Code_n) da_nil))) da_nil))) (de_new (dn_lc (own := [("generator", 2)]) rfl sc_code_text.nd (di_tup (de_fld (de_var 0 (pv 0)) T.k_Code T.n_Code_generators)) (blkOk_by (N := ["code", "rows", "generator", "row"]) (sc := defScope s_code_text) (by decide +kernel)) (tg_one (by decide)) (fun _ _ _ _ _ => pg_name (i := 2) sc_code_text.nd rfl (Or.inl rfl)) (fun _ _ _ _ _ => pts_x0) (fun _ _ _ _ _ => (de_call G_text_of (hr.mono (by decide)) (by rfl) T.d_text_of.gl T.d_text_of.fn.kp T.d_text_of.bd (da_cons (de_var 2 (pv 2)) (da_cons (de_fld (de_var 0 (pv 0)) T.k_Code T.n_Code_n) da_nil))))))) (fun _ he => ps_set (i := 1) sc_code_text.nd rfl (by first | exact .inl rfl | exact .inr rfl) he))
      (dss_cons (ds_set 1 (de_op ov_add (de_var 1 (pv 1)) (de_new (dn_lst (da_cons (de_op ov_add de_str (de_call G_text_of (hr.mono (by decide)) (by rfl) T.d_text_of.gl T.d_text_of.fn.kp T.d_text_of.bd (da_cons (de_fld (de_var 0 (pv 0)) T.k_Code T.n_Code_x) (da_cons (de_fld (de_var 0 (pv 0)) T.k_Code T.n_Code_n) da_nil)))) (da_cons (de_op ov_add de_str (de_call G_text_of (hr.mono (by decide)) (by rfl) T.d_text_of.gl T.d_text_of.fn.kp T.d_text_of.bd (da_cons (de_fld (de_var 0 (pv 0)) T.k_Code T.n_Code_z) (da_cons (de_fld (de_var 0 (pv 0)) T.k_Code T.n_Code_n) da_nil)))) da_nil))))) (fun _ he => ps_set (i := 1) sc_code_text.nd rfl (by first | exact .inl rfl | exact .inr rfl) he))
      (dss_one (ds_ret (de_join de_str (de_new (dn_lc (own := [("row", 3)]) rfl sc_code_text.nd (di_list (de_var 1 (pv 1))) (blkOk_by (N := ["code", "rows", "generator", "row"]) (sc := defScope s_code_text) (by decide +kernel)) (tg_one (by decide)) (fun _ _ _ _ _ => pg_name (i := 3) sc_code_text.nd rfl (Or.inl rfl)) (fun _ _ _ _ _ => pts_x0) (fun _ _ _ _ _ => (de_op ov_add (de_var 3 (pv 3)) de_str)))))))))
theorem ok__law_changed (T : Txt K w mg A B) : FnOk P w K mg base CX0 3 (A 28) (B 28) ["tape", "code"] (spOf K 2 sp__law_changed) := by
  have G__law_masks : FnOk P w K mg base CX0 1 (A 25) (B 25) ["text"] (spOf K 1 sp__law_masks) := ok__law_masks T
  have G__law_next : FnOk P w K mg base CX0 1 (A 23) (B 23) ["tape", "many"] (spOf K 2 sp__law_next) := ok__law_next T
  have G__law_gate : FnOk P w K mg base CX0 1 (A 29) (B 29) ["row", "gate", "a", "b"] (spOf K 4 sp__law_gate) := ok__law_gate T
  have G__law_times : FnOk P w K mg base CX0 2 (A 27) (B 27) ["one", "other"] (spOf K 2 sp__law_times) := ok__law_times T
  refine fn_ok (ws := w__law_changed) T.d__law_changed.fn sc__law_changed rfl (fun cdv A outer s H E hr => ?_) pk__law_changed
  exact (dss_cons (ds_asg (de_var 1 (pv 1)) (dg_tup rfl (dgs_cons (dg_var 5 (pg_name (i := 5) sc__law_changed.nd rfl (by first | exact .inl rfl | exact .inr rfl))) (dgs_cons (dg_var 6 (pg_name (i := 6) sc__law_changed.nd rfl (by first | exact .inl rfl | exact .inr rfl))) (dgs_cons (dg_var 7 (pg_name (i := 7) sc__law_changed.nd rfl (by first | exact .inl rfl | exact .inr rfl))) (dgs_cons (dg_var 8 (pg_name (i := 8) sc__law_changed.nd rfl (by first | exact .inl rfl | exact .inr rfl))) dgs_nil))))))
      (dss_cons (ds_setLcF (own := [("row", 12)]) (i := 2) rfl sc__law_changed.nd rfl rfl (sw_true rfl rfl rfl (by decide +kernel)) (di_list (de_var 6 (pv 6))) (blkOk_by (N := ["tape", "code", "rows", "logical", "turn", "n", "generators", "x", "z", "gate", "a", "b", "row"]) (sc := defScope s__law_changed) (by decide +kernel)) (tg_one (by decide)) (fun _ _ _ _ _ => pg_name (i := 12) sc__law_changed.nd rfl (Or.inl rfl)) (fun _ _ _ _ _ => pts_x0) (fun _ _ _ _ _ => (de_call G__law_masks (hr.mono (by decide)) (by rfl) T.d__law_masks.gl T.d__law_masks.fn.kp T.d__law_masks.bd (da_cons (de_var 12 (pv 12)) da_nil))))
      (dss_cons (ds_set 3 (de_new (dn_lst (da_cons (de_call G__law_masks (hr.mono (by decide)) (by rfl) T.d__law_masks.gl T.d__law_masks.fn.kp T.d__law_masks.bd (da_cons (de_var 7 (pv 7)) da_nil)) (da_cons (de_call G__law_masks (hr.mono (by decide)) (by rfl) T.d__law_masks.gl T.d__law_masks.fn.kp T.d__law_masks.bd (da_cons (de_var 8 (pv 8)) da_nil)) da_nil)))) (fun _ he => ps_set (i := 3) sc__law_changed.nd rfl (by first | exact .inl rfl | exact .inr rfl) he))
      (dss_cons (ds_for PassesOwn.never rfl (di_rng1 (by rfl) T.z_range (da_cons (de_call G__law_next (hr.mono (by decide)) (by rfl) T.d__law_next.gl T.d__law_next.fn.kp T.d__law_next.bd (da_cons (de_var 0 (pv 0)) (da_cons de_int da_nil))) da_nil)) (dg_var 4 (pg_name (i := 4) sc__law_changed.nd rfl (by first | exact .inl rfl | exact .inr rfl))) (dss_cons (ds_set 9 (de_call G__law_next (hr.mono (by decide)) (by rfl) T.d__law_next.gl T.d__law_next.fn.kp T.d__law_next.bd (da_cons (de_var 0 (pv 0)) (da_cons de_int da_nil))) (fun _ he => ps_set (i := 9) sc__law_changed.nd rfl (by first | exact .inl rfl | exact .inr rfl) he))
      (dss_cons (ds_set 10 (de_call G__law_next (hr.mono (by decide)) (by rfl) T.d__law_next.gl T.d__law_next.fn.kp T.d__law_next.bd (da_cons (de_var 0 (pv 0)) (da_cons (de_var 5 (pv 5)) da_nil))) (fun _ he => ps_set (i := 10) sc__law_changed.nd rfl (by first | exact .inl rfl | exact .inr rfl) he))
      (dss_cons (ds_set 11 (de_op ov_mod (de_op ov_add (de_op ov_add (de_var 10 (pv 10)) de_int) (de_call G__law_next (hr.mono (by decide)) (by rfl) T.d__law_next.gl T.d__law_next.fn.kp T.d__law_next.bd (da_cons (de_var 0 (pv 0)) (da_cons (de_cb (cv_max rfl) (by rfl) T.z_max (by decide +kernel) (da_cons de_int (da_cons (de_op ov_sub (de_var 5 (pv 5)) de_int) da_nil))) da_nil)))) (de_var 5 (pv 5))) (fun _ he => ps_set (i := 11) sc__law_changed.nd rfl (by first | exact .inl rfl | exact .inr rfl) he))
      (dss_cons (ds_setLcF (own := [("row", 12)]) (i := 2) rfl sc__law_changed.nd rfl rfl (sw_true rfl rfl rfl (by decide +kernel)) (di_list (de_var 2 (pv 2))) (blkOk_by (N := ["tape", "code", "rows", "logical", "turn", "n", "generators", "x", "z", "gate", "a", "b", "row"]) (sc := defScope s__law_changed) (by decide +kernel)) (tg_one (by decide)) (fun _ _ _ _ _ => pg_name (i := 12) sc__law_changed.nd rfl (Or.inl rfl)) (fun _ _ _ _ _ => pts_x0) (fun _ _ _ _ _ => (de_call G__law_gate (hr.mono (by decide)) (by rfl) T.d__law_gate.gl T.d__law_gate.fn.kp T.d__law_gate.bd (da_cons (de_var 12 (pv 12)) (da_cons (de_var 9 (pv 9)) (da_cons (de_var 10 (pv 10)) (da_cons (de_var 11 (pv 11)) da_nil)))))))
      (dss_one (ds_setLcF (own := [("row", 12)]) (i := 3) rfl sc__law_changed.nd rfl rfl (sw_true rfl rfl rfl (by decide +kernel)) (di_list (de_var 3 (pv 3))) (blkOk_by (N := ["tape", "code", "rows", "logical", "turn", "n", "generators", "x", "z", "gate", "a", "b", "row"]) (sc := defScope s__law_changed) (by decide +kernel)) (tg_one (by decide)) (fun _ _ _ _ _ => pg_name (i := 12) sc__law_changed.nd rfl (Or.inl rfl)) (fun _ _ _ _ _ => pts_x0) (fun _ _ _ _ _ => (de_call G__law_gate (hr.mono (by decide)) (by rfl) T.d__law_gate.gl T.d__law_gate.fn.kp T.d__law_gate.bd (da_cons (de_var 12 (pv 12)) (da_cons (de_var 9 (pv 9)) (da_cons (de_var 10 (pv 10)) (da_cons (de_var 11 (pv 11)) da_nil)))))))))))))
      (dss_cons (ds_if (DW.pt (dw_and (dt_cmp ov_gt (de_cb cv_len (by rfl) T.z_len (by decide +kernel) (da_cons (de_var 2 (pv 2)) da_nil)) de_int (nomark _)) (dw_and1 (dt_cmp (ov_eq hr.units) (de_call G__law_next (hr.mono (by decide)) (by rfl) T.d__law_next.gl T.d__law_next.fn.kp T.d__law_next.bd (da_cons (de_var 0 (pv 0)) (da_cons de_int da_nil))) de_int (nomark _))))) (dss_one (ds_set 2 (de_op ov_add (de_new (dn_lst (da_cons (de_call G__law_times (hr.mono (by decide)) (by rfl) T.d__law_times.gl T.d__law_times.fn.kp T.d__law_times.bd (da_cons (de_ix (de_var 2 (pv 2)) de_int (fun _ _ => rfl)) (da_cons (de_ix (de_var 2 (pv 2)) de_int (fun _ _ => rfl)) da_nil))) da_nil))) (de_sl (de_var 2 (pv 2)) (do_some de_int) do_none)) (fun _ he => ps_set (i := 2) sc__law_changed.nd rfl (by first | exact .inl rfl | exact .inr rfl) he))) dss_nil)
      (dss_cons (ds_if (DW.pt (dw_and (dt_cmp ov_gt (de_cb cv_len (by rfl) T.z_len (by decide +kernel) (da_cons (de_var 2 (pv 2)) da_nil)) de_int (nomark _)) (dw_and1 (dt_cmp (ov_eq hr.units) (de_call G__law_next (hr.mono (by decide)) (by rfl) T.d__law_next.gl T.d__law_next.fn.kp T.d__law_next.bd (da_cons (de_var 0 (pv 0)) (da_cons de_int da_nil))) de_int (nomark _))))) (dss_one (ds_set 3 (de_new (dn_lst (da_cons (de_ix (de_var 3 (pv 3)) de_int (fun _ _ => rfl)) (da_cons (de_call G__law_times (hr.mono (by decide)) (by rfl) T.d__law_times.gl T.d__law_times.fn.kp T.d__law_times.bd (da_cons (de_ix (de_var 3 (pv 3)) de_int (fun _ _ => rfl)) (da_cons (de_ix (de_var 2 (pv 2)) de_int (fun _ _ => rfl)) da_nil))) da_nil)))) (fun _ he => ps_set (i := 3) sc__law_changed.nd rfl (by first | exact .inl rfl | exact .inr rfl) he))) dss_nil)
      (dss_one (ds_ret (de_tup (da_cons (de_var 5 (pv 5)) (da_cons (de_var 2 (pv 2)) (da_cons (de_ix (de_var 3 (pv 3)) de_int (fun _ _ => rfl)) (da_cons (de_ix (de_var 3 (pv 3)) de_int (fun _ _ => rfl)) da_nil)))))))))))))
theorem ok_text_pauli (T : Txt K w mg A B) : FnOk P w K mg base (L2.CX P w) 4 (A 19) (B 19) ["text", "n"] (spOfX K 2 sp_text_pauli) := by
  have G_pauli_of : FnOk P w K mg base (L2.CX P w) 3 (A 10) (B 10) ["text"] (spOfX K 1 sp_pauli_of) := ok_pauli_of T
  refine fn_okX (ws := w_text_pauli) T.d_text_pauli.fn sc_text_pauli rfl (fun cdv A outer s H E hr => ?_) pk_text_pauli
  exact (dss_cons (ds_if (dt_cmp (ov_ne hr.units) (de_cb cv_len (by rfl) T.z_len (by decide +kernel) (da_cons (de_var 0 (pv 0)) da_nil)) (de_op ov_add (de_var 1 (pv 1)) de_int) (nomark _)) (dss_one (ds_raise rfl (takes_of rfl rfl rfl rfl) (pmk_own0 PySem.F.excBase_ValueError T.x_NotValid.xP T.x_NotValid.gC T.x_NotValid.kP (raises_own T.x_NotValid.bP T.x_NotValid.tP) (by rfl)))) dss_nil)
      (dss_one (ds_retX (w := fun xx => (wCallX sp_pauli_of (wCons (wVar 0) wNil) xx)) (fun xx => (de_callX G_pauli_of (takes_of rfl rfl rfl rfl) (fun _ h => h) (hr.mono (by decide)) (by rfl) T.d_pauli_of.gl T.d_pauli_of.fn.kp T.d_pauli_of.bd (da_cons (de_var 0 (pv 0)) da_nil))))))
theorem ok_around (T : Txt K w mg A B) : FnOk P w K mg base CX0 4 (A 21) (B 21) ["place"] (spOf K 1 sp_around) := by
  have G_pauli_of : FnOk P w K mg base (L2.CX P w) 3 (A 10) (B 10) ["text"] (spOfX K 1 sp_pauli_of) := ok_pauli_of T
  refine fn_ok (ws := w_around) T.d_around.fn sc_around rfl (fun cdv A outer s H E hr => ?_) pk_around
  exact (dss_cons (ds_setO 1 (dn_op on_rep (de_new (dn_lst (da_cons de_str da_nil))) (T.c_ROUND.de rfl)) (fun _ he => ps_set (i := 1) sc_around.nd rfl (by first | exact .inl rfl | exact .inr rfl) he))
      (dss_cons (ds_asg de_str (dg_ixO 1 (pv 1) (de_var 0 (pv 0))))
      (dss_cons (ds_for PassesOwn.never rfl (di_tup (de_tup (da_cons de_int (da_cons de_int (da_cons (de_op ov_sub (T.c_ROUND.de rfl) de_int) (da_cons (de_op ov_sub (T.c_ROUND.de rfl) de_int) da_nil)))))) (dg_var 2 (pg_name (i := 2) sc_around.nd rfl (by first | exact .inl rfl | exact .inr rfl))) (dss_one (ds_asg de_str (dg_ixO 1 (pv 1) (de_op ov_mod (de_op ov_add (de_var 0 (pv 0)) (de_var 2 (pv 2))) (T.c_ROUND.de rfl))))))
      (dss_one (ds_ret (de_callL G_pauli_of (hr.mono (by decide)) (by rfl) T.d_pauli_of.gl T.d_pauli_of.fn.kp T.d_pauli_of.bd (da_cons (de_op ov_add de_str (de_join de_str (de_var 1 (pv 1)))) da_nil)))))))
theorem ok_Code_least_logical (T : Txt K w mg A B) : FnOk P w K mg base CX0 5 (A 16) (B 16) ["self"] (spOf K 1 sp_Code_least_logical) := by
  have G_Code_coset : FnOk P w K mg base CX0 3 (A 15) (B 15) ["self", "pauli"] (spOf K 2 sp_Code_coset) := ok_Code_coset T
  have G_Code_logical : FnOk P w K mg base CX0 3 (A 14) (B 14) ["self", "name"] (spOf K 2 sp_Code_logical) := ok_Code_logical T
  have G_rank : FnOk P w K mg base CX0 3 (A 8) (B 8) ["pauli"] (spOf K 1 sp_rank) := ok_rank T
  refine fn_ok (ws := w_Code_least_logical) T.d_Code_least_logical.fn sc_Code_least_logical rfl (fun cdv A outer s H E hr => ?_) pk_Code_least_logical
  exact (dss_cons (ds_setLcF (own := [("name", 3)]) (i := 1) rfl sc_Code_least_logical.nd rfl rfl (sw_true rfl rfl rfl (by decide +kernel)) (di_str de_str) (blkOk_by (N := ["self", "rows", "best", "name"]) (sc := defScope s_Code_least_logical) (by decide +kernel)) (tg_one (by decide)) (fun _ _ _ _ _ => pg_name (i := 3) sc_Code_least_logical.nd rfl (Or.inl rfl)) (fun _ _ _ _ _ => pts_x0) (fun _ _ _ _ _ => (de_minF G_rank (hr.mono (by decide)) (by rfl) T.z_min (by rfl) T.d_rank.gl T.d_rank.bd (de_meth (de_var 0 (pv 0)) T.k_Code T.d_Code_coset.mt G_Code_coset (hr.mono (by decide)) T.d_Code_coset.bd (da_cons (de_meth (de_var 0 (pv 0)) T.k_Code T.d_Code_logical.mt G_Code_logical (hr.mono (by decide)) T.d_Code_logical.bd (da_cons (de_var 3 (pv 3)) da_nil)) da_nil)))))
      (dss_cons (ds_set 2 (de_minF G_rank (hr.mono (by decide)) (by rfl) T.z_min (by rfl) T.d_rank.gl T.d_rank.bd (de_var 1 (pv 1))) (fun _ he => ps_set (i := 2) sc_Code_least_logical.nd rfl (by first | exact .inl rfl | exact .inr rfl) he))
      (dss_one (ds_ret (de_tup (da_cons (de_ix (de_var 2 (pv 2)) de_int (fun _ _ => rfl)) (da_cons (de_ix (de_var 2 (pv 2)) de_int (fun _ _ => rfl)) (da_cons de_int da_nil))))))))
theorem ok_read_code (T : Txt K w mg A B) : FnOk P w K mg base (L2.CX P w) 5 (A 20) (B 20) ["text"] (spOfX K 1 sp_read_code) := by
  have G_Code___init__ : FnOk P w K mg base (L2.CX P w) 3 (A 13) (B 13) ["self", "n", "generators", "x", "z"] (spOfX K 5 sp_Code___init__) := ok_Code___init__ T
  have G_text_pauli : FnOk P w K mg base (L2.CX P w) 4 (A 19) (B 19) ["text", "n"] (spOfX K 2 sp_text_pauli) := ok_text_pauli T
  refine fn_okX (ws := w_read_code) T.d_read_code.fn sc_read_code rfl (fun cdv A outer s H E hr => ?_) pk_read_code
  exact (dss_cons (ds_if (dt_not (dt_tru (de_cb cv_isi (by rfl) T.z_isinstance (by decide +kernel) (da_cons (de_var 0 (pv 0)) (da_cons (de_ty .tstr (by rfl) T.z_str (by decide +kernel)) da_nil))))) (dss_one (ds_raise rfl (takes_of rfl rfl rfl rfl) (pmk_own0 PySem.F.excBase_ValueError T.x_NotValid.xP T.x_NotValid.gC T.x_NotValid.kP (raises_own T.x_NotValid.bP T.x_NotValid.tP) (by rfl)))) dss_nil)
      (dss_cons (ds_set 1 (de_split (de_var 0 (pv 0)) de_str) (fun _ he => ps_set (i := 1) sc_read_code.nd rfl (by first | exact .inl rfl | exact .inr rfl) he))
      (dss_cons (ds_set 2 (de_split (de_ix (de_var 1 (pv 1)) de_int (fun _ _ => rfl)) de_str) (fun _ he => ps_set (i := 2) sc_read_code.nd rfl (by first | exact .inl rfl | exact .inr rfl) he))
      (dss_cons (ds_if (DW.pt (dw_or (dt_cmp (ov_ne hr.units) (de_cb cv_len (by rfl) T.z_len (by decide +kernel) (da_cons (de_var 2 (pv 2)) da_nil)) de_int (nomark _)) (dw_or (dt_cmp (ov_ne hr.units) (de_ix (de_var 2 (pv 2)) de_int (fun _ _ => rfl)) de_str (nomark _)) (dw_or1 (dt_cmp (ov_notInD (Room65 hr)) (de_ix (de_var 2 (pv 2)) de_int (fun _ _ => rfl)) (de_new (dn_lc (own := [("n", 3)]) rfl sc_read_code.nd (di_rng2 (by rfl) T.z_range (da_cons de_int (da_cons (de_op ov_add (T.c_MOST_QUBITS.de rfl) de_int) da_nil))) (blkOk_by (N := ["text", "rows", "first", "n", "generators", "row"]) (sc := defScope s_read_code) (by decide +kernel)) (tg_one (by decide)) (fun _ _ _ _ _ => pg_name (i := 3) sc_read_code.nd rfl (Or.inl rfl)) (fun _ _ _ _ _ => pts_x0) (fun _ _ _ _ _ => (de_cty cv_str (by rfl) T.z_str (by decide +kernel) (da_cons (de_var 3 (pv 3)) da_nil))))) (by rfl)))))) (dss_one (ds_raise rfl (takes_of rfl rfl rfl rfl) (pmk_own0 PySem.F.excBase_ValueError T.x_NotValid.xP T.x_NotValid.gC T.x_NotValid.kP (raises_own T.x_NotValid.bP T.x_NotValid.tP) (by rfl)))) dss_nil)
      (dss_cons (ds_set 3 (de_cty cv_intS (by rfl) T.z_int (by decide +kernel) (da_cons (de_ix (de_var 2 (pv 2)) de_int (fun _ _ => rfl)) da_nil)) (fun _ he => ps_set (i := 3) sc_read_code.nd rfl (by first | exact .inl rfl | exact .inr rfl) he))
      (dss_cons (ds_if (DW.pt (dw_or (dt_cmp (ov_ne hr.units) (de_cb cv_len (by rfl) T.z_len (by decide +kernel) (da_cons (de_var 1 (pv 1)) da_nil)) (de_op ov_add (de_var 3 (pv 3)) de_int) (nomark _)) (dw_or (dt_cmp (ov_ne hr.units) (de_sl (de_ix (de_var 1 (pv 1)) (de_var 3 (pv 3)) (fun _ _ => rfl)) do_none (do_some de_int)) de_str (nomark _)) (dw_or (dt_cmp (ov_ne hr.units) (de_sl (de_ix (de_var 1 (pv 1)) (de_op ov_add (de_var 3 (pv 3)) de_int) (fun _ _ => rfl)) do_none (do_some de_int)) de_str (nomark _)) (dw_or1 (dt_cmp (ov_ne hr.units) (de_ix (de_var 1 (pv 1)) (de_op ov_add (de_var 3 (pv 3)) de_int) (fun _ _ => rfl)) de_str (nomark _))))))) (dss_one (ds_raise rfl (takes_of rfl rfl rfl rfl) (pmk_own0 PySem.F.excBase_ValueError T.x_NotValid.xP T.x_NotValid.gC T.x_NotValid.kP (raises_own T.x_NotValid.bP T.x_NotValid.tP) (by rfl)))) dss_nil)
      (dss_cons (ds_setX (w := fun xx => (wCB bTup (wCons (wLcX (wItL (wSl (wVar 1) (wPart (wC (.int 1))) (wPart (wVar 3)))) (gVar 5) wYes (fun xx => (wCallX sp_text_pauli (wCons (wVar 5) (wCons (wVar 3) wNil)) xx)) [5] xx) wNil))) 4 (fun xx => (de_cty cv_tup (by rfl) T.z_tuple (by decide +kernel) (da_cons (de_new (dn_lcX (own := [("row", 5)]) rfl rfl rfl (takes_of rfl rfl rfl rfl) sc_read_code.nd (di_list (de_sl (de_var 1 (pv 1)) (do_some de_int) (do_some (de_var 3 (pv 3))))) (blkOk_by (N := ["text", "rows", "first", "n", "generators", "row"]) (sc := defScope s_read_code) (by decide +kernel)) (tg_one (by decide)) (fun _ _ _ _ _ => pg_name (i := 5) sc_read_code.nd rfl (Or.inl rfl)) (fun _ _ _ _ _ => pts_x0) (fun _ _ _ _ _ _ _ tkF _ => (de_callF G_text_pauli tkF (fun _ h => h) (hr.mono (by decide)) (by rfl) T.d_text_pauli.gl T.d_text_pauli.fn.kp T.d_text_pauli.bd (da_cons (de_var 5 (pv 5)) (da_cons (de_var 3 (pv 3)) da_nil)))))) da_nil))) (fun _ he => ps_set (i := 4) sc_read_code.nd rfl (by first | exact .inl rfl | exact .inr rfl) he))
      (dss_one (ds_retX (w := fun xx => (wMakeX "Code" sp_Code___init__ (wCons (wVar 3) (wCons (wVar 4) (wCons (wCallX sp_text_pauli (wCons (wSl (wIx (wVar 1) (wVar 3)) (wPart (wC (.int 2))) wNoPart) (wCons (wVar 3) wNil)) xx) (wCons (wCallX sp_text_pauli (wCons (wSl (wIx (wVar 1) (wOp opAdd (wVar 3) (wC (.int 1)))) (wPart (wC (.int 2))) wNoPart) (wCons (wVar 3) wNil)) xx) wNil)))) xx)) (fun xx => (de_makeX T.d_Code___init__.mkr G_Code___init__ (takes_of rfl rfl rfl rfl) (fun _ h => h) (hr.mono (by decide)) (by rfl) T.d_Code___init__.gl T.d_Code___init__.bd (da_cons (de_var 3 (pv 3)) (da_cons (de_var 4 (pv 4)) (da_cons (de_callX G_text_pauli (takes_of rfl rfl rfl rfl) (fun _ h => h) (hr.mono (by decide)) (by rfl) T.d_text_pauli.gl T.d_text_pauli.fn.kp T.d_text_pauli.bd (da_cons (de_sl (de_ix (de_var 1 (pv 1)) (de_var 3 (pv 3)) (fun _ _ => rfl)) (do_some de_int) do_none) (da_cons (de_var 3 (pv 3)) da_nil))) (da_cons (de_callX G_text_pauli (takes_of rfl rfl rfl rfl) (fun _ h => h) (hr.mono (by decide)) (by rfl) T.d_text_pauli.gl T.d_text_pauli.fn.kp T.d_text_pauli.bd (da_cons (de_sl (de_ix (de_var 1 (pv 1)) (de_op ov_add (de_var 3 (pv 3)) de_int) (fun _ _ => rfl)) (do_some de_int) do_none) (da_cons (de_var 3 (pv 3)) da_nil))) da_nil)))))))))))))))
theorem ok_known (T : Txt K w mg A B) : FnOk P w K mg base (L2.CX P w) 5 (A 22) (B 22) ["name"] (spOfX K 1 sp_known) := by
  have G_Code___init__ : FnOk P w K mg base (L2.CX P w) 3 (A 13) (B 13) ["self", "n", "generators", "x", "z"] (spOfX K 5 sp_Code___init__) := ok_Code___init__ T
  have G_pauli_of : FnOk P w K mg base (L2.CX P w) 3 (A 10) (B 10) ["text"] (spOfX K 1 sp_pauli_of) := ok_pauli_of T
  have G_product : FnOk P w K mg base CX0 2 (A 6) (B 6) ["one", "other"] (spOf K 2 sp_product) := ok_product T
  have G_around : FnOk P w K mg base CX0 4 (A 21) (B 21) ["place"] (spOf K 1 sp_around) := ok_around T
  refine fn_okX (ws := w_known) T.d_known.fn sc_known rfl (fun cdv A outer s H E hr => ?_) pk_known
  exact (dss_cons (ds_if (dt_cmp (ov_eq hr.units) (de_var 0 (pv 0)) de_str (nomark _)) (dss_cons (ds_setLcF (own := [("place", 5)]) (i := 1) rfl sc_known.nd rfl rfl (sw_true rfl rfl rfl (by decide +kernel)) (di_rng1 (by rfl) T.z_range (da_cons (de_op ov_sub (T.c_ROUND.de rfl) de_int) da_nil)) (blkOk_by (N := ["name", "generators", "texts", "x", "z", "place", "text"]) (sc := defScope s_known) (by decide +kernel)) (tg_one (by decide)) (fun _ _ _ _ _ => pg_name (i := 5) sc_known.nd rfl (Or.inl rfl)) (fun _ _ _ _ _ => pts_x0) (fun _ _ _ _ _ => (de_call G_product (hr.mono (by decide)) (by rfl) T.d_product.gl T.d_product.fn.kp T.d_product.bd (da_cons (de_call G_around (hr.mono (by decide)) (by rfl) T.d_around.gl T.d_around.fn.kp T.d_around.bd (da_cons (de_var 5 (pv 5)) da_nil)) (da_cons (de_call G_around (hr.mono (by decide)) (by rfl) T.d_around.gl T.d_around.fn.kp T.d_around.bd (da_cons (de_op ov_add (de_var 5 (pv 5)) de_int) da_nil)) da_nil)))))
      (dss_one (ds_ret (de_makeL T.d_Code___init__.mkr G_Code___init__ (hr.mono (by decide)) (by rfl) T.d_Code___init__.gl T.d_Code___init__.bd (da_cons (T.c_ROUND.de rfl) (da_cons (de_cty cv_tup (by rfl) T.z_tuple (by decide +kernel) (da_cons (de_var 1 (pv 1)) da_nil)) (da_cons (de_callL G_pauli_of (hr.mono (by decide)) (by rfl) T.d_pauli_of.gl T.d_pauli_of.fn.kp T.d_pauli_of.bd (da_cons (de_op ov_add de_str (de_op ov_mulS de_str (T.c_ROUND.de rfl))) da_nil)) (da_cons (de_call G_around (hr.mono (by decide)) (by rfl) T.d_around.gl T.d_around.fn.kp T.d_around.bd (da_cons de_int da_nil)) da_nil)))))))) dss_nil)
      (dss_cons (ds_if (dt_cmp (ov_notInD (Room65 hr)) (de_var 0 (pv 0)) (T.c_NAMES_catalogue.de rfl) (by rfl)) (dss_one (ds_raise rfl (takes_of rfl rfl rfl rfl) (pmk_own0 PySem.F.excBase_ValueError T.x_NotValid.xP T.x_NotValid.gC T.x_NotValid.kP (raises_own T.x_NotValid.bP T.x_NotValid.tP) (by rfl)))) dss_nil)
      (dss_cons (ds_asg (T.c_ROWS.de (by rfl) (de_var 0 (pv 0)) (fun _ _ => rfl)) (dg_tup rfl (dgs_cons (dg_var 2 (pg_name (i := 2) sc_known.nd rfl (by first | exact .inl rfl | exact .inr rfl))) (dgs_cons (dg_var 3 (pg_name (i := 3) sc_known.nd rfl (by first | exact .inl rfl | exact .inr rfl))) (dgs_cons (dg_var 4 (pg_name (i := 4) sc_known.nd rfl (by first | exact .inl rfl | exact .inr rfl))) dgs_nil)))))
      (dss_one (ds_ret (de_makeL T.d_Code___init__.mkr G_Code___init__ (hr.mono (by decide)) (by rfl) T.d_Code___init__.gl T.d_Code___init__.bd (da_cons (de_op ov_sub (de_cb cv_len (by rfl) T.z_len (by decide +kernel) (da_cons (de_var 3 (pv 3)) da_nil)) de_int) (da_cons (de_cty cv_tup (by rfl) T.z_tuple (by decide +kernel) (da_cons (de_new (dn_lc (own := [("text", 6)]) rfl sc_known.nd (di_tup (de_var 2 (pv 2))) (blkOk_by (N := ["name", "generators", "texts", "x", "z", "place", "text"]) (sc := defScope s_known) (by decide +kernel)) (tg_one (by decide)) (fun _ _ _ _ _ => pg_name (i := 6) sc_known.nd rfl (Or.inl rfl)) (fun _ _ _ _ _ => pts_x0) (fun _ _ _ _ _ => (de_callL G_pauli_of (hr.mono (by decide)) (by rfl) T.d_pauli_of.gl T.d_pauli_of.fn.kp T.d_pauli_of.bd (da_cons (de_var 6 (pv 6)) da_nil))))) da_nil)) (da_cons (de_callL G_pauli_of (hr.mono (by decide)) (by rfl) T.d_pauli_of.gl T.d_pauli_of.fn.kp T.d_pauli_of.bd (da_cons (de_var 3 (pv 3)) da_nil)) (da_cons (de_callL G_pauli_of (hr.mono (by decide)) (by rfl) T.d_pauli_of.gl T.d_pauli_of.fn.kp T.d_pauli_of.bd (da_cons (de_var 4 (pv 4)) da_nil)) da_nil))))))))))
theorem ok_Code_distance (T : Txt K w mg A B) : FnOk P w K mg base CX0 6 (A 17) (B 17) ["self"] (spOf K 1 sp_Code_distance) := by
  have G_rank : FnOk P w K mg base CX0 3 (A 8) (B 8) ["pauli"] (spOf K 1 sp_rank) := ok_rank T
  have G_Code_least_logical : FnOk P w K mg base CX0 5 (A 16) (B 16) ["self"] (spOf K 1 sp_Code_least_logical) := ok_Code_least_logical T
  refine fn_ok (ws := w_Code_distance) T.d_Code_distance.fn sc_Code_distance rfl (fun cdv A outer s H E hr => ?_) pk_Code_distance
  exact (dss_one (ds_ret (de_ix (de_call G_rank (hr.mono (by decide)) (by rfl) T.d_rank.gl T.d_rank.fn.kp T.d_rank.bd (da_cons (de_meth0 (de_var 0 (pv 0)) T.k_Code T.d_Code_least_logical.mt G_Code_least_logical (hr.mono (by decide)) T.d_Code_least_logical.bd) da_nil)) de_int (fun _ _ => rfl))))
theorem ok__law_read (T : Txt K w mg A B) : FnOk P w K mg base CX0 6 (A 32) (B 32) ["text"] (spOf K 1 sp__law_read) := by
  have G_read_code : FnOk P w K mg base (L2.CX P w) 5 (A 20) (B 20) ["text"] (spOfX K 1 sp_read_code) := ok_read_code T
  refine fn_ok (ws := w__law_read) T.d__law_read.fn sc__law_read rfl (fun cdv A outer s H E hr => ?_) pk__law_read
  exact (dss_one (ds_try rfl rfl ⟨by rfl, by decide, .inl T.x_NotValid.gC⟩ T.x_NotValid.te takes0 (fun W' pn xe tk' hp => (dss_one (ds_retX (w := fun xx => (wCallX sp_read_code (wCons (wVar 0) wNil) xx)) (fun xx => (de_callX G_read_code tk' (fun _ h => h) (hr.mono (by decide)) (by rfl) T.d_read_code.gl T.d_read_code.fn.kp T.d_read_code.bd (da_cons (de_var 0 (pv 0)) da_nil)))))) (fun W' a oe pn => (dss_one (ds_ret de_non)))))
theorem ok_law (T : Txt K w mg A B) : FnOk P w K mg base CX0 7 (A 34) (B 34) ["script"] (spOf K 1 sp_law) := by
  have G__law_next : FnOk P w K mg base CX0 1 (A 23) (B 23) ["tape", "many"] (spOf K 2 sp__law_next) := ok__law_next T
  have G_known : FnOk P w K mg base (L2.CX P w) 5 (A 22) (B 22) ["name"] (spOfX K 1 sp_known) := ok_known T
  have G__law_changed : FnOk P w K mg base CX0 3 (A 28) (B 28) ["tape", "code"] (spOf K 2 sp__law_changed) := ok__law_changed T
  have G__law_text : FnOk P w K mg base CX0 2 (A 31) (B 31) ["n", "rows", "x", "z"] (spOf K 4 sp__law_text) := ok__law_text T
  have G__law_read : FnOk P w K mg base CX0 6 (A 32) (B 32) ["text"] (spOf K 1 sp__law_read) := ok__law_read T
  have G__law_spoilt : FnOk P w K mg base CX0 2 (A 33) (B 33) ["tape", "text"] (spOf K 2 sp__law_spoilt) := ok__law_spoilt T
  have G_code_text : FnOk P w K mg base CX0 3 (A 18) (B 18) ["code"] (spOf K 1 sp_code_text) := ok_code_text T
  have G_Code_distance : FnOk P w K mg base CX0 6 (A 17) (B 17) ["self"] (spOf K 1 sp_Code_distance) := ok_Code_distance T
  have G__law_masks : FnOk P w K mg base CX0 1 (A 25) (B 25) ["text"] (spOf K 1 sp__law_masks) := ok__law_masks T
  have G_read_code : FnOk P w K mg base (L2.CX P w) 5 (A 20) (B 20) ["text"] (spOfX K 1 sp_read_code) := ok_read_code T
  have G__law_codes : FnOk P w K mg base CX0 1 (A 24) (B 24) [] (spOf K 0 sp__law_codes) := ok__law_codes T
  have G_Code___init__ : FnOk P w K mg base (L2.CX P w) 3 (A 13) (B 13) ["self", "n", "generators", "x", "z"] (spOfX K 5 sp_Code___init__) := ok_Code___init__ T
  refine fn_ok (ws := w_law) T.d_law.fn sc_law rfl (fun cdv A outer s H E hr => ?_) pk_law
  exact (dss_cons (ds_setM 1 (dn_lst (da_cons (de_cty (cv_lstS rfl) (by rfl) T.z_list (by decide +kernel) (da_cons (de_var 0 (pv 0)) da_nil)) (da_cons de_int (da_cons de_int (da_cons de_int da_nil))))) (fun _ he => ps_set (i := 1) sc_law.nd rfl (by first | exact .inl rfl | exact .inr rfl) he))
      (dss_cons (ds_for PassesOwn.never rfl (di_rng1 (by rfl) T.z_range (da_cons (de_op ov_add de_int (de_call G__law_next (hr.mono (by decide)) (by rfl) T.d__law_next.gl T.d__law_next.fn.kp T.d__law_next.bd (da_cons (de_var 1 (pv 1)) (da_cons de_int da_nil)))) da_nil)) (dg_var 2 (pg_name (i := 2) sc_law.nd rfl (by first | exact .inl rfl | exact .inr rfl))) (dss_cons (ds_asg (de_call G__law_changed (hr.mono (by decide)) (by rfl) T.d__law_changed.gl T.d__law_changed.fn.kp T.d__law_changed.bd (da_cons (de_var 1 (pv 1)) (da_cons (de_ix (de_call0 G__law_codes (hr.mono (by decide)) (by rfl) T.d__law_codes.gl T.d__law_codes.fn.kp T.d__law_codes.bd) (de_call G__law_next (hr.mono (by decide)) (by rfl) T.d__law_next.gl T.d__law_next.fn.kp T.d__law_next.bd (da_cons (de_var 1 (pv 1)) (da_cons de_int da_nil))) (fun _ _ => rfl)) da_nil))) (dg_tup rfl (dgs_cons (dg_var 11 (pg_name (i := 11) sc_law.nd rfl (by first | exact .inl rfl | exact .inr rfl))) (dgs_cons (dg_var 12 (pg_name (i := 12) sc_law.nd rfl (by first | exact .inl rfl | exact .inr rfl))) (dgs_cons (dg_var 13 (pg_name (i := 13) sc_law.nd rfl (by first | exact .inl rfl | exact .inr rfl))) (dgs_cons (dg_var 14 (pg_name (i := 14) sc_law.nd rfl (by first | exact .inl rfl | exact .inr rfl))) dgs_nil))))))
      (dss_cons (ds_set 7 (de_call G__law_text (hr.mono (by decide)) (by rfl) T.d__law_text.gl T.d__law_text.fn.kp T.d__law_text.bd (da_cons (de_var 11 (pv 11)) (da_cons (de_var 12 (pv 12)) (da_cons (de_var 13 (pv 13)) (da_cons (de_var 14 (pv 14)) da_nil))))) (fun _ he => ps_set (i := 7) sc_law.nd rfl (by first | exact .inl rfl | exact .inr rfl) he))
      (dss_cons (ds_set 8 (de_call G__law_read (hr.mono (by decide)) (by rfl) T.d__law_read.gl T.d__law_read.fn.kp T.d__law_read.bd (da_cons (de_var 7 (pv 7)) da_nil)) (fun _ he => ps_set (i := 8) sc_law.nd rfl (by first | exact .inl rfl | exact .inr rfl) he))
      (dss_cons (ds_if (DW.pt (dw_or (dt_cmp ov_isN (de_var 8 (pv 8)) de_non (nomark _)) (dw_or (dt_cmp (ov_ne hr.units) (de_call G_code_text (hr.mono (by decide)) (by rfl) T.d_code_text.gl T.d_code_text.fn.kp T.d_code_text.bd (da_cons (de_var 8 (pv 8)) da_nil)) (de_var 7 (pv 7)) (nomark _)) (dw_or1 (dt_cmp (ov_ne hr.units) (de_call G_code_text (hr.mono (by decide)) (by rfl) T.d_code_text.gl T.d_code_text.fn.kp T.d_code_text.bd (da_cons (de_makeL T.d_Code___init__.mkr G_Code___init__ (hr.mono (by decide)) (by rfl) T.d_Code___init__.gl T.d_Code___init__.bd (da_cons (de_var 11 (pv 11)) (da_cons (de_cty cv_tup (by rfl) T.z_tuple (by decide +kernel) (da_cons (de_var 12 (pv 12)) da_nil)) (da_cons (de_var 13 (pv 13)) (da_cons (de_var 14 (pv 14)) da_nil))))) da_nil)) (de_var 7 (pv 7)) (nomark _)))))) (dss_one (ds_ret de_bl)) dss_nil)
      (dss_cons (ds_if (dt_cmp (ov_ne hr.units) (de_tup (da_cons (de_fld (de_var 8 (pv 8)) T.k_Code T.n_Code_n) (da_cons (de_fld (de_var 8 (pv 8)) T.k_Code T.n_Code_generators) (da_cons (de_fld (de_var 8 (pv 8)) T.k_Code T.n_Code_x) (da_cons (de_fld (de_var 8 (pv 8)) T.k_Code T.n_Code_z) da_nil))))) (de_tup (da_cons (de_var 11 (pv 11)) (da_cons (de_cty cv_tup (by rfl) T.z_tuple (by decide +kernel) (da_cons (de_var 12 (pv 12)) da_nil)) (da_cons (de_var 13 (pv 13)) (da_cons (de_var 14 (pv 14)) da_nil))))) (nomark _)) (dss_one (ds_ret de_bl)) dss_nil)
      (dss_cons (ds_set 9 (de_call G__law_spoilt (hr.mono (by decide)) (by rfl) T.d__law_spoilt.gl T.d__law_spoilt.fn.kp T.d__law_spoilt.bd (da_cons (de_var 1 (pv 1)) (da_cons (de_var 7 (pv 7)) da_nil))) (fun _ he => ps_set (i := 9) sc_law.nd rfl (by first | exact .inl rfl | exact .inr rfl) he))
      (dss_cons (ds_set 10 (de_call G__law_read (hr.mono (by decide)) (by rfl) T.d__law_read.gl T.d__law_read.fn.kp T.d__law_read.bd (da_cons (de_var 9 (pv 9)) da_nil)) (fun _ he => ps_set (i := 10) sc_law.nd rfl (by first | exact .inl rfl | exact .inr rfl) he))
      (dss_one (ds_if (DW.pt (dw_and (dt_cmp ov_notN (de_var 10 (pv 10)) de_non (nomark _)) (dw_and1 (dt_cmp (ov_ne hr.units) (de_call G_code_text (hr.mono (by decide)) (by rfl) T.d_code_text.gl T.d_code_text.fn.kp T.d_code_text.bd (da_cons (de_var 10 (pv 10)) da_nil)) (de_var 9 (pv 9)) (nomark _))))) (dss_one (ds_ret de_bl)) dss_nil))))))))))
      (dss_cons (ds_for PassesOwn.never rfl (di_list (de_new (dn_lst (da_cons de_non (da_cons de_int (da_cons de_str (da_cons de_str (da_cons de_str (da_cons (de_new (dn_lst (da_cons de_str da_nil))) (da_cons de_str (da_cons de_str da_nil))))))))))) (dg_var 3 (pg_name (i := 3) sc_law.nd rfl (by first | exact .inl rfl | exact .inr rfl))) (dss_one (ds_if (dt_cmp ov_notN (de_call G__law_read (hr.mono (by decide)) (by rfl) T.d__law_read.gl T.d__law_read.fn.kp T.d__law_read.bd (da_cons (de_var 3 (pv 3)) da_nil)) de_non (nomark _)) (dss_one (ds_ret de_bl)) dss_nil)))
      (dss_cons (ds_if (dt_cmp (ov_ne hr.units) (T.c_NAMES_catalogue.de rfl) (de_tup (da_cons de_str (da_cons de_str (da_cons de_str (da_cons de_str (da_cons de_str (da_cons de_str (da_cons de_str da_nil)))))))) (nomark _)) (dss_one (ds_ret de_bl)) dss_nil)
      (dss_cons (ds_set 4 (de_call G__law_next (hr.mono (by decide)) (by rfl) T.d__law_next.gl T.d__law_next.fn.kp T.d__law_next.bd (da_cons (de_var 1 (pv 1)) (da_cons de_int da_nil))) (fun _ he => ps_set (i := 4) sc_law.nd rfl (by first | exact .inl rfl | exact .inr rfl) he))
      (dss_cons (ds_set 5 (de_callL G_known (hr.mono (by decide)) (by rfl) T.d_known.gl T.d_known.fn.kp T.d_known.bd (da_cons (de_ix (T.c_NAMES_catalogue.de rfl) (de_var 4 (pv 4)) (fun _ _ => rfl)) da_nil)) (fun _ he => ps_set (i := 5) sc_law.nd rfl (by first | exact .inl rfl | exact .inr rfl) he))
      (dss_cons (ds_if (dt_cmp (ov_ne hr.units) (de_tup (da_cons (de_fld (de_var 5 (pv 5)) T.k_Code T.n_Code_n) (da_cons (de_meth0 (de_var 5 (pv 5)) T.k_Code T.d_Code_distance.mt G_Code_distance (hr.mono (by decide)) T.d_Code_distance.bd) da_nil))) (de_ix (de_tup (da_cons (de_tup (da_cons de_int (da_cons de_int da_nil))) (da_cons (de_tup (da_cons de_int (da_cons de_int da_nil))) (da_cons (de_tup (da_cons de_int (da_cons de_int da_nil))) (da_cons (de_tup (da_cons de_int (da_cons de_int da_nil))) (da_cons (de_tup (da_cons de_int (da_cons de_int da_nil))) (da_cons (de_tup (da_cons de_int (da_cons de_int da_nil))) da_nil))))))) (de_var 4 (pv 4)) (fun _ _ => rfl)) (nomark _)) (dss_one (ds_ret de_bl)) dss_nil)
      (dss_cons (ds_set 6 (de_callL G_known (hr.mono (by decide)) (by rfl) T.d_known.gl T.d_known.fn.kp T.d_known.bd (da_cons de_str da_nil)) (fun _ he => ps_set (i := 6) sc_law.nd rfl (by first | exact .inl rfl | exact .inr rfl) he))
      (dss_cons (ds_if (dt_cmp (ov_ne hr.units) (de_tup (da_cons (de_fld (de_var 6 (pv 6)) T.k_Code T.n_Code_n) (da_cons (de_fld (de_var 6 (pv 6)) T.k_Code T.n_Code_z) (da_cons (de_fld (de_var 6 (pv 6)) T.k_Code T.n_Code_x) da_nil)))) (de_tup (da_cons de_int (da_cons (de_call G__law_masks (hr.mono (by decide)) (by rfl) T.d__law_masks.gl T.d__law_masks.fn.kp T.d__law_masks.bd (da_cons de_str da_nil)) (da_cons (de_tup (da_cons de_int (da_cons de_int (da_cons de_int da_nil)))) da_nil)))) (nomark _)) (dss_one (ds_ret de_bl)) dss_nil)
      (dss_one (ds_ret (de_cmp (ov_eq hr.units) (de_call G_code_text (hr.mono (by decide)) (by rfl) T.d_code_text.gl T.d_code_text.fn.kp T.d_code_text.bd (da_cons (de_callL G_read_code (hr.mono (by decide)) (by rfl) T.d_read_code.gl T.d_read_code.fn.kp T.d_read_code.bd (da_cons (de_call G_code_text (hr.mono (by decide)) (by rfl) T.d_code_text.gl T.d_code_text.fn.kp T.d_code_text.bd (da_cons (de_var 5 (pv 5)) da_nil)) da_nil)) da_nil)) (de_call G_code_text (hr.mono (by decide)) (by rfl) T.d_code_text.gl T.d_code_text.fn.kp T.d_code_text.bd (da_cons (de_var 5 (pv 5)) da_nil)) (nomark _)))))))))))))
end
end K07

set_option Elab.async false
set_option linter.all false
set_option maxRecDepth 100000
set_option maxHeartbeats 4000000
namespace K07
open PySem PySem.Spec L2 VL
theorem all_mk {l : PySem.W.OpenLaw} {w : World} {K : PySem.W.Frag} {h : Heap} {mg : Str → Option Value} {fa : Addr} (X : K.In h) (G : h.Ns mainGlobals mg) (hfa : mg "law" = some (.ref fa))
    {f0 f1 f2 f3 f4 f5 f6 f7 f8 f9 f10 f11 f12 f13 f14 f15 f16 f17 f18 f19 f20 f21 f22 f23 f24 f25 f26 f27 f28 f29 f30 f31 f32 f33 f34 C_Code C_NotValid : Addr} {od0 an0 od1 an1 od2 an2 od3 an3 od4 an4 od5 an5 od6 an6 od7 an7 od8 an8 od9 an9 od10 an10 od11 an11 od12 an12 od13 an13 od14 an14 od15 an15 od16 an16 od17 an17 od18 an18 od19 an19 od20 an20 od21 an21 od22 an22 od23 an23 od24 an24 od25 an25 od26 an26 od27 an27 od28 an28 od29 an29 od30 an30 od31 an31 od32 an32 od33 an33 od34 an34 : Option Addr} {sl0 sl1 sl2 sl3 sl4 sl5 sl6 sl7 sl8 sl9 sl10 sl11 sl12 sl13 sl14 sl15 sl16 sl17 sl18 sl19 sl20 sl21 sl22 sl23 sl24 sl25 sl26 sl27 sl28 sl29 sl30 sl31 sl32 sl33 sl34 : Array (Option Value)} {oc0 kV0 dc0 pm0 cd0 ct0 oc1 kV1 dc1 pm1 cd1 ct1 oc2 kV2 dc2 pm2 cd2 ct2 oc3 kV3 dc3 pm3 cd3 ct3 oc4 kV4 dc4 pm4 cd4 ct4 oc5 kV5 dc5 pm5 cd5 ct5 oc6 kV6 dc6 pm6 cd6 ct6 oc7 kV7 dc7 pm7 cd7 ct7 oc8 kV8 dc8 pm8 cd8 ct8 oc9 kV9 dc9 pm9 cd9 ct9 oc10 kV10 dc10 pm10 cd10 ct10 oc11 kV11 dc11 pm11 cd11 ct11 oc12 kV12 dc12 pm12 cd12 ct12 oc13 kV13 dc13 pm13 cd13 ct13 oc14 kV14 dc14 pm14 cd14 ct14 oc15 kV15 dc15 pm15 cd15 ct15 oc16 kV16 dc16 pm16 cd16 ct16 oc17 kV17 dc17 pm17 cd17 ct17 oc18 kV18 dc18 pm18 cd18 ct18 oc19 kV19 dc19 pm19 cd19 ct19 oc20 kV20 dc20 pm20 cd20 ct20 oc21 kV21 dc21 pm21 cd21 ct21 oc22 kV22 dc22 pm22 cd22 ct22 oc23 kV23 dc23 pm23 cd23 ct23 oc24 kV24 dc24 pm24 cd24 ct24 oc25 kV25 dc25 pm25 cd25 ct25 oc26 kV26 dc26 pm26 cd26 ct26 oc27 kV27 dc27 pm27 cd27 ct27 oc28 kV28 dc28 pm28 cd28 ct28 oc29 kV29 dc29 pm29 cd29 ct29 oc30 kV30 dc30 pm30 cd30 ct30 oc31 kV31 dc31 pm31 cd31 ct31 oc32 kV32 dc32 pm32 cd32 ct32 oc33 kV33 dc33 pm33 cd33 ct33 oc34 kV34 dc34 pm34 cd34 ct34 : Value} {tNAMES_paulis : Tok} {tMOST_QUBITS : Tok} {pNAMES_catalogue : Addr} {ocNAMES_catalogue : Option Addr} {nNAMES_catalogue : Nat} {slNAMES_catalogue : Array (Option Value)} {tNAMES_catalogue0 tNAMES_catalogue1 tNAMES_catalogue2 tNAMES_catalogue3 tNAMES_catalogue4 tNAMES_catalogue5 tNAMES_catalogue6 : Tok} {tROUND : Tok} {pROWS : Addr} {esROWS : Array DictEntry} {nROWS : Nat} {pROWS0_1 : Addr} {ocROWS0_1 : Option Addr} {nROWS0_1 : Nat} {slROWS0_1 : Array (Option Value)} {pROWS0_2 : Addr} {ocROWS0_2 : Option Addr} {nROWS0_2 : Nat} {slROWS0_2 : Array (Option Value)} {tROWS0_3 : Tok} {tROWS0_4 : Tok} {pROWS1_5 : Addr} {ocROWS1_5 : Option Addr} {nROWS1_5 : Nat} {slROWS1_5 : Array (Option Value)} {pROWS1_6 : Addr} {ocROWS1_6 : Option Addr} {nROWS1_6 : Nat} {slROWS1_6 : Array (Option Value)} {tROWS1_7 : Tok} {tROWS1_8 : Tok} {tROWS1_9 : Tok} {tROWS1_10 : Tok} {pROWS2_11 : Addr} {ocROWS2_11 : Option Addr} {nROWS2_11 : Nat} {slROWS2_11 : Array (Option Value)} {pROWS2_12 : Addr} {ocROWS2_12 : Option Addr} {nROWS2_12 : Nat} {slROWS2_12 : Array (Option Value)} {tROWS2_13 : Tok} {tROWS2_14 : Tok} {tROWS2_15 : Tok} {tROWS2_16 : Tok} {tROWS2_17 : Tok} {pROWS3_18 : Addr} {ocROWS3_18 : Option Addr} {nROWS3_18 : Nat} {slROWS3_18 : Array (Option Value)} {pROWS3_19 : Addr} {ocROWS3_19 : Option Addr} {nROWS3_19 : Nat} {slROWS3_19 : Array (Option Value)} {tROWS3_20 : Tok} {tROWS3_21 : Tok} {tROWS3_22 : Tok} {tROWS3_23 : Tok} {tROWS3_24 : Tok} {tROWS3_25 : Tok} {pROWS4_26 : Addr} {ocROWS4_26 : Option Addr} {nROWS4_26 : Nat} {slROWS4_26 : Array (Option Value)} {pROWS4_27 : Addr} {ocROWS4_27 : Option Addr} {nROWS4_27 : Nat} {slROWS4_27 : Array (Option Value)} {tROWS4_28 : Tok} {tROWS4_29 : Tok} {tROWS4_30 : Tok} {tROWS4_31 : Tok} {tROWS4_32 : Tok} {tROWS4_33 : Tok} {tROWS4_34 : Tok} {tROWS4_35 : Tok} {pROWS5_36 : Addr} {ocROWS5_36 : Option Addr} {nROWS5_36 : Nat} {slROWS5_36 : Array (Option Value)} {pROWS5_37 : Addr} {ocROWS5_37 : Option Addr} {nROWS5_37 : Nat} {slROWS5_37 : Array (Option Value)} {tROWS5_38 : Tok} {tROWS5_39 : Tok} {tROWS5_40 : Tok} {tROWS5_41 : Tok} {tROWS5_42 : Tok} {tROWS5_43 : Tok} {tROWS5_44 : Tok} {tROWS5_45 : Tok} {tROWS5_46 : Tok} {tROWS5_47 : Tok}
    (aC_Code : PySem.W.nsIn K mainGlobals "Code" = some (some (.ref C_Code))) (pg_Code : PySem.W.plainGet K C_Code Str.empty = true) (hd_Code : PySem.W.hasDictIn K C_Code = true) (po_Code : PySem.W.plainOver K C_Code = true) (sa_Code : PySem.W.findIn K (.ref C_Code) "__setattr__" = some (some (.builtin "object.__setattr__"))) (mk_Code : PySem.W.makesIn K C_Code = true) (kc_Code : PySem.W.keepIn K (.ref C_Code) = true)
    (n_Code_generators : PySem.W.findIn K (.ref C_Code) "generators" = some none)
    (n_Code_n : PySem.W.findIn K (.ref C_Code) "n" = some none)
    (n_Code_reps : PySem.W.findIn K (.ref C_Code) "reps" = some none)
    (n_Code_table : PySem.W.findIn K (.ref C_Code) "table" = some none)
    (n_Code_x : PySem.W.findIn K (.ref C_Code) "x" = some none)
    (n_Code_z : PySem.W.findIn K (.ref C_Code) "z" = some none)
    (aC_NotValid : PySem.W.nsIn K mainGlobals "NotValid" = some (some (.ref C_NotValid))) (xP_NotValid : PySem.W.excIn K C_NotValid [.type "ValueError", .type "Exception", .type "BaseException", .type "object"] "ValueError.__new__" = true) (kP_NotValid : PySem.W.keepIn K (.ref C_NotValid) = true) (bP_NotValid : PySem.W.subIn K (.ref C_NotValid) (.type "BaseException") = some true) (tP_NotValid : PySem.W.typeIn K (.ref C_NotValid) = some (.type "type")) (iP_NotValid : PySem.W.isClsIn K C_NotValid = true) (sP_NotValid : PySem.W.subIn K (.ref C_NotValid) (.ref C_NotValid) = some true)
    (a0 : PySem.W.nsIn K mainGlobals "is_integer" = some (some (.ref f0))) (l0 : K.lookup f0 = some ⟨oc0, od0, .func (PySem.W.fnOf "is_integer" "is_integer" (defArgs s_is_integer) (defBody s_is_integer) (defScope s_is_integer) .none kV0 dc0 pm0 an0 cd0 ct0), sl0⟩) (c0 : PySem.W.codeIn K cd0 "is_integer" = true) (k0 : PySem.W.keepIn K (.ref f0) = true)
    (a1 : PySem.W.nsIn K mainGlobals "is_pauli" = some (some (.ref f1))) (l1 : K.lookup f1 = some ⟨oc1, od1, .func (PySem.W.fnOf "is_pauli" "is_pauli" (defArgs s_is_pauli) (defBody s_is_pauli) (defScope s_is_pauli) .none kV1 dc1 pm1 an1 cd1 ct1), sl1⟩) (c1 : PySem.W.codeIn K cd1 "is_pauli" = true) (k1 : PySem.W.keepIn K (.ref f1) = true)
    (a2 : PySem.W.nsIn K mainGlobals "ones" = some (some (.ref f2))) (l2 : K.lookup f2 = some ⟨oc2, od2, .func (PySem.W.fnOf "ones" "ones" (defArgs s_ones) (defBody s_ones) (defScope s_ones) .none kV2 dc2 pm2 an2 cd2 ct2), sl2⟩) (c2 : PySem.W.codeIn K cd2 "ones" = true) (k2 : PySem.W.keepIn K (.ref f2) = true)
    (a3 : PySem.W.nsIn K mainGlobals "weight" = some (some (.ref f3))) (l3 : K.lookup f3 = some ⟨oc3, od3, .func (PySem.W.fnOf "weight" "weight" (defArgs s_weight) (defBody s_weight) (defScope s_weight) .none kV3 dc3 pm3 an3 cd3 ct3), sl3⟩) (c3 : PySem.W.codeIn K cd3 "weight" = true) (k3 : PySem.W.keepIn K (.ref f3) = true)
    (a4 : PySem.W.nsIn K mainGlobals "letter" = some (some (.ref f4))) (l4 : K.lookup f4 = some ⟨oc4, od4, .func (PySem.W.fnOf "letter" "letter" (defArgs s_letter) (defBody s_letter) (defScope s_letter) .none kV4 dc4 pm4 an4 cd4 ct4), sl4⟩) (c4 : PySem.W.codeIn K cd4 "letter" = true) (k4 : PySem.W.keepIn K (.ref f4) = true)
    (a5 : PySem.W.nsIn K mainGlobals "commutes" = some (some (.ref f5))) (l5 : K.lookup f5 = some ⟨oc5, od5, .func (PySem.W.fnOf "commutes" "commutes" (defArgs s_commutes) (defBody s_commutes) (defScope s_commutes) .none kV5 dc5 pm5 an5 cd5 ct5), sl5⟩) (c5 : PySem.W.codeIn K cd5 "commutes" = true) (k5 : PySem.W.keepIn K (.ref f5) = true)
    (a6 : PySem.W.nsIn K mainGlobals "product" = some (some (.ref f6))) (l6 : K.lookup f6 = some ⟨oc6, od6, .func (PySem.W.fnOf "product" "product" (defArgs s_product) (defBody s_product) (defScope s_product) .none kV6 dc6 pm6 an6 cd6 ct6), sl6⟩) (c6 : PySem.W.codeIn K cd6 "product" = true) (k6 : PySem.W.keepIn K (.ref f6) = true)
    (a7 : PySem.W.nsIn K mainGlobals "single" = some (some (.ref f7))) (l7 : K.lookup f7 = some ⟨oc7, od7, .func (PySem.W.fnOf "single" "single" (defArgs s_single) (defBody s_single) (defScope s_single) .none kV7 dc7 pm7 an7 cd7 ct7), sl7⟩) (c7 : PySem.W.codeIn K cd7 "single" = true) (k7 : PySem.W.keepIn K (.ref f7) = true)
    (a8 : PySem.W.nsIn K mainGlobals "rank" = some (some (.ref f8))) (l8 : K.lookup f8 = some ⟨oc8, od8, .func (PySem.W.fnOf "rank" "rank" (defArgs s_rank) (defBody s_rank) (defScope s_rank) .none kV8 dc8 pm8 an8 cd8 ct8), sl8⟩) (c8 : PySem.W.codeIn K cd8 "rank" = true) (k8 : PySem.W.keepIn K (.ref f8) = true)
    (a9 : PySem.W.nsIn K mainGlobals "text_of" = some (some (.ref f9))) (l9 : K.lookup f9 = some ⟨oc9, od9, .func (PySem.W.fnOf "text_of" "text_of" (defArgs s_text_of) (defBody s_text_of) (defScope s_text_of) .none kV9 dc9 pm9 an9 cd9 ct9), sl9⟩) (c9 : PySem.W.codeIn K cd9 "text_of" = true) (k9 : PySem.W.keepIn K (.ref f9) = true)
    (a10 : PySem.W.nsIn K mainGlobals "pauli_of" = some (some (.ref f10))) (l10 : K.lookup f10 = some ⟨oc10, od10, .func (PySem.W.fnOf "pauli_of" "pauli_of" (defArgs s_pauli_of) (defBody s_pauli_of) (defScope s_pauli_of) .none kV10 dc10 pm10 an10 cd10 ct10), sl10⟩) (c10 : PySem.W.codeIn K cd10 "pauli_of" = true) (k10 : PySem.W.keepIn K (.ref f10) = true)
    (a11 : PySem.W.nsIn K mainGlobals "reduced" = some (some (.ref f11))) (l11 : K.lookup f11 = some ⟨oc11, od11, .func (PySem.W.fnOf "reduced" "reduced" (defArgs s_reduced) (defBody s_reduced) (defScope s_reduced) .none kV11 dc11 pm11 an11 cd11 ct11), sl11⟩) (c11 : PySem.W.codeIn K cd11 "reduced" = true) (k11 : PySem.W.keepIn K (.ref f11) = true)
    (a12 : PySem.W.nsIn K mainGlobals "independent" = some (some (.ref f12))) (l12 : K.lookup f12 = some ⟨oc12, od12, .func (PySem.W.fnOf "independent" "independent" (defArgs s_independent) (defBody s_independent) (defScope s_independent) .none kV12 dc12 pm12 an12 cd12 ct12), sl12⟩) (c12 : PySem.W.codeIn K cd12 "independent" = true) (k12 : PySem.W.keepIn K (.ref f12) = true)
    (a13 : PySem.W.findIn K (.ref C_Code) "__init__" = some (some (.ref f13))) (i13 : PySem.W.isFn K (.ref f13) = true) (l13 : K.lookup f13 = some ⟨oc13, od13, .func (PySem.W.fnOf "__init__" "Code.__init__" (defArgs s_Code___init__) (defBody s_Code___init__) (defScope s_Code___init__) .none kV13 dc13 pm13 an13 cd13 ct13), sl13⟩) (c13 : PySem.W.codeIn K cd13 "Code.__init__" = true) (k13 : PySem.W.keepIn K (.ref f13) = true)
    (a14 : PySem.W.findIn K (.ref C_Code) "logical" = some (some (.ref f14))) (i14 : PySem.W.isFn K (.ref f14) = true) (l14 : K.lookup f14 = some ⟨oc14, od14, .func (PySem.W.fnOf "logical" "Code.logical" (defArgs s_Code_logical) (defBody s_Code_logical) (defScope s_Code_logical) .none kV14 dc14 pm14 an14 cd14 ct14), sl14⟩) (c14 : PySem.W.codeIn K cd14 "Code.logical" = true) (k14 : PySem.W.keepIn K (.ref f14) = true)
    (a15 : PySem.W.findIn K (.ref C_Code) "coset" = some (some (.ref f15))) (i15 : PySem.W.isFn K (.ref f15) = true) (l15 : K.lookup f15 = some ⟨oc15, od15, .func (PySem.W.fnOf "coset" "Code.coset" (defArgs s_Code_coset) (defBody s_Code_coset) (defScope s_Code_coset) .none kV15 dc15 pm15 an15 cd15 ct15), sl15⟩) (c15 : PySem.W.codeIn K cd15 "Code.coset" = true) (k15 : PySem.W.keepIn K (.ref f15) = true)
    (a16 : PySem.W.findIn K (.ref C_Code) "least_logical" = some (some (.ref f16))) (i16 : PySem.W.isFn K (.ref f16) = true) (l16 : K.lookup f16 = some ⟨oc16, od16, .func (PySem.W.fnOf "least_logical" "Code.least_logical" (defArgs s_Code_least_logical) (defBody s_Code_least_logical) (defScope s_Code_least_logical) .none kV16 dc16 pm16 an16 cd16 ct16), sl16⟩) (c16 : PySem.W.codeIn K cd16 "Code.least_logical" = true) (k16 : PySem.W.keepIn K (.ref f16) = true)
    (a17 : PySem.W.findIn K (.ref C_Code) "distance" = some (some (.ref f17))) (i17 : PySem.W.isFn K (.ref f17) = true) (l17 : K.lookup f17 = some ⟨oc17, od17, .func (PySem.W.fnOf "distance" "Code.distance" (defArgs s_Code_distance) (defBody s_Code_distance) (defScope s_Code_distance) .none kV17 dc17 pm17 an17 cd17 ct17), sl17⟩) (c17 : PySem.W.codeIn K cd17 "Code.distance" = true) (k17 : PySem.W.keepIn K (.ref f17) = true)
    (a18 : PySem.W.nsIn K mainGlobals "code_text" = some (some (.ref f18))) (l18 : K.lookup f18 = some ⟨oc18, od18, .func (PySem.W.fnOf "code_text" "code_text" (defArgs s_code_text) (defBody s_code_text) (defScope s_code_text) .none kV18 dc18 pm18 an18 cd18 ct18), sl18⟩) (c18 : PySem.W.codeIn K cd18 "code_text" = true) (k18 : PySem.W.keepIn K (.ref f18) = true)
    (a19 : PySem.W.nsIn K mainGlobals "text_pauli" = some (some (.ref f19))) (l19 : K.lookup f19 = some ⟨oc19, od19, .func (PySem.W.fnOf "text_pauli" "text_pauli" (defArgs s_text_pauli) (defBody s_text_pauli) (defScope s_text_pauli) .none kV19 dc19 pm19 an19 cd19 ct19), sl19⟩) (c19 : PySem.W.codeIn K cd19 "text_pauli" = true) (k19 : PySem.W.keepIn K (.ref f19) = true)
    (a20 : PySem.W.nsIn K mainGlobals "read_code" = some (some (.ref f20))) (l20 : K.lookup f20 = some ⟨oc20, od20, .func (PySem.W.fnOf "read_code" "read_code" (defArgs s_read_code) (defBody s_read_code) (defScope s_read_code) .none kV20 dc20 pm20 an20 cd20 ct20), sl20⟩) (c20 : PySem.W.codeIn K cd20 "read_code" = true) (k20 : PySem.W.keepIn K (.ref f20) = true)
    (a21 : PySem.W.nsIn K mainGlobals "around" = some (some (.ref f21))) (l21 : K.lookup f21 = some ⟨oc21, od21, .func (PySem.W.fnOf "around" "around" (defArgs s_around) (defBody s_around) (defScope s_around) .none kV21 dc21 pm21 an21 cd21 ct21), sl21⟩) (c21 : PySem.W.codeIn K cd21 "around" = true) (k21 : PySem.W.keepIn K (.ref f21) = true)
    (a22 : PySem.W.nsIn K mainGlobals "known" = some (some (.ref f22))) (l22 : K.lookup f22 = some ⟨oc22, od22, .func (PySem.W.fnOf "known" "known" (defArgs s_known) (defBody s_known) (defScope s_known) .none kV22 dc22 pm22 an22 cd22 ct22), sl22⟩) (c22 : PySem.W.codeIn K cd22 "known" = true) (k22 : PySem.W.keepIn K (.ref f22) = true)
    (a23 : PySem.W.nsIn K mainGlobals "_law_next" = some (some (.ref f23))) (l23 : K.lookup f23 = some ⟨oc23, od23, .func (PySem.W.fnOf "_law_next" "_law_next" (defArgs s__law_next) (defBody s__law_next) (defScope s__law_next) .none kV23 dc23 pm23 an23 cd23 ct23), sl23⟩) (c23 : PySem.W.codeIn K cd23 "_law_next" = true) (k23 : PySem.W.keepIn K (.ref f23) = true)
    (a24 : PySem.W.nsIn K mainGlobals "_law_codes" = some (some (.ref f24))) (l24 : K.lookup f24 = some ⟨oc24, od24, .func (PySem.W.fnOf "_law_codes" "_law_codes" (defArgs s__law_codes) (defBody s__law_codes) (defScope s__law_codes) .none kV24 dc24 pm24 an24 cd24 ct24), sl24⟩) (c24 : PySem.W.codeIn K cd24 "_law_codes" = true) (k24 : PySem.W.keepIn K (.ref f24) = true)
    (a25 : PySem.W.nsIn K mainGlobals "_law_masks" = some (some (.ref f25))) (l25 : K.lookup f25 = some ⟨oc25, od25, .func (PySem.W.fnOf "_law_masks" "_law_masks" (defArgs s__law_masks) (defBody s__law_masks) (defScope s__law_masks) .none kV25 dc25 pm25 an25 cd25 ct25), sl25⟩) (c25 : PySem.W.codeIn K cd25 "_law_masks" = true) (k25 : PySem.W.keepIn K (.ref f25) = true)
    (a26 : PySem.W.nsIn K mainGlobals "_law_ones" = some (some (.ref f26))) (l26 : K.lookup f26 = some ⟨oc26, od26, .func (PySem.W.fnOf "_law_ones" "_law_ones" (defArgs s__law_ones) (defBody s__law_ones) (defScope s__law_ones) .none kV26 dc26 pm26 an26 cd26 ct26), sl26⟩) (c26 : PySem.W.codeIn K cd26 "_law_ones" = true) (k26 : PySem.W.keepIn K (.ref f26) = true)
    (a27 : PySem.W.nsIn K mainGlobals "_law_times" = some (some (.ref f27))) (l27 : K.lookup f27 = some ⟨oc27, od27, .func (PySem.W.fnOf "_law_times" "_law_times" (defArgs s__law_times) (defBody s__law_times) (defScope s__law_times) .none kV27 dc27 pm27 an27 cd27 ct27), sl27⟩) (c27 : PySem.W.codeIn K cd27 "_law_times" = true) (k27 : PySem.W.keepIn K (.ref f27) = true)
    (a28 : PySem.W.nsIn K mainGlobals "_law_changed" = some (some (.ref f28))) (l28 : K.lookup f28 = some ⟨oc28, od28, .func (PySem.W.fnOf "_law_changed" "_law_changed" (defArgs s__law_changed) (defBody s__law_changed) (defScope s__law_changed) .none kV28 dc28 pm28 an28 cd28 ct28), sl28⟩) (c28 : PySem.W.codeIn K cd28 "_law_changed" = true) (k28 : PySem.W.keepIn K (.ref f28) = true)
    (a29 : PySem.W.nsIn K mainGlobals "_law_gate" = some (some (.ref f29))) (l29 : K.lookup f29 = some ⟨oc29, od29, .func (PySem.W.fnOf "_law_gate" "_law_gate" (defArgs s__law_gate) (defBody s__law_gate) (defScope s__law_gate) .none kV29 dc29 pm29 an29 cd29 ct29), sl29⟩) (c29 : PySem.W.codeIn K cd29 "_law_gate" = true) (k29 : PySem.W.keepIn K (.ref f29) = true)
    (a30 : PySem.W.nsIn K mainGlobals "_law_word" = some (some (.ref f30))) (l30 : K.lookup f30 = some ⟨oc30, od30, .func (PySem.W.fnOf "_law_word" "_law_word" (defArgs s__law_word) (defBody s__law_word) (defScope s__law_word) .none kV30 dc30 pm30 an30 cd30 ct30), sl30⟩) (c30 : PySem.W.codeIn K cd30 "_law_word" = true) (k30 : PySem.W.keepIn K (.ref f30) = true)
    (a31 : PySem.W.nsIn K mainGlobals "_law_text" = some (some (.ref f31))) (l31 : K.lookup f31 = some ⟨oc31, od31, .func (PySem.W.fnOf "_law_text" "_law_text" (defArgs s__law_text) (defBody s__law_text) (defScope s__law_text) .none kV31 dc31 pm31 an31 cd31 ct31), sl31⟩) (c31 : PySem.W.codeIn K cd31 "_law_text" = true) (k31 : PySem.W.keepIn K (.ref f31) = true)
    (a32 : PySem.W.nsIn K mainGlobals "_law_read" = some (some (.ref f32))) (l32 : K.lookup f32 = some ⟨oc32, od32, .func (PySem.W.fnOf "_law_read" "_law_read" (defArgs s__law_read) (defBody s__law_read) (defScope s__law_read) .none kV32 dc32 pm32 an32 cd32 ct32), sl32⟩) (c32 : PySem.W.codeIn K cd32 "_law_read" = true) (k32 : PySem.W.keepIn K (.ref f32) = true)
    (a33 : PySem.W.nsIn K mainGlobals "_law_spoilt" = some (some (.ref f33))) (l33 : K.lookup f33 = some ⟨oc33, od33, .func (PySem.W.fnOf "_law_spoilt" "_law_spoilt" (defArgs s__law_spoilt) (defBody s__law_spoilt) (defScope s__law_spoilt) .none kV33 dc33 pm33 an33 cd33 ct33), sl33⟩) (c33 : PySem.W.codeIn K cd33 "_law_spoilt" = true) (k33 : PySem.W.keepIn K (.ref f33) = true)
    (a34 : PySem.W.nsIn K mainGlobals "law" = some (some (.ref f34))) (l34 : K.lookup f34 = some ⟨oc34, od34, .func (PySem.W.fnOf "law" "law" (defArgs s_law) (defBody s_law) (defScope s_law) .none kV34 dc34 pm34 an34 cd34 ct34), sl34⟩) (c34 : PySem.W.codeIn K cd34 "law" = true) (k34 : PySem.W.keepIn K (.ref f34) = true)
    (z_len : PySem.W.nsIn K mainGlobals "len" = some none) (z_abs : PySem.W.nsIn K mainGlobals "abs" = some none) (z_max : PySem.W.nsIn K mainGlobals "max" = some none) (z_min : PySem.W.nsIn K mainGlobals "min" = some none) (z_int : PySem.W.nsIn K mainGlobals "int" = some none) (z_sum : PySem.W.nsIn K mainGlobals "sum" = some none) (z_all : PySem.W.nsIn K mainGlobals "all" = some none) (z_tuple : PySem.W.nsIn K mainGlobals "tuple" = some none) (z_list : PySem.W.nsIn K mainGlobals "list" = some none) (z_isinstance : PySem.W.nsIn K mainGlobals "isinstance" = some none) (z_range : PySem.W.nsIn K mainGlobals "range" = some none) (z_bool : PySem.W.nsIn K mainGlobals "bool" = some none) (z_str : PySem.W.nsIn K mainGlobals "str" = some none) (aNAMES_paulis : PySem.W.nsIn K mainGlobals "NAMES_paulis" = some (some (.str "IXZY" tNAMES_paulis))) (aMOST_QUBITS : PySem.W.nsIn K mainGlobals "MOST_QUBITS" = some (some (.int 13 tMOST_QUBITS))) (aNAMES_catalogue : PySem.W.nsIn K mainGlobals "NAMES_catalogue" = some (some (.ref pNAMES_catalogue))) (lNAMES_catalogue : K.lookup pNAMES_catalogue = some ⟨.type "tuple", ocNAMES_catalogue, .seq #[.str "one" tNAMES_catalogue0, .str "three" tNAMES_catalogue1, .str "four" tNAMES_catalogue2, .str "five" tNAMES_catalogue3, .str "seven" tNAMES_catalogue4, .str "nine" tNAMES_catalogue5, .str "thirteen" tNAMES_catalogue6] nNAMES_catalogue, slNAMES_catalogue⟩) (aROUND : PySem.W.nsIn K mainGlobals "ROUND" = some (some (.int 13 tROUND))) (aROWS : PySem.W.nsIn K mainGlobals "ROWS" = some (some (.ref pROWS))) (lROWS : K.lookup pROWS = some ⟨.type "dict", none, .dict esROWS nROWS, #[]⟩) (kROWS : PySem.W.KeysLit w.params esROWS.toList) (sROWS : (pROWS == sysModules) = false) (eROWS_0 : PySem.W.nsIn K pROWS "one" = some (some (.ref pROWS0_1))) (lROWS0_1 : K.lookup pROWS0_1 = some ⟨.type "tuple", ocROWS0_1, .seq #[(.ref pROWS0_2), (.str "+X" tROWS0_3), (.str "+Z" tROWS0_4)] nROWS0_1, slROWS0_1⟩) (lROWS0_2 : K.lookup pROWS0_2 = some ⟨.type "tuple", ocROWS0_2, .seq #[] nROWS0_2, slROWS0_2⟩) (eROWS_1 : PySem.W.nsIn K pROWS "three" = some (some (.ref pROWS1_5))) (lROWS1_5 : K.lookup pROWS1_5 = some ⟨.type "tuple", ocROWS1_5, .seq #[(.ref pROWS1_6), (.str "+XXX" tROWS1_9), (.str "+ZII" tROWS1_10)] nROWS1_5, slROWS1_5⟩) (lROWS1_6 : K.lookup pROWS1_6 = some ⟨.type "tuple", ocROWS1_6, .seq #[(.str "+ZZI" tROWS1_7), (.str "+IZZ" tROWS1_8)] nROWS1_6, slROWS1_6⟩) (eROWS_2 : PySem.W.nsIn K pROWS "four" = some (some (.ref pROWS2_11))) (lROWS2_11 : K.lookup pROWS2_11 = some ⟨.type "tuple", ocROWS2_11, .seq #[(.ref pROWS2_12), (.str "+XXII" tROWS2_16), (.str "+ZIZI" tROWS2_17)] nROWS2_11, slROWS2_11⟩) (lROWS2_12 : K.lookup pROWS2_12 = some ⟨.type "tuple", ocROWS2_12, .seq #[(.str "+XXXX" tROWS2_13), (.str "+ZZII" tROWS2_14), (.str "+IIZZ" tROWS2_15)] nROWS2_12, slROWS2_12⟩) (eROWS_3 : PySem.W.nsIn K pROWS "five" = some (some (.ref pROWS3_18))) (lROWS3_18 : K.lookup pROWS3_18 = some ⟨.type "tuple", ocROWS3_18, .seq #[(.ref pROWS3_19), (.str "+XXXXX" tROWS3_24), (.str "+ZZZZZ" tROWS3_25)] nROWS3_18, slROWS3_18⟩) (lROWS3_19 : K.lookup pROWS3_19 = some ⟨.type "tuple", ocROWS3_19, .seq #[(.str "+XZZXI" tROWS3_20), (.str "+IXZZX" tROWS3_21), (.str "+XIXZZ" tROWS3_22), (.str "+ZXIXZ" tROWS3_23)] nROWS3_19, slROWS3_19⟩) (eROWS_4 : PySem.W.nsIn K pROWS "seven" = some (some (.ref pROWS4_26))) (lROWS4_26 : K.lookup pROWS4_26 = some ⟨.type "tuple", ocROWS4_26, .seq #[(.ref pROWS4_27), (.str "+XXXXXXX" tROWS4_34), (.str "+ZZZZZZZ" tROWS4_35)] nROWS4_26, slROWS4_26⟩) (lROWS4_27 : K.lookup pROWS4_27 = some ⟨.type "tuple", ocROWS4_27, .seq #[(.str "+IIIXXXX" tROWS4_28), (.str "+IXXIIXX" tROWS4_29), (.str "+XIXIXIX" tROWS4_30), (.str "+IIIZZZZ" tROWS4_31), (.str "+IZZIIZZ" tROWS4_32), (.str "+ZIZIZIZ" tROWS4_33)] nROWS4_27, slROWS4_27⟩) (eROWS_5 : PySem.W.nsIn K pROWS "nine" = some (some (.ref pROWS5_36))) (lROWS5_36 : K.lookup pROWS5_36 = some ⟨.type "tuple", ocROWS5_36, .seq #[(.ref pROWS5_37), (.str "+ZZZZZZZZZ" tROWS5_46), (.str "+XXXXXXXXX" tROWS5_47)] nROWS5_36, slROWS5_36⟩) (lROWS5_37 : K.lookup pROWS5_37 = some ⟨.type "tuple", ocROWS5_37, .seq #[(.str "+ZZIIIIIII" tROWS5_38), (.str "+IZZIIIIII" tROWS5_39), (.str "+IIIZZIIII" tROWS5_40), (.str "+IIIIZZIII" tROWS5_41), (.str "+IIIIIIZZI" tROWS5_42), (.str "+IIIIIIIZZ" tROWS5_43), (.str "+XXXXXXIII" tROWS5_44), (.str "+IIIXXXXXX" tROWS5_45)] nROWS5_37, slROWS5_37⟩) :
    ∃ fd : FuncData, (∀ (s : Shared) (v : Value), BindsTo s fd ⟨[v], []⟩ [("script", v)]) ∧ ∀ base : Heap, K.In base → base.Ns mainGlobals mg → FnOk l.prog w K mg base CX0 7 fa fd ["script"] (spOf K 1 sp_law) := by
  have e := hfa.symm.trans (PySem.W.mg_of X G a34)
  cases e
  have eC_Code := VL.clsAt_is aC_Code
  subst eC_Code
  have eC_NotValid := VL.clsAt_is aC_NotValid
  subst eC_NotValid
  have F0 := fun_mk (st := s_is_integer) l0 c0 k0
  have D0 : DefAt K mg "is_integer" s_is_integer ["value"] f0 _ := ⟨F0, F0.binds fun _ _ _ _ _ _ us hl => match us, hl with | [_], _ => rfl, PySem.W.mg_of X G a0⟩
  have F1 := fun_mk (st := s_is_pauli) l1 c1 k1
  have D1 : DefAt K mg "is_pauli" s_is_pauli ["value", "n"] f1 _ := ⟨F1, F1.binds fun _ _ _ _ _ _ us hl => match us, hl with | [_, _], _ => rfl, PySem.W.mg_of X G a1⟩
  have F2 := fun_mk (st := s_ones) l2 c2 k2
  have D2 : DefAt K mg "ones" s_ones ["mask"] f2 _ := ⟨F2, F2.binds fun _ _ _ _ _ _ us hl => match us, hl with | [_], _ => rfl, PySem.W.mg_of X G a2⟩
  have F3 := fun_mk (st := s_weight) l3 c3 k3
  have D3 : DefAt K mg "weight" s_weight ["pauli"] f3 _ := ⟨F3, F3.binds fun _ _ _ _ _ _ us hl => match us, hl with | [_], _ => rfl, PySem.W.mg_of X G a3⟩
  have F4 := fun_mk (st := s_letter) l4 c4 k4
  have D4 : DefAt K mg "letter" s_letter ["pauli", "qubit"] f4 _ := ⟨F4, F4.binds fun _ _ _ _ _ _ us hl => match us, hl with | [_, _], _ => rfl, PySem.W.mg_of X G a4⟩
  have F5 := fun_mk (st := s_commutes) l5 c5 k5
  have D5 : DefAt K mg "commutes" s_commutes ["one", "other"] f5 _ := ⟨F5, F5.binds fun _ _ _ _ _ _ us hl => match us, hl with | [_, _], _ => rfl, PySem.W.mg_of X G a5⟩
  have F6 := fun_mk (st := s_product) l6 c6 k6
  have D6 : DefAt K mg "product" s_product ["one", "other"] f6 _ := ⟨F6, F6.binds fun _ _ _ _ _ _ us hl => match us, hl with | [_, _], _ => rfl, PySem.W.mg_of X G a6⟩
  have F7 := fun_mk (st := s_single) l7 c7 k7
  have D7 : DefAt K mg "single" s_single ["name", "qubit"] f7 _ := ⟨F7, F7.binds fun _ _ _ _ _ _ us hl => match us, hl with | [_, _], _ => rfl, PySem.W.mg_of X G a7⟩
  have F8 := fun_mk (st := s_rank) l8 c8 k8
  have D8 : DefAt K mg "rank" s_rank ["pauli"] f8 _ := ⟨F8, F8.binds fun _ _ _ _ _ _ us hl => match us, hl with | [_], _ => rfl, PySem.W.mg_of X G a8⟩
  have F9 := fun_mk (st := s_text_of) l9 c9 k9
  have D9 : DefAt K mg "text_of" s_text_of ["pauli", "n"] f9 _ := ⟨F9, F9.binds fun _ _ _ _ _ _ us hl => match us, hl with | [_, _], _ => rfl, PySem.W.mg_of X G a9⟩
  have F10 := fun_mk (st := s_pauli_of) l10 c10 k10
  have D10 : DefAt K mg "pauli_of" s_pauli_of ["text"] f10 _ := ⟨F10, F10.binds fun _ _ _ _ _ _ us hl => match us, hl with | [_], _ => rfl, PySem.W.mg_of X G a10⟩
  have F11 := fun_mk (st := s_reduced) l11 c11 k11
  have D11 : DefAt K mg "reduced" s_reduced ["rows", "pauli", "n"] f11 _ := ⟨F11, F11.binds fun _ _ _ _ _ _ us hl => match us, hl with | [_, _, _], _ => rfl, PySem.W.mg_of X G a11⟩
  have F12 := fun_mk (st := s_independent) l12 c12 k12
  have D12 : DefAt K mg "independent" s_independent ["paulis", "n"] f12 _ := ⟨F12, F12.binds fun _ _ _ _ _ _ us hl => match us, hl with | [_, _], _ => rfl, PySem.W.mg_of X G a12⟩
  have F13 := fun_mk (st := s_Code___init__) l13 c13 k13
  have D13 : InitAt K mg "Code" "Code.__init__" s_Code___init__ ["self", "n", "generators", "x", "z"] f13 _ := ⟨F13, F13.binds fun _ _ _ _ _ _ us hl => match us, hl with | [_, _, _, _, _], _ => rfl, ⟨mk_Code, a13, i13, kc_Code⟩, PySem.W.mg_of X G aC_Code⟩
  have F14 := fun_mk (st := s_Code_logical) l14 c14 k14
  have D14 : MethAt K "Code" "logical" "Code.logical" s_Code_logical ["self", "name"] f14 _ := ⟨F14, F14.binds fun _ _ _ _ _ _ us hl => match us, hl with | [_, _], _ => rfl, ⟨a14, i14, k14⟩⟩
  have F15 := fun_mk (st := s_Code_coset) l15 c15 k15
  have D15 : MethAt K "Code" "coset" "Code.coset" s_Code_coset ["self", "pauli"] f15 _ := ⟨F15, F15.binds fun _ _ _ _ _ _ us hl => match us, hl with | [_, _], _ => rfl, ⟨a15, i15, k15⟩⟩
  have F16 := fun_mk (st := s_Code_least_logical) l16 c16 k16
  have D16 : MethAt K "Code" "least_logical" "Code.least_logical" s_Code_least_logical ["self"] f16 _ := ⟨F16, F16.binds fun _ _ _ _ _ _ us hl => match us, hl with | [_], _ => rfl, ⟨a16, i16, k16⟩⟩
  have F17 := fun_mk (st := s_Code_distance) l17 c17 k17
  have D17 : MethAt K "Code" "distance" "Code.distance" s_Code_distance ["self"] f17 _ := ⟨F17, F17.binds fun _ _ _ _ _ _ us hl => match us, hl with | [_], _ => rfl, ⟨a17, i17, k17⟩⟩
  have F18 := fun_mk (st := s_code_text) l18 c18 k18
  have D18 : DefAt K mg "code_text" s_code_text ["code"] f18 _ := ⟨F18, F18.binds fun _ _ _ _ _ _ us hl => match us, hl with | [_], _ => rfl, PySem.W.mg_of X G a18⟩
  have F19 := fun_mk (st := s_text_pauli) l19 c19 k19
  have D19 : DefAt K mg "text_pauli" s_text_pauli ["text", "n"] f19 _ := ⟨F19, F19.binds fun _ _ _ _ _ _ us hl => match us, hl with | [_, _], _ => rfl, PySem.W.mg_of X G a19⟩
  have F20 := fun_mk (st := s_read_code) l20 c20 k20
  have D20 : DefAt K mg "read_code" s_read_code ["text"] f20 _ := ⟨F20, F20.binds fun _ _ _ _ _ _ us hl => match us, hl with | [_], _ => rfl, PySem.W.mg_of X G a20⟩
  have F21 := fun_mk (st := s_around) l21 c21 k21
  have D21 : DefAt K mg "around" s_around ["place"] f21 _ := ⟨F21, F21.binds fun _ _ _ _ _ _ us hl => match us, hl with | [_], _ => rfl, PySem.W.mg_of X G a21⟩
  have F22 := fun_mk (st := s_known) l22 c22 k22
  have D22 : DefAt K mg "known" s_known ["name"] f22 _ := ⟨F22, F22.binds fun _ _ _ _ _ _ us hl => match us, hl with | [_], _ => rfl, PySem.W.mg_of X G a22⟩
  have F23 := fun_mk (st := s__law_next) l23 c23 k23
  have D23 : DefAt K mg "_law_next" s__law_next ["tape", "many"] f23 _ := ⟨F23, F23.binds fun _ _ _ _ _ _ us hl => match us, hl with | [_, _], _ => rfl, PySem.W.mg_of X G a23⟩
  have F24 := fun_mk (st := s__law_codes) l24 c24 k24
  have D24 : DefAt K mg "_law_codes" s__law_codes [] f24 _ := ⟨F24, F24.binds fun _ _ _ _ _ _ us hl => match us, hl with | [], _ => rfl, PySem.W.mg_of X G a24⟩
  have F25 := fun_mk (st := s__law_masks) l25 c25 k25
  have D25 : DefAt K mg "_law_masks" s__law_masks ["text"] f25 _ := ⟨F25, F25.binds fun _ _ _ _ _ _ us hl => match us, hl with | [_], _ => rfl, PySem.W.mg_of X G a25⟩
  have F26 := fun_mk (st := s__law_ones) l26 c26 k26
  have D26 : DefAt K mg "_law_ones" s__law_ones ["mask"] f26 _ := ⟨F26, F26.binds fun _ _ _ _ _ _ us hl => match us, hl with | [_], _ => rfl, PySem.W.mg_of X G a26⟩
  have F27 := fun_mk (st := s__law_times) l27 c27 k27
  have D27 : DefAt K mg "_law_times" s__law_times ["one", "other"] f27 _ := ⟨F27, F27.binds fun _ _ _ _ _ _ us hl => match us, hl with | [_, _], _ => rfl, PySem.W.mg_of X G a27⟩
  have F28 := fun_mk (st := s__law_changed) l28 c28 k28
  have D28 : DefAt K mg "_law_changed" s__law_changed ["tape", "code"] f28 _ := ⟨F28, F28.binds fun _ _ _ _ _ _ us hl => match us, hl with | [_, _], _ => rfl, PySem.W.mg_of X G a28⟩
  have F29 := fun_mk (st := s__law_gate) l29 c29 k29
  have D29 : DefAt K mg "_law_gate" s__law_gate ["row", "gate", "a", "b"] f29 _ := ⟨F29, F29.binds fun _ _ _ _ _ _ us hl => match us, hl with | [_, _, _, _], _ => rfl, PySem.W.mg_of X G a29⟩
  have F30 := fun_mk (st := s__law_word) l30 c30 k30
  have D30 : DefAt K mg "_law_word" s__law_word ["pauli", "n"] f30 _ := ⟨F30, F30.binds fun _ _ _ _ _ _ us hl => match us, hl with | [_, _], _ => rfl, PySem.W.mg_of X G a30⟩
  have F31 := fun_mk (st := s__law_text) l31 c31 k31
  have D31 : DefAt K mg "_law_text" s__law_text ["n", "rows", "x", "z"] f31 _ := ⟨F31, F31.binds fun _ _ _ _ _ _ us hl => match us, hl with | [_, _, _, _], _ => rfl, PySem.W.mg_of X G a31⟩
  have F32 := fun_mk (st := s__law_read) l32 c32 k32
  have D32 : DefAt K mg "_law_read" s__law_read ["text"] f32 _ := ⟨F32, F32.binds fun _ _ _ _ _ _ us hl => match us, hl with | [_], _ => rfl, PySem.W.mg_of X G a32⟩
  have F33 := fun_mk (st := s__law_spoilt) l33 c33 k33
  have D33 : DefAt K mg "_law_spoilt" s__law_spoilt ["tape", "text"] f33 _ := ⟨F33, F33.binds fun _ _ _ _ _ _ us hl => match us, hl with | [_, _], _ => rfl, PySem.W.mg_of X G a33⟩
  have F34 := fun_mk (st := s_law) l34 c34 k34
  have D34 : DefAt K mg "law" s_law ["script"] fa _ := ⟨F34, F34.binds fun _ _ _ _ _ _ us hl => match us, hl with | [_], _ => rfl, PySem.W.mg_of X G a34⟩
  have T : Txt K w mg (fun i => ([f0, f1, f2, f3, f4, f5, f6, f7, f8, f9, f10, f11, f12, f13, f14, f15, f16, f17, f18, f19, f20, f21, f22, f23, f24, f25, f26, f27, f28, f29, f30, f31, f32, f33, fa] : List Addr).getD i 0) (fun i => ([PySem.W.fnOf "is_integer" "is_integer" (defArgs s_is_integer) (defBody s_is_integer) (defScope s_is_integer) .none kV0 dc0 pm0 an0 cd0 ct0, PySem.W.fnOf "is_pauli" "is_pauli" (defArgs s_is_pauli) (defBody s_is_pauli) (defScope s_is_pauli) .none kV1 dc1 pm1 an1 cd1 ct1, PySem.W.fnOf "ones" "ones" (defArgs s_ones) (defBody s_ones) (defScope s_ones) .none kV2 dc2 pm2 an2 cd2 ct2, PySem.W.fnOf "weight" "weight" (defArgs s_weight) (defBody s_weight) (defScope s_weight) .none kV3 dc3 pm3 an3 cd3 ct3, PySem.W.fnOf "letter" "letter" (defArgs s_letter) (defBody s_letter) (defScope s_letter) .none kV4 dc4 pm4 an4 cd4 ct4, PySem.W.fnOf "commutes" "commutes" (defArgs s_commutes) (defBody s_commutes) (defScope s_commutes) .none kV5 dc5 pm5 an5 cd5 ct5, PySem.W.fnOf "product" "product" (defArgs s_product) (defBody s_product) (defScope s_product) .none kV6 dc6 pm6 an6 cd6 ct6, PySem.W.fnOf "single" "single" (defArgs s_single) (defBody s_single) (defScope s_single) .none kV7 dc7 pm7 an7 cd7 ct7, PySem.W.fnOf "rank" "rank" (defArgs s_rank) (defBody s_rank) (defScope s_rank) .none kV8 dc8 pm8 an8 cd8 ct8, PySem.W.fnOf "text_of" "text_of" (defArgs s_text_of) (defBody s_text_of) (defScope s_text_of) .none kV9 dc9 pm9 an9 cd9 ct9, PySem.W.fnOf "pauli_of" "pauli_of" (defArgs s_pauli_of) (defBody s_pauli_of) (defScope s_pauli_of) .none kV10 dc10 pm10 an10 cd10 ct10, PySem.W.fnOf "reduced" "reduced" (defArgs s_reduced) (defBody s_reduced) (defScope s_reduced) .none kV11 dc11 pm11 an11 cd11 ct11, PySem.W.fnOf "independent" "independent" (defArgs s_independent) (defBody s_independent) (defScope s_independent) .none kV12 dc12 pm12 an12 cd12 ct12, PySem.W.fnOf "__init__" "Code.__init__" (defArgs s_Code___init__) (defBody s_Code___init__) (defScope s_Code___init__) .none kV13 dc13 pm13 an13 cd13 ct13, PySem.W.fnOf "logical" "Code.logical" (defArgs s_Code_logical) (defBody s_Code_logical) (defScope s_Code_logical) .none kV14 dc14 pm14 an14 cd14 ct14, PySem.W.fnOf "coset" "Code.coset" (defArgs s_Code_coset) (defBody s_Code_coset) (defScope s_Code_coset) .none kV15 dc15 pm15 an15 cd15 ct15, PySem.W.fnOf "least_logical" "Code.least_logical" (defArgs s_Code_least_logical) (defBody s_Code_least_logical) (defScope s_Code_least_logical) .none kV16 dc16 pm16 an16 cd16 ct16, PySem.W.fnOf "distance" "Code.distance" (defArgs s_Code_distance) (defBody s_Code_distance) (defScope s_Code_distance) .none kV17 dc17 pm17 an17 cd17 ct17, PySem.W.fnOf "code_text" "code_text" (defArgs s_code_text) (defBody s_code_text) (defScope s_code_text) .none kV18 dc18 pm18 an18 cd18 ct18, PySem.W.fnOf "text_pauli" "text_pauli" (defArgs s_text_pauli) (defBody s_text_pauli) (defScope s_text_pauli) .none kV19 dc19 pm19 an19 cd19 ct19, PySem.W.fnOf "read_code" "read_code" (defArgs s_read_code) (defBody s_read_code) (defScope s_read_code) .none kV20 dc20 pm20 an20 cd20 ct20, PySem.W.fnOf "around" "around" (defArgs s_around) (defBody s_around) (defScope s_around) .none kV21 dc21 pm21 an21 cd21 ct21, PySem.W.fnOf "known" "known" (defArgs s_known) (defBody s_known) (defScope s_known) .none kV22 dc22 pm22 an22 cd22 ct22, PySem.W.fnOf "_law_next" "_law_next" (defArgs s__law_next) (defBody s__law_next) (defScope s__law_next) .none kV23 dc23 pm23 an23 cd23 ct23, PySem.W.fnOf "_law_codes" "_law_codes" (defArgs s__law_codes) (defBody s__law_codes) (defScope s__law_codes) .none kV24 dc24 pm24 an24 cd24 ct24, PySem.W.fnOf "_law_masks" "_law_masks" (defArgs s__law_masks) (defBody s__law_masks) (defScope s__law_masks) .none kV25 dc25 pm25 an25 cd25 ct25, PySem.W.fnOf "_law_ones" "_law_ones" (defArgs s__law_ones) (defBody s__law_ones) (defScope s__law_ones) .none kV26 dc26 pm26 an26 cd26 ct26, PySem.W.fnOf "_law_times" "_law_times" (defArgs s__law_times) (defBody s__law_times) (defScope s__law_times) .none kV27 dc27 pm27 an27 cd27 ct27, PySem.W.fnOf "_law_changed" "_law_changed" (defArgs s__law_changed) (defBody s__law_changed) (defScope s__law_changed) .none kV28 dc28 pm28 an28 cd28 ct28, PySem.W.fnOf "_law_gate" "_law_gate" (defArgs s__law_gate) (defBody s__law_gate) (defScope s__law_gate) .none kV29 dc29 pm29 an29 cd29 ct29, PySem.W.fnOf "_law_word" "_law_word" (defArgs s__law_word) (defBody s__law_word) (defScope s__law_word) .none kV30 dc30 pm30 an30 cd30 ct30, PySem.W.fnOf "_law_text" "_law_text" (defArgs s__law_text) (defBody s__law_text) (defScope s__law_text) .none kV31 dc31 pm31 an31 cd31 ct31, PySem.W.fnOf "_law_read" "_law_read" (defArgs s__law_read) (defBody s__law_read) (defScope s__law_read) .none kV32 dc32 pm32 an32 cd32 ct32, PySem.W.fnOf "_law_spoilt" "_law_spoilt" (defArgs s__law_spoilt) (defBody s__law_spoilt) (defScope s__law_spoilt) .none kV33 dc33 pm33 an33 cd33 ct33, PySem.W.fnOf "law" "law" (defArgs s_law) (defBody s_law) (defScope s_law) .none kV34 dc34 pm34 an34 cd34 ct34] : List FuncData).getD i (PySem.W.fnOf "law" "law" (defArgs s_law) (defBody s_law) (defScope s_law) .none kV34 dc34 pm34 an34 cd34 ct34)) := ⟨PySem.W.mg_none_of X G z_len, PySem.W.mg_none_of X G z_abs, PySem.W.mg_none_of X G z_max, PySem.W.mg_none_of X G z_min, PySem.W.mg_none_of X G z_int, PySem.W.mg_none_of X G z_sum, PySem.W.mg_none_of X G z_all, PySem.W.mg_none_of X G z_tuple, PySem.W.mg_none_of X G z_list, PySem.W.mg_none_of X G z_isinstance, PySem.W.mg_none_of X G z_range, PySem.W.mg_none_of X G z_bool, PySem.W.mg_none_of X G z_str, ⟨.str "IXZY", _, PySem.W.mg_of X G aNAMES_paulis, ⟨_, rfl⟩, fun F => .str _⟩, ⟨.int 13, _, PySem.W.mg_of X G aMOST_QUBITS, ⟨_, rfl⟩, fun F => .int _⟩, ⟨.ref pNAMES_catalogue, _, PySem.W.mg_of X G aNAMES_catalogue, rfl, fun F => .tup (.inr ⟨_, _, _, lNAMES_catalogue, rfl, rfl, (by show (7 : Nat) ≤ sizeLine; decide), (.cons VL.rv_str (.cons VL.rv_str (.cons VL.rv_str (.cons VL.rv_str (.cons VL.rv_str (.cons VL.rv_str (.cons VL.rv_str .nil)))))))⟩) (.cons (.str _) (.cons (.str _) (.cons (.str _) (.cons (.str _) (.cons (.str _) (.cons (.str _) (.cons (.str _) .nil)))))))⟩, ⟨.int 13, _, PySem.W.mg_of X G aROUND, ⟨_, rfl⟩, fun F => .int _⟩, ⟨⟨pROWS, esROWS, nROWS, ⟨lROWS, kROWS, sROWS⟩, PySem.W.mg_of X G aROWS, (VL.tab_cons ⟨_, _, eROWS_0, VL.rv_ref, fun F => (.tup (.inr ⟨_, _, _, lROWS0_1, rfl, rfl, (by show (3 : Nat) ≤ sizeLine; decide), (.cons VL.rv_ref (.cons VL.rv_str (.cons VL.rv_str .nil)))⟩) (.cons (.tup (.inr ⟨_, _, _, lROWS0_2, rfl, rfl, (by show (0 : Nat) ≤ sizeLine; decide), .nil⟩) .nil) (.cons (.str _) (.cons (.str _) .nil))))⟩ (VL.tab_cons ⟨_, _, eROWS_1, VL.rv_ref, fun F => (.tup (.inr ⟨_, _, _, lROWS1_5, rfl, rfl, (by show (3 : Nat) ≤ sizeLine; decide), (.cons VL.rv_ref (.cons VL.rv_str (.cons VL.rv_str .nil)))⟩) (.cons (.tup (.inr ⟨_, _, _, lROWS1_6, rfl, rfl, (by show (2 : Nat) ≤ sizeLine; decide), (.cons VL.rv_str (.cons VL.rv_str .nil))⟩) (.cons (.str _) (.cons (.str _) .nil))) (.cons (.str _) (.cons (.str _) .nil))))⟩ (VL.tab_cons ⟨_, _, eROWS_2, VL.rv_ref, fun F => (.tup (.inr ⟨_, _, _, lROWS2_11, rfl, rfl, (by show (3 : Nat) ≤ sizeLine; decide), (.cons VL.rv_ref (.cons VL.rv_str (.cons VL.rv_str .nil)))⟩) (.cons (.tup (.inr ⟨_, _, _, lROWS2_12, rfl, rfl, (by show (3 : Nat) ≤ sizeLine; decide), (.cons VL.rv_str (.cons VL.rv_str (.cons VL.rv_str .nil)))⟩) (.cons (.str _) (.cons (.str _) (.cons (.str _) .nil)))) (.cons (.str _) (.cons (.str _) .nil))))⟩ (VL.tab_cons ⟨_, _, eROWS_3, VL.rv_ref, fun F => (.tup (.inr ⟨_, _, _, lROWS3_18, rfl, rfl, (by show (3 : Nat) ≤ sizeLine; decide), (.cons VL.rv_ref (.cons VL.rv_str (.cons VL.rv_str .nil)))⟩) (.cons (.tup (.inr ⟨_, _, _, lROWS3_19, rfl, rfl, (by show (4 : Nat) ≤ sizeLine; decide), (.cons VL.rv_str (.cons VL.rv_str (.cons VL.rv_str (.cons VL.rv_str .nil))))⟩) (.cons (.str _) (.cons (.str _) (.cons (.str _) (.cons (.str _) .nil))))) (.cons (.str _) (.cons (.str _) .nil))))⟩ (VL.tab_cons ⟨_, _, eROWS_4, VL.rv_ref, fun F => (.tup (.inr ⟨_, _, _, lROWS4_26, rfl, rfl, (by show (3 : Nat) ≤ sizeLine; decide), (.cons VL.rv_ref (.cons VL.rv_str (.cons VL.rv_str .nil)))⟩) (.cons (.tup (.inr ⟨_, _, _, lROWS4_27, rfl, rfl, (by show (6 : Nat) ≤ sizeLine; decide), (.cons VL.rv_str (.cons VL.rv_str (.cons VL.rv_str (.cons VL.rv_str (.cons VL.rv_str (.cons VL.rv_str .nil))))))⟩) (.cons (.str _) (.cons (.str _) (.cons (.str _) (.cons (.str _) (.cons (.str _) (.cons (.str _) .nil))))))) (.cons (.str _) (.cons (.str _) .nil))))⟩ (VL.tab_cons ⟨_, _, eROWS_5, VL.rv_ref, fun F => (.tup (.inr ⟨_, _, _, lROWS5_36, rfl, rfl, (by show (3 : Nat) ≤ sizeLine; decide), (.cons VL.rv_ref (.cons VL.rv_str (.cons VL.rv_str .nil)))⟩) (.cons (.tup (.inr ⟨_, _, _, lROWS5_37, rfl, rfl, (by show (8 : Nat) ≤ sizeLine; decide), (.cons VL.rv_str (.cons VL.rv_str (.cons VL.rv_str (.cons VL.rv_str (.cons VL.rv_str (.cons VL.rv_str (.cons VL.rv_str (.cons VL.rv_str .nil))))))))⟩) (.cons (.str _) (.cons (.str _) (.cons (.str _) (.cons (.str _) (.cons (.str _) (.cons (.str _) (.cons (.str _) (.cons (.str _) .nil))))))))) (.cons (.str _) (.cons (.str _) .nil))))⟩ VL.tab_nil))))))⟩⟩, ⟨PySem.W.mg_of X G aC_NotValid, xP_NotValid, kP_NotValid, bP_NotValid, tP_NotValid, VL.exm_self bP_NotValid iP_NotValid tP_NotValid sP_NotValid⟩, ⟨⟨pg_Code, hd_Code, po_Code, sa_Code⟩⟩, n_Code_generators, n_Code_n, n_Code_reps, n_Code_table, n_Code_x, n_Code_z, D0, D1, D2, D3, D4, D5, D6, D7, D8, D9, D10, D11, D12, D13, D14, D15, D16, D17, D18, D19, D20, D21, D22, D23, D24, D25, D26, D27, D28, D29, D30, D31, D32, D33, D34⟩
  exact ⟨PySem.W.fnOf "law" "law" (defArgs s_law) (defBody s_law) (defScope s_law) .none kV34 dc34 pm34 an34 cd34 ct34, fun s v => .of_eq rfl, fun base _ _ => ok_law T⟩
end K07
open PySem PySem.W PyProof.Rows
set_option maxHeartbeats 0 in
theorem PySem.Challenge.cw_mendedgates_k07_texts_of_codes_and_known_holds : PySem.Challenge.rw_mendedgates_k07_texts_of_codes_and_known.Holds := by
  w_on; o_law; k_head; (case hw => w_witness2)
  k_fill
  refine L2.walk_of (l := PySem.Challenge.rw_mendedgates_k07_texts_of_codes_and_known) (n := 63) (k := 7) (x := "script") (CX := fun _ => L2.CX0) (sp := fun w => VL.spOf _ 1 K07.sp_law) rfl (by decide) rfl ⟨rfl, by decide, by decide⟩ (fun w h Y => PySem.W.kIn_of Y) ?F (fun _ H a ns hl _ hS => VL.law_in hS ⟨ns, rfl, hl, fun _ => rfl⟩) (fun _ _ _ _ _ h => h)
  case F =>
    intro w mg fa h KX G hmg
    refine' K07.all_mk KX G hmg ?aC_Code ?pg_Code ?hd_Code ?po_Code ?sa_Code ?mk_Code ?kc_Code ?n_Code_generators ?n_Code_n ?n_Code_reps ?n_Code_table ?n_Code_x ?n_Code_z ?aC_NotValid ?xP_NotValid ?kP_NotValid ?bP_NotValid ?tP_NotValid ?iP_NotValid ?sP_NotValid ?a0 ?l0 ?c0 ?k0 ?a1 ?l1 ?c1 ?k1 ?a2 ?l2 ?c2 ?k2 ?a3 ?l3 ?c3 ?k3 ?a4 ?l4 ?c4 ?k4 ?a5 ?l5 ?c5 ?k5 ?a6 ?l6 ?c6 ?k6 ?a7 ?l7 ?c7 ?k7 ?a8 ?l8 ?c8 ?k8 ?a9 ?l9 ?c9 ?k9 ?a10 ?l10 ?c10 ?k10 ?a11 ?l11 ?c11 ?k11 ?a12 ?l12 ?c12 ?k12 ?a13 ?i13 ?l13 ?c13 ?k13 ?a14 ?i14 ?l14 ?c14 ?k14 ?a15 ?i15 ?l15 ?c15 ?k15 ?a16 ?i16 ?l16 ?c16 ?k16 ?a17 ?i17 ?l17 ?c17 ?k17 ?a18 ?l18 ?c18 ?k18 ?a19 ?l19 ?c19 ?k19 ?a20 ?l20 ?c20 ?k20 ?a21 ?l21 ?c21 ?k21 ?a22 ?l22 ?c22 ?k22 ?a23 ?l23 ?c23 ?k23 ?a24 ?l24 ?c24 ?k24 ?a25 ?l25 ?c25 ?k25 ?a26 ?l26 ?c26 ?k26 ?a27 ?l27 ?c27 ?k27 ?a28 ?l28 ?c28 ?k28 ?a29 ?l29 ?c29 ?k29 ?a30 ?l30 ?c30 ?k30 ?a31 ?l31 ?c31 ?k31 ?a32 ?l32 ?c32 ?k32 ?a33 ?l33 ?c33 ?k33 ?a34 ?l34 ?c34 ?k34 ?z_len ?z_abs ?z_max ?z_min ?z_int ?z_sum ?z_all ?z_tuple ?z_list ?z_isinstance ?z_range ?z_bool ?z_str ?aNAMES_paulis ?aMOST_QUBITS ?aNAMES_catalogue ?lNAMES_catalogue ?aROUND ?aROWS ?lROWS ?kROWS ?sROWS ?eROWS_0 ?lROWS0_1 ?lROWS0_2 ?eROWS_1 ?lROWS1_5 ?lROWS1_6 ?eROWS_2 ?lROWS2_11 ?lROWS2_12 ?eROWS_3 ?lROWS3_18 ?lROWS3_19 ?eROWS_4 ?lROWS4_26 ?lROWS4_27 ?eROWS_5 ?lROWS5_36 ?lROWS5_37
    (case aC_Code => k_is); (case pg_Code => k_is); (case hd_Code => k_is); (case po_Code => k_is); (case sa_Code => k_is); (case mk_Code => k_is)
    (case kc_Code => k_is); (case n_Code_generators => k_is); (case n_Code_n => k_is); (case n_Code_reps => k_is); (case n_Code_table => k_is); (case n_Code_x => k_is)
    (case n_Code_z => k_is); (case aC_NotValid => k_is); (case xP_NotValid => k_exc); (case kP_NotValid => k_is); (case bP_NotValid => k_is); (case tP_NotValid => k_is)
    (case iP_NotValid => k_is); (case sP_NotValid => first | rfl | k_is); (case a0 => k_is); (case l0 => k_is); (case c0 => k_is); (case k0 => k_is)
    (case a1 => k_is); (case l1 => k_is); (case c1 => k_is); (case k1 => k_is); (case a2 => k_is); (case l2 => k_is)
    (case c2 => k_is); (case k2 => k_is); (case a3 => k_is); (case l3 => k_is); (case c3 => k_is); (case k3 => k_is)
    (case a4 => k_is); (case l4 => k_is); (case c4 => k_is); (case k4 => k_is); (case a5 => k_is); (case l5 => k_is)
    (case c5 => k_is); (case k5 => k_is); (case a6 => k_is); (case l6 => k_is); (case c6 => k_is); (case k6 => k_is)
    (case a7 => k_is); (case l7 => k_is); (case c7 => k_is); (case k7 => k_is); (case a8 => k_is); (case l8 => k_is)
    (case c8 => k_is); (case k8 => k_is); (case a9 => k_is); (case l9 => k_is); (case c9 => k_is); (case k9 => k_is)
    (case a10 => k_is); (case l10 => k_is); (case c10 => k_is); (case k10 => k_is); (case a11 => k_is); (case l11 => k_is)
    (case c11 => k_is); (case k11 => k_is); (case a12 => k_is); (case l12 => k_is); (case c12 => k_is); (case k12 => k_is)
    (case a13 => k_is); (case i13 => k_is); (case l13 => k_is); (case c13 => k_is); (case k13 => k_is); (case a14 => k_is)
    (case i14 => k_is); (case l14 => k_is); (case c14 => k_is); (case k14 => k_is); (case a15 => k_is); (case i15 => k_is)
    (case l15 => k_is); (case c15 => k_is); (case k15 => k_is); (case a16 => k_is); (case i16 => k_is); (case l16 => k_is)
    (case c16 => k_is); (case k16 => k_is); (case a17 => k_is); (case i17 => k_is); (case l17 => k_is); (case c17 => k_is)
    (case k17 => k_is); (case a18 => k_is); (case l18 => k_is); (case c18 => k_is); (case k18 => k_is); (case a19 => k_is)
    (case l19 => k_is); (case c19 => k_is); (case k19 => k_is); (case a20 => k_is); (case l20 => k_is); (case c20 => k_is)
    (case k20 => k_is); (case a21 => k_is); (case l21 => k_is); (case c21 => k_is); (case k21 => k_is); (case a22 => k_is)
    (case l22 => k_is); (case c22 => k_is); (case k22 => k_is); (case a23 => k_is); (case l23 => k_is); (case c23 => k_is)
    (case k23 => k_is); (case a24 => k_is); (case l24 => k_is); (case c24 => k_is); (case k24 => k_is); (case a25 => k_is)
    (case l25 => k_is); (case c25 => k_is); (case k25 => k_is); (case a26 => k_is); (case l26 => k_is); (case c26 => k_is)
    (case k26 => k_is); (case a27 => k_is); (case l27 => k_is); (case c27 => k_is); (case k27 => k_is); (case a28 => k_is)
    (case l28 => k_is); (case c28 => k_is); (case k28 => k_is); (case a29 => k_is); (case l29 => k_is); (case c29 => k_is)
    (case k29 => k_is); (case a30 => k_is); (case l30 => k_is); (case c30 => k_is); (case k30 => k_is); (case a31 => k_is)
    (case l31 => k_is); (case c31 => k_is); (case k31 => k_is); (case a32 => k_is); (case l32 => k_is); (case c32 => k_is)
    (case k32 => k_is); (case a33 => k_is); (case l33 => k_is); (case c33 => k_is); (case k33 => k_is); (case a34 => k_is)
    (case l34 => k_is); (case c34 => k_is); (case k34 => k_is); (case z_len => k_is); (case z_abs => k_is); (case z_max => k_is)
    (case z_min => k_is); (case z_int => k_is); (case z_sum => k_is); (case z_all => k_is); (case z_tuple => k_is); (case z_list => k_is)
    (case z_isinstance => k_is); (case z_range => k_is); (case z_bool => k_is); (case z_str => k_is); (case aNAMES_paulis => k_is); (case aMOST_QUBITS => k_is)
    (case aNAMES_catalogue => k_is); (case lNAMES_catalogue => k_is); (case aROUND => k_is); (case aROWS => k_is); (case lROWS => k_is); (case kROWS => exact ⟨⟨_, _, rfl, rfl⟩, ⟨_, _, rfl, rfl⟩, ⟨_, _, rfl, rfl⟩, ⟨_, _, rfl, rfl⟩, ⟨_, _, rfl, rfl⟩, ⟨_, _, rfl, rfl⟩, trivial⟩)
    (case sROWS => first | rfl | decide); (case eROWS_0 => k_is); (case lROWS0_1 => k_is); (case lROWS0_2 => k_is); (case eROWS_1 => k_is); (case lROWS1_5 => k_is)
    (case lROWS1_6 => k_is); (case eROWS_2 => k_is); (case lROWS2_11 => k_is); (case lROWS2_12 => k_is); (case eROWS_3 => k_is); (case lROWS3_18 => k_is)
    (case lROWS3_19 => k_is); (case eROWS_4 => k_is); (case lROWS4_26 => k_is); (case lROWS4_27 => k_is); (case eROWS_5 => k_is); (case lROWS5_36 => k_is)
    (case lROWS5_37 => k_is)

